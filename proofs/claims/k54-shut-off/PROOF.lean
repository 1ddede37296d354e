import PyProof.Rows.All
import Wide.All
import OpenK.AllK
import Wide.FinOn
import HandS.ForMost
import HandS.ForExc
import HandS.TupLe
import HandS.EndBits
import HandS.Flow
import HandS.Deep
import HandS.IsInst
import HandS.SortOrd
import HandS.SortInts
import HandS.SortRule
import HandS.Rev
import HandS.Zip
import HandS.Style
import PySem.Challenge.RW_nearland_k54_shut_off
set_option Elab.async false
set_option linter.all false
set_option maxRecDepth 100000
set_option maxHeartbeats 4000000
set_option synthInstance.maxHeartbeats 0
set_option synthInstance.maxSize 100000
/-! Plain geometry of places: no program in sight. -/
namespace GM
def sg (x : Int) : Int := if 0 < x then 1 else if x < 0 then -1 else 0
abbrev twV (ax ay bx by_ cx cy : Int) : Int := (bx - ax) * (cy - ay) - (by_ - ay) * (cx - ax)
abbrev arV (ax ay bx by_ cx cy : Int) : Int := ax * (by_ - cy) + bx * (cy - ay) + cx * (ay - by_)
abbrev heV (ax ay dx dy : Int) : Int := (ax - dx) * (ax - dx) + (ay - dy) * (ay - dy)
abbrev boV (ax ay bx by_ cx cy dx dy : Int) : Int := heV ax ay dx dy * twV dx dy bx by_ cx cy + heV bx by_ dx dy * twV dx dy cx cy ax ay + heV cx cy dx dy * twV dx dy ax ay bx by_
abbrev riV (ax ay bx by_ cx cy dx dy : Int) : Int := sg (twV ax ay bx by_ cx cy) * sg (boV ax ay bx by_ cx cy dx dy)
def lxP (ax ay bx by_ : Int) : Prop := ax < bx ∨ ax = bx ∧ ay < by_
instance {a b c d : Int} : Decidable (lxP a b c d) := by unfold lxP; infer_instance
def spV (ax ay bx by_ cx cy dx dy : Int) : Bool := decide (
  if riV ax ay bx by_ cx cy dx dy ≠ 0 ∨ (ax = dx ∧ ay = dy) ∨ (bx = dx ∧ by_ = dy) ∨ (cx = dx ∧ cy = dy) then riV ax ay bx by_ cx cy dx dy = 1
  else if lxP dx dy ax ay ∧ lxP dx dy bx by_ ∧ lxP dx dy cx cy then True
  else if ¬ lxP bx by_ ax ay ∧ ¬ lxP cx cy ax ay then sg (twV bx by_ cx cy ax ay) * sg (twV bx by_ cx cy dx dy) < 0
  else if ¬ lxP ax ay bx by_ ∧ ¬ lxP cx cy bx by_ then sg (twV ax ay cx cy bx by_) * sg (twV ax ay cx cy dx dy) < 0
  else sg (twV ax ay bx by_ cx cy) * sg (twV ax ay bx by_ dx dy) < 0)
theorem sg_zero {x : Int} : sg x = 0 ↔ x = 0 := by unfold sg; constructor <;> intro h <;> (try split at h) <;> (try split at h) <;> first | omega | (subst h; rfl)
theorem sg_neg (x : Int) : sg (-x) = -sg x := by
  unfold sg
  rcases Int.lt_trichotomy x 0 with z | z | z
  · rw [if_pos (by omega), if_neg (by omega), if_pos z]; rfl
  · rw [z]; rfl
  · rw [if_neg (by omega), if_pos (by omega), if_pos z]
end GM

/-! Who spoils whom: a telling that is alike in all orders; heights that tell it. -/
namespace GM
abbrev Pt := Int × Int
abbrev tw (a b c : Pt) : Int := twV a.1 a.2 b.1 b.2 c.1 c.2
abbrev he (a d : Pt) : Int := heV a.1 a.2 d.1 d.2
abbrev bo (a b c d : Pt) : Int := boV a.1 a.2 b.1 b.2 c.1 c.2 d.1 d.2
abbrev ri (a b c d : Pt) : Int := riV a.1 a.2 b.1 b.2 c.1 c.2 d.1 d.2
abbrev lx (a b : Pt) : Prop := lxP a.1 a.2 b.1 b.2
abbrev sp (a b c d : Pt) : Bool := spV a.1 a.2 b.1 b.2 c.1 c.2 d.1 d.2
theorem pt_eq {a b : Pt} : a = b ↔ a.1 = b.1 ∧ a.2 = b.2 := Prod.ext_iff
theorem lx_irr {a : Pt} : ¬ lx a a := by unfold lx lxP; omega
theorem lx_tr {a b c : Pt} (h : lx a b) (h2 : lx b c) : lx a c := by unfold lx lxP at *; omega
theorem lx_as {a b : Pt} (h : lx a b) : ¬ lx b a := by unfold lx lxP at *; omega
theorem lx_or {a b : Pt} (h : a ≠ b) : lx a b ∨ lx b a := by
  have : ¬ (a.1 = b.1 ∧ a.2 = b.2) := fun z => h (pt_eq.mpr z)
  unfold lx lxP; omega
theorem lx_ne {a b : Pt} (h : lx a b) : a ≠ b := fun e => lx_irr (e ▸ h)
theorem nlx {a b : Pt} : ¬ lx a b ↔ a = b ∨ lx b a := by
  constructor
  · intro h
    by_cases e : a = b
    · exact .inl e
    · rcases lx_or e with z | z
      · exact absurd z h
      · exact .inr z
  · rintro (rfl | z)
    · exact lx_irr
    · exact lx_as z
theorem sg_pos {x : Int} (h : 0 < x) : sg x = 1 := by unfold sg; rw [if_pos h]
theorem sg_lt {x : Int} (h : x < 0) : sg x = -1 := by unfold sg; rw [if_neg (by omega), if_pos h]
theorem sg_cases (x : Int) : (0 < x ∧ sg x = 1) ∨ (x = 0 ∧ sg x = 0) ∨ (x < 0 ∧ sg x = -1) := by
  rcases Int.lt_trichotomy x 0 with z | z | z
  · exact .inr (.inr ⟨z, sg_lt z⟩)
  · exact .inr (.inl ⟨z, by rw [z]; rfl⟩)
  · exact .inl ⟨z, sg_pos z⟩
theorem sg_iff {x y : Int} : sg x * sg y < 0 ↔ (0 < x ∧ y < 0) ∨ (x < 0 ∧ 0 < y) := by
  rcases sg_cases x with ⟨h, e⟩ | ⟨h, e⟩ | ⟨h, e⟩ <;> rcases sg_cases y with ⟨k, f⟩ | ⟨k, f⟩ | ⟨k, f⟩ <;> rw [e, f] <;> omega
theorem sg_mul (x y : Int) : sg (x * y) = sg x * sg y := by
  rcases Int.lt_trichotomy x 0 with a | a | a
  · rcases Int.lt_trichotomy y 0 with b | b | b
    · rw [sg_pos (Int.mul_pos_of_neg_of_neg a b), sg_lt a, sg_lt b]; rfl
    · rw [b, Int.mul_zero, show sg 0 = 0 from rfl, Int.mul_zero]
    · rw [sg_lt (Int.mul_neg_of_neg_of_pos a b), sg_lt a, sg_pos b]; rfl
  · rw [a, Int.zero_mul, show sg 0 = 0 from rfl, Int.zero_mul]
  · rcases Int.lt_trichotomy y 0 with b | b | b
    · rw [sg_lt (Int.mul_neg_of_pos_of_neg a b), sg_pos a, sg_lt b]; rfl
    · rw [b, Int.mul_zero, show sg 0 = 0 from rfl, Int.mul_zero]
    · rw [sg_pos (Int.mul_pos a b), sg_pos a, sg_pos b]; rfl
theorem ri_iff {a b c d : Pt} : (ri a b c d = 1 ↔ 0 < tw a b c * bo a b c d) ∧ (ri a b c d = 0 ↔ tw a b c * bo a b c d = 0) ∧ (ri a b c d = -1 ↔ tw a b c * bo a b c d < 0) := by
  have e : ri a b c d = sg (tw a b c * bo a b c d) := (sg_mul _ _).symm
  rw [e]
  rcases sg_cases (tw a b c * bo a b c d) with ⟨h, e⟩ | ⟨h, e⟩ | ⟨h, e⟩ <;> rw [e] <;> omega
theorem tw_rot (a b c : Pt) : tw b c a = tw a b c := by unfold tw twV; grind
theorem tw_rot' (a b c : Pt) : tw c a b = tw a b c := by unfold tw twV; grind
theorem tw_sw (a b c : Pt) : tw b a c = -tw a b c := by unfold tw twV; grind
theorem tw_sw' (a b c : Pt) : tw a c b = -tw a b c := by unfold tw twV; grind
theorem tw_sw2 (a b c : Pt) : tw c b a = -tw a b c := by unfold tw twV; grind
theorem tw_aa (a b : Pt) : tw a a b = 0 := by unfold tw twV; grind
theorem tw_abb (a b : Pt) : tw a b b = 0 := by unfold tw twV; grind
theorem tw_aba (a b : Pt) : tw a b a = 0 := by unfold tw twV; grind
theorem tw_four (a b c d : Pt) : tw a b c = tw d b c + tw a d c + tw a b d := by unfold tw twV; grind
theorem bo_rot (a b c d : Pt) : bo b c a d = bo a b c d := by unfold bo boV heV twV; grind
theorem bo_sw (a b c d : Pt) : bo b a c d = -bo a b c d := by unfold bo boV heV twV; grind
theorem bo_sw' (a b c d : Pt) : bo a b d c = -bo a b c d := by unfold bo boV heV twV; grind
theorem ne_of_tw {a b c : Pt} (h : tw a b c ≠ 0) : a ≠ b ∧ a ≠ c ∧ b ≠ c :=
  ⟨fun e => h (by rw [e]; exact tw_aa _ _), fun e => h (by rw [e]; exact tw_aba _ _), fun e => h (by rw [e]; exact tw_abb _ _)⟩
/-- d and the least of the others on unlike sides, or d is the least -/
def tie (a b c d : Pt) : Prop := (lx d a ∧ lx d b ∧ lx d c) ∨ (lx a b ∧ lx a c ∧ lx a d ∧ sg (tw b c a) * sg (tw b c d) < 0) ∨ (lx b a ∧ lx b c ∧ lx b d ∧ sg (tw a c b) * sg (tw a c d) < 0) ∨ (lx c a ∧ lx c b ∧ lx c d ∧ sg (tw a b c) * sg (tw a b d) < 0)
def spP (a b c d : Pt) : Prop := 0 < tw a b c * bo a b c d ∨ (bo a b c d = 0 ∧ d ≠ a ∧ d ≠ b ∧ d ≠ c ∧ tie a b c d)
theorem sp_char {a b c d : Pt} (h : tw a b c ≠ 0) : sp a b c d = true ↔ spP a b c d := by
  obtain ⟨nab, nac, nbc⟩ := ne_of_tw h
  obtain ⟨r1, r0, r2⟩ := ri_iff (a := a) (b := b) (c := c) (d := d)
  have rz : ri a b c d = 0 ↔ bo a b c d = 0 := r0.trans ⟨fun z => by rcases Int.mul_eq_zero.mp z with y | y; exact absurd y h; exact y, fun z => by rw [z]; exact Int.mul_zero _⟩
  show decide _ = true ↔ _
  rw [decide_eq_true_iff]
  unfold spP
  by_cases c0 : bo a b c d = 0
  · have z1 : ¬ 0 < tw a b c * bo a b c d := by rw [c0, Int.mul_zero]; decide
    have rn : ri a b c d = 0 := rz.mpr c0
    by_cases cd : d ≠ a ∧ d ≠ b ∧ d ≠ c
    · obtain ⟨da, db, dc⟩ := cd
      rw [if_neg (by
        rintro (z | z | z | z)
        · exact z rn
        · exact da (pt_eq.mpr ⟨z.1.symm, z.2.symm⟩)
        · exact db (pt_eq.mpr ⟨z.1.symm, z.2.symm⟩)
        · exact dc (pt_eq.mpr ⟨z.1.symm, z.2.symm⟩))]
      have lo : ∀ {x y : Pt}, ¬ lx x y → x ≠ y → lx y x := fun hn hne => (nlx.mp hn).resolve_left hne
      by_cases c1 : lx d a ∧ lx d b ∧ lx d c
      · rw [if_pos c1]
        exact ⟨fun _ => .inr ⟨c0, da, db, dc, .inl c1⟩, fun _ => trivial⟩
      · rw [if_neg c1]
        by_cases c2 : ¬ lx b a ∧ ¬ lx c a
        · rw [if_pos c2]
          have ab := lo c2.1 nab.symm
          have ac := lo c2.2 nac.symm
          have ad : lx a d := lo (fun z => c1 ⟨z, lx_tr z ab, lx_tr z ac⟩) da
          constructor
          · exact fun z => .inr ⟨c0, da, db, dc, .inr (.inl ⟨ab, ac, ad, z⟩)⟩
          · rintro (z | ⟨_, _, _, _, z | z | z | z⟩)
            · exact absurd z z1
            · exact absurd z c1
            · exact z.2.2.2
            · exact absurd z.1 c2.1
            · exact absurd z.1 c2.2
        · rw [if_neg c2]
          by_cases c3 : ¬ lx a b ∧ ¬ lx c b
          · rw [if_pos c3]
            have ba := lo c3.1 nab
            have bc := lo c3.2 nbc.symm
            have bd : lx b d := lo (fun z => c1 ⟨lx_tr z ba, z, lx_tr z bc⟩) db
            constructor
            · exact fun z => .inr ⟨c0, da, db, dc, .inr (.inr (.inl ⟨ba, bc, bd, z⟩))⟩
            · rintro (z | ⟨_, _, _, _, z | z | z | z⟩)
              · exact absurd z z1
              · exact absurd z c1
              · exact absurd z.1 c3.1
              · exact z.2.2.2
              · exact absurd z.2.1 c3.2
          · rw [if_neg c3]
            have ca : lx c a ∧ lx c b := by
              rcases lx_or nab with z | z
              · have y : lx c a := Decidable.byContradiction fun y => c2 ⟨lx_as z, y⟩
                exact ⟨y, lx_tr y z⟩
              · have y : lx c b := Decidable.byContradiction fun y => c3 ⟨lx_as z, y⟩
                exact ⟨lx_tr y z, y⟩
            have cd : lx c d := lo (fun z => c1 ⟨lx_tr z ca.1, lx_tr z ca.2, z⟩) dc
            constructor
            · exact fun z => .inr ⟨c0, da, db, dc, .inr (.inr (.inr ⟨ca.1, ca.2, cd, z⟩))⟩
            · rintro (z | ⟨_, _, _, _, z | z | z | z⟩)
              · exact absurd z z1
              · exact absurd z c1
              · exact absurd z.2.1 (lx_as ca.1)
              · exact absurd z.2.1 (lx_as ca.2)
              · exact z.2.2.2
    · rw [if_pos (by
        by_cases e1 : d = a
        · subst e1; exact .inr (.inl ⟨rfl, rfl⟩)
        · by_cases e2 : d = b
          · subst e2; exact .inr (.inr (.inl ⟨rfl, rfl⟩))
          · by_cases e3 : d = c
            · subst e3; exact .inr (.inr (.inr ⟨rfl, rfl⟩))
            · exact absurd ⟨e1, e2, e3⟩ cd)]
      constructor
      · intro z; rw [show riV a.1 a.2 b.1 b.2 c.1 c.2 d.1 d.2 = 0 from rn] at z; omega
      · rintro (z | ⟨_, z1, z2, z3, _⟩)
        · exact absurd z z1
        · exact absurd ⟨z1, z2, z3⟩ cd
  · have rn : ri a b c d ≠ 0 := fun z => c0 (rz.mp z)
    rw [if_pos (.inl rn)]
    constructor
    · exact fun z => .inl (r1.mp z)
    · rintro (z | ⟨z, _⟩)
      · exact r1.mpr z
      · exact absurd z c0
theorem tie_rot {a b c d : Pt} : tie b c a d ↔ tie a b c d := by
  unfold tie
  rw [tw_rot a b c, tw_rot b c a, tw_rot a b c, show tw b a c = -tw a b c from tw_sw a b c, show tw b a d = -tw a b d from tw_sw a b d, show tw a c b = -tw a b c from tw_sw' a b c, show tw c a d = -tw a c d from tw_sw a c d, sg_neg, sg_neg, sg_neg, Int.neg_mul_neg, Int.mul_neg, Int.neg_mul]
  constructor
  · rintro (⟨h1, h2, h3⟩ | ⟨h1, h2, h3, h4⟩ | ⟨h1, h2, h3, h4⟩ | ⟨h1, h2, h3, h4⟩)
    · exact .inl ⟨h3, h1, h2⟩
    · exact .inr (.inr (.inl ⟨h2, h1, h3, h4⟩))
    · exact .inr (.inr (.inr ⟨h2, h1, h3, h4⟩))
    · exact .inr (.inl ⟨h1, h2, h3, h4⟩)
  · rintro (⟨h1, h2, h3⟩ | ⟨h1, h2, h3, h4⟩ | ⟨h1, h2, h3, h4⟩ | ⟨h1, h2, h3, h4⟩)
    · exact .inl ⟨h2, h3, h1⟩
    · exact .inr (.inr (.inr ⟨h1, h2, h3, h4⟩))
    · exact .inr (.inl ⟨h2, h1, h3, h4⟩)
    · exact .inr (.inr (.inl ⟨h2, h1, h3, h4⟩))
theorem tie_sw {a b c d : Pt} : tie b a c d ↔ tie a b c d := by
  unfold tie
  rw [show tw b a c = -tw a b c from tw_sw a b c, show tw b a d = -tw a b d from tw_sw a b d, sg_neg, sg_neg, Int.neg_mul_neg]
  constructor
  · rintro (⟨h1, h2, h3⟩ | ⟨h1, h2, h3, h4⟩ | ⟨h1, h2, h3, h4⟩ | ⟨h1, h2, h3, h4⟩)
    · exact .inl ⟨h2, h1, h3⟩
    · exact .inr (.inr (.inl ⟨h1, h2, h3, h4⟩))
    · exact .inr (.inl ⟨h1, h2, h3, h4⟩)
    · exact .inr (.inr (.inr ⟨h2, h1, h3, h4⟩))
  · rintro (⟨h1, h2, h3⟩ | ⟨h1, h2, h3, h4⟩ | ⟨h1, h2, h3, h4⟩ | ⟨h1, h2, h3, h4⟩)
    · exact .inl ⟨h2, h1, h3⟩
    · exact .inr (.inr (.inl ⟨h1, h2, h3, h4⟩))
    · exact .inr (.inl ⟨h1, h2, h3, h4⟩)
    · exact .inr (.inr (.inr ⟨h2, h1, h3, h4⟩))
theorem spP_rot {a b c d : Pt} : spP b c a d ↔ spP a b c d := by
  unfold spP
  rw [tw_rot, bo_rot, tie_rot]
  constructor
  · rintro (h | ⟨h0, h1, h2, h3, h4⟩)
    · exact .inl h
    · exact .inr ⟨h0, h3, h1, h2, h4⟩
  · rintro (h | ⟨h0, h1, h2, h3, h4⟩)
    · exact .inl h
    · exact .inr ⟨h0, h2, h3, h1, h4⟩
theorem spP_sw {a b c d : Pt} : spP b a c d ↔ spP a b c d := by
  unfold spP
  rw [tw_sw, bo_sw, tie_sw, Int.neg_mul_neg, Int.neg_eq_zero]
  constructor
  · rintro (h | ⟨h0, h1, h2, h3, h4⟩)
    · exact .inl h
    · exact .inr ⟨h0, h2, h1, h3, h4⟩
  · rintro (h | ⟨h0, h1, h2, h3, h4⟩)
    · exact .inl h
    · exact .inr ⟨h0, h2, h1, h3, h4⟩
theorem bool_iff {x y : Bool} {p q : Prop} (h1 : x = true ↔ p) (h2 : y = true ↔ q) (h : p ↔ q) : x = y := by
  cases x <;> cases y <;> simp_all
theorem sp_rot {a b c d : Pt} (h : tw a b c ≠ 0) : sp b c a d = sp a b c d := bool_iff (sp_char (by rw [tw_rot]; exact h)) (sp_char h) spP_rot
theorem sp_sw {a b c d : Pt} (h : tw a b c ≠ 0) : sp b a c d = sp a b c d := bool_iff (sp_char (by rw [tw_sw]; omega)) (sp_char h) spP_sw
theorem sp_sw' {a b c d : Pt} (h : tw a b c ≠ 0) : sp a c b d = sp a b c d := by
  rw [← sp_rot (a := a) (b := c) (c := b) (by rw [tw_sw']; omega), sp_sw (a := b) (b := c) (c := a) (by rw [tw_rot]; exact h), sp_rot h]
theorem sp_self {a b c d : Pt} (h : tw a b c ≠ 0) (hd : d = a ∨ d = b ∨ d = c) : sp a b c d = false := by
  have := sp_char (d := d) h
  cases e : sp a b c d with
  | false => rfl
  | true =>
    exfalso
    rcases this.mp e with z | ⟨_, h1, h2, h3, _⟩
    · have : bo a b c d = 0 := by
        rcases hd with rfl | rfl | rfl
        · unfold bo boV heV twV; grind
        · unfold bo boV heV twV; grind
        · unfold bo boV heV twV; grind
      rw [this, Int.mul_zero] at z; omega
    · rcases hd with e | e | e
      · exact h1 e
      · exact h2 e
      · exact h3 e
theorem sq_nn (a : Int) : 0 ≤ a * a := by
  rcases Int.lt_trichotomy a 0 with z | z | z
  · exact Int.le_of_lt (Int.mul_pos_of_neg_of_neg z z)
  · rw [z]; decide
  · exact Int.le_of_lt (Int.mul_pos z z)
theorem sq_p {a : Int} (h : a ≠ 0) : 0 < a * a := by
  rcases Int.lt_trichotomy a 0 with z | z | z
  · exact Int.mul_pos_of_neg_of_neg z z
  · exact absurd z h
  · exact Int.mul_pos z z
theorem he_pos {a b : Pt} (h : a ≠ b) : 0 < he a b := by
  show 0 < (a.1 - b.1) * (a.1 - b.1) + (a.2 - b.2) * (a.2 - b.2)
  have h1 := sq_nn (a.1 - b.1)
  have h2 := sq_nn (a.2 - b.2)
  by_cases e : a.1 = b.1
  · have := sq_p (show a.2 - b.2 ≠ 0 by intro z; exact h (pt_eq.mpr ⟨e, by omega⟩))
    omega
  · have := sq_p (show a.1 - b.1 ≠ 0 by omega)
    omega
theorem he_comm (a b : Pt) : he a b = he b a := by unfold he heV; grind
theorem line1 (a b c d : Pt) : (d.1 - b.1) * tw a b c = tw d a b * (c.1 - b.1) + tw d b c * (a.1 - b.1) := by unfold tw twV; grind
theorem line2 (a b c d : Pt) : (d.2 - b.2) * tw a b c = tw d a b * (c.2 - b.2) + tw d b c * (a.2 - b.2) := by unfold tw twV; grind
theorem sq_mul {x y t : Int} (h : x * t = y) : x * x * (t * t) = y * y := by rw [← h, Int.mul_assoc, Int.mul_assoc]; congr 1; rw [← Int.mul_assoc, Int.mul_comm t (x * t)]
theorem on_line {a b c d : Pt} (hl : tw d b c = 0) : he b d * (tw a b c * tw a b c) = tw d a b * tw d a b * he b c := by
  have z1 := line1 a b c d
  have z2 := line2 a b c d
  rw [hl, Int.zero_mul, Int.add_zero] at z1 z2
  have y1 := sq_mul z1
  have y2 := sq_mul z2
  show ((b.1 - d.1) * (b.1 - d.1) + (b.2 - d.2) * (b.2 - d.2)) * (tw a b c * tw a b c) = tw d a b * tw d a b * ((b.1 - c.1) * (b.1 - c.1) + (b.2 - c.2) * (b.2 - c.2))
  generalize tw a b c = t at *
  generalize tw d a b = u at *
  clear z1 z2 hl
  have e1 : ∀ x y : Int, (x - y) * (x - y) = (y - x) * (y - x) := fun x y => by grind
  rw [e1 b.1, e1 b.2, Int.add_mul, y1, y2, e1 b.1, e1 b.2]
  clear y1 y2
  grind
theorem ring_line (L s t : Int) : L * (s * t) * (s + t) * (s + t) = (t * t * L * s + s * s * L * t) * (s + t) := by grind
theorem at_end {a b c d : Pt} (h : tw a b c ≠ 0) (hl : tw d b c = 0) (e : tw d a b = 0) : d = b := by
  have z1 := line1 a b c d
  have z2 := line2 a b c d
  rw [hl, e, Int.zero_mul, Int.zero_mul] at z1 z2
  rcases Int.mul_eq_zero.mp z1 with y1 | y1
  · rcases Int.mul_eq_zero.mp z2 with y2 | y2
    · exact pt_eq.mpr ⟨by omega, by omega⟩
    · exact absurd y2 h
  · exact absurd y1 h
/-- on a line with b, c and on the ring: an end -/
theorem on_ring {a b c d : Pt} (h : tw a b c ≠ 0) (h0 : bo a b c d = 0) (hl : tw d b c = 0) : d = b ∨ d = c := by
  obtain ⟨nab, nac, nbc⟩ := ne_of_tw h
  have q1 := on_line (a := a) hl
  have q2 : he c d * (tw a b c * tw a b c) = tw d c a * tw d c a * he b c := by
    have q := on_line (a := a) (b := c) (c := b) (d := d) (by rw [tw_sw']; omega)
    rw [tw_sw', Int.neg_mul_neg, he_comm c b] at q
    rw [q, show tw d a c = -tw d c a from tw_sw' d c a, Int.neg_mul_neg]
  have q4 : tw a b c = tw d c a + tw d a b := by
    have := tw_four a b c d
    rw [hl] at this
    have e : tw a d c = tw d c a := (tw_rot a d c).symm
    have e2 : tw a b d = tw d a b := (tw_rot' a b d).symm
    omega
  have q3 : he b d * tw d c a + he c d * tw d a b = 0 := by
    have : bo a b c d = he a d * tw d b c + he b d * tw d c a + he c d * tw d a b := rfl
    rw [h0, hl, Int.mul_zero, Int.zero_add] at this
    exact this.symm
  have e1 : he b c * (tw d c a * tw d a b) * tw a b c = 0 := by
    have : (he b d * tw d c a + he c d * tw d a b) * (tw a b c * tw a b c) = (he b d * (tw a b c * tw a b c)) * tw d c a + (he c d * (tw a b c * tw a b c)) * tw d a b := by
      generalize he b d = x; generalize he c d = y; generalize tw d c a = s; generalize tw d a b = t; generalize tw a b c = u; clear q1 q2 q3 q4; grind
    rw [q3, q1, q2, Int.zero_mul] at this
    rw [q4]
    generalize he b c = L at *; generalize tw d c a = s at *; generalize tw d a b = t at *
    clear q1 q2 q3 q4 h h0 hl
    grind
  have hb := he_pos nbc
  rcases Int.mul_eq_zero.mp e1 with e1 | e1
  · rcases Int.mul_eq_zero.mp e1 with e1 | e1
    · omega
    · rcases Int.mul_eq_zero.mp e1 with e | e
      · exact .inr (at_end (a := a) (b := c) (c := b) (by rw [tw_sw']; omega) (by rw [tw_sw']; omega) (by rw [tw_sw']; omega))
      · exact .inl (at_end h hl e)
  · exact absurd e1 h
end GM

/-! Heights that tell who spoils whom, ties and all. -/
namespace GM
/-- how far d stands over the plane of a, b, c (times the area), heights by h -/
def pw (h : Pt → Int) (a b c d : Pt) : Int := h d * tw a b c - (h a * tw d b c + h b * tw a d c + h c * tw a b d)
def nm (x : Pt) : Int := x.1 * x.1 + x.2 * x.2
theorem boV_nm (ax ay bx by_ cx cy dx dy : Int) : boV ax ay bx by_ cx cy dx dy = (ax * ax + ay * ay) * twV dx dy bx by_ cx cy + (bx * bx + by_ * by_) * twV ax ay dx dy cx cy + (cx * cx + cy * cy) * twV ax ay bx by_ dx dy - (dx * dx + dy * dy) * twV ax ay bx by_ cx cy := by unfold boV heV twV; grind
theorem pw_nm (a b c d : Pt) : pw nm a b c d = -bo a b c d := by
  have := boV_nm a.1 a.2 b.1 b.2 c.1 c.2 d.1 d.2
  show nm d * tw a b c - (nm a * tw d b c + nm b * tw a d c + nm c * tw a b d) = -bo a b c d
  rw [show bo a b c d = nm a * tw d b c + nm b * tw a d c + nm c * tw a b d - nm d * tw a b c from this]
  omega
theorem pw_lin (N : Int) (u v : Pt → Int) (a b c d : Pt) : pw (fun x => N * u x - v x) a b c d = N * pw u a b c d - pw v a b c d := by
  unfold pw
  generalize tw a b c = T; generalize tw d b c = A; generalize tw a d c = B; generalize tw a b d = C
  grind
/-! the largest of a few -/
theorem bound {α : Type} (f : α → Int) : ∀ xs : List α, ∃ B : Int, 1 ≤ B ∧ ∀ x ∈ xs, f x ≤ B
  | [] => ⟨1, by omega, fun x h => by cases h⟩
  | x :: xs => by
    obtain ⟨B, h1, h2⟩ := bound f xs
    refine ⟨B + (if 0 ≤ f x then f x else 0), by split <;> omega, fun y hy => ?_⟩
    rcases List.mem_cons.mp hy with rfl | hy
    · split <;> omega
    · have := h2 y hy
      split <;> omega
theorem bound_tw (P : List Pt) : ∃ C : Int, 1 ≤ C ∧ ∀ a ∈ P, ∀ b ∈ P, ∀ c ∈ P, -C ≤ tw a b c ∧ tw a b c ≤ C := by
  obtain ⟨B, h1, h2⟩ := bound (fun t : Pt × Pt × Pt => (tw t.1 t.2.1 t.2.2).natAbs) (P.flatMap fun a => P.flatMap fun b => P.map fun c => (a, b, c))
  refine ⟨B, h1, fun a ha b hb c hc => ?_⟩
  have := h2 (a, b, c) (List.mem_flatMap.mpr ⟨a, ha, List.mem_flatMap.mpr ⟨b, hb, List.mem_map.mpr ⟨c, hc, rfl⟩⟩⟩)
  have : ((tw a b c).natAbs : Int) ≤ B := this
  omega
/-! weights: the lesser, the heavier by far -/
def later (P : List Pt) (x : Pt) : Nat := P.countP fun y => decide (lx x y)
theorem later_lt {P : List Pt} {x y : Pt} (h : lx x y) (hy : y ∈ P) : later P y < later P x := by
  unfold later
  induction P with
  | nil => cases hy
  | cons z P ih =>
    have mono : P.countP (fun z => decide (lx y z)) ≤ P.countP (fun z => decide (lx x z)) := List.countP_mono_left fun z _ hz => by
      have : lx y z := by simpa using hz
      simpa using lx_tr h this
    rw [List.countP_cons, List.countP_cons]
    rcases List.mem_cons.mp hy with rfl | hy
    · rw [if_neg (by simpa using lx_irr), if_pos (by simpa using h)]
      omega
    · have := ih hy
      by_cases hz : lx y z
      · rw [if_pos (by simpa using hz), if_pos (by simpa using lx_tr h hz)]; omega
      · rw [if_neg (by simpa using hz)]; split <;> omega
def wt (M : Int) (P : List Pt) (x : Pt) : Int := M ^ later P x
theorem wt_pos {M : Int} (h : 1 ≤ M) (P : List Pt) (x : Pt) : 1 ≤ wt M P x := by
  unfold wt
  have : 0 < M ^ later P x := Int.pow_pos (by omega)
  omega
theorem wt_lt {M : Int} (h : 1 ≤ M) {P : List Pt} {x y : Pt} (hl : lx x y) (hy : y ∈ P) : M * wt M P y ≤ wt M P x := by
  unfold wt
  have l := later_lt hl hy
  obtain ⟨k, hk⟩ : ∃ k, later P x = later P y + 1 + k := ⟨later P x - (later P y + 1), by omega⟩
  rw [hk, Int.pow_add, Int.pow_succ, Int.mul_comm M]
  have p : 0 < M ^ k := Int.pow_pos (by omega)
  have q : 0 < M ^ later P y := Int.pow_pos (by omega)
  have r := Int.mul_pos q (show 0 < M by omega)
  calc M ^ later P y * M = M ^ later P y * M * 1 := (Int.mul_one _).symm
    _ ≤ M ^ later P y * M * M ^ k := Int.mul_le_mul_of_nonneg_left (by omega) (Int.le_of_lt r)
/-- the heaviest decides -/
theorem dom {C wl s1 s2 s3 t t1 t2 t3 : Int} (hC : 1 ≤ C) (hw : 1 ≤ wl) (p1 : 0 ≤ s1) (p2 : 0 ≤ s2) (p3 : 0 ≤ s3) (m1 : (3 * C + 1) * s1 ≤ wl) (m2 : (3 * C + 1) * s2 ≤ wl) (m3 : (3 * C + 1) * s3 ≤ wl)
    (b1 : -C ≤ t1 ∧ t1 ≤ C) (b2 : -C ≤ t2 ∧ t2 ≤ C) (b3 : -C ≤ t3 ∧ t3 ≤ C) : (0 < t → 0 < wl * t + (s1 * t1 + s2 * t2 + s3 * t3)) ∧ (t < 0 → wl * t + (s1 * t1 + s2 * t2 + s3 * t3) < 0) := by
  have key : ∀ {s t' : Int}, 0 ≤ s → (3 * C + 1) * s ≤ wl → -C ≤ t' ∧ t' ≤ C → -(C * wl) ≤ (3 * C + 1) * (s * t') ∧ (3 * C + 1) * (s * t') ≤ C * wl := by
    intro s t' hs hm ht
    have h1 : s * -C ≤ s * t' := Int.mul_le_mul_of_nonneg_left ht.1 hs
    have h2 : s * t' ≤ s * C := Int.mul_le_mul_of_nonneg_left ht.2 hs
    have h3 : C * ((3 * C + 1) * s) ≤ C * wl := Int.mul_le_mul_of_nonneg_left hm (by omega)
    have h4 : (3 * C + 1) * (s * -C) ≤ (3 * C + 1) * (s * t') := Int.mul_le_mul_of_nonneg_left h1 (by omega)
    have h5 : (3 * C + 1) * (s * t') ≤ (3 * C + 1) * (s * C) := Int.mul_le_mul_of_nonneg_left h2 (by omega)
    have e1 : (3 * C + 1) * (s * C) = C * ((3 * C + 1) * s) := by rw [Int.mul_comm s C, Int.mul_left_comm]
    have e2 : (3 * C + 1) * (s * -C) = -(C * ((3 * C + 1) * s)) := by rw [Int.mul_neg, Int.mul_neg, e1]
    omega
  obtain ⟨k1, k1'⟩ := key p1 m1 b1
  obtain ⟨k2, k2'⟩ := key p2 m2 b2
  obtain ⟨k3, k3'⟩ := key p3 m3 b3
  have e : (3 * C + 1) * (wl * t + (s1 * t1 + s2 * t2 + s3 * t3)) = (3 * C + 1) * (wl * t) + ((3 * C + 1) * (s1 * t1) + (3 * C + 1) * (s2 * t2) + (3 * C + 1) * (s3 * t3)) := by
    rw [Int.mul_add, Int.mul_add, Int.mul_add]
  have ex : (3 * C + 1) * wl = 3 * (C * wl) + wl := by rw [Int.add_mul, Int.mul_assoc, Int.one_mul]
  generalize wl * t + (s1 * t1 + s2 * t2 + s3 * t3) = X at *
  generalize (3 * C + 1) * (s1 * t1) = Y1 at *
  generalize (3 * C + 1) * (s2 * t2) = Y2 at *
  generalize (3 * C + 1) * (s3 * t3) = Y3 at *
  constructor
  · intro ht
    have h : (3 * C + 1) * wl ≤ (3 * C + 1) * (wl * t) := Int.mul_le_mul_of_nonneg_left (by
      calc wl = wl * 1 := (Int.mul_one _).symm
        _ ≤ wl * t := Int.mul_le_mul_of_nonneg_left (by omega) (by omega)) (by omega)
    have pos : 0 < (3 * C + 1) * X := by omega
    rcases Int.lt_trichotomy X 0 with z | z | z
    · have := Int.mul_neg_of_pos_of_neg (show 0 < 3 * C + 1 by omega) z; omega
    · rw [z, Int.mul_zero] at pos; omega
    · exact z
  · intro ht
    have h : (3 * C + 1) * (wl * t) ≤ (3 * C + 1) * (-wl) := Int.mul_le_mul_of_nonneg_left (by
      calc wl * t ≤ wl * -1 := Int.mul_le_mul_of_nonneg_left (by omega) (by omega)
        _ = -wl := by omega) (by omega)
    rw [Int.mul_neg] at h
    have neg : (3 * C + 1) * X < 0 := by omega
    rcases Int.lt_trichotomy X 0 with z | z | z
    · exact z
    · rw [z, Int.mul_zero] at neg; omega
    · have := Int.mul_pos (show 0 < 3 * C + 1 by omega) z; omega
theorem ring_off {a b c d : Pt} (h : tw a b c ≠ 0) (b0 : bo a b c d = 0) (ha : d ≠ a) (hb : d ≠ b) (hc : d ≠ c) : tw d b c ≠ 0 ∧ tw a d c ≠ 0 ∧ tw a b d ≠ 0 := by
  refine ⟨fun z => ?_, fun z => ?_, fun z => ?_⟩
  · rcases on_ring h b0 z with e | e
    · exact hb e
    · exact hc e
  · rcases on_ring (a := b) (b := c) (c := a) (by rw [tw_rot]; exact h) (by rw [bo_rot]; exact b0) (show tw d c a = 0 by rw [tw_rot]; exact z) with e | e
    · exact hc e
    · exact ha e
  · rcases on_ring (a := c) (b := a) (c := b) (by rw [tw_rot']; exact h) (by rw [← bo_rot]; exact b0) (show tw d a b = 0 by rw [tw_rot']; exact z) with e | e
    · exact ha e
    · exact hb e
/-- heights, generic on the places of P -/
structure Hts (P : List Pt) (h : Pt → Int) : Prop where
  nz : ∀ a ∈ P, ∀ b ∈ P, ∀ c ∈ P, ∀ d ∈ P, 0 < tw a b c → d ≠ a → d ≠ b → d ≠ c → pw h a b c d ≠ 0
  sp : ∀ a ∈ P, ∀ b ∈ P, ∀ c ∈ P, ∀ d ∈ P, 0 < tw a b c → (sp a b c d = true ↔ pw h a b c d < 0)
theorem pw_self {h : Pt → Int} {a b c d : Pt} (hd : d = a ∨ d = b ∨ d = c) : pw h a b c d = 0 := by
  unfold pw
  rcases hd with rfl | rfl | rfl
  · rw [tw_aa, tw_aba]; omega
  · rw [tw_aa, tw_abb]; omega
  · rw [tw_aba, tw_abb]; omega
theorem heights (P : List Pt) : ∃ h : Pt → Int, Hts P h := by
  obtain ⟨C, hC, hb⟩ := bound_tw P
  let w := wt (3 * C + 1) P
  obtain ⟨W, hW, hw⟩ := bound w P
  let N := 4 * (C * W) + 1
  let h : Pt → Int := fun x => N * nm x - w x
  have wp : ∀ x, 1 ≤ w x := fun x => wt_pos (by omega) P x
  have wl : ∀ {x y : Pt}, lx x y → y ∈ P → (3 * C + 1) * w y ≤ w x := fun hl hy => wt_lt (by omega) hl hy
  have key : ∀ a ∈ P, ∀ b ∈ P, ∀ c ∈ P, ∀ d ∈ P, 0 < tw a b c → d ≠ a → d ≠ b → d ≠ c → pw h a b c d ≠ 0 ∧ (GM.sp a b c d = true ↔ pw h a b c d < 0) := by
    intro a ha b hB c hc d hd ht na nb nc
    have e : pw h a b c d = N * -bo a b c d - pw w a b c d := by rw [← pw_nm]; exact pw_lin N nm w a b c d
    have nt : tw a b c ≠ 0 := by omega
    have ba := hb d hd b hB c hc
    have bb := hb a ha d hd c hc
    have bc := hb a ha b hB d hd
    have bT := hb a ha b hB c hc
    have hch := sp_char (d := d) nt
    have mb : ∀ {x t : Int}, 1 ≤ x → x ≤ W → -C ≤ t ∧ t ≤ C → -(C * W) ≤ x * t ∧ x * t ≤ C * W := by
      intro x t h1 h2 h3
      have q1 : x * t ≤ x * C := Int.mul_le_mul_of_nonneg_left h3.2 (by omega)
      have q2 : x * -C ≤ x * t := Int.mul_le_mul_of_nonneg_left h3.1 (by omega)
      have q3 : C * x ≤ C * W := Int.mul_le_mul_of_nonneg_left h2 (by omega)
      rw [Int.mul_neg, Int.mul_comm x C] at q2
      rw [Int.mul_comm x C] at q1
      omega
    have pb : -(4 * (C * W)) ≤ pw w a b c d ∧ pw w a b c d ≤ 4 * (C * W) := by
      have h1 := mb (wp d) (hw d hd) bT
      have h2 := mb (wp a) (hw a ha) ba
      have h3 := mb (wp b) (hw b hB) bb
      have h4 := mb (wp c) (hw c hc) bc
      unfold pw
      omega
    have hN : 0 < N := by
      have := Int.mul_pos (show 0 < C by omega) (show 0 < W by omega)
      show 0 < 4 * (C * W) + 1
      omega
    rcases Int.lt_trichotomy (bo a b c d) 0 with z | z | z
    · have p : N ≤ N * -bo a b c d := by
        calc N = N * 1 := (Int.mul_one _).symm
          _ ≤ N * -bo a b c d := Int.mul_le_mul_of_nonneg_left (by omega) (by omega)
      have pos : 0 < pw h a b c d := by rw [e]; show 0 < _; have : N = 4 * (C * W) + 1 := rfl; omega
      refine ⟨by omega, fun hs => ?_, fun hs => by omega⟩
      rcases hch.mp hs with y | y
      · have := Int.mul_neg_of_pos_of_neg ht z; omega
      · have := y.1; omega
    · rw [z, Int.neg_zero, Int.mul_zero, Int.zero_sub] at e
      obtain ⟨fa, fb, fc⟩ := ring_off nt z na nb nc
      have htie : GM.sp a b c d = true ↔ tie a b c d := by
        rw [hch]
        unfold spP
        rw [z, Int.mul_zero]
        exact ⟨fun y => by rcases y with y | y; omega; exact y.2.2.2.2, fun y => .inr ⟨rfl, na, nb, nc, y⟩⟩
      obtain ⟨nab, nac, nbc⟩ := ne_of_tw nt
      have w0 : ∀ x, 0 ≤ w x := fun x => by have := wp x; omega
      have ng : ∀ {t : Int}, -C ≤ t ∧ t ≤ C → -C ≤ -t ∧ -t ≤ C := fun h => by omega
      have ro : tw b c d = tw d b c := (tw_rot d b c).symm ▸ rfl
      have ro' : tw b c d = tw d b c := tw_rot d b c
      have ro2 : tw a c d = -tw a d c := tw_sw' a d c
      have ro3 : tw b c a = tw a b c := tw_rot a b c
      have ro4 : tw a c b = -tw a b c := tw_sw' a b c
      -- the least of the four
      rcases lx_or na with da | da
      · rcases lx_or nb with db | db
        · rcases lx_or nc with dc | dc
          · -- d
            have dm := (dom (t := tw a b c) hC (wp d) (w0 a) (w0 b) (w0 c) (wl da ha) (wl db hB) (wl dc hc) (ng ba) (ng bb) (ng bc)).1 ht
            have p : 0 < pw w a b c d := by unfold pw; rw [Int.mul_neg, Int.mul_neg, Int.mul_neg] at dm; omega
            exact ⟨by omega, fun _ => by omega, fun _ => htie.mpr (.inl ⟨da, db, dc⟩)⟩
          · -- c
            have ca := lx_tr dc da
            have cb := lx_tr dc db
            have dm := dom (t := tw a b d) hC (wp c) (w0 d) (w0 a) (w0 b) (wl dc hd) (wl ca ha) (wl cb hB) (ng bT) ba bb
            have e2 : pw h a b c d = w c * tw a b d + (w d * -tw a b c + w a * tw d b c + w b * tw a d c) := by rw [e]; unfold pw; rw [Int.mul_neg]; omega
            have ti : tie a b c d ↔ tw a b d < 0 := by
              unfold tie
              constructor
              · rintro (y | y | y | y)
                · exact absurd y.2.2 (lx_as dc)
                · exact absurd y.2.1 (lx_as ca)
                · exact absurd y.2.1 (lx_as cb)
                · have := sg_iff.mp y.2.2.2; omega
              · exact fun y => .inr (.inr (.inr ⟨ca, cb, dc, sg_iff.mpr (.inl ⟨ht, y⟩)⟩))
            rw [htie, ti, e2]
            rcases Int.lt_trichotomy (tw a b d) 0 with y | y | y
            · have := dm.2 y; exact ⟨by omega, fun _ => this, fun _ => y⟩
            · exact absurd y fc
            · have := dm.1 y; exact ⟨by omega, fun _ => by omega, fun _ => by omega⟩
        · -- b before d, d before a
          have ba' := lx_tr db da
          rcases lx_or nbc with bc' | bc'
          · -- b
            have dm := dom (t := tw a d c) hC (wp b) (w0 d) (w0 a) (w0 c) (wl db hd) (wl ba' ha) (wl bc' hc) (ng bT) ba bc
            have e2 : pw h a b c d = w b * tw a d c + (w d * -tw a b c + w a * tw d b c + w c * tw a b d) := by rw [e]; unfold pw; rw [Int.mul_neg]; omega
            have ti : tie a b c d ↔ tw a d c < 0 := by
              unfold tie
              constructor
              · rintro (y | y | y | y)
                · exact absurd y.2.1 (lx_as db)
                · exact absurd y.1 (lx_as ba')
                · have := sg_iff.mp y.2.2.2; omega
                · exact absurd y.2.1 (lx_as bc')
              · exact fun y => .inr (.inr (.inl ⟨ba', bc', db, sg_iff.mpr (.inr ⟨by omega, by omega⟩)⟩))
            rw [htie, ti, e2]
            rcases Int.lt_trichotomy (tw a d c) 0 with y | y | y
            · have := dm.2 y; exact ⟨by omega, fun _ => this, fun _ => y⟩
            · exact absurd y fb
            · have := dm.1 y; exact ⟨by omega, fun _ => by omega, fun _ => by omega⟩
          · -- c
            have dc := lx_tr bc' db
            have ca := lx_tr dc da
            have cb := bc'
            have dm := dom (t := tw a b d) hC (wp c) (w0 d) (w0 a) (w0 b) (wl dc hd) (wl ca ha) (wl cb hB) (ng bT) ba bb
            have e2 : pw h a b c d = w c * tw a b d + (w d * -tw a b c + w a * tw d b c + w b * tw a d c) := by rw [e]; unfold pw; rw [Int.mul_neg]; omega
            have ti : tie a b c d ↔ tw a b d < 0 := by
              unfold tie
              constructor
              · rintro (y | y | y | y)
                · exact absurd y.2.2 (lx_as dc)
                · exact absurd y.2.1 (lx_as ca)
                · exact absurd y.2.1 (lx_as cb)
                · have := sg_iff.mp y.2.2.2; omega
              · exact fun y => .inr (.inr (.inr ⟨ca, cb, dc, sg_iff.mpr (.inl ⟨ht, y⟩)⟩))
            rw [htie, ti, e2]
            rcases Int.lt_trichotomy (tw a b d) 0 with y | y | y
            · have := dm.2 y; exact ⟨by omega, fun _ => this, fun _ => y⟩
            · exact absurd y fc
            · have := dm.1 y; exact ⟨by omega, fun _ => by omega, fun _ => by omega⟩
      · -- a before d
        rcases lx_or nab with ab | ab
        · rcases lx_or nac with ac | ac
          · -- a
            have dm := dom (t := tw d b c) hC (wp a) (w0 d) (w0 b) (w0 c) (wl da hd) (wl ab hB) (wl ac hc) (ng bT) bb bc
            have e2 : pw h a b c d = w a * tw d b c + (w d * -tw a b c + w b * tw a d c + w c * tw a b d) := by rw [e]; unfold pw; rw [Int.mul_neg]; omega
            have ti : tie a b c d ↔ tw d b c < 0 := by
              unfold tie
              constructor
              · rintro (y | y | y | y)
                · exact absurd y.1 (lx_as da)
                · have := sg_iff.mp y.2.2.2; omega
                · exact absurd y.1 (lx_as ab)
                · exact absurd y.1 (lx_as ac)
              · exact fun y => .inr (.inl ⟨ab, ac, da, sg_iff.mpr (.inl ⟨by omega, by omega⟩)⟩)
            rw [htie, ti, e2]
            rcases Int.lt_trichotomy (tw d b c) 0 with y | y | y
            · have := dm.2 y; exact ⟨by omega, fun _ => this, fun _ => y⟩
            · exact absurd y fa
            · have := dm.1 y; exact ⟨by omega, fun _ => by omega, fun _ => by omega⟩
          · -- c
            have ca := ac
            have cb := lx_tr ca ab
            have dc := lx_tr ca da
            have dm := dom (t := tw a b d) hC (wp c) (w0 d) (w0 a) (w0 b) (wl dc hd) (wl ca ha) (wl cb hB) (ng bT) ba bb
            have e2 : pw h a b c d = w c * tw a b d + (w d * -tw a b c + w a * tw d b c + w b * tw a d c) := by rw [e]; unfold pw; rw [Int.mul_neg]; omega
            have ti : tie a b c d ↔ tw a b d < 0 := by
              unfold tie
              constructor
              · rintro (y | y | y | y)
                · exact absurd y.2.2 (lx_as dc)
                · exact absurd y.2.1 (lx_as ca)
                · exact absurd y.2.1 (lx_as cb)
                · have := sg_iff.mp y.2.2.2; omega
              · exact fun y => .inr (.inr (.inr ⟨ca, cb, dc, sg_iff.mpr (.inl ⟨ht, y⟩)⟩))
            rw [htie, ti, e2]
            rcases Int.lt_trichotomy (tw a b d) 0 with y | y | y
            · have := dm.2 y; exact ⟨by omega, fun _ => this, fun _ => y⟩
            · exact absurd y fc
            · have := dm.1 y; exact ⟨by omega, fun _ => by omega, fun _ => by omega⟩
        · -- b before a
          have ba' := ab
          have db := lx_tr ab da
          rcases lx_or nbc with bc' | bc'
          · -- b
            have dm := dom (t := tw a d c) hC (wp b) (w0 d) (w0 a) (w0 c) (wl db hd) (wl ba' ha) (wl bc' hc) (ng bT) ba bc
            have e2 : pw h a b c d = w b * tw a d c + (w d * -tw a b c + w a * tw d b c + w c * tw a b d) := by rw [e]; unfold pw; rw [Int.mul_neg]; omega
            have ti : tie a b c d ↔ tw a d c < 0 := by
              unfold tie
              constructor
              · rintro (y | y | y | y)
                · exact absurd y.2.1 (lx_as db)
                · exact absurd y.1 (lx_as ba')
                · have := sg_iff.mp y.2.2.2; omega
                · exact absurd y.2.1 (lx_as bc')
              · exact fun y => .inr (.inr (.inl ⟨ba', bc', db, sg_iff.mpr (.inr ⟨by omega, by omega⟩)⟩))
            rw [htie, ti, e2]
            rcases Int.lt_trichotomy (tw a d c) 0 with y | y | y
            · have := dm.2 y; exact ⟨by omega, fun _ => this, fun _ => y⟩
            · exact absurd y fb
            · have := dm.1 y; exact ⟨by omega, fun _ => by omega, fun _ => by omega⟩
          · -- c
            have cb := bc'
            have ca := lx_tr cb ab
            have dc := lx_tr cb db
            have dm := dom (t := tw a b d) hC (wp c) (w0 d) (w0 a) (w0 b) (wl dc hd) (wl ca ha) (wl cb hB) (ng bT) ba bb
            have e2 : pw h a b c d = w c * tw a b d + (w d * -tw a b c + w a * tw d b c + w b * tw a d c) := by rw [e]; unfold pw; rw [Int.mul_neg]; omega
            have ti : tie a b c d ↔ tw a b d < 0 := by
              unfold tie
              constructor
              · rintro (y | y | y | y)
                · exact absurd y.2.2 (lx_as dc)
                · exact absurd y.2.1 (lx_as ca)
                · exact absurd y.2.1 (lx_as cb)
                · have := sg_iff.mp y.2.2.2; omega
              · exact fun y => .inr (.inr (.inr ⟨ca, cb, dc, sg_iff.mpr (.inl ⟨ht, y⟩)⟩))
            rw [htie, ti, e2]
            rcases Int.lt_trichotomy (tw a b d) 0 with y | y | y
            · have := dm.2 y; exact ⟨by omega, fun _ => this, fun _ => y⟩
            · exact absurd y fc
            · have := dm.1 y; exact ⟨by omega, fun _ => by omega, fun _ => by omega⟩
    · have p : N * -bo a b c d ≤ -N := by
        calc N * -bo a b c d ≤ N * -1 := Int.mul_le_mul_of_nonneg_left (by omega) (by omega)
          _ = -N := by omega
      have neg : pw h a b c d < 0 := by rw [e]; have : N = 4 * (C * W) + 1 := rfl; omega
      refine ⟨by omega, fun _ => neg, fun _ => hch.mpr (.inl (Int.mul_pos ht z))⟩
  refine ⟨h, fun a ha b hB c hc d hd ht na nb nc => (key a ha b hB c hc d hd ht na nb nc).1, fun a ha b hB c hc d hd ht => ?_⟩
  by_cases e : d = a ∨ d = b ∨ d = c
  · rw [sp_self (by omega) e, pw_self e]; simp
  · exact (key a ha b hB c hc d hd ht (fun z => e (.inl z)) (fun z => e (.inr (.inl z))) (fun z => e (.inr (.inr z)))).2
end GM

/-! Over one base: who spoils is an order. -/
namespace GM
theorem pwV_base (ha hb hr hs ax ay bx by_ rx ry sx sy : Int) : hs * twV ax ay bx by_ rx ry - (ha * twV sx sy bx by_ rx ry + hb * twV ax ay sx sy rx ry + hr * twV ax ay bx by_ sx sy) = -(hr * twV ax ay bx by_ sx sy - (ha * twV rx ry bx by_ sx sy + hb * twV ax ay rx ry sx sy + hs * twV ax ay bx by_ rx ry)) := by unfold twV; grind
theorem pw_sw' (h : Pt → Int) (a b r s : Pt) : pw h a b s r = -pw h a b r s := by
  have := pwV_base (h a) (h b) (h s) (h r) a.1 a.2 b.1 b.2 s.1 s.2 r.1 r.2
  exact this
theorem pw_rot (h : Pt → Int) (a b c d : Pt) : pw h b c a d = pw h a b c d := by
  unfold pw
  rw [tw_rot, show tw d c a = tw a d c from tw_rot a d c, show tw b d a = tw a b d from tw_rot a b d, show tw b c d = tw d b c from tw_rot d b c]
  omega
theorem pw_sw (h : Pt → Int) (a b c d : Pt) : pw h b a c d = -pw h a b c d := by
  unfold pw
  rw [show tw b a c = -tw a b c from tw_sw a b c, show tw d a c = -tw a d c from tw_sw a d c, show tw b d c = -tw d b c from tw_sw d b c, show tw b a d = -tw a b d from tw_sw a b d, Int.mul_neg, Int.mul_neg, Int.mul_neg, Int.mul_neg]
  omega
theorem plu (ha hb hr hs ht ax ay bx by_ rx ry sx sy tx ty : Int) :
    (ht * twV ax ay bx by_ rx ry - (ha * twV tx ty bx by_ rx ry + hb * twV ax ay tx ty rx ry + hr * twV ax ay bx by_ tx ty)) * twV ax ay bx by_ sx sy =
    (hs * twV ax ay bx by_ rx ry - (ha * twV sx sy bx by_ rx ry + hb * twV ax ay sx sy rx ry + hr * twV ax ay bx by_ sx sy)) * twV ax ay bx by_ tx ty +
    (ht * twV ax ay bx by_ sx sy - (ha * twV tx ty bx by_ sx sy + hb * twV ax ay tx ty sx sy + hs * twV ax ay bx by_ tx ty)) * twV ax ay bx by_ rx ry := by unfold twV; grind
/-- three over one base -/
theorem pw_plu (h : Pt → Int) (a b r s t : Pt) : pw h a b r t * tw a b s = pw h a b r s * tw a b t + pw h a b s t * tw a b r :=
  plu (h a) (h b) (h r) (h s) (h t) a.1 a.2 b.1 b.2 r.1 r.2 s.1 s.2 t.1 t.2
theorem sp_tr {p q r s t : Pt} (hr : 0 < tw p q r) (hs : 0 < tw p q s) (ht : 0 < tw p q t) (h1 : sp p q r s = true) (h2 : sp p q s t = true) : sp p q r t = true := by
  obtain ⟨h, H⟩ := heights [p, q, r, s, t]
  have e1 := (H.sp p (by simp) q (by simp) r (by simp) s (by simp) hr).mp h1
  have e2 := (H.sp p (by simp) q (by simp) s (by simp) t (by simp) hs).mp h2
  refine (H.sp p (by simp) q (by simp) r (by simp) t (by simp) hr).mpr ?_
  have e := pw_plu h p q r s t
  have a1 := Int.mul_neg_of_neg_of_pos e1 ht
  have a2 := Int.mul_neg_of_neg_of_pos e2 hr
  rcases Int.lt_trichotomy (pw h p q r t) 0 with z | z | z
  · exact z
  · rw [z, Int.zero_mul] at e; omega
  · have := Int.mul_pos z hs; omega
theorem sp_irr {p q r : Pt} (hr : 0 < tw p q r) : sp p q r r = false := sp_self (by omega) (.inr (.inr rfl))
/-- of two over a base just one spoils it with the other -/
theorem sp_xor {p q r s : Pt} (hr : 0 < tw p q r) (hs : 0 < tw p q s) (hne : r ≠ s) : sp p q s r = !sp p q r s := by
  obtain ⟨h, H⟩ := heights [p, q, r, s]
  obtain ⟨_, n1, n2⟩ := ne_of_tw (show tw p q s ≠ 0 by omega)
  have nz := H.nz p (by simp) q (by simp) r (by simp) s (by simp) hr n1.symm n2.symm hne.symm
  have e1 := H.sp p (by simp) q (by simp) r (by simp) s (by simp) hr
  have e2 := H.sp p (by simp) q (by simp) s (by simp) r (by simp) hs
  rw [pw_sw'] at e2
  cases h1 : sp p q r s with
  | true => 
    have := e1.mp h1
    cases h2 : sp p q s r with
    | false => rfl
    | true => have := e2.mp h2; omega
  | false =>
    have : ¬ pw h p q r s < 0 := fun z => by rw [e1.mpr z] at h1; cases h1
    exact e2.mpr (by omega)
/-- kept: whichever spoils the kept one -/
def best (p q : Pt) (b : Pt) (xs : List Pt) : Pt := xs.foldl (fun b x => if sp p q b x = true then x else b) b
theorem best_mem (p q : Pt) : ∀ (xs : List Pt) (b : Pt), best p q b xs = b ∨ best p q b xs ∈ xs
  | [], b => .inl rfl
  | x :: xs, b => by
    show best p q (if sp p q b x = true then x else b) xs = b ∨ best p q (if sp p q b x = true then x else b) xs ∈ x :: xs
    split
    · rcases best_mem p q xs x with h | h
      · exact .inr (by rw [h]; exact List.mem_cons_self)
      · exact .inr (List.mem_cons_of_mem _ h)
    · rcases best_mem p q xs b with h | h
      · exact .inl h
      · exact .inr (List.mem_cons_of_mem _ h)
theorem best_ok {p q : Pt} : ∀ (xs : List Pt) (b : Pt), 0 < tw p q b → (∀ x ∈ xs, 0 < tw p q x) → (∀ x ∈ b :: xs, sp p q (best p q b xs) x = false)
  | [], b, hb, _ => fun x hx => by
    rw [List.mem_singleton.mp hx]
    exact sp_irr hb
  | y :: ys, b, hb, hx => fun x hm => by
    have hy := hx y List.mem_cons_self
    have hys : ∀ x ∈ ys, 0 < tw p q x := fun x h => hx x (List.mem_cons_of_mem _ h)
    show sp p q (best p q (if sp p q b y = true then y else b) ys) x = false
    by_cases c : sp p q b y = true
    · rw [if_pos c]
      have ih := best_ok ys y hy hys
      have hbt : 0 < tw p q (best p q y ys) := by
        rcases best_mem p q ys y with h | h
        · rw [h]; exact hy
        · exact hys _ h
      rcases List.mem_cons.mp hm with rfl | hm
      · -- the old one: spoilt by y, which is not better
        cases e : sp p q (best p q y ys) x with
        | false => rfl
        | true =>
          have := sp_tr hbt hb hy e c
          rw [ih y List.mem_cons_self] at this; cases this
      · exact ih x hm
    · rw [if_neg c]
      have ih := best_ok ys b hb hys
      have hbt : 0 < tw p q (best p q b ys) := by
        rcases best_mem p q ys b with h | h
        · rw [h]; exact hb
        · exact hys _ h
      rcases List.mem_cons.mp hm with rfl | hm
      · exact ih x List.mem_cons_self
      · rcases List.mem_cons.mp hm with rfl | hm
        · by_cases eb : x = b
          · rw [eb]; exact ih b List.mem_cons_self
          · have x1 := sp_xor hb hy (fun z => eb z.symm)
            have c' : sp p q b x = false := by simpa using c
            rw [c'] at x1
            cases e : sp p q (best p q b ys) x with
            | false => rfl
            | true =>
              have := sp_tr hbt hy hb e x1
              rw [ih b List.mem_cons_self] at this; cases this
        · exact ih x (List.mem_cons_of_mem _ hm)
end GM

/-! A small language of plain data over the hand layer: values as trees, lists in a store, and how they stand in the abstract heap. -/
namespace NL
open PySem PySem.Spec PyProof.Rows L2

/-- a value: atoms and tuples as trees; a list by its place in the store -/
inductive D where
  | non | bl (b : Bool) | int (i : Int) | str (x : Str) | tup (xs : List D) | ref (l : Nat)
  deriving Inhabited
/-- what stands at a place of the store: a list of ours, a list that is only read -/
inductive Ob where
  | lst (xs : List D) | frz (xs : List D)
def Ob.mut : Ob → Bool
  | .frz _ => false
  | _ => true
abbrev Store := List Ob
/-- an answer: a value, an exception (its class, the place of its dict), or nothing is said -/
inductive R (α : Type) where
  | ok (a : α) (S : Store) | exc (c : Str) (d : Option Nat) (S : Store) | stuck
def R.bind {α β : Type} (r : R α) (f : α → Store → R β) : R β := match r with
  | .ok a S => f a S
  | .exc c d S => .exc c d S
  | .stuck => .stuck
def M (α : Type) := Store → R α
def M.pure {α : Type} (a : α) : M α := fun S => .ok a S
def M.bind {α β : Type} (m : M α) (f : α → M β) : M β := fun S => (m S).bind f
def die {α : Type} : M α := fun _ => .stuck
instance : Monad M where
  pure := M.pure
  bind := M.bind
theorem bind_eq {α β : Type} (m : M α) (f : α → M β) (S : Store) : (m >>= f) S = (m S).bind f := rfl
theorem pure_eq {α : Type} (a : α) (S : Store) : (pure a : M α) S = .ok a S := rfl
theorem bind_as {α β γ : Type} (m : M α) (f : α → M β) (g : β → M γ) : m >>= f >>= g = m >>= fun x => f x >>= g := by
  funext S
  show (R.bind (R.bind (m S) f) g) = R.bind (m S) fun x => M.bind (f x) g
  cases m S <;> rfl
theorem pure_bi {α β : Type} (a : α) (f : α → M β) : (pure a : M α) >>= f = f a := rfl
theorem die_bi {α β : Type} (f : α → M β) : (die : M α) >>= f = die := rfl
theorem ite_bi {α β : Type} (c : Prop) [Decidable c] (m n : M α) (f : α → M β) : (if c then m else n) >>= f = if c then m >>= f else n >>= f := by split <;> rfl
theorem die_eq {α : Type} (S : Store) : (die : M α) S = .stuck := rfl

/-! ### how values stand in the heap -/
mutual
inductive Rep (m : List Addr) (H : Hp) : D → V → Prop
  | non : Rep m H .non .non
  | bl (b : Bool) : Rep m H (.bl b) (.bl b)
  | int (i : Int) : Rep m H (.int i) (.int i)
  | str (x : Str) : Rep m H (.str x) (.str x)
  | tup {a : Addr} {xs : List D} {vs : List V} : H a = some (.tup vs) → Reps m H xs vs → Rep m H (.tup xs) (.ref a)
  | ref {l : Nat} {a : Addr} : m[l]? = some a → Rep m H (.ref l) (.ref a)
inductive Reps (m : List Addr) (H : Hp) : List D → List V → Prop
  | nil : Reps m H [] []
  | cons {d : D} {v : V} {ds : List D} {vs : List V} : Rep m H d v → Reps m H ds vs → Reps m H (d :: ds) (v :: vs)
end
/-- later: places stay, tuples stay -/
structure Gr (m m' : List Addr) (H H' : Hp) : Prop where
  pre : ∀ (l : Nat) (a : Addr), m[l]? = some a → m'[l]? = some a
  tup : ∀ (a : Addr) (xs : List V), H a = some (.tup xs) → H' a = some (.tup xs)
theorem Gr.refl (m : List Addr) (H : Hp) : Gr m m H H := ⟨fun _ _ h => h, fun _ _ h => h⟩
theorem Gr.trans {m m1 m2 : List Addr} {H H1 H2 : Hp} (a : Gr m m1 H H1) (b : Gr m1 m2 H1 H2) : Gr m m2 H H2 :=
  ⟨fun l x h => b.pre l x (a.pre l x h), fun x xs h => b.tup x xs (a.tup x xs h)⟩
mutual
theorem Rep.mono {m m' : List Addr} {H H' : Hp} (g : Gr m m' H H') : ∀ (d : D) (v : V), Rep m H d v → Rep m' H' d v
  | .non, _, h => by cases h; exact .non
  | .bl _, _, h => by cases h; exact .bl _
  | .int _, _, h => by cases h; exact .int _
  | .str _, _, h => by cases h; exact .str _
  | .tup xs, _, h => by
    cases h with
    | tup e r => exact .tup (g.tup _ _ e) (Reps.mono g xs _ r)
  | .ref _, _, h => by
    cases h with
    | ref e => exact .ref (g.pre _ _ e)
theorem Reps.mono {m m' : List Addr} {H H' : Hp} (g : Gr m m' H H') : ∀ (ds : List D) (vs : List V), Reps m H ds vs → Reps m' H' ds vs
  | [], _, h => by cases h; exact .nil
  | d :: ds, _, h => by
    cases h with
    | cons a b => exact .cons (Rep.mono g d _ a) (Reps.mono g ds _ b)
end
section
variable {m : List Addr} {H : Hp}
theorem Reps.length : ∀ {ds : List D} {vs : List V}, Reps m H ds vs → ds.length = vs.length
  | _, _, .nil => rfl
  | _, _, .cons _ t => by rw [List.length_cons, List.length_cons, Reps.length t]
theorem Reps.get : ∀ {ds : List D} {vs : List V} {i : Nat} {d : D}, Reps m H ds vs → ds[i]? = some d → ∃ v, vs[i]? = some v ∧ Rep m H d v
  | _, _, i, d, .nil, e => by simp at e
  | _, _, 0, d, .cons r _, e => by simp at e; subst e; exact ⟨_, rfl, r⟩
  | _, _, i + 1, d, .cons _ t, e => by
    obtain ⟨v, h1, h2⟩ := Reps.get (i := i) t (by simpa using e)
    exact ⟨v, by simpa using h1, h2⟩
theorem Reps.append : ∀ {ds es : List D} {vs us : List V}, Reps m H ds vs → Reps m H es us → Reps m H (ds ++ es) (vs ++ us)
  | _, _, _, _, .nil, s => s
  | _, _, _, _, .cons r t, s => .cons r (Reps.append t s)
theorem Reps.take : ∀ {ds : List D} {vs : List V} (n : Nat), Reps m H ds vs → Reps m H (ds.take n) (vs.take n)
  | _, _, 0, _ => by rw [List.take_zero, List.take_zero]; exact .nil
  | _, _, _ + 1, .nil => by rw [List.take_nil, List.take_nil]; exact .nil
  | _, _, n + 1, .cons r t => by rw [List.take_succ_cons, List.take_succ_cons]; exact .cons r (Reps.take n t)
theorem Reps.drop : ∀ {ds : List D} {vs : List V} (n : Nat), Reps m H ds vs → Reps m H (ds.drop n) (vs.drop n)
  | _, _, 0, r => r
  | _, _, _ + 1, .nil => by rw [List.drop_nil, List.drop_nil]; exact .nil
  | _, _, n + 1, .cons _ t => by rw [List.drop_succ_cons, List.drop_succ_cons]; exact Reps.drop n t
theorem Reps.reverse : ∀ {ds : List D} {vs : List V}, Reps m H ds vs → Reps m H ds.reverse vs.reverse
  | _, _, .nil => .nil
  | _, _, .cons r t => by rw [List.reverse_cons, List.reverse_cons]; exact Reps.append (Reps.reverse t) (.cons r .nil)
theorem Reps.set {d : D} {v : V} (r : Rep m H d v) : ∀ {ds : List D} {vs : List V} (i : Nat), Reps m H ds vs → Reps m H (ds.set i d) (vs.set i v)
  | _, _, _, .nil => .nil
  | _, _, 0, .cons _ t => .cons r t
  | _, _, i + 1, .cons q t => .cons q (Reps.set r i t)
theorem Reps.ints : ∀ (ns : List Int), Reps m H (ns.map D.int) (ns.map V.int)
  | [] => .nil
  | n :: r => .cons (.int n) (Reps.ints r)
end

/-! ### the store -/
/-- a list that is only read: known to the object, or an object of the module -/
def SqF (K : PySem.W.Frag) (H : Hp) (a : Addr) (vs : List V) : Prop :=
  (∃ o, H a = some (.frz o (.lst vs))) ∨
    ∃ (o : Obj) (its : Array Value) (n : Nat), K.lookup a = some o ∧ o.cls = .type "list" ∧ o.dict = none ∧ o.data = .seq its n ∧ its.size ≤ sizeLine ∧ Vals vs its.toList
def ObR (K : PySem.W.Frag) (m : List Addr) (H : Hp) (a : Addr) : Ob → Prop
  | .lst xs => ∃ vs, H a = some (.lst vs) ∧ Reps m H xs vs
  | .frz xs => ∃ vs, SqF K H a vs ∧ Reps m H xs vs
structure SR (K : PySem.W.Frag) (m : List Addr) (S : Store) (H : Hp) : Prop where
  len : m.length = S.length
  ob : ∀ (l : Nat) (o : Ob) (a : Addr), S[l]? = some o → m[l]? = some a → ObR K m H a o
  inj : ∀ (l l' : Nat) (a : Addr) (o o' : Ob), m[l]? = some a → m[l']? = some a → S[l]? = some o → S[l']? = some o' → o.mut = true → o'.mut = true → l = l'
section
variable {K : PySem.W.Frag} {m m' : List Addr} {S : Store} {H H' : Hp} {a : Addr}
theorem SqF.sq {vs : List V} (h : SqF K H a vs) : SqL K H a vs := by
  rcases h with ⟨o, h⟩ | h
  · exact .inl (.inr ⟨o, h⟩)
  · exact .inr h
/-- an address of the store at l -/
theorem SR.at_ (r : SR K m S H) {l : Nat} {o : Ob} (h : S[l]? = some o) : ∃ a, m[l]? = some a ∧ ObR K m H a o := by
  have hl : l < m.length := by rw [r.len]; exact (List.getElem?_eq_some_iff.mp h).1
  exact ⟨m[l], List.getElem?_eq_getElem hl, r.ob l o _ h (List.getElem?_eq_getElem hl)⟩
/-- what a list holds, read -/
def items : Ob → List D
  | .lst xs => xs
  | .frz xs => xs
theorem ObR.sq {o : Ob} (h : ObR K m H a o) : ∃ vs, SqL K H a vs ∧ Reps m H (items o) vs := by
  cases o with
  | lst xs => obtain ⟨vs, e, r⟩ := h; exact ⟨vs, SqL.of e, r⟩
  | frz xs => obtain ⟨vs, e, r⟩ := h; exact ⟨vs, e.sq, r⟩
/-- a fresh address is none of the store's own -/
theorem SR.fresh (r : SR K m S H) {p : Addr} (hp : H p = none) {l : Nat} {o : Ob} (h : S[l]? = some o) (hm : o.mut = true) : m[l]? ≠ some p := fun e => by
  have q := r.ob l o p h e
  cases o with
  | lst xs => obtain ⟨vs, e', _⟩ := q; rw [hp] at e'; cases e'
  | frz xs => exact absurd hm Bool.false_ne_true
theorem Gr.upd_new {o : HO} {p : Addr} (hp : H p = none) : Gr m m H (upd H p o) := ⟨fun _ _ h => h, fun a xs h => by rw [upd_ne (ne_of_none h hp)]; exact h⟩
theorem Gr.push {p : Addr} : Gr m (m ++ [p]) H H := ⟨fun l a h => by rw [List.getElem?_append_left (List.getElem?_eq_some_iff.mp h).1]; exact h, fun _ _ h => h⟩
theorem Gr.push_new {o : HO} {p : Addr} (hp : H p = none) : Gr m (m ++ [p]) H (upd H p o) := Gr.trans (Gr.upd_new hp) Gr.push
theorem ObR.keep {o : Ob} (g : Gr m m' H H') (h : ObR K m H a o) (k : ∀ u, H a = some u → H' a = some u) : ObR K m' H' a o := by
  cases o with
  | lst xs => obtain ⟨vs, e, r⟩ := h; exact ⟨vs, k _ e, Reps.mono g _ _ r⟩
  | frz xs =>
    obtain ⟨vs, e, r⟩ := h
    refine ⟨vs, ?_, Reps.mono g _ _ r⟩
    rcases e with ⟨o, e⟩ | e
    · exact .inl ⟨o, k _ e⟩
    · exact .inr e
/-- nothing of the store is touched by a new thing that is not in it (a tuple) -/
theorem SR.new (r : SR K m S H) {p : Addr} {o : HO} (hp : H p = none) : SR K m S (upd H p o) :=
  ⟨r.len, fun l ob a h e => (r.ob l ob a h e).keep (Gr.upd_new hp) fun u q => by rw [upd_ne (ne_of_none q hp)]; exact q, r.inj⟩
/-- a new list -/
theorem SR.alloc (r : SR K m S H) {p : Addr} {xs : List D} {vs : List V} (hp : H p = none) (hx : Reps m H xs vs) : SR K (m ++ [p]) (S ++ [.lst xs]) (upd H p (.lst vs)) := by
  have g : Gr m (m ++ [p]) H (upd H p (.lst vs)) := Gr.push_new hp
  have hn : (m ++ [p])[S.length]? = some p := by rw [← r.len]; simp
  refine ⟨by simp [r.len], fun l ob a h e => ?_, fun l l' a o o' h1 h2 h3 h4 hm hm' => ?_⟩
  · by_cases hl : l < S.length
    · rw [List.getElem?_append_left hl] at h
      rw [List.getElem?_append_left (by rw [r.len]; exact hl)] at e
      exact (r.ob l ob a h e).keep g fun u q => by rw [upd_ne (ne_of_none q hp)]; exact q
    · have e1 : l = S.length := by
        have := (List.getElem?_eq_some_iff.mp h).1
        simp at this; omega
      subst e1
      rw [hn] at e
      simp at h
      cases e
      subst h
      exact ⟨vs, upd_same, Reps.mono g _ _ hx⟩
  · have key : ∀ {l : Nat} {o : Ob}, (S ++ [Ob.lst xs])[l]? = some o → l < S.length ∧ S[l]? = some o ∨ l = S.length := fun {l o} h => by
      by_cases hl : l < S.length
      · rw [List.getElem?_append_left hl] at h
        exact .inl ⟨hl, h⟩
      · have := (List.getElem?_eq_some_iff.mp h).1
        simp at this
        exact .inr (by omega)
    rcases key h3 with ⟨k1, k2⟩ | k1
    · rw [List.getElem?_append_left (by rw [r.len]; exact k1)] at h1
      rcases key h4 with ⟨k3, k4⟩ | k3
      · rw [List.getElem?_append_left (by rw [r.len]; exact k3)] at h2
        exact r.inj l l' a o o' h1 h2 k2 k4 hm hm'
      · subst k3
        rw [hn] at h2; cases h2
        exact absurd h1 (r.fresh hp k2 hm)
    · subst k1
      rw [hn] at h1; cases h1
      rcases key h4 with ⟨k3, k4⟩ | k3
      · rw [List.getElem?_append_left (by rw [r.len]; exact k3)] at h2
        exact absurd h2 (r.fresh hp k4 hm')
      · exact k3.symm
/-- a list of ours is written -/
theorem Gr.write {p : Addr} {vs vs' : List V} (hp : H p = some (.lst vs)) : Gr m m H (upd H p (.lst vs')) :=
  ⟨fun _ _ h => h, fun a xs h => by rw [upd_ne (ne_of h hp (by intro z; cases z))]; exact h⟩
theorem SR.write (r : SR K m S H) {l : Nat} {p : Addr} {xs xs' : List D} {vs vs' : List V} (hl : S[l]? = some (.lst xs)) (hm : m[l]? = some p) (hp : H p = some (.lst vs)) (hx : Reps m H xs' vs') :
    SR K m (S.set l (.lst xs')) (upd H p (.lst vs')) := by
  have g : Gr m m H (upd H p (.lst vs')) := Gr.write hp
  have hlt : l < S.length := (List.getElem?_eq_some_iff.mp hl).1
  refine ⟨by rw [List.length_set]; exact r.len, fun k ob a h e => ?_, fun k k' a o o' h1 h2 h3 h4 hm1 hm2 => ?_⟩
  · by_cases hk : l = k
    · subst hk
      rw [List.getElem?_set_self hlt] at h
      cases h
      rw [hm] at e; cases e
      exact ⟨vs', upd_same, Reps.mono g _ _ hx⟩
    · rw [List.getElem?_set_ne hk] at h
      have q := r.ob k ob a h e
      cases ob with
      | lst ys =>
        refine q.keep g fun u hu => ?_
        rw [upd_ne (fun z => hk (r.inj l k a _ _ (by rw [z]; exact hm) e hl h rfl rfl))]; exact hu
      | frz ys =>
        obtain ⟨ws, hw, rw'⟩ := q
        refine ⟨ws, ?_, Reps.mono g _ _ rw'⟩
        rcases hw with ⟨o, e'⟩ | e'
        · refine .inl ⟨o, ?_⟩
          rw [upd_ne (ne_of e' hp (by intro z; cases z))]; exact e'
        · exact .inr e'
  · have key : ∀ {j : Nat} {o : Ob}, (S.set l (.lst xs'))[j]? = some o → o.mut = true → ∃ o1, S[j]? = some o1 ∧ o1.mut = true := fun {j o} h hmu => by
      by_cases hj : l = j
      · subst hj; exact ⟨_, hl, rfl⟩
      · rw [List.getElem?_set_ne hj] at h
        exact ⟨o, h, hmu⟩
    obtain ⟨o1, q1, q2⟩ := key h3 hm1
    obtain ⟨o2, q3, q4⟩ := key h4 hm2
    exact r.inj k k' a o1 o2 h1 h2 q1 q3 q2 q4
end
end NL

/-! What an operation answers, and that the machine answers so. -/
namespace NL
open PySem PySem.Spec PyProof.Rows L2
/-! ### what is wanted behind -/
def post {α : Type} (K : PySem.W.Frag) (E : Str → Option Nat → List Addr → Store → Hp → Prop) (m : List Addr) (H : Hp) (r : R α) (F : α → List Addr → Store → Hp → Prop) : Prop :=
  match r with
  | .ok a S => ∀ m' H', Gr m m' H H' → SR K m' S H' → F a m' S H'
  | .exc c d S => ∀ m' H', Gr m m' H H' → SR K m' S H' → E c d m' S H'
  | .stuck => False
def E0x : Str → Option Nat → List Addr → Store → Hp → Prop := fun _ _ _ _ _ => False
section
variable {α β : Type} {K : PySem.W.Frag} {E E' : Str → Option Nat → List Addr → Store → Hp → Prop} {m : List Addr} {H : Hp} {r : R α} {F G : α → List Addr → Store → Hp → Prop}
theorem post_mono (h : post K E m H r F) (k : ∀ a m' S' H', Gr m m' H H' → SR K m' S' H' → F a m' S' H' → G a m' S' H') : post K E m H r G := by
  cases r with
  | ok a S => exact fun m' H' g s => k a m' S H' g s (h m' H' g s)
  | exc c d S => exact h
  | stuck => exact h
theorem post_monoE (h : post K E m H r F) (k : ∀ c d m' S' H', Gr m m' H H' → SR K m' S' H' → E c d m' S' H' → E' c d m' S' H') : post K E' m H r F := by
  cases r with
  | ok a S => exact h
  | exc c d S => exact fun m' H' g s => k c d m' S H' g s (h m' H' g s)
  | stuck => exact h
/-- from a later state on -/
theorem post_later {m1 : List Addr} {H1 : Hp} (g : Gr m m1 H H1) (h : post K E m H r F) : post K E m1 H1 r F := by
  cases r with
  | ok a S => exact fun m' H' g' s => h m' H' (g.trans g') s
  | exc c d S => exact fun m' H' g' s => h m' H' (g.trans g') s
  | stuck => exact h
theorem post_bind {f : α → Store → R β} {F : β → List Addr → Store → Hp → Prop} (h : post K E m H (r.bind f) F) : post K E m H r (fun a m1 S1 H1 => post K E m1 H1 (f a S1) F) := by
  cases r with
  | ok a S => exact fun m' H' g s => post_later g (show post K E m H (f a S) F from h)
  | exc c d S => exact h
  | stuck => exact h
theorem post_now {a : α} {S : Store} (s : SR K m S H) (h : post K E m H (.ok a S) F) : F a m S H := h m H (Gr.refl m H) s
theorem post_gr {a : α} {S : Store} {m' : List Addr} {H' : Hp} (h : post K E m H (.ok a S) F) (g : Gr m m' H H') (s : SR K m' S H') : F a m' S H' := h m' H' g s
end

/-! ### answers -/
def MulOk (i j : Int) : Prop := ∃ a b : Nat, i.natAbs < 2 ^ a ∧ j.natAbs < 2 ^ b ∧ a + b ≤ 130000000
theorem MulOk.ok {i j : Int} (h : MulOk i j) : IntMulOk i j := by
  obtain ⟨a, b, h1, h2, h3⟩ := h
  have bd : ∀ (x : Int) (n : Nat), x.natAbs < 2 ^ n → Builtin.Int.intBits x ≤ n + 1 := fun x n hx => by
    unfold Builtin.Int.intBits
    by_cases hn : n = 0
    · subst hn
      have e : x.natAbs = 0 := by simpa using hx
      split <;> simp_all
    · have l := PySem.Flt.log2_lt_of (Nat.pos_of_ne_zero hn) hx
      split <;> omega
  have e1 := bd i a h1
  have e2 := bd j b h2
  have e : bitsLine = 134217728 := by decide
  unfold IntMulOk
  intro z
  rw [Bool.and_eq_true] at z
  have z2 := z.2
  unfold Builtin.Int.intTooBig at z2
  have z3 := of_decide_eq_true z2
  rw [e] at z3
  omega
inductive Bop where | add | sub | mul | fdiv | mod | pow
inductive Cop where | lt | le | gt | ge | eq | ne | isIn | notIn | is_ | isNot
  deriving DecidableEq
def alloc (o : Ob) : M D := fun S => .ok (.ref S.length) (S ++ [o])
/-- the items of a list -/
def getL (l : Nat) : M (List D) := fun S => match S[l]? with
  | some o => .ok (items o) S
  | none => .stuck
/-- .. of a list of ours -/
def getM (l : Nat) : M (List D) := fun S => match S[l]? with
  | some (.lst xs) => .ok xs S
  | _ => .stuck
open Classical in
noncomputable def binD : Bop → D → D → M D
  | .add, .int i, .int j => pure (.int (i + j))
  | .add, .ref l, .ref k => getM l >>= fun xs => getM k >>= fun ys => if xs.length + ys.length ≤ sizeLine then alloc (.lst (xs ++ ys)) else die
  | .sub, .int i, .int j => pure (.int (i - j))
  | .mul, .int i, .int j => if MulOk i j then pure (.int (i * j)) else die
  | .mul, .ref l, .int n => getM l >>= fun xs => if -(2 ^ 63) ≤ n ∧ n < 2 ^ 63 ∧ xs.length * n.toNat ≤ sizeLine then alloc (.lst (List.replicate n.toNat xs).flatten) else die
  | .fdiv, .int i, .int j => if j ≠ 0 ∧ j.natAbs.log2 < 9000 then pure (.int (i.fdiv j)) else die
  | .mod, .int i, .int j => if j ≠ 0 then pure (.int (i.fmod j)) else die
  | .pow, .int i, .int j => if 0 ≤ j ∧ (Builtin.Int.intBits i : Int) * j ≤ 2 ^ 27 then pure (.int (i ^ j.toNat)) else die
  | _, _, _ => die
def negD : D → M D
  | .int i => pure (.int (-i))
  | _ => die
def notD : D → M D
  | .bl b => pure (.bl (!b))
  | _ => die

def mapO {α β : Type} (f : α → Option β) : List α → Option (List β)
  | [] => some []
  | x :: xs => match f x, mapO f xs with
    | some y, some ys => some (y :: ys)
    | _, _ => none
/-- a value as plain data -/
def pd (S : Store) : Nat → D → Option PyData
  | _, .non => some .none
  | _, .bl b => some (.bool b)
  | _, .int i => some (.int i)
  | _, .str x => if PyData.strOk x = true then some (.str x) else none
  | 0, .tup _ => none
  | 0, .ref _ => none
  | k + 1, .tup xs => (mapO (pd S k) xs).map .tuple
  | k + 1, .ref l => match S[l]? with
    | some o => (mapO (pd S k) (items o)).map .list
    | none => none
def eqD (S : Store) (x y : D) : Option Bool := match pd S 12 x, pd S 12 y with
  | some p, some q => some (PyData.eqv p q)
  | _, _ => none
def ord4 : Cop → Int → Int → Bool
  | .lt, i, j => decide (i < j)
  | .le, i, j => decide (i ≤ j)
  | .gt, i, j => decide (j < i)
  | .ge, i, j => decide (j ≤ i)
  | _, _, _ => false
/-- from the first place at which two lists differ -/
def lexO (o : Cop) (f : D → D → Option Bool) : List D → List D → Option Bool
  | [], [] => some (ord4 o 0 0)
  | [], _ :: _ => some (ord4 o 0 1)
  | _ :: _, [] => some (ord4 o 1 0)
  | x :: xs, y :: ys => match eqD [] x y with
    | some true => lexO o f xs ys
    | some false => f x y
    | none => none
/-- the order of two values -/
def ordD (o : Cop) : Nat → D → D → Option Bool
  | _, .int i, .int j => some (ord4 o i j)
  | k + 1, .tup xs, .tup ys => if ((xs.zip ys).all fun p => match eqD [] p.1 p.2 with
      | some true => true
      | some false => (ordD o k p.1 p.2).isSome
      | none => false) = true then lexO o (ordD o k) xs ys else none
  | _, _, _ => none
def isD : D → D → Option Bool
  | x, .non => some (match x with | .non => true | _ => false)
  | x, .bl b => some (match x with | .bl c => b == c | _ => false)
  | _, _ => none
def inD (S : Store) (x y : D) : Option Bool :=
  match y with
  | .tup ys => (match pd S 12 x, mapO (pd S 12) ys with
    | some p, some qs => some (qs.any fun q => PyData.eqv q p)
    | _, _ => none)
  | .ref l => (match S[l]? with
    | some o => (match pd S 12 x, mapO (pd S 12) (items o) with
      | some p, some qs => some (qs.any fun q => PyData.eqv q p)
      | _, _ => none)
    | none => none)
  | _ => none
def ofB (b : Option Bool) : M D := match b with
  | some b => pure (.bl b)
  | none => die
def cmpD : Cop → D → D → M D
  | .eq, x, y => fun S => ofB (eqD S x y) S
  | .ne, x, y => fun S => ofB ((eqD S x y).map (!·)) S
  | .isIn, x, y => fun S => ofB (inD S x y) S
  | .notIn, x, y => fun S => ofB ((inD S x y).map (!·)) S
  | .is_, x, y => ofB (isD x y)
  | .isNot, x, y => ofB ((isD x y).map (!·))
  | o, x, y => ofB (ordD o 12 x y)
/-- a[i] -/
def ixD : D → D → M D
  | .tup xs, .int i => match atI xs i with | some d => pure d | none => die
  | .ref l, .int i => getL l >>= fun xs => match atI xs i with | some d => pure d | none => die
  | _, _ => die
/-- the truth of a value -/
def truD : D → M Bool
  | .bl b => pure b
  | _ => die
end NL

namespace NL
open PySem PySem.Spec PyProof.Rows L2
/-! ### the machine answers so: operators -/
def Bop.op : Bop → Operator
  | .add => .Add | .sub => .Sub | .mul => .Mult | .fdiv => .FloorDiv | .mod => .Mod | .pow => .Pow
def Cop.op : Cop → CmpOp
  | .lt => .Lt | .le => .LtE | .gt => .Gt | .ge => .GtE | .eq => .Eq | .ne => .NotEq | .isIn => .In | .notIn => .NotIn | .is_ => .Is | .isNot => .IsNot
/-- a reading of two values by what they are in the store -/
def rD (K : PySem.W.Frag) (g : D → D → M D) : R2 := fun v u H Q => ∃ Ex m S x y, SR K m S H ∧ Rep m H x v ∧ Rep m H y u ∧ post K Ex m H (g x y S) (fun d m' _ H' => ∀ w, Rep m' H' d w → Q w H')
theorem OpR.imp {X : Cx} {f : Value → Value → Sem Value} {r r' : R2} (h : OpR X f r) (k : ∀ x y H Q, r' x y H Q → r x y H Q) : OpR X f r' := fun pins s σ H x y v u Q I rx ry q => h pins s σ H x y v u Q I rx ry (k _ _ _ _ q)
theorem OpR.or {X : Cx} {f : Value → Value → Sem Value} {r r' : R2} (h : OpR X f r) (h' : OpR X f r') : OpR X f (fun x y H Q => r x y H Q ∨ r' x y H Q) := fun pins s σ H x y v u Q I rx ry q =>
  q.elim (h pins s σ H x y v u Q I rx ry) (h' pins s σ H x y v u Q I rx ry)
section
variable {K : PySem.W.Frag} {m : List Addr} {S : Store} {H : Hp} {Q : VK}
/-- behind a pure answer -/
theorem post_val {E : Str → Option Nat → List Addr → Store → Hp → Prop} {d : D} {w : V} (s : SR K m S H) (h : post K E m H (.ok d S) (fun d m' _ H' => ∀ w, Rep m' H' d w → Q w H')) (r : Rep m H d w) : Q w H := post_now s h w r
theorem post_alloc {E : Str → Option Nat → List Addr → Store → Hp → Prop} {xs : List D} {vs : List V} (s : SR K m S H) (h : post K E m H (alloc (.lst xs) S) (fun d m' _ H' => ∀ w, Rep m' H' d w → Q w H')) (r : Reps m H xs vs) : ∀ p, H p = none → Q (.ref p) (upd H p (.lst vs)) := fun p hp => by
  refine post_gr h (m' := m ++ [p]) (Gr.push_new hp) (s.alloc hp r) _ (.ref ?_)
  rw [← s.len]; simp
theorem getM_bind {α : Type} {E : Str → Option Nat → List Addr → Store → Hp → Prop} {l : Nat} {f : List D → M α} {F : α → List Addr → Store → Hp → Prop} (h : post K E m H ((getM l >>= f) S) F) : ∃ xs, S[l]? = some (.lst xs) ∧ post K E m H (f xs S) F := by
  rw [bind_eq] at h
  unfold getM at h
  cases e : S[l]? with
  | none => rw [e] at h; exact h.elim
  | some o =>
    rw [e] at h
    cases o with
    | lst xs => exact ⟨xs, rfl, h⟩
    | frz xs => exact h.elim
theorem getL_bind {α : Type} {E : Str → Option Nat → List Addr → Store → Hp → Prop} {l : Nat} {f : List D → M α} {F : α → List Addr → Store → Hp → Prop} (h : post K E m H ((getL l >>= f) S) F) : ∃ o, S[l]? = some o ∧ post K E m H (f (items o) S) F := by
  rw [bind_eq] at h
  unfold getL at h
  cases e : S[l]? with
  | none => rw [e] at h; exact h.elim
  | some o =>
    rw [e] at h
    exact ⟨o, rfl, h⟩
theorem post_ite {α : Type} {E : Str → Option Nat → List Addr → Store → Hp → Prop} {c : Prop} {_ : Decidable c} {f : M α} {F : α → List Addr → Store → Hp → Prop} (h : post K E m H ((if c then f else die) S) F) : c ∧ post K E m H (f S) F := by
  by_cases hc : c
  · rw [if_pos hc] at h; exact ⟨hc, h⟩
  · rw [if_neg hc] at h; exact h.elim
/-- the address of a list of ours -/
theorem SR.lst_at (s : SR K m S H) {l : Nat} {a : Addr} {xs : List D} (h : S[l]? = some (.lst xs)) (e : m[l]? = some a) : ∃ vs, H a = some (.lst vs) ∧ Reps m H xs vs := s.ob l _ a h e
theorem SR.sq_at (s : SR K m S H) {l : Nat} {a : Addr} {o : Ob} (h : S[l]? = some o) (e : m[l]? = some a) : ∃ vs, SqL K H a vs ∧ Reps m H (items o) vs := (s.ob l _ a h e).sq
end
section
variable {X : Cx}
theorem op_mulX' : OpR X (binaryOp .Mult) (rI MulOk fun i j => .int (i * j)) := opI fun _ _ _ _ _ _ _ hc q => mul_int q hc.ok
theorem op_fdivX : OpR X (binaryOp .FloorDiv) (rI (fun _ j => j ≠ 0 ∧ j.natAbs.log2 < 9000) fun i j => .int (i.fdiv j)) := opI fun _ _ _ _ _ _ _ hc q => floordiv_int hc.1 q (.inl (PyProof.noPylong_of_log2 hc.2))
theorem op_powX : OpR X (binaryOp .Pow) (rI (fun i j => 0 ≤ j ∧ (Builtin.Int.intBits i : Int) * j ≤ 2 ^ 27) fun i j => .int (i ^ j.toNat)) := opI fun _ _ _ _ _ _ _ hc q => PyProof.Rows.pow_int hc.1 hc.2 q
theorem op_binD : ∀ (o : Bop), OpR X (binaryOp o.op) (rD X.K (binD o))
  | .add => by
    refine OpR.imp (OpR.or op_add op_cat) ?_
    intro v u H Q h
    obtain ⟨Ex, m, S, x, y, s, rx, ry, h⟩ := h
    cases rx <;> cases ry <;> try exact (show False from h).elim
    · exact .inl ⟨_, _, rfl, rfl, post_val s h (.int _)⟩
    · rename_i ea _ _ eb
      obtain ⟨xs, e1, h⟩ := getM_bind h
      obtain ⟨ys, e2, h⟩ := getM_bind h
      obtain ⟨hc, h⟩ := post_ite h
      obtain ⟨vs, h1, r1⟩ := s.lst_at e1 ea
      obtain ⟨us, h2, r2⟩ := s.lst_at e2 eb
      exact .inr ⟨_, _, vs, us, rfl, rfl, h1, h2, by rw [← r1.length, ← r2.length]; exact hc, post_alloc s h (r1.append r2)⟩
  | .sub => by
    refine OpR.imp op_sub ?_
    intro v u H Q h
    obtain ⟨Ex, m, S, x, y, s, rx, ry, h⟩ := h
    cases rx <;> cases ry <;> try exact (show False from h).elim
    exact ⟨_, _, rfl, rfl, post_val s h (.int _)⟩
  | .mul => by
    refine OpR.imp (OpR.or op_mulX' op_rep) ?_
    intro v u H Q h
    obtain ⟨Ex, m, S, x, y, s, rx, ry, h⟩ := h
    cases rx <;> cases ry <;> try exact (show False from h).elim
    · obtain ⟨hc, h⟩ := post_ite h
      exact .inl ⟨_, _, rfl, rfl, hc, post_val s h (.int _)⟩
    · rename_i ea n
      obtain ⟨xs, e1, h⟩ := getM_bind h
      obtain ⟨⟨c1, c2, c3⟩, h⟩ := post_ite h
      obtain ⟨vs, h1, r1⟩ := s.lst_at e1 ea
      refine .inr ⟨_, _, vs, rfl, rfl, h1, c1, c2, by rw [← r1.length]; exact c3, post_alloc s h ?_⟩
      generalize n.toNat = k
      induction k with
      | zero => exact .nil
      | succ k ih =>
        rw [List.replicate_succ, List.replicate_succ, List.flatten_cons, List.flatten_cons]
        exact r1.append ih
  | .fdiv => by
    refine OpR.imp op_fdivX ?_
    intro v u H Q h
    obtain ⟨Ex, m, S, x, y, s, rx, ry, h⟩ := h
    cases rx <;> cases ry <;> try exact (show False from h).elim
    obtain ⟨hc, h⟩ := post_ite h
    exact ⟨_, _, rfl, rfl, hc, post_val s h (.int _)⟩
  | .mod => by
    refine OpR.imp op_modN ?_
    intro v u H Q h
    obtain ⟨Ex, m, S, x, y, s, rx, ry, h⟩ := h
    cases rx <;> cases ry <;> try exact (show False from h).elim
    obtain ⟨hc, h⟩ := post_ite h
    exact ⟨_, _, rfl, rfl, hc, post_val s h (.int _)⟩
  | .pow => by
    refine OpR.imp op_powX ?_
    intro v u H Q h
    obtain ⟨Ex, m, S, x, y, s, rx, ry, h⟩ := h
    cases rx <;> cases ry <;> try exact (show False from h).elim
    obtain ⟨hc, h⟩ := post_ite h
    exact ⟨_, _, rfl, rfl, hc, post_val s h (.int _)⟩

/-! ### data -/
theorem mapO_get {α β : Type} {f : α → Option β} : ∀ {xs : List α} {ys : List β}, mapO f xs = some ys → ys.length = xs.length ∧ ∀ (i : Nat) (x : α), xs[i]? = some x → ∃ y, ys[i]? = some y ∧ f x = some y
  | [], ys, h => by
    unfold mapO at h
    cases h
    exact ⟨rfl, fun i x e => by simp at e⟩
  | x :: xs, ys, h => by
    unfold mapO at h
    cases e1 : f x with
    | none => rw [e1] at h; cases h
    | some y =>
      cases e2 : mapO f xs with
      | none => rw [e1, e2] at h; cases h
      | some ys' =>
        rw [e1, e2] at h
        cases h
        obtain ⟨l, g⟩ := mapO_get e2
        refine ⟨by simp [l], fun i z e => ?_⟩
        cases i with
        | zero => simp at e; subst e; exact ⟨y, rfl, e1⟩
        | succ i => simp at e; obtain ⟨w, w1, w2⟩ := g i z e; exact ⟨w, by simpa using w1, w2⟩
section
variable {K : PySem.W.Frag} {m : List Addr} {S : Store} {H : Hp}
theorem dpAll_of {f : D → Option PyData} (ih : ∀ (d : D) (v : V) (p : PyData), Rep m H d v → f d = some p → Dp K H v p) : ∀ {ds : List D} {vs : List V} {ps : List PyData}, Reps m H ds vs → mapO f ds = some ps → DpAll K H vs ps
  | [], _, _, r, h => by
    cases r
    unfold mapO at h
    cases h
    exact .nil
  | d :: ds, _, _, r, h => by
    cases r with
    | cons r1 r2 =>
      unfold mapO at h
      cases e1 : f d with
      | none => rw [e1] at h; cases h
      | some y =>
        cases e2 : mapO f ds with
        | none => rw [e1, e2] at h; cases h
        | some ys' =>
          rw [e1, e2] at h
          cases h
          exact .cons (ih d _ y r1 e1) (dpAll_of ih r2 e2)
theorem dp_of (s : SR K m S H) : ∀ (k : Nat) (d : D) (v : V) (p : PyData), Rep m H d v → pd S k d = some p → Dp K H v p
  | 0, d, v, p, r, h => by
    cases r <;> unfold pd at h
    · cases h; exact .non
    · cases h; exact .bl _
    · cases h; exact .int _
    · split at h
      · cases h; exact .str _
      · cases h
    · cases h
    · cases h
  | k + 1, d, v, p, r, h => by
    cases r with
    | non => unfold pd at h; cases h; exact .non
    | bl b => unfold pd at h; cases h; exact .bl _
    | int i => unfold pd at h; cases h; exact .int _
    | str x =>
      unfold pd at h
      split at h
      · cases h; exact .str _
      · cases h
    | tup e rs =>
      rename_i a xs vs
      unfold pd at h
      cases e1 : mapO (pd S k) xs with
      | none => rw [e1] at h; cases h
      | some ps =>
        rw [e1] at h
        cases h
        exact .tup (SqT.of e) (dpAll_of (dp_of s k) rs e1)
    | ref e =>
      rename_i l a
      unfold pd at h
      cases e0 : S[l]? with
      | none => rw [e0] at h; cases h
      | some o =>
        rw [e0] at h
        dsimp only at h
        cases e1 : mapO (pd S k) (items o) with
        | none => rw [e1] at h; cases h
        | some ps =>
          rw [e1] at h
          cases h
          obtain ⟨vs, q, rs⟩ := s.sq_at e0 e
          exact .lst q (dpAll_of (dp_of s k) rs e1)
end
theorem canAll_of {f : D → Option PyData} {n : Nat} (ih : ∀ (d : D) (p : PyData), f d = some p → p.canLay0 = true ∧ p.depth ≤ n) : ∀ {ds : List D} {ps : List PyData}, mapO f ds = some ps → PyData.canLayAll0 ps = true ∧ PyData.depthAll ps ≤ n
  | [], _, h => by
    unfold mapO at h
    cases h
    exact ⟨by simp [PyData.canLayAll0], by simp [PyData.depthAll]⟩
  | d :: ds, _, h => by
    unfold mapO at h
    cases e1 : f d with
    | none => rw [e1] at h; cases h
    | some y =>
      cases e2 : mapO f ds with
      | none => rw [e1, e2] at h; cases h
      | some ys' =>
        rw [e1, e2] at h
        cases h
        obtain ⟨h1, h2⟩ := canAll_of ih e2
        obtain ⟨h3, h4⟩ := ih d y e1
        refine ⟨by simp [PyData.canLayAll0, h1, h3], ?_⟩
        simp only [PyData.depthAll]
        omega
theorem pd_shape {S : Store} : ∀ (k : Nat) (d : D) (p : PyData), pd S k d = some p → p.canLay0 = true ∧ p.depth ≤ k
  | 0, d, p, h => by
    cases d <;> unfold pd at h <;> first
      | (cases h; exact ⟨by simp [PyData.canLay0], by simp [PyData.depth]⟩)
      | (split at h <;> cases h; exact ⟨by simp only [PyData.canLay0]; assumption, by simp [PyData.depth]⟩)
      | cases h
  | k + 1, d, p, h => by
    cases d with
    | non => unfold pd at h; cases h; exact ⟨by simp [PyData.canLay0], by simp [PyData.depth]⟩
    | bl b => unfold pd at h; cases h; exact ⟨by simp [PyData.canLay0], by simp [PyData.depth]⟩
    | int i => unfold pd at h; cases h; exact ⟨by simp [PyData.canLay0], by simp [PyData.depth]⟩
    | str x =>
      unfold pd at h
      split at h
      · cases h; exact ⟨by simp only [PyData.canLay0]; assumption, by simp [PyData.depth]⟩
      · cases h
    | tup xs =>
      unfold pd at h
      cases e1 : mapO (pd S k) xs with
      | none => rw [e1] at h; cases h
      | some ps =>
        rw [e1] at h
        cases h
        obtain ⟨h1, h2⟩ := canAll_of (pd_shape k) e1
        exact ⟨by simp only [PyData.canLay0]; exact h1, by simp only [PyData.depth]; omega⟩
    | ref l =>
      unfold pd at h
      cases e0 : S[l]? with
      | none => rw [e0] at h; cases h
      | some o =>
        rw [e0] at h
        dsimp only at h
        cases e1 : mapO (pd S k) (items o) with
        | none => rw [e1] at h; cases h
        | some ps =>
          rw [e1] at h
          cases h
          obtain ⟨h1, h2⟩ := canAll_of (pd_shape k) e1
          exact ⟨by simp only [PyData.canLay0]; exact h1, by simp only [PyData.depth]; omega⟩
theorem pd_shaped {S : Store} {k : Nat} {d : D} {p : PyData} (h : pd S k d = some p) (hk : k ≤ 64) : SeqAt.shaped p = true := by
  obtain ⟨h1, h2⟩ := pd_shape k d p h
  show (p.canLay0 && decide (p.depth ≤ 64)) = true
  rw [Bool.and_eq_true]
  exact ⟨h1, decide_eq_true (by omega)⟩
end
end NL

namespace NL
open PySem PySem.Spec PyProof.Rows L2
/-! ### comparisons -/
theorem mapO_mono {α β : Type} {f g : α → Option β} (h : ∀ x y, f x = some y → g x = some y) : ∀ {xs : List α} {ys : List β}, mapO f xs = some ys → mapO g xs = some ys
  | [], _, e => e
  | x :: xs, _, e => by
    unfold mapO at e ⊢
    cases e1 : f x with
    | none => rw [e1] at e; cases e
    | some y =>
      cases e2 : mapO f xs with
      | none => rw [e1, e2] at e; cases e
      | some ys' =>
        rw [e1, e2] at e
        rw [h _ _ e1, mapO_mono h e2]
        exact e
theorem pd_nil {S : Store} : ∀ (k : Nat) (d : D) (p : PyData), pd [] k d = some p → pd S k d = some p
  | 0, d, p, h => by cases d <;> first | exact h | (unfold pd at h; cases h)
  | k + 1, d, p, h => by
    cases d with
    | tup xs =>
      unfold pd at h ⊢
      cases e : mapO (pd [] k) xs with
      | none => rw [e] at h; cases h
      | some ps => rw [e] at h; rw [mapO_mono (pd_nil k) e]; exact h
    | ref l => unfold pd at h; simp at h
    | non => exact h
    | bl b => exact h
    | int i => exact h
    | str x => exact h
section
variable {X : Cx} {pins : List (Addr × Obj)} {σ : L2.St} {H : Hp} {s : Shared} {m : List Addr} {S : Store}
theorem eq_at (I : Inv X pins σ H s) (sr : SR X.K m S H) {k : Nat} {x y : D} {p q : PyData} {v w : V} {u u' : Value} (hx : pd S k x = some p) (hy : pd S k y = some q) (rx : Rep m H x v) (ry : Rep m H y w) (rv : RelV v u) (rw' : RelV w u')
    (A : Around) (hu : A.units + k < cLine) : PySem.SeqAt.EqAt A s u u' (PyData.eqv p q) := by
  obtain ⟨as, r1⟩ := Dp.reads I p v u (dp_of sr k x v p rx hx) rv
  obtain ⟨bs, r2⟩ := Dp.reads I q w u' (dp_of sr k y w q ry hy) rw'
  obtain ⟨c1, d1⟩ := pd_shape k x p hx
  obtain ⟨c2, d2⟩ := pd_shape k y q hy
  exact SeqAt.eqAt_reads p q A s u u' as bs r1 r2 c1 c2 (by have : min p.depth q.depth ≤ k := Nat.le_trans (Nat.min_le_left _ _) d1; omega)
theorem lex_at {o : Cop} (ho : o = .lt ∨ o = .le ∨ o = .gt ∨ o = .ge) {f : D → D → Option Bool} : ∀ (xs ys : List D) (i : Nat) (e r : Nat → Bool) (b : Bool), lexO o f xs ys = some b →
    (∀ j x y, xs[j]? = some x → ys[j]? = some y → eqD [] x y = some (e (i + j))) → (∀ j x y, xs[j]? = some x → ys[j]? = some y → e (i + j) = false → f x y = some (r (i + j))) →
    b = Ob.lexAt e r (ord4 o xs.length ys.length) i (min xs.length ys.length)
  | [], [], i, e, r, b, h, _, _ => by
    unfold lexO at h
    cases h
    rfl
  | [], y :: ys, i, e, r, b, h, _, _ => by
    unfold lexO at h
    cases h
    rw [List.length_nil, Nat.zero_min, Ob.lexAt_zero]
    rcases ho with rfl | rfl | rfl | rfl <;> simp [ord4] <;> omega
  | x :: xs, [], i, e, r, b, h, _, _ => by
    unfold lexO at h
    cases h
    rw [List.length_nil, Nat.min_zero, Ob.lexAt_zero]
    rcases ho with rfl | rfl | rfl | rfl <;> simp [ord4] <;> omega
  | x :: xs, y :: ys, i, e, r, b, h, he, hr => by
    have e0 := he 0 x y rfl rfl
    rw [Nat.add_zero] at e0
    have hm : min (x :: xs).length (y :: ys).length = min xs.length ys.length + 1 := by simp only [List.length_cons]; omega
    rw [hm, Ob.lexAt_succ]
    unfold lexO at h
    rw [e0] at h
    have hl : ord4 o ((x :: xs).length : Nat) ((y :: ys).length : Nat) = ord4 o (xs.length : Nat) (ys.length : Nat) := by
      rcases ho with rfl | rfl | rfl | rfl <;> simp only [ord4, List.length_cons] <;> congr 1 <;> simp
    cases q : e i with
    | true =>
      rw [q] at h
      rw [if_pos rfl, hl]
      exact lex_at ho xs ys (i + 1) e r b h (fun j x' y' h1 h2 => by rw [show i + 1 + j = i + (j + 1) by omega]; exact he (j + 1) x' y' h1 h2) (fun j x' y' h1 h2 => by rw [show i + 1 + j = i + (j + 1) by omega]; exact hr (j + 1) x' y' h1 h2)
    | false =>
      rw [q] at h
      rw [if_neg Bool.false_ne_true]
      have z := hr 0 x y rfl rfl (by rw [Nat.add_zero]; exact q)
      rw [Nat.add_zero] at z
      rw [z] at h
      exact (Option.some.inj h).symm
theorem ordD_cases {o : Cop} {k : Nat} {x y : D} {b : Bool} (h : ordD o k x y = some b) : (∃ i j, x = .int i ∧ y = .int j ∧ b = ord4 o i j) ∨ ∃ k' xs ys, k = k' + 1 ∧ x = .tup xs ∧ y = .tup ys ∧
    ((xs.zip ys).all fun p => match eqD [] p.1 p.2 with | some true => true | some false => (ordD o k' p.1 p.2).isSome | none => false) = true ∧ lexO o (ordD o k') xs ys = some b := by
  cases k with
  | zero =>
    cases x <;> cases y <;> simp only [ordD] at h <;> try cases h
    exact .inl ⟨_, _, rfl, rfl, rfl⟩
  | succ k =>
    cases x <;> cases y <;> simp only [ordD] at h <;> try cases h
    · exact .inl ⟨_, _, rfl, rfl, rfl⟩
    · split at h
      · rename_i hall
        exact .inr ⟨_, _, _, rfl, rfl, rfl, hall, h⟩
      · cases h
theorem ord_rc (I : Inv X pins σ H s) (sr : SR X.K m S H) {o : Cop} (ho : o = .lt ∨ o = .le ∨ o = .gt ∨ o = .ge) : ∀ (k : Nat) (x y : D) (b : Bool) (v w : V) (u u' : Value) (A : Around), ordD o k x y = some b → Rep m H x v → Rep m H y w → RelV v u → RelV w u' →
    A.units + k + 14 < cLine → Ob.RcOp o.op A s u u' b := by
  intro k
  induction k with
  | zero =>
    intro x y b v w u u' A h rx ry rv rw' hu
    rcases ordD_cases h with ⟨i, j, rfl, rfl, rfl⟩ | ⟨k', xs, ys, e, _⟩
    · cases rx
      cases ry
      obtain ⟨t, rfl⟩ := rv
      obtain ⟨t', rfl⟩ := rw'
      rcases ho with rfl | rfl | rfl | rfl
      · exact Ob.RcOp.lt_int _ _ _ _
      · exact Ob.RcOp.le_int _ _ _ _
      · exact Ob.RcOp.gt_int _ _ _ _
      · exact Ob.RcOp.ge_int _ _ _ _
    · cases e
  | succ k ih =>
    intro x y b v w u u' A h rx ry rv rw' hu
    rcases ordD_cases h with ⟨i, j, rfl, rfl, rfl⟩ | ⟨k', xs, ys, e, rfl, rfl, hall, h⟩
    · cases rx
      cases ry
      obtain ⟨t, rfl⟩ := rv
      obtain ⟨t', rfl⟩ := rw'
      rcases ho with rfl | rfl | rfl | rfl
      · exact Ob.RcOp.lt_int _ _ _ _
      · exact Ob.RcOp.le_int _ _ _ _
      · exact Ob.RcOp.gt_int _ _ _ _
      · exact Ob.RcOp.ge_int _ _ _ _
    · cases e
      cases rx with
      | tup ea ra =>
        cases ry with
        | tup eb rb =>
          cases rv
          cases rw'
          obtain ⟨its, r1, p1, z1⟩ := I.tuple (SqT.of ea)
          obtain ⟨its2, r2, p2, z2⟩ := I.tuple (SqT.of eb)
          rw [List.all_eq_true] at hall
          have hp : ∀ (j : Nat) (x y : D), xs[j]? = some x → ys[j]? = some y → ∃ c, eqD [] x y = some c ∧ (c = false → (ordD o k x y).isSome = true) := fun j x y h1 h2 => by
            have hm : (x, y) ∈ xs.zip ys := List.mem_of_getElem? (i := j) (by rw [List.getElem?_zip_eq_some]; exact ⟨h1, h2⟩)
            have q := hall _ hm
            dsimp only at q
            cases e : eqD [] x y with
            | none => rw [e] at q; cases q
            | some c =>
              refine ⟨c, rfl, fun hc => ?_⟩
              subst hc
              rw [e] at q
              exact q
          have e : ∃ e : Nat → Bool, ∀ (j : Nat) (x y : D), xs[j]? = some x → ys[j]? = some y → eqD [] x y = some (e j) := ⟨fun j => match xs[j]?, ys[j]? with | some x, some y => (eqD [] x y).getD false | _, _ => false, fun j x y h1 h2 => by
            obtain ⟨c, hc, _⟩ := hp j x y h1 h2
            dsimp only
            rw [h1, h2]
            dsimp only
            rw [hc]; rfl⟩
          obtain ⟨e, he⟩ := e
          have r : ∃ r : Nat → Bool, ∀ (j : Nat) (x y : D), xs[j]? = some x → ys[j]? = some y → e j = false → ordD o k x y = some (r j) := ⟨fun j => match xs[j]?, ys[j]? with | some x, some y => (ordD o k x y).getD false | _, _ => false, fun j x y h1 h2 h3 => by
            obtain ⟨c, hc, hs⟩ := hp j x y h1 h2
            have := he j x y h1 h2
            rw [hc] at this
            cases this
            obtain ⟨d, hd⟩ := Option.isSome_iff_exists.mp (hs h3)
            dsimp only
            rw [h1, h2]
            dsimp only
            rw [hd]; rfl⟩
          obtain ⟨r, hr⟩ := r
          have hb := lex_at ho xs ys 0 e r b h (fun j x y h1 h2 => by rw [Nat.zero_add]; exact he j x y h1 h2) (fun j x y h1 h2 h3 => by rw [Nat.zero_add] at h3 ⊢; exact hr j x y h1 h2 h3)
          have n1 : its.toArray.size = xs.length := by rw [List.size_toArray, ← r1.length, ra.length]
          have n2 : its2.toArray.size = ys.length := by rw [List.size_toArray, ← r2.length, rb.length]
          have at1 : ∀ (j : Nat) (hj : j < its.toArray.size), ∃ x v, xs[j]? = some x ∧ Rep m H x v ∧ RelV v its.toArray[j] := fun j hj => by
            have hj' : j < xs.length := by omega
            obtain ⟨v, h1, h2⟩ := ra.get (List.getElem?_eq_getElem hj')
            obtain ⟨u, h3, h4⟩ := r1.get h1
            refine ⟨_, v, List.getElem?_eq_getElem hj', h2, ?_⟩
            have : its.toArray[j] = u := by
              have hl : j < its.length := by simpa using hj
              rw [List.getElem?_eq_getElem hl] at h3
              simpa using Option.some.inj h3
            rw [this]; exact h4
          have at2 : ∀ (j : Nat) (hj : j < its2.toArray.size), ∃ x v, ys[j]? = some x ∧ Rep m H x v ∧ RelV v its2.toArray[j] := fun j hj => by
            have hj' : j < ys.length := by omega
            obtain ⟨v, h1, h2⟩ := rb.get (List.getElem?_eq_getElem hj')
            obtain ⟨u, h3, h4⟩ := r2.get h1
            refine ⟨_, v, List.getElem?_eq_getElem hj', h2, ?_⟩
            have : its2.toArray[j] = u := by
              have hl : j < its2.length := by simpa using hj
              rw [List.getElem?_eq_getElem hl] at h3
              simpa using Option.some.inj h3
            rw [this]; exact h4
          have HE : ∀ j (h1 : j < its.toArray.size) (h2 : j < its2.toArray.size), PySem.SeqAt.EqAt A.in1 s its.toArray[j] its2.toArray[j] (e j) := fun j h1 h2 => by
            obtain ⟨x, v, q1, q2, q3⟩ := at1 j h1
            obtain ⟨y, w, q4, q5, q6⟩ := at2 j h2
            have q := he j x y q1 q4
            unfold eqD at q
            cases c1 : pd [] 12 x with
            | none => rw [c1] at q; cases q
            | some p =>
              cases c2 : pd [] 12 y with
              | none => rw [c1, c2] at q; cases q
              | some p' =>
                rw [c1, c2] at q
                have q' := Option.some.inj q
                rw [← q']
                exact eq_at I sr (pd_nil 12 x p c1) (pd_nil 12 y p' c2) q2 q5 q3 q6 A.in1 (by show A.units + 1 + 12 < cLine; omega)
          have HR : ∀ j (h1 : j < its.toArray.size) (h2 : j < its2.toArray.size), e j = false → Ob.RcOp o.op A.in1 s its.toArray[j] its2.toArray[j] (r j) := fun j h1 h2 h3 => by
            obtain ⟨x, v, q1, q2, q3⟩ := at1 j h1
            obtain ⟨y, w, q4, q5, q6⟩ := at2 j h2
            exact ih x y (r j) v w _ _ A.in1 (hr j x y q1 q4 h3) q2 q5 q3 q6 (by show A.units + 1 + k + 14 < cLine; omega)
          rw [hb]
          rcases ho with rfl | rfl | rfl | rfl
          · have z := Ob.RcOp.tuples_lt p1 p2 (by omega) HE HR
            rw [n1, n2] at z
            have e2 : ord4 .lt (xs.length : Nat) (ys.length : Nat) = decide (xs.length < ys.length) := by simp [ord4]
            rw [e2]; exact z
          · have z := Ob.RcOp.tuples_le p1 p2 (by omega) HE HR
            rw [n1, n2] at z
            have e2 : ord4 .le (xs.length : Nat) (ys.length : Nat) = decide (xs.length ≤ ys.length) := by simp [ord4]
            rw [e2]; exact z
          · have z := Ob.RcOp.tuples_gt p1 p2 (by omega) HE HR
            rw [n1, n2] at z
            have e2 : ord4 .gt (xs.length : Nat) (ys.length : Nat) = decide (xs.length > ys.length) := by simp [ord4]
            rw [e2]; exact z
          · have z := Ob.RcOp.tuples_ge p1 p2 (by omega) HE HR
            rw [n1, n2] at z
            have e2 : ord4 .ge (xs.length : Nat) (ys.length : Nat) = decide (xs.length ≥ ys.length) := by simp [ord4]
            rw [e2]; exact z
end
end NL

namespace NL
open PySem PySem.Spec PyProof.Rows L2
section
variable {X : Cx}
theorem ofB_some {Ex : Str → Option Nat → List Addr → Store → Hp → Prop} {K : PySem.W.Frag} {m : List Addr} {S : Store} {H : Hp} {b : Option Bool} {F : D → List Addr → Store → Hp → Prop} (h : post K Ex m H (ofB b S) F) : ∃ c, b = some c ∧ post K Ex m H (.ok (.bl c) S) F := by
  cases b with
  | none => exact h.elim
  | some c => exact ⟨c, rfl, h⟩
theorem op_ordD (hu : X.A.units + 26 < cLine) {o : Cop} (ho : o = .lt ∨ o = .le ∨ o = .gt ∨ o = .ge) : OpR X (compareOp o.op) (rD X.K (cmpD o)) := by
  intro pins s σ H v w u u' Q I rv rw' h
  obtain ⟨Ex, m, S, x, y, sr, rx, ry, h⟩ := h
  have h : post X.K Ex m H (ofB (ordD o 12 x y) S) (fun d m' _ H' => ∀ w, Rep m' H' d w → Q w H') := by
    rcases ho with rfl | rfl | rfl | rfl <;> exact h
  obtain ⟨c, e, h⟩ := ofB_some h
  have R := ord_rc I sr ho 12 x y c v w u u' X.A e rx ry rv rw' hu
  have z : wpAny (model X.prog X.w) X.A (richCompare o.op u u') (EP X pins σ Q) X.xe s := R X.prog X.w X.xe (EP X pins σ Q) ⟨.bl c, H, I, rfl, post_val sr h (.bl c)⟩
  rcases ho with rfl | rfl | rfl | rfl <;> exact z
theorem eqD_some {S : Store} {x y : D} {b : Bool} (h : eqD S x y = some b) : ∃ p q, pd S 12 x = some p ∧ pd S 12 y = some q ∧ b = PyData.eqv p q := by
  unfold eqD at h
  cases c1 : pd S 12 x with
  | none => rw [c1] at h; cases h
  | some p =>
    cases c2 : pd S 12 y with
    | none => rw [c1, c2] at h; cases h
    | some q => rw [c1, c2] at h; exact ⟨p, q, rfl, rfl, (Option.some.inj h).symm⟩
theorem op_eqX (hu : X.A.units + 64 < cLine) : OpR X (compareOp .Eq) (rD X.K (cmpD .eq)) := by
  refine OpR.imp (op_eqD hu) ?_
  intro v u H Q h
  obtain ⟨Ex, m, S, x, y, s, rx, ry, h⟩ := h
  obtain ⟨c, e, hp⟩ := ofB_some h
  obtain ⟨p, q, h1, h2, rfl⟩ := eqD_some e
  exact ⟨p, q, dp_of s 12 x v p rx h1, dp_of s 12 y u q ry h2, pd_shaped h1 (by decide), pd_shaped h2 (by decide), post_val s hp (.bl _)⟩
theorem op_neX (hu : X.A.units + 64 < cLine) : OpR X (compareOp .NotEq) (rD X.K (cmpD .ne)) := by
  refine OpR.imp (op_neD hu) ?_
  intro v u H Q h
  obtain ⟨Ex, m, S, x, y, s, rx, ry, h⟩ := h
  obtain ⟨c, e, hp⟩ := ofB_some h
  obtain ⟨b, e', rfl⟩ := Option.map_eq_some_iff.mp e
  obtain ⟨p, q, h1, h2, rfl⟩ := eqD_some e'
  exact ⟨p, q, dp_of s 12 x v p rx h1, dp_of s 12 y u q ry h2, pd_shaped h1 (by decide), pd_shaped h2 (by decide), post_val s hp (.bl _)⟩
theorem all_shape {S : Store} {ds : List D} {ps : List PyData} (h : mapO (pd S 12) ds = some ps) : PyData.canLayAll0 ps = true ∧ PyData.depthAll ps ≤ 12 := canAll_of (pd_shape 12) h
/-- x in a tuple -/
theorem op_in_tup (hu : X.A.units + 65 < cLine) (ng : Bool) : OpR X (compareOp (if ng then .NotIn else .In)) (fun x y H Q => ∃ d ds a xs, Dp X.K H x d ∧ y = .ref a ∧ SqT X.K H a xs ∧ DpAll X.K H xs ds ∧ SeqAt.shaped d = true ∧ PyData.canLayAll0 ds = true ∧ Q (.bl (ng != ds.any fun z => PyData.eqv z d)) H) := by
  intro pins s σ H x y v u Q I rx ry h
  obtain ⟨d, ds, a, xs, hd, rfl, ht, ha, sd, sl, q⟩ := h
  cases ry
  obtain ⟨as, r1⟩ := Dp.reads I d x v hd rx
  obtain ⟨bs, r2⟩ := Dp.reads I (.tuple ds) (.ref a) (.ref a) (.tup ht ha) rfl
  cases ng with
  | true => exact SeqAt.notIn_tuple_reads r2 r1 sl (SeqAt.canLay_of_shaped sd) (room_in_shaped sd hu) ⟨.bl _, H, I, rfl, by simpa using q⟩
  | false => exact SeqAt.in_tuple_reads r2 r1 sl (SeqAt.canLay_of_shaped sd) (room_in_shaped sd hu) ⟨.bl _, H, I, rfl, by simpa using q⟩
theorem inD_some {S : Store} {x y : D} {b : Bool} (h : inD S x y = some b) : ∃ p qs ds, pd S 12 x = some p ∧ mapO (pd S 12) ds = some qs ∧ b = (qs.any fun q => PyData.eqv q p) ∧ (y = .tup ds ∨ ∃ l o, y = .ref l ∧ S[l]? = some o ∧ items o = ds) := by
  cases y with
  | tup ys =>
    simp only [inD] at h
    cases c1 : pd S 12 x with
    | none => rw [c1] at h; cases h
    | some p =>
      cases c2 : mapO (pd S 12) ys with
      | none => rw [c1, c2] at h; cases h
      | some q => rw [c1, c2] at h; exact ⟨p, q, ys, rfl, c2, (Option.some.inj h).symm, .inl rfl⟩
  | ref l =>
    simp only [inD] at h
    cases c0 : S[l]? with
    | none => rw [c0] at h; cases h
    | some o =>
      rw [c0] at h
      dsimp only at h
      cases c1 : pd S 12 x with
      | none => rw [c1] at h; cases h
      | some p =>
        cases c2 : mapO (pd S 12) (items o) with
        | none => rw [c1, c2] at h; cases h
        | some q => rw [c1, c2] at h; exact ⟨p, q, items o, rfl, c2, (Option.some.inj h).symm, .inr ⟨l, o, rfl, c0, rfl⟩⟩
  | _ => simp only [inD] at h; cases h
theorem list_shaped {S : Store} {ds : List D} {ps : List PyData} (h : mapO (pd S 12) ds = some ps) : SeqAt.shaped (.list ps) = true := by
  obtain ⟨h1, h2⟩ := all_shape h
  show (PyData.canLay0 (.list ps) && decide (PyData.depth (.list ps) ≤ 64)) = true
  rw [Bool.and_eq_true]
  exact ⟨by simp only [PyData.canLay0]; exact h1, decide_eq_true (by simp only [PyData.depth]; omega)⟩
theorem op_inX (hu : X.A.units + 65 < cLine) : OpR X (compareOp .In) (rD X.K (cmpD .isIn)) := by
  refine OpR.imp (OpR.or (op_in_tup hu false) (op_inD hu)) ?_
  intro v u H Q h
  obtain ⟨Ex, m, S, x, y, s, rx, ry, h⟩ := h
  obtain ⟨c, e, hp⟩ := ofB_some h
  obtain ⟨p, qs, ds, h1, h2, rfl, h3⟩ := inD_some e
  rcases h3 with rfl | ⟨l, o, rfl, e0, rfl⟩
  · cases ry with
    | tup ea ra => exact .inl ⟨p, qs, _, _, dp_of s 12 x v p rx h1, rfl, SqT.of ea, dpAll_of (dp_of s 12) ra h2, pd_shaped h1 (by decide), (all_shape h2).1, by simpa using post_val s hp (.bl _)⟩
  · cases ry with
    | ref ea =>
      obtain ⟨vs, q, rs⟩ := s.sq_at e0 ea
      exact .inr ⟨p, qs, dp_of s 12 x v p rx h1, .lst q (dpAll_of (dp_of s 12) rs h2), pd_shaped h1 (by decide), list_shaped h2, post_val s hp (.bl _)⟩
theorem op_notInX (hu : X.A.units + 65 < cLine) : OpR X (compareOp .NotIn) (rD X.K (cmpD .notIn)) := by
  refine OpR.imp (OpR.or (op_in_tup hu true) (op_notInD hu)) ?_
  intro v u H Q h
  obtain ⟨Ex, m, S, x, y, s, rx, ry, h⟩ := h
  obtain ⟨c, e, hp⟩ := ofB_some h
  obtain ⟨b, e', rfl⟩ := Option.map_eq_some_iff.mp e
  obtain ⟨p, qs, ds, h1, h2, rfl, h3⟩ := inD_some e'
  rcases h3 with rfl | ⟨l, o, rfl, e0, rfl⟩
  · cases ry with
    | tup ea ra => exact .inl ⟨p, qs, _, _, dp_of s 12 x v p rx h1, rfl, SqT.of ea, dpAll_of (dp_of s 12) ra h2, pd_shaped h1 (by decide), (all_shape h2).1, by simpa using post_val s hp (.bl _)⟩
  · cases ry with
    | ref ea =>
      obtain ⟨vs, q, rs⟩ := s.sq_at e0 ea
      exact .inr ⟨p, qs, dp_of s 12 x v p rx h1, .lst q (dpAll_of (dp_of s 12) rs h2), pd_shaped h1 (by decide), list_shaped h2, post_val s hp (.bl _)⟩
/-- a value and a written None, True, False -/
theorem op_isV (ng : Bool) : OpR X (compareOp (if ng then .IsNot else .Is)) (fun x y H Q => (y = .non ∧ Q (.bl (ng != decide (x = .non))) H) ∨ ∃ b, y = .bl b ∧ Q (.bl (ng != decide (x = .bl b))) H) := by
  intro pins s σ H x y v u Q I rx ry h
  rcases h with ⟨rfl, q⟩ | ⟨b, rfl, q⟩
  · cases ng with
    | true => exact op_notN pins s σ H x .non v u Q I rx ry ⟨rfl, by simpa using q⟩
    | false => exact op_isN pins s σ H x .non v u Q I rx ry ⟨rfl, by simpa using q⟩
  · cases (show u = Value.bool b from ry)
    by_cases e : x = .bl b
    · subst e
      cases (show v = Value.bool b from rx)
      cases ng with
      | true => exact wpAny_isNot_self rfl ⟨.bl false, H, I, rfl, by simpa using q⟩
      | false => exact wpAny_is_self rfl ⟨.bl true, H, I, rfl, by simpa using q⟩
    · have hne : v ≠ Value.bool b := fun z => e (RelV.inj rx (show RelV (.bl b) v from z))
      have hp : plainIs v (Value.bool b) = true := by cases v <;> first | rfl | (cases x <;> first | exact nomatch rx | (obtain ⟨_, z⟩ := rx; cases z))
      cases ng with
      | true => exact wpAny_isNot_other hp hne ⟨.bl true, H, I, rfl, by simpa [e] using q⟩
      | false => exact wpAny_is_other hp hne ⟨.bl false, H, I, rfl, by simpa [e] using q⟩
theorem isD_some {m : List Addr} {H : Hp} {x y : D} {v u : V} {b : Bool} (h : isD x y = some b) (rx : Rep m H x v) (ry : Rep m H y u) : (u = .non ∧ b = decide (v = .non)) ∨ ∃ c, u = .bl c ∧ b = decide (v = .bl c) := by
  cases y <;> simp only [isD] at h <;> try cases h
  · cases ry
    refine .inl ⟨rfl, ?_⟩
    cases rx <;> simp
  · cases ry
    refine .inr ⟨_, rfl, ?_⟩
    cases rx <;> first | (simp; done) | (rename_i c d; cases c <;> cases d <;> rfl)
theorem op_isX : OpR X (compareOp .Is) (rD X.K (cmpD .is_)) := by
  refine OpR.imp (op_isV false) ?_
  intro v u H Q h
  obtain ⟨Ex, m, S, x, y, s, rx, ry, h⟩ := h
  obtain ⟨c, e, hp⟩ := ofB_some h
  rcases isD_some e rx ry with ⟨rfl, rfl⟩ | ⟨b, rfl, rfl⟩
  · exact .inl ⟨rfl, by simpa using post_val s hp (.bl _)⟩
  · exact .inr ⟨b, rfl, by simpa using post_val s hp (.bl _)⟩
theorem op_isNotX : OpR X (compareOp .IsNot) (rD X.K (cmpD .isNot)) := by
  refine OpR.imp (op_isV true) ?_
  intro v u H Q h
  obtain ⟨Ex, m, S, x, y, s, rx, ry, h⟩ := h
  obtain ⟨c, e, hp⟩ := ofB_some h
  obtain ⟨c', e', rfl⟩ := Option.map_eq_some_iff.mp e
  rcases isD_some e' rx ry with ⟨rfl, rfl⟩ | ⟨b, rfl, rfl⟩
  · exact .inl ⟨rfl, by simpa using post_val s hp (.bl _)⟩
  · exact .inr ⟨b, rfl, by simpa using post_val s hp (.bl _)⟩
theorem op_cmpD (hu : X.A.units + 65 < cLine) : ∀ o : Cop, OpR X (compareOp o.op) (rD X.K (cmpD o))
  | .lt => op_ordD (by omega) (.inl rfl)
  | .le => op_ordD (by omega) (.inr (.inl rfl))
  | .gt => op_ordD (by omega) (.inr (.inr (.inl rfl)))
  | .ge => op_ordD (by omega) (.inr (.inr (.inr rfl)))
  | .eq => op_eqX (by omega)
  | .ne => op_neX (by omega)
  | .isIn => op_inX hu
  | .notIn => op_notInX hu
  | .is_ => op_isX
  | .isNot => op_isNotX
/-! ### one place, a place of a list -/
def rD1 (K : PySem.W.Frag) (g : D → M D) : V → Hp → VK → Prop := fun v H Q => ∃ Ex m S x, SR K m S H ∧ Rep m H x v ∧ post K Ex m H (g x S) (fun d m' _ H' => ∀ w, Rep m' H' d w → Q w H')
theorem ix_D : IxR X (rD X.K ixD) := by
  intro value slice pins s σ H v u w w' Q I rv ru h hs
  refine ix_seq value slice pins s σ H v u w w' Q I rv ru ?_ hs
  obtain ⟨Ex, m, S, x, y, sr, rx, ry, h⟩ := h
  cases rx <;> cases ry <;> try exact (show False from h).elim
  · rename_i xs vs ea ra i
    simp only [ixD] at h
    cases e : atI xs i with
    | none => rw [e] at h; exact h.elim
    | some d =>
      rw [e] at h
      obtain ⟨j, h1, h2, h3, h4, h5⟩ := atI_get e
      obtain ⟨w, h6, h7⟩ := ra.get h2
      refine .inr (.inl ⟨_, vs, i, w, rfl, rfl, SqT.of ea, ?_, post_val sr h h7⟩)
      unfold atI at e ⊢
      rw [← ra.length]
      cases e2 : ixN xs.length i with
      | none => rw [e2] at e; cases e
      | some j' =>
        have := (ixN_seq e2).1
        rw [h1] at this
        cases this
        exact h6
  · rename_i l a ea i
    obtain ⟨o, e0, h⟩ := getL_bind h
    obtain ⟨vs, q, ra⟩ := sr.sq_at e0 ea
    cases e : atI (items o) i with
    | none => rw [e] at h; exact h.elim
    | some d =>
      rw [e] at h
      obtain ⟨j, h1, h2, h3, h4, h5⟩ := atI_get e
      obtain ⟨w, h6, h7⟩ := ra.get h2
      refine .inl ⟨_, vs, i, w, rfl, rfl, q, ?_, post_val sr h h7⟩
      unfold atI at e ⊢
      rw [← ra.length]
      cases e2 : ixN (items o).length i with
      | none => rw [e2] at e; cases e
      | some j' =>
        have := (ixN_seq e2).1
        rw [h1] at this
        cases this
        exact h6
end
end NL

/-! min and max of values that are ordered by what stands in the heap (tuples) -/
namespace NL
open PySem PySem.Spec PyProof.Rows
/-- a comparison by places, where G holds of the heap -/
def CmpG (prog : Program) (w : World) (A : Around) (op : CmpOp) (G : Shared → Prop) (P : Nat → Value → Prop) (bt : Nat → Nat → Bool) : Prop :=
  ∀ (i j : Nat) (x y : Value) (s : Shared) (Q E : Value → Shared → Prop), G s → P i x → P j y → Q (.bool (bt i j)) s → wpAny (model prog w) A (richCompare op x y) Q E s
/-- kept but for the iterator's own and T -/
abbrev Kp (wr : List Addr) (T : Addr) (h h' : Heap) : Prop := ∀ b o, b ∉ wr → b ≠ T → h.get? b = some o → h'.get? b = some o
abbrev two (x : Value) (c : Nat) : Obj := { cls := .type "list", dict := none, data := .seq #[x, x] c, slots := #[] }
section
variable {prog : Program} {w : World} {A : Around} {R : Result → Shared → Prop} {I T : Addr} {fp wr : List Addr} {n : Nat} {P : Nat → Value → Prop} {St : Nat → Heap → Prop} {bt : Nat → Nat → Bool} {G : Shared → Prop}

/-! #### min: the running best, with what is known of the heap kept -/
theorem min_turns (W : Walks prog w A.in1 I fp wr n P St) (hG : ∀ (s : Shared) (h' : Heap) (tk : Nat), G s → Kp wr T s.heap h' → G { s with heap := h', toks := tk }) (hc : CmpG prog w A.in1 .Lt G P bt) (hT : T ∉ fp) :
    ∀ (k j : Nat) (s : Shared) (x : Value) (c : Nat), n = j + 1 + k → St (j + 1) s.heap → G s → P (argBest bt j) x → s.heap.get? T = some (two x c) →
      (∀ v h' tk, P (argBest bt (n - 1)) v → Kp wr T s.heap h' → R (.ok (.ret v)) { s with heap := h', toks := tk }) →
      codeAny (model prog w) A (.builtin "min.loop" ⟨[.ref I, .none, .ref T], []⟩) R s := by
  have hw : T ∉ wr := fun q => hT (W.sub _ q)
  have nm : (toString "min" ++ toString ".loop" : String) = "min.loop" := by decide
  intro k
  induction k with
  | zero =>
    intro j s x c en st g px hx hr
    refine codeAny_builtin F.entry_min_loop (A := A) ?_
    rw [Around.under_plainId F.plain_min_loop _]
    show wpAny _ A.in1 (seqItems? (.ref T) >>= _) _ _ s
    refine wpAny_bind (wpAny_seqItems hx rfl (A := A.in1) ?_)
    show wpAny _ A.in1 (tryCatch (pyNext (.ref I)) _ >>= _) _ _ s
    refine wpAny_bind (wpAny_tryCatch (W.done s _ _ (by rw [en]; exact st) fun h1 tk k1 => ?_))
    have hx1 := k1 T _ hw hx
    show wpAny _ A.in1 (updateSeq T (fun _ => #[]) >>= _) _ _ _
    refine wpAny_bind (wpAny_updateSeq hx1 rfl (wpAny_bind (wpAny_letGo (wpAny_pure ?_))))
    exact hr x _ tk (by rw [en]; exact px) fun b o h1 h2 e => (Heap.get?_update_other _ _ (Ne.symm h2)).trans (k1 b o h1 e)
  | succ k ih =>
    intro j s x c en st g px hx hr
    refine codeAny_builtin F.entry_min_loop (A := A) ?_
    rw [Around.under_plainId F.plain_min_loop _]
    show wpAny _ A.in1 (seqItems? (.ref T) >>= _) _ _ s
    refine wpAny_bind (wpAny_seqItems hx rfl (A := A.in1) ?_)
    show wpAny _ A.in1 (tryCatch (pyNext (.ref I)) _ >>= _) _ _ s
    refine wpAny_bind (wpAny_tryCatch (W.item (j + 1) s _ _ (by omega) st fun v h1 tk pv st1 k1 => ?_))
    have hx1 := k1 T _ hw hx
    have g1 : G { s with heap := h1, toks := tk } := hG _ _ tk g fun b o q _ e => k1 b o q e
    show wpAny _ A.in1 (tryCatch (holding [v, v] (richCompare .Lt v x >>= _)) _ >>= _) _ _ _
    refine wpAny_bind (wpAny_tryCatch (wpAny_holding (wpAny_bind (hc (j + 1) (argBest bt j) v x { s with heap := h1, toks := tk } _ _ g1 pv px ?_))))
    refine wpAny_bind (wpAny_holding (wpAny_truthy_bool (wpAny_bind (wpAny_letGo (wpAny_pure ?_)))))
    cases hb : bt (j + 1) (argBest bt j) with
    | false =>
      simp only [Bool.false_eq_true, if_false]
      refine wpAny_bind (wpAny_letGo ?_)
      rw [nm]
      refine wpAny_pure ⟨plainId_quiet F.plain_min_loop _, ih (j + 1) { s with heap := h1, toks := tk } x c (by omega) st1 g1 (by simp only [argBest, hb, Bool.false_eq_true, if_false]; exact px) hx1 fun v' h2 t2 p2 k2 => ?_⟩
      exact hr v' h2 t2 p2 fun b o q1 q2 e => k2 b o q1 q2 (k1 b o q1 e)
    | true =>
      simp only [if_true]
      refine wpAny_bind (wpAny_updateSeq hx1 rfl (wpAny_bind (wpAny_letGo ?_)))
      rw [nm]
      have kk : ∀ b o, b ≠ T → h1.get? b = some o → (h1.update T (Obj.mapSeq fun _ => #[v, v])).get? b = some o := fun b o q e => (Heap.get?_update_other _ _ (Ne.symm q)).trans e
      refine wpAny_pure ⟨plainId_quiet F.plain_min_loop _, ih (j + 1) { s with heap := _, toks := tk } v _ (by omega) (W.frame _ _ _ st1 fun b hb2 o e => kk b o (fun q => hT (by rw [← q]; exact hb2)) e) (hG { s with heap := h1, toks := tk } _ tk g1 fun b o _ q e => kk b o q e)
        (by simp only [argBest, hb, if_true]; exact pv) (Heap.get?_update_self _ hx1 rfl) fun v' h2 t2 p2 k2 => ?_⟩
      exact hr v' h2 t2 p2 fun b o q1 q2 e => k2 b o q1 q2 (kk b o q2 (k1 b o q1 e))
theorem min_first (W : Walks prog w A.in1 I fp wr n P St) (hG : ∀ (s : Shared) (h' : Heap) (tk : Nat), G s → Kp wr T s.heap h' → G { s with heap := h', toks := tk }) (hc : CmpG prog w A.in1 .Lt G P bt) (hT : T ∉ fp) (hn : 0 < n) {s : Shared} {c : Nat}
    (st : St 0 s.heap) (g : G s) (hx : s.heap.get? T = some { cls := .type "list", dict := none, data := .seq #[] c, slots := #[] })
    (hr : ∀ v h' tk, P (argBest bt (n - 1)) v → Kp wr T s.heap h' → R (.ok (.ret v)) { s with heap := h', toks := tk }) :
    codeAny (model prog w) A (.builtin "min.loop" ⟨[.ref I, .none, .ref T], []⟩) R s := by
  have hw : T ∉ wr := fun q => hT (W.sub _ q)
  have nm : (toString "min" ++ toString ".loop" : String) = "min.loop" := by decide
  refine codeAny_builtin F.entry_min_loop (A := A) ?_
  rw [Around.under_plainId F.plain_min_loop _]
  show wpAny _ A.in1 (seqItems? (.ref T) >>= _) _ _ s
  refine wpAny_bind (wpAny_seqItems hx rfl (A := A.in1) ?_)
  show wpAny _ A.in1 (tryCatch (pyNext (.ref I)) _ >>= _) _ _ s
  refine wpAny_bind (wpAny_tryCatch (W.item 0 s _ _ hn st fun v h1 tk pv st1 k1 => ?_))
  have hx1 := k1 T _ hw hx
  have kk : ∀ b o, b ≠ T → h1.get? b = some o → (h1.update T (Obj.mapSeq fun _ => #[v, v])).get? b = some o := fun b o q e => (Heap.get?_update_other _ _ (Ne.symm q)).trans e
  have g1 : G { s with heap := h1, toks := tk } := hG _ _ tk g fun b o q _ e => k1 b o q e
  show wpAny _ A.in1 (updateSeq T (fun _ => #[v, v]) >>= _) _ _ _
  refine wpAny_bind (wpAny_updateSeq hx1 rfl ?_)
  rw [nm]
  refine wpAny_pure ⟨plainId_quiet F.plain_min_loop _, min_turns W hG hc hT (n - 1) 0 { s with heap := _, toks := tk } v _ (by omega) (W.frame _ _ _ st1 fun b hb2 o e => kk b o (fun q => hT (by rw [← q]; exact hb2)) e) (hG { s with heap := h1, toks := tk } _ tk g1 fun b o _ q e => kk b o q e)
    pv (Heap.get?_update_self _ hx1 rfl) fun v' h2 t2 p2 k2 => ?_⟩
  exact hr v' h2 t2 p2 fun b o q1 q2 e => k2 b o q1 q2 (kk b o q2 (k1 b o q1 e))
/-- min of the items that are walked -/
theorem min_walk {x : Value} {Q : Value → Shared → Prop} {E : Value → Shared → Prop} {s : Shared}
    (h : wpAny (model prog w) A.in1 (pyIter x) (fun it s2 => ∃ I fp wr n P St bt G, it = .ref I ∧ Walks prog w A.in1 I fp wr n P St ∧ St 0 s2.heap ∧ (∀ b ∈ fp, b < s2.heap.objs.size) ∧ 0 < n ∧ G s2 ∧
      (∀ (s : Shared) (h' : Heap) (tk : Nat), G s → (∀ b o, b < s2.heap.objs.size → b ∉ wr → s.heap.get? b = some o → h'.get? b = some o) → G { s with heap := h', toks := tk }) ∧ CmpG prog w A.in1 .Lt G P bt ∧
      ∀ v h' tk, P (argBest bt (n - 1)) v → (∀ b o, b ∉ wr → s2.heap.get? b = some o → h'.get? b = some o) → Q v { s2 with heap := h', toks := tk }) E s) :
    wpAny (model prog w) A (call (.builtin "min") [x]) Q E s := by
  have nm : (toString "min" ++ toString ".loop" : String) = "min.loop" := by decide
  refine call_function_tree F.kind_min F.plain_min F.entry_min (F.args_min1 _) ?_
  show wpAny _ A.in1 (Builtin.Builtins.bindParams "min" ["key", "default"] 0 ⟨[], []⟩ >>= _) _ _ s
  refine wpAny_bind (wpAny_of_eq (a := [none, none]) (by rfl) (wpAny_bind (wpAny_pure (wpAny_bind (wpAny_mono h (fun it s2 h2 => ?_) fun _ _ e => e)))))
  obtain ⟨I, fp, wr, n, P, St, bt, G, rfl, W, st, hfp, hn, g, hG, hc, hq⟩ := h2
  refine wpAny_bind (wpAny_newObj_type ?_)
  rw [nm]
  have lt : ∀ {b : Addr} {o : Obj}, s2.heap.get? b = some o → b ≠ s2.heap.objs.size := fun e => Nat.ne_of_lt (Heap.lt_size e)
  refine wpAny_pure ⟨plainId_quiet F.plain_min_loop _, min_first W (fun a b t ga k => hG a b t ga fun c o q1 q2 e => k c o q2 (Nat.ne_of_lt q1) e) hc (fun hm => Nat.lt_irrefl _ (hfp _ hm)) hn (W.frame _ _ _ st fun b _ o e => Heap.get?_push_of_some _ e)
    (hG _ _ s2.toks g fun b o _ _ e => Heap.get?_push_of_some _ e) (Heap.get?_push_size _ rfl) fun v h' tk pv k => ?_⟩
  exact hq v h' tk pv fun b o q e => k b o q (lt e) (Heap.get?_push_of_some _ e)

/-- min of 2 written values -/
theorem min_args2 {a b : Value} {Q : Value → Shared → Prop} {E : Value → Shared → Prop} {s : Shared}
    (h : wpAny (model prog w) A.in1 (pyIter (.ref s.heap.objs.size)) (fun it s2 => ∃ I fp wr n P St bt G, it = .ref I ∧ Walks prog w A.in1 I fp wr n P St ∧ St 0 s2.heap ∧ (∀ b ∈ fp, b < s2.heap.objs.size) ∧ 0 < n ∧ G s2 ∧
      (∀ (s : Shared) (h' : Heap) (tk : Nat), G s → (∀ b o, b < s2.heap.objs.size → b ∉ wr → s.heap.get? b = some o → h'.get? b = some o) → G { s with heap := h', toks := tk }) ∧ CmpG prog w A.in1 .Lt G P bt ∧
      ∀ v h' tk, P (argBest bt (n - 1)) v → (∀ b o, b ∉ wr → s2.heap.get? b = some o → h'.get? b = some o) → Q v { s2 with heap := h', toks := tk }) E
      { s with heap := s.heap.push { cls := .type "tuple", data := .seq #[a, b] } }) :
    wpAny (model prog w) A (call (.builtin "min") [a, b]) Q E s := by
  have nm : (toString "min" ++ toString ".loop" : String) = "min.loop" := by decide
  refine call_function_tree F.kind_min F.plain_min F.entry_min (by unfold argsOk; kernel_rfl) ?_
  show wpAny _ A.in1 (Builtin.Builtins.bindParams "min" ["key", "default"] 0 ⟨[], []⟩ >>= _) _ _ s
  refine wpAny_bind (wpAny_of_eq (a := [none, none]) (by rfl) ?_)
  show wpAny _ A.in1 (newTuple [a, b] >>= _) _ _ s
  refine wpAny_bind (wpAny_newObj_type (wpAny_bind (wpAny_mono h (fun it s2 h2 => ?_) fun _ _ e => e)))
  obtain ⟨I, fp, wr, n, P, St, bt, G, rfl, W, st, hfp, hn, g, hG, hc, hq⟩ := h2
  refine wpAny_bind (wpAny_newObj_type ?_)
  rw [nm]
  have lt : ∀ {b : Addr} {o : Obj}, s2.heap.get? b = some o → b ≠ s2.heap.objs.size := fun e => Nat.ne_of_lt (Heap.lt_size e)
  refine wpAny_pure ⟨plainId_quiet F.plain_min_loop _, min_first W (fun a b t ga k => hG a b t ga fun c o q1 q2 e => k c o q2 (Nat.ne_of_lt q1) e) hc (fun hm => Nat.lt_irrefl _ (hfp _ hm)) hn (W.frame _ _ _ st fun b _ o e => Heap.get?_push_of_some _ e)
    (hG _ _ s2.toks g fun b o _ _ e => Heap.get?_push_of_some _ e) (Heap.get?_push_size _ rfl) fun v h' tk pv k => ?_⟩
  exact hq v h' tk pv fun b o q e => k b o q (lt e) (Heap.get?_push_of_some _ e)

/-- min of 3 written values -/
theorem min_args3 {a b c : Value} {Q : Value → Shared → Prop} {E : Value → Shared → Prop} {s : Shared}
    (h : wpAny (model prog w) A.in1 (pyIter (.ref s.heap.objs.size)) (fun it s2 => ∃ I fp wr n P St bt G, it = .ref I ∧ Walks prog w A.in1 I fp wr n P St ∧ St 0 s2.heap ∧ (∀ b ∈ fp, b < s2.heap.objs.size) ∧ 0 < n ∧ G s2 ∧
      (∀ (s : Shared) (h' : Heap) (tk : Nat), G s → (∀ b o, b < s2.heap.objs.size → b ∉ wr → s.heap.get? b = some o → h'.get? b = some o) → G { s with heap := h', toks := tk }) ∧ CmpG prog w A.in1 .Lt G P bt ∧
      ∀ v h' tk, P (argBest bt (n - 1)) v → (∀ b o, b ∉ wr → s2.heap.get? b = some o → h'.get? b = some o) → Q v { s2 with heap := h', toks := tk }) E
      { s with heap := s.heap.push { cls := .type "tuple", data := .seq #[a, b, c] } }) :
    wpAny (model prog w) A (call (.builtin "min") [a, b, c]) Q E s := by
  have nm : (toString "min" ++ toString ".loop" : String) = "min.loop" := by decide
  refine call_function_tree F.kind_min F.plain_min F.entry_min (by unfold argsOk; kernel_rfl) ?_
  show wpAny _ A.in1 (Builtin.Builtins.bindParams "min" ["key", "default"] 0 ⟨[], []⟩ >>= _) _ _ s
  refine wpAny_bind (wpAny_of_eq (a := [none, none]) (by rfl) ?_)
  show wpAny _ A.in1 (newTuple [a, b, c] >>= _) _ _ s
  refine wpAny_bind (wpAny_newObj_type (wpAny_bind (wpAny_mono h (fun it s2 h2 => ?_) fun _ _ e => e)))
  obtain ⟨I, fp, wr, n, P, St, bt, G, rfl, W, st, hfp, hn, g, hG, hc, hq⟩ := h2
  refine wpAny_bind (wpAny_newObj_type ?_)
  rw [nm]
  have lt : ∀ {b : Addr} {o : Obj}, s2.heap.get? b = some o → b ≠ s2.heap.objs.size := fun e => Nat.ne_of_lt (Heap.lt_size e)
  refine wpAny_pure ⟨plainId_quiet F.plain_min_loop _, min_first W (fun a b t ga k => hG a b t ga fun c o q1 q2 e => k c o q2 (Nat.ne_of_lt q1) e) hc (fun hm => Nat.lt_irrefl _ (hfp _ hm)) hn (W.frame _ _ _ st fun b _ o e => Heap.get?_push_of_some _ e)
    (hG _ _ s2.toks g fun b o _ _ e => Heap.get?_push_of_some _ e) (Heap.get?_push_size _ rfl) fun v h' tk pv k => ?_⟩
  exact hq v h' tk pv fun b o q e => k b o q (lt e) (Heap.get?_push_of_some _ e)

/-- min of 4 written values -/
theorem min_args4 {a b c d : Value} {Q : Value → Shared → Prop} {E : Value → Shared → Prop} {s : Shared}
    (h : wpAny (model prog w) A.in1 (pyIter (.ref s.heap.objs.size)) (fun it s2 => ∃ I fp wr n P St bt G, it = .ref I ∧ Walks prog w A.in1 I fp wr n P St ∧ St 0 s2.heap ∧ (∀ b ∈ fp, b < s2.heap.objs.size) ∧ 0 < n ∧ G s2 ∧
      (∀ (s : Shared) (h' : Heap) (tk : Nat), G s → (∀ b o, b < s2.heap.objs.size → b ∉ wr → s.heap.get? b = some o → h'.get? b = some o) → G { s with heap := h', toks := tk }) ∧ CmpG prog w A.in1 .Lt G P bt ∧
      ∀ v h' tk, P (argBest bt (n - 1)) v → (∀ b o, b ∉ wr → s2.heap.get? b = some o → h'.get? b = some o) → Q v { s2 with heap := h', toks := tk }) E
      { s with heap := s.heap.push { cls := .type "tuple", data := .seq #[a, b, c, d] } }) :
    wpAny (model prog w) A (call (.builtin "min") [a, b, c, d]) Q E s := by
  have nm : (toString "min" ++ toString ".loop" : String) = "min.loop" := by decide
  refine call_function_tree F.kind_min F.plain_min F.entry_min (by unfold argsOk; kernel_rfl) ?_
  show wpAny _ A.in1 (Builtin.Builtins.bindParams "min" ["key", "default"] 0 ⟨[], []⟩ >>= _) _ _ s
  refine wpAny_bind (wpAny_of_eq (a := [none, none]) (by rfl) ?_)
  show wpAny _ A.in1 (newTuple [a, b, c, d] >>= _) _ _ s
  refine wpAny_bind (wpAny_newObj_type (wpAny_bind (wpAny_mono h (fun it s2 h2 => ?_) fun _ _ e => e)))
  obtain ⟨I, fp, wr, n, P, St, bt, G, rfl, W, st, hfp, hn, g, hG, hc, hq⟩ := h2
  refine wpAny_bind (wpAny_newObj_type ?_)
  rw [nm]
  have lt : ∀ {b : Addr} {o : Obj}, s2.heap.get? b = some o → b ≠ s2.heap.objs.size := fun e => Nat.ne_of_lt (Heap.lt_size e)
  refine wpAny_pure ⟨plainId_quiet F.plain_min_loop _, min_first W (fun a b t ga k => hG a b t ga fun c o q1 q2 e => k c o q2 (Nat.ne_of_lt q1) e) hc (fun hm => Nat.lt_irrefl _ (hfp _ hm)) hn (W.frame _ _ _ st fun b _ o e => Heap.get?_push_of_some _ e)
    (hG _ _ s2.toks g fun b o _ _ e => Heap.get?_push_of_some _ e) (Heap.get?_push_size _ rfl) fun v h' tk pv k => ?_⟩
  exact hq v h' tk pv fun b o q e => k b o q (lt e) (Heap.get?_push_of_some _ e)

/-! #### max: the running best, with what is known of the heap kept -/
theorem max_turns (W : Walks prog w A.in1 I fp wr n P St) (hG : ∀ (s : Shared) (h' : Heap) (tk : Nat), G s → Kp wr T s.heap h' → G { s with heap := h', toks := tk }) (hc : CmpG prog w A.in1 .Gt G P bt) (hT : T ∉ fp) :
    ∀ (k j : Nat) (s : Shared) (x : Value) (c : Nat), n = j + 1 + k → St (j + 1) s.heap → G s → P (argBest bt j) x → s.heap.get? T = some (two x c) →
      (∀ v h' tk, P (argBest bt (n - 1)) v → Kp wr T s.heap h' → R (.ok (.ret v)) { s with heap := h', toks := tk }) →
      codeAny (model prog w) A (.builtin "max.loop" ⟨[.ref I, .none, .ref T], []⟩) R s := by
  have hw : T ∉ wr := fun q => hT (W.sub _ q)
  have nm : (toString "max" ++ toString ".loop" : String) = "max.loop" := by decide
  intro k
  induction k with
  | zero =>
    intro j s x c en st g px hx hr
    refine codeAny_builtin F.entry_max_loop (A := A) ?_
    rw [Around.under_plainId F.plain_max_loop _]
    show wpAny _ A.in1 (seqItems? (.ref T) >>= _) _ _ s
    refine wpAny_bind (wpAny_seqItems hx rfl (A := A.in1) ?_)
    show wpAny _ A.in1 (tryCatch (pyNext (.ref I)) _ >>= _) _ _ s
    refine wpAny_bind (wpAny_tryCatch (W.done s _ _ (by rw [en]; exact st) fun h1 tk k1 => ?_))
    have hx1 := k1 T _ hw hx
    show wpAny _ A.in1 (updateSeq T (fun _ => #[]) >>= _) _ _ _
    refine wpAny_bind (wpAny_updateSeq hx1 rfl (wpAny_bind (wpAny_letGo (wpAny_pure ?_))))
    exact hr x _ tk (by rw [en]; exact px) fun b o h1 h2 e => (Heap.get?_update_other _ _ (Ne.symm h2)).trans (k1 b o h1 e)
  | succ k ih =>
    intro j s x c en st g px hx hr
    refine codeAny_builtin F.entry_max_loop (A := A) ?_
    rw [Around.under_plainId F.plain_max_loop _]
    show wpAny _ A.in1 (seqItems? (.ref T) >>= _) _ _ s
    refine wpAny_bind (wpAny_seqItems hx rfl (A := A.in1) ?_)
    show wpAny _ A.in1 (tryCatch (pyNext (.ref I)) _ >>= _) _ _ s
    refine wpAny_bind (wpAny_tryCatch (W.item (j + 1) s _ _ (by omega) st fun v h1 tk pv st1 k1 => ?_))
    have hx1 := k1 T _ hw hx
    have g1 : G { s with heap := h1, toks := tk } := hG _ _ tk g fun b o q _ e => k1 b o q e
    show wpAny _ A.in1 (tryCatch (holding [v, v] (richCompare .Gt v x >>= _)) _ >>= _) _ _ _
    refine wpAny_bind (wpAny_tryCatch (wpAny_holding (wpAny_bind (hc (j + 1) (argBest bt j) v x { s with heap := h1, toks := tk } _ _ g1 pv px ?_))))
    refine wpAny_bind (wpAny_holding (wpAny_truthy_bool (wpAny_bind (wpAny_letGo (wpAny_pure ?_)))))
    cases hb : bt (j + 1) (argBest bt j) with
    | false =>
      simp only [Bool.false_eq_true, if_false]
      refine wpAny_bind (wpAny_letGo ?_)
      rw [nm]
      refine wpAny_pure ⟨plainId_quiet F.plain_max_loop _, ih (j + 1) { s with heap := h1, toks := tk } x c (by omega) st1 g1 (by simp only [argBest, hb, Bool.false_eq_true, if_false]; exact px) hx1 fun v' h2 t2 p2 k2 => ?_⟩
      exact hr v' h2 t2 p2 fun b o q1 q2 e => k2 b o q1 q2 (k1 b o q1 e)
    | true =>
      simp only [if_true]
      refine wpAny_bind (wpAny_updateSeq hx1 rfl (wpAny_bind (wpAny_letGo ?_)))
      rw [nm]
      have kk : ∀ b o, b ≠ T → h1.get? b = some o → (h1.update T (Obj.mapSeq fun _ => #[v, v])).get? b = some o := fun b o q e => (Heap.get?_update_other _ _ (Ne.symm q)).trans e
      refine wpAny_pure ⟨plainId_quiet F.plain_max_loop _, ih (j + 1) { s with heap := _, toks := tk } v _ (by omega) (W.frame _ _ _ st1 fun b hb2 o e => kk b o (fun q => hT (by rw [← q]; exact hb2)) e) (hG { s with heap := h1, toks := tk } _ tk g1 fun b o _ q e => kk b o q e)
        (by simp only [argBest, hb, if_true]; exact pv) (Heap.get?_update_self _ hx1 rfl) fun v' h2 t2 p2 k2 => ?_⟩
      exact hr v' h2 t2 p2 fun b o q1 q2 e => k2 b o q1 q2 (kk b o q2 (k1 b o q1 e))
theorem max_first (W : Walks prog w A.in1 I fp wr n P St) (hG : ∀ (s : Shared) (h' : Heap) (tk : Nat), G s → Kp wr T s.heap h' → G { s with heap := h', toks := tk }) (hc : CmpG prog w A.in1 .Gt G P bt) (hT : T ∉ fp) (hn : 0 < n) {s : Shared} {c : Nat}
    (st : St 0 s.heap) (g : G s) (hx : s.heap.get? T = some { cls := .type "list", dict := none, data := .seq #[] c, slots := #[] })
    (hr : ∀ v h' tk, P (argBest bt (n - 1)) v → Kp wr T s.heap h' → R (.ok (.ret v)) { s with heap := h', toks := tk }) :
    codeAny (model prog w) A (.builtin "max.loop" ⟨[.ref I, .none, .ref T], []⟩) R s := by
  have hw : T ∉ wr := fun q => hT (W.sub _ q)
  have nm : (toString "max" ++ toString ".loop" : String) = "max.loop" := by decide
  refine codeAny_builtin F.entry_max_loop (A := A) ?_
  rw [Around.under_plainId F.plain_max_loop _]
  show wpAny _ A.in1 (seqItems? (.ref T) >>= _) _ _ s
  refine wpAny_bind (wpAny_seqItems hx rfl (A := A.in1) ?_)
  show wpAny _ A.in1 (tryCatch (pyNext (.ref I)) _ >>= _) _ _ s
  refine wpAny_bind (wpAny_tryCatch (W.item 0 s _ _ hn st fun v h1 tk pv st1 k1 => ?_))
  have hx1 := k1 T _ hw hx
  have kk : ∀ b o, b ≠ T → h1.get? b = some o → (h1.update T (Obj.mapSeq fun _ => #[v, v])).get? b = some o := fun b o q e => (Heap.get?_update_other _ _ (Ne.symm q)).trans e
  have g1 : G { s with heap := h1, toks := tk } := hG _ _ tk g fun b o q _ e => k1 b o q e
  show wpAny _ A.in1 (updateSeq T (fun _ => #[v, v]) >>= _) _ _ _
  refine wpAny_bind (wpAny_updateSeq hx1 rfl ?_)
  rw [nm]
  refine wpAny_pure ⟨plainId_quiet F.plain_max_loop _, max_turns W hG hc hT (n - 1) 0 { s with heap := _, toks := tk } v _ (by omega) (W.frame _ _ _ st1 fun b hb2 o e => kk b o (fun q => hT (by rw [← q]; exact hb2)) e) (hG { s with heap := h1, toks := tk } _ tk g1 fun b o _ q e => kk b o q e)
    pv (Heap.get?_update_self _ hx1 rfl) fun v' h2 t2 p2 k2 => ?_⟩
  exact hr v' h2 t2 p2 fun b o q1 q2 e => k2 b o q1 q2 (kk b o q2 (k1 b o q1 e))
/-- max of the items that are walked -/
theorem max_walk {x : Value} {Q : Value → Shared → Prop} {E : Value → Shared → Prop} {s : Shared}
    (h : wpAny (model prog w) A.in1 (pyIter x) (fun it s2 => ∃ I fp wr n P St bt G, it = .ref I ∧ Walks prog w A.in1 I fp wr n P St ∧ St 0 s2.heap ∧ (∀ b ∈ fp, b < s2.heap.objs.size) ∧ 0 < n ∧ G s2 ∧
      (∀ (s : Shared) (h' : Heap) (tk : Nat), G s → (∀ b o, b < s2.heap.objs.size → b ∉ wr → s.heap.get? b = some o → h'.get? b = some o) → G { s with heap := h', toks := tk }) ∧ CmpG prog w A.in1 .Gt G P bt ∧
      ∀ v h' tk, P (argBest bt (n - 1)) v → (∀ b o, b ∉ wr → s2.heap.get? b = some o → h'.get? b = some o) → Q v { s2 with heap := h', toks := tk }) E s) :
    wpAny (model prog w) A (call (.builtin "max") [x]) Q E s := by
  have nm : (toString "max" ++ toString ".loop" : String) = "max.loop" := by decide
  refine call_function_tree F.kind_max F.plain_max F.entry_max (F.args_max1 _) ?_
  show wpAny _ A.in1 (Builtin.Builtins.bindParams "max" ["key", "default"] 0 ⟨[], []⟩ >>= _) _ _ s
  refine wpAny_bind (wpAny_of_eq (a := [none, none]) (by rfl) (wpAny_bind (wpAny_pure (wpAny_bind (wpAny_mono h (fun it s2 h2 => ?_) fun _ _ e => e)))))
  obtain ⟨I, fp, wr, n, P, St, bt, G, rfl, W, st, hfp, hn, g, hG, hc, hq⟩ := h2
  refine wpAny_bind (wpAny_newObj_type ?_)
  rw [nm]
  have lt : ∀ {b : Addr} {o : Obj}, s2.heap.get? b = some o → b ≠ s2.heap.objs.size := fun e => Nat.ne_of_lt (Heap.lt_size e)
  refine wpAny_pure ⟨plainId_quiet F.plain_max_loop _, max_first W (fun a b t ga k => hG a b t ga fun c o q1 q2 e => k c o q2 (Nat.ne_of_lt q1) e) hc (fun hm => Nat.lt_irrefl _ (hfp _ hm)) hn (W.frame _ _ _ st fun b _ o e => Heap.get?_push_of_some _ e)
    (hG _ _ s2.toks g fun b o _ _ e => Heap.get?_push_of_some _ e) (Heap.get?_push_size _ rfl) fun v h' tk pv k => ?_⟩
  exact hq v h' tk pv fun b o q e => k b o q (lt e) (Heap.get?_push_of_some _ e)

/-- max of 2 written values -/
theorem max_args2 {a b : Value} {Q : Value → Shared → Prop} {E : Value → Shared → Prop} {s : Shared}
    (h : wpAny (model prog w) A.in1 (pyIter (.ref s.heap.objs.size)) (fun it s2 => ∃ I fp wr n P St bt G, it = .ref I ∧ Walks prog w A.in1 I fp wr n P St ∧ St 0 s2.heap ∧ (∀ b ∈ fp, b < s2.heap.objs.size) ∧ 0 < n ∧ G s2 ∧
      (∀ (s : Shared) (h' : Heap) (tk : Nat), G s → (∀ b o, b < s2.heap.objs.size → b ∉ wr → s.heap.get? b = some o → h'.get? b = some o) → G { s with heap := h', toks := tk }) ∧ CmpG prog w A.in1 .Gt G P bt ∧
      ∀ v h' tk, P (argBest bt (n - 1)) v → (∀ b o, b ∉ wr → s2.heap.get? b = some o → h'.get? b = some o) → Q v { s2 with heap := h', toks := tk }) E
      { s with heap := s.heap.push { cls := .type "tuple", data := .seq #[a, b] } }) :
    wpAny (model prog w) A (call (.builtin "max") [a, b]) Q E s := by
  have nm : (toString "max" ++ toString ".loop" : String) = "max.loop" := by decide
  refine call_function_tree F.kind_max F.plain_max F.entry_max (by unfold argsOk; kernel_rfl) ?_
  show wpAny _ A.in1 (Builtin.Builtins.bindParams "max" ["key", "default"] 0 ⟨[], []⟩ >>= _) _ _ s
  refine wpAny_bind (wpAny_of_eq (a := [none, none]) (by rfl) ?_)
  show wpAny _ A.in1 (newTuple [a, b] >>= _) _ _ s
  refine wpAny_bind (wpAny_newObj_type (wpAny_bind (wpAny_mono h (fun it s2 h2 => ?_) fun _ _ e => e)))
  obtain ⟨I, fp, wr, n, P, St, bt, G, rfl, W, st, hfp, hn, g, hG, hc, hq⟩ := h2
  refine wpAny_bind (wpAny_newObj_type ?_)
  rw [nm]
  have lt : ∀ {b : Addr} {o : Obj}, s2.heap.get? b = some o → b ≠ s2.heap.objs.size := fun e => Nat.ne_of_lt (Heap.lt_size e)
  refine wpAny_pure ⟨plainId_quiet F.plain_max_loop _, max_first W (fun a b t ga k => hG a b t ga fun c o q1 q2 e => k c o q2 (Nat.ne_of_lt q1) e) hc (fun hm => Nat.lt_irrefl _ (hfp _ hm)) hn (W.frame _ _ _ st fun b _ o e => Heap.get?_push_of_some _ e)
    (hG _ _ s2.toks g fun b o _ _ e => Heap.get?_push_of_some _ e) (Heap.get?_push_size _ rfl) fun v h' tk pv k => ?_⟩
  exact hq v h' tk pv fun b o q e => k b o q (lt e) (Heap.get?_push_of_some _ e)

/-- max of 3 written values -/
theorem max_args3 {a b c : Value} {Q : Value → Shared → Prop} {E : Value → Shared → Prop} {s : Shared}
    (h : wpAny (model prog w) A.in1 (pyIter (.ref s.heap.objs.size)) (fun it s2 => ∃ I fp wr n P St bt G, it = .ref I ∧ Walks prog w A.in1 I fp wr n P St ∧ St 0 s2.heap ∧ (∀ b ∈ fp, b < s2.heap.objs.size) ∧ 0 < n ∧ G s2 ∧
      (∀ (s : Shared) (h' : Heap) (tk : Nat), G s → (∀ b o, b < s2.heap.objs.size → b ∉ wr → s.heap.get? b = some o → h'.get? b = some o) → G { s with heap := h', toks := tk }) ∧ CmpG prog w A.in1 .Gt G P bt ∧
      ∀ v h' tk, P (argBest bt (n - 1)) v → (∀ b o, b ∉ wr → s2.heap.get? b = some o → h'.get? b = some o) → Q v { s2 with heap := h', toks := tk }) E
      { s with heap := s.heap.push { cls := .type "tuple", data := .seq #[a, b, c] } }) :
    wpAny (model prog w) A (call (.builtin "max") [a, b, c]) Q E s := by
  have nm : (toString "max" ++ toString ".loop" : String) = "max.loop" := by decide
  refine call_function_tree F.kind_max F.plain_max F.entry_max (by unfold argsOk; kernel_rfl) ?_
  show wpAny _ A.in1 (Builtin.Builtins.bindParams "max" ["key", "default"] 0 ⟨[], []⟩ >>= _) _ _ s
  refine wpAny_bind (wpAny_of_eq (a := [none, none]) (by rfl) ?_)
  show wpAny _ A.in1 (newTuple [a, b, c] >>= _) _ _ s
  refine wpAny_bind (wpAny_newObj_type (wpAny_bind (wpAny_mono h (fun it s2 h2 => ?_) fun _ _ e => e)))
  obtain ⟨I, fp, wr, n, P, St, bt, G, rfl, W, st, hfp, hn, g, hG, hc, hq⟩ := h2
  refine wpAny_bind (wpAny_newObj_type ?_)
  rw [nm]
  have lt : ∀ {b : Addr} {o : Obj}, s2.heap.get? b = some o → b ≠ s2.heap.objs.size := fun e => Nat.ne_of_lt (Heap.lt_size e)
  refine wpAny_pure ⟨plainId_quiet F.plain_max_loop _, max_first W (fun a b t ga k => hG a b t ga fun c o q1 q2 e => k c o q2 (Nat.ne_of_lt q1) e) hc (fun hm => Nat.lt_irrefl _ (hfp _ hm)) hn (W.frame _ _ _ st fun b _ o e => Heap.get?_push_of_some _ e)
    (hG _ _ s2.toks g fun b o _ _ e => Heap.get?_push_of_some _ e) (Heap.get?_push_size _ rfl) fun v h' tk pv k => ?_⟩
  exact hq v h' tk pv fun b o q e => k b o q (lt e) (Heap.get?_push_of_some _ e)

/-- max of 4 written values -/
theorem max_args4 {a b c d : Value} {Q : Value → Shared → Prop} {E : Value → Shared → Prop} {s : Shared}
    (h : wpAny (model prog w) A.in1 (pyIter (.ref s.heap.objs.size)) (fun it s2 => ∃ I fp wr n P St bt G, it = .ref I ∧ Walks prog w A.in1 I fp wr n P St ∧ St 0 s2.heap ∧ (∀ b ∈ fp, b < s2.heap.objs.size) ∧ 0 < n ∧ G s2 ∧
      (∀ (s : Shared) (h' : Heap) (tk : Nat), G s → (∀ b o, b < s2.heap.objs.size → b ∉ wr → s.heap.get? b = some o → h'.get? b = some o) → G { s with heap := h', toks := tk }) ∧ CmpG prog w A.in1 .Gt G P bt ∧
      ∀ v h' tk, P (argBest bt (n - 1)) v → (∀ b o, b ∉ wr → s2.heap.get? b = some o → h'.get? b = some o) → Q v { s2 with heap := h', toks := tk }) E
      { s with heap := s.heap.push { cls := .type "tuple", data := .seq #[a, b, c, d] } }) :
    wpAny (model prog w) A (call (.builtin "max") [a, b, c, d]) Q E s := by
  have nm : (toString "max" ++ toString ".loop" : String) = "max.loop" := by decide
  refine call_function_tree F.kind_max F.plain_max F.entry_max (by unfold argsOk; kernel_rfl) ?_
  show wpAny _ A.in1 (Builtin.Builtins.bindParams "max" ["key", "default"] 0 ⟨[], []⟩ >>= _) _ _ s
  refine wpAny_bind (wpAny_of_eq (a := [none, none]) (by rfl) ?_)
  show wpAny _ A.in1 (newTuple [a, b, c, d] >>= _) _ _ s
  refine wpAny_bind (wpAny_newObj_type (wpAny_bind (wpAny_mono h (fun it s2 h2 => ?_) fun _ _ e => e)))
  obtain ⟨I, fp, wr, n, P, St, bt, G, rfl, W, st, hfp, hn, g, hG, hc, hq⟩ := h2
  refine wpAny_bind (wpAny_newObj_type ?_)
  rw [nm]
  have lt : ∀ {b : Addr} {o : Obj}, s2.heap.get? b = some o → b ≠ s2.heap.objs.size := fun e => Nat.ne_of_lt (Heap.lt_size e)
  refine wpAny_pure ⟨plainId_quiet F.plain_max_loop _, max_first W (fun a b t ga k => hG a b t ga fun c o q1 q2 e => k c o q2 (Nat.ne_of_lt q1) e) hc (fun hm => Nat.lt_irrefl _ (hfp _ hm)) hn (W.frame _ _ _ st fun b _ o e => Heap.get?_push_of_some _ e)
    (hG _ _ s2.toks g fun b o _ _ e => Heap.get?_push_of_some _ e) (Heap.get?_push_size _ rfl) fun v h' tk pv k => ?_⟩
  exact hq v h' tk pv fun b o q e => k b o q (lt e) (Heap.get?_push_of_some _ e)
end
end NL

namespace NL
open PySem PySem.Spec PyProof.Rows L2
/-! ### min, max -/
def ofD (d : Option D) : M D := match d with
  | some d => pure d
  | none => die
def bestD (o : Cop) (xs : List D) : Option D :=
  if (xs.all fun x => xs.all fun y => (ordD o 12 x y).isSome) = true then xs[argBest (fun i j => (ordD o 12 (xs.getD i .non) (xs.getD j .non)).getD false) (xs.length - 1)]? else none
def mnD (o : Cop) : List D → M D
  | [.ref l] => getL l >>= fun xs => ofD (bestD o xs)
  | [.tup xs] => ofD (bestD o xs)
  | [a, b] => ofD (bestD o [a, b])
  | [a, b, c] => ofD (bestD o [a, b, c])
  | [a, b, c, d] => ofD (bestD o [a, b, c, d])
  | _ => die
/-- later states of s: all kept -/
def Lat (s : Shared) (s' : Shared) : Prop := ∃ h' tk, s' = { s with heap := h', toks := tk } ∧ ∀ b o, s.heap.get? b = some o → h'.get? b = some o
section
variable {X : Cx} {pins : List (Addr × Obj)} {σ : L2.St} {H : Hp} {s : Shared} {m : List Addr} {S : Store}
abbrev btOf (o : Cop) (xs : List D) : Nat → Nat → Bool := fun i j => (ordD o 12 (xs.getD i .non) (xs.getD j .non)).getD false
theorem mm_core (hu : X.A.units + 27 < cLine) (I : Inv X pins σ H s) (sr : SR X.K m S H) {o : Cop} (ho : o = .lt ∨ o = .le ∨ o = .gt ∨ o = .ge) {xs : List D} {vs : List V} {its : List Value} (rs : Reps m H xs vs) (rv : Vals vs its)
    (hall : (xs.all fun x => xs.all fun y => (ordD o 12 x y).isSome) = true) : CmpG X.prog X.w X.A.in1 o.op (Lat s) (fun i v => its.toArray[i]? = some v) (btOf o xs) := by
  intro i j x y s' Q E hG hx hy hQ
  obtain ⟨h', tk, rfl, k⟩ := hG
  have I' : Inv X pins σ H { s with heap := h', toks := tk } := I.kept k
  have at_ : ∀ {i : Nat} {x : Value}, its.toArray[i]? = some x → ∃ d v, xs[i]? = some d ∧ Rep m H d v ∧ RelV v x := fun {i x} h => by
    have hl : i < its.length := by simpa using (Array.getElem?_eq_some_iff.mp h).1
    have h' : its[i]? = some x := by simpa using h
    have hl2 : i < xs.length := by rw [rs.length, rv.length]; exact hl
    obtain ⟨v, h1, h2⟩ := rs.get (List.getElem?_eq_getElem hl2)
    obtain ⟨u, h3, h4⟩ := rv.get h1
    rw [h'] at h3
    cases h3
    exact ⟨_, v, List.getElem?_eq_getElem hl2, h2, h4⟩
  obtain ⟨d, v, d1, d2, d3⟩ := at_ hx
  obtain ⟨e, w, e1, e2, e3⟩ := at_ hy
  rw [List.all_eq_true] at hall
  have q := hall d (List.mem_of_getElem? d1)
  rw [List.all_eq_true] at q
  obtain ⟨b, hb⟩ := Option.isSome_iff_exists.mp (q e (List.mem_of_getElem? e1))
  have hbt : btOf o xs i j = b := by
    show (ordD o 12 (xs.getD i .non) (xs.getD j .non)).getD false = b
    rw [List.getD_eq_getElem?_getD, List.getD_eq_getElem?_getD, d1, e1]
    show (ordD o 12 d e).getD false = b
    rw [hb]; rfl
  rw [hbt] at hQ
  exact ord_rc I' sr ho 12 d e b v w x y X.A.in1 hb d2 e2 d3 e3 (by show X.A.units + 1 + 12 + 14 < cLine; omega) X.prog X.w E Q hQ
theorem best_some {o : Cop} {xs : List D} {d : D} (h : bestD o xs = some d) : (xs.all fun x => xs.all fun y => (ordD o 12 x y).isSome) = true ∧ xs[argBest (btOf o xs) (xs.length - 1)]? = some d := by
  unfold bestD at h
  split at h
  · rename_i hc; exact ⟨hc, h⟩
  · cases h
theorem ofD_some {Ex : Str → Option Nat → List Addr → Store → Hp → Prop} {K : PySem.W.Frag} {b : Option D} {F : D → List Addr → Store → Hp → Prop} (h : post K Ex m H (ofD b S) F) : ∃ c, b = some c ∧ post K Ex m H (.ok c S) F := by
  cases b with
  | none => exact h.elim
  | some c => exact ⟨c, rfl, h⟩
/-- behind the walk: the value that stands there -/
theorem best_end {Ex : Str → Option Nat → List Addr → Store → Hp → Prop} (I : Inv X pins σ H s) (sr : SR X.K m S H) {Q : VK} {o : Cop} {xs : List D} {vs : List V} {its : List Value} {d : D} (rs : Reps m H xs vs) (rv : Vals vs its) (hd : xs[argBest (btOf o xs) (xs.length - 1)]? = some d)
    (h : post X.K Ex m H (.ok d S) (fun d m' _ H' => ∀ w, Rep m' H' d w → Q w H')) {v : Value} {h' : Heap} {tk : Nat} (hv : its.toArray[argBest (btOf o xs) (its.toArray.size - 1)]? = some v) (k : ∀ b o, s.heap.get? b = some o → h'.get? b = some o) :
    EP X pins σ Q v { s with heap := h', toks := tk } := by
  have n : its.toArray.size = xs.length := by rw [List.size_toArray, ← rv.length, rs.length]
  rw [n] at hv
  obtain ⟨w, h1, h2⟩ := rs.get hd
  obtain ⟨u, h3, h4⟩ := rv.get h1
  have hv' : its[argBest (btOf o xs) (xs.length - 1)]? = some v := by simpa using hv
  rw [hv'] at h3
  cases h3
  exact ⟨w, H, I.kept k, h4, post_val sr h h2⟩
end
/-- a call by what the arguments are in the store -/
def rCD (K : PySem.W.Frag) (g : List D → M D) : List V → Hp → VK → Prop := fun vs H Q => ∃ Ex m S ds, SR K m S H ∧ Reps m H ds vs ∧ post K Ex m H (g ds S) (fun d m' _ H' => ∀ w, Rep m' H' d w → Q w H')
theorem push_lt {h : Heap} {o : Obj} {b : Addr} (hb : b < h.objs.size) : b < (h.push o).objs.size := by rw [Heap.size_push]; exact Nat.lt_succ_of_lt hb
theorem push_top {h : Heap} {o : Obj} : h.objs.size < (h.push o).objs.size := by rw [Heap.size_push]; exact Nat.lt_succ_self _
section
variable {X : Cx}
/-- min of one list or tuple -/
theorem min_one (hc : X.calm = true) (hu : X.A.units + 27 < cLine) {Ex : Str → Option Nat → List Addr → Store → Hp → Prop} {pins : List (Addr × Obj)} {σ : L2.St} {H : Hp} {s : Shared} {m : List Addr} {S : Store} {Q : VK} {xs : List D} {vs : List V} {its : List Value} {d : D} {a : Addr} (I : Inv X pins σ H s) (sr : SR X.K m S H)
    (rs : Reps m H xs vs) (rv : Vals vs its) (hs : s.heap.IsList a its.toArray ∨ s.heap.IsTuple a its.toArray) (hb : bestD .lt xs = some d)
    (h : post X.K Ex m H (.ok d S) (fun d m' _ H' => ∀ w, Rep m' H' d w → Q w H')) : wpAny (model X.prog X.w) X.A (call (.builtin "min") [.ref a]) (EP X pins σ Q) X.xe s := by
  obtain ⟨hall, hd⟩ := best_some hb
  have hn : 0 < its.toArray.size := by
    have n : its.toArray.size = xs.length := by rw [List.size_toArray, ← rv.length, rs.length]
    have := (List.getElem?_eq_some_iff.mp hd).1
    omega
  have cmp := mm_core hu I sr (o := .lt) (by decide) rs rv hall
  refine min_walk ?_
  have ne : ∀ {b : Addr} {o : Obj}, s.heap.get? b = some o → b ≠ s.heap.objs.size := fun e => Nat.ne_of_lt (Heap.lt_size e)
  have clo : ∀ {x : Obj} (s' : Shared) (h' : Heap) (tk : Nat), Lat s s' → (∀ b o, b < (s.heap.push x).objs.size → b ∉ [s.heap.objs.size] → s'.heap.get? b = some o → h'.get? b = some o) → Lat s { s' with heap := h', toks := tk } := fun {x} s' h' tk hl k => by
    obtain ⟨h1, t1, rfl, k1⟩ := hl
    exact ⟨h', tk, rfl, fun b o e => k b o (push_lt (Heap.lt_size e)) (by simpa using ne e) (k1 b o e)⟩
  have fin : ∀ {x : Obj} (v : Value) (h' : Heap) (tk : Nat), its.toArray[argBest (btOf .lt xs) (its.toArray.size - 1)]? = some v → (∀ b o, b ∉ [s.heap.objs.size] → (s.heap.push x).get? b = some o → h'.get? b = some o) → EP X pins σ Q v { s with heap := h', toks := tk } := fun {x} v h' tk hv k =>
    best_end I sr rs rv hd h hv fun b o e => k b o (by simpa using ne e) (Heap.get?_push_of_some _ e)
  rcases hs with hs | hs
  · have hlt : a < s.heap.objs.size := by obtain ⟨_, e, _⟩ := hs; exact Heap.lt_size e
    refine wpAny_pyIter_list hs ?_
    refine ⟨s.heap.objs.size, [s.heap.objs.size, a], [s.heap.objs.size], _, _, _, btOf .lt xs, Lat s, rfl, Walks.list (A := X.A.in1) (I.ok.hd hc) _ a (Nat.ne_of_lt hlt) its.toArray, ⟨⟨_, Heap.get?_push_size _ rfl, rfl, rfl⟩, hs.push _⟩, fun b hb => ?_, hn, ⟨_, s.toks, rfl, fun b o e => Heap.get?_push_of_some _ e⟩, clo, cmp, fin⟩
    rcases List.mem_cons.mp hb with rfl | hb
    · exact push_top
    · rw [List.mem_singleton.mp hb]; exact push_lt hlt
  · have hlt : a < s.heap.objs.size := by obtain ⟨_, e, _⟩ := hs; exact Heap.lt_size e
    refine wpAny_pyIter_tuple hs ?_
    refine ⟨s.heap.objs.size, [s.heap.objs.size, a], [s.heap.objs.size], _, _, _, btOf .lt xs, Lat s, rfl, Walks.tuple (A := X.A.in1) (I.ok.hd hc) _ a (Nat.ne_of_lt hlt) its.toArray, ⟨⟨_, Heap.get?_push_size _ rfl, rfl, rfl⟩, hs.push _⟩, fun b hb => ?_, hn, ⟨_, s.toks, rfl, fun b o e => Heap.get?_push_of_some _ e⟩, clo, cmp, fin⟩
    rcases List.mem_cons.mp hb with rfl | hb
    · exact push_top
    · rw [List.mem_singleton.mp hb]; exact push_lt hlt
theorem min_of_2 (hc : X.calm = true) (hu : X.A.units + 27 < cLine) {Ex : Str → Option Nat → List Addr → Store → Hp → Prop} {pins : List (Addr × Obj)} {σ : L2.St} {H : Hp} {s : Shared} {m : List Addr} {S : Store} {Q : VK} {xs : List D} {vs : List V} {a b : Value} {d : D} (I : Inv X pins σ H s) (sr : SR X.K m S H)
    (rs : Reps m H xs vs) (rv : Vals vs [a, b]) (hb : bestD .lt xs = some d)
    (h : post X.K Ex m H (.ok d S) (fun d m' _ H' => ∀ w, Rep m' H' d w → Q w H')) : wpAny (model X.prog X.w) X.A (call (.builtin "min") [a, b]) (EP X pins σ Q) X.xe s := by
  obtain ⟨hall, hd⟩ := best_some hb
  have cmp := mm_core hu I sr (o := .lt) (by decide) rs rv hall
  have hs : (s.heap.push { cls := .type "tuple", data := .seq #[a, b] }).IsTuple s.heap.objs.size [a, b].toArray := ⟨_, Heap.get?_push_size _ rfl, rfl, _, rfl⟩
  have ne : ∀ {b : Addr} {o : Obj}, s.heap.get? b = some o → b ≠ s.heap.objs.size := fun e => Nat.ne_of_lt (Heap.lt_size e)
  refine min_args2 (wpAny_pyIter_tuple hs ?_)
  refine ⟨_, [_, s.heap.objs.size], [_], _, _, _, btOf .lt xs, Lat s, rfl, Walks.tuple (A := X.A.in1) (I.ok.hd hc) _ s.heap.objs.size (Nat.ne_of_lt push_top) [a, b].toArray, ⟨⟨_, Heap.get?_push_size _ rfl, rfl, rfl⟩, hs.push _⟩, fun b hb => ?_, (by simp), ⟨_, s.toks, rfl, fun b o e => Heap.get?_push_of_some _ (Heap.get?_push_of_some _ e)⟩, fun s' h' tk hl k => ?_, cmp, fun v h' tk hv k => ?_⟩
  · rcases List.mem_cons.mp hb with rfl | hb
    · exact push_top
    · rw [List.mem_singleton.mp hb]; exact push_lt push_top
  · obtain ⟨h1, t1, rfl, k1⟩ := hl
    refine ⟨h', tk, rfl, fun b o e => k b o (push_lt (push_lt (Heap.lt_size e))) ?_ (k1 b o e)⟩
    have h1 := Heap.lt_size e
    intro hm
    rw [List.mem_singleton.mp hm, Heap.size_push] at h1
    exact Nat.lt_irrefl _ (Nat.lt_of_succ_lt h1)
  · refine best_end I sr rs rv hd h hv fun b o e => k b o ?_ (Heap.get?_push_of_some _ (Heap.get?_push_of_some _ e))
    have h1 := Heap.lt_size e
    intro hm
    rw [List.mem_singleton.mp hm, Heap.size_push] at h1
    exact Nat.lt_irrefl _ (Nat.lt_of_succ_lt h1)
theorem min_of_3 (hc : X.calm = true) (hu : X.A.units + 27 < cLine) {Ex : Str → Option Nat → List Addr → Store → Hp → Prop} {pins : List (Addr × Obj)} {σ : L2.St} {H : Hp} {s : Shared} {m : List Addr} {S : Store} {Q : VK} {xs : List D} {vs : List V} {a b c : Value} {d : D} (I : Inv X pins σ H s) (sr : SR X.K m S H)
    (rs : Reps m H xs vs) (rv : Vals vs [a, b, c]) (hb : bestD .lt xs = some d)
    (h : post X.K Ex m H (.ok d S) (fun d m' _ H' => ∀ w, Rep m' H' d w → Q w H')) : wpAny (model X.prog X.w) X.A (call (.builtin "min") [a, b, c]) (EP X pins σ Q) X.xe s := by
  obtain ⟨hall, hd⟩ := best_some hb
  have cmp := mm_core hu I sr (o := .lt) (by decide) rs rv hall
  have hs : (s.heap.push { cls := .type "tuple", data := .seq #[a, b, c] }).IsTuple s.heap.objs.size [a, b, c].toArray := ⟨_, Heap.get?_push_size _ rfl, rfl, _, rfl⟩
  have ne : ∀ {b : Addr} {o : Obj}, s.heap.get? b = some o → b ≠ s.heap.objs.size := fun e => Nat.ne_of_lt (Heap.lt_size e)
  refine min_args3 (wpAny_pyIter_tuple hs ?_)
  refine ⟨_, [_, s.heap.objs.size], [_], _, _, _, btOf .lt xs, Lat s, rfl, Walks.tuple (A := X.A.in1) (I.ok.hd hc) _ s.heap.objs.size (Nat.ne_of_lt push_top) [a, b, c].toArray, ⟨⟨_, Heap.get?_push_size _ rfl, rfl, rfl⟩, hs.push _⟩, fun b hb => ?_, (by simp), ⟨_, s.toks, rfl, fun b o e => Heap.get?_push_of_some _ (Heap.get?_push_of_some _ e)⟩, fun s' h' tk hl k => ?_, cmp, fun v h' tk hv k => ?_⟩
  · rcases List.mem_cons.mp hb with rfl | hb
    · exact push_top
    · rw [List.mem_singleton.mp hb]; exact push_lt push_top
  · obtain ⟨h1, t1, rfl, k1⟩ := hl
    refine ⟨h', tk, rfl, fun b o e => k b o (push_lt (push_lt (Heap.lt_size e))) ?_ (k1 b o e)⟩
    have h1 := Heap.lt_size e
    intro hm
    rw [List.mem_singleton.mp hm, Heap.size_push] at h1
    exact Nat.lt_irrefl _ (Nat.lt_of_succ_lt h1)
  · refine best_end I sr rs rv hd h hv fun b o e => k b o ?_ (Heap.get?_push_of_some _ (Heap.get?_push_of_some _ e))
    have h1 := Heap.lt_size e
    intro hm
    rw [List.mem_singleton.mp hm, Heap.size_push] at h1
    exact Nat.lt_irrefl _ (Nat.lt_of_succ_lt h1)
theorem min_of_4 (hc : X.calm = true) (hu : X.A.units + 27 < cLine) {Ex : Str → Option Nat → List Addr → Store → Hp → Prop} {pins : List (Addr × Obj)} {σ : L2.St} {H : Hp} {s : Shared} {m : List Addr} {S : Store} {Q : VK} {xs : List D} {vs : List V} {a b c e : Value} {d : D} (I : Inv X pins σ H s) (sr : SR X.K m S H)
    (rs : Reps m H xs vs) (rv : Vals vs [a, b, c, e]) (hb : bestD .lt xs = some d)
    (h : post X.K Ex m H (.ok d S) (fun d m' _ H' => ∀ w, Rep m' H' d w → Q w H')) : wpAny (model X.prog X.w) X.A (call (.builtin "min") [a, b, c, e]) (EP X pins σ Q) X.xe s := by
  obtain ⟨hall, hd⟩ := best_some hb
  have cmp := mm_core hu I sr (o := .lt) (by decide) rs rv hall
  have hs : (s.heap.push { cls := .type "tuple", data := .seq #[a, b, c, e] }).IsTuple s.heap.objs.size [a, b, c, e].toArray := ⟨_, Heap.get?_push_size _ rfl, rfl, _, rfl⟩
  have ne : ∀ {b : Addr} {o : Obj}, s.heap.get? b = some o → b ≠ s.heap.objs.size := fun e => Nat.ne_of_lt (Heap.lt_size e)
  refine min_args4 (wpAny_pyIter_tuple hs ?_)
  refine ⟨_, [_, s.heap.objs.size], [_], _, _, _, btOf .lt xs, Lat s, rfl, Walks.tuple (A := X.A.in1) (I.ok.hd hc) _ s.heap.objs.size (Nat.ne_of_lt push_top) [a, b, c, e].toArray, ⟨⟨_, Heap.get?_push_size _ rfl, rfl, rfl⟩, hs.push _⟩, fun b hb => ?_, (by simp), ⟨_, s.toks, rfl, fun b o e => Heap.get?_push_of_some _ (Heap.get?_push_of_some _ e)⟩, fun s' h' tk hl k => ?_, cmp, fun v h' tk hv k => ?_⟩
  · rcases List.mem_cons.mp hb with rfl | hb
    · exact push_top
    · rw [List.mem_singleton.mp hb]; exact push_lt push_top
  · obtain ⟨h1, t1, rfl, k1⟩ := hl
    refine ⟨h', tk, rfl, fun b o e => k b o (push_lt (push_lt (Heap.lt_size e))) ?_ (k1 b o e)⟩
    have h1 := Heap.lt_size e
    intro hm
    rw [List.mem_singleton.mp hm, Heap.size_push] at h1
    exact Nat.lt_irrefl _ (Nat.lt_of_succ_lt h1)
  · refine best_end I sr rs rv hd h hv fun b o e => k b o ?_ (Heap.get?_push_of_some _ (Heap.get?_push_of_some _ e))
    have h1 := Heap.lt_size e
    intro hm
    rw [List.mem_singleton.mp hm, Heap.size_push] at h1
    exact Nat.lt_irrefl _ (Nat.lt_of_succ_lt h1)
theorem call_min (hc : X.calm = true) (hu : X.A.units + 27 < cLine) : CallR X (.builtin "min") (rCD X.K (mnD .lt)) := by
  intro pins s σ H xs us Q I r h
  obtain ⟨Ex, m, S, ds, sr, rs, h⟩ := h
  unfold mnD at h
  split at h
  · cases rs with
    | cons r1 rn =>
      cases rn
      cases r1 with
      | ref ea =>
        obtain ⟨o, e0, h⟩ := getL_bind h
        obtain ⟨d, hb, h⟩ := ofD_some h
        obtain ⟨vs, q, ra⟩ := sr.sq_at e0 ea
        obtain ⟨its, rv, pl, _⟩ := I.list q
        rw [Vals.ref1 r]
        exact min_one hc hu I sr ra rv (.inl pl.isList) hb h
  · cases rs with
    | cons r1 rn =>
      cases rn
      cases r1 with
      | tup ea ra =>
        obtain ⟨d, hb, h⟩ := ofD_some h
        obtain ⟨its, rv, pl, _⟩ := I.tuple (SqT.of ea)
        rw [Vals.ref1 r]
        exact min_one hc hu I sr ra rv (.inr pl) hb h
  · obtain ⟨d, hb, h⟩ := ofD_some h
    cases rs with | cons a1 rs => cases rs with | cons a2 rs => cases rs; cases r with | cons b1 r => cases r with | cons b2 r => cases r; exact min_of_2 hc hu I sr (.cons a1 (.cons a2 .nil)) (.cons b1 (.cons b2 .nil)) hb h
  · obtain ⟨d, hb, h⟩ := ofD_some h
    cases rs with | cons a1 rs => cases rs with | cons a2 rs => cases rs with | cons a3 rs => cases rs; cases r with | cons b1 r => cases r with | cons b2 r => cases r with | cons b3 r => cases r; exact min_of_3 hc hu I sr (.cons a1 (.cons a2 (.cons a3 .nil))) (.cons b1 (.cons b2 (.cons b3 .nil))) hb h
  · obtain ⟨d, hb, h⟩ := ofD_some h
    cases rs with | cons a1 rs => cases rs with | cons a2 rs => cases rs with | cons a3 rs => cases rs with | cons a4 rs => cases rs; cases r with | cons b1 r => cases r with | cons b2 r => cases r with | cons b3 r => cases r with | cons b4 r => cases r; exact min_of_4 hc hu I sr (.cons a1 (.cons a2 (.cons a3 (.cons a4 .nil)))) (.cons b1 (.cons b2 (.cons b3 (.cons b4 .nil)))) hb h
  · exact h.elim
/-- max of one list or tuple -/
theorem max_one (hc : X.calm = true) (hu : X.A.units + 27 < cLine) {Ex : Str → Option Nat → List Addr → Store → Hp → Prop} {pins : List (Addr × Obj)} {σ : L2.St} {H : Hp} {s : Shared} {m : List Addr} {S : Store} {Q : VK} {xs : List D} {vs : List V} {its : List Value} {d : D} {a : Addr} (I : Inv X pins σ H s) (sr : SR X.K m S H)
    (rs : Reps m H xs vs) (rv : Vals vs its) (hs : s.heap.IsList a its.toArray ∨ s.heap.IsTuple a its.toArray) (hb : bestD .gt xs = some d)
    (h : post X.K Ex m H (.ok d S) (fun d m' _ H' => ∀ w, Rep m' H' d w → Q w H')) : wpAny (model X.prog X.w) X.A (call (.builtin "max") [.ref a]) (EP X pins σ Q) X.xe s := by
  obtain ⟨hall, hd⟩ := best_some hb
  have hn : 0 < its.toArray.size := by
    have n : its.toArray.size = xs.length := by rw [List.size_toArray, ← rv.length, rs.length]
    have := (List.getElem?_eq_some_iff.mp hd).1
    omega
  have cmp := mm_core hu I sr (o := .gt) (by decide) rs rv hall
  refine max_walk ?_
  have ne : ∀ {b : Addr} {o : Obj}, s.heap.get? b = some o → b ≠ s.heap.objs.size := fun e => Nat.ne_of_lt (Heap.lt_size e)
  have clo : ∀ {x : Obj} (s' : Shared) (h' : Heap) (tk : Nat), Lat s s' → (∀ b o, b < (s.heap.push x).objs.size → b ∉ [s.heap.objs.size] → s'.heap.get? b = some o → h'.get? b = some o) → Lat s { s' with heap := h', toks := tk } := fun {x} s' h' tk hl k => by
    obtain ⟨h1, t1, rfl, k1⟩ := hl
    exact ⟨h', tk, rfl, fun b o e => k b o (push_lt (Heap.lt_size e)) (by simpa using ne e) (k1 b o e)⟩
  have fin : ∀ {x : Obj} (v : Value) (h' : Heap) (tk : Nat), its.toArray[argBest (btOf .gt xs) (its.toArray.size - 1)]? = some v → (∀ b o, b ∉ [s.heap.objs.size] → (s.heap.push x).get? b = some o → h'.get? b = some o) → EP X pins σ Q v { s with heap := h', toks := tk } := fun {x} v h' tk hv k =>
    best_end I sr rs rv hd h hv fun b o e => k b o (by simpa using ne e) (Heap.get?_push_of_some _ e)
  rcases hs with hs | hs
  · have hlt : a < s.heap.objs.size := by obtain ⟨_, e, _⟩ := hs; exact Heap.lt_size e
    refine wpAny_pyIter_list hs ?_
    refine ⟨s.heap.objs.size, [s.heap.objs.size, a], [s.heap.objs.size], _, _, _, btOf .gt xs, Lat s, rfl, Walks.list (A := X.A.in1) (I.ok.hd hc) _ a (Nat.ne_of_lt hlt) its.toArray, ⟨⟨_, Heap.get?_push_size _ rfl, rfl, rfl⟩, hs.push _⟩, fun b hb => ?_, hn, ⟨_, s.toks, rfl, fun b o e => Heap.get?_push_of_some _ e⟩, clo, cmp, fin⟩
    rcases List.mem_cons.mp hb with rfl | hb
    · exact push_top
    · rw [List.mem_singleton.mp hb]; exact push_lt hlt
  · have hlt : a < s.heap.objs.size := by obtain ⟨_, e, _⟩ := hs; exact Heap.lt_size e
    refine wpAny_pyIter_tuple hs ?_
    refine ⟨s.heap.objs.size, [s.heap.objs.size, a], [s.heap.objs.size], _, _, _, btOf .gt xs, Lat s, rfl, Walks.tuple (A := X.A.in1) (I.ok.hd hc) _ a (Nat.ne_of_lt hlt) its.toArray, ⟨⟨_, Heap.get?_push_size _ rfl, rfl, rfl⟩, hs.push _⟩, fun b hb => ?_, hn, ⟨_, s.toks, rfl, fun b o e => Heap.get?_push_of_some _ e⟩, clo, cmp, fin⟩
    rcases List.mem_cons.mp hb with rfl | hb
    · exact push_top
    · rw [List.mem_singleton.mp hb]; exact push_lt hlt
theorem max_of_2 (hc : X.calm = true) (hu : X.A.units + 27 < cLine) {Ex : Str → Option Nat → List Addr → Store → Hp → Prop} {pins : List (Addr × Obj)} {σ : L2.St} {H : Hp} {s : Shared} {m : List Addr} {S : Store} {Q : VK} {xs : List D} {vs : List V} {a b : Value} {d : D} (I : Inv X pins σ H s) (sr : SR X.K m S H)
    (rs : Reps m H xs vs) (rv : Vals vs [a, b]) (hb : bestD .gt xs = some d)
    (h : post X.K Ex m H (.ok d S) (fun d m' _ H' => ∀ w, Rep m' H' d w → Q w H')) : wpAny (model X.prog X.w) X.A (call (.builtin "max") [a, b]) (EP X pins σ Q) X.xe s := by
  obtain ⟨hall, hd⟩ := best_some hb
  have cmp := mm_core hu I sr (o := .gt) (by decide) rs rv hall
  have hs : (s.heap.push { cls := .type "tuple", data := .seq #[a, b] }).IsTuple s.heap.objs.size [a, b].toArray := ⟨_, Heap.get?_push_size _ rfl, rfl, _, rfl⟩
  have ne : ∀ {b : Addr} {o : Obj}, s.heap.get? b = some o → b ≠ s.heap.objs.size := fun e => Nat.ne_of_lt (Heap.lt_size e)
  refine max_args2 (wpAny_pyIter_tuple hs ?_)
  refine ⟨_, [_, s.heap.objs.size], [_], _, _, _, btOf .gt xs, Lat s, rfl, Walks.tuple (A := X.A.in1) (I.ok.hd hc) _ s.heap.objs.size (Nat.ne_of_lt push_top) [a, b].toArray, ⟨⟨_, Heap.get?_push_size _ rfl, rfl, rfl⟩, hs.push _⟩, fun b hb => ?_, (by simp), ⟨_, s.toks, rfl, fun b o e => Heap.get?_push_of_some _ (Heap.get?_push_of_some _ e)⟩, fun s' h' tk hl k => ?_, cmp, fun v h' tk hv k => ?_⟩
  · rcases List.mem_cons.mp hb with rfl | hb
    · exact push_top
    · rw [List.mem_singleton.mp hb]; exact push_lt push_top
  · obtain ⟨h1, t1, rfl, k1⟩ := hl
    refine ⟨h', tk, rfl, fun b o e => k b o (push_lt (push_lt (Heap.lt_size e))) ?_ (k1 b o e)⟩
    have h1 := Heap.lt_size e
    intro hm
    rw [List.mem_singleton.mp hm, Heap.size_push] at h1
    exact Nat.lt_irrefl _ (Nat.lt_of_succ_lt h1)
  · refine best_end I sr rs rv hd h hv fun b o e => k b o ?_ (Heap.get?_push_of_some _ (Heap.get?_push_of_some _ e))
    have h1 := Heap.lt_size e
    intro hm
    rw [List.mem_singleton.mp hm, Heap.size_push] at h1
    exact Nat.lt_irrefl _ (Nat.lt_of_succ_lt h1)
theorem max_of_3 (hc : X.calm = true) (hu : X.A.units + 27 < cLine) {Ex : Str → Option Nat → List Addr → Store → Hp → Prop} {pins : List (Addr × Obj)} {σ : L2.St} {H : Hp} {s : Shared} {m : List Addr} {S : Store} {Q : VK} {xs : List D} {vs : List V} {a b c : Value} {d : D} (I : Inv X pins σ H s) (sr : SR X.K m S H)
    (rs : Reps m H xs vs) (rv : Vals vs [a, b, c]) (hb : bestD .gt xs = some d)
    (h : post X.K Ex m H (.ok d S) (fun d m' _ H' => ∀ w, Rep m' H' d w → Q w H')) : wpAny (model X.prog X.w) X.A (call (.builtin "max") [a, b, c]) (EP X pins σ Q) X.xe s := by
  obtain ⟨hall, hd⟩ := best_some hb
  have cmp := mm_core hu I sr (o := .gt) (by decide) rs rv hall
  have hs : (s.heap.push { cls := .type "tuple", data := .seq #[a, b, c] }).IsTuple s.heap.objs.size [a, b, c].toArray := ⟨_, Heap.get?_push_size _ rfl, rfl, _, rfl⟩
  have ne : ∀ {b : Addr} {o : Obj}, s.heap.get? b = some o → b ≠ s.heap.objs.size := fun e => Nat.ne_of_lt (Heap.lt_size e)
  refine max_args3 (wpAny_pyIter_tuple hs ?_)
  refine ⟨_, [_, s.heap.objs.size], [_], _, _, _, btOf .gt xs, Lat s, rfl, Walks.tuple (A := X.A.in1) (I.ok.hd hc) _ s.heap.objs.size (Nat.ne_of_lt push_top) [a, b, c].toArray, ⟨⟨_, Heap.get?_push_size _ rfl, rfl, rfl⟩, hs.push _⟩, fun b hb => ?_, (by simp), ⟨_, s.toks, rfl, fun b o e => Heap.get?_push_of_some _ (Heap.get?_push_of_some _ e)⟩, fun s' h' tk hl k => ?_, cmp, fun v h' tk hv k => ?_⟩
  · rcases List.mem_cons.mp hb with rfl | hb
    · exact push_top
    · rw [List.mem_singleton.mp hb]; exact push_lt push_top
  · obtain ⟨h1, t1, rfl, k1⟩ := hl
    refine ⟨h', tk, rfl, fun b o e => k b o (push_lt (push_lt (Heap.lt_size e))) ?_ (k1 b o e)⟩
    have h1 := Heap.lt_size e
    intro hm
    rw [List.mem_singleton.mp hm, Heap.size_push] at h1
    exact Nat.lt_irrefl _ (Nat.lt_of_succ_lt h1)
  · refine best_end I sr rs rv hd h hv fun b o e => k b o ?_ (Heap.get?_push_of_some _ (Heap.get?_push_of_some _ e))
    have h1 := Heap.lt_size e
    intro hm
    rw [List.mem_singleton.mp hm, Heap.size_push] at h1
    exact Nat.lt_irrefl _ (Nat.lt_of_succ_lt h1)
theorem max_of_4 (hc : X.calm = true) (hu : X.A.units + 27 < cLine) {Ex : Str → Option Nat → List Addr → Store → Hp → Prop} {pins : List (Addr × Obj)} {σ : L2.St} {H : Hp} {s : Shared} {m : List Addr} {S : Store} {Q : VK} {xs : List D} {vs : List V} {a b c e : Value} {d : D} (I : Inv X pins σ H s) (sr : SR X.K m S H)
    (rs : Reps m H xs vs) (rv : Vals vs [a, b, c, e]) (hb : bestD .gt xs = some d)
    (h : post X.K Ex m H (.ok d S) (fun d m' _ H' => ∀ w, Rep m' H' d w → Q w H')) : wpAny (model X.prog X.w) X.A (call (.builtin "max") [a, b, c, e]) (EP X pins σ Q) X.xe s := by
  obtain ⟨hall, hd⟩ := best_some hb
  have cmp := mm_core hu I sr (o := .gt) (by decide) rs rv hall
  have hs : (s.heap.push { cls := .type "tuple", data := .seq #[a, b, c, e] }).IsTuple s.heap.objs.size [a, b, c, e].toArray := ⟨_, Heap.get?_push_size _ rfl, rfl, _, rfl⟩
  have ne : ∀ {b : Addr} {o : Obj}, s.heap.get? b = some o → b ≠ s.heap.objs.size := fun e => Nat.ne_of_lt (Heap.lt_size e)
  refine max_args4 (wpAny_pyIter_tuple hs ?_)
  refine ⟨_, [_, s.heap.objs.size], [_], _, _, _, btOf .gt xs, Lat s, rfl, Walks.tuple (A := X.A.in1) (I.ok.hd hc) _ s.heap.objs.size (Nat.ne_of_lt push_top) [a, b, c, e].toArray, ⟨⟨_, Heap.get?_push_size _ rfl, rfl, rfl⟩, hs.push _⟩, fun b hb => ?_, (by simp), ⟨_, s.toks, rfl, fun b o e => Heap.get?_push_of_some _ (Heap.get?_push_of_some _ e)⟩, fun s' h' tk hl k => ?_, cmp, fun v h' tk hv k => ?_⟩
  · rcases List.mem_cons.mp hb with rfl | hb
    · exact push_top
    · rw [List.mem_singleton.mp hb]; exact push_lt push_top
  · obtain ⟨h1, t1, rfl, k1⟩ := hl
    refine ⟨h', tk, rfl, fun b o e => k b o (push_lt (push_lt (Heap.lt_size e))) ?_ (k1 b o e)⟩
    have h1 := Heap.lt_size e
    intro hm
    rw [List.mem_singleton.mp hm, Heap.size_push] at h1
    exact Nat.lt_irrefl _ (Nat.lt_of_succ_lt h1)
  · refine best_end I sr rs rv hd h hv fun b o e => k b o ?_ (Heap.get?_push_of_some _ (Heap.get?_push_of_some _ e))
    have h1 := Heap.lt_size e
    intro hm
    rw [List.mem_singleton.mp hm, Heap.size_push] at h1
    exact Nat.lt_irrefl _ (Nat.lt_of_succ_lt h1)
theorem call_max (hc : X.calm = true) (hu : X.A.units + 27 < cLine) : CallR X (.builtin "max") (rCD X.K (mnD .gt)) := by
  intro pins s σ H xs us Q I r h
  obtain ⟨Ex, m, S, ds, sr, rs, h⟩ := h
  unfold mnD at h
  split at h
  · cases rs with
    | cons r1 rn =>
      cases rn
      cases r1 with
      | ref ea =>
        obtain ⟨o, e0, h⟩ := getL_bind h
        obtain ⟨d, hb, h⟩ := ofD_some h
        obtain ⟨vs, q, ra⟩ := sr.sq_at e0 ea
        obtain ⟨its, rv, pl, _⟩ := I.list q
        rw [Vals.ref1 r]
        exact max_one hc hu I sr ra rv (.inl pl.isList) hb h
  · cases rs with
    | cons r1 rn =>
      cases rn
      cases r1 with
      | tup ea ra =>
        obtain ⟨d, hb, h⟩ := ofD_some h
        obtain ⟨its, rv, pl, _⟩ := I.tuple (SqT.of ea)
        rw [Vals.ref1 r]
        exact max_one hc hu I sr ra rv (.inr pl) hb h
  · obtain ⟨d, hb, h⟩ := ofD_some h
    cases rs with | cons a1 rs => cases rs with | cons a2 rs => cases rs; cases r with | cons b1 r => cases r with | cons b2 r => cases r; exact max_of_2 hc hu I sr (.cons a1 (.cons a2 .nil)) (.cons b1 (.cons b2 .nil)) hb h
  · obtain ⟨d, hb, h⟩ := ofD_some h
    cases rs with | cons a1 rs => cases rs with | cons a2 rs => cases rs with | cons a3 rs => cases rs; cases r with | cons b1 r => cases r with | cons b2 r => cases r with | cons b3 r => cases r; exact max_of_3 hc hu I sr (.cons a1 (.cons a2 (.cons a3 .nil))) (.cons b1 (.cons b2 (.cons b3 .nil))) hb h
  · obtain ⟨d, hb, h⟩ := ofD_some h
    cases rs with | cons a1 rs => cases rs with | cons a2 rs => cases rs with | cons a3 rs => cases rs with | cons a4 rs => cases rs; cases r with | cons b1 r => cases r with | cons b2 r => cases r with | cons b3 r => cases r with | cons b4 r => cases r; exact max_of_4 hc hu I sr (.cons a1 (.cons a2 (.cons a3 (.cons a4 .nil)))) (.cons b1 (.cons b2 (.cons b3 (.cons b4 .nil)))) hb h
  · exact h.elim
end
end NL

/-! sorted. -/
namespace NL
open PySem PySem.Spec PyProof.Rows L2
mutual
def noRef : D → Bool
  | .ref _ => false
  | .tup xs => noRefs xs
  | _ => true
def noRefs : List D → Bool
  | [] => true
  | x :: r => noRef x && noRefs r
end
mutual
theorem rep_fun {m : List Addr} {H : Hp} : ∀ {d d' : D} {v : V}, noRef d = true → noRef d' = true → Rep m H d v → Rep m H d' v → d = d'
  | _, d', _, _, n2, .non, r => by cases r; rfl
  | _, d', _, _, n2, .bl _, r => by cases r; rfl
  | _, d', _, _, n2, .int _, r => by cases r; rfl
  | _, d', _, _, n2, .str _, r => by cases r; rfl
  | .tup xs, d', _, n1, n2, .tup e a, r => by
    cases r with
    | tup e' a' =>
      rw [e] at e'
      cases e'
      unfold noRef at n1 n2
      rw [reps_fun n1 n2 a a']
    | ref _ => unfold noRef at n2; cases n2
  | _, d', _, n1, n2, .ref _, r => by unfold noRef at n1; cases n1
theorem reps_fun {m : List Addr} {H : Hp} : ∀ {ds ds' : List D} {vs : List V}, noRefs ds = true → noRefs ds' = true → Reps m H ds vs → Reps m H ds' vs → ds = ds'
  | _, _, _, _, _, .nil, r => by cases r; rfl
  | _, _, _, n1, n2, .cons a t, r => by
    cases r with
    | cons a' t' =>
      unfold noRefs at n1 n2
      rw [Bool.and_eq_true] at n1 n2
      rw [rep_fun n1.1 n2.1 a a', reps_fun n1.2 n2.2 t t']
end
def ltD (x y : D) : Bool := (ordD .lt 12 x y).getD false
/-- of what kind the first things are -/
def firstT : D → Option Bool
  | .tup (.int _ :: _) => some true
  | .tup (.tup _ :: _) => some false
  | _ => none
/-- what can be sorted: ints, or tuples that begin alike, in one order -/
structure OrdOk (xs : List D) : Prop where
  cmp : ∀ x ∈ xs, ∀ y ∈ xs, (ordD .lt 12 x y).isSome = true
  kind : (∃ ns : List Int, xs = ns.map D.int) ∨ ∃ b, ∀ x ∈ xs, firstT x = some b
  no : ∀ x ∈ xs, noRef x = true
  ir : ∀ x ∈ xs, ltD x x = false
  tr : ∀ x ∈ xs, ∀ y ∈ xs, ∀ z ∈ xs, ltD x y = true → ltD y z = true → ltD x z = true
  tt : ∀ x ∈ xs, ∀ y ∈ xs, x ≠ y → ltD x y = true ∨ ltD y x = true
/-- put in order -/
def ins {α : Type} (lt : α → α → Bool) (x : α) : List α → List α
  | [] => [x]
  | y :: ys => if lt y x = true then y :: ins lt x ys else x :: y :: ys
def srt {α : Type} (lt : α → α → Bool) : List α → List α
  | [] => []
  | x :: xs => ins lt x (srt lt xs)
theorem ins_perm {α : Type} {lt : α → α → Bool} {x : α} : ∀ ys : List α, (ins lt x ys).Perm (x :: ys)
  | [] => .refl _
  | y :: ys => by
    unfold ins
    split
    · exact ((ins_perm ys).cons y).trans (.swap x y ys)
    · exact .refl _
theorem srt_perm {α : Type} {lt : α → α → Bool} : ∀ xs : List α, (srt lt xs).Perm xs
  | [] => .refl _
  | x :: xs => (ins_perm (srt lt xs)).trans ((srt_perm xs).cons x)
theorem ins_srtd {α : Type} {lt : α → α → Bool} {P : α → Prop} (as : ∀ x y, P x → P y → lt x y = true → lt y x = false) (tr : ∀ x y z, P x → P y → P z → lt y x = false → lt z y = false → lt z x = false) {x : α} (hx : P x) :
    ∀ ys : List α, (∀ y ∈ ys, P y) → ys.Pairwise (fun a b => lt b a = false) → (ins lt x ys).Pairwise (fun a b => lt b a = false)
  | [], _, _ => List.pairwise_singleton _ _
  | y :: ys, hP, h => by
    obtain ⟨h1, h2⟩ := List.pairwise_cons.mp h
    have py := hP y List.mem_cons_self
    unfold ins
    split
    · rename_i c
      refine List.pairwise_cons.mpr ⟨fun z hz => ?_, ins_srtd as tr hx ys (fun z hz => hP z (List.mem_cons_of_mem _ hz)) h2⟩
      rcases List.mem_cons.mp ((ins_perm ys).mem_iff.mp hz) with rfl | hz
      · exact as y z py hx c
      · exact h1 z hz
    · rename_i c
      have c : lt y x = false := by simpa using c
      refine List.pairwise_cons.mpr ⟨fun z hz => ?_, h⟩
      rcases List.mem_cons.mp hz with rfl | hz
      · exact c
      · exact tr x y z hx py (hP z (List.mem_cons_of_mem _ hz)) c (h1 z hz)
theorem srt_srtd {α : Type} {lt : α → α → Bool} {P : α → Prop} (as : ∀ x y, P x → P y → lt x y = true → lt y x = false) (tr : ∀ x y z, P x → P y → P z → lt y x = false → lt z y = false → lt z x = false) :
    ∀ xs : List α, (∀ x ∈ xs, P x) → (srt lt xs).Pairwise (fun a b => lt b a = false)
  | [], _ => List.Pairwise.nil
  | x :: xs, hP => ins_srtd as tr (hP x List.mem_cons_self) _ (fun y hy => hP y (List.mem_cons_of_mem _ ((srt_perm xs).mem_iff.mp hy))) (srt_srtd as tr xs fun y hy => hP y (List.mem_cons_of_mem _ hy))
open Classical in
noncomputable def sortD (xs : List D) : Option (List D) := if OrdOk xs then some (srt ltD xs) else none
theorem OrdOk.as {xs : List D} (o : OrdOk xs) {x y : D} (hx : x ∈ xs) (hy : y ∈ xs) (h : ltD x y = true) : ltD y x = false := by
  cases e : ltD y x with
  | false => rfl
  | true => have := o.tr x hx y hy x hx h e; rw [o.ir x hx] at this; cases this
theorem OrdOk.le_tr {xs : List D} (o : OrdOk xs) {x y z : D} (hx : x ∈ xs) (hy : y ∈ xs) (hz : z ∈ xs) (h : ltD y x = false) (h2 : ltD z y = false) : ltD z x = false := by
  cases e : ltD z x with
  | false => rfl
  | true =>
    by_cases xy : x = y
    · subst xy; rw [e] at h2; cases h2
    · rcases o.tt x hx y hy xy with k | k
      · have := o.tr z hz x hx y hy e k; rw [this] at h2; cases h2
      · rw [k] at h; cases h
/-- two rearrangements in order are one -/
theorem perm_uniq {α : Type} {lt : α → α → Bool} : ∀ {l m : List α}, l.Perm m → (∀ x ∈ l, ∀ y ∈ l, x ≠ y → lt x y = true ∨ lt y x = true) → l.Pairwise (fun x y => lt y x = false) → m.Pairwise (fun x y => lt y x = false) → l = m
  | [], m, p, _, _, _ => (List.Perm.eq_nil p.symm).symm
  | x :: l, [], p, _, _, _ => absurd p.length_eq (by simp)
  | x :: l, y :: m, p, t, h1, h2 => by
    have e : x = y := by
      apply Classical.byContradiction
      intro ne
      have hy : y ∈ l := by
        rcases List.mem_cons.mp (p.mem_iff.mpr (List.mem_cons_self (a := y) (l := m))) with z | z
        · exact absurd z.symm ne
        · exact z
      have hx : x ∈ m := by
        rcases List.mem_cons.mp (p.mem_iff.mp (List.mem_cons_self (a := x) (l := l))) with z | z
        · exact absurd z ne
        · exact z
      have q1 := (List.pairwise_cons.mp h1).1 y hy
      have q2 := (List.pairwise_cons.mp h2).1 x hx
      rcases t x List.mem_cons_self y (List.mem_cons_of_mem _ hy) ne with z | z
      · rw [z] at q2; cases q2
      · rw [z] at q1; cases q1
    subst e
    rw [perm_uniq p.cons_inv (fun a ha b hb => t a (List.mem_cons_of_mem _ ha) b (List.mem_cons_of_mem _ hb)) (List.pairwise_cons.mp h1).2 (List.pairwise_cons.mp h2).2]
theorem OrdOk.sorted {xs : List D} (o : OrdOk xs) : (srt ltD xs).Pairwise fun x y => ltD y x = false :=
  srt_srtd (P := fun x => x ∈ xs) (fun x y hx hy h => o.as hx hy h) (fun x y z hx hy hz h k => o.le_tr hx hy hz h k) xs fun x h => h
theorem sortD_some {xs ys : List D} (h : sortD xs = some ys) : OrdOk xs ∧ ys = srt ltD xs := by
  unfold sortD at h
  split at h
  · rename_i o; cases h; exact ⟨o, rfl⟩
  · cases h
section
variable {X : Cx} {pins : List (Addr × Obj)} {σ : L2.St} {H : Hp} {s : Shared} {m : List Addr} {S : Store}
/-- the lexicographic loop of the sort, over what stands in the store -/
theorem kat_lex (I : Inv X pins σ H s) (sr : SR X.K m S H) {prog : Program} {w : World} {A : Around} (hu : A.units + 40 < cLine) {fl : Bool} {k : Nat} (hk : k ≤ 12) {Q : Bool → Shared → Prop} : ∀ (xs ys : List D) (vs ws : List V) (us ts : List Value) (i : Nat) (b : Bool),
    lexO .lt (ordD .lt k) xs ys = some b → ((xs.zip ys).all fun p => match eqD [] p.1 p.2 with | some true => true | some false => (ordD .lt k p.1 p.2).isSome | none => false) = true →
    Reps m H xs vs → Reps m H ys ws → Vals vs us → Vals ws ts → ((fl && i == 0) = true → ∃ n n' r r', xs = D.int n :: r ∧ ys = D.int n' :: r') → Q b s → PySem.W.KatLex prog w A fl (ord4 .lt (xs.length : Nat) (ys.length : Nat)) Q (us.zip ts) i s
  | [], [], _, _, _, _, i, b, h, _, .nil, .nil, .nil, .nil, _, hq => by
    unfold lexO at h
    cases h
    exact PySem.W.kat_nil hq
  | [], y :: ys, _, _, _, _, i, b, h, _, .nil, .cons _ _, .nil, .cons _ _, _, hq => by
    unfold lexO at h
    cases h
    refine PySem.W.kat_nil ?_
    have : ord4 .lt (([] : List D).length : Nat) ((y :: ys).length : Nat) = ord4 .lt 0 1 := by simp [ord4] <;> omega
    rw [this]; exact hq
  | x :: xs, [], _, _, _, _, i, b, h, _, .cons _ _, .nil, .cons _ _, .nil, _, hq => by
    unfold lexO at h
    cases h
    refine PySem.W.kat_nil ?_
    have : ord4 .lt ((x :: xs).length : Nat) (([] : List D).length : Nat) = ord4 .lt 1 0 := by simp [ord4] <;> omega
    rw [this]; exact hq
  | x :: xs, y :: ys, v :: vs, w' :: ws, u :: us, t :: ts, i, b, h, hall, .cons r1 t1, .cons r2 t2, .cons v1 w1, .cons v2 w2, hi, hq => by
    rw [List.zip_cons_cons, List.all_cons, Bool.and_eq_true] at hall
    obtain ⟨ha, hall⟩ := hall
    have eqn : ∃ c, eqD [] x y = some c ∧ (c = false → (ordD .lt k x y).isSome = true) := by
      dsimp only at ha
      cases e : eqD [] x y with
      | none => rw [e] at ha; cases ha
      | some c => refine ⟨c, rfl, fun z => ?_⟩; subst z; rw [e] at ha; exact ha
    obtain ⟨c, hc, hs⟩ := eqn
    have E : PySem.SeqAt.EqAt A s u t c := by
      have q := hc
      unfold eqD at q
      cases c1 : pd [] 12 x with
      | none => rw [c1] at q; cases q
      | some p =>
        cases c2 : pd [] 12 y with
        | none => rw [c1, c2] at q; cases q
        | some p' =>
          rw [c1, c2] at q
          have q' := Option.some.inj q
          rw [← q']
          exact eq_at I sr (pd_nil 12 x p c1) (pd_nil 12 y p' c2) r1 r2 v1 v2 A (by omega)
    rw [List.zip_cons_cons]
    refine PySem.W.kat_cons (E prog w _ _ ?_)
    have ln : ord4 .lt ((x :: xs).length : Nat) ((y :: ys).length : Nat) = ord4 .lt (xs.length : Nat) (ys.length : Nat) := by
      show decide (((x :: xs).length : Int) < ((y :: ys).length : Int)) = decide ((xs.length : Int) < (ys.length : Int))
      rw [List.length_cons, List.length_cons]
      exact decide_eq_decide.mpr (by omega)
    cases c with
    | true =>
      refine PySem.W.kat_yes ?_
      unfold lexO at h
      rw [hc] at h
      rw [ln]
      exact kat_lex I sr hu hk xs ys vs ws us ts (i + 1) b h hall t1 t2 w1 w2 (fun z => by simp at z) hq
    | false =>
      refine PySem.W.kat_no ?_
      unfold lexO at h
      rw [hc] at h
      have h : ordD .lt k x y = some b := h
      cases hfl : (fl && i == 0) with
      | true =>
        obtain ⟨n, n', r, r', e1, e2⟩ := hi hfl
        cases e1; cases e2
        cases r1; cases r2
        obtain ⟨t, rfl⟩ := v1
        obtain ⟨t', rfl⟩ := v2
        have hb : b = decide (n < n') := by
          cases k <;> (unfold ordD at h; cases h; rfl)
        subst hb
        exact oneLt_int hq
      | false =>
        exact PySem.W.kat_one _ _ (ord_rc I sr (.inl rfl) k x y b _ _ _ _ A h r1 r2 v1 v2 (by omega) prog w _ _ (show PySem.W.BoolBack Q (.bool b) s from hq))
/-- sorted of a list of tuples -/
theorem sort_tup (I : Inv X pins σ H s) (sr : SR X.K m S H) (hu : X.A.units + 60 < cLine) {xs : List D} {vs : List V} {its : List Value} {a : Addr} (o : OrdOk xs) {fb : Bool} (hk : ∀ x ∈ xs, firstT x = some fb) (rs : Reps m H xs vs) (rv : Vals vs its) (hl : s.heap.IsList a its.toArray) (hz : its.length ≤ sizeLine) {Q : VK}
    (h : ∀ (ys : List V) (p : Addr), Reps m H (srt ltD xs) ys → H p = none → Q (.ref p) (upd H p (.lst ys))) : wpAny (model X.prog X.w) X.A (call (.builtin "sorted") [.ref a]) (EP X pins σ Q) X.xe s := by
  -- which item a value is
  have ex : ∀ u ∈ its, ∃ d ∈ xs, ∃ v, Rep m H d v ∧ RelV v u := fun u hu => by
    obtain ⟨i, hi, rfl⟩ := List.mem_iff_getElem.mp hu
    have l1 : i < xs.length := by rw [rs.length, rv.length]; exact hi
    obtain ⟨v, h1, h2⟩ := rs.get (List.getElem?_eq_getElem l1)
    obtain ⟨u', h3, h4⟩ := rv.get h1
    rw [List.getElem?_eq_getElem hi] at h3
    cases h3
    exact ⟨_, List.getElem_mem l1, v, h2, h4⟩
  open Classical in
  let dec : Value → D := fun u => if h : ∃ d ∈ xs, ∃ v, Rep m H d v ∧ RelV v u then choose h else xs.headD .non
  have isref : ∀ d ∈ xs, ∀ v u, Rep m H d v → RelV v u → ∃ b, v = .ref b ∧ u = .ref b := fun d hd v u r q => by
    have := hk d hd
    cases r <;> first | (unfold firstT at this; cases this; done) | skip
    · cases q; exact ⟨_, rfl, rfl⟩
  have dec_in : ∀ u, dec u ∈ xs ∨ (xs = [] ∧ dec u = .non) := fun u => by
    show (if h : ∃ d ∈ xs, ∃ v, Rep m H d v ∧ RelV v u then Classical.choose h else xs.headD .non) ∈ xs ∨ _
    split
    · rename_i h; exact .inl (Classical.choose_spec h).1
    · cases hx : xs with
      | nil =>
        refine .inr ⟨rfl, ?_⟩
        rename_i hn
        show (if h : ∃ d ∈ xs, ∃ v, Rep m H d v ∧ RelV v u then Classical.choose h else xs.headD .non) = .non
        rw [dif_neg hn, hx]; rfl
      | cons x r => exact .inl (by simp)
  have dec_eq : ∀ d ∈ xs, ∀ v u, Rep m H d v → RelV v u → dec u = d := fun d hd v u r q => by
    have h : ∃ d ∈ xs, ∃ v, Rep m H d v ∧ RelV v u := ⟨d, hd, v, r, q⟩
    have e : dec u = Classical.choose h := dif_pos h
    obtain ⟨h1, v', h2, h3⟩ := Classical.choose_spec h
    rw [e]
    obtain ⟨b, rfl, rfl⟩ := isref d hd v u r q
    obtain ⟨b', rfl, e'⟩ := isref _ h1 v' _ h2 h3
    cases e'
    exact rep_fun (o.no _ h1) (o.no d hd) h2 r
  have irr : ltD .non .non = false := rfl
  let ltv : Value → Value → Bool := fun v u => ltD (dec v) (dec u)
  have O : SrtO.Swo ltv := by
    refine ⟨fun v u h => ?_, fun v u w h k => ?_⟩
    · rcases dec_in v with a | ⟨e, a⟩
      · rcases dec_in u with b | ⟨e, b⟩
        · exact o.as a b h
        · rw [e] at a; cases a
      · rcases dec_in u with b | ⟨_, b⟩
        · rw [e] at b; cases b
        · show ltD (dec u) (dec v) = false
          rw [a, b]; rfl
    · rcases dec_in v with a | ⟨e, a⟩
      · rcases dec_in u with b | ⟨e, b⟩
        · rcases dec_in w with c | ⟨e, c⟩
          · exact o.le_tr a b c h k
          · rw [e] at a; cases a
        · rw [e] at a; cases a
      · rcases dec_in w with c | ⟨_, c⟩
        · rw [e] at c; cases c
        · show ltD (dec w) (dec v) = false
          rw [a, c]; rfl
  refine SrtO.sorted_ord O hl hz (fun h2 h₁ a' ha' kk => ?_) fun out h1 h2 => ?_
  · intro h' keep
    have k' : ∀ b ob, s.heap.get? b = some ob → h'.get? b = some ob := fun b ob e => keep b ob (kk b ob e).1 (kk b ob e).2
    have I' : Inv X pins σ H { s with heap := h' } := I.kept (t' := s.toks) k'
    -- what an item is in the heap
    have item : ∀ u ∈ its, ∃ (b : Addr) (ds : List D) (ws : List V) (us : List Value) (ob : Obj) (n : Nat), u = .ref b ∧ D.tup ds ∈ xs ∧ dec u = .tup ds ∧ Reps m H ds ws ∧ Vals ws us ∧ h'.get? b = some ob ∧ ob.cls = .type "tuple" ∧ ob.data = .seq us.toArray n := fun u hu => by
      obtain ⟨d, hd, v, r, q⟩ := ex u hu
      have de := dec_eq d hd v u r q
      have := hk d hd
      cases r with
      | tup e a =>
        cases q
        obtain ⟨us, r1, p1, _⟩ := I'.tuple (SqT.of e)
        obtain ⟨ob, n, hb, hc, hd'⟩ : ∃ ob n, h'.get? _ = some ob ∧ ob.cls = .type "tuple" ∧ ob.data = .seq us.toArray n := by
          obtain ⟨ob, e1, e2, e3⟩ := p1
          obtain ⟨n, e3⟩ := e3
          exact ⟨ob, n, e1, e2, e3⟩
        exact ⟨_, _, _, us, ob, n, rfl, hd, de, a, r1, hb, hc, hd'⟩
      | _ => unfold firstT at this; cases this
    refine ⟨tuples' fb, fun Q E hq => ?_, fun p q hp hq => ?_⟩
    · have T : ∃ T : Value, (T != Value.type "tuple") = fb ∧ (T == T) = true ∧ ∀ l : List Value, (∀ u ∈ l, u ∈ its) → ∃ fs : List Value, PySem.W.KatTups h' l fs ∧ fs.length = l.length ∧ ∀ f ∈ fs, PySem.W.Looks (model X.prog X.w) h' (typeOf f) T := by
        refine ⟨if fb = true then .type "int" else .type "tuple", by cases fb <;> decide, by cases fb <;> decide, fun l => ?_⟩
        induction l with
        | nil => exact fun _ => ⟨[], .nil, rfl, fun f hf => (by cases hf)⟩
        | cons u l ih =>
          intro hu
          obtain ⟨fs, f1, f2, f3⟩ := ih fun w hw => hu w (List.mem_cons_of_mem _ hw)
          obtain ⟨b1, ds1, ws1, us1, ob1, n1, e1, m1, d1, r1, v1, g1, c1, t1⟩ := item u (hu u List.mem_cons_self)
          have k1 := hk _ m1
          have fst : ∃ f r, us1 = f :: r ∧ PySem.W.Looks (model X.prog X.w) h' (typeOf f) (if fb = true then .type "int" else .type "tuple") := by
            unfold firstT at k1
            split at k1 <;> first | (cases k1; done) | skip
            · rename_i ez
              cases ez
              cases k1
              cases r1 with
              | cons ra rb =>
                cases ra
                cases v1 with
                | cons va vb =>
                  obtain ⟨t, rfl⟩ := va
                  exact ⟨_, _, rfl, PySem.W.Looks.now⟩
            · rename_i ez
              cases ez
              cases k1
              cases r1 with
              | cons ra rb =>
                cases ra with
                | tup e a =>
                  cases v1 with
                  | cons va vb =>
                    cases va
                    obtain ⟨us, q1, p1, _⟩ := I'.tuple (SqT.of e)
                    obtain ⟨ob, g1, g2, _⟩ := p1
                    refine ⟨_, _, rfl, ?_⟩
                    have : PySem.W.Looks (model X.prog X.w) h' (typeOf (.ref _)) ob.cls := (PySem.W.Looks.ld g1).andThen .now
                    rw [g2] at this
                    exact this
          obtain ⟨f, r, rfl, hf⟩ := fst
          subst e1
          exact ⟨f :: fs, .cons g1 c1 t1 (by simp) f1, by simp [f2], fun g hg => by
            rcases List.mem_cons.mp hg with rfl | hg
            · exact hf
            · exact f3 g hg⟩
      obtain ⟨T, hT, hTT, fl⟩ := T
      obtain ⟨fs, f1, f2, f3⟩ := fl its fun u hu => hu
      refine PySem.W.kat_kind f1 (by rw [f2]; omega) f3 hTT ?_
      rw [hT]; exact hq
    · obtain ⟨b1, ds1, ws1, us1, ob1, n1, e1, m1, d1, r1, v1, g1, c1, t1⟩ := item p.1 hp
      obtain ⟨b2, ds2, ws2, us2, ob2, n2, e2, m2, d2, r2, v2, g2, c2, t2⟩ := item q.1 hq
      obtain ⟨b, hb⟩ := Option.isSome_iff_exists.mp (o.cmp _ m1 _ m2)
      have lb : SrtO.lt2 ltv p q = b := by
        show (ordD .lt 12 (dec p.1) (dec q.1)).getD false = b
        rw [d1, d2, hb]; rfl
      rw [e1, e2]
      refine PySem.W.kat_lt g1 t1 g2 t2 ?_
      have hb' : ordD .lt (11 + 1) (.tup ds1) (.tup ds2) = some b := hb
      rcases ordD_cases hb' with ⟨i, j, z, _⟩ | ⟨k', xs', ys', ek, z1, z2, hall, hx⟩
      · cases z
      · cases z1; cases z2
        have ek' : k' = 11 := by omega
        subst ek'
        have L := kat_lex I' sr (prog := X.prog) (w := X.w) (A := X.A.in1.in1) (by show X.A.units + 1 + 1 + 40 < cLine; omega) (fl := fb) (by omega) (Q := fun r s' => s' = { s with heap := h' } ∧ r = SrtO.lt2 ltv p q) ds1 ds2 ws1 ws2 us1 us2 0 b hx hall r1 r2 v1 v2 (fun z => by
          have z : fb = true := by simpa using z
          subst z
          have k1 := hk _ m1
          have k2 := hk _ m2
          unfold firstT at k1 k2
          split at k1 <;> first | (cases k1; done) | skip
          split at k2 <;> first | (cases k2; done) | skip
          rename_i e3 _ _ _ e4
          cases e3; cases e4
          exact ⟨_, _, _, _, rfl, rfl⟩) ⟨rfl, lb.symm⟩
        have fin : ord4 .lt (ds1.length : Nat) (ds2.length : Nat) = decide (us1.toArray.size < us2.toArray.size) := by
          rw [List.size_toArray, List.size_toArray, ← v1.length, ← v2.length, ← r1.length, ← r2.length]
          show decide ((ds1.length : Int) < ds2.length) = _
          exact decide_eq_decide.mpr (by omega)
        rw [fin] at L
        exact L
  · obtain ⟨e1, e2⟩ := refs_back rv fun v hv => by
      obtain ⟨i, hi, rfl⟩ := List.mem_iff_getElem.mp hv
      have l1 : i < xs.length := by rw [rs.length]; exact hi
      obtain ⟨v, q1, q2⟩ := rs.get (List.getElem?_eq_getElem l1)
      rw [List.getElem?_eq_getElem hi] at q1
      cases q1
      obtain ⟨u', h3, h4⟩ := rv.get (List.getElem?_eq_getElem hi)
      obtain ⟨b, eb, _⟩ := isref _ (List.getElem_mem l1) _ u' q2 h4
      exact ⟨b, eb⟩
    have em : its.map dec = xs := by
      apply List.ext_getElem?
      intro i
      rw [List.getElem?_map]
      by_cases hi : i < xs.length
      · obtain ⟨v, q1, q2⟩ := rs.get (List.getElem?_eq_getElem hi)
        obtain ⟨u', h3, h4⟩ := rv.get q1
        rw [h3, List.getElem?_eq_getElem hi]
        show some (dec u') = _
        rw [dec_eq _ (List.getElem_mem hi) v u' q2 h4]
      · have hi' : ¬ i < its.length := by rw [← rv.length, ← rs.length]; exact hi
        rw [List.getElem?_eq_none (by omega), List.getElem?_eq_none (by omega)]; rfl
    have hp : (out.map dec).Perm xs := by
      have := h2.perm.map dec
      rw [em] at this
      exact this
    have eo : out.map dec = srt ltD xs := by
      refine perm_uniq (lt := ltD) (hp.trans (srt_perm xs).symm) (fun x hx y hy ne => o.tt x (hp.mem_iff.mp hx) y (hp.mem_iff.mp hy) ne) ?_ o.sorted
      exact List.pairwise_map.mpr h1
    have om : ∀ u ∈ out, u ∈ its := fun u hu => h2.perm.mem_iff.mp hu
    have ro : ∀ l : List Value, (∀ u ∈ l, u ∈ its) → Reps m H (l.map dec) (l.map backV) ∧ Vals (l.map backV) l := fun l => by
      induction l with
      | nil => exact fun _ => ⟨.nil, .nil⟩
      | cons u l ih =>
        intro hu
        obtain ⟨i1, i2⟩ := ih fun w hw => hu w (List.mem_cons_of_mem _ hw)
        obtain ⟨d, hd, v, r, q⟩ := ex u (hu u List.mem_cons_self)
        have de := dec_eq d hd v u r q
        obtain ⟨b, rfl, rfl⟩ := isref d hd v u r q
        rw [List.map_cons, List.map_cons, de]
        exact ⟨.cons r i1, .cons rfl i2⟩
    obtain ⟨ro1, ro2⟩ := ro out om
    rw [eo] at ro1
    obtain ⟨ep, he'⟩ := PyProof.Rows.sortedAll_at s.heap its out.toArray
    have hlen : (out.map backV).length ≤ sizeLine := by
      rw [List.length_map, h2.perm.length_eq]; exact hz
    exact ⟨.ref _, upd H (s.heap.objs.size + 1) (.lst (out.map backV)), I.laid (t' := s.toks) (fun _ _ => PyProof.Rows.sortedAll_old) (Nat.le_succ _) ⟨hlen, out, ep, ro2, he'⟩, rfl, h _ _ ro1 (I.hok.fresh (Nat.le_succ _))⟩
end
end NL

namespace NL
open PySem PySem.Spec PyProof.Rows L2
/-! ### built-in calls -/
inductive Blt where | abs | int | len | min | max | list | tuple | sum | sorted
  deriving DecidableEq
def intsD : List D → Option (List Int)
  | [] => some []
  | .int i :: r => (intsD r).map (i :: ·)
  | _ => none
noncomputable def bltD : Blt → List D → M D
  | .abs, [.int i] => pure (.int (if i < 0 then -i else i))
  | .int, [.int i] => pure (.int i)
  | .int, [.bl b] => pure (.int (if b = true then 1 else 0))
  | .len, [.tup xs] => pure (.int xs.length)
  | .len, [.ref l] => getL l >>= fun xs => pure (.int xs.length)
  | .min, ds => mnD .lt ds
  | .max, ds => mnD .gt ds
  | .list, [.tup xs] => alloc (.lst xs)
  | .list, [.ref l] => getL l >>= fun xs => alloc (.lst xs)
  | .tuple, [.tup xs] => pure (.tup xs)
  | .tuple, [.ref l] => getL l >>= fun xs => pure (.tup xs)
  | .sum, [.ref l] => getL l >>= fun xs => match intsD xs with | some ns => pure (.int ns.sum) | none => die
  | .sorted, [.ref l] => getL l >>= fun xs => match sortD xs with | some ys => alloc (.lst ys) | none => die
  | _, _ => die
def Blt.name : Blt → Str
  | .abs => "abs" | .int => "int" | .len => "len" | .min => "min" | .max => "max" | .list => "list" | .tuple => "tuple" | .sum => "sum" | .sorted => "sorted"
def Blt.val : Blt → Value
  | .abs => .builtin "abs" | .int => .type "int" | .len => .builtin "len" | .min => .builtin "min" | .max => .builtin "max" | .list => .type "list" | .tuple => .type "tuple" | .sum => .builtin "sum" | .sorted => .builtin "sorted"
theorem CallR.imp {X : Cx} {f : Value} {r r' : List V → Hp → VK → Prop} (h : CallR X f r) (k : ∀ vs H Q, r' vs H Q → r vs H Q) : CallR X f r' := fun pins s σ H xs us Q I rx q => h pins s σ H xs us Q I rx (k _ _ _ q)
theorem CallR.or {X : Cx} {f : Value} {r r' : List V → Hp → VK → Prop} (h : CallR X f r) (h' : CallR X f r') : CallR X f (fun vs H Q => r vs H Q ∨ r' vs H Q) := fun pins s σ H xs us Q I rx q => q.elim (h pins s σ H xs us Q I rx) (h' pins s σ H xs us Q I rx)
theorem Reps.one {m : List Addr} {H : Hp} {d : D} {vs : List V} (h : Reps m H [d] vs) : ∃ v, vs = [v] ∧ Rep m H d v := by
  cases h with
  | cons a b => cases b; exact ⟨_, rfl, a⟩
theorem intsD_some {m : List Addr} {H : Hp} : ∀ {ds : List D} {ns : List Int} {vs : List V}, intsD ds = some ns → Reps m H ds vs → vs = ns.map V.int
  | [], _, _, h, r => by cases r; cases h; rfl
  | d :: ds, ns, _, h, r => by
    cases r with
    | cons r1 r2 =>
      cases r1 <;> simp only [intsD] at h <;> try cases h
      obtain ⟨ns', e, rfl⟩ := Option.map_eq_some_iff.mp h
      rw [intsD_some e r2]; rfl
section
variable {K : PySem.W.Frag} {m : List Addr} {S : Store} {H : Hp} {Q : VK} {E : Str → Option Nat → List Addr → Store → Hp → Prop}
theorem post_tup {xs : List D} {vs : List V} (s : SR K m S H) (h : post K E m H (.ok (.tup xs) S) (fun d m' _ H' => ∀ w, Rep m' H' d w → Q w H')) (r : Reps m H xs vs) : ∀ p, H p = none → Q (.ref p) (upd H p (.tup vs)) := fun p hp =>
  post_gr h (Gr.upd_new hp) (s.new hp) _ (.tup upd_same (Reps.mono (Gr.upd_new hp) _ _ r))
end
section
variable {X : Cx}
theorem call_sorted (hu : X.A.units + 65 < cLine) : CallR X (.builtin "sorted") (rCD X.K (bltD .sorted)) := by
  intro pins σ2 σ H vs us Q I rx h
  obtain ⟨Ex, m, S, ds, s, rs, h⟩ := h
  rcases ds with _ | ⟨d, _ | ⟨d2, ds⟩⟩
  · exact (show False from h).elim
  · obtain ⟨v, rfl, r⟩ := rs.one
    cases r <;> try exact (show False from h).elim
    rename_i l a ea
    obtain ⟨o, e0, hp⟩ := getL_bind h
    obtain ⟨ws, q, ra⟩ := s.sq_at e0 ea
    cases e : sortD (items o) with
    | none => rw [e] at hp; exact hp.elim
    | some ys =>
      rw [e] at hp
      obtain ⟨ok, rfl⟩ := sortD_some e
      have fin : ∀ {ws : List V}, Reps m H (srt ltD (items o)) ws → ∀ p, H p = none → Q (.ref p) (upd H p (.lst ws)) := fun {ws} r => post_alloc s hp r
      rcases ok.kind with ⟨ns, hn⟩ | ⟨fb, hk⟩
      · refine (CallR.imp cr_sortedI (fun vs H Q (h : rCD X.K (bltD .sorted) vs H Q ∧ ∃ (a : Addr) (ns : List Int), vs = [V.ref a] ∧ SqL X.K H a (ns.map V.int) ∧ ∀ (ns' : List Int) (p : Addr), ns'.Perm ns → ns'.Pairwise (· ≤ ·) → H p = none → Q (.ref p) (upd H p (.lst (ns'.map V.int)))) => h.2)) pins _ σ H _ us Q I rx ⟨⟨Ex, m, S, _, s, rs, h⟩, a, ns, rfl, ?_, fun ns' p hp1 hs hn' => ?_⟩
        · rw [hn] at ra
          have : ∀ {ns : List Int} {ws : List V}, Reps m H (ns.map D.int) ws → ws = ns.map V.int := fun {ns} => by
            induction ns with
            | nil => intro ws r; cases r; rfl
            | cons k ns ih =>
              intro ws r
              cases r with
              | cons r1 r2 => cases r1; rw [ih r2]; rfl
          rw [← this ra]; exact q
        · have e1 : srt ltD (items o) = ns'.map D.int := by
            refine perm_uniq (lt := ltD) ((srt_perm _).trans (by rw [hn]; exact (hp1.map D.int).symm)) (fun x hx y hy ne => ok.tt x ((srt_perm _).mem_iff.mp hx) y ((srt_perm _).mem_iff.mp hy) ne) ok.sorted ?_
            refine List.pairwise_map.mpr (hs.imp fun {x y} h => ?_)
            show (ordD .lt 12 (.int y) (.int x)).getD false = false
            have : ordD .lt 12 (.int y) (.int x) = some (decide (y < x)) := rfl
            rw [this]
            exact decide_eq_false (by omega)
          exact fin (by rw [e1]; exact Reps.ints ns') p hn'
      · obtain ⟨its, rv, hl, hz⟩ := I.list q
        have eu : us = [.ref a] := by
          cases rx with
          | cons r1 r2 => cases r1; cases r2; rfl
        rw [eu]
        exact sort_tup I s (by omega) ok hk ra rv hl.isList (by rw [← rv.length]; exact hz) fun ys p hr hn' => fin hr p hn'
  · cases d <;> exact (show False from h).elim
theorem call_bltD (hc : X.calm = true) (hu : X.A.units + 65 < cLine) : ∀ b : Blt, CallR X b.val (rCD X.K (bltD b))
  | .abs => by
    refine CallR.imp call_abs ?_
    intro vs H Q h
    obtain ⟨Ex, m, S, ds, s, rs, h⟩ := h
    rcases ds with _ | ⟨d, _ | ⟨d2, ds⟩⟩
    · exact (show False from h).elim
    · obtain ⟨v, rfl, r⟩ := rs.one
      cases r <;> try exact (show False from h).elim
      exact ⟨_, rfl, post_val s h (.int _)⟩
    · cases d <;> exact (show False from h).elim
  | .int => by
    refine CallR.imp call_int1 ?_
    intro vs H Q h
    obtain ⟨Ex, m, S, ds, s, rs, h⟩ := h
    rcases ds with _ | ⟨d, _ | ⟨d2, ds⟩⟩
    · exact (show False from h).elim
    · obtain ⟨v, rfl, r⟩ := rs.one
      cases r <;> try exact (show False from h).elim
      · exact .inr ⟨_, rfl, post_val s h (.int _)⟩
      · exact .inl ⟨_, rfl, post_val s h (.int _)⟩
    · cases d <;> exact (show False from h).elim
  | .len => by
    refine CallR.imp call_len_seq ?_
    intro vs H Q h
    obtain ⟨Ex, m, S, ds, s, rs, h⟩ := h
    rcases ds with _ | ⟨d, _ | ⟨d2, ds⟩⟩
    · exact (show False from h).elim
    · obtain ⟨v, rfl, r⟩ := rs.one
      cases r <;> try exact (show False from h).elim
      · rename_i a xs vs ea ra
        exact ⟨a, vs, rfl, .inr (SqT.of ea), by rw [← ra.length]; exact post_val s h (.int _)⟩
      · rename_i l a ea
        obtain ⟨o, e0, hp⟩ := getL_bind h
        obtain ⟨ws, q, ra⟩ := s.sq_at e0 ea
        exact ⟨a, ws, rfl, .inl q, by rw [← ra.length]; exact post_val s hp (.int _)⟩
    · cases d <;> exact (show False from h).elim
  | .min => CallR.imp (call_min hc (by omega)) fun _ _ _ h => h
  | .max => CallR.imp (call_max hc (by omega)) fun _ _ _ h => h
  | .list => by
    refine CallR.imp call_list_of ?_
    intro vs H Q h
    obtain ⟨Ex, m, S, ds, s, rs, h⟩ := h
    rcases ds with _ | ⟨d, _ | ⟨d2, ds⟩⟩
    · exact (show False from h).elim
    · obtain ⟨v, rfl, r⟩ := rs.one
      cases r <;> try exact (show False from h).elim
      · rename_i a xs vs ea ra
        exact ⟨a, vs, rfl, .inr (SqT.of ea), post_alloc s h ra⟩
      · rename_i l a ea
        obtain ⟨o, e0, hp⟩ := getL_bind h
        obtain ⟨ws, q, ra⟩ := s.sq_at e0 ea
        exact ⟨a, ws, rfl, .inl q, post_alloc s hp ra⟩
    · cases d <;> exact (show False from h).elim
  | .tuple => by
    refine CallR.imp call_tuple_of ?_
    intro vs H Q h
    obtain ⟨Ex, m, S, ds, s, rs, h⟩ := h
    rcases ds with _ | ⟨d, _ | ⟨d2, ds⟩⟩
    · exact (show False from h).elim
    · obtain ⟨v, rfl, r⟩ := rs.one
      cases r <;> try exact (show False from h).elim
      · rename_i a xs vs ea ra
        exact ⟨a, vs, rfl, .inr ⟨SqT.of ea, post_val s h (.tup ea ra)⟩⟩
      · rename_i l a ea
        obtain ⟨o, e0, hp⟩ := getL_bind h
        obtain ⟨ws, q, ra⟩ := s.sq_at e0 ea
        exact ⟨a, ws, rfl, .inl ⟨q, post_tup s hp ra⟩⟩
    · cases d <;> exact (show False from h).elim
  | .sum => by
    refine CallR.imp (cr_sum hc) ?_
    intro vs H Q h
    obtain ⟨Ex, m, S, ds, s, rs, h⟩ := h
    rcases ds with _ | ⟨d, _ | ⟨d2, ds⟩⟩
    · exact (show False from h).elim
    · obtain ⟨v, rfl, r⟩ := rs.one
      cases r <;> try exact (show False from h).elim
      rename_i l a ea
      obtain ⟨o, e0, hp⟩ := getL_bind h
      obtain ⟨ws, q, ra⟩ := s.sq_at e0 ea
      cases e : intsD (items o) with
      | none => rw [e] at hp; exact hp.elim
      | some ns =>
        rw [e] at hp
        have e2 := intsD_some e ra
        subst e2
        exact ⟨a, ns, rfl, q, post_val s hp (.int _)⟩
    · cases d <;> exact (show False from h).elim
  | .sorted => call_sorted hu
/-! ### isinstance -/
/-- the name of a value's type -/
def tyD (S : Store) : D → Option String
  | .non => some "NoneType" | .bl _ => some "bool" | .int _ => some "int" | .str _ => some "str" | .tup _ => some "tuple"
  | .ref l => match S[l]? with
    | some _ => some "list"
    | none => none
inductive Ty where | int | bool | tuple | list | str
  deriving DecidableEq
def Ty.nm : Ty → String
  | .int => "int" | .bool => "bool" | .tuple => "tuple" | .list => "list" | .str => "str"
def Ty.name : Ty → Str
  | .int => "int" | .bool => "bool" | .tuple => "tuple" | .list => "list" | .str => "str"
def isiD (T : Ty) (d : D) : M D := fun S => match tyD S d with
  | some a => .ok (.bl (a == T.nm || (a == "bool" && T.nm == "int"))) S
  | none => .stuck
theorem kit_all : ∀ (T : Ty), (kitB "NoneType" T.nm = some (("NoneType" : String) == T.nm || (("NoneType" : String) == "bool" && T.nm == "int"))) ∧ (kitB "bool" T.nm = some (("bool" : String) == T.nm || (("bool" : String) == "bool" && T.nm == "int"))) ∧
    (kitB "int" T.nm = some (("int" : String) == T.nm || (("int" : String) == "bool" && T.nm == "int"))) ∧ (kitB "str" T.nm = some (("str" : String) == T.nm || (("str" : String) == "bool" && T.nm == "int"))) ∧
    (kitB "tuple" T.nm = some (("tuple" : String) == T.nm || (("tuple" : String) == "bool" && T.nm == "int"))) ∧ (kitB "list" T.nm = some (("list" : String) == T.nm || (("list" : String) == "bool" && T.nm == "int")))
  | .int => by decide +kernel
  | .bool => by decide +kernel
  | .tuple => by decide +kernel
  | .list => by decide +kernel
  | .str => by decide +kernel
theorem SqF.ty {K : PySem.W.Frag} {H : Hp} {a : Addr} {vs : List V} (h : SqF K H a vs) : TyX K H (.ref a) (.type "list") := by
  rcases h with ⟨o, h⟩ | ⟨o, its, n, h, hc, _⟩
  · exact .base (.frz h)
  · exact .kList h hc
/-- isinstance(x, T): what the call asks -/
theorem isi_of {Ex : Str → Option Nat → List Addr → Store → Hp → Prop} {K : PySem.W.Frag} {m : List Addr} {S : Store} {H : Hp} {Q : VK} {T : Ty} {d : D} {v : V} (s : SR K m S H) (r : Rep m H d v) (h : post K Ex m H (isiD T d S) (fun d m' _ H' => ∀ w, Rep m' H' d w → Q w H')) : rIsi K [v, .ty T.nm] H Q := by
  have fin : ∀ {a : String} {b : Bool}, tyD S d = some a → TyX K H v (.type a) → kitB a T.nm = some (a == T.nm || (a == "bool" && T.nm == "int")) → rIsi K [v, .ty T.nm] H Q := fun {a b} e ty hk => by
    unfold isiD at h
    rw [e] at h
    exact ⟨v, .ty T.nm, .type a, .type T.nm, _, rfl, .ty _, ty, kit_ty hk, post_val s h (.bl _)⟩
  obtain ⟨k1, k2, k3, k4, k5, k6⟩ := kit_all T
  cases r with
  | non => exact fin (b := true) rfl (.base .non) k1
  | bl b => exact fin (b := true) rfl (.base (.bl b)) k2
  | int i => exact fin (b := true) rfl (.base (.int i)) k3
  | str x => exact fin (b := true) rfl (.base (.str x)) k4
  | tup e _ => exact fin (b := true) rfl (.base (.tup e)) k5
  | ref e =>
    rename_i l a
    cases e0 : S[l]? with
    | none => unfold isiD tyD at h; dsimp only at h; rw [e0] at h; exact h.elim
    | some o =>
      have ty : TyX K H (.ref a) (.type "list") := by
        have q := s.ob l o a e0 e
        cases o with
        | lst xs => obtain ⟨vs, q, _⟩ := q; exact .base (.lst q)
        | frz xs => obtain ⟨vs, q, _⟩ := q; exact q.ty
      exact fin (b := true) (by unfold tyD; dsimp only; rw [e0]) ty k6
/-! ### slices -/
def cutD (xs : List D) (lo hi : Option Int) : List D := (xs.drop (HT.sIx xs.length 0 lo)).take (HT.sIx xs.length xs.length hi - HT.sIx xs.length 0 lo)
def bndM : Bool → D → M (Option Int)
  | false, _ => pure none
  | true, .int i => pure (some i)
  | _, _ => die
def slcD : D → Option Int → Option Int → M D
  | .ref l, lo, hi => getL l >>= fun xs => alloc (.lst (cutD xs lo hi))
  | _, _, _ => die
theorem Reps.cut {m : List Addr} {H : Hp} {xs : List D} {vs : List V} (r : Reps m H xs vs) (lo hi : Option Int) : Reps m H (cutD xs lo hi) (cutV vs lo hi) := by
  unfold cutD cutV
  rw [r.length]
  exact (r.drop _).take _
end
end NL

/-! The small language: expressions, statements, what they answer; how the machine's text is read as them. -/
namespace NL
open PySem PySem.Spec PyProof.Rows L2
/-- a target: a name, or names that a tuple is parted to -/
inductive Tg where
  | nm (i : Nat) | tp (is : List Nat)
mutual
inductive E where
  | var (i : Nat) | con (d : D)
  | bin (o : Bop) (a b : E) | neg (a : E) | not (a : E)
  | cmp (o : Cop) (a b : E) | chn (o o' : Cop) (a b c : E)
  | and (a b : E) | or (a b : E) | ite (c a b : E)
  | tup (es : Es) | lst (es : Es)
  | idx (a i : E) | slc (p q : Bool) (a lo hi : E)
  | call (f : Nat) (es : Es) | blt (b : Blt) (es : Es) | isi (a : E) (T : Ty)
  | comp (own : List Nat) (tg : Tg) (it : It) (c e : E)
  | rev (e : E)
inductive Es where
  | nil | cons (e : E) (es : Es)
inductive It where
  | val (e : E) | rng1 (b : E) | rng2 (a b : E) | enm (e : E) | zip (a b : E)
end
mutual
inductive St where
  | set (i : Nat) (e : E) | unp (is : List Nat) (e : E) | setIx (o i e : E) | aug (i : Nat) (e : E)
  | expr (e : E) | app (i : Nat) (e : E) | ret (e : E) | ret0 | ifs (c : E) (a b : Sts) | for_ (tg : Tg) (it : It) (b : Sts) | whl (c : E) (b : Sts)
  | brk | cnt | pass | dead
  | popx (t : Option Tg) (i : Nat) | ext (i : Nat) (e : E) | clr (i : Nat)
inductive Sts where
  | nil | cons (s : St) (r : Sts)
end
abbrev Env := List (Option D)
inductive Flow where
  | nx (en : Env) | brk (en : Env) | cnt (en : Env) | ret (d : D) | exc (c : Str) (d : Option Nat) (en : Env)

/-! ### what they answer -/
/-- the lists are still the same -/
noncomputable def ckD (ps : List (Nat × Ob)) : M Unit := fun S => open Classical in if ∀ p ∈ ps, S[p.1]? = some p.2 then .ok () S else .stuck
def wipeD (en : Env) : List Nat → Env
  | [] => en
  | v :: vs => (wipeD en vs).set v none
def setAll (en : Env) : List Nat → List D → Env
  | i :: is, d :: ds => setAll (en.set i (some d)) is ds
  | _, _ => en
/-- the items of a thing that is parted into n -/
def unpD (n : Nat) : D → M (List D)
  | .tup xs => if xs.length = n then pure xs else die
  | .ref l => getL l >>= fun xs => if xs.length = n then pure xs else die
  | _ => die
def bindT : Tg → D → Env → M Env
  | .nm i, d, en => pure (en.set i (some d))
  | .tp is, d, en => unpD is.length d >>= fun ds => pure (setAll en is ds)
/-- l.append(d) -/
def pushD (l : Nat) (d : D) : M Unit := fun S => match S[l]? with
  | some (.lst xs) => if xs.length < sizeLine then .ok () (S.set l (.lst (xs ++ [d]))) else .stuck
  | _ => .stuck
noncomputable def cmpL (ck : M Unit) (bnd : D → M Env) (c : Env → M Bool) (e : Env → M D) (l : Nat) : List D → M Unit
  | [] => ck
  | x :: xs => ck >>= fun _ => bnd x >>= fun en => c en >>= fun t => if t = true then e en >>= fun d => pushD l d >>= fun _ => cmpL ck bnd c e l xs else cmpL ck bnd c e l xs
def noX {α : Type} (m : M α) : M α := fun S => match m S with
  | .ok a S => .ok a S
  | _ => .stuck
def rngD : D → D → M (List D)
  | .int a, .int b => if -(2 ^ 62) ≤ a ∧ a < 2 ^ 62 ∧ -(2 ^ 62) ≤ b ∧ b < 2 ^ 62 then pure ((List.range (b - a).toNat).map fun k => .int (a + (k : Nat))) else die
  | _, _ => die
def iterD : D → M (List D × List (Nat × Ob))
  | .tup xs => pure (xs, [])
  | .ref l => fun S => match S[l]? with
    | some o => .ok (items o, [(l, o)]) S
    | none => .stuck
  | _ => die
/-- numbered from i on -/
def numD : Nat → List D → List D
  | _, [] => []
  | i, x :: xs => .tup [.int (i : Nat), x] :: numD (i + 1) xs
def zipD : List D → List D → List D
  | x :: xs, y :: ys => .tup [x, y] :: zipD xs ys
  | _, _ => []
def enmM : D → M (List D × List (Nat × Ob))
  | .ref l => fun S => match S[l]? with
    | some o => .ok (numD 0 (items o), [(l, o)]) S
    | none => .stuck
  | _ => die
def zipM : D → D → M (List D × List (Nat × Ob))
  | .tup xs, .tup ys => pure (zipD xs ys, [])
  | .ref l, .ref k => fun S => match S[l]?, S[k]? with
    | some o, some p => .ok (zipD (items o) (items p), [(l, o), (k, p)]) S
    | _, _ => .stuck
  | _, _ => die
def revM : D → M D
  | .ref l => getL l >>= fun xs => alloc (.lst xs.reverse)
  | _ => die
mutual
noncomputable def evE (C : Nat → List D → M D) : E → Env → M D
  | .var i, en => match en[i]? with
    | some (some d) => pure d
    | _ => die
  | .con d, _ => pure d
  | .bin o a b, en => evE C a en >>= fun x => evE C b en >>= fun y => binD o x y
  | .neg a, en => evE C a en >>= negD
  | .not a, en => evE C a en >>= truD >>= fun t => pure (.bl (!t))
  | .cmp o a b, en => evE C a en >>= fun x => evE C b en >>= fun y => cmpD o x y
  | .chn o o' a b c, en => evE C a en >>= fun x => evE C b en >>= fun y => cmpD o x y >>= truD >>= fun t => if t = true then evE C c en >>= fun z => cmpD o' y z else pure (.bl false)
  | .and a b, en => evE C a en >>= truD >>= fun t => if t = true then evE C b en else pure (.bl false)
  | .or a b, en => evE C a en >>= truD >>= fun t => if t = true then pure (.bl true) else evE C b en
  | .ite c a b, en => evE C c en >>= truD >>= fun t => if t = true then evE C a en else evE C b en
  | .tup es, en => evEs C es en >>= fun xs => if xs.length ≤ sizeLine then pure (.tup xs) else die
  | .lst es, en => evEs C es en >>= fun xs => if xs.length ≤ sizeLine then alloc (.lst xs) else die
  | .idx a i, en => evE C a en >>= fun x => evE C i en >>= fun y => ixD x y
  | .slc p q a lo hi, en => evE C a en >>= fun x => evE C lo en >>= bndM p >>= fun y => evE C hi en >>= bndM q >>= fun z => slcD x y z
  | .call f es, en => evEs C es en >>= fun xs => C f xs
  | .blt b es, en => evEs C es en >>= fun xs => bltD b xs
  | .isi a T, en => evE C a en >>= fun x => isiD T x
  | .comp own tg it c e, en => evIt C it en >>= fun p => fun S =>
    noX (cmpL (ckD p.2) (fun d => bindT tg d (wipeD en own)) (fun en' => evE C c en' >>= truD) (fun en' => evE C e en') S.length p.1 >>= fun _ => pure (.ref S.length)) (S ++ [.lst []])
  | .rev e, en => evE C e en >>= revM
noncomputable def evEs (C : Nat → List D → M D) : Es → Env → M (List D)
  | .nil, _ => pure []
  | .cons e es, en => evE C e en >>= fun x => evEs C es en >>= fun xs => pure (x :: xs)
noncomputable def evIt (C : Nat → List D → M D) : It → Env → M (List D × List (Nat × Ob))
  | .val e, en => evE C e en >>= iterD
  | .rng1 b, en => evE C b en >>= fun y => rngD (.int 0) y >>= fun xs => pure (xs, [])
  | .rng2 a b, en => evE C a en >>= fun x => evE C b en >>= fun y => rngD x y >>= fun xs => pure (xs, [])
  | .enm e, en => evE C e en >>= enmM
  | .zip a b, en => evE C a en >>= fun x => evE C b en >>= fun y => zipM x y
end
/-- what a statement asks of an expression: an exception ends the statement -/
def lift {α : Type} (en : Env) (m : M α) (k : α → M Flow) : M Flow := fun S => match m S with
  | .ok a S => k a S
  | .exc c d S => .ok (.exc c d en) S
  | .stuck => .stuck
/-- how often a while may turn -/
@[irreducible] def fuel : Nat := 2 ^ 100000
noncomputable def whlL (c : Env → M Bool) (b : Env → M Flow) : Nat → Env → M Flow
  | 0, _ => die
  | n + 1, en => lift en (c en) fun t => if t = true then b en >>= fun f => match f with
    | .nx en' => whlL c b n en'
    | .cnt en' => whlL c b n en'
    | .brk en' => pure (.nx en')
    | f => pure f else pure (.nx en)
noncomputable def forL (ck : M Unit) (bnd : D → Env → M Env) (b : Env → M Flow) : List D → Env → M Flow
  | [], en => lift en ck fun _ => pure (.nx en)
  | x :: xs, en => lift en (ck >>= fun _ => bnd x en) fun en1 => b en1 >>= fun f => match f with
    | .nx en' => forL ck bnd b xs en'
    | .cnt en' => forL ck bnd b xs en'
    | .brk en' => pure (.nx en')
    | f => pure f
/-- l.pop() -/
def popM (l : Nat) : M D := getM l >>= fun xs => match xs[xs.length - 1]? with
  | some d => fun S => .ok d (S.set l (.lst xs.dropLast))
  | none => die
def setM (l : Nat) (xs : List D) : M Unit := fun S => .ok () (S.set l (.lst xs))
/-- l.extend(k) -/
def extM (l : Nat) : D → M Unit
  | .ref k => getM l >>= fun xs => getM k >>= fun ys => if xs.length + ys.length ≤ sizeLine then setM l (xs ++ ys) else die
  | _ => die
/-- l[i] = d -/
def setIxD : D → D → D → M Unit
  | .ref l, .int i, d => getM l >>= fun xs => match ixN xs.length i with
    | some j => fun S => .ok () (S.set l (.lst (xs.set j d)))
    | none => die
  | _, _, _ => die
mutual
noncomputable def exS (C : Nat → List D → M D) : St → Env → M Flow
  | .set i e, en => lift en (evE C e en) fun d => pure (.nx (en.set i (some d)))
  | .unp is e, en => lift en (evE C e en >>= unpD is.length) fun ds => pure (.nx (setAll en is ds))
  | .setIx o i e, en => lift en (evE C e en >>= fun v => evE C o en >>= fun x => evE C i en >>= fun y => setIxD x y v) fun _ => pure (.nx en)
  | .aug i e, en => match en[i]? with
    | some (some (.int x)) => lift en (evE C e en) fun y => match y with
      | .int y => pure (.nx (en.set i (some (.int (x + y)))))
      | _ => die
    | _ => die
  | .expr e, en => lift en (evE C e en) fun _ => pure (.nx en)
  | .app i e, en => match en[i]? with
    | some (some (.ref l)) => lift en (getM l >>= fun _ => evE C e en) fun d => lift en (pushD l d) fun _ => pure (.nx en)
    | _ => die
  | .ret e, en => lift en (evE C e en) fun d => pure (.ret d)
  | .ret0, _ => pure (.ret .non)
  | .ifs c a b, en => lift en (evE C c en >>= truD) fun t => if t = true then exB C a en else exB C b en
  | .for_ tg it b, en => lift en (evIt C it en) fun p => forL (ckD p.2) (fun d en' => bindT tg d en') (fun en' => exB C b en') p.1 en
  | .whl c b, en => whlL (fun en' => evE C c en' >>= truD) (fun en' => exB C b en') fuel en
  | .brk, en => pure (.brk en)
  | .cnt, en => pure (.cnt en)
  | .pass, en => pure (.nx en)
  | .dead, _ => die
  | .popx t i, en => match en[i]? with
    | some (some (.ref l)) => lift en (popM l) fun d => match t with
      | none => pure (.nx en)
      | some t => lift en (bindT t d en) fun en' => pure (.nx en')
    | _ => die
  | .ext i e, en => match en[i]? with
    | some (some (.ref l)) => lift en (getM l >>= fun _ => evE C e en) fun d => lift en (extM l d) fun _ => pure (.nx en)
    | _ => die
  | .clr i, en => match en[i]? with
    | some (some (.ref l)) => lift en (getM l) fun _ => lift en (setM l []) fun _ => pure (.nx en)
    | _ => die
noncomputable def exB (C : Nat → List D → M D) : Sts → Env → M Flow
  | .nil, en => pure (.nx en)
  | .cons s r, en => exS C s en >>= fun f => match f with
    | .nx en' => exB C r en'
    | f => pure f
end
/-- a def: how many parameters, how many names, its body -/
structure Fn where
  np : Nat
  nv : Nat
  body : Sts
noncomputable def runF (C : Nat → List D → M D) (f : Fn) (ds : List D) : M D := fun S =>
  if ds.length = f.np then match exB C f.body (ds.map some ++ List.replicate (f.nv - f.np) none) S with
    | .ok (.nx _) S => .ok .non S
    | .ok (.ret d) S => .ok d S
    | .ok (.exc c d _) S => .exc c d S
    | _ => .stuck
  else .stuck
/-- a call, at most n deep -/
noncomputable def callT (T : Nat → Option Fn) : Nat → Nat → List D → M D
  | 0, _, _ => die
  | n + 1, f, ds => match T f with
    | some fn => runF (callT T n) fn ds
    | none => die
end NL

/-! How the machine's text is read in the small language. -/
namespace NL
open PySem PySem.Spec PyProof.Rows L2
def posOf (x : Str) : List Str → Option Nat
  | [] => none
  | y :: r => if y = x then some 0 else (posOf x r).map (· + 1)
def oddName (x : Str) : Bool := x == ("__debug__" : Str) || x == ("__classdict__" : Str)
/-- the place of a name that may be read, that may be stored -/
def visOf (sc : Scope) (N : List Str) (x : Str) : Option Nat := if oddName x = true then none else match sc.names.lookup x with
  | some .local => posOf x N
  | some .cell => posOf x N
  | some .free => posOf x N
  | _ => none
def locOf (sc : Scope) (N : List Str) (x : Str) : Option Nat := if oddName x = true then none else match sc.names.lookup x with
  | some .local => posOf x N
  | some .cell => posOf x N
  | _ => none
def isGl (sc : Scope) (x : Str) : Bool := !oddName x && decide (sc.names.lookup x = some .globalImplicit)
def conOf : Const → Option D
  | .none => some .non
  | .bool b => some (.bl b)
  | .int i => some (.int i)
  | .str x => some (.str x)
  | _ => none
def bopOf : Operator → Option Bop
  | .Add => some .add | .Sub => some .sub | .Mult => some .mul | .FloorDiv => some .fdiv | .Mod => some .mod | .Pow => some .pow
  | _ => none
def copOf : CmpOp → Cop
  | .Lt => .lt | .LtE => .le | .Gt => .gt | .GtE => .ge | .Eq => .eq | .NotEq => .ne | .In => .isIn | .NotIn => .notIn | .Is => .is_ | .IsNot => .isNot
def bltOf (x : Str) : Option Blt :=
  if x = Blt.abs.name then some .abs else if x = Blt.int.name then some .int else if x = Blt.len.name then some .len else if x = Blt.min.name then some .min else if x = Blt.max.name then some .max else
  if x = Blt.list.name then some .list else if x = Blt.tuple.name then some .tuple else if x = Blt.sum.name then some .sum else if x = Blt.sorted.name then some .sorted else none
def tyOf (x : Str) : Option Ty :=
  if x = Ty.int.name then some .int else if x = Ty.bool.name then some .bool else if x = Ty.tuple.name then some .tuple else if x = Ty.list.name then some .list else if x = Ty.str.name then some .str else none
def comL (f : Expr → Option E) : List Expr → Option Es
  | [] => some .nil
  | e :: r => match f e, comL f r with
    | some a, some b => some (.cons a b)
    | _, _ => none
def comBool (f : Expr → Option E) (op : BoolOp) : List Expr → Option E
  | [] => none
  | [e] => f e
  | e :: r => match f e, comBool f op r with
    | some a, some b => some (match op with | .And => .and a b | .Or => .or a b)
    | _, _ => none
def comO (f : Expr → Option E) : Option Expr → Option E
  | none => some (.con .non)
  | some e => f e
def namesOf (f : Str → Option Nat) : List Expr → Option (List Nat)
  | [] => some []
  | .Name x _ :: r => match f x, namesOf f r with
    | some i, some is => some (i :: is)
    | _, _ => none
  | _ => none
def comTg (f : Str → Option Nat) : Expr → Option Tg
  | .Name x _ => (f x).map .nm
  | .Tuple es _ _ => (namesOf f es).map .tp
  | _ => none
def isTupE : Expr → Bool
  | .Tuple .. => true
  | _ => false
def isSlice : Expr → Bool
  | .Slice .. => true
  | _ => false
def ownOf (N : List Str) (scope : Scope) : List (Str × Nat) := scope.names.filterMap fun y => match y.2 with
  | .local => (posOf y.1 N).map fun i => (y.1, i)
  | .cell => (posOf y.1 N).map fun i => (y.1, i)
  | _ => none
def Tg.ixs : Tg → List Nat
  | .nm i => [i]
  | .tp is => is
/-- what is called: its number, how many parameters -/
abbrev FTab := Str → Option (Nat × Nat)
def Es.len : Es → Nat
  | .nil => 0
  | .cons _ r => r.len + 1
/-- [reversed(..)] -/
def isRev : List Expr → Bool
  | [.Call (.Name g _) [_] [] _] => decide (g = ("reversed" : Str))
  | _ => false
def comE (ft : FTab) (N : List Str) : Nat → Scope → Expr → Option E
  | 0, _, _ => none
  | n + 1, sc, e => match e with
    | .Constant c _ _ => (conOf c).map .con
    | .Name x _ => (visOf sc N x).map .var
    | .BinOp a o b _ => match bopOf o, comE ft N n sc a, comE ft N n sc b with
      | some o, some a, some b => some (.bin o a b)
      | _, _, _ => none
    | .UnaryOp .USub a _ => (comE ft N n sc a).map .neg
    | .UnaryOp .Not a _ => (comE ft N n sc a).map .not
    | .Compare a [o] [b] _ => match comE ft N n sc a, comE ft N n sc b with
      | some a, some b => some (.cmp (copOf o) a b)
      | _, _ => none
    | .Compare a [o, o'] [b, c] _ => match comE ft N n sc a, comE ft N n sc b, comE ft N n sc c with
      | some a, some b, some c => some (.chn (copOf o) (copOf o') a b c)
      | _, _, _ => none
    | .BoolOp o es _ => comBool (comE ft N n sc) o es
    | .IfExp c a b _ => match comE ft N n sc c, comE ft N n sc a, comE ft N n sc b with
      | some c, some a, some b => some (.ite c a b)
      | _, _, _ => none
    | .Tuple es _ _ => (comL (comE ft N n sc) es).map .tup
    | .List es _ => (comL (comE ft N n sc) es).map .lst
    | .Subscript a (.Slice lo hi none _) _ => match comE ft N n sc a, comO (comE ft N n sc) lo, comO (comE ft N n sc) hi with
      | some a, some lo', some hi' => some (.slc lo.isSome hi.isSome a lo' hi')
      | _, _, _ => none
    | .Subscript a i _ => if isSlice i = true then none else match comE ft N n sc a, comE ft N n sc i with
      | some a, some i => some (.idx a i)
      | _, _ => none
    | .Call (.Name f _) es [] _ => if isGl sc f = true then
        (if f = ("isinstance" : Str) then match es with
          | [a, .Name t _] => if isGl sc t = true then (match comE ft N n sc a, tyOf t with
            | some a, some t => some (.isi a t)
            | _, _ => none) else none
          | _ => none
        else if f = ("list" : Str) ∧ isRev es = true then match es with
          | [.Call (.Name g _) [a] [] _] => if isGl sc g = true ∧ g = ("reversed" : Str) then (comE ft N n sc a).map .rev else none
          | _ => none
        else match bltOf f, comL (comE ft N n sc) es with
          | some b, some (.cons x xs) => some (.blt b (.cons x xs))
          | some _, _ => none
          | none, some (.cons x xs) => (match ft f with
            | some (id, ar) => if ar = xs.len + 1 then some (.call id (.cons x xs)) else none
            | none => none)
          | none, _ => none) else none
    | .ListComp elt [⟨tg, it, ifs, as⟩] scope _ => if as ≠ 0 then none else if blkC N sc scope (ownOf N scope) = true then
        (match (comTg (locOf scope N) tg).filter (fun t => t.ixs.all fun i => decide (i ∈ (ownOf N scope).map (·.2))), comIt tg (comE ft N n) sc it, (match ifs with | [] => some (E.con (.bl true)) | [c] => comE ft N n (relS scope sc) c | _ => none), comE ft N n (relS scope sc) elt with
          | some t, some it, some c, some e => some (.comp ((ownOf N scope).map (·.2)) t it c e)
          | _, _, _, _ => none) else none
    | _ => none
where
  comIt (tg : Expr) (f : Scope → Expr → Option E) (sc : Scope) (e : Expr) : Option It := match e with
    | .Call (.Name g _) [b] [] _ => if g = ("range" : Str) then (if isGl sc g = true then (f sc b).map .rng1 else none) else
        if g = ("enumerate" : Str) then (if isGl sc g = true ∧ isTupE tg = true then (f sc b).map .enm else none) else (f sc e).map .val
    | .Call (.Name g _) [a, b] [] _ => if g = ("range" : Str) then (if isGl sc g = true then match f sc a, f sc b with
        | some a, some b => some (.rng2 a b)
        | _, _ => none else none) else
        if g = ("zip" : Str) then (if isGl sc g = true ∧ isTupE tg = true then match f sc a, f sc b with
        | some a, some b => some (.zip a b)
        | _, _ => none else none) else (f sc e).map .val
    | e => (f sc e).map .val
def isStar : Expr → Bool
  | .Starred .. => true
  | _ => false
/-- a plain local on that line -/
def nmOf (sc : Scope) (line : Nat) : Expr → Option Str
  | .Name id pos => if (sc.names.lookup id == some .local && pos.line == line) = true then some id else none
  | _ => none
def lineOf (ts : List Expr) : Nat := (ts.head?.map (·.pos.line)).getD 0
/-- what the stores of «names = values» do: some none, one by one; some (some names), from the right -/
def swP (sc : Scope) (ts vs : List Expr) : Option (Option (List Str)) :=
  if (!(ts.length == 2 || ts.length == 3) || vs.length != ts.length) = true then some none else
  if vs.any isStar = true then some none else
  if ((ts.filterMap (nmOf sc (lineOf ts))).length != ts.length || (ts.filterMap (nmOf sc (lineOf ts))).eraseDups.length != (ts.filterMap (nmOf sc (lineOf ts))).length) = true then some none else
  if vs.all (foldedForSure 8) = true then some none else
  if vs.all (constantsAlone 8) = true then none else some (some (ts.filterMap (nmOf sc (lineOf ts))))
def isComp : Expr → Bool
  | .ListComp .. => true
  | _ => false
section
variable (ft : FTab) (N : List Str) (sc : Scope)
def comS : Nat → Stmt → Option St
  | 0, _ => none
  | n + 1, s => match s with
    | .Assign [.Name y _] (.Call (.Attribute (.Name x _) m apos) [] [] cpos) _ => (match locOf sc N y, visOf sc N x with
      | some j, some i => if m = ("pop" : Str) ∧ (apos.endLine == cpos.line) = true then some (.popx (some (.nm j)) i) else none
      | _, _ => none)
    | .Assign [.Name x _] e _ => match locOf sc N x, comE ft N n sc e with
      | some i, some e => some (.set i e)
      | _, _ => none
    | .Assign [.Tuple ts _ _] (.Tuple vs _ _) _ => (match swP sc ts vs, namesOf (locOf sc N) ts, comL (comE ft N n sc) vs with
      | some none, some is, some es => some (.unp is (.tup es))
      | some (some nm), some is, some es => if is.Nodup ∧ nm.length = is.length ∧ es.len = is.length then some (.unp is (.tup es)) else none
      | _, _, _ => none)
    | .Assign [.Tuple ts _ _] e _ => match namesOf (locOf sc N) ts, comE ft N n sc e with
      | some is, some e => some (.unp is e)
      | _, _ => none
    | .Assign [.Subscript o i _] e _ => if isSlice i = true then none else match comE ft N n sc o, comE ft N n sc i, comE ft N n sc e with
      | some o, some i, some e => some (.setIx o i e)
      | _, _, _ => none
    | .AugAssign (.Name x _) .Add e _ => match locOf sc N x, comE ft N n sc e with
      | some i, some e => some (.aug i e)
      | _, _ => none
    | .Expr (.Call (.Attribute (.Name x _) m apos) [e] [] cpos) _ => if (apos.endLine == cpos.line) = true then (match visOf sc N x, comE ft N n sc e with
      | some i, some e => if m = ("append" : Str) then some (.app i e) else if m = ("extend" : Str) then some (.ext i e) else none
      | _, _ => none) else none
    | .Expr (.Call (.Attribute (.Name x _) m apos) [] [] cpos) _ => (match visOf sc N x with
      | some i => if m = ("pop" : Str) ∧ (apos.endLine == cpos.line) = true then some (.popx none i) else if m = ("clear" : Str) ∧ (apos.endLine == cpos.line) = true then some (.clr i) else none
      | none => none)
    | .Expr (.Constant (.str _) _ _) _ => some .pass
    | .Expr e _ => if isComp e = true then none else (comE ft N n sc e).map .expr
    | .Return (some e) _ => (comE ft N n sc e).map .ret
    | .Return none _ => some .ret0
    | .If c a b _ => match comE ft N n sc c, comSs (comS n) a, comSs (comS n) b with
      | some c, some a, some b => some (.ifs c a b)
      | _, _, _ => none
    | .For tg it b [] _ => match comTg (locOf sc N) tg, comE.comIt tg (comE ft N n) sc it, comSs (comS n) b with
      | some t, some i, some b => some (.for_ t i b)
      | _, _, _ => none
    | .While c b [] _ => match comE ft N n sc c, comSs (comS n) b with
      | some c, some b => some (.whl c b)
      | _, _ => none
    | .Break _ => some .brk
    | .Continue _ => some .cnt
    | .Pass _ => some .pass
    | .Raise .. => some .dead
    | _ => none
where
  comSs (f : Stmt → Option St) : List Stmt → Option Sts
  | [] => some .nil
  | s :: r => match f s, comSs f r with
    | some a, some b => some (.cons a b)
    | _, _ => none
end
/-- a def, with its names in order (the parameters first) -/
def comF (ft : FTab) (N : List Str) (st : Stmt) : Option Fn :=
  match comS.comSs (comS ft N (defScope st) 60) (defBody st) with
  | some b => some ⟨(defArgs st).args.length, N.length, b⟩
  | none => none
end NL

/-! The machine answers as the small language does: expressions. -/
namespace NL
open PySem PySem.Spec PyProof.Rows L2
/-! ### states -/
structure ER (m : List Addr) (H : Hp) (en : NL.Env) (σ : L2.St) : Prop where
  len : en.length = σ.length
  get : ∀ (i : Nat) (d : D), en[i]? = some (some d) → ∃ v, σ[i]? = some (some v) ∧ Rep m H d v
theorem ER.mono {m m' : List Addr} {H H' : Hp} {en : NL.Env} {σ : L2.St} (g : Gr m m' H H') (r : ER m H en σ) : ER m' H' en σ := ⟨r.len, fun i d h => by
  obtain ⟨v, h1, h2⟩ := r.get i d h
  exact ⟨v, h1, Rep.mono g _ _ h2⟩⟩
theorem ER.set {m : List Addr} {H : Hp} {en : NL.Env} {σ : L2.St} {d : D} {v : V} (r : ER m H en σ) (h : Rep m H d v) (i : Nat) : ER m H (en.set i (some d)) (σ.set i (some v)) := ⟨by simp [r.len], fun j e q => by
  by_cases hij : i = j
  · subst hij
    by_cases hl : i < en.length
    · rw [List.getElem?_set_self hl] at q
      cases q
      exact ⟨v, List.getElem?_set_self (by rw [← r.len]; exact hl), h⟩
    · rw [List.getElem?_eq_none (by simpa using hl)] at q
      cases q
  · rw [List.getElem?_set_ne hij] at q ⊢
    exact r.get j e q⟩
theorem ER.wipe {m : List Addr} {H : Hp} {en : NL.Env} {σ : L2.St} (r : ER m H en σ) : ∀ vs : List Nat, ER m H (wipeD en vs) (L2.wipe σ vs)
  | [] => r
  | i :: vs => by
    have ih := ER.wipe r vs
    refine ⟨by show (List.set _ _ _).length = (List.set _ _ _).length; rw [List.length_set, List.length_set]; exact ih.len, fun j e q => ?_⟩
    show ∃ v, (List.set _ _ _)[j]? = _ ∧ _
    have q : ((wipeD en vs).set i none)[j]? = some (some e) := q
    by_cases hij : i = j
    · subst hij
      by_cases hl : i < (wipeD en vs).length
      · rw [List.getElem?_set_self hl] at q; cases q
      · rw [List.getElem?_eq_none (by simpa using hl)] at q; cases q
    · rw [List.getElem?_set_ne hij] at q ⊢
      exact ih.get j e q
/-- an exception: its class, its dict -/
def XR (mg : Str → Option Value) (c : Str) (d : Option Nat) (m : List Addr) (cls : Value) (dd : Option Addr) : Prop := mg c = some cls ∧ dd = d.bind fun l => m[l]?
def Wd (mg : Str → Option Value) (W : WX) (σ : L2.St) : Str → Option Nat → List Addr → Store → Hp → Prop := fun c d m _ H => ∀ cls dd, XR mg c d m cls dd → W cls dd σ H
/-- a reading by what is answered -/
def tG {α β : Type} (RG : List Addr → Hp → α → β → Prop) (K : PySem.W.Frag) (mg : Str → Option Value) (W : WX) (f : NL.Env → M α) : L2.St → Hp → (β → Hp → Prop) → Prop := fun σ H Q =>
  ∃ m en S, ER m H en σ ∧ SR K m S H ∧ post K (Wd mg W σ) m H (f en S) (fun a m' _ H' => ∀ b, RG m' H' a b → Q b H')
abbrev tE := @tG D V Rep
abbrev tT := @tG Bool Bool fun _ _ a b => b = a
abbrev tA := @tG (List D) (List V) Reps
theorem tG_use {α β : Type} {RG : List Addr → Hp → α → β → Prop} {K : PySem.W.Frag} {mg : Str → Option Value} {W : WX} {f : NL.Env → M α} {m : List Addr} {en : NL.Env} {S : Store} {H : Hp} {σ : L2.St} {Q : β → Hp → Prop} {F : α → List Addr → Store → Hp → Prop} (er : ER m H en σ) (sr : SR K m S H) (h : post K (Wd mg W σ) m H (f en S) F)
    (k : ∀ a m' S' H' b, Gr m m' H H' → ER m' H' en σ → SR K m' S' H' → F a m' S' H' → RG m' H' a b → Q b H') : tG RG K mg W f σ H Q :=
  ⟨m, en, S, er, sr, post_mono h fun a m' S' H' g s hf b r => k a m' S' H' b g (er.mono g) s hf r⟩
theorem PE.imp {X : Cx} {e : Expr} {t t' : TE} (h : PE X e t) (k : ∀ σ H Q, t' σ H Q → t σ H Q) : PE X e t' := ⟨fun pins s σ H Q I q => h.run pins s σ H Q I (k σ H Q q)⟩
theorem PT.imp {X : Cx} {e : Expr} {t t' : TT} (h : PT X e t) (k : ∀ σ H Q, t' σ H Q → t σ H Q) : PT X e t' := ⟨fun pins s σ H Q I q => h.run pins s σ H Q I (k σ H Q q)⟩
theorem PA.imp {X : Cx} {es : List Expr} {t t' : TA} (h : PA X es t) (k : ∀ σ H Q, t' σ H Q → t σ H Q) : PA X es t' := ⟨fun pos pins s σ H Q I q => h.run pos pins s σ H Q I (k σ H Q q)⟩
theorem PW.imp {X : Cx} {e : Expr} {t t' : TT} (h : PW X e t) (k : ∀ σ H Q, t' σ H Q → t σ H Q) : PW X e t' := ⟨fun wh pins s σ H Q I q => h.run wh pins s σ H Q I (k σ H Q q)⟩
/-! ### the context -/
/-- what a def of ours promises -/
def spM (K : PySem.W.Frag) (mg : Str → Option Value) (ar : Nat) (g : List D → M D) : Sp := fun vs H Q E => ∃ m S ds, SR K m S H ∧ Reps m H ds vs ∧ ds.length = ar ∧
  post K (fun c d m' _ H' => ∀ cls dd, XR mg c d m' cls dd → E cls dd H') m H (g ds S) (fun d m' _ H' => ∀ w, Rep m' H' d w → Q w H')
structure FOk (X : Cx) (C : Nat → List D → M D) (ft : FTab) : Prop where
  own : ∀ f id ar, ft f = some (id, ar) → ∃ a fd ps k, FnOk X.prog X.w X.K X.mg X.base (L2.CX X.prog X.w) k a fd ps (spM X.K X.mg ar (C id)) ∧ Room k X.A ∧ X.mg f = some (.ref a) ∧ PySem.W.keepIn X.K (.ref a) = true ∧ Binds X.K fd ps []
  blt : ∀ b : Blt, X.mg b.name = none
  isi : X.mg "isinstance" = none
  rng : X.mg "range" = none
  enm : X.mg "enumerate" = none
  zip : X.mg "zip" = none
  rev : X.mg "reversed" = none
  ty : ∀ t : Ty, X.mg t.name = none
structure XOk (X : Cx) (sc : Scope) (N : List Str) (C : Nat → List D → M D) (ft : FTab) (W : WX) : Prop where
  hN : X.N = N
  sc : X.env.scope = sc
  nd : N.Nodup
  calm : X.calm = true
  hu : X.A.units + 65 < cLine
  fo : FOk X C ft
  tk : Takes X W
/-! ### shapes -/
def plainE : Expr → Bool
  | .Constant .. | .Name .. | .BinOp .. | .UnaryOp .. | .Compare .. | .BoolOp .. | .IfExp .. | .Tuple .. | .List .. | .Subscript .. | .Call .. | .ListComp .. => true
  | _ => false
theorem comE_plain {ft : FTab} {N : List Str} : ∀ {n : Nat} {sc : Scope} {e : Expr} {r : E}, comE ft N n sc e = some r → plainE e = true
  | 0, _, _, _, h => by unfold comE at h; cases h
  | n + 1, _, e, _, h => by
    unfold comE at h
    cases e <;> first | rfl | (dsimp only at h; cases h)
theorem star_plain {e : Expr} {es : List Expr} {env : PySem.Env} (h : plainE e = true) : starEach (e :: es) env = (false, eval e env) :: starEach es env := by
  cases e <;> first | rfl | cases h
theorem behind_plain {op : CmpOp} {e : Expr} (h : plainE e = true) : behindInMarks op e = false := by
  cases e <;> first | rfl | cases h
theorem folded_plain {e : Expr} {env : PySem.Env} {x : Value} (h : plainE e = true) : foldedSetIterable e env x = pure x := by
  cases e <;> first | rfl | cases h
theorem stars_none {pos : Pos} {env : PySem.Env} : ∀ {es : List Expr}, (∀ e ∈ es, plainE e = true) → (backTo pos (starEach es env)).any (·.1) = false
  | [], _ => rfl
  | e :: es, h => by
    rw [star_plain (h e List.mem_cons_self)]
    show (false || (backTo pos (starEach es env)).any (·.1)) = false
    rw [stars_none fun e he => h e (List.mem_cons_of_mem _ he)]
    rfl
theorem posOf_get {x : Str} : ∀ {N : List Str} {i : Nat}, posOf x N = some i → N[i]? = some x
  | [], _, h => by cases h
  | y :: r, i, h => by
    unfold posOf at h
    split at h
    · rename_i e; cases h; rw [e]; rfl
    · obtain ⟨j, hj, rfl⟩ := Option.map_eq_some_iff.mp h
      have z := posOf_get (N := r) hj
      simpa using z
theorem odd_no {x : Str} (h : ¬ oddName x = true) : (x == ("__debug__" : Str)) = false ∧ (x == ("__classdict__" : Str)) = false := by
  unfold oddName at h
  rw [Bool.or_eq_true, not_or] at h
  exact ⟨by simpa using h.1, by simpa using h.2⟩
theorem visOf_some {sc : Scope} {N : List Str} {x : Str} {i : Nat} (h : visOf sc N x = some i) : N[i]? = some x ∧ Vis sc x ∧ (x == ("__debug__" : Str)) = false ∧ (x == ("__classdict__" : Str)) = false := by
  unfold visOf at h
  split at h
  · cases h
  · rename_i ho
    obtain ⟨o1, o2⟩ := odd_no ho
    split at h
    · rename_i e; exact ⟨posOf_get h, .inl e, o1, o2⟩
    · rename_i e; exact ⟨posOf_get h, .inr (.inl e), o1, o2⟩
    · rename_i e; exact ⟨posOf_get h, .inr (.inr e), o1, o2⟩
    · cases h
theorem locOf_some {sc : Scope} {N : List Str} {x : Str} {i : Nat} (h : locOf sc N x = some i) : N[i]? = some x ∧ Loc sc x := by
  unfold locOf at h
  split at h
  · cases h
  · split at h
    · rename_i e; exact ⟨posOf_get h, .inl e⟩
    · rename_i e; exact ⟨posOf_get h, .inr e⟩
    · cases h
theorem isGl_some {sc : Scope} {x : Str} (h : isGl sc x = true) : sc.names.lookup x = some .globalImplicit ∧ (x == ("__debug__" : Str)) = false := by
  unfold isGl at h
  rw [Bool.and_eq_true] at h
  have ho : ¬ oddName x = true := by simpa using h.1
  exact ⟨of_decide_eq_true h.2, (odd_no ho).1⟩
theorem comL_len {f : Expr → Option E} : ∀ {es : List Expr} {r : Es}, comL f es = some r → r.len = es.length
  | [], _, h => by cases h; rfl
  | e :: es, _, h => by
    unfold comL at h
    cases e1 : f e with
    | none => rw [e1] at h; cases h
    | some a =>
      cases e2 : comL f es with
      | none => rw [e1, e2] at h; cases h
      | some b =>
        rw [e1, e2] at h
        cases h
        show b.len + 1 = es.length + 1
        rw [comL_len e2]
theorem comL_all {f : Expr → Option E} : ∀ {es : List Expr} {r : Es}, comL f es = some r → ∀ e ∈ es, ∃ a, f e = some a
  | [], _, _, e, he => by cases he
  | x :: es, _, h, e, he => by
    unfold comL at h
    cases e1 : f x with
    | none => rw [e1] at h; cases h
    | some a =>
      cases e2 : comL f es with
      | none => rw [e1, e2] at h; cases h
      | some b =>
        rcases List.mem_cons.mp he with rfl | he
        · exact ⟨a, e1⟩
        · exact comL_all e2 e he
theorem bopOf_op {o : Operator} {b : Bop} (h : bopOf o = some b) : b.op = o := by
  cases o <;> simp [bopOf] at h <;> subst h <;> rfl
theorem copOf_op (o : CmpOp) : (copOf o).op = o := by cases o <;> rfl
theorem bltOf_some {x : Str} {b : Blt} (h : bltOf x = some b) : x = b.name := by
  unfold bltOf at h
  repeat' split at h
  all_goals first | cases h | skip
  all_goals assumption
theorem tyOf_some {x : Str} {t : Ty} (h : tyOf x = some t) : x = t.name := by
  unfold tyOf at h
  repeat' split at h
  all_goals first | cases h | skip
  all_goals assumption
theorem boot_blt : ∀ b : Blt, bootBuiltins b.name = some b.val ∧ b.name ≠ ("__name__" : Str)
  | .abs => by decide +kernel
  | .int => by decide +kernel
  | .len => by decide +kernel
  | .min => by decide +kernel
  | .max => by decide +kernel
  | .list => by decide +kernel
  | .tuple => by decide +kernel
  | .sum => by decide +kernel
  | .sorted => by decide +kernel
theorem boot_ty : ∀ t : Ty, bootBuiltins t.name = some (.type t.nm) ∧ t.name ≠ ("__name__" : Str)
  | .int => by decide +kernel
  | .bool => by decide +kernel
  | .tuple => by decide +kernel
  | .list => by decide +kernel
  | .str => by decide +kernel
end NL

namespace NL
open PySem PySem.Spec PyProof.Rows L2
section
variable {X : Cx} {sc : Scope} {N : List Str} {C : Nat → List D → M D} {ft : FTab} {W : WX}
/-! ### one construct at a time -/
theorem p_con {c : Const} {d : D} {k : Nat} {pos : Pos} (h : conOf c = some d) : PE X (.Constant c k pos) (tE X.K X.mg W (evE C (.con d))) := by
  have fin : ∀ {v : V}, (∀ m H, Rep m H d v) → PE X (.Constant c k pos) (tC v) → PE X (.Constant c k pos) (tE X.K X.mg W (evE C (.con d))) := fun {v} hr hp =>
    PE.imp hp fun σ H Q ⟨m, en, S, er, sr, q⟩ => post_now sr q v (hr m H)
  cases c <;> simp [conOf] at h <;> subst h
  · exact fin (fun _ _ => .non) pe_non
  · exact fin (fun _ _ => .bl _) pe_bl
  · exact fin (fun _ _ => .int _) pe_int
  · exact fin (fun _ _ => .str _) pe_str
theorem p_var {x : Str} {i : Nat} {pos : Pos} (o : XOk X sc N C ft W) (h : visOf sc N x = some i) : PE X (.Name x pos) (tE X.K X.mg W (evE C (.var i))) := by
  obtain ⟨h1, h2, h3, h4⟩ := visOf_some h
  refine PE.imp (pe_var (i := i) (by rw [o.hN]; exact h1) (by rw [o.sc]; exact h2) h3 h4) fun σ H Q ⟨m, en, S, er, sr, q⟩ => ?_
  unfold evE at q
  cases e : en[i]? with
  | none => rw [e] at q; exact q.elim
  | some od =>
    cases od with
    | none => rw [e] at q; exact q.elim
    | some d =>
      rw [e] at q
      obtain ⟨v, e1, r⟩ := er.get i d e
      exact ⟨v, e1, post_now sr q v r⟩
variable {a b c e : Expr} {a' b' c' e' : E} {pos : Pos}
theorem p_bin {o : Operator} {o' : Bop} (ho : bopOf o = some o') (ha : PE X a (tE X.K X.mg W (evE C a'))) (hb : PE X b (tE X.K X.mg W (evE C b'))) : PE X (.BinOp a o b pos) (tE X.K X.mg W (evE C (.bin o' a' b'))) := by
  have hop := bopOf_op ho
  subst hop
  refine PE.imp (pe_op (op_binD o') ha hb) fun σ H Q ⟨m, en, S, er, sr, q⟩ => ?_
  unfold evE at q
  refine tG_use er sr (post_bind q) fun x m1 S1 H1 v g er1 sr1 q1 rx => tG_use er1 sr1 (post_bind q1) fun y m2 S2 H2 u g2 er2 sr2 q2 ry => ?_
  exact ⟨_, m2, S2, x, y, sr2, Rep.mono g2 _ _ rx, ry, q2⟩
theorem p_neg (ha : PE X a (tE X.K X.mg W (evE C a'))) : PE X (.UnaryOp .USub a pos) (tE X.K X.mg W (evE C (.neg a'))) := by
  refine PE.imp (pe_un un_neg ha) fun σ H Q ⟨m, en, S, er, sr, q⟩ => ?_
  unfold evE at q
  refine tG_use er sr (post_bind q) fun x m1 S1 H1 v g er1 sr1 q1 rx => ?_
  cases rx <;> try exact (show False from q1).elim
  exact ⟨_, rfl, post_val sr1 q1 (.int _)⟩
/-- what a test asks of a value -/
theorem tru_bind {α : Type} {K : PySem.W.Frag} {Ex : Str → Option Nat → List Addr → Store → Hp → Prop} {m : List Addr} {H : Hp} {S : Store} {x : D} {f : Bool → M α} {F : α → List Addr → Store → Hp → Prop} (h : post K Ex m H ((truD x >>= f) S) F) : ∃ t, x = .bl t ∧ post K Ex m H (f t S) F := by
  cases x <;> first | exact (show False from h).elim | exact ⟨_, rfl, h⟩
theorem p_not (ha : PT X a (tT X.K X.mg W fun en => evE C a' en >>= truD)) (hv : PE X a (tE X.K X.mg W (evE C a'))) : PE X (.UnaryOp .Not a pos) (tE X.K X.mg W (evE C (.not a'))) := by
  refine PE.imp (pe_not hv) fun σ H Q ⟨m, en, S, er, sr, q⟩ => ?_
  unfold evE at q
  rw [bind_as] at q
  refine tG_use er sr (post_bind q) fun x m1 S1 H1 v g er1 sr1 q1 rx => ?_
  obtain ⟨t, rfl, q2⟩ := tru_bind q1
  cases rx
  exact ⟨t, rfl, post_val sr1 q2 (.bl _)⟩
theorem p_notT (ha : PT X a (tT X.K X.mg W fun en => evE C a' en >>= truD)) : PT X (.UnaryOp .Not a pos) (tT X.K X.mg W fun en => evE C (.not a') en >>= truD) := by
  refine PT.imp (pt_not ha) fun σ H Q ⟨m, en, S, er, sr, q⟩ => ?_
  unfold evE at q
  refine tG_use er sr (post_bind (post_bind q)) fun t m1 S1 H1 v g er1 sr1 q1 rx => ?_
  subst rx
  exact post_now sr1 (post_now sr1 q1) _ rfl
theorem p_cmp {o : CmpOp} (w : XOk X sc N C ft W) (hp : plainE b = true) (ha : PE X a (tE X.K X.mg W (evE C a'))) (hb : PE X b (tE X.K X.mg W (evE C b'))) : PE X (.Compare a [o] [b] pos) (tE X.K X.mg W (evE C (.cmp (copOf o) a' b'))) := by
  have ho : OpR X (compareOp o) (rD X.K (cmpD (copOf o))) := by
    have z := op_cmpD (X := X) w.hu (copOf o)
    rw [copOf_op] at z
    exact z
  refine PE.imp (pe_cmpR ho ha hb (behind_plain hp)) fun σ H Q ⟨m, en, S, er, sr, q⟩ => ?_
  unfold evE at q
  refine tG_use er sr (post_bind q) fun x m1 S1 H1 v g er1 sr1 q1 rx => tG_use er1 sr1 (post_bind q1) fun y m2 S2 H2 u g2 er2 sr2 q2 ry => ?_
  exact ⟨_, m2, S2, x, y, sr2, Rep.mono g2 _ _ rx, ry, q2⟩
/-- behind a value that is tested -/
theorem tst_end {K : PySem.W.Frag} {Ex : Str → Option Nat → List Addr → Store → Hp → Prop} {m : List Addr} {H : Hp} {r : R D} {Q : Bool → Hp → Prop} (h : post K Ex m H r (fun d m1 S1 H1 => post K Ex m1 H1 (truD d S1) (fun b m' _ H' => ∀ c, c = b → Q c H'))) :
    post K Ex m H r (fun d m' _ H' => ∀ w, Rep m' H' d w → ∃ k, w = .bl k ∧ Q k H') := by
  refine post_mono h fun d m1 S1 H1 g s q w rw' => ?_
  cases rw' <;> try exact (show False from q).elim
  exact ⟨_, rfl, post_now s q _ rfl⟩
theorem p_cmpT {o : CmpOp} (w : XOk X sc N C ft W) (hp : plainE b = true) (ha : PE X a (tE X.K X.mg W (evE C a'))) (hb : PE X b (tE X.K X.mg W (evE C b'))) : PT X (.Compare a [o] [b] pos) (tT X.K X.mg W fun en => evE C (.cmp (copOf o) a' b') en >>= truD) := by
  have ho : OpR X (compareOp o) (rD X.K (cmpD (copOf o))) := by
    have z := op_cmpD (X := X) w.hu (copOf o)
    rw [copOf_op] at z
    exact z
  refine PT.imp (pt_cmpR ho ha hb (behind_plain hp)) fun σ H Q ⟨m, en, S, er, sr, q⟩ => ?_
  have q := tst_end (post_bind q)
  unfold evE at q
  refine tG_use er sr (post_bind q) fun x m1 S1 H1 v g er1 sr1 q1 rx => tG_use er1 sr1 (post_bind q1) fun y m2 S2 H2 u g2 er2 sr2 q2 ry => ?_
  exact ⟨_, m2, S2, x, y, sr2, Rep.mono g2 _ _ rx, ry, q2⟩
/-- a test of a value whose test is plain -/
theorem p_valT (h : PE X e (tE X.K X.mg W (evE C e'))) (he : ∀ whole, isTrue e X.env whole = (do let v ← whole; standAt e.pos; holding [v] (truthy v))) : PT X e (tT X.K X.mg W fun en => evE C e' en >>= truD) := by
  refine PT.imp (pt_val h he) fun σ H Q ⟨m, en, S, er, sr, q⟩ => ?_
  exact ⟨m, en, S, er, sr, tst_end (post_bind q)⟩
theorem lastMarks_plain {o o' : CmpOp} (hc : plainE c = true) : lastMarks [o, o'] [b, c] = false := by
  show behindInMarks o' c = false
  exact behind_plain hc
/-- the second link of a chain -/
theorem chn_link {o o' : Cop} {K : PySem.W.Frag} {mg : Str → Option Value} {σ : L2.St} {m2 : List Addr} {en : NL.Env} {S2 : Store} {H2 : Hp} {Q : VK} {x y : D} {v u : V} (er2 : ER m2 H2 en σ) (sr2 : SR K m2 S2 H2) (rx : Rep m2 H2 x v) (ry : Rep m2 H2 y u)
    (q2 : post K (Wd mg W σ) m2 H2 ((cmpD o x y >>= truD >>= fun t => if t = true then evE C c' en >>= fun z => cmpD o' y z else pure (.bl false)) S2) (fun d m' _ H' => ∀ w, Rep m' H' d w → Q w H')) :
    rD K (cmpD o) v u H2 fun z H3 => ∃ k, z = .bl k ∧ (if k = true then tE K mg W (evE C c') σ H3 fun w' H4 => rD K (cmpD o') u w' H4 Q else Q (.bl false) H3) := by
  refine ⟨_, m2, S2, x, y, sr2, rx, ry, post_mono (post_bind (post_bind q2)) fun d m3 S3 H3 g3 sr3 q3 z rz => ?_⟩
  cases rz <;> try exact (show False from q3).elim
  rename_i t
  have q5 := post_now sr3 q3
  refine ⟨t, rfl, ?_⟩
  cases t with
  | false =>
    rw [if_neg Bool.false_ne_true] at q5 ⊢
    exact post_val sr3 q5 (.bl _)
  | true =>
    rw [if_pos rfl] at q5 ⊢
    refine tG_use (er2.mono g3) sr3 (post_bind q5) fun z m4 S4 H4 u4 g4 er4 sr4 q6 rz => ?_
    exact ⟨_, m4, S4, y, z, sr4, Rep.mono (g3.trans g4) _ _ ry, rz, q6⟩
theorem p_chn {o o' : CmpOp} (w : XOk X sc N C ft W) (hp : plainE c = true) (ha : PE X a (tE X.K X.mg W (evE C a'))) (hb : PE X b (tE X.K X.mg W (evE C b'))) (hc : PE X c (tE X.K X.mg W (evE C c'))) :
    PE X (.Compare a [o, o'] [b, c] pos) (tE X.K X.mg W (evE C (.chn (copOf o) (copOf o') a' b' c'))) := by
  have hop : ∀ o, OpR X (compareOp o) (rD X.K (cmpD (copOf o))) := fun o => by
    have z := op_cmpD (X := X) w.hu (copOf o)
    rw [copOf_op] at z
    exact z
  refine PE.imp (pe_chain (hop o) (hop o') ha hb hc (lastMarks_plain hp)) fun σ H Q ⟨m, en, S, er, sr, q⟩ => ?_
  unfold evE at q
  refine tG_use er sr (post_bind q) fun x m1 S1 H1 v g er1 sr1 q1 rx => tG_use er1 sr1 (post_bind q1) fun y m2 S2 H2 u g2 er2 sr2 q2 ry => ?_
  exact chn_link er2 sr2 (Rep.mono g2 _ _ rx) ry q2
theorem p_chnT {o o' : CmpOp} (w : XOk X sc N C ft W) (hp : plainE c = true) (ha : PE X a (tE X.K X.mg W (evE C a'))) (hb : PE X b (tE X.K X.mg W (evE C b'))) (hc : PE X c (tE X.K X.mg W (evE C c'))) :
    PT X (.Compare a [o, o'] [b, c] pos) (tT X.K X.mg W fun en => evE C (.chn (copOf o) (copOf o') a' b' c') en >>= truD) := by
  have hop : ∀ o, OpR X (compareOp o) (rD X.K (cmpD (copOf o))) := fun o => by
    have z := op_cmpD (X := X) w.hu (copOf o)
    rw [copOf_op] at z
    exact z
  refine PT.imp (pt_chain (hop o) (hop o') ha hb hc (lastMarks_plain hp)) fun σ H Q ⟨m, en, S, er, sr, q⟩ => ?_
  have q := tst_end (post_bind q)
  unfold evE at q
  refine tG_use er sr (post_bind q) fun x m1 S1 H1 v g er1 sr1 q1 rx => tG_use er1 sr1 (post_bind q1) fun y m2 S2 H2 u g2 er2 sr2 q2 ry => ?_
  exact chn_link er2 sr2 (Rep.mono g2 _ _ rx) ry q2
/-! and, or, if -/
theorem p_and {rest : List Expr} (ha : PE X a (tE X.K X.mg W (evE C a'))) (hb : PE X (.BoolOp .And (b :: rest) pos) (tE X.K X.mg W (evE C b'))) : PE X (.BoolOp .And (a :: b :: rest) pos) (tE X.K X.mg W (evE C (.and a' b'))) := by
  refine PE.imp (pe_and ha hb) fun σ H Q ⟨m, en, S, er, sr, q⟩ => ?_
  unfold evE at q
  refine tG_use er sr (post_bind (post_bind q)) fun x m1 S1 H1 v g er1 sr1 q1 rx => ?_
  cases rx <;> try exact (show False from q1).elim
  rename_i t
  have q2 := post_now sr1 q1
  refine ⟨t, rfl, ?_⟩
  cases t with
  | true => rw [if_pos rfl] at q2 ⊢; exact ⟨m1, en, S1, er1, sr1, q2⟩
  | false => rw [if_neg Bool.false_ne_true] at q2 ⊢; exact post_val sr1 q2 (.bl _)
theorem p_or {rest : List Expr} (ha : PE X a (tE X.K X.mg W (evE C a'))) (hb : PE X (.BoolOp .Or (b :: rest) pos) (tE X.K X.mg W (evE C b'))) : PE X (.BoolOp .Or (a :: b :: rest) pos) (tE X.K X.mg W (evE C (.or a' b'))) := by
  refine PE.imp (pe_or ha hb) fun σ H Q ⟨m, en, S, er, sr, q⟩ => ?_
  unfold evE at q
  refine tG_use er sr (post_bind (post_bind q)) fun x m1 S1 H1 v g er1 sr1 q1 rx => ?_
  cases rx <;> try exact (show False from q1).elim
  rename_i t
  have q2 := post_now sr1 q1
  refine ⟨t, rfl, ?_⟩
  cases t with
  | true => rw [if_pos rfl] at q2 ⊢; exact post_val sr1 q2 (.bl _)
  | false => rw [if_neg Bool.false_ne_true] at q2 ⊢; exact ⟨m1, en, S1, er1, sr1, q2⟩
theorem and_tru (en : NL.Env) : (evE C (.and a' b') en >>= truD) = (evE C a' en >>= truD) >>= fun t => if t = true then evE C b' en >>= truD else pure false := by
  simp only [evE, bind_as, ite_bi, pure_bi]
  rfl
theorem or_tru (en : NL.Env) : (evE C (.or a' b') en >>= truD) = (evE C a' en >>= truD) >>= fun t => if t = true then pure true else evE C b' en >>= truD := by
  simp only [evE, bind_as, ite_bi, pure_bi]
  rfl
theorem p_andW {rest : List Expr} (ha : PT X a (tT X.K X.mg W fun en => evE C a' en >>= truD)) (hb : PW X (.BoolOp .And (b :: rest) pos) (tT X.K X.mg W fun en => evE C b' en >>= truD)) :
    PW X (.BoolOp .And (a :: b :: rest) pos) (tT X.K X.mg W fun en => evE C (.and a' b') en >>= truD) := by
  refine PW.imp (pw_and ha hb) fun σ H Q ⟨m, en, S, er, sr, q⟩ => ?_
  dsimp only at q
  rw [and_tru] at q
  refine tG_use er sr (post_bind q) fun t m1 S1 H1 v g er1 sr1 q1 rx => ?_
  subst rx
  cases v with
  | true => rw [if_pos rfl] at q1 ⊢; exact ⟨m1, en, S1, er1, sr1, q1⟩
  | false => rw [if_neg Bool.false_ne_true] at q1 ⊢; exact post_now sr1 q1 _ rfl
theorem p_orW {rest : List Expr} (ha : PT X a (tT X.K X.mg W fun en => evE C a' en >>= truD)) (hb : PW X (.BoolOp .Or (b :: rest) pos) (tT X.K X.mg W fun en => evE C b' en >>= truD)) :
    PW X (.BoolOp .Or (a :: b :: rest) pos) (tT X.K X.mg W fun en => evE C (.or a' b') en >>= truD) := by
  refine PW.imp (pw_or ha hb) fun σ H Q ⟨m, en, S, er, sr, q⟩ => ?_
  dsimp only at q
  rw [or_tru] at q
  refine tG_use er sr (post_bind q) fun t m1 S1 H1 v g er1 sr1 q1 rx => ?_
  subst rx
  cases v with
  | true => rw [if_pos rfl] at q1 ⊢; exact post_now sr1 q1 _ rfl
  | false => rw [if_neg Bool.false_ne_true] at q1 ⊢; exact ⟨m1, en, S1, er1, sr1, q1⟩
theorem p_boolE {f : Expr → Option E} : ∀ {es : List Expr} {op : BoolOp} {r : E}, comBool f op es = some r → (∀ e ∈ es, ∀ r, f e = some r → PE X e (tE X.K X.mg W (evE C r))) → PE X (.BoolOp op es pos) (tE X.K X.mg W (evE C r))
  | [], _, _, h, _ => by cases h
  | [e], op, r, h, hp => pe_one (hp e List.mem_cons_self r h)
  | e :: e2 :: es, op, r, h, hp => by
    unfold comBool at h
    cases e1 : f e with
    | none => rw [e1] at h; cases h
    | some a' =>
      cases e3 : comBool f op (e2 :: es) with
      | none => rw [e1, e3] at h; cases h
      | some b' =>
        rw [e1, e3] at h
        have ih := p_boolE e3 fun x hx => hp x (List.mem_cons_of_mem _ hx)
        have ha := hp e List.mem_cons_self a' e1
        cases op <;> cases h
        · exact p_and ha ih
        · exact p_or ha ih
theorem p_boolW {f : Expr → Option E} : ∀ {es : List Expr} {op : BoolOp} {r : E}, comBool f op es = some r → (∀ e ∈ es, ∀ r, f e = some r → PT X e (tT X.K X.mg W fun en => evE C r en >>= truD)) → PW X (.BoolOp op es pos) (tT X.K X.mg W fun en => evE C r en >>= truD)
  | [], _, _, h, _ => by cases h
  | [e], op, r, h, hp => by
    cases op with
    | And => exact pw_and1 (hp e List.mem_cons_self r h)
    | Or => exact pw_or1 (hp e List.mem_cons_self r h)
  | e :: e2 :: es, op, r, h, hp => by
    unfold comBool at h
    cases e1 : f e with
    | none => rw [e1] at h; cases h
    | some a' =>
      cases e3 : comBool f op (e2 :: es) with
      | none => rw [e1, e3] at h; cases h
      | some b' =>
        rw [e1, e3] at h
        have ih := p_boolW e3 fun x hx => hp x (List.mem_cons_of_mem _ hx)
        have ha := hp e List.mem_cons_self a' e1
        cases op <;> cases h
        · exact p_andW ha ih
        · exact p_orW ha ih
theorem p_ite (hc : PT X c (tT X.K X.mg W fun en => evE C c' en >>= truD)) (ha : PE X a (tE X.K X.mg W (evE C a'))) (hb : PE X b (tE X.K X.mg W (evE C b'))) : PE X (.IfExp c a b pos) (tE X.K X.mg W (evE C (.ite c' a' b'))) := by
  refine PE.imp (pe_ifExp hc ha hb) fun σ H Q ⟨m, en, S, er, sr, q⟩ => ?_
  unfold evE at q
  refine tG_use er sr (post_bind q) fun t m1 S1 H1 v g er1 sr1 q1 rx => ?_
  subst rx
  cases v with
  | true => rw [if_pos rfl] at q1 ⊢; exact ⟨m1, en, S1, er1, sr1, q1⟩
  | false => rw [if_neg Bool.false_ne_true] at q1 ⊢; exact ⟨m1, en, S1, er1, sr1, q1⟩
/-- if as a test -/
theorem pt_ife {tc ta tb : TT} (hc : PT X c tc) (ha : PT X a ta) (hb : PT X b tb) : PT X (.IfExp c a b pos) (fun σ H Q => tc σ H fun t H1 => if t = true then ta σ H1 Q else tb σ H1 Q) := by
  refine ⟨fun pins s σ H Q I h => ?_⟩
  show wpAny _ _ (do if ← isTrue c X.env (eval c X.env) then isTrue a X.env (eval a X.env) else isTrue b X.env (eval b X.env)) _ _ _
  refine wpAny_bind (thn (hc.run pins s σ H _ I h) fun t s1 ⟨H1, I1, q1⟩ => ?_)
  cases t with
  | true => rw [if_pos rfl] at q1 ⊢; exact ha.run pins s1 σ H1 Q I1 q1
  | false => rw [if_neg Bool.false_ne_true] at q1 ⊢; exact hb.run pins s1 σ H1 Q I1 q1
theorem p_iteT (hc : PT X c (tT X.K X.mg W fun en => evE C c' en >>= truD)) (ha : PT X a (tT X.K X.mg W fun en => evE C a' en >>= truD)) (hb : PT X b (tT X.K X.mg W fun en => evE C b' en >>= truD)) :
    PT X (.IfExp c a b pos) (tT X.K X.mg W fun en => evE C (.ite c' a' b') en >>= truD) := by
  refine PT.imp (pt_ife hc ha hb) fun σ H Q ⟨m, en, S, er, sr, q⟩ => ?_
  have e : (evE C (.ite c' a' b') en >>= truD) = (evE C c' en >>= truD) >>= fun t => if t = true then evE C a' en >>= truD else evE C b' en >>= truD := by
    simp only [evE, bind_as, ite_bi]
  dsimp only at q
  rw [e] at q
  refine tG_use er sr (post_bind q) fun t m1 S1 H1 v g er1 sr1 q1 rx => ?_
  subst rx
  cases v with
  | true => rw [if_pos rfl] at q1 ⊢; exact ⟨m1, en, S1, er1, sr1, q1⟩
  | false => rw [if_neg Bool.false_ne_true] at q1 ⊢; exact ⟨m1, en, S1, er1, sr1, q1⟩
/-! displays, places, slices, calls -/
theorem p_list {f : Expr → Option E} : ∀ {es : List Expr} {r : Es}, comL f es = some r → (∀ e ∈ es, ∀ r, f e = some r → plainE e = true ∧ PE X e (tE X.K X.mg W (evE C r))) → PA X es (tA X.K X.mg W (evEs C r))
  | [], _, h, _ => by
    cases h
    refine PA.imp pa_nil fun σ H Q ⟨m, en, S, er, sr, q⟩ => ?_
    exact post_now sr (show post _ _ _ _ (R.ok [] S) _ from q) [] .nil
  | e :: es, _, h, hp => by
    unfold comL at h
    cases e1 : f e with
    | none => rw [e1] at h; cases h
    | some a' =>
      cases e2 : comL f es with
      | none => rw [e1, e2] at h; cases h
      | some b' =>
        rw [e1, e2] at h
        cases h
        obtain ⟨h1, h2⟩ := hp e List.mem_cons_self a' e1
        refine PA.imp (pa_cons h2 (p_list e2 fun x hx => hp x (List.mem_cons_of_mem _ hx)) (star_plain h1)) fun σ H Q ⟨m, en, S, er, sr, q⟩ => ?_
        unfold evEs at q
        refine tG_use er sr (post_bind q) fun x m1 S1 H1 v g er1 sr1 q1 rx => tG_use er1 sr1 (post_bind q1) fun y m2 S2 H2 u g2 er2 sr2 q2 ry => ?_
        exact post_now sr2 (show post _ _ _ _ (R.ok (x :: y) S2) _ from q2) _ (.cons (Rep.mono g2 _ _ rx) ry)
theorem p_tup {es : List Expr} {es' : Es} {k : Nat} (h : PA X es (tA X.K X.mg W (evEs C es'))) : PE X (.Tuple es k pos) (tE X.K X.mg W (evE C (.tup es'))) := by
  refine PE.imp (pe_tup h) fun σ H Q ⟨m, en, S, er, sr, q⟩ => ?_
  unfold evE at q
  refine tG_use er sr (post_bind q) fun x m1 S1 H1 v g er1 sr1 q1 rx => ?_
  obtain ⟨hc, q2⟩ := post_ite q1
  exact ⟨by rw [← rx.length]; exact hc, post_tup sr1 q2 rx⟩
theorem p_lst {es : List Expr} {es' : Es} (h : PA X es (tA X.K X.mg W (evEs C es'))) : PE X (.List es pos) (tE X.K X.mg W (evE C (.lst es'))) := by
  refine PE.imp (pe_lst h) fun σ H Q ⟨m, en, S, er, sr, q⟩ => ?_
  unfold evE at q
  refine tG_use er sr (post_bind q) fun x m1 S1 H1 v g er1 sr1 q1 rx => ?_
  obtain ⟨hc, q2⟩ := post_ite q1
  exact ⟨by rw [← rx.length]; exact hc, post_alloc sr1 q2 rx⟩
theorem p_idx (hs : isSlice b = false) (ha : PE X a (tE X.K X.mg W (evE C a'))) (hb : PE X b (tE X.K X.mg W (evE C b'))) : PE X (.Subscript a b pos) (tE X.K X.mg W (evE C (.idx a' b'))) := by
  have pl : PlainIx b := by
    intro o i
    cases b <;> first | rfl | cases hs
  refine PE.imp (pe_ix ix_D ha hb pl) fun σ H Q ⟨m, en, S, er, sr, q⟩ => ?_
  unfold evE at q
  refine tG_use er sr (post_bind q) fun x m1 S1 H1 v g er1 sr1 q1 rx => tG_use er1 sr1 (post_bind q1) fun y m2 S2 H2 u g2 er2 sr2 q2 ry => ?_
  exact ⟨_, m2, S2, x, y, sr2, Rep.mono g2 _ _ rx, ry, q2⟩
end
end NL

namespace NL
open PySem PySem.Spec PyProof.Rows L2
section
variable {X : Cx} {sc : Scope} {N : List Str} {C : Nat → List D → M D} {ft : FTab} {W : WX} {a b c e : Expr} {a' b' c' e' : E} {pos : Pos}
/-! slices -/
theorem PO.imp {o : Option Expr} {t t' : TO} (h : PO X o t) (k : ∀ σ H Q, t' σ H Q → t σ H Q) : PO X o t' := ⟨fun pins s σ H Q I q => h.run pins s σ H Q I (k σ H Q q)⟩
/-- a bound: where it is there, an int -/
def tB1 (K : PySem.W.Frag) (mg : Str → Option Value) (W : WX) (f : NL.Env → M (Option Int)) : TO := @tG (Option Int) (Option Int) (fun _ _ a b => b = a) K mg W f
theorem p_bnd {f : Expr → Option E} {o : Option Expr} (h : comO f o = some e') (hp : ∀ e, o = some e → ∀ r, f e = some r → PE X e (tE X.K X.mg W (evE C r))) : PO X o (tB1 X.K X.mg W fun en => evE C e' en >>= bndM o.isSome) := by
  cases o with
  | none =>
    cases h
    refine PO.imp po_none fun σ H Q ⟨m, en, S, er, sr, q⟩ => ?_
    exact post_now sr (show post _ _ _ _ (R.ok none S) _ from q) none rfl
  | some e =>
    refine PO.imp (po_some (hp e rfl e' h)) fun σ H Q ⟨m, en, S, er, sr, q⟩ => ?_
    refine tG_use er sr (post_bind q) fun d m1 S1 H1 v g er1 sr1 q1 rv => ?_
    cases rv <;> try exact (show False from q1).elim
    exact ⟨_, rfl, post_now sr1 (show post _ _ _ _ (R.ok (some _) S1) _ from q1) _ rfl⟩
theorem p_slc {f : Expr → Option E} {lo hi : Option Expr} {lo' hi' : E} {p2 : Pos} (ha : PE X a (tE X.K X.mg W (evE C a'))) (h1 : comO f lo = some lo') (h2 : comO f hi = some hi')
    (hl : ∀ e, lo = some e → ∀ r, f e = some r → PE X e (tE X.K X.mg W (evE C r))) (hh : ∀ e, hi = some e → ∀ r, f e = some r → PE X e (tE X.K X.mg W (evE C r))) :
    PE X (.Subscript a (.Slice lo hi none p2) pos) (tE X.K X.mg W (evE C (.slc lo.isSome hi.isSome a' lo' hi'))) := by
  refine PE.imp (pe_slice sl_list ha (p_bnd (C := C) (W := W) h1 hl) (p_bnd (C := C) (W := W) h2 hh)) fun σ H Q ⟨m, en, S, er, sr, q⟩ => ?_
  unfold evE at q
  refine tG_use er sr (post_bind q) fun x m1 S1 H1 v g er1 sr1 q1 rx => tG_use er1 sr1 (post_bind q1) fun y m2 S2 H2 u g2 er2 sr2 q2 ry => tG_use er2 sr2 (post_bind q2) fun z m3 S3 H3 w g3 er3 sr3 q3 rz => ?_
  subst ry rz
  have rx3 := Rep.mono (g2.trans g3) _ _ rx
  cases rx3 <;> try exact (show False from q3).elim
  rename_i l a ea
  obtain ⟨o, e0, q4⟩ := getL_bind q3
  obtain ⟨vs, sq, rs⟩ := sr3.sq_at e0 ea
  exact ⟨a, vs, rfl, sq, post_alloc sr3 q4 (rs.cut _ _)⟩
/-! calls -/
theorem post_eq {α : Type} {K : PySem.W.Frag} {Ex : Str → Option Nat → List Addr → Store → Hp → Prop} {m : List Addr} {H : Hp} {r : R α} {F : α → List Addr → Store → Hp → Prop} (h : post K Ex m H r F) : post K Ex m H r (fun a m' S' H' => r = .ok a S' ∧ F a m' S' H') := by
  cases r with
  | ok a S => exact fun m' H' g s => ⟨rfl, h m' H' g s⟩
  | exc c d S => exact h
  | stuck => exact h
theorem evEs_len {en : NL.Env} : ∀ (es : Es) (S S' : Store) (xs : List D), evEs C es en S = .ok xs S' → xs.length = es.len
  | .nil, S, S', xs, h => by
    unfold evEs at h
    cases h
    rfl
  | .cons e es, S, S', xs, h => by
    unfold evEs at h
    rw [bind_eq] at h
    cases e1 : evE C e en S with
    | ok x S1 =>
      rw [e1] at h
      have h : (evEs C es en S1).bind (fun xs => (pure (x :: xs) : M (List D))) = .ok xs S' := h
      cases e2 : evEs C es en S1 with
      | ok ys S2 =>
        rw [e2] at h
        have h : (R.ok (x :: ys) S2 : R (List D)) = .ok xs S' := h
        cases h
        show ys.length + 1 = es.len + 1
        rw [evEs_len es S1 _ ys e2]
      | exc c d S2 => rw [e2] at h; cases h
      | stuck => rw [e2] at h; cases h
    | exc c d S1 => rw [e1] at h; cases h
    | stuck => rw [e1] at h; cases h
theorem p_call {n : Nat} {f : Str} {p : Pos} {es : List Expr} {id ar : Nat} {es' : Es} (w : XOk X sc N C ft W) (hg : isGl sc f = true) (hf : ft f = some (id, ar)) (hl : es'.len = ar) (hc : comL (comE ft N n sc) (e :: es) = some es')
    (h : PA X (e :: es) (tA X.K X.mg W (evEs C es'))) : PE X (.Call (.Name f p) (e :: es) [] pos) (tE X.K X.mg W (evE C (.call id es'))) := by
  obtain ⟨a, fd, ps, k, F, hr, hm, hk, hb⟩ := w.fo.own f id ar hf
  obtain ⟨g1, g2⟩ := isGl_some hg
  have gl : Gl X f := by show X.env.scope.names.lookup f = _; rw [w.sc]; exact g1
  have pl : ∀ x ∈ e :: es, plainE x = true := fun x hx => by
    obtain ⟨r, hr⟩ := comL_all hc x hx
    exact comE_plain hr
  refine PE.imp (pe_callS F hr gl hm hk hb (fun σ => passAt w.tk σ) h g2 (star_plain (pl e List.mem_cons_self)) (stars_none fun x hx => pl x (List.mem_cons_of_mem _ hx))) fun σ H Q ⟨m, en, S, er, sr, q⟩ => ?_
  unfold evE at q
  refine tG_use er sr (post_eq (post_bind q)) fun x m1 S1 H1 v g er1 sr1 ⟨qe, q1⟩ rx => ?_
  exact ⟨m1, S1, x, sr1, rx, (evEs_len es' S S1 x qe).trans hl, post_monoE q1 fun c d m' S' H' g s hw cls dd hx => hw cls dd hx⟩
theorem pe_blt {g : List V → Hp → VK → Prop} {es : List Expr} {t : TA} {p : Pos} (b : Blt) (hc : CallR X b.val g) (hg : Gl X b.name) (hm : X.mg b.name = none) (ha : PA X (e :: es) t) (hd : (b.name == ("__debug__" : Str)) = false)
    (he : starEach (e :: es) X.env = (false, eval e X.env) :: starEach es X.env) (hpl : (backTo pos (starEach es X.env)).any (·.1) = false) : PE X (.Call (.Name b.name p) (e :: es) [] pos) (tCB g t) := by
  obtain ⟨h1, h2⟩ := boot_blt b
  cases b
  · exact pe_callB hc hg hm h1 ha h2 hd he hpl
  · exact pe_callTy hc hg hm h1 ha h2 hd he hpl
  · exact pe_callB hc hg hm h1 ha h2 hd he hpl
  · exact pe_callB hc hg hm h1 ha h2 hd he hpl
  · exact pe_callB hc hg hm h1 ha h2 hd he hpl
  · exact pe_callTy hc hg hm h1 ha h2 hd he hpl
  · exact pe_callTy hc hg hm h1 ha h2 hd he hpl
  · exact pe_callB hc hg hm h1 ha h2 hd he hpl
  · exact pe_callB hc hg hm h1 ha h2 hd he hpl
theorem p_blt {n : Nat} {f : Str} {p : Pos} {es : List Expr} {b : Blt} {es' : Es} (w : XOk X sc N C ft W) (hg : isGl sc f = true) (hf : bltOf f = some b) (hc : comL (comE ft N n sc) (e :: es) = some es')
    (h : PA X (e :: es) (tA X.K X.mg W (evEs C es'))) : PE X (.Call (.Name f p) (e :: es) [] pos) (tE X.K X.mg W (evE C (.blt b es'))) := by
  have hn := bltOf_some hf
  subst hn
  obtain ⟨g1, g2⟩ := isGl_some hg
  have gl : Gl X b.name := by show X.env.scope.names.lookup b.name = _; rw [w.sc]; exact g1
  have pl : ∀ x ∈ e :: es, plainE x = true := fun x hx => by
    obtain ⟨r, hr⟩ := comL_all hc x hx
    exact comE_plain hr
  refine PE.imp (pe_blt b (call_bltD w.calm w.hu b) gl (w.fo.blt b) h g2 (star_plain (pl e List.mem_cons_self)) (stars_none fun x hx => pl x (List.mem_cons_of_mem _ hx))) fun σ H Q ⟨m, en, S, er, sr, q⟩ => ?_
  unfold evE at q
  refine tG_use er sr (post_bind q) fun x m1 S1 H1 v g er1 sr1 q1 rx => ?_
  exact ⟨_, m1, S1, x, sr1, rx, q1⟩
theorem p_isi {f t : Str} {p p2 : Pos} {T : Ty} (w : XOk X sc N C ft W) (hg : isGl sc f = true) (hf : f = ("isinstance" : Str)) (hg2 : isGl sc t = true) (ht : tyOf t = some T) (hp : plainE e = true) (h : PE X e (tE X.K X.mg W (evE C e'))) :
    PE X (.Call (.Name f p) [e, .Name t p2] [] pos) (tE X.K X.mg W (evE C (.isi e' T))) := by
  subst hf
  have hn := tyOf_some ht
  subst hn
  obtain ⟨g1, g2⟩ := isGl_some hg
  obtain ⟨g3, g4⟩ := isGl_some hg2
  have gl : Gl X "isinstance" := by show X.env.scope.names.lookup _ = _; rw [w.sc]; exact g1
  have gl2 : Gl X T.name := by show X.env.scope.names.lookup _ = _; rw [w.sc]; exact g3
  have pT : PE X (.Name T.name p2) (tC (.ty T.nm)) := pe_bltn gl2 (w.fo.ty T) (boot_ty T).1 rfl (boot_ty T).2 g4
  refine PE.imp (pe_callB call_isi gl w.fo.isi (by decide +kernel) (pa_cons h (pa_cons pT pa_nil) (star_plain hp)) (by decide) g2 (star_plain hp) rfl) fun σ H Q ⟨m, en, S, er, sr, q⟩ => ?_
  unfold evE at q
  refine tG_use er sr (post_bind q) fun x m1 S1 H1 v g er1 sr1 q1 rx => ?_
  exact isi_of sr1 rx q1
end
end NL

/-! list(reversed(x)), x a list. -/
namespace NL
open PySem PySem.Spec PyProof.Rows L2
section
variable {prog : Program} {w : World} {A : Around} {E : Value → Shared → Prop} {s : Shared}
theorem ext_rev {it l S : Addr} {items : Array Value} {res : Value} {c₀ : Nat} {R : Result → Shared → Prop} (hh : A.handled = none) (hit : s.heap.IsRevIter it l ((items.size : Int) - 1)) (hl : s.heap.IsList l items) (hne : l ≠ it) (hn : items.size ≤ sizeLine)
    (hSi : S ≠ it) (hSl : S ≠ l) (hS : s.heap.get? S = some { cls := .type "list", data := .seq #[] c₀ })
    (hR : ∀ h' tk acc' c', (∀ b o, b ≠ S → b ≠ it → s.heap.get? b = some o → h'.get? b = some o) → h'.get? S = some { cls := .type "list", dict := none, data := .seq acc' c', slots := #[] } → ItemsOf (fun i v => items[items.size - 1 - i]? = some v) acc' items.size → R (.ok (.ret res)) { s with heap := h', toks := tk }) :
    wpAny (model prog w) A.in1 (Builtin.List.listExtendWith (.ref S) (.ref it) res)
      (fun fin s' => match fin with | .done f => R (.ok f) s' | .again c' => c'.quiet = true ∧ codeAny (model prog w) A c' R s') (fun e s' => R (.error e) s') s := by
  have W := (Walks.listRev (prog := prog) (w := w) (A := A.in1) hh it l hne items).toS
  have hSf : S ∉ [it, l] := by simp only [List.mem_cons, List.not_mem_nil, or_false, not_or]; exact ⟨hSi, hSl⟩
  have hT : s.TypeIs (.ref it) "list_reverseiterator" := Heap.IsRevIter.typeIs hit
  have h1 : Builtin.List.listSameRef (.ref S) (.ref it) = false := by simp [Builtin.List.listSameRef, hSi]
  unfold Builtin.List.listExtendWith
  refine wpAny_bind (wpAny_typeOf hT ?_)
  rw [if_neg (by rw [h1]; decide)]
  refine wpAny_bind (wpAny_pyIter_revIter hit ?_)
  refine wpAny_bind (wpAny_holding ?_)
  unfold Builtin.List.listLengthHint
  refine wpAny_bind (wpAny_specialOf hT RT.nolen_lri ?_)
  show wpAny _ A.in1 (specialOf (Value.ref it) (Str.ofString "__length_hint__") >>= _) _ _ _
  refine wpAny_bind (wpAny_specialOf hT RT.hint_lri ?_)
  generalize hid : ("list_reverseiterator.__length_hint__" : String) = id0
  wp_delta
  rw [show splitId id0 = some ("list_reverseiterator", "__length_hint__") from by subst hid; decide +kernel]
  subst hid
  refine wpAny_bind (wpAny_isInstance (b := true) hT (by rw [isSubtype_type]; kernel_rfl) ?_)
  refine wpAny_pure ?_
  rw [if_neg (by decide)]
  have e0 : ((items.size : Nat) : Int) - 1 - ((0 : Nat) : Int) = (items.size : Int) - 1 := by omega
  refine wpAny_pure ⟨plainId_quiet F.plain_extend_loop _, codeAny_extend_loopS W hn _ hSf _ items.size 0 _ _ _ rfl (Nat.zero_le _) ⟨Nat.zero_le _, by rw [e0]; exact hit, hl⟩ hS (ItemsOf.nil _) fun s' acc' c' hm hS' hacc => ?_⟩
  rw [Moved.eq_with hm]
  refine hR s'.heap s'.toks acc' c' (fun b o hb hb2 e => hm.heap b o (fun hmem => ?_) e) hS' hacc
  rcases List.mem_cons.mp hmem with e' | hmem
  · exact hb e'
  · exact hb2 (List.mem_singleton.mp hmem)
theorem call_list_rev {it l : Addr} {items : Array Value} {Q : Value → Shared → Prop} (hh : A.handled = none) (hit : s.heap.IsRevIter it l ((items.size : Int) - 1)) (hl : s.heap.IsList l items) (hne : l ≠ it) (hn : items.size ≤ sizeLine)
    (hQ : ∀ h' tk acc' c', (∀ b o, b ≠ it → s.heap.get? b = some o → h'.get? b = some o) → h'.get? s.heap.objs.size = some { cls := .type "list", dict := none, data := .seq acc' c', slots := #[] } → ItemsOf (fun i v => items[items.size - 1 - i]? = some v) acc' items.size → Q (.ref s.heap.objs.size) { s with heap := h', toks := tk }) :
    wpAny (model prog w) A (call (.type "list") [.ref it]) Q E s := by
  refine callType_codes (Q₁ := fun obj s₁ => obj = .ref s.heap.objs.size ∧ s₁ = { s with heap := s.heap.push { cls := .type "list", data := .seq #[] } }) PySem.F.called_list (PySem.F.typeCall_list_1 _) PySem.F.entry_list_init
    (code_list_new _ ⟨rfl, rfl⟩) fun obj s₁ h₁ => ?_
  obtain ⟨rfl, rfl⟩ := h₁
  obtain ⟨oi, hoi, _⟩ := id hit
  obtain ⟨ol, hol, _⟩ := id hl
  have hSi : s.heap.objs.size ≠ it := Nat.ne_of_gt (Heap.lt_size hoi)
  have hSl : s.heap.objs.size ≠ l := Nat.ne_of_gt (Heap.lt_size hol)
  have hS : (s.heap.push { cls := .type "list", data := .seq #[] }).get? s.heap.objs.size = some { cls := .type "list", data := .seq #[] } := Heap.get?_push_size _ rfl
  refine ⟨⟨_, hS, rfl⟩, PySem.F.args_list_init_2 _ _, ?_⟩
  show wpAny _ _ (do let old ← Builtin.List.listItems (.ref s.heap.objs.size); Builtin.List.listUpdate (.ref s.heap.objs.size) (fun _ => #[]); letGo old.toList.reverse; Builtin.List.listExtendWith (.ref s.heap.objs.size) (.ref it) .none) _ _ _
  refine wpAny_bind ?_
  unfold Builtin.List.listItems
  refine wpAny_bind (wpAny_seqItems hS rfl (wpAny_pure ?_))
  show wpAny _ _ (updateSeq s.heap.objs.size (fun _ => #[]) >>= fun _ => letGo (#[] : Array Value).toList.reverse >>= fun _ => Builtin.List.listExtendWith (.ref s.heap.objs.size) (.ref it) .none) _ _ _
  refine wpAny_bind (wpAny_updateSeq hS rfl ?_)
  have hS₂ := Heap.get?_update_self (Obj.mapSeq (fun _ => (#[] : Array Value))) hS rfl
  have oth : ∀ b o, b ≠ s.heap.objs.size → s.heap.get? b = some o → ((s.heap.push { cls := .type "list", data := .seq #[] }).update s.heap.objs.size (Obj.mapSeq (fun _ => (#[] : Array Value)))).get? b = some o :=
    fun b o hb e => (Heap.get?_update_other _ _ (Ne.symm hb)).trans (Heap.get?_push_of_some _ e)
  refine wpAny_bind (wpAny_letGo ?_)
  refine ext_rev (A := A.in1) hh (hit.at fun o e => oth _ _ hSi.symm e) (hl.at fun o e => oth _ _ hSl.symm e) hne hn hSi hSl hS₂ (fun h' tk acc' c' hk hS' hacc => ?_)
  exact ⟨rfl, hQ h' tk acc' c' (fun b o hb e => hk b o (Nat.ne_of_lt (Heap.lt_size e)) hb (oth b o (Nat.ne_of_lt (Heap.lt_size e)) e)) hS' hacc⟩
end
def tLstRev (K : PySem.W.Frag) (te : TE) : TE := fun σ H Q => te σ H fun v H1 => ∃ (a : Addr) (xs : List V), v = .ref a ∧ SqL K H1 a xs ∧ ∀ q, H1 q = none → Q (.ref q) (upd H1 q (.lst xs.reverse))
theorem pe_listRev {X : Cx} {e : Expr} {te : TE} {p p2 pos pos2 : Pos} (hc : X.calm = true) (hg : Gl X "list") (hm : X.mg "list" = none) (hg2 : Gl X "reversed") (hm2 : X.mg "reversed" = none) (he : PE X e te)
    (hs : starEach [e] X.env = (false, eval e X.env) :: starEach [] X.env := by rfl)
    (hs2 : starEach [.Call (.Name "reversed" p2) [e] [] pos2] X.env = (false, eval (.Call (.Name "reversed" p2) [e] [] pos2) X.env) :: starEach [] X.env := by rfl) :
    PE X (.Call (.Name "list" p) [.Call (.Name "reversed" p2) [e] [] pos2] [] pos) (tLstRev X.K te) := by
  refine ⟨fun pins s σ H Q I h => ?_⟩
  refine Call_ (ld_blt I hg hm boot_list (PyProof.Rows.callWith_type1 (args_cons (Call_ (ld_blt I hg2 hm2 PyProof.Rows.boot_reversed (PyProof.Rows.callWith_type1 (args_cons (thn (he.run pins s σ H _ I h) fun u s1 ⟨v, H1, I1, r1, q1⟩ => args_nil ?_) hs) hs rfl))) hs2) hs2 rfl))
  obtain ⟨a, xs, ev, hq, q⟩ := q1
  subst ev
  obtain rfl : u = Value.ref a := r1
  obtain ⟨its, rv, p', hz⟩ := I1.list hq
  refine call_reversed_list p'.isList (args_nil ?_)
  have k0 : ∀ b o, s1.heap.get? b = some o → (s1.heap.push (revObj a ((its.toArray.size : Int) - 1))).get? b = some o := fun b o e => Heap.get?_push_of_some _ e
  have hl := p'.isList
  obtain ⟨ol, hol, _⟩ := id hl
  have hne : a ≠ s1.heap.objs.size := Nat.ne_of_lt (Heap.lt_size hol)
  have hn : its.toArray.size ≤ sizeLine := by rw [List.size_toArray, ← rv.length]; exact hz
  refine call_list_rev (s := { s1 with heap := s1.heap.push (revObj a ((its.toArray.size : Int) - 1)) }) (I1.ok.hd hc) ⟨_, Heap.get?_push_size _ rfl, rfl, rfl⟩ (hl.push _) hne hn fun h' tk acc c' hk hS hi => ?_
  have hk2 : ∀ b o, s1.heap.get? b = some o → h'.get? b = some o := fun b o e => hk b o (Nat.ne_of_lt (Heap.lt_size e)) (k0 b o e)
  refine ⟨.ref _, upd H1 _ (.lst xs.reverse), I1.laid (t' := tk) hk2 (Nat.le_trans (Nat.le_refl _) (by simp [Heap.push])) (show ObjOk X.prog X.w _ _ _ (.lst xs.reverse) from ⟨by rw [List.length_reverse]; exact hz, acc.toList, c', RT.vals_rev rv hi, ?_⟩), rfl, q _ (I1.hok.fresh (by simp [Heap.push]))⟩
  rw [Array.toArray_toList]
  exact hS
section
variable {X : Cx} {sc : Scope} {N : List Str} {C : Nat → List D → M D} {ft : FTab} {W : WX} {a : Expr} {a' : E} {pos : Pos}
theorem p_rev {p p2 pos2 : Pos} (w : XOk X sc N C ft W) (hg : isGl sc ("list" : Str) = true) (hg2 : isGl sc ("reversed" : Str) = true) (hp : plainE a = true) (h : PE X a (tE X.K X.mg W (evE C a'))) :
    PE X (.Call (.Name "list" p) [.Call (.Name "reversed" p2) [a] [] pos2] [] pos) (tE X.K X.mg W (evE C (.rev a'))) := by
  have gl : Gl X "list" := by show X.env.scope.names.lookup _ = _; rw [w.sc]; exact (isGl_some hg).1
  have gl2 : Gl X "reversed" := by show X.env.scope.names.lookup _ = _; rw [w.sc]; exact (isGl_some hg2).1
  refine PE.imp (pe_listRev w.calm gl (w.fo.blt .list) gl2 w.fo.rev h (star_plain hp)) fun σ H Q ⟨m, en, S, er, sr, q⟩ => ?_
  unfold evE at q
  refine tG_use er sr (post_bind q) fun d m1 S1 H1 v g er1 sr1 q1 rx => ?_
  cases rx <;> try exact (show False from q1).elim
  rename_i l ad ea
  obtain ⟨o, e0, q2⟩ := getL_bind (show post _ _ _ _ ((getL l >>= fun xs => alloc (.lst xs.reverse)) S1) _ from q1)
  obtain ⟨vs, sq, rs⟩ := sr1.sq_at e0 ea
  exact ⟨ad, vs, rfl, sq, post_alloc sr1 q2 rs.reverse⟩
end
end NL

namespace NL
open PySem PySem.Spec PyProof.Rows L2
/-! ### what is walked -/
def CkOk (ps : List (Nat × Ob)) (S : Store) : Prop := ∀ p ∈ ps, S[p.1]? = some p.2
def Gives (K : PySem.W.Frag) (m : List Addr) (H : Hp) (p : List D × List (Nat × Ob)) (J : L2.It) : Prop :=
  ∀ (i : Nat) (m' : List Addr) (S' : Store) (H' : Hp), Gr m m' H H' → SR K m' S' H' → CkOk p.2 S' → (i = p.1.length → J.stop i H') ∧
    ∀ d, p.1[i]? = some d → J.go i H' ∧ ∀ x H'', J.yld i H' x H'' → Gr m' m' H' H'' ∧ SR K m' S' H'' ∧ Rep m' H'' d x
def tI (K : PySem.W.Frag) (mg : Str → Option Value) (W : WX) (f : NL.Env → M (List D × List (Nat × Ob))) : TI := fun σ H R =>
  ∃ m en S, ER m H en σ ∧ SR K m S H ∧ post K (Wd mg W σ) m H (f en S) (fun p m' _ H' => ∀ J, Gives K m' H' p J → R J H')
theorem gives_tup {K : PySem.W.Frag} {m : List Addr} {H : Hp} {a : Addr} {xs : List D} {vs : List V} (ea : H a = some (.tup vs)) (ra : Reps m H xs vs) : Gives K m H (xs, []) (Itt K a) := by
  intro i m' S' H' g s _
  have ea' := g.tup _ _ ea
  have ra' := Reps.mono g _ _ ra
  refine ⟨fun h => ⟨vs, SqT.of ea', by rw [← ra.length, h]; exact Nat.le_refl _⟩, fun d hd => ?_⟩
  obtain ⟨v, h1, h2⟩ := ra'.get hd
  refine ⟨⟨vs, v, SqT.of ea', h1⟩, fun x H'' ⟨e, hy⟩ => ?_⟩
  subst e
  have := hy vs (SqT.of ea')
  rw [h1] at this
  cases this
  exact ⟨Gr.refl _ _, s, h2⟩
theorem gives_lst {K : PySem.W.Frag} {m : List Addr} {H : Hp} {a : Addr} {l : Nat} {o : Ob} (ea : m[l]? = some a) : Gives K m H (items o, [(l, o)]) (Itl K a) := by
  intro i m' S' H' g s hc
  obtain ⟨vs, q, rs⟩ := s.sq_at (hc (l, o) List.mem_cons_self) (g.pre _ _ ea)
  refine ⟨fun h => ⟨vs, q, by rw [← rs.length, h]; exact Nat.le_refl _⟩, fun d hd => ?_⟩
  obtain ⟨v, h1, h2⟩ := rs.get hd
  refine ⟨⟨vs, v, q, h1⟩, fun x H'' ⟨e, hy⟩ => ?_⟩
  subst e
  have := hy vs q
  rw [h1] at this
  cases this
  exact ⟨Gr.refl _ _, s, h2⟩
theorem gives_rng {K : PySem.W.Frag} {m : List Addr} {H : Hp} {lo : Int} {n : Nat} : Gives K m H ((List.range n).map fun k => D.int (lo + (k : Nat)), []) (Itr lo n) := by
  intro i m' S' H' g s _
  refine ⟨fun h => ?_, fun d hd => ?_⟩
  · show n ≤ i
    rw [h]; simp
  · rw [List.getElem?_map] at hd
    obtain ⟨j, hj, rfl⟩ := Option.map_eq_some_iff.mp hd
    obtain ⟨hlt, hj⟩ := List.getElem?_eq_some_iff.mp hj
    have hlt : i < n := by simpa using hlt
    have hj : i = j := by simpa using hj
    subst hj
    refine ⟨hlt, fun x H'' ⟨e, hy⟩ => ?_⟩
    subst e hy
    exact ⟨Gr.refl _ _, s, .int _⟩
theorem numD_len : ∀ (k : Nat) (xs : List D), (numD k xs).length = xs.length
  | _, [] => rfl
  | k, x :: xs => by rw [numD, List.length_cons, List.length_cons, numD_len]
theorem numD_get : ∀ {k i : Nat} {xs : List D} {d : D}, (numD k xs)[i]? = some d → ∃ x, xs[i]? = some x ∧ d = .tup [.int ((k + i : Nat) : Int), x]
  | k, i, [], d, h => by simp [numD] at h
  | k, 0, x :: xs, d, h => by
    rw [numD] at h
    cases h
    exact ⟨x, rfl, rfl⟩
  | k, i + 1, x :: xs, d, h => by
    rw [numD] at h
    obtain ⟨y, h1, h2⟩ := numD_get (k := k + 1) (i := i) (xs := xs) (by simpa using h)
    exact ⟨y, by simpa using h1, by rw [h2, show k + 1 + i = k + (i + 1) by omega]⟩
theorem zipD_len : ∀ (xs ys : List D), (zipD xs ys).length = min xs.length ys.length
  | [], _ => by simp [zipD]
  | _ :: _, [] => by simp [zipD]
  | x :: xs, y :: ys => by rw [zipD, List.length_cons, List.length_cons, List.length_cons, zipD_len]; omega
theorem zipD_get : ∀ {i : Nat} {xs ys : List D} {d : D}, (zipD xs ys)[i]? = some d → ∃ x y, xs[i]? = some x ∧ ys[i]? = some y ∧ d = .tup [x, y]
  | i, [], ys, d, h => by simp [zipD] at h
  | i, _ :: _, [], d, h => by simp [zipD] at h
  | 0, x :: xs, y :: ys, d, h => by
    rw [zipD] at h
    cases h
    exact ⟨x, y, rfl, rfl, rfl⟩
  | i + 1, x :: xs, y :: ys, d, h => by
    rw [zipD] at h
    obtain ⟨u, v, h1, h2, h3⟩ := zipD_get (i := i) (xs := xs) (ys := ys) (by simpa using h)
    exact ⟨u, v, by simpa using h1, by simpa using h2, h3⟩
theorem gives_enm {K : PySem.W.Frag} {m : List Addr} {H : Hp} {a : Addr} {l : Nat} {o : Ob} (ea : m[l]? = some a) : Gives K m H (numD 0 (items o), [(l, o)]) (Ite K a) := by
  intro i m' S' H' g s hc
  obtain ⟨vs, q, rs⟩ := s.sq_at (hc (l, o) List.mem_cons_self) (g.pre _ _ ea)
  refine ⟨fun h => ⟨vs, q, by rw [← rs.length, h, numD_len]; exact Nat.le_refl _⟩, fun d hd => ?_⟩
  obtain ⟨x, hx, rfl⟩ := numD_get hd
  obtain ⟨v, h1, h2⟩ := rs.get hx
  refine ⟨⟨vs, v, q, h1⟩, fun y H'' ⟨T, w, e, hT, hH, hy⟩ => ?_⟩
  subst e hH
  have := hy vs q
  rw [h1] at this
  cases this
  refine ⟨Gr.upd_new hT, s.new hT, .tup upd_same (.cons ?_ (.cons (Rep.mono (Gr.upd_new hT) _ _ h2) .nil))⟩
  rw [Nat.zero_add]
  exact .int _
theorem gives_zipL {K : PySem.W.Frag} {m : List Addr} {H : Hp} {a b : Addr} {l k : Nat} {o p : Ob} (ea : m[l]? = some a) (eb : m[k]? = some b) : Gives K m H (zipD (items o) (items p), [(l, o), (k, p)]) (Itz K a b) := by
  intro i m' S' H' g s hc
  obtain ⟨vs, q, rs⟩ := s.sq_at (hc (l, o) List.mem_cons_self) (g.pre _ _ ea)
  obtain ⟨ws, q2, rs2⟩ := s.sq_at (hc (k, p) (List.mem_cons_of_mem _ List.mem_cons_self)) (g.pre _ _ eb)
  refine ⟨fun h => ⟨vs, ws, q, q2, by have e1 := rs.length; have e2 := rs2.length; have e3 : i = min _ _ := h.trans (zipD_len ..); (try dsimp only at e1 e2); omega⟩, fun d hd => ?_⟩
  obtain ⟨x, y, hx, hy, rfl⟩ := zipD_get hd
  obtain ⟨v, h1, h2⟩ := rs.get hx
  obtain ⟨w, h3, h4⟩ := rs2.get hy
  refine ⟨⟨vs, ws, v, w, q, q2, h1, h3⟩, fun z H'' ⟨T, v', w', e, hT, hH, hv, hw⟩ => ?_⟩
  subst e hH
  have := hv vs q
  rw [h1] at this
  cases this
  have := hw ws q2
  rw [h3] at this
  cases this
  exact ⟨Gr.upd_new hT, s.new hT, .tup upd_same (.cons (Rep.mono (Gr.upd_new hT) _ _ h2) (.cons (Rep.mono (Gr.upd_new hT) _ _ h4) .nil))⟩
theorem gives_zipT {K : PySem.W.Frag} {m : List Addr} {H : Hp} {a b : Addr} {xs ys : List D} {vs ws : List V} (ea : H a = some (.tup vs)) (ra : Reps m H xs vs) (eb : H b = some (.tup ws)) (rb : Reps m H ys ws) : Gives K m H (zipD xs ys, []) (RZ.ItzT K a b) := by
  intro i m' S' H' g s _
  have q := SqT.of (K := K) (g.tup _ _ ea)
  have q2 := SqT.of (K := K) (g.tup _ _ eb)
  have rs := Reps.mono g _ _ ra
  have rs2 := Reps.mono g _ _ rb
  refine ⟨fun h => ⟨vs, ws, q, q2, by have e1 := rs.length; have e2 := rs2.length; have e3 : i = min _ _ := h.trans (zipD_len ..); (try dsimp only at e1 e2); omega⟩, fun d hd => ?_⟩
  obtain ⟨x, y, hx, hy, rfl⟩ := zipD_get hd
  obtain ⟨v, h1, h2⟩ := rs.get hx
  obtain ⟨w, h3, h4⟩ := rs2.get hy
  refine ⟨⟨vs, ws, v, w, q, q2, h1, h3⟩, fun z H'' ⟨T, v', w', e, hT, hH, hv, hw⟩ => ?_⟩
  subst e hH
  have := hv vs q
  rw [h1] at this
  cases this
  have := hw ws q2
  rw [h3] at this
  cases this
  exact ⟨Gr.upd_new hT, s.new hT, .tup upd_same (.cons (Rep.mono (Gr.upd_new hT) _ _ h2) (.cons (Rep.mono (Gr.upd_new hT) _ _ h4) .nil))⟩
section
variable {X : Cx} {sc : Scope} {N : List Str} {C : Nat → List D → M D} {ft : FTab} {W : WX} {a b c e tg : Expr} {a' b' c' e' : E} {pos : Pos}
theorem PI.imp {t t' : TI} (h : PI X tg e t) (k : ∀ σ H Q, t' σ H Q → t σ H Q) : PI X tg e t' := ⟨fun pins s σ H Q I q => h.run pins s σ H Q I (k σ H Q q)⟩
theorem i_val (h : PE X e (tE X.K X.mg W (evE C e'))) : PI X tg e (tI X.K X.mg W (evIt C (.val e'))) := by
  refine ⟨fun pins s σ H R I ⟨m, en, S, er, sr, q⟩ => ?_⟩
  unfold evIt at q
  refine thn (h.run pins s σ H (fun v H1 => ∃ d m1 S1, SR X.K m1 S1 H1 ∧ Rep m1 H1 d v ∧ post X.K (Wd X.mg W σ) m1 H1 (iterD d S1) (fun p m' _ H' => ∀ J, Gives X.K m' H' p J → R J H')) I
    (tG_use er sr (post_bind q) fun d m1 S1 H1 v g er1 sr1 q1 rx => ⟨d, m1, S1, sr1, rx, q1⟩)) fun u s1 ⟨v, H1, I1, r1, d, m1, S1, sr1, rx, q1⟩ => ?_
  cases rx <;> try exact (show False from q1).elim
  · rename_i a xs vs ea ra
    cases r1
    have k := post_now sr1 q1 (Itt X.K a) (gives_tup ea ra)
    obtain ⟨its, rv, p, hz⟩ := I1.tuple (SqT.of ea)
    refine wpAny_pyIter_tuple (show s1.heap.IsTuple a its.toArray from p) ?_
    refine ⟨s1.heap.objs.size, [s1.heap.objs.size], _, _, H1, rfl, I1.kept (t' := s1.toks) fun b o e => Heap.get?_push_of_some _ e, turn_tuple a _, ⟨_, Heap.get?_push_size _ rfl, rfl, rfl⟩, fun b hb => ?_, k⟩
    rw [List.mem_singleton.mp hb]
    exact I1.fpOk (Nat.le_refl _) (I1.hok.fresh (Nat.le_refl _))
  · rename_i l a ea
    cases r1
    unfold iterD at q1
    cases e0 : S1[l]? with
    | none => dsimp only at q1; rw [e0] at q1; exact q1.elim
    | some o =>
      dsimp only at q1
      rw [e0] at q1
      have k := post_now sr1 q1 (Itl X.K a) (gives_lst ea)
      obtain ⟨vs, sq, rs⟩ := sr1.sq_at e0 ea
      obtain ⟨its, rv, p, hz⟩ := I1.list sq
      refine wpAny_pyIter_list p.isList ?_
      refine ⟨s1.heap.objs.size, [s1.heap.objs.size], _, _, H1, rfl, I1.kept (t' := s1.toks) fun b o e => Heap.get?_push_of_some _ e, turn_list a _, ⟨_, Heap.get?_push_size _ rfl, rfl, rfl⟩, fun b hb => ?_, k⟩
      rw [List.mem_singleton.mp hb]
      exact I1.fpOk (Nat.le_refl _) (I1.hok.fresh (Nat.le_refl _))
theorem rngD_some {K : PySem.W.Frag} {Ex : Str → Option Nat → List Addr → Store → Hp → Prop} {m : List Addr} {H : Hp} {S : Store} {x y : D} {α : Type} {f : List D → M α} {F : α → List Addr → Store → Hp → Prop} (h : post K Ex m H ((rngD x y >>= f) S) F) :
    ∃ i j, x = .int i ∧ y = .int j ∧ (-(2 ^ 62) ≤ i ∧ i < 2 ^ 62 ∧ -(2 ^ 62) ≤ j ∧ j < 2 ^ 62) ∧ post K Ex m H (f ((List.range (j - i).toNat).map fun k => .int (i + (k : Nat))) S) F := by
  cases x <;> cases y <;> try exact (show False from h).elim
  rename_i i j
  by_cases hc : -(2 ^ 62) ≤ i ∧ i < 2 ^ 62 ∧ -(2 ^ 62) ≤ j ∧ j < 2 ^ 62
  · refine ⟨i, j, rfl, rfl, hc, ?_⟩
    have e : rngD (.int i) (.int j) = pure ((List.range (j - i).toNat).map fun k => .int (i + (k : Nat))) := if_pos hc
    rw [e] at h
    exact h
  · have e : rngD (.int i) (.int j) = die := if_neg hc
    rw [e] at h
    exact (show False from h).elim
theorem i_rng1 {g : Str} {p : Pos} (w : XOk X sc N C ft W) (hg : isGl sc g = true) (hn : g = ("range" : Str)) (hp : plainE b = true) (hb : PE X b (tE X.K X.mg W (evE C b'))) : PI X tg (.Call (.Name g p) [b] [] pos) (tI X.K X.mg W (evIt C (.rng1 b'))) := by
  subst hn
  have gl : Gl X "range" := by show X.env.scope.names.lookup _ = _; rw [w.sc]; exact (isGl_some hg).1
  refine PI.imp (pi_range1 gl w.fo.rng (pa_cons hb pa_nil (star_plain hp)) (star_plain hp)) fun σ H R ⟨m, en, S, er, sr, q⟩ => ?_
  unfold evIt at q
  refine tG_use er sr (post_bind q) fun d m1 S1 H1 v g er1 sr1 q1 rx => ?_
  obtain ⟨i, j, ei, ej, ⟨_, _, h3, h4⟩, q2⟩ := rngD_some q1
  cases ei
  subst ej
  cases rx
  refine ⟨j, rfl, h3, h4, ?_⟩
  have z := post_now sr1 q2 (Itr 0 (j - 0).toNat) gives_rng
  rw [Int.sub_zero] at z
  exact z
theorem i_rng2 {g : Str} {p : Pos} (w : XOk X sc N C ft W) (hg : isGl sc g = true) (hn : g = ("range" : Str)) (hpa : plainE a = true) (hpb : plainE b = true) (ha : PE X a (tE X.K X.mg W (evE C a'))) (hb : PE X b (tE X.K X.mg W (evE C b'))) :
    PI X tg (.Call (.Name g p) [a, b] [] pos) (tI X.K X.mg W (evIt C (.rng2 a' b'))) := by
  subst hn
  have gl : Gl X "range" := by show X.env.scope.names.lookup _ = _; rw [w.sc]; exact (isGl_some hg).1
  refine PI.imp (pi_range2 gl w.fo.rng (pa_cons ha (pa_cons hb pa_nil (star_plain hpb)) (star_plain hpa)) (by rw [star_plain hpa, star_plain hpb]; rfl) (star_plain hpb)) fun σ H R ⟨m, en, S, er, sr, q⟩ => ?_
  unfold evIt at q
  refine tG_use er sr (post_bind q) fun d m1 S1 H1 v g er1 sr1 q1 rx => tG_use er1 sr1 (post_bind q1) fun d2 m2 S2 H2 v2 g2 er2 sr2 q2 rx2 => ?_
  obtain ⟨i, j, ei, ej, hc, q3⟩ := rngD_some q2
  subst ei
  subst ej
  cases rx
  cases rx2
  exact ⟨i, j, rfl, hc, post_now sr2 q3 _ gives_rng⟩
theorem i_enm {g : Str} {p tpos : Pos} {elts : List Expr} {kk : Nat} (w : XOk X sc N C ft W) (hg : isGl sc g = true) (hn : g = ("enumerate" : Str)) (hp : plainE b = true) (hb : PE X b (tE X.K X.mg W (evE C b'))) : PI X (.Tuple elts kk tpos) (.Call (.Name g p) [b] [] pos) (tI X.K X.mg W (evIt C (.enm b'))) := by
  subst hn
  have gl : Gl X "enumerate" := by show X.env.scope.names.lookup _ = _; rw [w.sc]; exact (isGl_some hg).1
  refine PI.imp (pi_enum gl w.fo.enm (pa_cons hb pa_nil (star_plain hp)) (star_plain hp)) fun σ H R ⟨m, en, S, er, sr, q⟩ => ?_
  unfold evIt at q
  refine tG_use er sr (post_bind q) fun d m1 S1 H1 v g er1 sr1 q1 rx => ?_
  cases rx <;> try exact (show False from q1).elim
  rename_i l a ea
  unfold enmM at q1
  cases e0 : S1[l]? with
  | none => dsimp only at q1; rw [e0] at q1; exact q1.elim
  | some o =>
    dsimp only at q1
    rw [e0] at q1
    obtain ⟨vs, sq, rs⟩ := sr1.sq_at e0 ea
    exact ⟨a, vs, rfl, sq, post_now sr1 q1 (Ite X.K a) (gives_enm ea)⟩
theorem i_zip {g : Str} {p tpos : Pos} {elts : List Expr} {kk : Nat} (w : XOk X sc N C ft W) (hg : isGl sc g = true) (hn : g = ("zip" : Str)) (hpa : plainE a = true) (hpb : plainE b = true) (ha : PE X a (tE X.K X.mg W (evE C a'))) (hb : PE X b (tE X.K X.mg W (evE C b'))) :
    PI X (.Tuple elts kk tpos) (.Call (.Name g p) [a, b] [] pos) (tI X.K X.mg W (evIt C (.zip a' b'))) := by
  subst hn
  have gl : Gl X "zip" := by show X.env.scope.names.lookup _ = _; rw [w.sc]; exact (isGl_some hg).1
  refine PI.imp (RZ.pi_zipA gl w.fo.zip (pa_cons ha (pa_cons hb pa_nil (star_plain hpb)) (star_plain hpa)) (star_plain hpa) (by rw [star_plain hpb]; rfl)) fun σ H R ⟨m, en, S, er, sr, q⟩ => ?_
  unfold evIt at q
  refine tG_use er sr (post_bind q) fun d m1 S1 H1 v g er1 sr1 q1 rx => tG_use er1 sr1 (post_bind q1) fun d2 m2 S2 H2 v2 g2 er2 sr2 q2 rx2 => ?_
  have rx := Rep.mono g2 _ _ rx
  cases rx <;> cases rx2 <;> try exact (show False from q2).elim
  · rename_i xs a vs ea ra ys b ws eb rb
    exact ⟨_, _, _, _, rfl, .inr ⟨SqT.of ea, SqT.of eb, post_now sr2 q2 _ (gives_zipT ea ra eb rb)⟩⟩
  · rename_i l a ea k b eb
    unfold zipM at q2
    cases e0 : S2[l]? with
    | none => dsimp only at q2; rw [e0] at q2; exact q2.elim
    | some o =>
      cases e1 : S2[k]? with
      | none => dsimp only at q2; rw [e0, e1] at q2; exact q2.elim
      | some o2 =>
        dsimp only at q2
        rw [e0, e1] at q2
        obtain ⟨vs, sq, rs⟩ := sr2.sq_at e0 ea
        obtain ⟨ws, sq2, rs2⟩ := sr2.sq_at e1 eb
        exact ⟨_, _, _, _, rfl, .inl ⟨sq, sq2, post_now sr2 q2 _ (gives_zipL ea eb)⟩⟩
theorem i_of {f : Scope → Expr → Option E} {it : NL.It} (w : XOk X sc N C ft W) (h : comE.comIt tg f sc e = some it) (hp : ∀ e r, f sc e = some r → plainE e = true ∧ PE X e (tE X.K X.mg W (evE C r))) : PI X tg e (tI X.K X.mg W (evIt C it)) ∧ plainE e = true := by
  have dflt : (f sc e).map NL.It.val = some it → PI X tg e (tI X.K X.mg W (evIt C it)) ∧ plainE e = true := fun h => by
    obtain ⟨r, hr, rfl⟩ := Option.map_eq_some_iff.mp h
    obtain ⟨h1, h2⟩ := hp e r hr
    exact ⟨i_val h2, h1⟩
  unfold comE.comIt at h
  split at h
  · rename_i g p b pos
    split at h
    · rename_i hn
      split at h
      · rename_i hg
        obtain ⟨r, hr, rfl⟩ := Option.map_eq_some_iff.mp h
        obtain ⟨h1, h2⟩ := hp b r hr
        exact ⟨i_rng1 w hg hn h1 h2, rfl⟩
      · cases h
    · split at h
      · rename_i hn
        split at h
        · rename_i hg
          obtain ⟨r, hr, rfl⟩ := Option.map_eq_some_iff.mp h
          obtain ⟨h1, h2⟩ := hp b r hr
          obtain ⟨hg, ht⟩ := hg
          cases tg <;> first | (cases ht; done) | exact ⟨i_enm w hg hn h1 h2, rfl⟩
        · cases h
      · exact dflt h
  · rename_i g p a b pos
    split at h
    · rename_i hn
      split at h
      · rename_i hg
        cases e1 : f sc a with
        | none => rw [e1] at h; cases h
        | some a' =>
          cases e2 : f sc b with
          | none => rw [e1, e2] at h; cases h
          | some b' =>
            rw [e1, e2] at h
            cases h
            obtain ⟨h1, h2⟩ := hp a a' e1
            obtain ⟨h3, h4⟩ := hp b b' e2
            exact ⟨i_rng2 w hg hn h1 h3 h2 h4, rfl⟩
      · cases h
    · split at h
      · rename_i hn
        split at h
        · rename_i hg
          obtain ⟨hg, ht⟩ := hg
          cases e1 : f sc a with
          | none => rw [e1] at h; cases h
          | some a' =>
            cases e2 : f sc b with
            | none => rw [e1, e2] at h; cases h
            | some b' =>
              rw [e1, e2] at h
              cases h
              obtain ⟨h1, h2⟩ := hp a a' e1
              obtain ⟨h3, h4⟩ := hp b b' e2
              cases tg <;> first | (cases ht; done) | exact ⟨i_zip w hg hn h1 h3 h2 h4, rfl⟩
        · cases h
      · exact dflt h
  · exact dflt h
/-! ### targets -/
def setV (σ : L2.St) : List Nat → List V → L2.St
  | i :: is, v :: vs => setV (σ.set i (some v)) is vs
  | _, _ => σ
theorem wipe_set {σ : L2.St} {i : Nat} {v : Option V} : ∀ {vs : List Nat}, i ∈ vs → L2.wipe (σ.set i v) vs = L2.wipe σ vs
  | [], h => by cases h
  | j :: vs, h => by
    show (L2.wipe (σ.set i v) vs).set j none = (L2.wipe σ vs).set j none
    by_cases hm : i ∈ vs
    · rw [wipe_set hm]
    · have e : i = j := by
        rcases List.mem_cons.mp h with h | h
        · exact h
        · exact absurd h hm
      subst e
      have key : ∀ {vs : List Nat}, i ∉ vs → L2.wipe (σ.set i v) vs = (L2.wipe σ vs).set i v := fun {vs} => by
        induction vs with
        | nil => intro _; rfl
        | cons k vs ih =>
          intro hn
          show (L2.wipe (σ.set i v) vs).set k none = ((L2.wipe σ vs).set k none).set i v
          rw [ih fun z => hn (List.mem_cons_of_mem _ z)]
          exact List.set_comm _ _ fun z => hn (by rw [z]; exact List.mem_cons_self)
      rw [key hm, List.set_set]
theorem wipe_setV : ∀ {is : List Nat} {xs : List V} {σ : L2.St} {vs : List Nat}, (∀ i ∈ is, i ∈ vs) → L2.wipe (NL.setV σ is xs) vs = L2.wipe σ vs
  | [], _, _, _, _ => rfl
  | _ :: _, [], _, _, _ => rfl
  | i :: is, x :: xs, σ, vs, h => by
    show L2.wipe (NL.setV (σ.set i (some x)) is xs) vs = _
    rw [wipe_setV fun j hj => h j (List.mem_cons_of_mem _ hj), wipe_set (h i List.mem_cons_self)]
def tTg (K : PySem.W.Frag) (t : Tg) : TG := fun v σ H Q => ∃ Ex m en S d, ER m H en σ ∧ SR K m S H ∧ Rep m H d v ∧ post K Ex m H (bindT t d en S) (fun en' m' _ H' => ∀ σ', ER m' H' en' σ' → (∀ vs, (∀ i ∈ t.ixs, i ∈ vs) → L2.wipe σ' vs = L2.wipe σ vs) → Q σ' H')
theorem PG.imp {t t' : TG} (h : PG X tg t) (k : ∀ v σ H Q, t' v σ H Q → t v σ H Q) : PG X tg t' := ⟨fun pins s σ H v u Q I r q => h.run pins s σ H v u Q I r (k v σ H Q q)⟩
theorem PG.or {t t' : TG} (h : PG X tg t) (h' : PG X tg t') : PG X tg (fun v σ H Q => t v σ H Q ∨ t' v σ H Q) := ⟨fun pins s σ H v u Q I r q => q.elim (h.run pins s σ H v u Q I r) (h'.run pins s σ H v u Q I r)⟩
/-- where names may be stored -/
def Put (X : Cx) (f : Str → Option Nat) : Prop := ∀ x i, f x = some i → X.N[i]? = some x ∧ Loc X.env.scope x ∧ (X.fn x = true ∨ X.env.scope.names.lookup x = some .local)
theorem ER.setAll {m : List Addr} {H : Hp} : ∀ {is : List Nat} {ds : List D} {vs : List V} {en : NL.Env} {σ : L2.St}, ER m H en σ → Reps m H ds vs → ER m H (setAll en is ds) (setV σ is vs)
  | [], _, _, _, _, r, _ => r
  | _ :: _, [], _, _, _, r, h => by cases h; exact r
  | i :: is, d :: ds, _, en, σ, r, h => by
    cases h with
    | cons h1 h2 =>
      rename_i v vs
      exact ER.setAll (is := is) (ds := ds) (vs := vs) (en := en.set i (some d)) (σ := σ.set i (some v)) (r.set h1 i) h2
theorem names_pgs (nd : X.N.Nodup) {f : Str → Option Nat} (hf : Put X f) : ∀ {es : List Expr} {is : List Nat}, namesOf f es = some is → PGs X es (fun vs σ H Q => vs.length = is.length ∧ Q (setV σ is vs) H) ∧ (assignEach es X.env).length = is.length ∧ (assignEach es X.env).findIdx? (·.1) = none
  | [], _, h => by
    cases h
    refine ⟨⟨fun pins s σ H vs us Q I r ⟨hl, q⟩ => ?_⟩, rfl, rfl⟩
    have e : vs = [] := List.eq_nil_of_length_eq_zero hl
    subst e
    exact pgs_nil.run pins s σ H [] us Q I r ⟨rfl, q⟩
  | e :: es, is, h => by
    cases e <;> simp only [namesOf] at h <;> try cases h
    rename_i x p
    cases e1 : f x with
    | none => rw [e1] at h; cases h
    | some i =>
      cases e2 : namesOf f es with
      | none => rw [e1, e2] at h; cases h
      | some is' =>
        rw [e1, e2] at h
        cases h
        obtain ⟨h1, h2, h3⟩ := hf x i e1
        obtain ⟨k1, k2, k3⟩ := names_pgs nd hf e2
        refine ⟨⟨fun pins s σ H vs us Q I r ⟨hl, q⟩ => ?_⟩, by show _ + 1 = _; rw [k2]; rfl, ?_⟩
        · cases vs with
          | nil => cases hl
          | cons v vs => exact (pgs_cons (pg_name nd h1 h2 h3) k1 rfl).run pins s σ H (v :: vs) us Q I r ⟨v, vs, rfl, Nat.succ.inj hl, q⟩
        · show List.findIdx? (·.1) ((false, _) :: _) = none
          rw [List.findIdx?_cons]
          simp [k3]
theorem post_iteP {α : Type} {K : PySem.W.Frag} {Ex : Str → Option Nat → List Addr → Store → Hp → Prop} {m : List Addr} {H : Hp} {S : Store} {d : D} {n : Nat} {f : List D → M α} {F : α → List Addr → Store → Hp → Prop} (h : post K Ex m H ((unpD n d >>= f) S) F) :
    ∃ xs, xs.length = n ∧ post K Ex m H (f xs S) F ∧ (d = .tup xs ∨ ∃ l o, d = .ref l ∧ S[l]? = some o ∧ items o = xs) := by
  cases d <;> try exact (show False from h).elim
  · rename_i xs
    by_cases hc : xs.length = n
    · have e : unpD n (.tup xs) = pure xs := if_pos hc
      rw [e] at h
      exact ⟨xs, hc, h, .inl rfl⟩
    · have e : unpD n (.tup xs) = die := if_neg hc
      rw [e] at h
      exact (show False from h).elim
  · rename_i l
    have e : (unpD n (.ref l) >>= f) = getL l >>= fun xs => (if xs.length = n then pure xs else die) >>= f := bind_as _ _ _
    rw [e] at h
    obtain ⟨o, e0, h⟩ := getL_bind h
    by_cases hc : (items o).length = n
    · rw [if_pos hc] at h
      exact ⟨items o, hc, h, .inr ⟨l, o, rfl, e0, rfl⟩⟩
    · rw [if_neg hc] at h
      exact (show False from h).elim
theorem g_of (hc : X.calm = true) (nd : X.N.Nodup) {f : Str → Option Nat} (hf : Put X f) {t : Tg} (h : comTg f tg = some t) : PG X tg (tTg X.K t) := by
  cases tg <;> simp only [comTg] at h <;> try cases h
  · rename_i x p
    obtain ⟨i, hi, rfl⟩ := Option.map_eq_some_iff.mp h
    obtain ⟨h1, h2, h3⟩ := hf x i hi
    refine PG.imp (pg_name nd h1 h2 h3) fun v σ H Q ⟨Ex, m, en, S, d, er, sr, rd, q⟩ => ?_
    exact post_now sr (show post _ _ _ _ (R.ok (en.set i (some d)) S) _ from q) _ (er.set rd i) fun vs hv => wipe_set (hv i List.mem_cons_self)
  · rename_i es k p
    obtain ⟨is, hi, rfl⟩ := Option.map_eq_some_iff.mp h
    obtain ⟨k1, k2, k3⟩ := names_pgs nd hf hi
    refine PG.imp (PG.or (pg_tup hc k1 k2 k3) (pg_lst hc k1 k2 k3)) fun v σ H Q ⟨Ex, m, en, S, d, er, sr, rd, q⟩ => ?_
    obtain ⟨xs, hl, q2, hx⟩ := post_iteP (show post _ _ _ _ ((unpD is.length d >>= fun ds => pure (NL.setAll en is ds)) S) _ from q)
    have q3 := post_now sr (show post _ _ _ _ (R.ok (NL.setAll en is xs) S) _ from q2)
    rcases hx with rfl | ⟨l, o, rfl, e0, rfl⟩
    · cases rd with
      | tup ea ra => exact .inl ⟨_, _, rfl, SqT.of ea, by rw [← ra.length]; exact hl, by rw [← ra.length]; exact hl, q3 _ (er.setAll ra) fun vs hv => wipe_setV hv⟩
    · cases rd with
      | ref ea =>
        obtain ⟨vs, sq, rs⟩ := sr.sq_at e0 ea
        exact .inr ⟨_, vs, rfl, sq, by rw [← rs.length]; exact hl, by rw [← rs.length]; exact hl, q3 _ (er.setAll rs) fun vs hv => wipe_setV hv⟩
end
end NL

namespace NL
open PySem PySem.Spec PyProof.Rows L2
/-! ### comprehensions -/
theorem ok_bind {α β : Type} {m : M α} {f : α → M β} {S S2 : Store} {b : β} (h : (m >>= f) S = .ok b S2) : ∃ a S1, m S = .ok a S1 ∧ f a S1 = .ok b S2 := by
  rw [bind_eq] at h
  cases e : m S with
  | ok a S1 => rw [e] at h; exact ⟨a, S1, rfl, h⟩
  | exc c d S1 => rw [e] at h; cases h
  | stuck => rw [e] at h; cases h
theorem post_of {α : Type} {K : PySem.W.Frag} {Ex : Str → Option Nat → List Addr → Store → Hp → Prop} {m : List Addr} {H : Hp} {r : R α} {a : α} {S : Store} {F : α → List Addr → Store → Hp → Prop} (h : r = .ok a S) (k : ∀ m' H', Gr m m' H H' → SR K m' S H' → F a m' S H') : post K Ex m H r F := by
  rw [h]; exact k
theorem ckD_ok {p : List (Nat × Ob)} {S S' : Store} {u : Unit} (h : ckD p S = .ok u S') : CkOk p S ∧ S' = S := by
  simp only [ckD] at h
  split at h
  · rename_i e; cases h; exact ⟨e, rfl⟩
  · cases h
theorem bindT_same {t : Tg} {d : D} {en en1 : NL.Env} {S S1 : Store} (h : bindT t d en S = .ok en1 S1) : S1 = S := by
  cases t with
  | nm i => cases h; rfl
  | tp is =>
    obtain ⟨xs, S2, h1, h2⟩ := ok_bind (show (unpD is.length d >>= fun ds => pure (NL.setAll en is ds)) S = .ok en1 S1 from h)
    cases h2
    cases d <;> try cases h1
    · simp only [unpD] at h1
      split at h1
      · cases h1; rfl
      · cases h1
    · obtain ⟨ys, S3, h3, h4⟩ := ok_bind (show (getL _ >>= fun xs => if xs.length = is.length then pure xs else die) S = .ok xs S1 from h1)
      unfold getL at h3
      split at h3
      · cases h3
        split at h4
        · cases h4; rfl
        · cases h4
      · cases h3
theorem wipe_wipe {σ : L2.St} {vs : List Nat} : ∀ {ws : List Nat}, (∀ i ∈ ws, i ∈ vs) → L2.wipe (L2.wipe σ ws) vs = L2.wipe σ vs
  | [], _ => rfl
  | i :: ws, h => by
    show L2.wipe ((L2.wipe σ ws).set i none) vs = _
    rw [wipe_set (h i List.mem_cons_self), wipe_wipe fun j hj => h j (List.mem_cons_of_mem _ hj)]
theorem pushD_ok {l : Nat} {d : D} {S S' : Store} {u : Unit} (h : pushD l d S = .ok u S') : ∃ xs, S[l]? = some (.lst xs) ∧ xs.length < sizeLine ∧ S' = S.set l (.lst (xs ++ [d])) := by
  unfold pushD at h
  split at h
  · rename_i xs e
    split at h
    · rename_i hl; cases h; exact ⟨xs, e, hl, rfl⟩
    · cases h
  · cases h
section
variable {X : Cx} {sc : Scope} {N : List Str} {C : Nat → List D → M D} {ft : FTab} {W : WX} {tg iter elt : Expr} {c' e' : E} {pos : Pos}
abbrev W0 : WX := fun _ _ _ _ => False
def CompOk (X : Cx) (W : WX) (C : Nat → List D → M D) (tg iter : Expr) (ifs : List Expr) (elt : Expr) (scope : Scope) (e' : E) : Prop := ∃ (own : List (Str × Nat)) (wi : TI) (g : TG) (tt : TT) (te : TE), PI X tg iter wi ∧ BlkOk X.N X.env.scope scope own ∧
  (∀ (s : Shared) (H : Hp) (Ca : Addr) (cl : List (Str × Addr)) (fp : List Addr), PG (X.blk s H scope (compEnvC scope cl Ca X.env) fp) tg g) ∧ (∀ (s : Shared) (H : Hp) (Ca : Addr) (cl : List (Str × Addr)) (fp : List Addr), PTs (X.blk s H scope (compEnvC scope cl Ca X.env) fp) ifs tt) ∧
  (∀ (s : Shared) (H : Hp) (Ca : Addr) (cl : List (Str × Addr)) (fp : List Addr), PE (X.blk s H scope (compEnvC scope cl Ca X.env) fp) elt te) ∧ (∀ x, foldedSetIterable iter X.env x = pure x) ∧ ∀ σ H Q, tE X.K X.mg W (evE C e') σ H Q → tLc wi g tt te (own.map (·.2)) σ H Q
theorem p_compC {scope : Scope} {own : List (Str × Nat)} {t : Tg} {it' : NL.It} {ifs : List Expr} (w : XOk X sc N C ft W) (hb : blkC N sc scope own = true) (hp : plainE iter = true) (hi : PI X tg iter (tI X.K X.mg W (evIt C it'))) (hix : ∀ i ∈ t.ixs, i ∈ own.map (·.2))
    (hg : ∀ (s : Shared) (H : Hp) (Ca : Addr) (cl : List (Str × Addr)) (fp : List Addr), PG (X.blk s H scope (compEnvC scope cl Ca X.env) fp) tg (tTg X.K t))
    (ht : ∀ (s : Shared) (H : Hp) (Ca : Addr) (cl : List (Str × Addr)) (fp : List Addr), PTs (X.blk s H scope (compEnvC scope cl Ca X.env) fp) ifs (tT X.K X.mg W0 fun en => evE C c' en >>= truD))
    (he : ∀ (s : Shared) (H : Hp) (Ca : Addr) (cl : List (Str × Addr)) (fp : List Addr), PE (X.blk s H scope (compEnvC scope cl Ca X.env) fp) elt (tE X.K X.mg W0 (evE C e'))) :
    CompOk X W C tg iter ifs elt scope (.comp (own.map (·.2)) t it' c' e') := by
  refine ⟨own, _, _, _, _, hi, (blkOk_by (by rw [w.hN, w.sc]; exact hb)), hg, ht, he, (fun x => folded_plain hp), fun σ H Q ⟨m, en, S, er, sr, q⟩ => ?_⟩
  unfold evE at q
  refine ⟨m, en, S, er, sr, post_mono (post_bind q) fun p m1 S1 H1 g1 sr1 q1 J gv D hD => ?_⟩
  -- the block answers
  have er1 := er.mono g1
  have q2 : post X.K (Wd X.mg W σ) m1 H1 (noX (cmpL (ckD p.2) (fun d => bindT t d (wipeD en (own.map (·.2)))) (fun en' => evE C c' en' >>= truD) (fun en' => evE C e' en') S1.length p.1 >>= fun _ => pure (.ref S1.length)) (S1 ++ [.lst []])) (fun d m' _ H' => ∀ w, Rep m' H' d w → Q w H') := q1
  have g2 : Gr m1 (m1 ++ [D]) H1 (upd H1 D (.lst [])) := Gr.push_new hD
  have sr2 : SR X.K (m1 ++ [D]) (S1 ++ [.lst []]) (upd H1 D (.lst [])) := sr1.alloc hD .nil
  have hl2 : (m1 ++ [D])[S1.length]? = some D := by rw [← sr1.len]; simp
  unfold noX at q2
  cases er2 : (cmpL (ckD p.2) (fun d => bindT t d (wipeD en (own.map (·.2)))) (fun en' => evE C c' en' >>= truD) (fun en' => evE C e' en') S1.length p.1 >>= fun _ => (pure (.ref S1.length) : M NL.D)) (S1 ++ [.lst []]) with
  | exc _ _ _ => rw [er2] at q2; exact q2.elim
  | stuck => rw [er2] at q2; exact q2.elim
  | ok r Sf =>
    rw [er2] at q2
    obtain ⟨u, Sf', hrun, hret⟩ := ok_bind er2
    cases hret
    have fin : ∀ m' H', Gr m1 m' H1 H' → SR X.K m' Sf H' → m'[S1.length]? = some D → Q (.ref D) H' := fun m' H' g s e => q2 m' H' g s _ (.ref e)
    let Wi : Nat → Nat → Hp → Prop := fun i k Hh => ∃ mm Sh, Gr m1 mm H1 Hh ∧ SR X.K mm Sh Hh ∧ i ≤ p.1.length ∧ k = p.1.length - i ∧ mm[S1.length]? = some D ∧
      cmpL (ckD p.2) (fun d => bindT t d (wipeD en (own.map (·.2)))) (fun en' => evE C c' en' >>= truD) (fun en' => evE C e' en') S1.length (p.1.drop i) Sh = .ok () Sf
    refine ⟨Wi, ⟨_, m1 ++ [D], _, g2, sr2, Nat.zero_le _, rfl, hl2, hrun⟩, ?_⟩
    rintro i k Hh ⟨mm, Sh, gm, sm, hi1, rfl, hD1, hr⟩
    by_cases hlt : i < p.1.length
    · right
      have hx : p.1[i]? = some p.1[i] := List.getElem?_eq_getElem hlt
      rw [List.drop_eq_getElem_cons hlt] at hr
      unfold cmpL at hr
      obtain ⟨u1, Sa, k1, hr1⟩ := ok_bind hr
      obtain ⟨ck, e1⟩ := ckD_ok k1
      rw [e1] at hr1
      obtain ⟨en1, Sb, k2, hr2⟩ := ok_bind hr1
      rw [bindT_same k2] at hr2 k2
      obtain ⟨tb, Sc, k3, hr3⟩ := ok_bind hr2
      have gi := (gv i mm Sh Hh gm sm ck).2 _ hx
      refine ⟨gi.1, fun H' => ∃ k', Wi (i + 1) k' H' ∧ k' = p.1.length - (i + 1), fun H' ⟨k', hw, hk⟩ => ⟨k', by omega, hw⟩, fun x H' hy => ?_⟩
      obtain ⟨ga, sa, ra⟩ := gi.2 x H' hy
      refine ⟨E0x, mm, wipeD en (own.map (·.2)), Sh, _, (er1.mono (gm.trans ga)).wipe _, sa, ra, post_of k2 fun mb Hb gb sb σ2 erb hsame => ⟨(hsame _ hix).trans (wipe_wipe fun i hi => hi), ?_⟩⟩
      refine ⟨mb, en1, Sh, erb, sb, post_of k3 fun mc Hc gc sc' b eb => ?_⟩
      subst eb
      have gall : Gr m1 mc H1 Hc := gm.trans (ga.trans (gb.trans gc))
      cases b with
      | false =>
        rw [if_neg Bool.false_ne_true] at hr3 ⊢
        exact ⟨_, ⟨mc, Sc, gall, sc', hlt, rfl, (ga.trans (gb.trans gc)).pre _ _ hD1, hr3⟩, rfl⟩
      | true =>
        rw [if_pos rfl] at hr3 ⊢
        obtain ⟨d, Sd, k4, hr4⟩ := ok_bind hr3
        obtain ⟨u2, Se, k5, hr5⟩ := ok_bind hr4
        obtain ⟨xs, p1, p2, rfl⟩ := pushD_ok k5
        refine ⟨mc, en1, Sc, erb.mono gc, sc', post_of k4 fun md Hd gd sd y ry => ?_⟩
        have hDd := (ga.trans (gb.trans (gc.trans gd))).pre _ _ hD1
        obtain ⟨vs, hv, rs⟩ := sd.lst_at p1 hDd
        refine ⟨vs, hv, by rw [← rs.length]; exact p2, _, ⟨md, _, (gall.trans gd).trans (Gr.write hv), sd.write p1 hDd hv (rs.append (.cons ry .nil)), hlt, rfl, hDd, hr5⟩, rfl⟩
    · left
      have e : i = p.1.length := by omega
      subst e
      rw [List.drop_length] at hr
      unfold cmpL at hr
      obtain ⟨ck, e1⟩ := ckD_ok hr
      subst e1
      exact ⟨(gv _ mm _ Hh gm sm ck).1 rfl, fin mm Hh gm sm hD1⟩
theorem p_compE {scope : Scope} {ifs : List Expr} (w : XOk X sc N C ft W) (h : CompOk X W C tg iter ifs elt scope e') : PE X (.ListComp elt [⟨tg, iter, ifs, 0⟩] scope pos) (tE X.K X.mg W (evE C e')) := by
  obtain ⟨own, wi, g, tt, te, hi, hb, hg, ht, he, hs, k⟩ := h
  exact PE.imp (pe_lc w.calm (by rw [w.hN]; exact w.nd) hi hb hg ht he hs) k
end
end NL

namespace NL
open PySem PySem.Spec PyProof.Rows L2
section
variable {N : List Str} {C : Nat → List D → M D} {ft : FTab}
theorem FOk.blk {X : Cx} (h : FOk X C ft) (s : Shared) (H : Hp) (scope : Scope) (ce : PySem.Env) (fp : List Addr) : FOk (X.blk s H scope ce fp) C ft := ⟨h.own, h.blt, h.isi, h.rng, h.enm, h.zip, h.rev, h.ty⟩
theorem XOk.blk {X : Cx} {sc : Scope} {W : WX} (w : XOk X sc N C ft W) (s : Shared) (H : Hp) (scope : Scope) (cl : List (Str × Addr)) (Ca : Addr) (fp : List Addr) : XOk (X.blk s H scope (compEnvC scope cl Ca X.env) fp) (relS scope sc) N C ft W0 :=
  ⟨w.hN, by rw [← w.sc]; rfl, w.nd, w.calm, w.hu, w.fo.blk s H scope _ fp, takes0⟩
theorem put_blk {X : Cx} {sc : Scope} {W : WX} (w : XOk X sc N C ft W) (s : Shared) (H : Hp) (scope : Scope) (cl : List (Str × Addr)) (Ca : Addr) (fp : List Addr) : Put (X.blk s H scope (compEnvC scope cl Ca X.env) fp) (locOf scope N) := fun x i h => by
  obtain ⟨h1, h2⟩ := locOf_some h
  have e : (X.blk s H scope (compEnvC scope cl Ca X.env) fp).env.scope = relS scope X.env.scope := rfl
  refine ⟨by rw [← w.hN] at h1; exact h1, ?_, ?_⟩
  · rw [e]
    rcases h2 with h2 | h2
    · exact .inl (lookup_relS_keep (by decide) h2)
    · exact .inr (lookup_relS_keep (by decide) h2)
  · rcases h2 with h2 | h2
    · exact .inr (by rw [e]; exact lookup_relS_keep (by decide) h2)
    · exact .inl (by show (scope.names.lookup x == some .cell) = true; rw [h2]; rfl)
def valE : Expr → Bool
  | .Constant .. | .Name .. | .BinOp .. | .Tuple .. | .List .. | .Subscript .. | .Call .. | .ListComp .. => true
  | .UnaryOp .USub .. => true
  | _ => false
theorem val_plain {e : Expr} (h : valE e = true) (env : PySem.Env) : ∀ whole, isTrue e env whole = (do let v ← whole; standAt e.pos; holding [v] (truthy v)) := by
  intro whole
  cases e <;> first | rfl | (rename_i o a p; cases o <;> first | rfl | exact absurd h Bool.false_ne_true) | exact absurd h Bool.false_ne_true
abbrev Both (X : Cx) (C : Nat → List D → M D) (W : WX) (e : Expr) (e' : E) : Prop := PE X e (tE X.K X.mg W (evE C e')) ∧ PT X e (tT X.K X.mg W fun en => evE C e' en >>= truD)
theorem both_val {X : Cx} {W : WX} {e : Expr} {e' : E} (hp : PE X e (tE X.K X.mg W (evE C e'))) (h : valE e = true) : Both X C W e e' := ⟨hp, p_valT hp (val_plain h X.env)⟩
theorem comE_ok : ∀ (n : Nat) (X : Cx) (sc : Scope) (W : WX) (e : Expr) (e' : E), XOk X sc N C ft W → comE ft N n sc e = some e' → Both X C W e e' := by
  intro n
  induction n with
  | zero => intro X sc W e e' w h; unfold comE at h; cases h
  | succ n ih =>
    intro X sc W e e' w h
    have hpl := comE_plain h
    have many : ∀ {es : List Expr} {r : Es}, comL (comE ft N n sc) es = some r → PA X es (tA X.K X.mg W (evEs C r)) := fun {es r} hc => p_list hc fun x _ r hr => ⟨comE_plain hr, (ih X sc W x r w hr).1⟩
    cases e with
    | Constant c k pos =>
      simp only [comE] at h
      obtain ⟨d, hd, rfl⟩ := Option.map_eq_some_iff.mp h
      exact both_val (p_con hd) rfl
    | Name x pos =>
      simp only [comE] at h
      obtain ⟨i, hi, rfl⟩ := Option.map_eq_some_iff.mp h
      exact both_val (p_var w hi) rfl
    | BinOp a o b pos =>
      simp only [comE] at h
      split at h
      · rename_i o' a' b' e1 e2 e3
        cases h
        exact both_val (p_bin e1 (ih X sc W a a' w e2).1 (ih X sc W b b' w e3).1) rfl
      · cases h
    | UnaryOp o a pos =>
      cases o <;> simp only [comE] at h <;> try cases h
      · obtain ⟨a', ha, rfl⟩ := Option.map_eq_some_iff.mp h
        obtain ⟨k1, k2⟩ := ih X sc W a a' w ha
        exact ⟨p_not k2 k1, p_notT k2⟩
      · obtain ⟨a', ha, rfl⟩ := Option.map_eq_some_iff.mp h
        exact both_val (p_neg (ih X sc W a a' w ha).1) rfl
    | Compare a os bs pos =>
      rcases os with _ | ⟨o, _ | ⟨o2, _ | ⟨o3, os⟩⟩⟩ <;> rcases bs with _ | ⟨b, _ | ⟨b2, _ | ⟨b3, bs⟩⟩⟩ <;> simp only [comE] at h <;> try cases h
      · split at h
        · rename_i a' b' e1 e2
          cases h
          have k1 := (ih X sc W a a' w e1).1
          have k2 := (ih X sc W b b' w e2).1
          exact ⟨p_cmp w (comE_plain e2) k1 k2, p_cmpT w (comE_plain e2) k1 k2⟩
        · cases h
      · split at h
        · rename_i a' b' c' e1 e2 e3
          cases h
          have k1 := (ih X sc W a a' w e1).1
          have k2 := (ih X sc W b b' w e2).1
          have k3 := (ih X sc W b2 c' w e3).1
          exact ⟨p_chn w (comE_plain e3) k1 k2 k3, p_chnT w (comE_plain e3) k1 k2 k3⟩
        · cases h
    | BoolOp o es pos =>
      simp only [comE] at h
      exact ⟨p_boolE h fun x _ r hr => (ih X sc W x r w hr).1, (p_boolW h fun x _ r hr => (ih X sc W x r w hr).2).pt⟩
    | IfExp c a b pos =>
      simp only [comE] at h
      split at h
      · rename_i c' a' b' e1 e2 e3
        cases h
        obtain ⟨c1, c2⟩ := ih X sc W c c' w e1
        obtain ⟨a1, a2⟩ := ih X sc W a a' w e2
        obtain ⟨b1, b2⟩ := ih X sc W b b' w e3
        exact ⟨p_ite c2 a1 b1, p_iteT c2 a2 b2⟩
      · cases h
    | Tuple es k pos =>
      simp only [comE] at h
      obtain ⟨r, hr, rfl⟩ := Option.map_eq_some_iff.mp h
      exact both_val (p_tup (many hr)) rfl
    | List es pos =>
      simp only [comE] at h
      obtain ⟨r, hr, rfl⟩ := Option.map_eq_some_iff.mp h
      exact both_val (p_lst (many hr)) rfl
    | Subscript a i pos =>
      have idx : (if isSlice i = true then none else match comE ft N n sc a, comE ft N n sc i with
          | some a, some i => some (E.idx a i)
          | _, _ => none) = some e' → Both X C W (.Subscript a i pos) e' := fun h => by
        split at h
        · cases h
        · rename_i hs
          split at h
          · rename_i a' i' e1 e2
            cases h
            exact both_val (p_idx (by simpa using hs) (ih X sc W a a' w e1).1 (ih X sc W i i' w e2).1) rfl
          · cases h
      cases i with
      | Slice lo hi st p2 =>
        cases st with
        | none =>
          simp only [comE] at h
          split at h
          · rename_i a' l' h' e1 e2 e3
            cases h
            exact both_val (p_slc (ih X sc W a a' w e1).1 e2 e3 (fun x _ r hr => (ih X sc W x r w hr).1) (fun x _ r hr => (ih X sc W x r w hr).1)) rfl
          · cases h
        | some st => simp only [comE] at h; exact idx h
      | _ => simp only [comE] at h; exact idx h
    | Call f es kw pos =>
      cases f <;> simp only [comE] at h <;> try cases h
      rename_i f p
      cases kw with
      | cons _ _ => first | cases h | (dsimp only at h; cases h)
      | nil =>
        try dsimp only at h
        split at h
        · rename_i hg
          split at h
          · rename_i hf
            rcases es with _ | ⟨a, _ | ⟨b, _ | ⟨c, es⟩⟩⟩ <;> (try simp only at h) <;> try cases h
            cases b <;> (try simp only at h) <;> try cases h
            rename_i t p2
            split at h
            · rename_i hg2
              split at h
              · rename_i a' T e1 e2
                cases h
                exact both_val (p_isi w hg hf hg2 e2 (comE_plain e1) (ih X sc W a a' w e1).1) rfl
              · cases h
            · cases h
          · split at h
            · rename_i hl
              obtain ⟨hl, _⟩ := hl
              subst hl
              split at h
              · rename_i g _ a _ _
                split at h
                · rename_i hg2
                  obtain ⟨hg2, hgn⟩ := hg2
                  subst hgn
                  obtain ⟨a', ha, rfl⟩ := Option.map_eq_some_iff.mp h
                  exact both_val (p_rev w hg hg2 (comE_plain ha) (ih X sc W a a' w ha).1) rfl
                · cases h
              · cases h
            split at h
            · rename_i b x xs e1 e2
              cases h
              cases es with
              | nil => cases e2
              | cons e0 es => exact both_val (p_blt w hg e1 e2 (many e2)) rfl
            · cases h
            · rename_i x xs e1 e2
              split at h
              · rename_i id ar e3
                split at h
                · rename_i har
                  cases h
                  cases es with
                  | nil => cases e2
                  | cons e0 es => exact both_val (p_call w hg e3 har.symm e2 (many e2)) rfl
                · cases h
              · cases h
            · cases h
        · cases h
    | ListComp elt gens scope pos =>
      rcases gens with _ | ⟨⟨tg, it, ifs, as⟩, _ | ⟨g2, gens⟩⟩ <;> simp only [comE] at h <;> try cases h
      split at h
      · cases h
      · rename_i has
        have has : as = 0 := Decidable.not_not.mp has
        subst has
        split at h
        · rename_i hb
          split at h
          · rename_i t it' c' el' e1 e2 e3 e4
            cases h
            obtain ⟨e1a, e1b⟩ := Option.filter_eq_some_iff.mp e1
            obtain ⟨hi, hpi⟩ := i_of (tg := tg) w e2 fun x r hr => ⟨comE_plain hr, (ih X sc W x r w hr).1⟩
            refine both_val (p_compE w (p_compC w hb hpi hi ?_ ?_ ?_ ?_)) rfl
            · intro i hm
              rw [List.all_eq_true] at e1b
              exact of_decide_eq_true (e1b i hm)
            · intro s H Ca cl fp
              exact g_of (X := X.blk s H scope (compEnvC scope cl Ca X.env) fp) w.calm (by show X.N.Nodup; rw [w.hN]; exact w.nd) (put_blk w s H scope cl Ca fp) e1a
            · intro s H Ca cl fp
              have w2 := w.blk s H scope cl Ca fp
              rcases ifs with _ | ⟨c, _ | ⟨c2, ifs⟩⟩
              · cases e3
                exact ⟨fun pins s1 σ H1 Q I ⟨m, en, S, er, sr, q⟩ => pts_nil.run pins s1 σ H1 Q I (post_now sr (show post _ _ _ _ (R.ok true S) _ from q) true rfl)⟩
              · exact pts_one (ih _ _ W0 c c' w2 e3).2
              · cases e3
            · intro s H Ca cl fp
              exact (ih _ _ W0 elt el' (w.blk s H scope cl Ca fp) e4).1
          · cases h
        · cases h
    | _ => cases hpl
theorem comE_comp {n : Nat} {X : Cx} {sc : Scope} {W : WX} {elt : Expr} {gens : List Comprehension} {scope : Scope} {pos : Pos} {e' : E} (w : XOk X sc N C ft W) (h : comE ft N (n + 1) sc (.ListComp elt gens scope pos) = some e') :
    ∃ tg it ifs, gens = [⟨tg, it, ifs, 0⟩] ∧ CompOk X W C tg it ifs elt scope e' := by
  rcases gens with _ | ⟨⟨tg, it, ifs, as⟩, _ | ⟨g2, gens⟩⟩ <;> simp only [comE] at h <;> try cases h
  split at h
  · cases h
  · rename_i has
    have has : as = 0 := Decidable.not_not.mp has
    subst has
    split at h
    · rename_i hb
      split at h
      · rename_i t it' c' el' e1 e2 e3 e4
        cases h
        obtain ⟨e1a, e1b⟩ := Option.filter_eq_some_iff.mp e1
        obtain ⟨hi, hpi⟩ := i_of (tg := tg) w e2 fun x r hr => ⟨comE_plain hr, (comE_ok n X sc W x r w hr).1⟩
        refine ⟨_, _, _, rfl, p_compC w hb hpi hi ?_ ?_ ?_ ?_⟩
        · intro i hm
          rw [List.all_eq_true] at e1b
          exact of_decide_eq_true (e1b i hm)
        · intro s H Ca cl fp
          exact g_of (X := X.blk s H scope (compEnvC scope cl Ca X.env) fp) w.calm (by show X.N.Nodup; rw [w.hN]; exact w.nd) (put_blk w s H scope cl Ca fp) e1a
        · intro s H Ca cl fp
          have w2 := w.blk s H scope cl Ca fp
          rcases ifs with _ | ⟨c, _ | ⟨c2, ifs⟩⟩
          · cases e3
            exact ⟨fun pins s1 σ H1 Q I ⟨m, en, S, er, sr, q⟩ => pts_nil.run pins s1 σ H1 Q I (post_now sr (show post _ _ _ _ (R.ok true S) _ from q) true rfl)⟩
          · exact pts_one (comE_ok n _ _ W0 c c' w2 e3).2
          · cases e3
        · intro s H Ca cl fp
          exact (comE_ok n _ _ W0 elt el' (w.blk s H scope cl Ca fp) e4).1
      · cases h
    · cases h
end
end NL

/-! Statements. -/
namespace NL
open PySem PySem.Spec PyProof.Rows L2
def flowP (mg : Str → Option Value) (W : WX) (Dn : Ends) : Flow → List Addr → Store → Hp → Prop
  | .nx en, m, _, H => ∀ σ, ER m H en σ → Dn.nx σ H
  | .brk en, m, _, H => ∀ σ, ER m H en σ → Dn.bk σ H
  | .cnt en, m, _, H => ∀ σ, ER m H en σ → Dn.ct σ H
  | .ret d, m, _, H => ∀ v, Rep m H d v → Dn.rt v H
  | .exc c d en, m, _, H => ∀ σ cls dd, ER m H en σ → XR mg c d m cls dd → W cls dd σ H
def tS (K : PySem.W.Frag) (mg : Str → Option Value) (W : WX) (f : NL.Env → M Flow) : TS := fun Dn σ H => ∃ m en S, ER m H en σ ∧ SR K m S H ∧ post K E0x m H (f en S) (flowP mg W Dn)
theorem PS.imp {X : Cx} {s : Stmt} {t t' : TS} (h : PS X s t) (k : ∀ D σ H, t' D σ H → t D σ H) : PS X s t' := ⟨fun pins s σ H D I q => h.run pins s σ H D I (k D σ H q)⟩
theorem PSs.imp {X : Cx} {s : List Stmt} {t t' : TS} (h : PSs X s t) (k : ∀ D σ H, t' D σ H → t D σ H) : PSs X s t' := ⟨fun pins s σ H D I q => h.run pins s σ H D I (k D σ H q)⟩
theorem lift_post {α : Type} {K : PySem.W.Frag} {mg : Str → Option Value} {W : WX} {Dn : Ends} {m : List Addr} {H : Hp} {en : NL.Env} {f : M α} {k : α → M Flow} {S : Store} (h : post K E0x m H (lift en f k S) (flowP mg W Dn)) {σ : L2.St} (er : ER m H en σ) :
    post K (Wd mg W σ) m H (f S) (fun a m1 S1 H1 => post K E0x m1 H1 (k a S1) (flowP mg W Dn)) := by
  unfold lift at h
  cases e : f S with
  | ok a S1 =>
    rw [e] at h
    exact fun m' H' g s => post_later g (show post K E0x m H (k a S1) (flowP mg W Dn) from h)
  | exc c d S1 =>
    rw [e] at h
    exact fun m' H' g s cls dd hx => h m' H' g s σ cls dd (er.mono g) hx
  | stuck => rw [e] at h; exact h
theorem flow_nx {K : PySem.W.Frag} {mg : Str → Option Value} {W : WX} {Dn : Ends} {m : List Addr} {H : Hp} {en : NL.Env} {S : Store} {σ : L2.St} (s : SR K m S H) (h : post K E0x m H ((pure (.nx en) : M Flow) S) (flowP mg W Dn)) (er : ER m H en σ) : Dn.nx σ H :=
  post_now s (show post K E0x m H (.ok (Flow.nx en) S) _ from h) σ er
structure SOk (X : Cx) (sco : Scope) (N : List Str) (C : Nat → List D → M D) (ft : FTab) (W : WX) : Prop extends XOk X sco N C ft W where
  put : Put X (locOf sco N)
  pass : PassesOwn (model X.prog X.w) X.A X.env X.xe
  kind : sco.kind = ScopeKind.function
section
variable {X : Cx} {sc : Scope} {N : List Str} {C : Nat → List D → M D} {ft : FTab} {W : WX} {a b c e : Expr} {a' b' c' e' : E} {pos : Pos}
theorem SOk.nd' (w : SOk X sc N C ft W) : X.N.Nodup := by rw [w.hN]; exact w.nd
theorem swaps_plain {env : PySem.Env} {tg : Option Expr} {l : Nat} (h : plainE e = true) (hc : isComp e = false) : swapsWith e tg l env = pure false := by
  cases e <;> first | rfl | exact absurd h Bool.false_ne_true | exact absurd hc (by intro z; cases z)
theorem swaps_tup {env : PySem.Env} {ts : List Expr} {k : Nat} {p : Pos} {l : Nat} (h : plainE e = true) : swapsWith e (some (.Tuple ts k p)) l env = pure false := by
  cases e <;> first | rfl | exact absurd h Bool.false_ne_true
theorem swaps_sub {env : PySem.Env} {o i : Expr} {p : Pos} {l : Nat} (h : plainE e = true) : swapsWith e (some (.Subscript o i p)) l env = pure false := by
  cases e <;> first | rfl | exact absurd h Bool.false_ne_true
/-- x = e -/
theorem s_set {x : Str} {px : Pos} {i : Nat} (w : SOk X sc N C ft W) (hx : locOf sc N x = some i) (hp : plainE e = true) (hs : isComp e = false) (he : PE X e (tE X.K X.mg W (evE C e'))) : PS X (.Assign [.Name x px] e pos) (tS X.K X.mg W (exS C (.set i e'))) := by
  obtain ⟨h1, h2, h3⟩ := w.put x i hx
  refine PS.imp (ps_set w.nd' h1 h2 he (swaps_plain hp hs) h3) fun Dn σ H ⟨m, en, S, er, sr, q⟩ => ?_
  unfold exS at q
  refine tG_use er sr (lift_post q er) fun d m1 S1 H1 v g er1 sr1 q1 rx => ?_
  exact flow_nx sr1 q1 (er1.set rx i)
theorem s_expr (hp : plainE e = true) (hs : isComp e = false) (he : PE X e (tE X.K X.mg W (evE C e'))) : PS X (.Expr e pos) (tS X.K X.mg W (exS C (.expr e'))) := by
  refine PS.imp (ps_expr he (swaps_plain hp hs)) fun Dn σ H ⟨m, en, S, er, sr, q⟩ => ?_
  unfold exS at q
  refine tG_use er sr (lift_post q er) fun d m1 S1 H1 v g er1 sr1 q1 rx => ?_
  exact flow_nx sr1 q1 er1
theorem s_ret (he : PE X e (tE X.K X.mg W (evE C e'))) : PS X (.Return (some e) pos) (tS X.K X.mg W (exS C (.ret e'))) := by
  refine PS.imp (ps_ret he) fun Dn σ H ⟨m, en, S, er, sr, q⟩ => ?_
  unfold exS at q
  refine tG_use er sr (lift_post q er) fun d m1 S1 H1 v g er1 sr1 q1 rx => ?_
  exact post_now sr1 (show post _ _ _ _ (R.ok (Flow.ret d) S1) _ from q1) v rx
theorem s_ret0 : PS X (.Return none pos) (tS X.K X.mg W (exS C .ret0)) := by
  refine PS.imp ps_retN fun Dn σ H ⟨m, en, S, er, sr, q⟩ => ?_
  unfold exS at q
  exact post_now sr (show post _ _ _ _ (R.ok (Flow.ret .non) S) _ from q) _ .non
theorem s_pass : PS X (.Pass pos) (tS X.K X.mg W (exS C .pass)) := by
  refine PS.imp ps_pass fun Dn σ H ⟨m, en, S, er, sr, q⟩ => ?_
  unfold exS at q
  exact flow_nx sr q er
theorem s_doc {x : Str} {j : Nat} {p : Pos} : PS X (.Expr (.Constant (.str x) j p) pos) (tS X.K X.mg W (exS C .pass)) := by
  refine PS.imp ps_doc fun Dn σ H ⟨m, en, S, er, sr, q⟩ => ?_
  unfold exS at q
  exact flow_nx sr q er
theorem s_brk : PS X (.Break pos) (tS X.K X.mg W (exS C .brk)) := by
  refine PS.imp ps_break fun Dn σ H ⟨m, en, S, er, sr, q⟩ => ?_
  unfold exS at q
  exact post_now sr (show post _ _ _ _ (R.ok (Flow.brk en) S) _ from q) σ er
theorem s_cnt : PS X (.Continue pos) (tS X.K X.mg W (exS C .cnt)) := by
  refine PS.imp ps_continue fun Dn σ H ⟨m, en, S, er, sr, q⟩ => ?_
  unfold exS at q
  exact post_now sr (show post _ _ _ _ (R.ok (Flow.cnt en) S) _ from q) σ er
theorem s_if {sa sb : List Stmt} {ba bb : Sts} (hc : PT X c (tT X.K X.mg W fun en => evE C c' en >>= truD)) (ha : PSs X sa (tS X.K X.mg W (exB C ba))) (hb : PSs X sb (tS X.K X.mg W (exB C bb))) : PS X (.If c sa sb pos) (tS X.K X.mg W (exS C (.ifs c' ba bb))) := by
  refine PS.imp (ps_if hc ha hb) fun Dn σ H ⟨m, en, S, er, sr, q⟩ => ?_
  unfold exS at q
  refine tG_use er sr (lift_post q er) fun t m1 S1 H1 v g er1 sr1 q1 rx => ?_
  subst rx
  cases v with
  | true => rw [if_pos rfl] at q1 ⊢; exact ⟨m1, en, S1, er1, sr1, q1⟩
  | false => rw [if_neg Bool.false_ne_true] at q1 ⊢; exact ⟨m1, en, S1, er1, sr1, q1⟩
/-- a block -/
theorem seq_post {K : PySem.W.Frag} {mg : Str → Option Value} {W : WX} {Dn : Ends} {m : List Addr} {H : Hp} {S : Store} {f : M Flow} {k : NL.Env → M Flow} (h : post K E0x m H ((f >>= fun fl => match fl with
    | .nx en' => k en'
    | f => pure f) S) (flowP mg W Dn)) : post K E0x m H (f S) (flowP mg W { Dn with nx := fun σ H => ∃ m en S, ER m H en σ ∧ SR K m S H ∧ post K E0x m H (k en S) (flowP mg W Dn) }) := by
  rw [bind_eq] at h
  cases e : f S with
  | ok fl S =>
    rw [e] at h
    intro m' H' g s
    cases fl with
    | nx en => exact fun σ er => ⟨m', en, S, er, s, post_later g (show post K E0x m H (k en S) _ from h)⟩
    | brk en => exact (show post K E0x m H (.ok (Flow.brk en) S) (flowP mg W Dn) from h) m' H' g s
    | cnt en => exact (show post K E0x m H (.ok (Flow.cnt en) S) (flowP mg W Dn) from h) m' H' g s
    | ret d => exact (show post K E0x m H (.ok (Flow.ret d) S) (flowP mg W Dn) from h) m' H' g s
    | exc c d en => exact (show post K E0x m H (.ok (Flow.exc c d en) S) (flowP mg W Dn) from h) m' H' g s
  | exc c d S => rw [e] at h; exact h
  | stuck => rw [e] at h; exact h
theorem s_nil : PSs X [] (tS X.K X.mg W (exB C .nil)) := by
  refine PSs.imp pss_nil fun Dn σ H ⟨m, en, S, er, sr, q⟩ => ?_
  unfold exB at q
  exact flow_nx sr q er
theorem s_cons {s : Stmt} {r : List Stmt} {s' : NL.St} {r' : Sts} (h1 : PS X s (tS X.K X.mg W (exS C s'))) (h2 : PSs X r (tS X.K X.mg W (exB C r'))) : PSs X (s :: r) (tS X.K X.mg W (exB C (.cons s' r'))) := by
  refine PSs.imp (pss_cons h1 h2) fun Dn σ H ⟨m, en, S, er, sr, q⟩ => ?_
  unfold exB at q
  exact ⟨m, en, S, er, sr, seq_post q⟩
/-- x += e, ints -/
theorem s_aug {x : Str} {px : Pos} {i : Nat} (w : SOk X sc N C ft W) (hx : locOf sc N x = some i) (he : PE X e (tE X.K X.mg W (evE C e'))) : PS X (.AugAssign (.Name x px) .Add e pos) (tS X.K X.mg W (exS C (.aug i e'))) := by
  obtain ⟨h1, h2, h3⟩ := w.put x i hx
  refine PS.imp (ps_aug w.nd' h1 h2 he ip_add h3) fun Dn σ H ⟨m, en, S, er, sr, q⟩ => ?_
  unfold exS at q
  cases e0 : en[i]? with
  | none => rw [e0] at q; exact q.elim
  | some od =>
    rw [e0] at q
    cases od with
    | none => exact q.elim
    | some d =>
      cases d <;> try exact q.elim
      rename_i n
      obtain ⟨v, hv, rv⟩ := er.get i _ e0
      cases rv
      refine ⟨_, hv, tG_use er sr (lift_post q er) fun d m1 S1 H1 v g er1 sr1 q1 rx => ?_⟩
      cases rx <;> try exact (show False from q1).elim
      exact ⟨n, _, rfl, rfl, flow_nx sr1 q1 (er1.set (.int _) i)⟩
/-- x.append(e) -/
theorem s_app {x : Str} {px apos cpos : Pos} {i : Nat} (w : SOk X sc N C ft W) (hx : visOf sc N x = some i) (hl : (apos.endLine == cpos.line) = true) (hp : plainE e = true) (he : PE X e (tE X.K X.mg W (evE C e'))) :
    PS X (.Expr (.Call (.Attribute (.Name x px) "append" apos) [e] [] cpos) pos) (tS X.K X.mg W (exS C (.app i e'))) := by
  obtain ⟨h1, h2, h3, h4⟩ := visOf_some hx
  have pv : PE X (.Name x px) (tVar i) := pe_var (by rw [w.hN]; exact h1) (by rw [w.sc]; exact h2) h3 h4
  refine PS.imp (ps_expr (pe_bm PySem.F.plainAttrs_list PySem.F.slot_list_append PySem.F.type_list_append mt_append pv (pa_cons he pa_nil (star_plain hp)) rfl (by rw [star_plain hp]; rfl) hl (star_plain hp) rfl)) fun Dn σ H ⟨m, en, S, er, sr, q⟩ => ?_
  unfold exS at q
  cases e0 : en[i]? with
  | none => rw [e0] at q; exact q.elim
  | some od =>
    rw [e0] at q
    cases od with
    | none => exact q.elim
    | some d =>
      cases d <;> try exact q.elim
      rename_i l
      obtain ⟨v, hv, rv⟩ := er.get i _ e0
      cases rv with
      | ref ea =>
        rename_i ad
        obtain ⟨xs, e1, q1⟩ := getM_bind (lift_post q er)
        obtain ⟨ws, h5, _⟩ := sr.lst_at e1 ea
        refine ⟨_, hv, .inl ⟨rfl, ws, SqL.of h5⟩, tG_use er sr q1 fun d m1 S1 H1 v g er1 sr1 q2 rx => ?_⟩
        have q3 := lift_post q2 er1
        unfold pushD at q3
        cases e2 : S1[l]? with
        | none => rw [e2] at q3; exact q3.elim
        | some o =>
          rw [e2] at q3
          cases o with
          | frz _ => exact q3.elim
          | lst ys =>
            dsimp only at q3
            split at q3
            · rename_i hlen
              obtain ⟨us, h6, rs⟩ := sr1.lst_at e2 (g.pre _ _ ea)
              refine ⟨ad, us, v, rfl, rfl, h6, by rw [← rs.length]; exact hlen, ?_⟩
              have gw : Gr m1 m1 H1 (upd H1 ad (.lst (us ++ [v]))) := Gr.write h6
              have sw := sr1.write e2 (g.pre _ _ ea) h6 (rs.append (.cons rx .nil))
              exact flow_nx sw (post_gr q3 gw sw) (er1.mono gw)
            · exact q3.elim
/-- x.extend(e) -/
theorem s_ext {x : Str} {px apos cpos : Pos} {i : Nat} (w : SOk X sc N C ft W) (hx : visOf sc N x = some i) (hl : (apos.endLine == cpos.line) = true) (hp : plainE e = true) (he : PE X e (tE X.K X.mg W (evE C e'))) :
    PS X (.Expr (.Call (.Attribute (.Name x px) "extend" apos) [e] [] cpos) pos) (tS X.K X.mg W (exS C (.ext i e'))) := by
  obtain ⟨h1, h2, h3, h4⟩ := visOf_some hx
  have pv : PE X (.Name x px) (tVar i) := pe_var (by rw [w.hN]; exact h1) (by rw [w.sc]; exact h2) h3 h4
  refine PS.imp (ps_expr (pe_bm PySem.F.plainAttrs_list PySem.F.slot_list_extend PySem.F.type_list_extend mt_extend pv (pa_cons he pa_nil (star_plain hp)) rfl (by rw [star_plain hp]; rfl) hl (star_plain hp) rfl)) fun Dn σ H ⟨m, en, S, er, sr, q⟩ => ?_
  unfold exS at q
  cases e0 : en[i]? with
  | none => rw [e0] at q; exact q.elim
  | some od =>
    rw [e0] at q
    cases od with
    | none => exact q.elim
    | some d =>
      cases d <;> try exact q.elim
      rename_i l
      obtain ⟨v, hv, rv⟩ := er.get i _ e0
      cases rv with
      | ref ea =>
        rename_i ad
        obtain ⟨xs, e1, q1⟩ := getM_bind (lift_post q er)
        obtain ⟨ws, h5, _⟩ := sr.lst_at e1 ea
        refine ⟨_, hv, .inl ⟨rfl, ws, SqL.of h5⟩, tG_use er sr q1 fun d m1 S1 H1 v g er1 sr1 q2 rx => ?_⟩
        have q3 := lift_post q2 er1
        cases rx <;> try exact (show False from q3).elim
        rename_i k bd eb
        obtain ⟨ys, e2, q4⟩ := getM_bind (show post _ _ _ _ ((getM l >>= fun xs => getM k >>= fun ys => if xs.length + ys.length ≤ sizeLine then setM l (xs ++ ys) else die) S1) _ from q3)
        obtain ⟨zs, e3, q5⟩ := getM_bind q4
        obtain ⟨us, h6, rs⟩ := sr1.lst_at e2 (g.pre _ _ ea)
        obtain ⟨ts, h7, rt⟩ := sr1.lst_at e3 eb
        by_cases hlen : ys.length + zs.length ≤ sizeLine
        · rw [if_pos hlen] at q5
          refine ⟨ad, bd, us, ts, rfl, rfl, h6, h7, by rw [← rs.length, ← rt.length]; exact hlen, ?_⟩
          have gw : Gr m1 m1 H1 (upd H1 ad (.lst (us ++ ts))) := Gr.write h6
          have sw := sr1.write e2 (g.pre _ _ ea) h6 (rs.append rt)
          exact flow_nx sw (post_gr (show post _ _ _ _ (R.ok () (S1.set l (.lst (ys ++ zs)))) _ from q5) gw sw) (er1.mono gw)
        · rw [if_neg hlen] at q5; exact q5.elim
/-- x.clear() -/
theorem s_clr {x : Str} {px apos cpos : Pos} {i : Nat} (w : SOk X sc N C ft W) (hx : visOf sc N x = some i) (hl : (apos.endLine == cpos.line) = true) :
    PS X (.Expr (.Call (.Attribute (.Name x px) "clear" apos) [] [] cpos) pos) (tS X.K X.mg W (exS C (.clr i))) := by
  obtain ⟨h1, h2, h3, h4⟩ := visOf_some hx
  have pv : PE X (.Name x px) (tVar i) := pe_var (by rw [w.hN]; exact h1) (by rw [w.sc]; exact h2) h3 h4
  refine PS.imp (ps_expr (pe_bm0 PySem.F.plainAttrs_list PySem.F.slot_list_clear PySem.F.type_list_clear mt_clear pv rfl hl) rfl) fun Dn σ H ⟨m, en, S, er, sr, q⟩ => ?_
  unfold exS at q
  cases e0 : en[i]? with
  | none => rw [e0] at q; exact q.elim
  | some od =>
    rw [e0] at q
    cases od with
    | none => exact q.elim
    | some d =>
      cases d <;> try exact q.elim
      rename_i l
      obtain ⟨v, hv, rv⟩ := er.get i _ e0
      cases rv with
      | ref ea =>
        rename_i ad
        obtain ⟨xs, e1, q1⟩ := getM_bind (f := fun xs => pure xs) (show post _ _ _ _ ((getM l >>= fun xs => (pure xs : M (List D))) S) _ from (by
          have : (getM l >>= fun xs => (pure xs : M (List D))) S = getM l S := by
            rw [bind_eq]
            cases getM l S <;> rfl
          rw [this]
          exact lift_post q er))
        obtain ⟨ws, h5, _⟩ := sr.lst_at e1 ea
        refine ⟨_, hv, .inl ⟨rfl, ws, SqL.of h5⟩, ad, ws, rfl, rfl, h5, ?_⟩
        have q2 := post_now sr (show post _ _ _ _ (R.ok xs S) _ from q1)
        have q3 := lift_post q2 er
        have gw : Gr m m H (upd H ad (.lst [])) := Gr.write h5
        have sw := sr.write e1 ea h5 .nil
        exact flow_nx sw (post_gr (show post _ _ _ _ (R.ok () (S.set l (.lst []))) _ from q3) gw sw) (er.mono gw)
/-- what x.pop() does -/
theorem pop_post {K : PySem.W.Frag} {mg : Str → Option Value} {m : List Addr} {en : NL.Env} {S : Store} {σ : L2.St} {H : Hp} {i : Nat} {k : D → M Flow} {Dn : Ends} (er : ER m H en σ) (sr : SR K m S H)
    (q : post K E0x m H ((match en[i]? with | some (some (.ref l)) => lift en (popM l) k | _ => die) S) (flowP mg W Dn)) :
    ∃ v, σ[i]? = some (some v) ∧ tyV K "list" v H ∧ rPop v [] H fun y H1 => ∃ S1 d, SR K m S1 H1 ∧ ER m H1 en σ ∧ Rep m H1 d y ∧ post K E0x m H1 (k d S1) (flowP mg W Dn) := by
  cases e0 : en[i]? with
  | none => rw [e0] at q; exact q.elim
  | some od =>
    rw [e0] at q
    cases od with
    | none => exact q.elim
    | some d =>
      cases d <;> try exact q.elim
      rename_i l
      obtain ⟨v, hv, rv⟩ := er.get i _ e0
      cases rv with
      | ref ea =>
        rename_i ad
        obtain ⟨xs, e1, q1⟩ := getM_bind (show post _ _ _ _ ((getM l >>= fun xs => match xs[xs.length - 1]? with
          | some d => fun S => .ok d (S.set l (.lst xs.dropLast))
          | none => die) S) _ from lift_post q er)
        obtain ⟨ws, h5, rs⟩ := sr.lst_at e1 ea
        cases e2 : xs[xs.length - 1]? with
        | none => rw [e2] at q1; exact q1.elim
        | some d =>
          rw [e2] at q1
          obtain ⟨y, h6, ry⟩ := rs.get e2
          have gw : Gr m m H (upd H ad (.lst ws.dropLast)) := Gr.write h5
          have rd : Reps m H xs.dropLast ws.dropLast := by
            have := rs.take (xs.length - 1)
            rw [← List.dropLast_eq_take, rs.length, ← List.dropLast_eq_take] at this
            exact this
          have sw := sr.write e1 ea h5 rd
          refine ⟨_, hv, .inl ⟨rfl, ws, SqL.of h5⟩, ad, ws, y, rfl, rfl, h5, by rw [← rs.length]; exact h6, _, d, sw, er.mono gw, Rep.mono gw _ _ ry, post_gr (show post _ _ _ _ (R.ok d (S.set l (.lst xs.dropLast))) _ from q1) gw sw⟩
theorem s_pop0 {x : Str} {px apos cpos : Pos} {i : Nat} (w : SOk X sc N C ft W) (hx : visOf sc N x = some i) (hl : (apos.endLine == cpos.line) = true) :
    PS X (.Expr (.Call (.Attribute (.Name x px) "pop" apos) [] [] cpos) pos) (tS X.K X.mg W (exS C (.popx none i))) := by
  obtain ⟨h1, h2, h3, h4⟩ := visOf_some hx
  have pv : PE X (.Name x px) (tVar i) := pe_var (by rw [w.hN]; exact h1) (by rw [w.sc]; exact h2) h3 h4
  refine PS.imp (ps_expr (pe_bm0 PySem.F.plainAttrs_list PySem.F.slot_list_pop PySem.F.type_list_pop mt_pop pv rfl hl) rfl) fun Dn σ H ⟨m, en, S, er, sr, q⟩ => ?_
  unfold exS at q
  obtain ⟨v, hv, ty, l, xs, y, e1, e2, e3, e4, S1, d, sr1, er1, ry, q1⟩ := pop_post er sr q
  exact ⟨v, hv, ty, l, xs, y, e1, e2, e3, e4, flow_nx sr1 q1 er1⟩
theorem s_pop1 {x y : Str} {px py apos cpos : Pos} {i j : Nat} (w : SOk X sc N C ft W) (hx : visOf sc N x = some i) (hy : locOf sc N y = some j) (hl : (apos.endLine == cpos.line) = true) :
    PS X (.Assign [.Name y py] (.Call (.Attribute (.Name x px) "pop" apos) [] [] cpos) pos) (tS X.K X.mg W (exS C (.popx (some (.nm j)) i))) := by
  obtain ⟨h1, h2, h3, h4⟩ := visOf_some hx
  obtain ⟨k1, k2, k3⟩ := w.put y j hy
  have pv : PE X (.Name x px) (tVar i) := pe_var (by rw [w.hN]; exact h1) (by rw [w.sc]; exact h2) h3 h4
  refine PS.imp (ps_set w.nd' k1 k2 (pe_bm0 PySem.F.plainAttrs_list PySem.F.slot_list_pop PySem.F.type_list_pop mt_pop pv rfl hl) rfl k3) fun Dn σ H ⟨m, en, S, er, sr, q⟩ => ?_
  unfold exS at q
  obtain ⟨v, hv, ty, l, xs, z, e1, e2, e3, e4, S1, d, sr1, er1, ry, q1⟩ := pop_post er sr q
  refine ⟨v, hv, ty, l, xs, z, e1, e2, e3, e4, ?_⟩
  have q2 := lift_post q1 er1
  have q3 := post_now sr1 (show post _ _ _ _ (R.ok (en.set j (some d)) S1) _ from q2)
  exact flow_nx sr1 q3 (er1.set ry j)
end
end NL

namespace NL
open PySem PySem.Spec PyProof.Rows L2
theorem anyS (vs : List Expr) (f : Expr → Bool) (h : ∀ e, f e = isStar e) : vs.any f = vs.any isStar := by rw [show f = isStar from funext h]
theorem fmS (ts : List Expr) (sc : Scope) (l : Nat) (f : Expr → Option Str) (h : ∀ e, f e = nmOf sc l e) : ts.filterMap f = ts.filterMap (nmOf sc l) := by rw [show f = nmOf sc l from funext h]
theorem swapped_eq {sc : Scope} {ts vs : List Expr} {r : Option (List Str)} {k k2 : Nat} {p p2 : Pos} {env : PySem.Env} (h : swP sc ts vs = some r) (hs : env.scope = sc) (hk : sc.kind = ScopeKind.function) :
    swappedStores [.Tuple ts k p] (.Tuple vs k2 p2) env = pure r := by
  have hb : env.blockKind = ScopeKind.function := by
    unfold Env.blockKind
    rw [hs, hk]
    rfl
  have hn : ∀ x, env.kindOf x = sc.names.lookup x := fun x => by unfold Env.kindOf; rw [hs]
  unfold swappedStores
  unfold swP at h
  simp only [hb, hn]
  rw [anyS vs _ (by intro e; cases e <;> rfl), fmS ts sc (lineOf ts) _ (by intro e; cases e <;> rfl)]
  split at h
  · rename_i c1
    cases h
    have : (!(ts.length == 2 || ts.length == 3) || vs.length != ts.length || (ScopeKind.function != ScopeKind.function)) = true := by rw [c1]; rfl
    rw [if_pos this]
  · rename_i c1
    have : ¬ (!(ts.length == 2 || ts.length == 3) || vs.length != ts.length || (ScopeKind.function != ScopeKind.function)) = true := by
      rw [Bool.or_eq_true]
      rintro (z | z)
      · exact c1 z
      · cases z
    rw [if_neg this]
    split at h
    · rename_i c2
      cases h
      rw [if_pos c2]
    · rename_i c2
      rw [if_neg c2]
      split at h
      · rename_i c3
        cases h
        rw [if_pos c3]
      · rename_i c3
        rw [if_neg c3]
        split at h
        · rename_i c4
          cases h
          rw [if_pos c4]
        · rename_i c4
          rw [if_neg c4]
          split at h
          · cases h
          · rename_i c5
            cases h
            rw [if_neg c5]
/-! ### stores -/
section
variable {X : Cx} {sc : Scope} {N : List Str} {C : Nat → List D → M D} {ft : FTab} {W : WX} {a b c e : Expr} {a' b' c' e' : E} {pos : Pos}
theorem unpD_ok {K : PySem.W.Frag} {Ex : Str → Option Nat → List Addr → Store → Hp → Prop} {m : List Addr} {H : Hp} {S : Store} {d : D} {n : Nat} {F : List D → List Addr → Store → Hp → Prop} (h : post K Ex m H (unpD n d S) F) : ∃ xs, unpD n d S = .ok xs S := by
  cases d <;> try exact (show False from h).elim
  · rename_i xs
    by_cases hc : xs.length = n
    · have e : unpD n (.tup xs) = pure xs := if_pos hc
      exact ⟨xs, by rw [e]; rfl⟩
    · have e : unpD n (.tup xs) = die := if_neg hc
      rw [e] at h
      exact (show False from h).elim
  · rename_i l
    have e : unpD n (.ref l) = getL l >>= fun xs => if xs.length = n then pure xs else die := rfl
    rw [e] at h ⊢
    obtain ⟨o, e0, h⟩ := getL_bind h
    have e2 : (getL l >>= fun xs => if xs.length = n then (pure xs : M (List D)) else die) S = (if (items o).length = n then (pure (items o) : M (List D)) else die) S := by
      rw [bind_eq]
      unfold getL
      rw [e0]
      rfl
    by_cases hc : (items o).length = n
    · rw [e2, if_pos hc]
      exact ⟨_, rfl⟩
    · rw [if_neg hc] at h
      exact (show False from h).elim
theorem bindT_tp {is : List Nat} {d : D} {en : NL.Env} {S : Store} {xs : List D} (h : unpD is.length d S = .ok xs S) : bindT (.tp is) d en S = .ok (NL.setAll en is xs) S := by
  show (unpD is.length d >>= fun ds => (pure (NL.setAll en is ds) : M NL.Env)) S = _
  rw [bind_eq, h]
  rfl
/-- a, b = e -/
theorem s_unpG {ts : List Expr} {is : List Nat} {k : Nat} {p : Pos} (w : SOk X sc N C ft W) (hn : namesOf (locOf sc N) ts = some is) (he : PE X e (tE X.K X.mg W (evE C e')))
    (hs : swapsWithSole [.Tuple ts k p] e pos.line X.env = pure false) (hw : swappedStores [.Tuple ts k p] e X.env = pure none) : PS X (.Assign [.Tuple ts k p] e pos) (tS X.K X.mg W (exS C (.unp is e'))) := by
  refine PS.imp (ps_asg he (g_of (t := .tp is) w.calm w.nd' w.put (by simp only [comTg]; rw [hn]; rfl)) hs hw rfl) fun Dn σ H ⟨m, en, S, er, sr, q⟩ => ?_
  unfold exS at q
  refine tG_use er sr (post_bind (lift_post q er)) fun d m1 S1 H1 v g er1 sr1 q1 rx => ?_
  obtain ⟨xs, hx⟩ := unpD_ok q1
  have hx' : unpD (List.length is) d S1 = .ok xs S1 := hx
  rw [show unpD is.length d S1 = .ok xs S1 from hx] at q1
  have q2 := post_now sr1 q1
  refine ⟨E0x, m1, en, S1, d, er1, sr1, rx, ?_⟩
  rw [bindT_tp hx']
  exact fun m' H' g' s' σ' er' _ => (post_gr (show post _ _ _ _ (R.ok (Flow.nx (NL.setAll en is xs)) S1) _ from q2) g' s') σ' er'
/-- o[i] = e -/
theorem s_setIx {o i : Expr} {o' i' : E} {p : Pos} (w : SOk X sc N C ft W) (hsl : isSlice i = false) (hp : plainE e = true) (ho : PE X o (tE X.K X.mg W (evE C o'))) (hi : PE X i (tE X.K X.mg W (evE C i'))) (he : PE X e (tE X.K X.mg W (evE C e'))) :
    PS X (.Assign [.Subscript o i p] e pos) (tS X.K X.mg W (exS C (.setIx o' i' e'))) := by
  have ha : ∀ v, assign (.Subscript o i p) X.env v = (do
      let ov ← holding [v] (eval o X.env)
      let iv ← holding [v, ov] (eval i X.env)
      standAt p
      holding [v, ov, iv] (setItem ov iv v)
      release [v, ov, iv] []) := by
    intro v
    cases i <;> first | rfl | exact absurd hsl (by intro z; cases z)
  refine PS.imp (ps_asg he (pg_sub ho hi set_list ha) (show swapsWith e (some (.Subscript o i p)) pos.line X.env = pure false from swaps_sub hp) rfl rfl) fun Dn σ H ⟨m, en, S, er, sr, q⟩ => ?_
  unfold exS at q
  refine tG_use er sr (post_bind (lift_post q er)) fun d m1 S1 H1 v g er1 sr1 q1 rx => ?_
  refine tG_use er1 sr1 (post_bind q1) fun x m2 S2 H2 u g2 er2 sr2 q2 ru => ?_
  refine tG_use er2 sr2 (post_bind q2) fun y m3 S3 H3 t g3 er3 sr3 q3 rt => ?_
  have q3 : post X.K (Wd X.mg W σ) m3 H3 (setIxD x y d S3) _ := q3
  have ru := Rep.mono g3 _ _ ru
  have rx := Rep.mono (g2.trans g3) _ _ rx
  cases ru <;> try exact (show False from q3).elim
  rename_i l ad ea _
  cases rt <;> try exact (show False from q3).elim
  rename_i n _
  obtain ⟨xs, e1, q4⟩ := getM_bind (show post _ _ _ _ ((getM _ >>= fun xs => match ixN xs.length n with
    | some j => fun S => .ok () (S.set _ (.lst (xs.set j d)))
    | none => die) S3) _ from q3)
  obtain ⟨vs, h5, rs⟩ := sr3.lst_at e1 ea
  cases e2 : ixN xs.length n with
  | none => rw [e2] at q4; exact q4.elim
  | some j =>
    rw [e2] at q4
    refine ⟨ad, vs, n, j, rfl, rfl, h5, by rw [← rs.length]; exact e2, ?_⟩
    have gw : Gr m3 m3 H3 (upd H3 ad (.lst (vs.set j v))) := Gr.write h5
    have sw := sr3.write e1 ea h5 (rs.set rx j)
    have q5 := post_gr (show post _ _ _ _ (R.ok () (S3.set l (.lst (xs.set j d)))) _ from q4) gw sw
    exact flow_nx sw q5 (er3.mono gw)
/-! ### loops -/
theorem loop_post {K : PySem.W.Frag} {mg : Str → Option Value} {W : WX} {Dn : Ends} {m : List Addr} {H : Hp} {S : Store} {f : M Flow} {k : NL.Env → M Flow} {Nn : L2.St → Hp → Prop} (h : post K E0x m H ((f >>= fun fl => match fl with
    | .nx en' => k en'
    | .cnt en' => k en'
    | .brk en' => pure (.nx en')
    | f => pure f) S) (flowP mg W Dn)) (hN : ∀ m' H' en S' σ, Gr m m' H H' → ER m' H' en σ → SR K m' S' H' → post K E0x m' H' (k en S') (flowP mg W Dn) → Nn σ H') :
    post K E0x m H (f S) (flowP mg W { Dn with nx := Nn, ct := Nn, bk := Dn.nx }) := by
  rw [bind_eq] at h
  cases e : f S with
  | ok fl S =>
    rw [e] at h
    intro m' H' g s
    cases fl with
    | nx en => exact fun σ er => hN m' H' en S σ g er s (post_later g (show post K E0x m H (k en S) _ from h))
    | cnt en => exact fun σ er => hN m' H' en S σ g er s (post_later g (show post K E0x m H (k en S) _ from h))
    | brk en => exact (show post K E0x m H (.ok (Flow.nx en) S) (flowP mg W Dn) from h) m' H' g s
    | ret d => exact (show post K E0x m H (.ok (Flow.ret d) S) (flowP mg W Dn) from h) m' H' g s
    | exc c d en => exact (show post K E0x m H (.ok (Flow.exc c d en) S) (flowP mg W Dn) from h) m' H' g s
  | exc c d S => rw [e] at h; exact h
  | stuck => rw [e] at h; exact h
theorem s_whl {sb : List Stmt} {b' : Sts} (w : SOk X sc N C ft W) (hc : PT X c (tT X.K X.mg W fun en => evE C c' en >>= truD)) (hb : PSs X sb (tS X.K X.mg W (exB C b'))) : PS X (.While c sb [] pos) (tS X.K X.mg W (exS C (.whl c' b'))) := by
  refine PS.imp (ps_while w.pass hc hb) fun Dn σ H ⟨m, en, S, er, sr, q⟩ => ?_
  unfold exS at q
  refine ⟨fun n σ H => ∃ m en S, ER m H en σ ∧ SR X.K m S H ∧ post X.K E0x m H (whlL (fun en' => evE C c' en' >>= truD) (fun en' => exB C b' en') n en S) (flowP X.mg W Dn), ⟨_, m, en, S, er, sr, q⟩, ?_⟩
  rintro n σ H ⟨m, en, S, er, sr, q⟩
  cases n with
  | zero => exact (show False from q).elim
  | succ n =>
    unfold whlL at q
    refine tG_use er sr (lift_post q er) fun t m1 S1 H1 v g er1 sr1 q1 rx => ?_
    subst rx
    cases v with
    | true =>
      rw [if_pos rfl] at q1 ⊢
      refine ⟨fun σ H => ∃ m en S, ER m H en σ ∧ SR X.K m S H ∧ post X.K E0x m H (whlL (fun en' => evE C c' en' >>= truD) (fun en' => exB C b' en') n en S) (flowP X.mg W Dn), fun σ' H' h => ⟨n, Nat.lt_succ_self n, h⟩, m1, en, S1, er1, sr1, ?_⟩
      exact loop_post q1 fun m' H' en S' σ g er s p => ⟨m', en, S', er, s, p⟩
    | false =>
      rw [if_neg Bool.false_ne_true] at q1 ⊢
      exact flow_nx sr1 q1 er1
theorem ckD_post {α : Type} {K : PySem.W.Frag} {Ex : Str → Option Nat → List Addr → Store → Hp → Prop} {m : List Addr} {H : Hp} {p : List (Nat × Ob)} {f : Unit → M α} {S : Store} {F : α → List Addr → Store → Hp → Prop} (h : post K Ex m H ((ckD p >>= f) S) F) : CkOk p S ∧ post K Ex m H (f () S) F := by
  rw [bind_eq] at h
  simp only [ckD] at h
  by_cases e : ∀ q ∈ p, S[q.1]? = some q.2
  · rw [if_pos e] at h; exact ⟨e, h⟩
  · rw [if_neg e] at h; exact h.elim
theorem s_for {tg it : Expr} {t : Tg} {i' : NL.It} {sb : List Stmt} {b' : Sts} (w : SOk X sc N C ft W) (hp : plainE it = true) (ht : comTg (locOf sc N) tg = some t) (hi : PI X tg it (tI X.K X.mg W (evIt C i'))) (hb : PSs X sb (tS X.K X.mg W (exB C b'))) :
    PS X (.For tg it sb [] pos) (tS X.K X.mg W (exS C (.for_ t i' b'))) := by
  refine PS.imp (ps_for w.pass w.calm hi (g_of w.calm w.nd' w.put ht) hb (fun x => folded_plain hp)) fun Dn σ H ⟨m, en, S, er, sr, q⟩ => ?_
  unfold exS at q
  refine ⟨m, en, S, er, sr, post_mono (lift_post q er) fun p m1 S1 H1 g1 sr1 q1 J gv => ?_⟩
  have er1 := er.mono g1
  refine ⟨fun i k σ H => ∃ mm en S, Gr m1 mm H1 H ∧ ER mm H en σ ∧ SR X.K mm S H ∧ i ≤ p.1.length ∧ k = p.1.length - i ∧ post X.K E0x mm H (forL (ckD p.2) (fun d en' => bindT t d en') (fun en' => exB C b' en') (p.1.drop i) en S) (flowP X.mg W Dn),
    ⟨_, m1, en, S1, Gr.refl _ _, er1, sr1, Nat.zero_le _, rfl, q1⟩, ?_⟩
  rintro i k σ2 H2 ⟨mm, en2, S2, gm, er2, sr2, hil, rfl, q2⟩
  by_cases hlt : i < p.1.length
  · right
    have hx : p.1[i]? = some p.1[i] := List.getElem?_eq_getElem hlt
    rw [List.drop_eq_getElem_cons hlt] at q2
    unfold forL at q2
    obtain ⟨ck, q3⟩ := ckD_post (lift_post q2 er2)
    have gi := (gv i mm S2 H2 gm sr2 ck).2 _ hx
    refine ⟨gi.1, fun σ H => ∃ mm en S, Gr m1 mm H1 H ∧ ER mm H en σ ∧ SR X.K mm S H ∧ post X.K E0x mm H (forL (ckD p.2) (fun d en' => bindT t d en') (fun en' => exB C b' en') (p.1.drop (i + 1)) en S) (flowP X.mg W Dn),
      fun σ' H' ⟨mm, en, S, h1, h2, h3, h4⟩ => ⟨p.1.length - (i + 1), by omega, mm, en, S, h1, h2, h3, hlt, rfl, h4⟩, fun x H' hy => ?_⟩
    obtain ⟨ga, sa, ra⟩ := gi.2 x H' hy
    refine ⟨_, mm, en2, S2, _, er2.mono ga, sa, ra, post_mono (post_later ga q3) fun en' m3 S3 H3 g3 s3 q4 σ' er' _ => ?_⟩
    refine ⟨m3, en', S3, er', s3, loop_post q4 fun m' H' en S' σ g er s pp => ⟨m', en, S', gm.trans (ga.trans (g3.trans g)), er, s, pp⟩⟩
  · left
    have e : i = p.1.length := by omega
    subst e
    rw [List.drop_length] at q2
    unfold forL at q2
    have q3 := lift_post q2 er2
    have ck : CkOk p.2 S2 := by
      simp only [ckD] at q3
      split at q3
      · rename_i e; exact e
      · exact q3.elim
    have q4 : post X.K E0x mm H2 ((pure (Flow.nx en2) : M Flow) S2) (flowP X.mg W Dn) := by
      simp only [ckD] at q3
      split at q3
      · exact post_now sr2 q3
      · exact q3.elim
    exact ⟨(gv _ mm S2 H2 gm sr2 ck).1 rfl, flow_nx sr2 q4 er2⟩
end
end NL

/-! Statements: what is read answers as the machine does. -/
namespace NL
open PySem PySem.Spec PyProof.Rows L2
section
variable {N : List Str} {C : Nat → List D → M D} {ft : FTab} {X : Cx} {sc : Scope} {W : WX}
theorem s_dead {s : Stmt} : PS X s (tS X.K X.mg W (exS C .dead)) := ⟨fun pins s σ H Dn I ⟨m, en, S, er, sr, q⟩ => by
  unfold exS at q
  exact q.elim⟩
theorem names_len {f : Str → Option Nat} : ∀ {es : List Expr} {is : List Nat}, namesOf f es = some is → es.length = is.length
  | [], _, h => by cases h; rfl
  | e :: es, is, h => by
    cases e <;> simp only [namesOf] at h <;> try cases h
    rename_i x p
    cases e1 : f x with
    | none => rw [e1] at h; cases h
    | some i =>
      cases e2 : namesOf f es with
      | none => rw [e1, e2] at h; cases h
      | some is' =>
        rw [e1, e2] at h
        cases h
        show _ + 1 = _ + 1
        rw [names_len e2]
theorem fm_len {α β : Type} (f : α → Option β) : ∀ ts : List α, (ts.filterMap f).length = ts.length → ∀ t ∈ ts, ∃ y, f t = some y
  | [], _, _, h => by cases h
  | t :: ts, hl, u, hu => by
    rw [List.filterMap_cons] at hl
    cases e : f t with
    | none =>
      rw [e] at hl
      have := List.length_filterMap_le f ts
      simp only [List.length_cons] at hl
      omega
    | some y =>
      rw [e] at hl
      rcases List.mem_cons.mp hu with rfl | hu
      · exact ⟨y, e⟩
      · exact fm_len f ts (by simpa using hl) u hu
theorem nmOf_some {l : Nat} {e : Expr} {x : Str} (h : nmOf sc l e = some x) : ∃ p, e = .Name x p ∧ sc.names.lookup x = some .local := by
  cases e <;> simp only [nmOf] at h <;> try cases h
  rename_i y p
  split at h
  · rename_i c
    cases h
    have key : ∀ o : Option NameKind, (o == some .local) = true → o = some .local := fun o h => by
      cases o with
      | none => cases h
      | some k => cases k <;> first | rfl | cases h
    exact ⟨p, rfl, key _ (Bool.and_eq_true_iff.mp c).1⟩
  · cases h
/-- what the right-to-left stores read -/
theorem swP_some {ts vs : List Expr} {nm : List Str} (h : swP sc ts vs = some (some nm)) : (ts.length = 2 ∨ ts.length = 3) ∧ vs.length = ts.length ∧ nm = ts.filterMap (nmOf sc (lineOf ts)) ∧ nm.length = ts.length := by
  unfold swP at h
  split at h
  · cases h
  · rename_i c1
    split at h
    · cases h
    · split at h
      · cases h
      · rename_i c3
        split at h
        · cases h
        · split at h
          · cases h
          · cases h
            simp only [Bool.or_eq_true, not_or, Bool.not_eq_true', bne_iff_ne, ne_eq, Decidable.not_not, beq_iff_eq, Bool.or_eq_false_iff, beq_eq_false_iff_ne, not_and] at c1 c3
            refine ⟨?_, c1.2, rfl, c3.1⟩
            have := c1.1
            omega
theorem s_unpV {s : Stmt} {is : List Nat} {es : Es} (h : PS X s (fun Dn σ H => tA X.K X.mg W (evEs C es) σ H fun vs H1 => vs.length = is.length ∧ Dn.nx (NL.setV σ is vs) H1)) : PS X s (tS X.K X.mg W (exS C (.unp is (.tup es)))) := by
  refine PS.imp h fun Dn σ H ⟨m, en, S, er, sr, q⟩ => ?_
  unfold exS evE at q
  have q0 := lift_post q er
  rw [bind_as] at q0
  refine tG_use er sr (post_bind q0) fun xs m1 S1 H1 vs g er1 sr1 q1 rx => ?_
  by_cases hz : xs.length ≤ sizeLine
  · rw [if_pos hz] at q1
    have q1 : post X.K (Wd X.mg W σ) m1 H1 (unpD is.length (.tup xs) S1) _ := q1
    by_cases hc : xs.length = is.length
    · have e : unpD is.length (.tup xs) = pure xs := if_pos hc
      rw [e] at q1
      exact ⟨by rw [← rx.length]; exact hc, flow_nx sr1 (post_now sr1 q1) (ER.setAll er1 rx)⟩
    · have e : unpD is.length (.tup xs) = die := if_neg hc
      rw [e] at q1
      exact q1.elim
  · rw [if_neg hz] at q1
    exact q1.elim
theorem two_of {α : Type} {xs : List α} (h : xs.length = 2) : ∃ a b, xs = [a, b] := by
  rcases xs with _ | ⟨a, _ | ⟨b, _ | ⟨c, xs⟩⟩⟩
  · cases h
  · cases h
  · exact ⟨a, b, rfl⟩
  · simp at h
theorem three_of {α : Type} {xs : List α} (h : xs.length = 3) : ∃ a b c, xs = [a, b, c] := by
  rcases xs with _ | ⟨a, _ | ⟨b, _ | ⟨c, _ | ⟨d, xs⟩⟩⟩⟩
  · cases h
  · cases h
  · cases h
  · exact ⟨a, b, c, rfl⟩
  · simp at h
theorem s_par {ts vs : List Expr} {nm : List Str} {is : List Nat} {es : Es} {k k2 : Nat} {p p2 pos : Pos} (w : SOk X sc N C ft W) (h : swP sc ts vs = some (some nm)) (hn : namesOf (locOf sc N) ts = some is) (nd : is.Nodup) (ha : PA X vs (tA X.K X.mg W (evEs C es))) :
    PS X (.Assign [.Tuple ts k p] (.Tuple vs k2 p2) pos) (tS X.K X.mg W (exS C (.unp is (.tup es)))) := by
  have hw := swapped_eq (k := k) (k2 := k2) (p := p) (p2 := p2) h w.sc w.kind
  obtain ⟨h1, h2, h3, h4⟩ := swP_some h
  have hlen := names_len hn
  have all := fm_len _ ts (by rw [← h3]; exact h4)
  have nmx : ∀ x i, locOf sc N x = some i → X.N[i]? = some x := fun x i hx => (w.put x i hx).1
  rcases h1 with h1 | h1
  · obtain ⟨t1, t2, rfl⟩ := two_of h1
    obtain ⟨a, b, rfl⟩ := two_of (h2.trans h1)
    obtain ⟨i, j, rfl⟩ := two_of (hlen.symm.trans h1)
    obtain ⟨x, ex⟩ := all t1 (by simp)
    obtain ⟨y, ey⟩ := all t2 (by simp)
    rw [List.filterMap_cons, ex, List.filterMap_cons, ey] at h3
    subst h3
    obtain ⟨px, rfl, lx⟩ := nmOf_some ex
    obtain ⟨py, rfl, ly⟩ := nmOf_some ey
    simp only [namesOf] at hn
    cases e1 : locOf sc N x with
    | none => rw [e1] at hn; cases hn
    | some i' =>
      cases e2 : locOf sc N y with
      | none => rw [e1, e2] at hn; cases hn
      | some j' =>
        rw [e1, e2] at hn
        cases hn
        have hij : i ≠ j := by simpa using nd
        refine s_unpV (PS.imp (ps_par w.calm w.nd' (nmx x i e1) (nmx y j e2) hij (by rw [w.sc]; exact lx) (by rw [w.sc]; exact ly) ha hw rfl) fun Dn σ H ⟨m, en, S, er, sr, q⟩ => ?_)
        refine ⟨m, en, S, er, sr, post_mono q fun xs m1 S1 H1 g s q1 vs rv => ?_⟩
        obtain ⟨hl, q2⟩ := q1 vs rv
        obtain ⟨u, v, rfl⟩ := two_of hl
        exact ⟨u, v, rfl, q2⟩
  · obtain ⟨t1, t2, t3, rfl⟩ := three_of h1
    obtain ⟨a, b, c, rfl⟩ := three_of (h2.trans h1)
    obtain ⟨i, j, l, rfl⟩ := three_of (hlen.symm.trans h1)
    obtain ⟨x, ex⟩ := all t1 (by simp)
    obtain ⟨y, ey⟩ := all t2 (by simp)
    obtain ⟨z, ez⟩ := all t3 (by simp)
    rw [List.filterMap_cons, ex, List.filterMap_cons, ey, List.filterMap_cons, ez] at h3
    subst h3
    obtain ⟨px, rfl, lx⟩ := nmOf_some ex
    obtain ⟨py, rfl, ly⟩ := nmOf_some ey
    obtain ⟨pz, rfl, lz⟩ := nmOf_some ez
    simp only [namesOf] at hn
    cases e1 : locOf sc N x with
    | none => rw [e1] at hn; cases hn
    | some i' =>
      cases e2 : locOf sc N y with
      | none => rw [e1, e2] at hn; cases hn
      | some j' =>
        cases e3 : locOf sc N z with
        | none => rw [e1, e2, e3] at hn; cases hn
        | some l' =>
          rw [e1, e2, e3] at hn
          cases hn
          have hne : i ≠ j ∧ i ≠ l ∧ j ≠ l := by
            simp only [List.nodup_cons, List.mem_cons, List.not_mem_nil, or_false, not_or] at nd
            exact ⟨nd.1.1, nd.1.2, nd.2.1⟩
          refine s_unpV (PS.imp (ps_par3 w.calm w.nd' (nmx x i e1) (nmx y j e2) (nmx z l e3) hne.1 hne.2.1 hne.2.2 (by rw [w.sc]; exact lx) (by rw [w.sc]; exact ly) (by rw [w.sc]; exact lz) ha hw rfl) fun Dn σ H ⟨m, en, S, er, sr, q⟩ => ?_)
          refine ⟨m, en, S, er, sr, post_mono q fun xs m1 S1 H1 g s q1 vs rv => ?_⟩
          obtain ⟨hl, q2⟩ := q1 vs rv
          obtain ⟨u, v, t, rfl⟩ := three_of hl
          exact ⟨u, v, t, rfl, q2⟩
theorem swapped_none {ts : List Expr} {e : Expr} {k : Nat} {p : Pos} {env : PySem.Env} (h : ∀ vs k2 p2, e ≠ .Tuple vs k2 p2) : swappedStores [.Tuple ts k p] e env = pure none := by
  cases e <;> first | rfl | exact absurd rfl (h _ _ _)
theorem sole_tup {ts : List Expr} {e : Expr} {k l : Nat} {p : Pos} {env : PySem.Env} (hp : plainE e = true) : swapsWithSole [.Tuple ts k p] e l env = pure false :=
  (show swapsWith e (some (.Tuple ts k p)) l env = pure false from swaps_tup hp)
theorem s_setA {x : Str} {px pos : Pos} {i n : Nat} {e : Expr} {e' : E} (w : SOk X sc N C ft W) (hx : locOf sc N x = some i) (hp : plainE e = true) (h : comE ft N n sc e = some e') : PS X (.Assign [.Name x px] e pos) (tS X.K X.mg W (exS C (.set i e'))) := by
  have he := (comE_ok n X sc W e e' w.toXOk h).1
  by_cases hc : isComp e = true
  · cases e <;> try cases hc
    rename_i elt gens scope p
    cases n with
    | zero => unfold comE at h; cases h
    | succ n =>
    obtain ⟨tg, it, ifs, rfl, own, wi, g, tt, te, hi, hb, hg, ht, hel, hs, k⟩ := comE_comp w.toXOk h
    obtain ⟨h1, h2, h3⟩ := w.put x i hx
    have fin : ∀ {t : TE}, PS X (.Assign [.Name x px] (.ListComp elt [⟨tg, it, ifs, 0⟩] scope p) pos) (tAsg t (gName i)) → (∀ σ H Q, tE X.K X.mg W (evE C e') σ H Q → t σ H Q) → PS X (.Assign [.Name x px] (.ListComp elt [⟨tg, it, ifs, 0⟩] scope p) pos) (tS X.K X.mg W (exS C (.set i e'))) := fun {t} h hk => by
      refine PS.imp h fun Dn σ H ⟨m, en, S, er, sr, q⟩ => ?_
      unfold exS at q
      refine hk σ H _ (tG_use er sr (lift_post q er) fun d m1 S1 H1 v g er1 sr1 q1 rx => ?_)
      exact flow_nx sr1 q1 (er1.set rx i)
    obtain ⟨b, hb2⟩ : ∃ b, swapsWith (.ListComp elt [⟨tg, it, ifs, 0⟩] scope p) (some (.Name x px)) pos.line X.env = pure b := ⟨_, rfl⟩
    cases b with
    | false => exact fin (ps_set w.nd' h1 h2 he hb2 h3) fun _ _ _ q => q
    | true =>
      by_cases hl : X.env.scope.names.lookup x = some .local
      · exact fin (ps_setLc w.calm w.nd' h1 hl hb2 hi hb hg ht hel hs) k
      · have : swapsWith (.ListComp elt [⟨tg, it, ifs, 0⟩] scope p) (some (.Name x px)) pos.line X.env = pure false := by
          have key : ∀ o : Option NameKind, ¬ o = some .local → (o == some .local) = false := fun o h => by
            cases o with
            | none => rfl
            | some k => cases k <;> first | rfl | exact absurd rfl h
          unfold swapsWith
          have e : (X.env.kindOf x == some .local) = false := key _ hl
          simp only [e]
          rw [Bool.and_false, Bool.false_and, Bool.false_and]
        exact fin (ps_set w.nd' h1 h2 he this h3) fun _ _ _ q => q
  · exact s_set w hx hp (by simpa using hc) he
theorem comSs_ok {f : Stmt → Option NL.St} : ∀ {ss : List Stmt} {r : Sts}, comS.comSs f ss = some r → (∀ s r, f s = some r → PS X s (tS X.K X.mg W (exS C r))) → PSs X ss (tS X.K X.mg W (exB C r))
  | [], _, h, _ => by cases h; exact s_nil
  | s :: ss, r, h, hf => by
    simp only [comS.comSs] at h
    cases e1 : f s with
    | none => rw [e1] at h; cases h
    | some a =>
      cases e2 : comS.comSs f ss with
      | none => rw [e1, e2] at h; cases h
      | some b =>
        rw [e1, e2] at h
        cases h
        exact s_cons (hf s a e1) (comSs_ok e2 hf)
theorem comS_ok (w : SOk X sc N C ft W) : ∀ (n : Nat) (s : Stmt) (s' : NL.St), comS ft N sc n s = some s' → PS X s (tS X.K X.mg W (exS C s')) := by
  intro n
  induction n with
  | zero => intro s s' h; unfold comS at h; cases h
  | succ n ih =>
    intro s s' h
    have ex : ∀ {e : Expr} {e' : E}, comE ft N n sc e = some e' → PE X e (tE X.K X.mg W (evE C e')) ∧ PT X e (tT X.K X.mg W fun en => evE C e' en >>= truD) ∧ plainE e = true := fun {e e'} h => ⟨(comE_ok n X sc W e e' w.toXOk h).1, (comE_ok n X sc W e e' w.toXOk h).2, comE_plain h⟩
    have many : ∀ {es : List Expr} {r : Es}, comL (comE ft N n sc) es = some r → PA X es (tA X.K X.mg W (evEs C r)) := fun {es r} hc => p_list hc fun x _ r hr => ⟨comE_plain hr, (ex hr).1⟩
    cases s with
    | Return v pos =>
      cases v with
      | none => simp only [comS] at h; cases h; exact s_ret0
      | some e =>
        simp only [comS] at h
        obtain ⟨e', he, rfl⟩ := Option.map_eq_some_iff.mp h
        exact s_ret (ex he).1
    | If c a b pos =>
      simp only [comS] at h
      split at h
      · rename_i c' a' b' e1 e2 e3
        cases h
        exact s_if (ex e1).2.1 (comSs_ok e2 ih) (comSs_ok e3 ih)
      · cases h
    | For tg it b orelse pos =>
      cases orelse with
      | cons _ _ => simp only [comS] at h; cases h
      | nil =>
        simp only [comS] at h
        split at h
        · rename_i t i b' e1 e2 e3
          cases h
          obtain ⟨hi, hp⟩ := i_of (tg := tg) w.toXOk e2 fun x r hr => ⟨(ex hr).2.2, (ex hr).1⟩
          exact s_for w hp e1 hi (comSs_ok e3 ih)
        · cases h
    | While c b orelse pos =>
      cases orelse with
      | cons _ _ => simp only [comS] at h; cases h
      | nil =>
        simp only [comS] at h
        split at h
        · rename_i c' b' e1 e2
          cases h
          exact s_whl w (ex e1).2.1 (comSs_ok e2 ih)
        · cases h
    | Break pos => simp only [comS] at h; cases h; exact s_brk
    | Continue pos => simp only [comS] at h; cases h; exact s_cnt
    | Pass pos => simp only [comS] at h; cases h; exact s_pass
    | Raise a b pos => simp only [comS] at h; cases h; exact s_dead
    | AugAssign tg op e pos =>
      cases tg <;> cases op <;> simp only [comS] at h <;> try cases h
      split at h
      · rename_i i e' e1 e2
        cases h
        exact s_aug w e1 (ex e2).1
      · cases h
    | Expr e pos =>
      have dflt : (if isComp e = true then none else (comE ft N n sc e).map NL.St.expr) = some s' → PS X (.Expr e pos) (tS X.K X.mg W (exS C s')) := fun h => by
        split at h
        · cases h
        · rename_i hc
          obtain ⟨e', he, rfl⟩ := Option.map_eq_some_iff.mp h
          exact s_expr (ex he).2.2 (by simpa using hc) (ex he).1
      unfold comS at h
      split at h
      all_goals try (cases h; done)
      all_goals try (exfalso; cases ‹Stmt.Expr e pos = _›; done)
      all_goals
        have hs := ‹Stmt.Expr e pos = _›
        injection hs with h1 h2
        subst h1
        subst h2
      · split at h
        · rename_i hm
          split at h
          · rename_i i e' e1 e2
            split at h
            · rename_i hm1
              cases h
              subst hm1
              exact s_app w e1 hm (ex e2).2.2 (ex e2).1
            · split at h
              · rename_i hm1
                cases h
                subst hm1
                exact s_ext w e1 hm (ex e2).2.2 (ex e2).1
              · cases h
          · cases h
        · cases h
      · split at h
        · rename_i i e1
          split at h
          · rename_i hm
            cases h
            obtain ⟨hm1, hm2⟩ := hm
            subst hm1
            exact s_pop0 w e1 hm2
          · split at h
            · rename_i hm
              cases h
              obtain ⟨hm1, hm2⟩ := hm
              subst hm1
              exact s_clr w e1 hm2
            · cases h
        · cases h
      · cases h; exact s_doc
      · exact dflt h
    | Assign ts e pos =>
      unfold comS at h
      split at h
      all_goals try (cases h; done)
      all_goals try (exfalso; cases ‹Stmt.Assign ts e pos = _›; done)
      all_goals
        have hs := ‹Stmt.Assign ts e pos = _›
        injection hs with h1 h2 h3
        subst h1
        subst h2
        subst h3
      · split at h
        · rename_i j i e1 e2
          split at h
          · rename_i hm
            cases h
            obtain ⟨hm1, hm2⟩ := hm
            subst hm1
            exact s_pop1 w e2 e1 hm2
          · cases h
        · cases h
      · split at h
        · rename_i i e' e1 e2
          cases h
          have hpl := (ex e2).2.2
          exact s_setA w e1 hpl e2
        · cases h
      · split at h
        · rename_i is es e1 e2 e3
          cases h
          have hE : ∀ k p, comE ft N (n + 1) sc (.Tuple _ k p) = some (.tup es) := fun k p => by simp only [comE]; rw [e3]; rfl
          exact s_unpG w e2 (comE_ok (n + 1) X sc W _ _ w.toXOk (hE _ _)).1 (sole_tup rfl) (swapped_eq e1 w.sc w.kind)
        · rename_i nm is es e1 e2 e3
          split at h
          · rename_i hc
            cases h
            exact s_par w e1 e2 hc.1 (many e3)
          · cases h
        · cases h
      · split at h
        · rename_i is e' e1 e2
          cases h
          have hpl := (ex e2).2.2
          refine s_unpG w e1 (ex e2).1 (sole_tup hpl) (swapped_none fun vs k2 p2 z => ?_)
          subst z
          rename_i hx _
          exact hx _ _ _ rfl
        · cases h
      · split at h
        · cases h
        · rename_i hc
          split at h
          · rename_i o' i' e' e1 e2 e3
            cases h
            exact s_setIx w (by simpa using hc) (ex e3).2.2 (ex e1).1 (ex e2).1 (ex e3).1
          · cases h
    | _ => simp only [comS] at h; cases h
end
end NL

/-! Defs, calls, the end of a law. -/
namespace NL
open PySem PySem.Spec PyProof.Rows L2
/-- a def of the program: its name, its text, its names (the parameters first), how it is read -/
structure Ent where
  name : Str
  st : Stmt
  N : List Str
  ps : List Str
  fn : Fn
def idxOf (x : Str) : List Ent → Option (Nat × Nat)
  | [] => none
  | e :: r => if e.name = x then some (0, e.ps.length) else (idxOf x r).map fun p => (p.1 + 1, p.2)
abbrev ftOf (tab : List Ent) : FTab := fun x => idxOf x tab
abbrev tabT (tab : List Ent) : Nat → Option Fn := fun i => (tab[i]?).map (·.fn)
theorem idxOf_some {x : Str} : ∀ {tab : List Ent} {i ar : Nat}, idxOf x tab = some (i, ar) → ∃ e, tab[i]? = some e ∧ e.name = x ∧ e.ps.length = ar
  | [], _, _, h => by cases h
  | e :: r, i, ar, h => by
    unfold idxOf at h
    split at h
    · rename_i hx
      cases h
      exact ⟨e, rfl, hx, rfl⟩
    · obtain ⟨⟨j, a⟩, hj, he⟩ := Option.map_eq_some_iff.mp h
      cases he
      obtain ⟨e', h1, h2, h3⟩ := idxOf_some hj
      exact ⟨e', by simpa using h1, h2, h3⟩
/-- the text reads so -/
structure EOk (ft : FTab) (e : Ent) : Prop where
  com : comF ft e.N e.st = some e.fn
  sc : FnScope e.N e.ps (defScope e.st)
  np : e.fn.np = e.ps.length
  nv : e.fn.nv = e.N.length
/-- it stands there -/
structure DAt (K : PySem.W.Frag) (mg : Str → Option Value) (e : Ent) (f : Addr) (fd : FuncData) : Prop where
  fn : Fun K e.name e.name e.st f fd
  mgf : mg e.name = some (.ref f)
  bind : ∀ us : List Value, us.length = e.ps.length → bindArgs fd ⟨us, []⟩ = pure (e.ps.zip us)
def DIn (K : PySem.W.Frag) (mg : Str → Option Value) (e : Ent) : Prop := ∃ f fd, DAt K mg e f fd
structure Blts (mg : Str → Option Value) : Prop where
  blt : ∀ b : Blt, mg b.name = none
  isi : mg "isinstance" = none
  rng : mg "range" = none
  enm : mg "enumerate" = none
  zip : mg "zip" = none
  rev : mg "reversed" = none
  ty : ∀ t : Ty, mg t.name = none
section
variable {P : Program} {w : World} {K : PySem.W.Frag} {mg : Str → Option Value} {base : Heap}
theorem ER.start {m : List Addr} {H : Hp} {ds : List D} {vs : List V} {N : List Str} {k : Nat} (r : Reps m H ds vs) (hl : ds.length = k) : ER m H (ds.map some ++ List.replicate (N.length - k) none) (L2.start N vs) := by
  subst hl
  refine ⟨by unfold L2.start; simp [r.length], fun i d h => ?_⟩
  unfold L2.start
  by_cases hi : i < ds.length
  · rw [List.getElem?_append_left (by simpa using hi), List.getElem?_map] at h
    rw [List.getElem?_append_left (by rw [List.length_map, ← r.length]; exact hi), List.getElem?_map]
    cases e : ds[i]? with
    | none => rw [e] at h; cases h
    | some d' =>
      rw [e] at h
      have h : some (some d') = some (some d) := h
      cases h
      obtain ⟨v, h1, h2⟩ := r.get e
      exact ⟨v, by rw [h1]; rfl, h2⟩
  · rw [List.getElem?_append_right (by simpa using Nat.le_of_not_lt hi), List.getElem?_replicate] at h
    split at h
    · cases h
    · cases h
theorem fn_ok {tab : List Ent} (hE : ∀ (i : Nat) (e : Ent), tab[i]? = some e → EOk (ftOf tab) e) (hD : ∀ (i : Nat) (e : Ent), tab[i]? = some e → DIn K mg e) (hb : Blts mg) :
    ∀ (n i : Nat) (e : Ent) (f : Addr) (fd : FuncData), tab[i]? = some e → DAt K mg e f fd → FnOk P w K mg base (L2.CX P w) n f fd e.ps (spM K mg e.ps.length (callT (tabT tab) n i)) := by
  intro n
  induction n with
  | zero =>
    intro i e f fd he dat
    have no : ∀ vs H Q E, ¬ spM K mg e.ps.length (callT (tabT tab) 0 i) vs H Q E := fun vs H Q E ⟨m, S, ds, h1, h2, h3, h4⟩ => h4
    exact ⟨fun vs H Q E h => absurd h (no vs H Q E), fun A outer s H args us vs Q E _ _ _ _ h => absurd h (no vs H Q E)⟩
  | succ n ih =>
    intro i e f fd he dat
    have ok := hE i e he
    refine dat.fn.okX ok.sc (fun vs H Q E ⟨m, S, ds, h1, h2, h3, h4⟩ => by rw [← h2.length, h3]) (fun cdv A outer s H vs Q E hr ⟨m, S, ds, h1, h2, h3, h4⟩ => ?_)
    have fo : FOk (cxOf (L2.CX P w) P w K mg base e.N e.name (defScope e.st) f cdv A outer s H E) (callT (tabT tab) n) (ftOf tab) := by
      refine ⟨fun g id ar hg => ?_, hb.blt, hb.isi, hb.rng, hb.enm, hb.zip, hb.rev, hb.ty⟩
      obtain ⟨e', q1, q2, q3⟩ := idxOf_some hg
      obtain ⟨a, fd', D'⟩ := hD id e' q1
      subst q2 q3
      exact ⟨a, fd', e'.ps, n, ih id e' a fd' q1 D', hr, D'.mgf, D'.fn.kp, .all D'.bind⟩
    have hcom := ok.com
    unfold comF at hcom
    split at hcom
    · rename_i b hb2
      have hfn : e.fn = ⟨(defArgs e.st).args.length, e.N.length, b⟩ := (Option.some.inj hcom).symm
      have hbody : e.fn.body = b := by rw [hfn]
      have w2 : SOk (cxOf (L2.CX P w) P w K mg base e.N e.name (defScope e.st) f cdv A outer s H E) (defScope e.st) e.N (callT (tabT tab) n) (ftOf tab) (fun cls d _ H => E cls d H) :=
        { hN := rfl, sc := rfl, nd := ok.sc.nd, calm := rfl, hu := (by
            have h := hr.un
            have e2 : (cxOf (L2.CX P w) P w K mg base e.N e.name (defScope e.st) f cdv A outer s H E).A = A.deeper (envOfC e.name (defScope e.st) s.heap.objs.size f cdv) := rfl
            rw [e2]
            omega),
          fo := fo, tk := takes_of rfl rfl rfl rfl, put := fun x j hx => ⟨(locOf_some hx).1, (locOf_some hx).2, .inl rfl⟩, pass := passes_of rfl, kind := ok.sc.kind }
      refine ⟨_, comSs_ok hb2 fun s0 r hr0 => comS_ok w2 _ s0 r hr0, m, _, S, ER.start h2 h3, h1, ?_⟩
      rw [show callT (tabT tab) (n + 1) i ds = runF (callT (tabT tab) n) e.fn ds by unfold callT; rw [show tabT tab i = some e.fn by unfold tabT; rw [he]; rfl]] at h4
      unfold runF at h4
      rw [if_pos (by rw [h3, ok.np])] at h4
      rw [ok.nv, ok.np, hbody] at h4
      cases er : exB (callT (tabT tab) n) b (ds.map some ++ List.replicate (e.N.length - e.ps.length) none) S with
      | stuck => rw [er] at h4; exact h4.elim
      | exc c d S1 => rw [er] at h4; exact h4.elim
      | ok fl S1 =>
        rw [er] at h4
        cases fl with
        | nx en => exact fun m' H' g sr σ er' => (show post K _ m H (.ok D.non S1) _ from h4) m' H' g sr _ .non
        | brk en => exact h4.elim
        | cnt en => exact h4.elim
        | ret d => exact fun m' H' g sr v rv => (show post K _ m H (.ok d S1) _ from h4) m' H' g sr v rv
        | exc c d en => exact fun m' H' g sr σ cls dd er' hx => (show post K _ m H (.exc c d S1) _ from h4) m' H' g sr cls dd hx
    · cases hcom
/-- THE END: the law's def answers True -/
theorem walk_nl {l : PySem.W.OpenLaw} {q : Program} {loose : List Str} {XP : (Str → Option Value) → Heap → Prop} {YP : World → Heap → Prop} {d : DefRec} {K : Params → PySem.W.Frag} {tab : List Ent} {n i : Nat} {e : Ent}
    (hn : l.most = some 63) (hdf : d.params.defaults = []) (hr : Room n callerA) (hY : ∀ (w : World) (h : Heap), YP w h → (K w.params).In h)
    (hi : tab[i]? = some e) (hnm : e.name = d.name) (hps : e.ps = [("_law_script" : Str)]) (hE : ∀ (i : Nat) (e : Ent), tab[i]? = some e → EOk (ftOf tab) e)
    (F : ∀ (w : World) (mg : Str → Option Value) (h : Heap), (K w.params).In h → h.Ns mainGlobals mg → Blts mg ∧ ∀ (i : Nat) (e : Ent), tab[i]? = some e → DIn (K w.params) mg e)
    (law : ∀ ns : List Int, ns.length ≤ 63 → (∀ z ∈ ns, Builtin.Int.intBits z ≤ 1048576) → ∃ S', callT (tabT tab) n i [.ref 0] [.frz (ns.map D.int)] = .ok (.bl true) S') :
    PySem.W.WalkO q loose XP YP l.row.toRowW d [] (fun f vs => PySem.call f vs) := by
  refine L2.walk_ofB (n := 63) (k := n) (x := "_law_script") (CX := fun w => L2.CX l.prog w) (sp := fun w vs H Q E => ∀ mg, spM (K w.params) mg 1 (callT (tabT tab) n i) vs H Q E) hn (by decide) hdf hr hY ?_ ?_ ?_
  · intro w mg fa h KX G hmg
    obtain ⟨hb, hD⟩ := F w mg h KX G
    obtain ⟨f0, fd0, D0⟩ := hD i e hi
    have hm0 := D0.mgf
    rw [hnm, hmg] at hm0
    cases hm0
    refine ⟨fd0, fun s u => ?_, fun base hK hN => ?_⟩
    · have hb1 := D0.bind [u] (by rw [hps]; rfl)
      rw [hps] at hb1
      exact .of_eq hb1
    · have G := fn_ok (P := l.prog) (w := w) (base := base) hE hD hb n i e _ _ hi D0
      rw [hps] at G
      exact G.imp fun vs H Q E h => h mg
  · intro w H a ns hlen hbits hO hS
    refine fun mg => ⟨[a], [.frz (ns.map D.int)], [.ref 0], ?_, .cons (.ref rfl) .nil, rfl, ?_⟩
    · refine ⟨rfl, fun l o b h1 h2 => ?_, fun l l' b o o' h1 h2 h3 h4 h5 h6 => ?_⟩
      · cases l with
        | succ l => simp at h1
        | zero =>
          cases h1
          cases h2
          refine ⟨ns.map V.int, ?_, Reps.ints ns⟩
          rcases hS with hS | hS
          · rcases hS with hS | ⟨ob, hS⟩
            · rcases hO a with h | ⟨o, xs, h⟩
              · rw [hS] at h; cases h
              · rw [hS] at h; cases h
            · exact .inl ⟨ob, hS⟩
          · exact .inr hS
      · cases l with
        | succ l => simp at h1
        | zero => cases h3; cases h5
    · obtain ⟨S', e⟩ := law ns hlen hbits
      rw [e]
      intro m' H' g s w hw
      cases hw
      rfl
  · intro w H s e s' h
    obtain ⟨_, _, _, _, _, _, _, _, _, _, _, _, z⟩ := h
    exact z.elim
end
end NL

/-! Values as trees, lists by value: a second reading above the store. -/
namespace VL
open PySem PySem.Spec PyProof.Rows L2 NL
/-- a value, all of it -/
inductive U where
  | non | bl (b : Bool) | int (i : Int) | str (x : Str) | tup (xs : List U) | lst (xs : List U) | frz (xs : List U)
  deriving Inhabited
inductive VR (α : Type) where
  | ok (a : α) | exc (c : Str) (u : U) | stuck
def VR.bind {α β : Type} (r : VR α) (f : α → VR β) : VR β := match r with
  | .ok a => f a
  | .exc c u => .exc c u
  | .stuck => .stuck
theorem VR.bind_ok {α β : Type} {r : VR α} {f : α → VR β} {b : β} (h : r.bind f = .ok b) : ∃ a, r = .ok a ∧ f a = .ok b := by
  cases r with
  | ok a => exact ⟨a, rfl, h⟩
  | exc c u => cases h
  | stuck => cases h
/-! ### a tree is read at a place of the store, past the places of B -/
mutual
inductive Rd (B : Nat → Prop) (S : Store) : D → U → Prop
  | non : Rd B S .non .non
  | bl (b : Bool) : Rd B S (.bl b) (.bl b)
  | int (i : Int) : Rd B S (.int i) (.int i)
  | str (x : Str) : Rd B S (.str x) (.str x)
  | tup {ds : List D} {us : List U} : Rds B S ds us → Rd B S (.tup ds) (.tup us)
  | lst {l : Nat} {xs : List D} {us : List U} : ¬ B l → S[l]? = some (.lst xs) → Rds B S xs us → Rd B S (.ref l) (.lst us)
  | frz {l : Nat} {xs : List D} {us : List U} : ¬ B l → S[l]? = some (.frz xs) → Rds B S xs us → Rd B S (.ref l) (.frz us)
inductive Rds (B : Nat → Prop) (S : Store) : List D → List U → Prop
  | nil : Rds B S [] []
  | cons {d : D} {u : U} {ds : List D} {us : List U} : Rd B S d u → Rds B S ds us → Rds B S (d :: ds) (u :: us)
end
mutual
theorem Rd.mono {B B' : Nat → Prop} {S S' : Store} (g : ∀ l o, ¬ B l → S[l]? = some o → ¬ B' l ∧ S'[l]? = some o) : ∀ {d : D} {u : U}, Rd B S d u → Rd B' S' d u
  | _, _, .non => .non
  | _, _, .bl b => .bl b
  | _, _, .int i => .int i
  | _, _, .str x => .str x
  | _, _, .tup r => .tup (Rds.mono g r)
  | _, _, .lst h1 h2 r => .lst (g _ _ h1 h2).1 (g _ _ h1 h2).2 (Rds.mono g r)
  | _, _, .frz h1 h2 r => .frz (g _ _ h1 h2).1 (g _ _ h1 h2).2 (Rds.mono g r)
theorem Rds.mono {B B' : Nat → Prop} {S S' : Store} (g : ∀ l o, ¬ B l → S[l]? = some o → ¬ B' l ∧ S'[l]? = some o) : ∀ {ds : List D} {us : List U}, Rds B S ds us → Rds B' S' ds us
  | _, _, .nil => .nil
  | _, _, .cons a r => .cons (Rd.mono g a) (Rds.mono g r)
end
/-- growing -/
def Gw (S S' : Store) : Prop := ∃ U, S' = S ++ U
theorem Gw.refl (S : Store) : Gw S S := ⟨[], by simp⟩
theorem Gw.trans {S S1 S2 : Store} (a : Gw S S1) (b : Gw S1 S2) : Gw S S2 := by
  obtain ⟨U, rfl⟩ := a
  obtain ⟨V, rfl⟩ := b
  exact ⟨U ++ V, by simp⟩
theorem Gw.get {S S' : Store} (g : Gw S S') {l : Nat} {o : Ob} (h : S[l]? = some o) : S'[l]? = some o := by
  obtain ⟨U, rfl⟩ := g
  rw [List.getElem?_append_left (List.getElem?_eq_some_iff.mp h).1]
  exact h
theorem Gw.len {S S' : Store} (g : Gw S S') : S.length ≤ S'.length := by
  obtain ⟨U, rfl⟩ := g
  simp
theorem Gw.app {S U : Store} : Gw S (S ++ U) := ⟨U, rfl⟩
theorem lt_of_get {S : Store} {l : Nat} {o : Ob} (h : S[l]? = some o) : l < S.length := (List.getElem?_eq_some_iff.mp h).1
section
variable {B : Nat → Prop} {S S' : Store}
theorem Rd.gw (g : Gw S S') {d : D} {u : U} (r : Rd B S d u) : Rd B S' d u := r.mono fun l o h1 h2 => ⟨h1, g.get h2⟩
theorem Rds.gw (g : Gw S S') {ds : List D} {us : List U} (r : Rds B S ds us) : Rds B S' ds us := r.mono fun l o h1 h2 => ⟨h1, g.get h2⟩
theorem Rds.length : ∀ {ds : List D} {us : List U}, Rds B S ds us → ds.length = us.length
  | _, _, .nil => rfl
  | _, _, .cons _ t => by rw [List.length_cons, List.length_cons, Rds.length t]
theorem Rds.get : ∀ {ds : List D} {us : List U} {i : Nat} {u : U}, Rds B S ds us → us[i]? = some u → ∃ d, ds[i]? = some d ∧ Rd B S d u
  | _, _, i, u, .nil, e => by simp at e
  | _, _, 0, u, .cons r _, e => by simp at e; subst e; exact ⟨_, rfl, r⟩
  | _, _, i + 1, u, .cons _ t, e => by
    obtain ⟨v, h1, h2⟩ := Rds.get (i := i) t (by simpa using e)
    exact ⟨v, by simpa using h1, h2⟩
theorem Rds.append : ∀ {ds es : List D} {us vs : List U}, Rds B S ds us → Rds B S es vs → Rds B S (ds ++ es) (us ++ vs)
  | _, _, _, _, .nil, s => s
  | _, _, _, _, .cons r t, s => .cons r (Rds.append t s)
theorem Rds.take : ∀ {ds : List D} {us : List U} (n : Nat), Rds B S ds us → Rds B S (ds.take n) (us.take n)
  | _, _, 0, _ => by rw [List.take_zero, List.take_zero]; exact .nil
  | _, _, _ + 1, .nil => by rw [List.take_nil, List.take_nil]; exact .nil
  | _, _, n + 1, .cons r t => by rw [List.take_succ_cons, List.take_succ_cons]; exact .cons r (Rds.take n t)
theorem Rds.drop : ∀ {ds : List D} {us : List U} (n : Nat), Rds B S ds us → Rds B S (ds.drop n) (us.drop n)
  | _, _, 0, r => r
  | _, _, _ + 1, .nil => by rw [List.drop_nil, List.drop_nil]; exact .nil
  | _, _, n + 1, .cons _ t => by rw [List.drop_succ_cons, List.drop_succ_cons]; exact Rds.drop n t
theorem Rds.reverse : ∀ {ds : List D} {us : List U}, Rds B S ds us → Rds B S ds.reverse us.reverse
  | _, _, .nil => .nil
  | _, _, .cons r t => by rw [List.reverse_cons, List.reverse_cons]; exact Rds.append (Rds.reverse t) (.cons r .nil)
theorem Rds.set {d : D} {u : U} (r : Rd B S d u) : ∀ {ds : List D} {us : List U} (i : Nat), Rds B S ds us → Rds B S (ds.set i d) (us.set i u)
  | _, _, _, .nil => .nil
  | _, _, 0, .cons _ t => .cons r t
  | _, _, i + 1, .cons q t => .cons q (Rds.set r i t)
theorem Rds.flat_rep {ds : List D} {us : List U} (r : Rds B S ds us) : ∀ n : Nat, Rds B S (List.replicate n ds).flatten (List.replicate n us).flatten
  | 0 => .nil
  | n + 1 => by
    rw [List.replicate_succ, List.replicate_succ, List.flatten_cons, List.flatten_cons]
    exact r.append (Rds.flat_rep r n)
end
/-! ### no list within -/
mutual
def noL : U → Bool
  | .lst _ => false
  | .frz _ => false
  | .tup xs => noLs xs
  | _ => true
def noLs : List U → Bool
  | [] => true
  | x :: r => noL x && noLs r
end
mutual
theorem Rd.of_noL {B B' : Nat → Prop} {S S' : Store} : ∀ {d : D} {u : U}, Rd B S d u → noL u = true → Rd B' S' d u
  | _, _, .non, _ => .non
  | _, _, .bl b, _ => .bl b
  | _, _, .int i, _ => .int i
  | _, _, .str x, _ => .str x
  | _, _, .tup r, h => .tup (Rds.of_noL r (by unfold noL at h; exact h))
  | _, _, .lst _ _ _, h => by unfold noL at h; exact absurd h Bool.false_ne_true
  | _, _, .frz _ _ _, h => by unfold noL at h; exact absurd h Bool.false_ne_true
theorem Rds.of_noL {B B' : Nat → Prop} {S S' : Store} : ∀ {ds : List D} {us : List U}, Rds B S ds us → noLs us = true → Rds B' S' ds us
  | _, _, .nil, _ => .nil
  | _, _, .cons a r, h => by
    unfold noLs at h
    rw [Bool.and_eq_true] at h
    exact .cons (Rd.of_noL a h.1) (Rds.of_noL r h.2)
end
/-! ### as plain data, in order -/
def pdU : Nat → U → Option PyData
  | _, .non => some .none
  | _, .bl b => some (.bool b)
  | _, .int i => some (.int i)
  | _, .str x => if PyData.strOk x = true then some (.str x) else none
  | 0, .tup _ => none
  | 0, .lst _ => none
  | 0, .frz _ => none
  | k + 1, .tup xs => (mapO (pdU k) xs).map .tuple
  | k + 1, .lst xs => (mapO (pdU k) xs).map .list
  | k + 1, .frz xs => (mapO (pdU k) xs).map .list
theorem Rds.mapO {B : Nat → Prop} {S : Store} {α : Type} {f : D → Option α} {g : U → Option α} (h : ∀ d u, Rd B S d u → f d = g u) : ∀ {ds : List D} {us : List U}, Rds B S ds us → NL.mapO f ds = NL.mapO g us
  | _, _, .nil => rfl
  | _, _, .cons a r => by
    unfold NL.mapO
    rw [h _ _ a, Rds.mapO h r]
theorem pd_rd {B : Nat → Prop} {S : Store} : ∀ (k : Nat) (d : D) (u : U), Rd B S d u → pd S k d = pdU k u
  | 0, d, u, h => by cases h <;> rfl
  | k + 1, d, u, h => by
    cases h with
    | tup r => unfold pd pdU; rw [Rds.mapO (pd_rd k) r]
    | lst h1 h2 r =>
      unfold pd pdU
      rw [h2]
      show (NL.mapO (pd S k) _).map _ = _
      rw [← Rds.mapO (pd_rd k) r]; rfl
    | frz h1 h2 r =>
      unfold pd pdU
      rw [h2]
      show (NL.mapO (pd S k) _).map _ = _
      rw [← Rds.mapO (pd_rd k) r]; rfl
    | _ => rfl
/-- .. without lists -/
def pdT : Nat → U → Option PyData
  | _, .non => some .none
  | _, .bl b => some (.bool b)
  | _, .int i => some (.int i)
  | _, .str x => if PyData.strOk x = true then some (.str x) else none
  | 0, .tup _ => none
  | _, .lst _ => none
  | _, .frz _ => none
  | k + 1, .tup xs => (mapO (pdT k) xs).map .tuple
theorem pd_rdT {B : Nat → Prop} {S : Store} : ∀ (k : Nat) (d : D) (u : U), Rd B S d u → pd [] k d = pdT k u
  | 0, d, u, h => by cases h <;> first | rfl | (unfold pdT; rfl)
  | k + 1, d, u, h => by
    cases h with
    | tup r => unfold pd pdT; rw [Rds.mapO (pd_rdT k) r]
    | lst h1 h2 r => unfold pd pdT; simp
    | frz h1 h2 r => unfold pd pdT; simp
    | _ => rfl
def eqU (x y : U) : Option Bool := match pdU 12 x, pdU 12 y with
  | some p, some q => some (PyData.eqv p q)
  | _, _ => none
def eqT (x y : U) : Option Bool := match pdT 12 x, pdT 12 y with
  | some p, some q => some (PyData.eqv p q)
  | _, _ => none
section
variable {B : Nat → Prop} {S : Store} {d e : D} {x y : U}
theorem eq_rd (r : Rd B S d x) (q : Rd B S e y) : eqD S d e = eqU x y := by
  unfold eqD eqU
  rw [pd_rd 12 d x r, pd_rd 12 e y q] <;> rfl
theorem eq_rdT (r : Rd B S d x) (q : Rd B S e y) : eqD [] d e = eqT x y := by
  unfold eqD eqT
  rw [pd_rdT 12 d x r, pd_rdT 12 e y q] <;> rfl
def lexU (o : Cop) (f : U → U → Option Bool) : List U → List U → Option Bool
  | [], [] => some (ord4 o 0 0)
  | [], _ :: _ => some (ord4 o 0 1)
  | _ :: _, [] => some (ord4 o 1 0)
  | x :: xs, y :: ys => match eqT x y with
    | some true => lexU o f xs ys
    | some false => f x y
    | none => none
def ordC (f : U → U → Option Bool) (p : U × U) : Bool := match eqT p.1 p.2 with
  | some true => true
  | some false => (f p.1 p.2).isSome
  | none => false
def ordU (o : Cop) : Nat → U → U → Option Bool
  | _, .int i, .int j => some (ord4 o i j)
  | k + 1, .tup xs, .tup ys => if (xs.zip ys).all (ordC (ordU o k)) = true then lexU o (ordU o k) xs ys else none
  | _, _, _ => none
theorem lex_rd {o : Cop} {f : D → D → Option Bool} {g : U → U → Option Bool} (h : ∀ d e x y, Rd B S d x → Rd B S e y → f d e = g x y) : ∀ {ds es : List D} {xs ys : List U}, Rds B S ds xs → Rds B S es ys → lexO o f ds es = lexU o g xs ys
  | _, _, _, _, .nil, .nil => rfl
  | _, _, _, _, .nil, .cons _ _ => rfl
  | _, _, _, _, .cons _ _, .nil => rfl
  | _, _, _, _, .cons a r, .cons b s => by
    unfold lexO lexU
    rw [eq_rdT a b, lex_rd h r s, h _ _ _ _ a b] <;> rfl
theorem all_rd {f : D × D → Bool} {g : U × U → Bool} (h : ∀ d e x y, Rd B S d x → Rd B S e y → f (d, e) = g (x, y)) : ∀ {ds es : List D} {xs ys : List U}, Rds B S ds xs → Rds B S es ys → (ds.zip es).all f = (xs.zip ys).all g
  | _, _, _, _, .nil, _ => by simp
  | _, _, _, _, .cons _ _, .nil => by simp
  | _, _, _, _, .cons a r, .cons b s => by
    rw [List.zip_cons_cons, List.zip_cons_cons, List.all_cons, List.all_cons, h _ _ _ _ a b, all_rd h r s]
theorem ite2 {a b : Bool} {x y : Option Bool} (h : a = b) (k : x = y) : (if a = true then x else none) = if b = true then y else none := by rw [h, k]
theorem ord_rd (o : Cop) : ∀ (k : Nat) (d e : D) (x y : U), Rd B S d x → Rd B S e y → ordD o k d e = ordU o k x y
  | 0, d, e, x, y, r, q => by cases r <;> cases q <;> first | rfl | (unfold ordD ordU; rfl)
  | k + 1, d, e, x, y, r, q => by
    cases r with
    | tup r =>
      cases q with
      | tup q =>
        have e1 := all_rd (f := fun p => match eqD [] p.1 p.2 with | some true => true | some false => (ordD o k p.1 p.2).isSome | none => false) (g := ordC (ordU o k)) (fun d e x y a b => by
          show (match eqD [] d e with | some true => true | some false => (ordD o k d e).isSome | none => false) = (match eqT x y with | some true => true | some false => (ordU o k x y).isSome | none => false)
          rw [eq_rdT a b, ord_rd o k d e x y a b]) r q
        have e2 := lex_rd (o := o) (fun d e x y a b => ord_rd o k d e x y a b) r q
        unfold ordD ordU
        exact ite2 e1 e2
      | _ => unfold ordD ordU; rfl
    | int i =>
      cases q <;> first | rfl | (unfold ordD ordU; rfl)
    | _ => cases q <;> first | rfl | (unfold ordD ordU; rfl)
end
end VL

/-! Operations on trees. -/
namespace VL
open PySem PySem.Spec PyProof.Rows L2 NL
def Bnd (B : Nat → Prop) (S : Store) : Prop := ∀ l, B l → l < S.length
theorem Bnd.gw {B : Nat → Prop} {S S' : Store} (b : Bnd B S) (g : Gw S S') : Bnd B S' := fun l h => Nat.lt_of_lt_of_le (b l h) g.len
/-- an answer is read so -/
def Ok1 (B : Nat → Prop) (S : Store) (r : R D) (u : U) : Prop := ∃ d S1, r = .ok d S1 ∧ Gw S S1 ∧ Rd B S1 d u
/-- a new list -/
def FrD (B : Nat → Prop) (b : Nat) (S1 : Store) (d : D) (u : U) : Prop := ∃ l xs us, d = .ref l ∧ b ≤ l ∧ u = .lst us ∧ S1[l]? = some (.lst xs) ∧ Rds (fun k => B k ∨ k = l) S1 xs us
/-- .. which is new where it is a list -/
def OkF (B : Nat → Prop) (S : Store) (r : R D) (u : U) : Prop := ∃ d S1, r = .ok d S1 ∧ Gw S S1 ∧ Rd B S1 d u ∧ ((∃ us, u = .lst us) → FrD B S.length S1 d u)
section
variable {B : Nat → Prop} {S : Store}
theorem OkF.ok1 {r : R D} {u : U} (h : OkF B S r u) : Ok1 B S r u := by
  obtain ⟨d, S1, h1, h2, h3, _⟩ := h
  exact ⟨d, S1, h1, h2, h3⟩
theorem OkF.now {d : D} {u : U} (r : Rd B S d u) (h : ∀ us, u ≠ .lst us) : OkF B S (.ok d S) u := ⟨d, S, rfl, .refl S, r, fun ⟨us, e⟩ => absurd e (h us)⟩
theorem OkF.new (b : Bnd B S) {ds : List D} {us : List U} (r : Rds B S ds us) : OkF B S (NL.alloc (.lst ds) S) (.lst us) := by
  have nb : ¬ B S.length := fun h => Nat.lt_irrefl _ (b _ h)
  have e : (S ++ [Ob.lst ds])[S.length]? = some (.lst ds) := by simp
  refine ⟨.ref S.length, S ++ [.lst ds], rfl, .app, .lst nb e (r.gw .app), fun _ => ⟨S.length, ds, us, rfl, Nat.le_refl _, rfl, e, ?_⟩⟩
  refine r.mono fun l o h1 h2 => ⟨?_, Gw.get .app h2⟩
  rintro (h | h)
  · exact h1 h
  · have := lt_of_get h2; omega
theorem FrD.gw {b : Nat} {S1 S2 : Store} {d : D} {u : U} (h : FrD B b S1 d u) (g : Gw S1 S2) : FrD B b S2 d u := by
  obtain ⟨l, xs, us, h1, h2, h3, h4, h5⟩ := h
  exact ⟨l, xs, us, h1, h2, h3, g.get h4, h5.gw g⟩
theorem FrD.le {b b' : Nat} {S1 : Store} {d : D} {u : U} (h : FrD B b S1 d u) (g : b' ≤ b) : FrD B b' S1 d u := by
  obtain ⟨l, xs, us, h1, h2, h3⟩ := h
  exact ⟨l, xs, us, h1, Nat.le_trans g h2, h3⟩
theorem OkF.gw {S1 : Store} {r : R D} {u : U} (g : Gw S S1) (h : OkF B S1 r u) : OkF B S r u := by
  obtain ⟨d, S2, h1, h2, h3, h4⟩ := h
  exact ⟨d, S2, h1, g.trans h2, h3, fun e => (h4 e).le g.len⟩
theorem Ok1.gw {S1 : Store} {r : R D} {u : U} (g : Gw S S1) (h : Ok1 B S1 r u) : Ok1 B S r u := by
  obtain ⟨d, S2, h1, h2, h3⟩ := h
  exact ⟨d, S2, h1, g.trans h2, h3⟩
theorem getL_rd {l : Nat} {us : List U} (r : Rd B S (.ref l) (.lst us)) : ∃ ds, getL l S = .ok ds S ∧ Rds B S ds us := by
  cases r with
  | lst h1 h2 h3 => exact ⟨_, by unfold getL; rw [h2]; rfl, h3⟩
theorem getL_fz {l : Nat} {us : List U} (r : Rd B S (.ref l) (.frz us)) : ∃ ds, getL l S = .ok ds S ∧ Rds B S ds us := by
  cases r with
  | frz h1 h2 h3 => exact ⟨_, by unfold getL; rw [h2]; rfl, h3⟩
/-- the items of a list or of a tuple -/
def sqU : U → Option (List U)
  | .lst xs => some xs
  | .frz xs => some xs
  | _ => none
theorem sq_rd {d : D} {u : U} {us : List U} (r : Rd B S d u) (h : sqU u = some us) : ∃ l ds, d = .ref l ∧ getL l S = .ok ds S ∧ Rds B S ds us := by
  cases r <;> first | (cases h; done) | skip
  · rename_i l xs vs h1 h2 h3
    cases h
    obtain ⟨ds, g1, g2⟩ := getL_rd (Rd.lst h1 h2 h3)
    exact ⟨l, ds, rfl, g1, g2⟩
  · rename_i l xs vs h1 h2 h3
    cases h
    obtain ⟨ds, g1, g2⟩ := getL_fz (Rd.frz h1 h2 h3)
    exact ⟨l, ds, rfl, g1, g2⟩
end
open Classical in
noncomputable def binU : Bop → U → U → VR U
  | .add, .int i, .int j => .ok (.int (i + j))
  | .add, .lst xs, .lst ys => if xs.length + ys.length ≤ sizeLine then .ok (.lst (xs ++ ys)) else .stuck
  | .sub, .int i, .int j => .ok (.int (i - j))
  | .mul, .int i, .int j => if MulOk i j then .ok (.int (i * j)) else .stuck
  | .mul, .lst xs, .int n => if -(2 ^ 63) ≤ n ∧ n < 2 ^ 63 ∧ xs.length * n.toNat ≤ sizeLine then .ok (.lst (List.replicate n.toNat xs).flatten) else .stuck
  | .fdiv, .int i, .int j => if j ≠ 0 ∧ j.natAbs.log2 < 9000 then .ok (.int (i.fdiv j)) else .stuck
  | .mod, .int i, .int j => if j ≠ 0 then .ok (.int (i.fmod j)) else .stuck
  | .pow, .int i, .int j => if 0 ≤ j ∧ (Builtin.Int.intBits i : Int) * j ≤ 2 ^ 27 then .ok (.int (i ^ j.toNat)) else .stuck
  | _, _, _ => .stuck
def negU : U → VR U
  | .int i => .ok (.int (-i))
  | _ => .stuck
def isU : U → U → Option Bool
  | x, .non => some (match x with | .non => true | _ => false)
  | x, .bl b => some (match x with | .bl c => b == c | _ => false)
  | _, _ => none
def inU (x y : U) : Option Bool :=
  match y with
  | .tup ys => (match pdU 12 x, mapO (pdU 12) ys with
    | some p, some qs => some (qs.any fun q => PyData.eqv q p)
    | _, _ => none)
  | y => (match sqU y with
    | some ys => (match pdU 12 x, mapO (pdU 12) ys with
      | some p, some qs => some (qs.any fun q => PyData.eqv q p)
      | _, _ => none)
    | none => none)
def ofU (b : Option Bool) : VR U := match b with
  | some b => .ok (.bl b)
  | none => .stuck
def cmpU : Cop → U → U → VR U
  | .eq, x, y => ofU (eqU x y)
  | .ne, x, y => ofU ((eqU x y).map (!·))
  | .isIn, x, y => ofU (inU x y)
  | .notIn, x, y => ofU ((inU x y).map (!·))
  | .is_, x, y => ofU (isU x y)
  | .isNot, x, y => ofU ((isU x y).map (!·))
  | o, x, y => ofU (ordU o 12 x y)
def ixU : U → U → VR U
  | .tup xs, .int i => match atI xs i with | some d => .ok d | none => .stuck
  | x, .int i => match sqU x with
    | some xs => (match atI xs i with | some d => .ok d | none => .stuck)
    | none => .stuck
  | _, _ => .stuck
def truU : U → VR Bool
  | .bl b => .ok b
  | _ => .stuck
def bndU : Bool → U → VR (Option Int)
  | false, _ => .ok none
  | true, .int i => .ok (some i)
  | _, _ => .stuck
def cutU (xs : List U) (lo hi : Option Int) : List U := (xs.drop (HT.sIx xs.length 0 lo)).take (HT.sIx xs.length xs.length hi - HT.sIx xs.length 0 lo)
def slcU (x : U) (lo hi : Option Int) : VR U := match sqU x with
  | some xs => .ok (.lst (cutU xs lo hi))
  | none => .stuck
def intsU : List U → Option (List Int)
  | [] => some []
  | .int i :: r => (intsU r).map (i :: ·)
  | _ => none
def bestU (o : Cop) (xs : List U) : Option U :=
  if (xs.all fun x => xs.all fun y => (ordU o 12 x y).isSome) = true then xs[argBest (fun i j => (ordU o 12 (xs.getD i .non) (xs.getD j .non)).getD false) (xs.length - 1)]? else none
def optU (u : Option U) : VR U := match u with
  | some u => .ok u
  | none => .stuck
def mnU (o : Cop) : List U → VR U
  | [.tup xs] => optU (bestU o xs)
  | [x] => match sqU x with
    | some xs => optU (bestU o xs)
    | none => .stuck
  | [a, b] => optU (bestU o [a, b])
  | [a, b, c] => optU (bestU o [a, b, c])
  | [a, b, c, d] => optU (bestU o [a, b, c, d])
  | _ => .stuck
mutual
def toD : U → D
  | .non => .non | .bl b => .bl b | .int i => .int i | .str x => .str x
  | .tup xs => .tup (toDs xs)
  | _ => .non
def toDs : List U → List D
  | [] => []
  | x :: r => toD x :: toDs r
end
mutual
def bkD : D → U
  | .non => .non | .bl b => .bl b | .int i => .int i | .str x => .str x
  | .tup xs => .tup (bkDs xs)
  | _ => .non
def bkDs : List D → List U
  | [] => []
  | x :: r => bkD x :: bkDs r
end
mutual
theorem of_to : ∀ {u : U}, noL u = true → bkD (toD u) = u
  | .non, _ => by unfold toD bkD; rfl
  | .bl _, _ => by unfold toD bkD; rfl
  | .int _, _ => by unfold toD bkD; rfl
  | .str _, _ => by unfold toD bkD; rfl
  | .tup xs, h => by
    unfold noL at h
    unfold toD bkD
    rw [ofs_tos h]
  | .lst _, h => by unfold noL at h; cases h
  | .frz _, h => by unfold noL at h; cases h
theorem ofs_tos : ∀ {us : List U}, noLs us = true → bkDs (toDs us) = us
  | [], _ => by unfold toDs bkDs; rfl
  | u :: us, h => by
    unfold noLs at h
    rw [Bool.and_eq_true] at h
    unfold toDs bkDs
    rw [of_to h.1, ofs_tos h.2]
end
mutual
theorem rd_to {B : Nat → Prop} {S : Store} : ∀ {u : U}, noL u = true → Rd B S (toD u) u
  | .non, _ => by unfold toD; exact .non
  | .bl _, _ => by unfold toD; exact .bl _
  | .int _, _ => by unfold toD; exact .int _
  | .str _, _ => by unfold toD; exact .str _
  | .tup xs, h => by
    unfold noL at h
    unfold toD
    exact .tup (rds_to h)
  | .lst _, h => by unfold noL at h; cases h
  | .frz _, h => by unfold noL at h; cases h
theorem rds_to {B : Nat → Prop} {S : Store} : ∀ {us : List U}, noLs us = true → Rds B S (toDs us) us
  | [], _ => by unfold toDs; exact .nil
  | u :: us, h => by
    unfold noLs at h
    rw [Bool.and_eq_true] at h
    unfold toDs
    exact .cons (rd_to h.1) (rds_to h.2)
end
mutual
theorem rd_is {B : Nat → Prop} {S : Store} : ∀ {d : D} {u : U}, Rd B S d u → noL u = true → d = toD u
  | _, _, .non, _ => by unfold toD; rfl
  | _, _, .bl _, _ => by unfold toD; rfl
  | _, _, .int _, _ => by unfold toD; rfl
  | _, _, .str _, _ => by unfold toD; rfl
  | _, _, .tup r, h => by
    unfold noL at h
    unfold toD
    rw [rds_is r h]
  | _, _, .lst _ _ _, h => by unfold noL at h; cases h
  | _, _, .frz _ _ _, h => by unfold noL at h; cases h
theorem rds_is {B : Nat → Prop} {S : Store} : ∀ {ds : List D} {us : List U}, Rds B S ds us → noLs us = true → ds = toDs us
  | _, _, .nil, _ => by unfold toDs; rfl
  | _, _, .cons a r, h => by
    unfold noLs at h
    rw [Bool.and_eq_true] at h
    unfold toDs
    rw [← rd_is a h.1, ← rds_is r h.2]
end
theorem toDs_map : ∀ us : List U, toDs us = us.map toD
  | [] => by unfold toDs; rfl
  | u :: us => by unfold toDs; rw [toDs_map us]; rfl
/-- sorted -/
noncomputable def sortU (us : List U) : VR U := if noLs us = true then (match sortD (us.map toD) with | some ds => .ok (.lst (ds.map bkD)) | none => .stuck) else .stuck
noncomputable def bltU : Blt → List U → VR U
  | .abs, [.int i] => .ok (.int (if i < 0 then -i else i))
  | .int, [.int i] => .ok (.int i)
  | .int, [.bl b] => .ok (.int (if b = true then 1 else 0))
  | .len, [.tup xs] => .ok (.int xs.length)
  | .len, [x] => match sqU x with | some xs => .ok (.int xs.length) | none => .stuck
  | .min, ds => mnU .lt ds
  | .max, ds => mnU .gt ds
  | .list, [.tup xs] => .ok (.lst xs)
  | .list, [x] => match sqU x with | some xs => .ok (.lst xs) | none => .stuck
  | .tuple, [.tup xs] => .ok (.tup xs)
  | .tuple, [x] => match sqU x with | some xs => .ok (.tup xs) | none => .stuck
  | .sorted, [x] => match sqU x with | some xs => sortU xs | none => .stuck
  | .sum, [x] => match sqU x with | some xs => (match intsU xs with | some ns => .ok (.int ns.sum) | none => .stuck) | none => .stuck
  | _, _ => .stuck
def tyU : U → String
  | .non => "NoneType" | .bl _ => "bool" | .int _ => "int" | .str _ => "str" | .tup _ => "tuple" | .lst _ => "list" | .frz _ => "list"
def isiU (T : Ty) (u : U) : VR U := .ok (.bl (tyU u == T.nm || (tyU u == "bool" && T.nm == "int")))
/-- the items, and whether it is a list -/
def iterU : U → VR (List U × Bool)
  | .tup xs => .ok (xs, false)
  | x => match sqU x with | some xs => .ok (xs, true) | none => .stuck
/-- numbered from i on -/
def numU : Nat → List U → List U
  | _, [] => []
  | i, x :: xs => .tup [.int (i : Nat), x] :: numU (i + 1) xs
def zpU : List U → List U → List U
  | x :: xs, y :: ys => .tup [x, y] :: zpU xs ys
  | _, _ => []
def enmU (u : U) : VR (List U) := match sqU u with
  | some xs => .ok (numU 0 xs)
  | none => .stuck
def zipU : U → U → VR (List U)
  | .tup xs, .tup ys => .ok (zpU xs ys)
  | x, y => match sqU x, sqU y with
    | some xs, some ys => .ok (zpU xs ys)
    | _, _ => .stuck
def revU (u : U) : VR U := match sqU u with
  | some xs => .ok (.lst xs.reverse)
  | none => .stuck
def lstU : U → VR (List U)
  | .lst xs => .ok xs
  | _ => .stuck
def rngU : U → U → VR (List U)
  | .int a, .int b => if -(2 ^ 62) ≤ a ∧ a < 2 ^ 62 ∧ -(2 ^ 62) ≤ b ∧ b < 2 ^ 62 then .ok ((List.range (b - a).toNat).map fun k => .int (a + (k : Nat))) else .stuck
  | _, _ => .stuck
def unpU (n : Nat) : U → VR (List U)
  | .tup xs => if xs.length = n then .ok xs else .stuck
  | x => match sqU x with
    | some xs => if xs.length = n then .ok xs else .stuck
    | none => .stuck
section
variable {B : Nat → Prop} {S : Store} {d e : D} {x y u : U}
theorem getM_rd {l : Nat} {us : List U} (r : Rd B S (.ref l) (.lst us)) : ∃ ds, getM l S = .ok ds S ∧ Rds B S ds us := by
  cases r with
  | lst h1 h2 h3 => exact ⟨_, by unfold getM; rw [h2], h3⟩
theorem bin_ok (b : Bnd B S) {o : Bop} (r : Rd B S d x) (q : Rd B S e y) (h : binU o x y = .ok u) : OkF B S (binD o d e S) u := by
  unfold binU at h
  split at h
  · cases r; cases q; cases h
    exact .now (.int _) (by intro us z; cases z)
  · rename_i us1 us2
    split at h
    · rename_i hc
      cases h
      obtain ⟨l1, rfl⟩ : ∃ l, d = .ref l := by cases r; exact ⟨_, rfl⟩
      obtain ⟨l2, rfl⟩ : ∃ l, e = .ref l := by cases q; exact ⟨_, rfl⟩
      obtain ⟨ds1, g1, r1⟩ := getM_rd r
      obtain ⟨ds2, g2, r2⟩ := getM_rd q
      show OkF B S ((getM l1 >>= fun xs => getM l2 >>= fun ys => if xs.length + ys.length ≤ sizeLine then NL.alloc (.lst (xs ++ ys)) else die) S) _
      rw [bind_eq, g1]
      show OkF B S ((getM l2 >>= fun ys => if ds1.length + ys.length ≤ sizeLine then NL.alloc (.lst (ds1 ++ ys)) else die) S) _
      rw [bind_eq, g2]
      show OkF B S ((if ds1.length + ds2.length ≤ sizeLine then NL.alloc (.lst (ds1 ++ ds2)) else die) S) _
      rw [if_pos (by rw [r1.length, r2.length]; exact hc)]
      exact .new b (r1.append r2)
    · cases h
  · cases r; cases q; cases h
    exact .now (.int _) (by intro us z; cases z)
  · rename_i i j
    split at h
    · rename_i hc
      cases r; cases q; cases h
      have e : binD .mul (.int i) (.int j) = pure (.int (i * j)) := by unfold binD; exact if_pos hc
      rw [e]
      exact .now (.int _) (by intro us z; cases z)
    · cases h
  · rename_i us1 n
    split at h
    · rename_i hc
      cases h
      obtain ⟨l1, rfl⟩ : ∃ l, d = .ref l := by cases r; exact ⟨_, rfl⟩
      cases q
      obtain ⟨ds1, g1, r1⟩ := getM_rd r
      show OkF B S ((getM l1 >>= fun xs => if -(2 ^ 63) ≤ n ∧ n < 2 ^ 63 ∧ xs.length * n.toNat ≤ sizeLine then NL.alloc (.lst (List.replicate n.toNat xs).flatten) else die) S) _
      rw [bind_eq, g1]
      show OkF B S ((if -(2 ^ 63) ≤ n ∧ n < 2 ^ 63 ∧ ds1.length * n.toNat ≤ sizeLine then NL.alloc (.lst (List.replicate n.toNat ds1).flatten) else die) S) _
      rw [if_pos (by rw [r1.length]; exact hc)]
      exact .new b (r1.flat_rep _)
    · cases h
  · rename_i i j
    split at h
    · rename_i hc
      cases r; cases q; cases h
      have e : binD .fdiv (.int i) (.int j) = pure (.int (i.fdiv j)) := by unfold binD; exact if_pos hc
      rw [e]
      exact .now (.int _) (by intro us z; cases z)
    · cases h
  · rename_i i j
    split at h
    · rename_i hc
      cases r; cases q; cases h
      have e : binD .mod (.int i) (.int j) = pure (.int (i.fmod j)) := by unfold binD; exact if_pos hc
      rw [e]
      exact .now (.int _) (by intro us z; cases z)
    · cases h
  · rename_i i j
    split at h
    · rename_i hc
      cases r; cases q; cases h
      have e : binD .pow (.int i) (.int j) = pure (.int (i ^ j.toNat)) := by unfold binD; exact if_pos hc
      rw [e]
      exact .now (.int _) (by intro us z; cases z)
    · cases h
  · cases h
theorem neg_ok (r : Rd B S d x) (h : negU x = .ok u) : OkF B S (negD d S) u := by
  cases r <;> first | (unfold negU at h; cases h; done) | skip
  all_goals (unfold negU at h; cases h; exact .now (.int _) (by intro us z; cases z))
theorem ofU_ok {b : Option Bool} (h : ofU b = .ok u) : ∃ t, b = some t ∧ u = .bl t := by
  cases b with
  | none => cases h
  | some t => cases h; exact ⟨t, rfl, rfl⟩
theorem ofB_ok {b : Option Bool} (h : ofU b = .ok u) : OkF B S (ofB b S) u := by
  obtain ⟨t, rfl, rfl⟩ := ofU_ok h
  exact .now (.bl t) (by intro us z; cases z)
theorem is_rd (r : Rd B S d x) (q : Rd B S e y) : isD d e = isU x y := by
  cases q <;> cases r <;> rfl
theorem in_rd {t : Bool} (r : Rd B S d x) (q : Rd B S e y) (h : inU x y = some t) : inD S d e = some t := by
  unfold inU at h
  split at h
  · cases q
    rename_i q
    unfold inD
    rw [← pd_rd 12 d x r, ← q.mapO (pd_rd 12)] at h
    exact h
  · split at h
    · rename_i ys hy
      obtain ⟨l, ds, rfl, g1, g2⟩ := sq_rd q hy
      rw [← pd_rd 12 d x r, ← g2.mapO (pd_rd 12)] at h
      unfold inD
      unfold getL at g1
      dsimp only
      cases e : S[l]? with
      | none => rw [e] at g1; cases g1
      | some o =>
        rw [e] at g1
        cases g1
        exact h
    · cases h
theorem cmp_ok {o : Cop} (r : Rd B S d x) (q : Rd B S e y) (h : cmpU o x y = .ok u) : OkF B S (cmpD o d e S) u := by
  cases o
  case eq => exact ofB_ok (by rw [eq_rd r q]; exact h)
  case ne => exact ofB_ok (by rw [eq_rd r q]; exact h)
  case isIn =>
    obtain ⟨t, h1, rfl⟩ := ofU_ok h
    refine ofB_ok (b := inD S d e) ?_
    rw [in_rd r q h1]; rfl
  case notIn =>
    obtain ⟨t, h1, rfl⟩ := ofU_ok h
    obtain ⟨t', h2, rfl⟩ := Option.map_eq_some_iff.mp h1
    refine ofB_ok (b := (inD S d e).map (!·)) ?_
    rw [in_rd r q h2]; rfl
  case is_ => exact ofB_ok (by rw [is_rd r q]; exact h)
  case isNot => exact ofB_ok (by rw [is_rd r q]; exact h)
  all_goals exact ofB_ok (by rw [ord_rd _ 12 d e x y r q]; exact h)
theorem Rds.atI {ds : List D} {us : List U} {i : Int} (r : Rds B S ds us) (h : atI us i = some u) : ∃ d, L2.atI ds i = some d ∧ Rd B S d u := by
  unfold L2.atI at h ⊢
  rw [r.length]
  obtain ⟨j, h1, h2⟩ := Option.bind_eq_some_iff.mp h
  obtain ⟨d, h3, h4⟩ := r.get h2
  exact ⟨d, by rw [h1]; exact h3, h4⟩
theorem ix_ok (r : Rd B S d x) (q : Rd B S e y) (h : ixU x y = .ok u) : Ok1 B S (ixD d e S) u := by
  unfold ixU at h
  split at h
  · cases r; cases q
    rename_i i _ r
    split at h
    · rename_i u' hu
      cases h
      obtain ⟨d', h1, h2⟩ := r.atI hu
      refine ⟨d', S, ?_, .refl S, h2⟩
      unfold ixD
      dsimp only
      rw [h1]
      rfl
    · cases h
  · cases q
    rename_i i _
    split at h
    · rename_i xs hx
      obtain ⟨l, ds, rfl, g1, g2⟩ := sq_rd r hx
      split at h
      · rename_i u' hu
        cases h
        obtain ⟨d', h1, h2⟩ := g2.atI hu
        refine ⟨d', S, ?_, .refl S, h2⟩
        show (getL l >>= fun xs => match L2.atI xs i with | some d => (pure d : M D) | none => die) S = _
        rw [bind_eq, g1]
        show (match L2.atI ds i with | some d => (pure d : M D) | none => die) S = _
        rw [h1]
        rfl
      · cases h
    · cases h
  · cases h
theorem tru_ok {t : Bool} (r : Rd B S d x) (h : truU x = .ok t) : truD d S = .ok t S := by
  cases r <;> first | (cases h; done) | skip
  cases h
  rfl
theorem bnd_ok {p : Bool} {t : Option Int} (r : Rd B S d x) (h : bndU p x = .ok t) : bndM p d S = .ok t S := by
  cases p
  · cases r <;> (cases h; rfl)
  · cases r <;> first | (cases h; done) | skip
    cases h
    rfl
theorem slc_ok (b : Bnd B S) {lo hi : Option Int} (r : Rd B S d x) (h : slcU x lo hi = .ok u) : OkF B S (slcD d lo hi S) u := by
  unfold slcU at h
  split at h
  · rename_i xs hx
    obtain ⟨l, ds, rfl, g1, g2⟩ := sq_rd r hx
    cases h
    show OkF B S ((getL l >>= fun xs => NL.alloc (.lst (NL.cutD xs lo hi))) S) _
    rw [bind_eq, g1]
    show OkF B S (NL.alloc (.lst (NL.cutD ds lo hi)) S) _
    refine .new b ?_
    unfold NL.cutD cutU
    rw [g2.length]
    exact (g2.drop _).take _
  · cases h
theorem ints_rd : ∀ {ds : List D} {us : List U}, Rds B S ds us → intsD ds = intsU us
  | _, _, .nil => rfl
  | _, _, .cons a r => by
    cases a <;> first | rfl | skip
    unfold intsD intsU
    rw [ints_rd r]
theorem all1 {f : D → Bool} {g : U → Bool} (h : ∀ d u, Rd B S d u → f d = g u) : ∀ {ds : List D} {us : List U}, Rds B S ds us → ds.all f = us.all g
  | _, _, .nil => rfl
  | _, _, .cons a r => by rw [List.all_cons, List.all_cons, h _ _ a, all1 h r]
theorem Rds.getD {ds : List D} {us : List U} (r : Rds B S ds us) (i : Nat) : Rd B S (ds.getD i .non) (us.getD i .non) := by
  rw [List.getD_eq_getElem?_getD, List.getD_eq_getElem?_getD]
  cases hu : us[i]? with
  | none =>
    have : ds[i]? = none := by
      rw [List.getElem?_eq_none_iff, r.length]
      exact List.getElem?_eq_none_iff.mp hu
    rw [this]; exact .non
  | some u =>
    obtain ⟨d, h1, h2⟩ := r.get hu
    rw [h1]; exact h2
theorem best_rd {o : Cop} {ds : List D} {us : List U} (r : Rds B S ds us) (h : bestU o us = some u) : ∃ d, bestD o ds = some d ∧ Rd B S d u := by
  unfold bestU at h
  split at h
  · rename_i hc
    have e1 : (ds.all fun x => ds.all fun y => (ordD o 12 x y).isSome) = (us.all fun x => us.all fun y => (ordU o 12 x y).isSome) :=
      all1 (fun d u a => all1 (fun d' u' a' => by rw [ord_rd o 12 _ _ _ _ a a']) r) r
    have e2 : (fun i j => (ordD o 12 (ds.getD i .non) (ds.getD j .non)).getD false) = fun i j => (ordU o 12 (us.getD i .non) (us.getD j .non)).getD false := by
      funext i j
      rw [ord_rd o 12 _ _ _ _ (r.getD i) (r.getD j)]
    obtain ⟨d, h1, h2⟩ := r.get h
    refine ⟨d, ?_, h2⟩
    unfold bestD
    rw [e1, if_pos hc, e2, r.length]
    exact h1
  · cases h
theorem opt_ok {o : Cop} {ds : List D} {us : List U} (r : Rds B S ds us) (h : optU (bestU o us) = .ok u) : Ok1 B S (ofD (bestD o ds) S) u := by
  cases e : bestU o us with
  | none => rw [e] at h; cases h
  | some v =>
    rw [e] at h
    cases h
    obtain ⟨d, h1, h2⟩ := best_rd r e
    refine ⟨d, S, ?_, .refl S, h2⟩
    rw [h1]; rfl
theorem mn2 {o : Cop} {a b : D} : mnD o [a, b] = ofD (bestD o [a, b]) := by cases a <;> rfl
theorem mn3 {o : Cop} {a b c : D} : mnD o [a, b, c] = ofD (bestD o [a, b, c]) := by cases a <;> rfl
theorem mn4 {o : Cop} {a b c d : D} : mnD o [a, b, c, d] = ofD (bestD o [a, b, c, d]) := by cases a <;> rfl
theorem mn_ok {o : Cop} {ds : List D} {us : List U} (r : Rds B S ds us) (h : mnU o us = .ok u) : Ok1 B S (mnD o ds S) u := by
  unfold mnU at h
  split at h
  · rcases r with _ | ⟨a, _ | ⟨_, _⟩⟩
    cases a
    rename_i a
    exact opt_ok a h
  · rcases r with _ | ⟨a, _ | ⟨_, _⟩⟩
    split at h
    · rename_i hx
      obtain ⟨l, ds, rfl, g1, g2⟩ := sq_rd a hx
      show Ok1 B S ((getL l >>= fun xs => ofD (bestD o xs)) S) u
      rw [bind_eq, g1]
      exact opt_ok g2 h
    · cases h
  · have q := r
    rcases r with _ | ⟨a, _ | ⟨b, _ | ⟨_, _⟩⟩⟩
    rw [mn2]
    exact opt_ok q h
  · have q := r
    rcases r with _ | ⟨a, _ | ⟨b, _ | ⟨c, _ | ⟨_, _⟩⟩⟩⟩
    rw [mn3]
    exact opt_ok q h
  · have q := r
    rcases r with _ | ⟨a, _ | ⟨b, _ | ⟨c, _ | ⟨d, _ | ⟨_, _⟩⟩⟩⟩⟩
    rw [mn4]
    exact opt_ok q h
  · cases h
/-- a list told by a builtin is new -/
def newB : Blt → Bool
  | .list => true
  | .sorted => true
  | _ => false
theorem blt_ok (b : Bnd B S) {t : Blt} {ds : List D} {us : List U} (r : Rds B S ds us) (h : bltU t us = .ok u) : Ok1 B S (bltD t ds S) u ∧ (newB t = true → OkF B S (bltD t ds S) u) := by
  have nw : ∀ {z : D} {v : U}, Rd B S z v → (∀ us, v ≠ .lst us) → Ok1 B S (.ok z S) v ∧ (newB t = true → OkF B S (.ok z S) v) := fun hz hv => ⟨(OkF.now hz hv).ok1, fun _ => .now hz hv⟩
  have one : ∀ {v : U} {vs : List D}, Rds B S vs [v] → ∃ d, vs = [d] ∧ Rd B S d v := fun r => by
    rcases r with _ | ⟨a, _ | ⟨_, _⟩⟩
    exact ⟨_, rfl, a⟩
  unfold bltU at h
  split at h
  · obtain ⟨d, rfl, a⟩ := one r
    cases a; cases h; exact nw (.int _) (by intro us z; cases z)
  · obtain ⟨d, rfl, a⟩ := one r
    cases a; cases h; exact nw (.int _) (by intro us z; cases z)
  · obtain ⟨d, rfl, a⟩ := one r
    cases a; cases h; exact nw (.int _) (by intro us z; cases z)
  · obtain ⟨d, rfl, a⟩ := one r
    cases a
    rename_i a
    cases h
    rw [← a.length]
    exact nw (.int _) (by intro us z; cases z)
  · obtain ⟨d, rfl, a⟩ := one r
    split at h
    · rename_i hx
      obtain ⟨l, ds, rfl, g1, g2⟩ := sq_rd a hx
      cases h
      have e2 : bltD .len [.ref l] S = .ok (.int ds.length) S := by
        show (getL l >>= fun xs => (pure (.int xs.length) : M D)) S = _
        rw [bind_eq, g1]; rfl
      rw [e2, ← g2.length]
      exact nw (.int _) (by intro us z; cases z)
    · cases h
  · exact ⟨mn_ok r h, fun z => by cases z⟩
  · exact ⟨mn_ok r h, fun z => by cases z⟩
  · obtain ⟨d, rfl, a⟩ := one r
    cases a
    rename_i a
    cases h
    have q : OkF B S (NL.alloc (.lst _) S) _ := .new b a
    exact ⟨q.ok1, fun _ => q⟩
  · obtain ⟨d, rfl, a⟩ := one r
    split at h
    · rename_i hx
      obtain ⟨l, ds, rfl, g1, g2⟩ := sq_rd a hx
      cases h
      have e2 : bltD .list [.ref l] S = NL.alloc (.lst ds) S := by
        show (getL l >>= fun xs => NL.alloc (.lst xs)) S = _
        rw [bind_eq, g1]; rfl
      rw [e2]
      have q : OkF B S (NL.alloc (.lst _) S) _ := .new b g2
      exact ⟨q.ok1, fun _ => q⟩
    · cases h
  · obtain ⟨d, rfl, a⟩ := one r
    cases a
    rename_i a
    cases h
    exact nw (.tup a) (by intro us z; cases z)
  · obtain ⟨d, rfl, a⟩ := one r
    split at h
    · rename_i hx
      obtain ⟨l, ds, rfl, g1, g2⟩ := sq_rd a hx
      cases h
      have e2 : bltD .tuple [.ref l] S = .ok (.tup ds) S := by
        show (getL l >>= fun xs => (pure (.tup xs) : M D)) S = _
        rw [bind_eq, g1]; rfl
      rw [e2]
      exact nw (.tup g2) (by intro us z; cases z)
    · cases h
  · obtain ⟨d, rfl, a⟩ := one r
    split at h
    · rename_i xs hx
      obtain ⟨l, ds, rfl, g1, g2⟩ := sq_rd a hx
      unfold sortU at h
      split at h
      · rename_i hn
        split at h
        · rename_i ys hs
          cases h
          have ed : ds = xs.map toD := by rw [rds_is g2 hn, toDs_map]
          have e2 : bltD .sorted [.ref l] S = NL.alloc (.lst ys) S := by
            show (getL l >>= fun xs => match sortD xs with | some ys => NL.alloc (.lst ys) | none => die) S = _
            rw [bind_eq, g1]
            show (match sortD ds with | some ys => NL.alloc (.lst ys) | none => die) S = _
            rw [ed, hs]
          rw [e2]
          have hy : ∀ y ∈ ys, ∃ u, noL u = true ∧ y = toD u := fun y hy => by
            obtain ⟨ok, e⟩ := sortD_some hs
            have := (srt_perm (lt := ltD) (xs.map toD)).mem_iff.mp (by rw [← e]; exact hy)
            obtain ⟨u, hu, rfl⟩ := List.mem_map.mp this
            have : ∀ {us : List U}, noLs us = true → ∀ u ∈ us, noL u = true := fun {us} => by
              induction us with
              | nil => intro _ u hu; cases hu
              | cons x us ih =>
                intro h u hu
                unfold noLs at h
                rw [Bool.and_eq_true] at h
                rcases List.mem_cons.mp hu with rfl | hu
                · exact h.1
                · exact ih h.2 u hu
            exact ⟨u, this hn u hu, rfl⟩
          have rr : Rds B S ys (ys.map bkD) := by
            clear e2 hs
            induction ys with
            | nil => exact .nil
            | cons y ys ih =>
              obtain ⟨u, hu, rfl⟩ := hy y List.mem_cons_self
              refine .cons ?_ (ih fun z hz => hy z (List.mem_cons_of_mem _ hz))
              rw [of_to hu]; exact rd_to hu
          have q : OkF B S (NL.alloc (.lst ys) S) _ := .new b rr
          exact ⟨q.ok1, fun _ => q⟩
        · cases h
      · cases h
    · cases h
  · obtain ⟨d, rfl, a⟩ := one r
    split at h
    · rename_i hx
      obtain ⟨l, ds, rfl, g1, g2⟩ := sq_rd a hx
      split at h
      · rename_i ns hn
        cases h
        have e2 : bltD .sum [.ref l] S = .ok (.int ns.sum) S := by
          show (getL l >>= fun xs => match intsD xs with | some ns => (pure (.int ns.sum) : M D) | none => die) S = _
          rw [bind_eq, g1]
          show (match intsD ds with | some ns => (pure (.int ns.sum) : M D) | none => die) S = _
          rw [ints_rd g2, hn]; rfl
        rw [e2]
        exact nw (.int _) (by intro us z; cases z)
      · cases h
    · cases h
  · cases h
theorem isi_ok {T : Ty} (r : Rd B S d x) (h : isiU T x = .ok u) : OkF B S (isiD T d S) u := by
  cases h
  have e : tyD S d = some (tyU x) := by
    cases r <;> first | rfl | skip
    · rename_i h1 h2 h3
      unfold tyD
      dsimp only
      rw [h2]; rfl
    · rename_i h1 h2 h3
      unfold tyD
      dsimp only
      rw [h2]; rfl
  unfold isiD
  rw [e]
  exact .now (.bl _) (by intro us z; cases z)
theorem unp_ok {n : Nat} {us : List U} (r : Rd B S d x) (h : unpU n x = .ok us) : ∃ ds, unpD n d S = .ok ds S ∧ Rds B S ds us := by
  unfold unpU at h
  split at h
  · cases r
    rename_i a
    split at h
    · rename_i hc
      cases h
      refine ⟨_, ?_, a⟩
      have e : unpD n (.tup _) = pure _ := if_pos (show List.length _ = n by rw [a.length]; exact hc)
      rw [e]; rfl
    · cases h
  · split at h
    · rename_i hx
      obtain ⟨l, ds, rfl, g1, g2⟩ := sq_rd r hx
      split at h
      · rename_i hc
        cases h
        refine ⟨ds, ?_, g2⟩
        show (getL l >>= fun xs => if xs.length = n then (pure xs : M (List D)) else die) S = _
        rw [bind_eq, g1]
        show (if ds.length = n then (pure ds : M (List D)) else die) S = _
        rw [if_pos (by rw [g2.length]; exact hc)]; rfl
      · cases h
    · cases h
theorem rng_ok {us : List U} (r : Rd B S d x) (q : Rd B S e y) (h : rngU x y = .ok us) : ∃ ds, rngD d e S = .ok ds S ∧ ∀ B' S', Rds B' S' ds us := by
  unfold rngU at h
  split at h
  · cases r; cases q
    rename_i a b
    split at h
    · rename_i hc
      cases h
      have e : rngD (.int a) (.int b) = pure _ := if_pos hc
      refine ⟨_, by rw [e]; rfl, fun B' S' => ?_⟩
      generalize List.range (b - a).toNat = ks
      induction ks with
      | nil => exact .nil
      | cons k ks ih => exact .cons (.int _) ih
    · cases h
  · cases h
end
end VL

/-! Expressions answer trees. -/
namespace VL
open PySem PySem.Spec PyProof.Rows L2 NL
/-- a name: whether its list is its own, its value -/
abbrev VEnv := List (Option (Bool × U))
def getV (en : VEnv) (i : Nat) : VR U := match en[i]? with
  | some (some p) => .ok p.2
  | _ => .stuck
def wipeV (en : VEnv) : List Nat → VEnv
  | [] => en
  | v :: vs => (wipeV en vs).set v none
def setAllV (en : VEnv) : List Nat → List U → VEnv
  | i :: is, u :: us => setAllV (en.set i (some (false, u))) is us
  | _, _ => en
def bindV : Tg → U → VEnv → VR VEnv
  | .nm i, u, en => .ok (en.set i (some (false, u)))
  | .tp is, u, en => (unpU is.length u).bind fun us => .ok (setAllV en is us)
def compV (bnd : U → VR VEnv) (c : VEnv → VR Bool) (e : VEnv → VR U) : List U → VR (List U)
  | [] => .ok []
  | x :: xs => (bnd x).bind fun en => (c en).bind fun t => if t = true then (e en).bind fun u => (compV bnd c e xs).bind fun r => .ok (u :: r) else compV bnd c e xs
def noXV {α : Type} (r : VR α) : VR α := match r with
  | .ok a => .ok a
  | _ => .stuck
mutual
noncomputable def evV (C : Nat → List U → VR U) : E → VEnv → VR U
  | .var i, en => getV en i
  | .con .non, _ => .ok .non
  | .con (.bl b), _ => .ok (.bl b)
  | .con (.int i), _ => .ok (.int i)
  | .con (.str x), _ => .ok (.str x)
  | .con _, _ => .stuck
  | .bin o a b, en => (evV C a en).bind fun x => (evV C b en).bind fun y => binU o x y
  | .neg a, en => (evV C a en).bind negU
  | .not a, en => (evV C a en).bind fun x => (truU x).bind fun t => .ok (.bl (!t))
  | .cmp o a b, en => (evV C a en).bind fun x => (evV C b en).bind fun y => cmpU o x y
  | .chn o o' a b c, en => (evV C a en).bind fun x => (evV C b en).bind fun y => (cmpU o x y).bind fun z => (truU z).bind fun t => if t = true then (evV C c en).bind fun z => cmpU o' y z else .ok (.bl false)
  | .and a b, en => (evV C a en).bind fun x => (truU x).bind fun t => if t = true then evV C b en else .ok (.bl false)
  | .or a b, en => (evV C a en).bind fun x => (truU x).bind fun t => if t = true then .ok (.bl true) else evV C b en
  | .ite c a b, en => (evV C c en).bind fun x => (truU x).bind fun t => if t = true then evV C a en else evV C b en
  | .tup es, en => (evVs C es en).bind fun xs => if xs.length ≤ sizeLine then .ok (.tup xs) else .stuck
  | .lst es, en => (evVs C es en).bind fun xs => if xs.length ≤ sizeLine then .ok (.lst xs) else .stuck
  | .idx a i, en => (evV C a en).bind fun x => (evV C i en).bind fun y => ixU x y
  | .slc p q a lo hi, en => (evV C a en).bind fun x => (evV C lo en).bind fun y => (bndU p y).bind fun y' => (evV C hi en).bind fun z => (bndU q z).bind fun z' => slcU x y' z'
  | .call f es, en => (evVs C es en).bind fun xs => C f xs
  | .blt b es, en => (evVs C es en).bind fun xs => bltU b xs
  | .isi a T, en => (evV C a en).bind fun x => isiU T x
  | .rev e, en => (evV C e en).bind revU
  | .comp own tg it c e, en => (evVt C it en).bind fun p => if p.1.length ≤ sizeLine then
      noXV ((compV (fun d => bindV tg d (wipeV en own)) (fun en' => (evV C c en').bind truU) (fun en' => evV C e en') p.1).bind fun us => .ok (.lst us)) else .stuck
noncomputable def evVs (C : Nat → List U → VR U) : Es → VEnv → VR (List U)
  | .nil, _ => .ok []
  | .cons e es, en => (evV C e en).bind fun x => (evVs C es en).bind fun xs => .ok (x :: xs)
noncomputable def evVt (C : Nat → List U → VR U) : NL.It → VEnv → VR (List U × Bool)
  | .val e, en => (evV C e en).bind iterU
  | .rng1 b, en => (evV C b en).bind fun y => (rngU (.int 0) y).bind fun xs => .ok (xs, false)
  | .rng2 a b, en => (evV C a en).bind fun x => (evV C b en).bind fun y => (rngU x y).bind fun xs => .ok (xs, false)
  | .enm e, en => (evV C e en).bind fun x => (enmU x).bind fun xs => .ok (xs, true)
  | .zip a b, en => (evV C a en).bind fun x => (evV C b en).bind fun y => (zipU x y).bind fun xs => .ok (xs, true)
end
mutual
def fvE : E → List Nat
  | .var i => [i]
  | .con _ => []
  | .bin _ a b => fvE a ++ fvE b
  | .neg a => fvE a
  | .not a => fvE a
  | .cmp _ a b => fvE a ++ fvE b
  | .chn _ _ a b c => fvE a ++ (fvE b ++ fvE c)
  | .and a b => fvE a ++ fvE b
  | .or a b => fvE a ++ fvE b
  | .ite c a b => fvE c ++ (fvE a ++ fvE b)
  | .tup es => fvEs es
  | .lst es => fvEs es
  | .idx a i => fvE a ++ fvE i
  | .slc _ _ a lo hi => fvE a ++ (fvE lo ++ fvE hi)
  | .call _ es => fvEs es
  | .blt _ es => fvEs es
  | .isi a _ => fvE a
  | .comp _ _ it c e => fvI it ++ (fvE c ++ fvE e)
  | .rev a => fvE a
def fvEs : Es → List Nat
  | .nil => []
  | .cons e es => fvE e ++ fvEs es
def fvI : NL.It → List Nat
  | .val e => fvE e
  | .rng1 b => fvE b
  | .rng2 a b => fvE a ++ fvE b
  | .enm e => fvE e
  | .zip a b => fvE a ++ fvE b
end
def freshE (fr : Nat → Bool) : E → Bool
  | .lst _ => true
  | .comp _ _ _ _ _ => true
  | .rev _ => true
  | .slc _ _ _ _ _ => true
  | .blt b _ => newB b
  | .bin _ _ _ => true
  | .call f _ => fr f
  | .ite _ a b => freshE fr a && freshE fr b
  | _ => false
/-- an answer is read so; where fl, a list is new -/
def OkB (fl : Bool) (B : Nat → Prop) (S : Store) (r : R D) (u : U) : Prop := ∃ d S1, r = .ok d S1 ∧ Gw S S1 ∧ Rd B S1 d u ∧ (fl = true → (∃ us, u = .lst us) → FrD B S.length S1 d u)
theorem OkF.b {fl : Bool} {B : Nat → Prop} {S : Store} {r : R D} {u : U} (h : OkF B S r u) : OkB fl B S r u := by
  obtain ⟨d, S1, h1, h2, h3, h4⟩ := h
  exact ⟨d, S1, h1, h2, h3, fun _ => h4⟩
theorem Ok1.b {B : Nat → Prop} {S : Store} {r : R D} {u : U} (h : Ok1 B S r u) : OkB false B S r u := by
  obtain ⟨d, S1, h1, h2, h3⟩ := h
  exact ⟨d, S1, h1, h2, h3, fun e => by cases e⟩
theorem OkB.ok1 {fl : Bool} {B : Nat → Prop} {S : Store} {r : R D} {u : U} (h : OkB fl B S r u) : Ok1 B S r u := by
  obtain ⟨d, S1, h1, h2, h3, _⟩ := h
  exact ⟨d, S1, h1, h2, h3⟩
theorem OkB.gw {fl : Bool} {B : Nat → Prop} {S S1 : Store} {r : R D} {u : U} (g : Gw S S1) (h : OkB fl B S1 r u) : OkB fl B S r u := by
  obtain ⟨d, S2, h1, h2, h3, h4⟩ := h
  exact ⟨d, S2, h1, g.trans h2, h3, fun f e => (h4 f e).le g.len⟩
structure EnvR (is : List Nat) (B : Nat → Prop) (S : Store) (ven : VEnv) (en : NL.Env) : Prop where
  len : ven.length = en.length
  get : ∀ i ∈ is, ∀ w u, ven[i]? = some (some (w, u)) → ∃ d, en[i]? = some (some d) ∧ Rd B S d u
def CallOk (fr : Nat → Bool) (C : Nat → List D → M D) (CV : Nat → List U → VR U) : Prop :=
  ∀ f us u, CV f us = .ok u → ∀ B S ds, Bnd B S → Rds B S ds us → OkB (fr f) B S (C f ds S) u
section
variable {B B' : Nat → Prop} {S S' : Store} {ven : VEnv} {en : NL.Env} {is js : List Nat}
theorem EnvR.sub (h : EnvR is B S ven en) (k : ∀ i ∈ js, i ∈ is) : EnvR js B S ven en := ⟨h.len, fun i hi => h.get i (k i hi)⟩
theorem EnvR.l (h : EnvR (is ++ js) B S ven en) : EnvR is B S ven en := h.sub fun i hi => List.mem_append_left _ hi
theorem EnvR.r (h : EnvR (is ++ js) B S ven en) : EnvR js B S ven en := h.sub fun i hi => List.mem_append_right _ hi
theorem EnvR.mono (h : EnvR is B S ven en) (g : ∀ l o, ¬ B l → S[l]? = some o → ¬ B' l ∧ S'[l]? = some o) : EnvR is B' S' ven en := ⟨h.len, fun i hi w u e => by
  obtain ⟨d, h1, h2⟩ := h.get i hi w u e
  exact ⟨d, h1, h2.mono g⟩⟩
theorem EnvR.gw (h : EnvR is B S ven en) (g : Gw S S') : EnvR is B S' ven en := h.mono fun l o h1 h2 => ⟨h1, g.get h2⟩
theorem EnvR.set (h : EnvR is B S ven en) {d : D} {u : U} {w : Bool} (r : Rd B S d u) (i : Nat) : EnvR is B S (ven.set i (some (w, u))) (en.set i (some d)) := ⟨by simp [h.len], fun j hj w' u' e => by
  by_cases hij : i = j
  · subst hij
    by_cases hl : i < ven.length
    · rw [List.getElem?_set_self hl] at e
      cases e
      exact ⟨d, List.getElem?_set_self (by rw [← h.len]; exact hl), r⟩
    · rw [List.getElem?_eq_none (by simpa using hl)] at e; cases e
  · rw [List.getElem?_set_ne hij] at e ⊢
    exact h.get j hj w' u' e⟩
theorem EnvR.wipe (h : EnvR is B S ven en) : ∀ vs : List Nat, EnvR is B S (wipeV ven vs) (NL.wipeD en vs)
  | [] => h
  | v :: vs => by
    have ih := EnvR.wipe h vs
    refine ⟨by show (List.set _ _ _).length = (List.set _ _ _).length; rw [List.length_set, List.length_set]; exact ih.len, fun j hj w u e => ?_⟩
    show ∃ d, (List.set _ _ _)[j]? = _ ∧ _
    have e : ((wipeV ven vs).set v none)[j]? = some (some (w, u)) := e
    by_cases hij : v = j
    · subst hij
      by_cases hl : v < (wipeV ven vs).length
      · rw [List.getElem?_set_self hl] at e; cases e
      · rw [List.getElem?_eq_none (by simpa using hl)] at e; cases e
    · rw [List.getElem?_set_ne hij] at e ⊢
      exact ih.get j hj w u e
theorem EnvR.setAll : ∀ {ks : List Nat} {ds : List D} {us : List U} {ven : VEnv} {en : NL.Env}, EnvR is B S ven en → Rds B S ds us → EnvR is B S (setAllV ven ks us) (NL.setAll en ks ds)
  | [], _, _, _, _, h, _ => by unfold setAllV NL.setAll; exact h
  | k :: ks, _, _, _, _, h, .nil => by unfold setAllV NL.setAll; exact h
  | k :: ks, _, _, _, _, h, .cons a r => by
    unfold setAllV NL.setAll
    exact EnvR.setAll (h.set a k) r
theorem bind_ok {tg : Tg} {d : D} {u : U} {ven' : VEnv} (h : EnvR is B S ven en) (r : Rd B S d u) (hb : bindV tg u ven = .ok ven') : ∃ en', NL.bindT tg d en S = .ok en' S ∧ EnvR is B S ven' en' := by
  cases tg with
  | nm i => cases hb; exact ⟨_, rfl, h.set r i⟩
  | tp ks =>
    obtain ⟨us, h1, h2⟩ := VR.bind_ok hb
    cases h2
    obtain ⟨ds, h3, h4⟩ := unp_ok r h1
    refine ⟨NL.setAll en ks ds, ?_, h.setAll h4⟩
    show (unpD ks.length d >>= fun ds => (pure (NL.setAll en ks ds) : M NL.Env)) S = _
    rw [bind_eq, h3]; rfl
theorem Gw_of {S S' : Store} (h : ∀ k, k < S.length → S'[k]? = S[k]?) (hl : S.length ≤ S'.length) : Gw S S' := by
  refine ⟨S'.drop S.length, ?_⟩
  apply List.ext_getElem?
  intro k
  by_cases hk : k < S.length
  · rw [h k hk, List.getElem?_append_left hk]
  · rw [List.getElem?_append_right (by omega), List.getElem?_drop]
    congr 1
    omega
/-- all but l stays -/
structure Ext (l : Nat) (S S' : Store) : Prop where
  len : S.length ≤ S'.length
  get : ∀ k o, k ≠ l → S[k]? = some o → S'[k]? = some o
theorem Ext.refl {l : Nat} : Ext l S S := ⟨Nat.le_refl _, fun _ _ _ h => h⟩
theorem Ext.trans {l : Nat} {S1 S2 S3 : Store} (a : Ext l S1 S2) (b : Ext l S2 S3) : Ext l S1 S3 := ⟨Nat.le_trans a.len b.len, fun k o n h => b.get k o n (a.get k o n h)⟩
theorem Ext.gw {l : Nat} (g : Gw S S') : Ext l S S' := ⟨g.len, fun _ _ _ h => g.get h⟩
theorem Ext.set {l : Nat} {o : Ob} : Ext l S (S.set l o) := ⟨by simp, fun k o n h => by rw [List.getElem?_set_ne (fun e => n e.symm)]; exact h⟩
theorem Ext.mono {l : Nat} (g : Ext l S S') (hB : B l) : ∀ k o, ¬ B k → S[k]? = some o → ¬ B k ∧ S'[k]? = some o := fun k o h1 h2 => ⟨h1, g.get k o (fun e => h1 (by rw [e]; exact hB)) h2⟩
end
theorem at_sq {B : Nat → Prop} {S : Store} {d : D} {u : U} {us : List U} (r : Rd B S d u) (h : sqU u = some us) : ∃ l o, d = .ref l ∧ S[l]? = some o ∧ ¬ B l ∧ Rds B S (items o) us := by
  cases r with
  | lst n g r => cases h; exact ⟨_, _, rfl, g, n, r⟩
  | frz n g r => cases h; exact ⟨_, _, rfl, g, n, r⟩
  | _ => cases h
def CkOkV (B : Nat → Prop) (ps : List (Nat × Ob)) (S : Store) : Prop := ∀ p ∈ ps, S[p.1]? = some p.2 ∧ ¬ B p.1
theorem ck_run {B : Nat → Prop} {p : List (Nat × Ob)} {S : Store} (h : CkOkV B p S) : ckD p S = .ok () S := by
  show (open Classical in if ∀ q ∈ p, S[q.1]? = some q.2 then (R.ok () S : R Unit) else .stuck) = _
  exact if_pos fun q hq => (h q hq).1
theorem ck_nil {B : Nat → Prop} {S : Store} : CkOkV B [] S := fun _ h => by cases h
theorem num_rd {B : Nat → Prop} {S : Store} : ∀ {ds : List D} {us : List U} (k : Nat), Rds B S ds us → Rds B S (numD k ds) (numU k us)
  | _, _, _, .nil => .nil
  | _, _, k, .cons a r => by
    rw [numD, numU]
    exact .cons (.tup (.cons (.int _) (.cons a .nil))) (num_rd (k + 1) r)
theorem zp_rd {B : Nat → Prop} {S : Store} : ∀ {ds es : List D} {us vs : List U}, Rds B S ds us → Rds B S es vs → Rds B S (zipD ds es) (zpU us vs)
  | _, _, _, _, .nil, _ => .nil
  | _, _, _, _, .cons _ _, .nil => .nil
  | _, _, _, _, .cons a r, .cons b s => .cons (.tup (.cons a (.cons b .nil))) (zp_rd r s)
theorem rev_ok {B : Nat → Prop} {S : Store} {d : D} {x u : U} (b : Bnd B S) (r : Rd B S d x) (h : revU x = .ok u) : OkF B S (revM d S) u := by
  unfold revU at h
  split at h
  · rename_i xs hx
    cases h
    obtain ⟨l, ds, rfl, g, rs⟩ := sq_rd r hx
    show OkF B S ((getL l >>= fun xs => NL.alloc (.lst xs.reverse)) S) _
    rw [bind_eq, g]
    exact OkF.new b rs.reverse
  · cases h
theorem enm_rd {B : Nat → Prop} {S : Store} {d : D} {x : U} {xs : List U} (r : Rd B S d x) (h : enmU x = .ok xs) : ∃ ds ck, enmM d S = .ok (ds, ck) S ∧ Rds B S ds xs ∧ CkOkV B ck S := by
  unfold enmU at h
  split at h
  · rename_i us hx
    cases h
    obtain ⟨l, o, rfl, g1, n1, r1⟩ := at_sq r hx
    refine ⟨numD 0 (items o), [(l, o)], ?_, num_rd 0 r1, fun p hp => ?_⟩
    · show (match S[l]? with | some o => R.ok (numD 0 (items o), [(l, o)]) S | none => .stuck) = _
      rw [g1]
    · rw [List.mem_singleton.mp hp]
      exact ⟨g1, n1⟩
  · cases h
theorem zip_rd {B : Nat → Prop} {S : Store} {d e : D} {x y : U} {xs : List U} (r : Rd B S d x) (q : Rd B S e y) (h : zipU x y = .ok xs) : ∃ ds ck, zipM d e S = .ok (ds, ck) S ∧ Rds B S ds xs ∧ CkOkV B ck S := by
  unfold zipU at h
  split at h
  · cases h
    cases r with
    | tup r => cases q with
      | tup q => exact ⟨_, [], rfl, zp_rd r q, ck_nil⟩
  · split at h
    · rename_i us vs hx hy
      cases h
      obtain ⟨l, o, rfl, g1, n1, r1⟩ := at_sq r hx
      obtain ⟨k, p, rfl, g2, n2, r2⟩ := at_sq q hy
      refine ⟨zipD (items o) (items p), [(l, o), (k, p)], ?_, zp_rd r1 r2, fun c hc => ?_⟩
      · show (match S[l]?, S[k]? with | some o, some p => R.ok (zipD (items o) (items p), [(l, o), (k, p)]) S | _, _ => .stuck) = _
        rw [g1, g2]
      · rcases List.mem_cons.mp hc with rfl | hc
        · exact ⟨g1, n1⟩
        · rw [List.mem_singleton.mp hc]
          exact ⟨g2, n2⟩
    · cases h
theorem comp_ok {B : Nat → Prop} {l : Nat} {ck : List (Nat × Ob)} {bnd : D → M NL.Env} {bndV : U → VR VEnv} {c : NL.Env → M Bool} {cV : VEnv → VR Bool} {e : NL.Env → M D} {eV : VEnv → VR U} {S0 : Store} {is : List Nat}
    (hB : B l)
    (hb : ∀ S d u ven', Ext l S0 S → Bnd B S → Rd B S d u → bndV u = .ok ven' → ∃ en', bnd d S = .ok en' S ∧ EnvR is B S ven' en')
    (hc : ∀ S ven en t, Bnd B S → EnvR is B S ven en → cV ven = .ok t → ∃ S1, c en S = .ok t S1 ∧ Gw S S1)
    (he : ∀ S ven en u, Bnd B S → EnvR is B S ven en → eV ven = .ok u → Ok1 B S (e en S) u) :
    ∀ {ds : List D} {us rs : List U} {S : Store} {acc : List D} {ua : List U}, Ext l S0 S → Bnd B S → CkOkV B ck S → Rds B S ds us → S[l]? = some (.lst acc) → Rds B S acc ua → acc.length + ds.length ≤ sizeLine → compV bndV cV eV us = .ok rs →
    ∃ S1 acc1, cmpL (ckD ck) bnd c e l ds S = .ok () S1 ∧ Ext l S0 S1 ∧ S1[l]? = some (.lst acc1) ∧ Rds B S1 acc1 (ua ++ rs)
  | _, _, rs, S, acc, ua, x0, b, k, .nil, h1, h2, _, h => by
    cases h
    refine ⟨S, acc, ?_, x0, h1, by rw [List.append_nil]; exact h2⟩
    show ckD ck S = _
    exact ck_run k
  | d :: ds, u :: us, rs, S, acc, ua, x0, b, k, .cons a r, h1, h2, hl, h => by
    unfold compV at h
    obtain ⟨ven1, g1, h⟩ := VR.bind_ok h
    obtain ⟨t, g2, h⟩ := VR.bind_ok h
    obtain ⟨en1, q1, er⟩ := hb S d u ven1 x0 b a g1
    obtain ⟨S1, q2, w2⟩ := hc S ven1 en1 t b er g2
    have step : cmpL (ckD ck) bnd c e l (d :: ds) S = (if t = true then e en1 >>= fun d => pushD l d >>= fun _ => cmpL (ckD ck) bnd c e l ds else cmpL (ckD ck) bnd c e l ds) S1 := by
      show (ckD ck >>= fun _ => bnd d >>= fun en => c en >>= fun t => if t = true then e en >>= fun d => pushD l d >>= fun _ => cmpL (ckD ck) bnd c e l ds else cmpL (ckD ck) bnd c e l ds) S = _
      rw [bind_eq, ck_run k]
      show (bnd d >>= fun en => c en >>= fun t => if t = true then e en >>= fun d => pushD l d >>= fun _ => cmpL (ckD ck) bnd c e l ds else cmpL (ckD ck) bnd c e l ds) S = _
      rw [bind_eq, q1]
      show (c en1 >>= fun t => if t = true then e en1 >>= fun d => pushD l d >>= fun _ => cmpL (ckD ck) bnd c e l ds else cmpL (ckD ck) bnd c e l ds) S = _
      rw [bind_eq, q2]
      rfl
    rw [step]
    have ckl : ∀ {S S' : Store}, Ext l S S' → CkOkV B ck S → CkOkV B ck S' := fun {S S'} g h => by
      exact fun q hq => ⟨g.get _ _ (fun e => (h q hq).2 (by rw [e]; exact hB)) (h q hq).1, (h q hq).2⟩
    have ll : l < S.length := lt_of_get h1
    by_cases ht : t = true
    · rw [if_pos ht] at h ⊢
      obtain ⟨v, g3, h⟩ := VR.bind_ok h
      obtain ⟨rs', g4, h⟩ := VR.bind_ok h
      cases h
      obtain ⟨dv, S2, q3, w3, rv⟩ := he S1 ven1 en1 v (b.gw w2) (er.gw w2) g3
      have w := w2.trans w3
      have e2 : S2[l]? = some (.lst acc) := w.get h1
      have hlen : acc.length < sizeLine := by rw [List.length_cons] at hl; omega
      have push : pushD l dv S2 = .ok () (S2.set l (.lst (acc ++ [dv]))) := by
        unfold pushD
        rw [e2]
        exact if_pos hlen
      have ll2 : l < S2.length := lt_of_get e2
      have x1 : Ext l S (S2.set l (.lst (acc ++ [dv]))) := (Ext.gw w).trans .set
      obtain ⟨S3, acc1, q5, x2, q6, q7⟩ := comp_ok hB hb hc he (ds := ds) (us := us) (rs := rs') (S := S2.set l (.lst (acc ++ [dv]))) (acc := acc ++ [dv]) (ua := ua ++ [v]) (x0.trans x1)
        (fun k hk => by rw [List.length_set]; exact Nat.lt_of_lt_of_le (b k hk) w.len) (ckl x1 k) (r.mono (x1.mono hB)) (List.getElem?_set_self ll2)
        ((h2.mono (x1.mono hB)).append (.cons (rv.mono (Ext.set.mono hB)) .nil)) (by rw [List.length_append, List.length_singleton]; rw [List.length_cons] at hl; omega) g4
      refine ⟨S3, acc1, ?_, x2, q6, by rw [List.append_assoc] at q7; exact q7⟩
      rw [bind_eq, q3]
      show (pushD l dv >>= fun _ => cmpL (ckD ck) bnd c e l ds) S2 = _
      rw [bind_eq, push]
      exact q5
    · rw [if_neg ht] at h ⊢
      exact comp_ok hB hb hc he (x0.trans (Ext.gw w2)) (b.gw w2) (ckl (Ext.gw w2) k) (r.gw w2) (w2.get h1) (h2.gw w2) (by rw [List.length_cons] at hl; omega) h
theorem Ext.rd {B : Nat → Prop} {l : Nat} {S S' : Store} (g : Ext l S S') (hB : B l) {d : D} {u : U} (r : Rd B S d u) : Rd B S' d u := r.mono (g.mono hB)
section
variable {fr : Nat → Bool} {C : Nat → List D → M D} {CV : Nat → List U → VR U}
mutual
theorem ev_ok (hC : CallOk fr C CV) : ∀ (e : E) {B : Nat → Prop} {S : Store} {ven : VEnv} {en : NL.Env} {u : U}, Bnd B S → EnvR (fvE e) B S ven en → evV CV e ven = .ok u → OkB (freshE fr e) B S (evE C e en S) u
  | .var i, B, S, ven, en, u, b, r, h => by
    unfold evV getV at h
    split at h
    · rename_i p hp
      cases h
      obtain ⟨d, h1, h2⟩ := r.get i (by unfold fvE; exact List.mem_singleton.mpr rfl) p.1 p.2 hp
      refine ⟨d, S, ?_, .refl S, h2, fun e => by cases e⟩
      unfold evE
      rw [h1]; rfl
    · cases h
  | .con c, B, S, ven, en, u, b, r, h => by
    cases c <;> unfold evV at h <;> first | (cases h; done) | skip
    · cases h; exact ⟨.non, S, by unfold evE; rfl, .refl S, .non, fun e => by cases e⟩
    · cases h; exact ⟨.bl _, S, by unfold evE; rfl, .refl S, .bl _, fun e => by cases e⟩
    · cases h; exact ⟨.int _, S, by unfold evE; rfl, .refl S, .int _, fun e => by cases e⟩
    · cases h; exact ⟨.str _, S, by unfold evE; rfl, .refl S, .str _, fun e => by cases e⟩
  | .bin o a b', B, S, ven, en, u, b, r, h => by
    unfold evV at h
    obtain ⟨x, h1, h⟩ := VR.bind_ok h
    obtain ⟨y, h2, h⟩ := VR.bind_ok h
    unfold fvE at r
    obtain ⟨d1, S1, q1, w1, r1, _⟩ := ev_ok hC a b r.l h1
    obtain ⟨d2, S2, q2, w2, r2, _⟩ := ev_ok hC b' (b.gw w1) (r.r.gw w1) h2
    unfold evE
    rw [bind_eq, q1]
    show OkB _ B S ((evE C b' en >>= fun y => binD o d1 y) S1) u
    rw [bind_eq, q2]
    exact .gw (w1.trans w2) (bin_ok ((b.gw w1).gw w2) (r1.gw w2) r2 h).b
  | .neg a, B, S, ven, en, u, b, r, h => by
    unfold evV at h
    obtain ⟨x, h1, h⟩ := VR.bind_ok h
    unfold fvE at r
    obtain ⟨d1, S1, q1, w1, r1, _⟩ := ev_ok hC a b r h1
    unfold evE
    rw [bind_eq, q1]
    exact .gw w1 (neg_ok r1 h).b
  | .not a, B, S, ven, en, u, b, r, h => by
    unfold evV at h
    obtain ⟨x, h1, h⟩ := VR.bind_ok h
    obtain ⟨t, h2, h⟩ := VR.bind_ok h
    cases h
    unfold fvE at r
    obtain ⟨d1, S1, q1, w1, r1, _⟩ := ev_ok hC a b r h1
    unfold evE
    rw [bind_eq, bind_eq, q1]
    show OkB _ B S (((truD d1) S1).bind fun t => (pure (.bl (!t)) : M D)) _
    rw [tru_ok r1 h2]
    exact ⟨.bl (!t), S1, rfl, w1, .bl _, fun e => by cases e⟩
  | .cmp o a b', B, S, ven, en, u, b, r, h => by
    unfold evV at h
    obtain ⟨x, h1, h⟩ := VR.bind_ok h
    obtain ⟨y, h2, h⟩ := VR.bind_ok h
    unfold fvE at r
    obtain ⟨d1, S1, q1, w1, r1, _⟩ := ev_ok hC a b r.l h1
    obtain ⟨d2, S2, q2, w2, r2, _⟩ := ev_ok hC b' (b.gw w1) (r.r.gw w1) h2
    unfold evE
    rw [bind_eq, q1]
    show OkB _ B S ((evE C b' en >>= fun y => cmpD o d1 y) S1) u
    rw [bind_eq, q2]
    exact .gw (w1.trans w2) (cmp_ok (r1.gw w2) r2 h).b
  | .chn o o' a b' c, B, S, ven, en, u, b, r, h => by
    unfold evV at h
    obtain ⟨x, h1, h⟩ := VR.bind_ok h
    obtain ⟨y, h2, h⟩ := VR.bind_ok h
    obtain ⟨z, h3, h⟩ := VR.bind_ok h
    obtain ⟨t, h4, h⟩ := VR.bind_ok h
    unfold fvE at r
    obtain ⟨d1, S1, q1, w1, r1, _⟩ := ev_ok hC a b r.l h1
    obtain ⟨d2, S2, q2, w2, r2, _⟩ := ev_ok hC b' (b.gw w1) (r.r.l.gw w1) h2
    obtain ⟨d3, S3, q3, w3, r3, _⟩ := cmp_ok (r1.gw w2) r2 h3
    unfold evE
    rw [bind_eq, q1]
    show OkB _ B S ((evE C b' en >>= fun y => cmpD o d1 y >>= truD >>= fun t => if t = true then evE C c en >>= fun z => cmpD o' y z else (pure (.bl false) : M D)) S1) u
    rw [bind_eq, q2]
    show OkB _ B S ((cmpD o d1 d2 >>= truD >>= fun t => if t = true then evE C c en >>= fun z => cmpD o' d2 z else (pure (.bl false) : M D)) S2) u
    rw [bind_eq, bind_eq, q3]
    show OkB _ B S ((truD d3 S3).bind fun t => if t = true then evE C c en >>= fun z => cmpD o' d2 z else (pure (.bl false) : M D)) u
    rw [tru_ok r3 h4]
    show OkB _ B S ((if t = true then evE C c en >>= fun z => cmpD o' d2 z else (pure (.bl false) : M D)) S3) u
    by_cases ht : t = true
    · rw [if_pos ht] at h ⊢
      obtain ⟨v, h5, h⟩ := VR.bind_ok h
      obtain ⟨d4, S4, q4, w4, r4, _⟩ := ev_ok hC c (((b.gw w1).gw w2).gw w3) (((r.r.r.gw w1).gw w2).gw w3) h5
      rw [bind_eq, q4]
      exact .gw (((w1.trans w2).trans w3).trans w4) (cmp_ok ((r2.gw w3).gw w4) r4 h).b
    · rw [if_neg ht] at h ⊢
      cases h
      exact ⟨.bl false, S3, rfl, (w1.trans w2).trans w3, .bl _, fun e => by cases e⟩
  | .and a b', B, S, ven, en, u, b, r, h => by
    unfold evV at h
    obtain ⟨x, h1, h⟩ := VR.bind_ok h
    obtain ⟨t, h2, h⟩ := VR.bind_ok h
    unfold fvE at r
    obtain ⟨d1, S1, q1, w1, r1, _⟩ := ev_ok hC a b r.l h1
    unfold evE
    rw [bind_eq, bind_eq, q1]
    show OkB _ B S ((truD d1 S1).bind fun t => if t = true then evE C b' en else (pure (.bl false) : M D)) u
    rw [tru_ok r1 h2]
    show OkB _ B S ((if t = true then evE C b' en else (pure (.bl false) : M D)) S1) u
    by_cases ht : t = true
    · rw [if_pos ht] at h ⊢
      exact .gw w1 (ev_ok hC b' (b.gw w1) (r.r.gw w1) h).ok1.b
    · rw [if_neg ht] at h ⊢
      cases h
      exact ⟨.bl false, S1, rfl, w1, .bl _, fun e => by cases e⟩
  | .or a b', B, S, ven, en, u, b, r, h => by
    unfold evV at h
    obtain ⟨x, h1, h⟩ := VR.bind_ok h
    obtain ⟨t, h2, h⟩ := VR.bind_ok h
    unfold fvE at r
    obtain ⟨d1, S1, q1, w1, r1, _⟩ := ev_ok hC a b r.l h1
    unfold evE
    rw [bind_eq, bind_eq, q1]
    show OkB _ B S ((truD d1 S1).bind fun t => if t = true then (pure (.bl true) : M D) else evE C b' en) u
    rw [tru_ok r1 h2]
    show OkB _ B S ((if t = true then (pure (.bl true) : M D) else evE C b' en) S1) u
    by_cases ht : t = true
    · rw [if_pos ht] at h ⊢
      cases h
      exact ⟨.bl true, S1, rfl, w1, .bl _, fun e => by cases e⟩
    · rw [if_neg ht] at h ⊢
      exact .gw w1 (ev_ok hC b' (b.gw w1) (r.r.gw w1) h).ok1.b
  | .ite c a b', B, S, ven, en, u, b, r, h => by
    unfold evV at h
    obtain ⟨x, h1, h⟩ := VR.bind_ok h
    obtain ⟨t, h2, h⟩ := VR.bind_ok h
    unfold fvE at r
    obtain ⟨d1, S1, q1, w1, r1, _⟩ := ev_ok hC c b r.l h1
    unfold evE
    rw [bind_eq, bind_eq, q1]
    show OkB _ B S ((truD d1 S1).bind fun t => if t = true then evE C a en else evE C b' en) u
    rw [tru_ok r1 h2]
    show OkB _ B S ((if t = true then evE C a en else evE C b' en) S1) u
    have wk : ∀ {f f' : Bool} {r : R D}, (f' = true → f = true) → OkB f B S r u → OkB f' B S r u := fun k ⟨d, S1, h1, h2, h3, h4⟩ => ⟨d, S1, h1, h2, h3, fun z => h4 (k z)⟩
    by_cases ht : t = true
    · rw [if_pos ht] at h ⊢
      refine wk (fun z => ?_) (.gw w1 (ev_ok hC a (b.gw w1) (r.r.l.gw w1) h))
      unfold freshE at z
      rw [Bool.and_eq_true] at z
      exact z.1
    · rw [if_neg ht] at h ⊢
      refine wk (fun z => ?_) (.gw w1 (ev_ok hC b' (b.gw w1) (r.r.r.gw w1) h))
      unfold freshE at z
      rw [Bool.and_eq_true] at z
      exact z.2
  | .tup es, B, S, ven, en, u, b, r, h => by
    unfold evV at h
    obtain ⟨us, h1, h⟩ := VR.bind_ok h
    unfold fvE at r
    obtain ⟨ds, S1, q1, w1, r1⟩ := evs_ok hC es b r h1
    split at h
    · rename_i hc
      cases h
      unfold evE
      rw [bind_eq, q1]
      show OkB _ B S ((if ds.length ≤ sizeLine then (pure (.tup ds) : M D) else die) S1) _
      rw [if_pos (by rw [r1.length]; exact hc)]
      exact ⟨.tup ds, S1, rfl, w1, .tup r1, fun e => by cases e⟩
    · cases h
  | .lst es, B, S, ven, en, u, b, r, h => by
    unfold evV at h
    obtain ⟨us, h1, h⟩ := VR.bind_ok h
    unfold fvE at r
    obtain ⟨ds, S1, q1, w1, r1⟩ := evs_ok hC es b r h1
    split at h
    · rename_i hc
      cases h
      unfold evE
      rw [bind_eq, q1]
      show OkB _ B S ((if ds.length ≤ sizeLine then NL.alloc (.lst ds) else die) S1) _
      rw [if_pos (by rw [r1.length]; exact hc)]
      exact .gw w1 (OkF.new (b.gw w1) r1).b
    · cases h
  | .idx a i, B, S, ven, en, u, b, r, h => by
    unfold evV at h
    obtain ⟨x, h1, h⟩ := VR.bind_ok h
    obtain ⟨y, h2, h⟩ := VR.bind_ok h
    unfold fvE at r
    obtain ⟨d1, S1, q1, w1, r1, _⟩ := ev_ok hC a b r.l h1
    obtain ⟨d2, S2, q2, w2, r2, _⟩ := ev_ok hC i (b.gw w1) (r.r.gw w1) h2
    unfold evE
    rw [bind_eq, q1]
    show OkB _ B S ((evE C i en >>= fun y => ixD d1 y) S1) u
    rw [bind_eq, q2]
    exact .gw (w1.trans w2) (ix_ok (r1.gw w2) r2 h).b
  | .slc p q a lo hi, B, S, ven, en, u, b, r, h => by
    unfold evV at h
    obtain ⟨x, h1, h⟩ := VR.bind_ok h
    obtain ⟨y, h2, h⟩ := VR.bind_ok h
    obtain ⟨y', h3, h⟩ := VR.bind_ok h
    obtain ⟨z, h4, h⟩ := VR.bind_ok h
    obtain ⟨z', h5, h⟩ := VR.bind_ok h
    unfold fvE at r
    obtain ⟨d1, S1, q1, w1, r1, _⟩ := ev_ok hC a b r.l h1
    obtain ⟨d2, S2, q2, w2, r2, _⟩ := ev_ok hC lo (b.gw w1) (r.r.l.gw w1) h2
    obtain ⟨d3, S3, q3, w3, r3, _⟩ := ev_ok hC hi ((b.gw w1).gw w2) ((r.r.r.gw w1).gw w2) h4
    unfold evE
    rw [bind_eq, q1]
    show OkB _ B S ((evE C lo en >>= bndM p >>= fun y => evE C hi en >>= bndM q >>= fun z => slcD d1 y z) S1) u
    rw [bind_eq, bind_eq, q2]
    show OkB _ B S ((bndM p d2 S2).bind fun y => evE C hi en >>= bndM q >>= fun z => slcD d1 y z) u
    rw [bnd_ok r2 h3]
    show OkB _ B S ((evE C hi en >>= bndM q >>= fun z => slcD d1 y' z) S2) u
    rw [bind_eq, bind_eq, q3]
    show OkB _ B S ((bndM q d3 S3).bind fun z => slcD d1 y' z) u
    rw [bnd_ok r3 h5]
    exact .gw ((w1.trans w2).trans w3) (slc_ok (((b.gw w1).gw w2).gw w3) ((r1.gw w2).gw w3) h).b
  | .call f es, B, S, ven, en, u, b, r, h => by
    unfold evV at h
    obtain ⟨us, h1, h⟩ := VR.bind_ok h
    unfold fvE at r
    obtain ⟨ds, S1, q1, w1, r1⟩ := evs_ok hC es b r h1
    unfold evE
    rw [bind_eq, q1]
    exact .gw w1 (hC f us u h B S1 ds (b.gw w1) r1)
  | .blt t es, B, S, ven, en, u, b, r, h => by
    unfold evV at h
    obtain ⟨us, h1, h⟩ := VR.bind_ok h
    unfold fvE at r
    obtain ⟨ds, S1, q1, w1, r1⟩ := evs_ok hC es b r h1
    unfold evE
    rw [bind_eq, q1]
    obtain ⟨k1, k2⟩ := blt_ok (b.gw w1) r1 h
    refine .gw w1 ?_
    cases hn : newB t with
    | true => exact (k2 hn).b
    | false =>
      have : freshE fr (.blt t es) = false := by unfold freshE; exact hn
      rw [this]
      exact k1.b
  | .isi a T, B, S, ven, en, u, b, r, h => by
    unfold evV at h
    obtain ⟨x, h1, h⟩ := VR.bind_ok h
    unfold fvE at r
    obtain ⟨d1, S1, q1, w1, r1, _⟩ := ev_ok hC a b r h1
    unfold evE
    rw [bind_eq, q1]
    exact .gw w1 (isi_ok r1 h).b
  | .rev a, B, S, ven, en, u, b, r, h => by
    unfold evV at h
    obtain ⟨x, h1, h⟩ := VR.bind_ok h
    unfold fvE at r
    obtain ⟨d1, S1, q1, w1, r1, _⟩ := ev_ok hC a b r h1
    unfold evE
    rw [bind_eq, q1]
    exact .gw w1 (rev_ok (b.gw w1) r1 h).b
  | .comp own tg it c e, B, S, ven, en, u, b, r, h => by
    unfold evV at h
    obtain ⟨p, h1, h⟩ := VR.bind_ok h
    unfold fvE at r
    obtain ⟨ds, ck, S1, q1, w1, r1, k1⟩ := evt_ok hC it b r.l h1
    split at h
    · rename_i hlen
      cases hv : (compV (fun d => bindV tg d (wipeV ven own)) (fun en' => (evV CV c en').bind truU) (fun en' => evV CV e en') p.1).bind fun us => VR.ok (U.lst us) with
      | exc _ _ => rw [hv] at h; cases h
      | stuck => rw [hv] at h; cases h
      | ok u' =>
        rw [hv] at h
        cases h
        obtain ⟨us, h2, h3⟩ := VR.bind_ok hv
        cases h3
        have nB : ¬ B S1.length := fun z => Nat.lt_irrefl _ ((b.gw w1) _ z)
        have b1 : Bnd (fun k => B k ∨ k = S1.length) (S1 ++ [Ob.lst []]) := fun k hk => by
          rw [List.length_append, List.length_singleton]
          rcases hk with hk | hk
          · have := (b.gw w1) k hk; omega
          · omega
        have toB : ∀ l o, ¬ B l → S1[l]? = some o → ¬ (B l ∨ l = S1.length) ∧ (S1 ++ [Ob.lst []])[l]? = some o := fun l o n g => ⟨fun z => by
          rcases z with z | z
          · exact n z
          · have := lt_of_get g; omega, Gw.get .app g⟩
        have er : EnvR (fvE c ++ fvE e) (fun k => B k ∨ k = S1.length) (S1 ++ [Ob.lst []]) ven en := (r.r.gw w1).mono toB
        obtain ⟨S2, acc, q2, x2, q3, q4⟩ := comp_ok (B := fun k => B k ∨ k = S1.length) (l := S1.length) (ck := ck) (is := fvE c ++ fvE e) (S0 := S1 ++ [Ob.lst []])
          (bnd := fun d => bindT tg d (NL.wipeD en own)) (bndV := fun d => bindV tg d (wipeV ven own)) (c := fun en' => evE C c en' >>= truD) (cV := fun en' => (evV CV c en').bind truU) (e := fun en' => evE C e en') (eV := fun en' => evV CV e en')
          (.inr rfl) (fun S d u ven' x bS rd hb => bind_ok ((er.mono (x.mono (.inr rfl))).wipe own) rd hb)
          (fun S ven en t bS er hc => by
            obtain ⟨x, g1, g2⟩ := VR.bind_ok hc
            obtain ⟨d1, S1', z1, z2, z3, _⟩ := ev_ok hC c bS er.l g1
            refine ⟨S1', ?_, z2⟩
            show (evE C c en >>= truD) S = _
            rw [bind_eq, z1]
            exact tru_ok z3 g2)
          (fun S ven en u bS er he => (ev_ok hC e bS er.r he).ok1)
          (ds := ds) (us := p.1) (rs := us) (S := S1 ++ [Ob.lst []]) (acc := []) (ua := []) .refl b1
          (fun q hq => ⟨Gw.get .app (k1 q hq).1, fun z => by
                rcases z with z | z
                · exact (k1 q hq).2 z
                · have := lt_of_get (k1 q hq).1; omega⟩)
          (r1.mono toB) (by simp) .nil (by rw [r1.length]; simpa using hlen) h2
        have g12 : Gw S1 S2 := Gw_of (fun k hk => by
          have e0 : (S1 ++ [Ob.lst []])[k]? = some S1[k] := by rw [List.getElem?_append_left hk, List.getElem?_eq_getElem hk]
          rw [x2.get k _ (by omega) e0, List.getElem?_eq_getElem hk]) (by have := x2.len; rw [List.length_append] at this; omega)
        unfold evE
        show OkB _ B S (R.bind (evIt C it en S) fun p S => noX (cmpL (ckD p.2) (fun d => bindT tg d (NL.wipeD en own)) (fun en' => evE C c en' >>= truD) (fun en' => evE C e en') S.length p.1 >>= fun _ => (pure (.ref S.length) : M D)) (S ++ [Ob.lst []])) _
        rw [q1]
        show OkB _ B S (noX (cmpL (ckD ck) (fun d => bindT tg d (NL.wipeD en own)) (fun en' => evE C c en' >>= truD) (fun en' => evE C e en') S1.length ds >>= fun _ => (pure (.ref S1.length) : M D)) (S1 ++ [Ob.lst []])) _
        have q2' : (cmpL (ckD ck) (fun d => bindT tg d (NL.wipeD en own)) (fun en' => evE C c en' >>= truD) (fun en' => evE C e en') S1.length ds >>= fun _ => (pure (.ref S1.length) : M D)) (S1 ++ [Ob.lst []]) = .ok (.ref S1.length) S2 := by
          rw [bind_eq, q2]; rfl
        unfold noX
        rw [q2']
        have q4' : Rds (fun k => B k ∨ k = S1.length) S2 acc us := by simpa using q4
        exact ⟨.ref S1.length, S2, rfl, w1.trans g12, .lst nB q3 (q4'.mono fun l o n g => ⟨fun z => n (.inl z), g⟩), fun _ _ => ⟨S1.length, acc, us, rfl, w1.len, rfl, q3, q4'⟩⟩
    · cases h
theorem evs_ok (hC : CallOk fr C CV) : ∀ (es : Es) {B : Nat → Prop} {S : Store} {ven : VEnv} {en : NL.Env} {us : List U}, Bnd B S → EnvR (fvEs es) B S ven en → evVs CV es ven = .ok us → ∃ ds S1, evEs C es en S = .ok ds S1 ∧ Gw S S1 ∧ Rds B S1 ds us
  | .nil, B, S, ven, en, us, b, r, h => by
    unfold evVs at h
    cases h
    exact ⟨[], S, by unfold evEs; rfl, .refl S, .nil⟩
  | .cons e es, B, S, ven, en, us, b, r, h => by
    unfold evVs at h
    obtain ⟨x, h1, h⟩ := VR.bind_ok h
    obtain ⟨xs, h2, h⟩ := VR.bind_ok h
    cases h
    unfold fvEs at r
    obtain ⟨d1, S1, q1, w1, r1, _⟩ := ev_ok hC e b r.l h1
    obtain ⟨ds, S2, q2, w2, r2⟩ := evs_ok hC es (b.gw w1) (r.r.gw w1) h2
    refine ⟨d1 :: ds, S2, ?_, w1.trans w2, .cons (r1.gw w2) r2⟩
    unfold evEs
    rw [bind_eq, q1]
    show (evEs C es en >>= fun xs => (pure (d1 :: xs) : M (List D))) S1 = _
    rw [bind_eq, q2]; rfl
theorem evt_ok (hC : CallOk fr C CV) : ∀ (it : NL.It) {B : Nat → Prop} {S : Store} {ven : VEnv} {en : NL.Env} {p : List U × Bool}, Bnd B S → EnvR (fvI it) B S ven en → evVt CV it ven = .ok p → ∃ ds ck S1, evIt C it en S = .ok (ds, ck) S1 ∧ Gw S S1 ∧ Rds B S1 ds p.1 ∧ CkOkV B ck S1
  | .val e, B, S, ven, en, p, b, r, h => by
    unfold evVt at h
    obtain ⟨x, h1, h⟩ := VR.bind_ok h
    unfold fvI at r
    obtain ⟨d1, S1, q1, w1, r1, _⟩ := ev_ok hC e b r h1
    unfold evIt
    rw [bind_eq, q1]
    unfold iterU at h
    split at h
    · cases r1
      rename_i r1
      cases h
      exact ⟨_, [], S1, rfl, w1, r1, ck_nil⟩
    · split at h
      · rename_i hx
        cases h
        obtain ⟨l, o, rfl, g1, n1, r1⟩ := at_sq r1 hx
        refine ⟨items o, [(l, o)], S1, ?_, w1, r1, fun p hp => by rw [List.mem_singleton.mp hp]; exact ⟨g1, n1⟩⟩
        show (match S1[l]? with | some o => R.ok (items o, [(l, o)]) S1 | none => .stuck) = _
        rw [g1]
      · cases h
  | .rng1 b', B, S, ven, en, p, b, r, h => by
    unfold evVt at h
    obtain ⟨y, h1, h⟩ := VR.bind_ok h
    obtain ⟨xs, h2, h⟩ := VR.bind_ok h
    cases h
    unfold fvI at r
    obtain ⟨d1, S1, q1, w1, r1, _⟩ := ev_ok hC b' b r h1
    obtain ⟨ds, q2, r2⟩ := rng_ok (.int 0) r1 h2
    refine ⟨ds, [], S1, ?_, w1, r2 _ _, ck_nil⟩
    unfold evIt
    rw [bind_eq, q1]
    show (rngD (.int 0) d1 >>= fun xs => (pure (xs, []) : M (List D × List (Nat × Ob)))) S1 = _
    rw [bind_eq, q2]; rfl
  | .rng2 a b', B, S, ven, en, p, b, r, h => by
    unfold evVt at h
    obtain ⟨x, h0, h⟩ := VR.bind_ok h
    obtain ⟨y, h1, h⟩ := VR.bind_ok h
    obtain ⟨xs, h2, h⟩ := VR.bind_ok h
    cases h
    unfold fvI at r
    obtain ⟨d0, S0, q0, w0, r0, _⟩ := ev_ok hC a b r.l h0
    obtain ⟨d1, S1, q1, w1, r1, _⟩ := ev_ok hC b' (b.gw w0) (r.r.gw w0) h1
    obtain ⟨ds, q2, r2⟩ := rng_ok (r0.gw w1) r1 h2
    refine ⟨ds, [], S1, ?_, w0.trans w1, r2 _ _, ck_nil⟩
    unfold evIt
    rw [bind_eq, q0]
    show (evE C b' en >>= fun y => rngD d0 y >>= fun xs => (pure (xs, []) : M (List D × List (Nat × Ob)))) S0 = _
    rw [bind_eq, q1]
    show (rngD d0 d1 >>= fun xs => (pure (xs, []) : M (List D × List (Nat × Ob)))) S1 = _
    rw [bind_eq, q2]; rfl
  | .enm e, B, S, ven, en, p, b, r, h => by
    unfold evVt at h
    obtain ⟨x, h1, h⟩ := VR.bind_ok h
    obtain ⟨xs, h2, h⟩ := VR.bind_ok h
    cases h
    unfold fvI at r
    obtain ⟨d1, S1, q1, w1, r1, _⟩ := ev_ok hC e b r h1
    obtain ⟨ds, ck, q2, r2, k2⟩ := enm_rd r1 h2
    refine ⟨ds, ck, S1, ?_, w1, r2, k2⟩
    unfold evIt
    rw [bind_eq, q1]
    exact q2
  | .zip a b', B, S, ven, en, p, b, r, h => by
    unfold evVt at h
    obtain ⟨x, h0, h⟩ := VR.bind_ok h
    obtain ⟨y, h1, h⟩ := VR.bind_ok h
    obtain ⟨xs, h2, h⟩ := VR.bind_ok h
    cases h
    unfold fvI at r
    obtain ⟨d0, S0, q0, w0, r0, _⟩ := ev_ok hC a b r.l h0
    obtain ⟨d1, S1, q1, w1, r1, _⟩ := ev_ok hC b' (b.gw w0) (r.r.gw w0) h1
    obtain ⟨ds, ck, q2, r2, k2⟩ := zip_rd (r0.gw w1) r1 h2
    refine ⟨ds, ck, S1, ?_, w0.trans w1, r2, k2⟩
    unfold evIt
    rw [bind_eq, q0]
    show (evE C b' en >>= fun y => zipM d0 y) S0 = _
    rw [bind_eq, q1]
    exact q2
end
end
end VL

/-! Statements over trees. -/
namespace VL
open PySem PySem.Spec PyProof.Rows L2 NL
inductive VF where
  | nx (en : VEnv) | brk (en : VEnv) | cnt (en : VEnv) | ret (w : Bool) (u : U)
def low (en : VEnv) (i : Nat) : VEnv := match en[i]? with
  | some (some p) => en.set i (some (false, p.2))
  | _ => en
/-- their lists are no longer their own -/
def unown (en : VEnv) : List Nat → VEnv
  | [] => en
  | i :: is => unown (low en i) is
def isL : U → Bool
  | .lst _ => true
  | _ => false
/-- nothing of what stood may lie within -/
def keeps (w : Bool) (u : U) : Bool := noL u || (w && match u with | .lst us => noLs us | _ => false)
def leak (w : Bool) (u : U) (is : List Nat) (en : VEnv) : VEnv := if keeps w u = true then en else unown en is
def leaks (us : List U) (is : List Nat) (en : VEnv) : VEnv := if noLs us = true then en else unown en is
/-- an own list -/
def ownV (en : VEnv) (i : Nat) : VR (List U) := match en[i]? with
  | some (some (true, .lst us)) => .ok us
  | _ => .stuck
def intV (en : VEnv) (i : Nat) : VR Int := match en[i]? with
  | some (some (_, .int x)) => .ok x
  | _ => .stuck
def toI : U → VR Int
  | .int x => .ok x
  | _ => .stuck
def ownR (en : VEnv) : E → Bool
  | .var i => (match en[i]? with | some (some p) => p.1 | _ => false)
  | _ => false
def forV (bnd : U → VEnv → VR VEnv) (b : VEnv → VR VF) : List U → VEnv → VR VF
  | [], en => .ok (.nx en)
  | x :: xs, en => (bnd x en).bind fun en1 => (b en1).bind fun f => match f with
    | .nx en' => forV bnd b xs en'
    | .cnt en' => forV bnd b xs en'
    | .brk en' => .ok (.nx en')
    | f => .ok f
def whlV (c : VEnv → VR Bool) (b : VEnv → VR VF) : Nat → VEnv → VR VF
  | 0, _ => .stuck
  | n + 1, en => (c en).bind fun t => if t = true then (b en).bind fun f => match f with
    | .nx en' => whlV c b n en'
    | .cnt en' => whlV c b n en'
    | .brk en' => .ok (.nx en')
    | f => .ok f else .ok (.nx en)
section
variable (fr : Nat → Bool) (C : Nat → List U → VR U)
mutual
noncomputable def exV : NL.St → VEnv → VR VF
  | .set i e, en => (evV C e en).bind fun u => .ok (.nx ((leak (freshE fr e && isL u) u (fvE e) en).set i (some (freshE fr e && isL u, u))))
  | .unp is e, en => (evV C e en).bind fun u => (unpU is.length u).bind fun us => .ok (.nx (setAllV (leaks us (fvE e) en) is us))
  | .setIx (.var j) i e, en => (evV C e en).bind fun v => (evV C i en).bind fun y => (toI y).bind fun k => (ownV (leak false v (fvE e) en) j).bind fun us => match ixN us.length k with
    | some n => .ok (.nx ((leak false v (fvE e) en).set j (some (true, .lst (us.set n v)))))
    | none => .stuck
  | .setIx _ _ _, _ => .stuck
  | .aug i e, en => (intV en i).bind fun x => (evV C e en).bind fun y => (toI y).bind fun y => .ok (.nx (en.set i (some (false, .int (x + y)))))
  | .expr e, en => (evV C e en).bind fun _ => .ok (.nx en)
  | .app i e, en => (ownV en i).bind fun _ => (evV C e en).bind fun u => (ownV (leak false u (fvE e) en) i).bind fun us => if us.length < sizeLine then .ok (.nx ((leak false u (fvE e) en).set i (some (true, .lst (us ++ [u]))))) else .stuck
  | .ret e, en => (evV C e en).bind fun u => .ok (.ret ((freshE fr e && isL u) || ownR en e) u)
  | .ret0, _ => .ok (.ret false .non)
  | .ifs c a b, en => (evV C c en).bind fun x => (truU x).bind fun t => if t = true then exVB a en else exVB b en
  | .for_ tg (.val e) b, en => (evV C e en).bind fun u => (iterU u).bind fun p => forV (bindV tg) (fun en' => exVB b en') p.1 (if ((!p.2 || (freshE fr e && isL u)) && noLs p.1) = true then en else unown en (fvE e))
  | .for_ tg (.enm e) b, en => (evV C e en).bind fun u => (enmU u).bind fun us => forV (bindV tg) (fun en' => exVB b en') us (unown en (fvE e))
  | .for_ tg (.zip e e') b, en => (evV C e en).bind fun u => (evV C e' en).bind fun v => (zipU u v).bind fun us => forV (bindV tg) (fun en' => exVB b en') us (unown en (fvE e ++ fvE e'))
  | .for_ tg it b, en => (evVt C it en).bind fun p => forV (bindV tg) (fun en' => exVB b en') p.1 en
  | .whl c b, en => whlV (fun en' => (evV C c en').bind truU) (fun en' => exVB b en') fuel en
  | .brk, en => .ok (.brk en)
  | .cnt, en => .ok (.cnt en)
  | .pass, en => .ok (.nx en)
  | .dead, _ => .stuck
  | .popx t i, en => (ownV en i).bind fun us => match us[us.length - 1]? with
    | some u => (match t with
      | none => .ok (.nx (en.set i (some (true, .lst us.dropLast))))
      | some t => (bindV t u (en.set i (some (true, .lst us.dropLast)))).bind fun en2 => .ok (.nx en2))
    | none => .stuck
  | .ext i e, en => (ownV en i).bind fun _ => (evV C e en).bind fun u => (lstU u).bind fun vs => (ownV (leaks vs (fvE e) en) i).bind fun us => if us.length + vs.length ≤ sizeLine then .ok (.nx ((leaks vs (fvE e) en).set i (some (true, .lst (us ++ vs))))) else .stuck
  | .clr i, en => (ownV en i).bind fun _ => .ok (.nx (en.set i (some (true, .lst []))))
noncomputable def exVB : Sts → VEnv → VR VF
  | .nil, en => .ok (.nx en)
  | .cons s r, en => (exV s en).bind fun f => match f with
    | .nx en' => exVB r en'
    | f => .ok f
end
end
noncomputable def runV (fr : Nat → Bool) (C : Nat → List U → VR U) (w : Bool) (f : Fn) (us : List U) : VR U :=
  if us.length = f.np then match exVB fr C f.body (us.map (fun u => some (false, u)) ++ List.replicate (f.nv - f.np) none) with
    | .ok (.nx _) => .ok .non
    | .ok (.ret o u) => if (w && isL u && !o) = true then .stuck else .ok u
    | .exc c u => .exc c u
    | _ => .stuck
  else .stuck
/-- a call, at most n deep; fr: whose lists are new -/
noncomputable def callV (T : Nat → Option Fn) (fr : Nat → Bool) : Nat → Nat → List U → VR U
  | 0, _, _ => .stuck
  | n + 1, f, us => match T f with
    | some fn => runV fr (callV T fr n) (fr f) fn us
    | none => .stuck

/-! ### they are the store's -/
structure EnvOk (A0 A : Nat → Prop) (b : Nat) (S : Store) (ven : VEnv) (en : NL.Env) : Prop where
  len : ven.length = en.length
  own : ∀ (i : Nat) (u : U), ven[i]? = some (some (true, u)) → ∃ (l : Nat) (xs : List D) (us : List U), en[i]? = some (some (D.ref l)) ∧ u = U.lst us ∧ A l ∧ S[l]? = some (Ob.lst xs) ∧ Rds (fun k => A0 k ∨ A k) S xs us
  get : ∀ (i : Nat) (u : U), ven[i]? = some (some (false, u)) → ∃ (d : D), en[i]? = some (some d) ∧ Rd (fun k => A0 k ∨ A k) S d u
  inj : ∀ (i j : Nat) (u v : U) (l : Nat), ven[i]? = some (some (true, u)) → ven[j]? = some (some (true, v)) → en[i]? = some (some (D.ref l)) → en[j]? = some (some (D.ref l)) → i = j
  bA : ∀ l, A l → b ≤ l ∧ l < S.length
  b0 : ∀ l, A0 l → l < b
  bS : b ≤ S.length
structure Fra (A : Nat → Prop) (S : Store) (A' : Nat → Prop) (S' : Store) : Prop where
  len : S.length ≤ S'.length
  get : ∀ (l : Nat) (o : Ob), ¬ A l → S[l]? = some o → S'[l]? = some o
  sub : ∀ l, A' l → A l ∨ S.length ≤ l
section
variable {A0 A A' A1 A2 : Nat → Prop} {b : Nat} {S S' S1 S2 : Store} {ven : VEnv} {en : NL.Env}
theorem Fra.refl : Fra A S A S := ⟨Nat.le_refl _, fun _ _ _ h => h, fun _ h => .inl h⟩
theorem Fra.trans (a : Fra A S A1 S1) (c : Fra A1 S1 A2 S2) : Fra A S A2 S2 := by
  refine ⟨Nat.le_trans a.len c.len, fun l o n h => c.get l o (fun z => ?_) (a.get l o n h), fun l z => ?_⟩
  · rcases a.sub l z with y | y
    · exact n y
    · have := lt_of_get h; omega
  · rcases c.sub l z with y | y
    · exact a.sub l y
    · have := a.len; exact .inr (by omega)
theorem Fra.gw (g : Gw S S') : Fra A S A S' := ⟨g.len, fun l o _ h => g.get h, fun _ h => .inl h⟩
theorem Fra.mono (f : Fra A S A' S') (b0 : ∀ l, A0 l → l < S.length) : ∀ l o, ¬ (A0 l ∨ A l) → S[l]? = some o → ¬ (A0 l ∨ A' l) ∧ S'[l]? = some o := fun l o n h => ⟨fun z => by
  rcases z with z | z
  · exact n (.inl z)
  · rcases f.sub l z with y | y
    · exact n (.inr y)
    · have := lt_of_get h; omega, f.get l o (fun z => n (.inr z)) h⟩
theorem EnvOk.b0S (h : EnvOk A0 A b S ven en) : ∀ l, A0 l → l < S.length := fun l z => Nat.lt_of_lt_of_le (h.b0 l z) h.bS
theorem EnvOk.gw (h : EnvOk A0 A b S ven en) (g : Gw S S') : EnvOk A0 A b S' ven en := by
  refine ⟨h.len, fun i u e => ?_, fun i u e => ?_, h.inj, fun l z => ?_, h.b0, Nat.le_trans h.bS g.len⟩
  · obtain ⟨l, xs, us, h1, h2, h3, h4, h5⟩ := h.own i u e
    exact ⟨l, xs, us, h1, h2, h3, g.get h4, h5.gw g⟩
  · obtain ⟨d, h1, h2⟩ := h.get i u e
    exact ⟨d, h1, h2.gw g⟩
  · have := h.bA l z; have := g.len; omega
/-- the places that the own lists of these names are not -/
def Oth (A0 A : Nat → Prop) (is : List Nat) (ven : VEnv) (en : NL.Env) : Nat → Prop := fun k => A k ∧ ¬ ∃ i ∈ is, ∃ u, ven[i]? = some (some (true, u)) ∧ en[i]? = some (some (D.ref k))
theorem EnvOk.envR (h : EnvOk A0 A b S ven en) (is : List Nat) : EnvR is (fun k => A0 k ∨ Oth A0 A is ven en k) S ven en := by
  refine ⟨h.len, fun i hi w u e => ?_⟩
  have m : ∀ l o, ¬ (A0 l ∨ A l) → S[l]? = some o → ¬ (A0 l ∨ Oth A0 A is ven en l) ∧ S[l]? = some o := fun l o n g => ⟨fun z => n (z.imp id (fun z => z.1)), g⟩
  cases w with
  | false =>
    obtain ⟨d, h1, h2⟩ := h.get i u e
    exact ⟨d, h1, h2.mono m⟩
  | true =>
    obtain ⟨l, xs, us, h1, h2, h3, h4, h5⟩ := h.own i u e
    subst h2
    refine ⟨_, h1, .lst ?_ h4 (h5.mono m)⟩
    rintro (z | z)
    · have := h.b0 l z; have := (h.bA l h3).1; omega
    · exact z.2 ⟨i, hi, _, e, h1⟩
theorem EnvOk.bnd (h : EnvOk A0 A b S ven en) (is : List Nat) : Bnd (fun k => A0 k ∨ Oth A0 A is ven en k) S := fun l z => by
  rcases z with z | z
  · exact h.b0S l z
  · exact (h.bA l z.1).2
theorem low_len {i : Nat} : (low ven i).length = ven.length := by
  unfold low
  split
  · rw [List.length_set]
  · rfl
theorem low_same {i : Nat} {w : Bool} {u : U} (e : ven[i]? = some (some (w, u))) : (low ven i)[i]? = some (some (false, u)) := by
  unfold low
  rw [e]
  exact List.getElem?_set_self (List.getElem?_eq_some_iff.mp e).1
theorem low_back {i j : Nat} {w : Bool} {u : U} (e : (low ven i)[j]? = some (some (w, u))) : ∃ w', ven[j]? = some (some (w', u)) ∧ (w = true → w' = true ∧ i ≠ j) := by
  unfold low at e
  split at e
  · rename_i p hp
    by_cases hij : i = j
    · subst hij
      rw [List.getElem?_set_self (List.getElem?_eq_some_iff.mp hp).1] at e
      cases e
      exact ⟨p.1, hp, fun z => by cases z⟩
    · rw [List.getElem?_set_ne hij] at e
      exact ⟨w, e, fun z => ⟨z, hij⟩⟩
  · rename_i hn
    refine ⟨w, e, fun z => ⟨z, fun hij => ?_⟩⟩
    subst hij
    exact hn _ e
theorem unown_len : ∀ {is : List Nat} {ven : VEnv}, (unown ven is).length = ven.length
  | [], _ => rfl
  | i :: is, ven => by
    unfold unown
    rw [unown_len, low_len]
theorem unown_back : ∀ {is : List Nat} {ven : VEnv} {j : Nat} {w : Bool} {u : U}, (unown ven is)[j]? = some (some (w, u)) → ∃ w', ven[j]? = some (some (w', u)) ∧ (w = true → w' = true ∧ j ∉ is)
  | [], ven, j, w, u, e => ⟨w, e, fun z => ⟨z, by simp⟩⟩
  | i :: is, ven, j, w, u, e => by
    unfold unown at e
    obtain ⟨w1, e1, k1⟩ := unown_back (is := is) e
    obtain ⟨w2, e2, k2⟩ := low_back e1
    refine ⟨w2, e2, fun z => ?_⟩
    obtain ⟨z1, z2⟩ := k1 z
    obtain ⟨z3, z4⟩ := k2 z1
    refine ⟨z3, fun hm => ?_⟩
    rcases List.mem_cons.mp hm with e | hm
    · exact z4 e.symm
    · exact z2 hm
/-- names that give up their own lists -/
theorem EnvOk.unown (h : EnvOk A0 A b S ven en) (is : List Nat) : EnvOk A0 (Oth A0 A is ven en) b S (VL.unown ven is) en := by
  have m : ∀ l o, ¬ (A0 l ∨ A l) → S[l]? = some o → ¬ (A0 l ∨ Oth A0 A is ven en l) ∧ S[l]? = some o := fun l o n g => ⟨fun z => n (z.imp id (fun z => z.1)), g⟩
  refine ⟨by rw [unown_len]; exact h.len, fun i u e => ?_, fun i u e => ?_, fun i j u v l e1 e2 g1 g2 => ?_, fun l z => h.bA l z.1, h.b0, h.bS⟩
  · obtain ⟨w', e', k⟩ := unown_back e
    obtain ⟨rfl, hi⟩ := k rfl
    obtain ⟨l, xs, us, h1, h2, h3, h4, h5⟩ := h.own i u e'
    refine ⟨l, xs, us, h1, h2, ⟨h3, ?_⟩, h4, h5.mono m⟩
    rintro ⟨j, hj, v, q1, q2⟩
    have := h.inj i j u v l e' q1 h1 q2
    subst this
    exact hi hj
  · obtain ⟨w', e', k⟩ := unown_back e
    by_cases hi : i ∈ is
    · obtain ⟨d, h1, h2⟩ := (h.envR is).get i hi w' u e'
      exact ⟨d, h1, h2⟩
    · cases w' with
      | false =>
        obtain ⟨d, h1, h2⟩ := h.get i u e'
        exact ⟨d, h1, h2.mono m⟩
      | true =>
        -- only names of is lose theirs
        exfalso
        clear k
        have key : ∀ {is : List Nat} {ven : VEnv}, i ∉ is → ven[i]? = some (some (true, u)) → (VL.unown ven is)[i]? = some (some (true, u)) := by
          intro is
          induction is with
          | nil => intro ven _ e; exact e
          | cons j is ih =>
            intro ven hn e
            unfold VL.unown
            refine ih (fun z => hn (List.mem_cons_of_mem _ z)) ?_
            have hji : j ≠ i := fun z => hn (by rw [z]; exact List.mem_cons_self)
            unfold low
            split
            · rw [List.getElem?_set_ne hji]; exact e
            · exact e
        have := key hi e'
        rw [e] at this
        cases this
  · obtain ⟨w1, f1, k1⟩ := unown_back e1
    obtain ⟨w2, f2, k2⟩ := unown_back e2
    obtain ⟨rfl, _⟩ := k1 rfl
    obtain ⟨rfl, _⟩ := k2 rfl
    exact h.inj i j u v l f1 f2 g1 g2
theorem Fra.oth {is : List Nat} : Fra A S (Oth A0 A is ven en) S := ⟨Nat.le_refl _, fun _ _ _ h => h, fun _ h => .inl h.1⟩
/-- a name takes a shared value -/
theorem EnvOk.set (h : EnvOk A0 A b S ven en) {d : D} {u : U} (r : Rd (fun k => A0 k ∨ A k) S d u) (i : Nat) : EnvOk A0 A b S (ven.set i (some (false, u))) (en.set i (some d)) := by
  have ne : ∀ {j : Nat} {w : Bool} {v : U}, (ven.set i (some (false, u)))[j]? = some (some (w, v)) → (i = j ∧ w = false ∧ v = u ∧ (en.set i (some d))[j]? = some (some d)) ∨ (i ≠ j ∧ ven[j]? = some (some (w, v)) ∧ (en.set i (some d))[j]? = en[j]?) := fun {j w v} e => by
    by_cases hij : i = j
    · subst hij
      by_cases hl : i < ven.length
      · rw [List.getElem?_set_self hl] at e
        cases e
        exact .inl ⟨rfl, rfl, rfl, List.getElem?_set_self (by rw [← h.len]; exact hl)⟩
      · rw [List.getElem?_eq_none (by simpa using hl)] at e; cases e
    · rw [List.getElem?_set_ne hij] at e
      exact .inr ⟨hij, e, List.getElem?_set_ne hij⟩
  refine ⟨by simp [h.len], fun j v e => ?_, fun j v e => ?_, fun j k v w l e1 e2 g1 g2 => ?_, h.bA, h.b0, h.bS⟩
  · rcases ne e with ⟨_, z, _⟩ | ⟨_, e', q⟩
    · cases z
    · rw [q]; exact h.own j v e'
  · rcases ne e with ⟨_, _, rfl, q⟩ | ⟨_, e', q⟩
    · exact ⟨d, q, r⟩
    · rw [q]; exact h.get j v e'
  · rcases ne e1 with ⟨_, z, _⟩ | ⟨_, f1, q1⟩
    · cases z
    · rcases ne e2 with ⟨_, z, _⟩ | ⟨_, f2, q2⟩
      · cases z
      · rw [q1] at g1; rw [q2] at g2
        exact h.inj j k v w l f1 f2 g1 g2
/-- a name takes a list of its own, at a place that no other own name has -/
theorem EnvOk.setOwn (h : EnvOk A0 A b S ven en) {l : Nat} {xs : List D} {us : List U} {i : Nat} {A' : Nat → Prop} (hs : ∀ k, A' k ↔ A k ∨ k = l) (hl : b ≤ l) (e0 : S[l]? = some (Ob.lst xs)) (r : Rds (fun k => A0 k ∨ A' k) S xs us)
    (mv : ∀ {d : D} {u : U}, Rd (fun k => A0 k ∨ A k) S d u → Rd (fun k => A0 k ∨ A' k) S d u) (mvs : ∀ {ds : List D} {us : List U}, Rds (fun k => A0 k ∨ A k) S ds us → Rds (fun k => A0 k ∨ A' k) S ds us)
    (fresh : ∀ j v, j ≠ i → ven[j]? = some (some (true, v)) → en[j]? ≠ some (some (D.ref l))) : EnvOk A0 A' b S (ven.set i (some (true, .lst us))) (en.set i (some (.ref l))) := by
  have ne : ∀ {j : Nat} {w : Bool} {v : U}, (ven.set i (some (true, .lst us)))[j]? = some (some (w, v)) → (i = j ∧ w = true ∧ v = U.lst us ∧ (en.set i (some (.ref l)))[j]? = some (some (D.ref l))) ∨ (i ≠ j ∧ ven[j]? = some (some (w, v)) ∧ (en.set i (some (.ref l)))[j]? = en[j]?) := fun {j w v} e => by
    by_cases hij : i = j
    · subst hij
      by_cases hl : i < ven.length
      · rw [List.getElem?_set_self hl] at e
        cases e
        exact .inl ⟨rfl, rfl, rfl, List.getElem?_set_self (by rw [← h.len]; exact hl)⟩
      · rw [List.getElem?_eq_none (by simpa using hl)] at e; cases e
    · rw [List.getElem?_set_ne hij] at e
      exact .inr ⟨hij, e, List.getElem?_set_ne hij⟩
  refine ⟨by simp [h.len], fun j v e => ?_, fun j v e => ?_, fun j k v w l' e1 e2 g1 g2 => ?_, fun k z => ?_, h.b0, h.bS⟩
  · rcases ne e with ⟨_, _, rfl, q⟩ | ⟨_, e', q⟩
    · exact ⟨l, xs, us, q, rfl, (hs l).mpr (.inr rfl), e0, r⟩
    · obtain ⟨l', xs', us', h1, h2, h3, h4, h5⟩ := h.own j v e'
      exact ⟨l', xs', us', by rw [q]; exact h1, h2, (hs l').mpr (.inl h3), h4, mvs h5⟩
  · rcases ne e with ⟨_, z, _⟩ | ⟨_, e', q⟩
    · cases z
    · obtain ⟨d, h1, h2⟩ := h.get j v e'
      exact ⟨d, by rw [q]; exact h1, mv h2⟩
  · rcases ne e1 with ⟨i1, _, _, q1⟩ | ⟨n1, f1, q1⟩
    · rcases ne e2 with ⟨i2, _⟩ | ⟨n2, f2, q2⟩
      · exact i1.symm.trans i2
      · rw [q1] at g1; cases g1
        rw [q2] at g2
        exact absurd g2 (fresh k w (fun z => n2 z.symm) f2)
    · rcases ne e2 with ⟨i2, _, _, q2⟩ | ⟨n2, f2, q2⟩
      · rw [q2] at g2; cases g2
        rw [q1] at g1
        exact absurd g1 (fresh j v (fun z => n1 z.symm) f1)
      · rw [q1] at g1; rw [q2] at g2
        exact h.inj j k v w l' f1 f2 g1 g2
  · rcases (hs k).mp z with z | z
    · exact h.bA k z
    · subst z; exact ⟨hl, lt_of_get e0⟩
end
end VL

/-! Statements over trees are the store's. -/
namespace VL
open PySem PySem.Spec PyProof.Rows L2 NL
section
variable {A0 A A' A1 A2 : Nat → Prop} {b : Nat} {S S' S1 S2 : Store} {ven : VEnv} {en : NL.Env}
/-- what is asked of an answer that is kept -/
structure Kept (A0 A1 B : Nat → Prop) (w : Bool) (u : U) : Prop where
  sh : w = false → ∀ {S1 : Store} {d : D}, Rd B S1 d u → Rd (fun k => A0 k ∨ A1 k) S1 d u
  ow : w = true → ∀ {b' : Nat} {S1 : Store} {d : D}, FrD B b' S1 d u → ∃ l xs us, d = .ref l ∧ b' ≤ l ∧ u = .lst us ∧ S1[l]? = some (Ob.lst xs) ∧ Rds (fun k => A0 k ∨ (A1 k ∨ k = l)) S1 xs us
theorem leak_ok (h : EnvOk A0 A b S ven en) (w : Bool) (u : U) (is : List Nat) : ∃ A1, EnvOk A0 A1 b S (leak w u is ven) en ∧ Fra A S A1 S ∧ Kept A0 A1 (fun k => A0 k ∨ Oth A0 A is ven en k) w u := by
  unfold leak
  by_cases hk : keeps w u = true
  · rw [if_pos hk]
    refine ⟨A, h, .refl, fun e => ?_, fun e => ?_⟩
    · subst e
      have : noL u = true := by unfold keeps at hk; simpa using hk
      intro S1 d r
      exact r.of_noL this
    · subst e
      intro b' S1 d ⟨l, xs, us, h1, h2, h3, h4, h5⟩
      subst h3
      have : noLs us = true := by
        unfold keeps at hk
        have : noL (.lst us) = false := by unfold noL; rfl
        rw [this] at hk
        simpa using hk
      exact ⟨l, xs, us, h1, h2, rfl, h4, h5.of_noL this⟩
  · rw [if_neg hk]
    refine ⟨Oth A0 A is ven en, h.unown is, .oth, fun _ => ?_, fun _ => ?_⟩
    · intro S1 d r; exact r
    · intro b' S1 d ⟨l, xs, us, h1, h2, h3, h4, h5⟩
      refine ⟨l, xs, us, h1, h2, h3, h4, h5.mono fun k o n g => ⟨fun z => n ?_, g⟩⟩
      rcases z with z | z | z
      · exact .inl (.inl z)
      · exact .inl (.inr z)
      · exact .inr z
theorem leaks_ok (h : EnvOk A0 A b S ven en) (us : List U) (is : List Nat) : ∃ A1, EnvOk A0 A1 b S (leaks us is ven) en ∧ Fra A S A1 S ∧ ∀ {S1 : Store} {ds : List D}, Rds (fun k => A0 k ∨ Oth A0 A is ven en k) S1 ds us → Rds (fun k => A0 k ∨ A1 k) S1 ds us := by
  unfold leaks
  by_cases hk : noLs us = true
  · rw [if_pos hk]
    exact ⟨A, h, .refl, fun r => r.of_noL hk⟩
  · rw [if_neg hk]
    exact ⟨Oth A0 A is ven en, h.unown is, .oth, fun r => r⟩
theorem set_ev (h : EnvOk A0 A b S ven en) {is : List Nat} {fl : Bool} {r : R D} {u : U} (q : OkB fl (fun k => A0 k ∨ Oth A0 A is ven en k) S r u) (i : Nat) :
    ∃ d S1 A1, r = .ok d S1 ∧ EnvOk A0 A1 b S1 ((leak (fl && isL u) u is ven).set i (some (fl && isL u, u))) (en.set i (some d)) ∧ Fra A S A1 S1 := by
  obtain ⟨d, S1, h1, h2, h3, h4⟩ := q
  obtain ⟨A1, e1, f1, k1⟩ := leak_ok h (fl && isL u) u is
  cases hw : fl && isL u with
  | false =>
    rw [hw] at e1 k1
    exact ⟨d, S1, A1, h1, (e1.gw h2).set (k1.sh rfl h3) i, f1.trans (.gw h2)⟩
  | true =>
    rw [hw] at e1 k1
    rw [Bool.and_eq_true] at hw
    have hu : ∃ us, u = .lst us := by
      have := hw.2
      cases u <;> first | (exact absurd this Bool.false_ne_true) | exact ⟨_, rfl⟩
    obtain ⟨l, xs, us, g1, g2, g3, g4, g5⟩ := k1.ow rfl (h4 hw.1 hu)
    subst g1 g3
    have mv : ∀ l' o, ¬ (A0 l' ∨ A1 l') → S[l']? = some o → ¬ (A0 l' ∨ (A1 l' ∨ l' = l)) ∧ S1[l']? = some o := fun l' o n g => ⟨fun z => by
      rcases z with z | z | z
      · exact n (.inl z)
      · exact n (.inr z)
      · have := lt_of_get g; omega, h2.get g⟩
    refine ⟨_, S1, fun k => A1 k ∨ k = l, h1, ?_, ?_⟩
    · -- the reads of before avoid the new place
      refine ⟨by simp [e1.len], fun j v e => ?_, fun j v e => ?_, fun j k v w l' x1 x2 y1 y2 => ?_, fun k z => ?_, h.b0, Nat.le_trans h.bS h2.len⟩
      · by_cases hij : i = j
        · subst hij
          have hl : i < (leak true (U.lst us) is ven).length := by
            have := (List.getElem?_eq_some_iff.mp e).1; simpa using this
          rw [List.getElem?_set_self hl] at e
          cases e
          exact ⟨l, xs, us, List.getElem?_set_self (by rw [← e1.len]; exact hl), rfl, .inr rfl, g4, g5⟩
        · rw [List.getElem?_set_ne hij] at e
          obtain ⟨l', xs', us', q1, q2, q3, q4, q5⟩ := e1.own j v e
          exact ⟨l', xs', us', by rw [List.getElem?_set_ne hij]; exact q1, q2, .inl q3, h2.get q4, q5.mono mv⟩
      · by_cases hij : i = j
        · subst hij
          have hl : i < (leak true (U.lst us) is ven).length := by
            have := (List.getElem?_eq_some_iff.mp e).1; simpa using this
          rw [List.getElem?_set_self hl] at e
          cases e
        · rw [List.getElem?_set_ne hij] at e
          obtain ⟨d', q1, q2⟩ := e1.get j v e
          exact ⟨d', by rw [List.getElem?_set_ne hij]; exact q1, q2.mono mv⟩
      · have at_ : ∀ {j : Nat} {v : U} {l' : Nat}, ((leak true (U.lst us) is ven).set i (some (true, .lst us)))[j]? = some (some (true, v)) → (en.set i (some (D.ref l)))[j]? = some (some (D.ref l')) → (i = j ∧ l' = l) ∨ (i ≠ j ∧ l' < S.length ∧ (leak true (U.lst us) is ven)[j]? = some (some (true, v)) ∧ en[j]? = some (some (D.ref l'))) := fun {j v l'} x y => by
          by_cases hij : i = j
          · subst hij
            have hl : i < en.length := by
              have := (List.getElem?_eq_some_iff.mp y).1; simpa using this
            rw [List.getElem?_set_self hl] at y
            cases y
            exact .inl ⟨rfl, rfl⟩
          · rw [List.getElem?_set_ne hij] at x y
            obtain ⟨l2, xs', us', q1, q2, q3, q4, q5⟩ := e1.own j v x
            rw [q1] at y
            cases y
            exact .inr ⟨hij, lt_of_get q4, x, q1⟩
        rcases at_ x1 y1 with ⟨i1, i2⟩ | ⟨i1, i2, i3, i4⟩
        · rcases at_ x2 y2 with ⟨j1, j2⟩ | ⟨j1, j2, j3, j4⟩
          · exact i1.symm.trans j1
          · omega
        · rcases at_ x2 y2 with ⟨j1, j2⟩ | ⟨j1, j2, j3, j4⟩
          · omega
          · exact e1.inj j k v w l' i3 j3 i4 j4
      · rcases z with z | z
        · have := e1.bA k z; have := h2.len; omega
        · subst z
          have := lt_of_get g4
          have := h.bS
          omega
    · refine f1.trans ⟨h2.len, fun l' o _ g => h2.get g, fun k z => ?_⟩
      rcases z with z | z
      · exact .inl z
      · subst z; exact .inr g2
theorem EnvOk.setAll : ∀ {ks : List Nat} {ds : List D} {us : List U} {ven : VEnv} {en : NL.Env}, EnvOk A0 A b S ven en → Rds (fun k => A0 k ∨ A k) S ds us → EnvOk A0 A b S (setAllV ven ks us) (NL.setAll en ks ds)
  | [], _, _, _, _, h, _ => by unfold setAllV NL.setAll; exact h
  | k :: ks, _, _, _, _, h, .nil => by unfold setAllV NL.setAll; exact h
  | k :: ks, _, _, _, _, h, .cons a r => by
    unfold setAllV NL.setAll
    exact EnvOk.setAll (h.set a k) r
theorem bindE_ok {tg : Tg} {d : D} {u : U} {ven' : VEnv} (h : EnvOk A0 A b S ven en) (r : Rd (fun k => A0 k ∨ A k) S d u) (hb : bindV tg u ven = .ok ven') : ∃ en', NL.bindT tg d en S = .ok en' S ∧ EnvOk A0 A b S ven' en' := by
  cases tg with
  | nm i => cases hb; exact ⟨_, rfl, h.set r i⟩
  | tp ks =>
    obtain ⟨us, h1, h2⟩ := VR.bind_ok hb
    cases h2
    obtain ⟨ds, h3, h4⟩ := unp_ok r h1
    refine ⟨NL.setAll en ks ds, ?_, h.setAll h4⟩
    show (unpD ks.length d >>= fun ds => (pure (NL.setAll en ks ds) : M NL.Env)) S = _
    rw [bind_eq, h3]; rfl
/-- an own list is written -/
theorem EnvOk.mut (h : EnvOk A0 A b S ven en) {i : Nat} {us us' : List U} (hi : ven[i]? = some (some (true, U.lst us))) {l : Nat} (hl : en[i]? = some (some (D.ref l))) (hA : A l) (hlt : l < S.length) {xs' : List D} (r : Rds (fun k => A0 k ∨ A k) S xs' us') :
    EnvOk A0 A b (S.set l (.lst xs')) (ven.set i (some (true, .lst us'))) en := by
  have mv : ∀ l' o, ¬ (A0 l' ∨ A l') → S[l']? = some o → ¬ (A0 l' ∨ A l') ∧ (S.set l (.lst xs'))[l']? = some o := fun l' o n g => ⟨n, by
    rw [List.getElem?_set_ne (fun e => n (.inr (by rw [← e]; exact hA)))]; exact g⟩
  have iv : i < ven.length := (List.getElem?_eq_some_iff.mp hi).1
  refine ⟨by simp [h.len], fun j v e => ?_, fun j v e => ?_, fun j k v w l' x1 x2 y1 y2 => ?_, fun k z => ?_, h.b0, by simp [h.bS]⟩
  · by_cases hij : i = j
    · subst hij
      rw [List.getElem?_set_self iv] at e
      cases e
      exact ⟨l, xs', us', hl, rfl, hA, List.getElem?_set_self hlt, r.mono mv⟩
    · rw [List.getElem?_set_ne hij] at e
      obtain ⟨l', ys, vs, q1, q2, q3, q4, q5⟩ := h.own j v e
      have hne : l ≠ l' := fun z => hij (by subst z; exact h.inj i j _ _ l hi e hl q1)
      exact ⟨l', ys, vs, q1, q2, q3, by rw [List.getElem?_set_ne hne]; exact q4, q5.mono mv⟩
  · by_cases hij : i = j
    · subst hij
      rw [List.getElem?_set_self iv] at e
      cases e
    · rw [List.getElem?_set_ne hij] at e
      obtain ⟨d, q1, q2⟩ := h.get j v e
      exact ⟨d, q1, q2.mono mv⟩
  · have back : ∀ {j : Nat} {v : U}, (ven.set i (some (true, .lst us')))[j]? = some (some (true, v)) → ∃ v', ven[j]? = some (some (true, v')) := fun {j v} x => by
      by_cases hij : i = j
      · subst hij; exact ⟨_, hi⟩
      · rw [List.getElem?_set_ne hij] at x; exact ⟨v, x⟩
    obtain ⟨v', x1'⟩ := back x1
    obtain ⟨w', x2'⟩ := back x2
    exact h.inj j k v' w' l' x1' x2' y1 y2
  · have := h.bA k z; simpa using this
theorem Fra.mut {l : Nat} {o : Ob} (hA : A l) : Fra A S A (S.set l o) := ⟨by simp, fun l' o' n g => by rw [List.getElem?_set_ne (fun e => n (by rw [← e]; exact hA))]; exact g, fun _ h => .inl h⟩
theorem ownV_ok {i : Nat} {us : List U} (e : ownV ven i = .ok us) : ven[i]? = some (some (true, U.lst us)) := by
  unfold ownV at e
  split at e
  · rename_i hu; cases e; exact hu
  · cases e
theorem toI_ok {B : Nat → Prop} {d : D} {u : U} {x : Int} (r : Rd B S d u) (e : toI u = .ok x) : d = .int x := by
  cases r <;> first | (cases e; done) | skip
  cases e; rfl
def FlowOk (A0 A : Nat → Prop) (b : Nat) (S : Store) : VF → NL.Flow → Store → Prop
  | .nx v, .nx e, S' => ∃ A', EnvOk A0 A' b S' v e ∧ Fra A S A' S'
  | .brk v, .brk e, S' => ∃ A', EnvOk A0 A' b S' v e ∧ Fra A S A' S'
  | .cnt v, .cnt e, S' => ∃ A', EnvOk A0 A' b S' v e ∧ Fra A S A' S'
  | .ret w u, .ret d, S' => (∃ A', Fra A S A' S') ∧ Rd A0 S' d u ∧ (w = true → FrD A0 b S' d u)
  | _, _, _ => False
theorem FlowOk.trans {f : VF} {g : NL.Flow} (a : Fra A S A1 S1) (h : FlowOk A0 A1 b S1 f g S2) : FlowOk A0 A b S f g S2 := by
  cases f <;> cases g <;> first | (exact h.elim) | skip
  · obtain ⟨A', h1, h2⟩ := h; exact ⟨A', h1, a.trans h2⟩
  · obtain ⟨A', h1, h2⟩ := h; exact ⟨A', h1, a.trans h2⟩
  · obtain ⟨A', h1, h2⟩ := h; exact ⟨A', h1, a.trans h2⟩
  · obtain ⟨⟨A', h1⟩, h2⟩ := h; exact ⟨⟨A', a.trans h1⟩, h2⟩
end
theorem lift_ok {α : Type} {en : NL.Env} {m : M α} {k : α → M NL.Flow} {S S1 : Store} {a : α} (h : m S = .ok a S1) : lift en m k S = k a S1 := by
  unfold lift; rw [h]
section
variable {fr : Nat → Bool} {C : Nat → List D → M D} {CV : Nat → List U → VR U}
abbrev ExOk (A0 : Nat → Prop) (b : Nat) (g : VEnv → VR VF) (m : NL.Env → M NL.Flow) : Prop := ∀ {A : Nat → Prop} {S : Store} {ven : VEnv} {en : NL.Env} {f : VF}, EnvOk A0 A b S ven en → g ven = .ok f → ∃ fl S', m en S = .ok fl S' ∧ FlowOk A0 A b S f fl S'
theorem for_ok {A0 : Nat → Prop} {b : Nat} {tg : Tg} {g : VEnv → VR VF} {m : NL.Env → M NL.Flow} (hb : ExOk A0 b g m) {ck : List (Nat × Ob)} : ∀ {us : List U} {ds : List D} {A : Nat → Prop} {S : Store} {ven : VEnv} {en : NL.Env} {f : VF}, EnvOk A0 A b S ven en → Rds (fun k => A0 k ∨ A k) S ds us → CkOkV (fun k => A0 k ∨ A k) ck S → forV (bindV tg) g us ven = .ok f →
    ∃ fl S', forL (ckD ck) (fun d en' => bindT tg d en') m ds en S = .ok fl S' ∧ FlowOk A0 A b S f fl S'
  | [], _, A, S, ven, en, f, h, .nil, k, e => by
    cases e
    refine ⟨.nx en, S, ?_, A, h, .refl⟩
    unfold forL
    exact lift_ok (ck_run k)
  | u :: us, d :: ds, A, S, ven, en, f, h, .cons a r, k, e => by
    unfold forV at e
    obtain ⟨ven1, e1, e⟩ := VR.bind_ok e
    obtain ⟨f1, e2, e⟩ := VR.bind_ok e
    obtain ⟨en1, q1, h1⟩ := bindE_ok h a e1
    obtain ⟨fl1, S1, q2, o1⟩ := hb h1 e2
    have step : forL (ckD ck) (fun d en' => bindT tg d en') m (d :: ds) en S = (m en1 >>= fun f => match f with
        | .nx en' => forL (ckD ck) (fun d en' => bindT tg d en') m ds en'
        | .cnt en' => forL (ckD ck) (fun d en' => bindT tg d en') m ds en'
        | .brk en' => pure (.nx en')
        | f => pure f) S := by
      rw [forL]
      exact lift_ok (by rw [bind_eq, ck_run k]; exact q1)
    rw [step, bind_eq, q2]
    have go : ∀ {A1 : Nat → Prop} {v : VEnv} {en2 : NL.Env}, EnvOk A0 A1 b S1 v en2 → Fra A S A1 S1 → forV (bindV tg) g us v = .ok f → ∃ fl S', forL (ckD ck) (fun d en' => bindT tg d en') m ds en2 S1 = .ok fl S' ∧ FlowOk A0 A b S f fl S' := fun {A1 v en2} h2 fa e => by
      have mv := fa.mono h.b0S
      have ck2 : CkOkV (fun k => A0 k ∨ A1 k) ck S1 := by
        clear step
        exact fun p hp => ⟨(mv _ _ (k p hp).2 (k p hp).1).2, (mv _ _ (k p hp).2 (k p hp).1).1⟩
      obtain ⟨fl, S', q, o⟩ := for_ok hb (us := us) h2 (r.mono mv) ck2 e
      exact ⟨fl, S', q, .trans fa o⟩
    cases f1 <;> cases fl1 <;> first | (exact o1.elim) | skip
    · obtain ⟨A1, h2, fa⟩ := o1
      exact go h2 fa e
    · obtain ⟨A1, h2, fa⟩ := o1
      cases e
      exact ⟨_, S1, rfl, A1, h2, fa⟩
    · obtain ⟨A1, h2, fa⟩ := o1
      exact go h2 fa e
    · cases e
      exact ⟨_, S1, rfl, o1⟩
theorem whl_ok {A0 : Nat → Prop} {b : Nat} {cV : VEnv → VR Bool} {c : NL.Env → M Bool} {g : VEnv → VR VF} {m : NL.Env → M NL.Flow}
    (hc : ∀ {A : Nat → Prop} {S : Store} {ven : VEnv} {en : NL.Env} {t : Bool}, EnvOk A0 A b S ven en → cV ven = .ok t → ∃ S1, c en S = .ok t S1 ∧ Gw S S1) (hb : ExOk A0 b g m) :
    ∀ {n : Nat} {A : Nat → Prop} {S : Store} {ven : VEnv} {en : NL.Env} {f : VF}, EnvOk A0 A b S ven en → whlV cV g n ven = .ok f → ∃ fl S', whlL c m n en S = .ok fl S' ∧ FlowOk A0 A b S f fl S'
  | 0, A, S, ven, en, f, h, e => by cases e
  | n + 1, A, S, ven, en, f, h, e => by
    unfold whlV at e
    obtain ⟨t, e1, e⟩ := VR.bind_ok e
    obtain ⟨S1, q1, w1⟩ := hc h e1
    rw [whlL, lift_ok q1]
    have h1 := h.gw w1
    by_cases ht : t = true
    · rw [if_pos ht] at e ⊢
      obtain ⟨f1, e2, e⟩ := VR.bind_ok e
      obtain ⟨fl1, S2, q2, o1⟩ := hb h1 e2
      rw [bind_eq, q2]
      cases f1 <;> cases fl1 <;> first | (exact o1.elim) | skip
      · obtain ⟨A1, h2, fa⟩ := o1
        obtain ⟨fl, S', q, o⟩ := whl_ok hc hb h2 e
        exact ⟨fl, S', q, .trans ((Fra.gw w1).trans fa) o⟩
      · obtain ⟨A1, h2, fa⟩ := o1
        cases e
        exact ⟨_, S2, rfl, A1, h2, (Fra.gw w1).trans fa⟩
      · obtain ⟨A1, h2, fa⟩ := o1
        obtain ⟨fl, S', q, o⟩ := whl_ok hc hb h2 e
        exact ⟨fl, S', q, .trans ((Fra.gw w1).trans fa) o⟩
      · cases e
        exact ⟨_, S2, rfl, .trans (.gw w1) o1⟩
    · rw [if_neg ht] at e ⊢
      cases e
      exact ⟨_, S1, rfl, A, h1, .gw w1⟩
theorem evE_at (hC : CallOk fr C CV) {A0 A : Nat → Prop} {b : Nat} {S : Store} {ven : VEnv} {en : NL.Env} (h : EnvOk A0 A b S ven en) {e : E} {u : U} (q : evV CV e ven = .ok u) : OkB (freshE fr e) (fun k => A0 k ∨ Oth A0 A (fvE e) ven en k) S (evE C e en S) u :=
  ev_ok hC e (h.bnd _) (h.envR _) q
mutual
theorem ex_ok (hC : CallOk fr C CV) {A0 : Nat → Prop} {b : Nat} : ∀ (s : NL.St), ExOk A0 b (exV fr CV s) (exS C s)
  | .set i e, A, S, ven, en, f, h, q => by
    unfold exV at q
    obtain ⟨u, q1, q⟩ := VR.bind_ok q
    cases q
    obtain ⟨d, S1, A1, g1, g2, g3⟩ := set_ev h (evE_at hC h q1) i
    refine ⟨.nx (en.set i (some d)), S1, ?_, A1, g2, g3⟩
    unfold exS
    exact lift_ok g1
  | .unp is e, A, S, ven, en, f, h, q => by
    unfold exV at q
    obtain ⟨u, q1, q⟩ := VR.bind_ok q
    obtain ⟨us, q2, q⟩ := VR.bind_ok q
    cases q
    obtain ⟨d, S1, g1, w1, r1, _⟩ := evE_at hC h q1
    obtain ⟨ds, g2, r2⟩ := unp_ok r1 q2
    obtain ⟨A1, e1, f1, k1⟩ := leaks_ok h us (fvE e)
    refine ⟨.nx (NL.setAll en is ds), S1, ?_, A1, (e1.gw w1).setAll (k1 r2), f1.trans (.gw w1)⟩
    unfold exS
    exact lift_ok (by rw [bind_eq, g1]; exact g2)
  | .setIx o i e, A, S, ven, en, f, h, q => by
    cases o <;> unfold exV at q <;> first | (cases q; done) | skip
    rename_i j
    obtain ⟨v, q1, q⟩ := VR.bind_ok q
    obtain ⟨y, q2, q⟩ := VR.bind_ok q
    obtain ⟨k, q3, q⟩ := VR.bind_ok q
    obtain ⟨us, q4, q⟩ := VR.bind_ok q
    split at q
    · rename_i n hn
      cases q
      obtain ⟨dv, S1, g1, w1, r1, _⟩ := evE_at hC h q1
      obtain ⟨dy, S2, g2, w2, r2, _⟩ := evE_at hC (h.gw w1) q2
      have hk := toI_ok r2 q3
      subst hk
      obtain ⟨A1, e1, f1, k1⟩ := leak_ok h false v (fvE e)
      have e2 := (e1.gw w1).gw w2
      have hi := ownV_ok q4
      obtain ⟨l, xs, us', p1, p2, p3, p4, p5⟩ := e2.own j _ hi
      cases p2
      refine ⟨.nx en, S2.set l (.lst (xs.set n dv)), ?_, A1, e2.mut hi p1 p3 (lt_of_get p4) (p5.set ((k1.sh rfl r1).gw w2) n), (f1.trans ((Fra.gw w1).trans (.gw w2))).trans (.mut p3)⟩
      unfold exS
      refine lift_ok (a := ()) ?_
      rw [bind_eq, g1]
      show (evE C (.var j) en >>= fun x => evE C i en >>= fun y => setIxD x y dv) S1 = _
      have ev : evE C (.var j) en = pure (.ref l) := by unfold evE; rw [p1]
      rw [ev]
      show (evE C i en >>= fun y => setIxD (.ref l) y dv) S1 = _
      rw [bind_eq, g2]
      show (getM l >>= fun xs => match ixN xs.length k with | some j => (fun S => R.ok () (S.set l (.lst (xs.set j dv))) : M Unit) | none => die) S2 = _
      have gm : getM l S2 = .ok xs S2 := by unfold getM; rw [p4]
      rw [bind_eq, gm]
      show (match ixN xs.length k with | some j => (fun S => R.ok () (S.set l (.lst (xs.set j dv))) : M Unit) | none => die) S2 = _
      rw [p5.length, hn]
    · cases q
  | .aug i e, A, S, ven, en, f, h, q => by
    unfold exV at q
    obtain ⟨x, q1, q⟩ := VR.bind_ok q
    obtain ⟨y, q2, q⟩ := VR.bind_ok q
    obtain ⟨z, q3, q⟩ := VR.bind_ok q
    cases q
    have hx : ∃ w, ven[i]? = some (some (w, U.int x)) := by
      unfold intV at q1
      split at q1
      · rename_i w _ hx; cases q1; exact ⟨w, hx⟩
      · cases q1
    obtain ⟨w, hx⟩ := hx
    have ex : en[i]? = some (some (D.int x)) := by
      cases w with
      | true => obtain ⟨l, xs, us, _, p2, _⟩ := h.own i _ hx; cases p2
      | false =>
        obtain ⟨d, p1, p2⟩ := h.get i _ hx
        cases p2
        exact p1
    obtain ⟨d, S1, g1, w1, r1, _⟩ := evE_at hC h q2
    have hz := toI_ok r1 q3
    subst hz
    refine ⟨.nx (en.set i (some (.int (x + z)))), S1, ?_, A, (h.gw w1).set (.int _) i, .gw w1⟩
    unfold exS
    rw [ex]
    exact lift_ok g1
  | .expr e, A, S, ven, en, f, h, q => by
    unfold exV at q
    obtain ⟨u, q1, q⟩ := VR.bind_ok q
    cases q
    obtain ⟨d, S1, g1, w1, r1, _⟩ := evE_at hC h q1
    refine ⟨.nx en, S1, ?_, A, h.gw w1, .gw w1⟩
    unfold exS
    exact lift_ok g1
  | .app i e, A, S, ven, en, f, h, q => by
    unfold exV at q
    obtain ⟨us0, q0, q⟩ := VR.bind_ok q
    obtain ⟨u, q1, q⟩ := VR.bind_ok q
    obtain ⟨us, q2, q⟩ := VR.bind_ok q
    split at q
    · rename_i hlen
      cases q
      have hi0 := ownV_ok q0
      obtain ⟨l0, xs0, us0', p1, _, _, p4, _⟩ := h.own i _ hi0
      obtain ⟨d, S1, g1, w1, r1, _⟩ := evE_at hC h q1
      obtain ⟨A1, e1, f1, k1⟩ := leak_ok h false u (fvE e)
      have e2 := e1.gw w1
      have hi := ownV_ok q2
      obtain ⟨l, xs, us', z1, z2, z3, z4, z5⟩ := e2.own i _ hi
      cases z2
      rw [p1] at z1
      cases z1
      refine ⟨.nx en, S1.set l0 (.lst (xs ++ [d])), ?_, A1, e2.mut hi p1 z3 (lt_of_get z4) (z5.append (.cons (k1.sh rfl r1) .nil)), (f1.trans (.gw w1)).trans (.mut z3)⟩
      unfold exS
      rw [p1]
      have gm : getM l0 S = .ok xs0 S := by unfold getM; rw [p4]
      have pu : pushD l0 d S1 = .ok () (S1.set l0 (.lst (xs ++ [d]))) := by
        unfold pushD
        rw [z4]
        exact if_pos (by rw [z5.length]; exact hlen)
      show lift en (getM l0 >>= fun _ => evE C e en) _ S = _
      rw [lift_ok (m := getM l0 >>= fun _ => evE C e en) (by rw [bind_eq, gm]; exact g1)]
      exact lift_ok pu
    · cases q
  | .ret e, A, S, ven, en, f, h, q => by
    unfold exV at q
    obtain ⟨u, q1, q⟩ := VR.bind_ok q
    cases q
    obtain ⟨d, S1, g1, w1, r1, k1⟩ := evE_at hC h q1
    refine ⟨.ret d, S1, ?_, ⟨A, .gw w1⟩, r1.mono (fun l o n g => ⟨fun z => n (.inl z), g⟩), fun hw => ?_⟩
    · unfold exS
      exact lift_ok g1
    · rw [Bool.or_eq_true, Bool.and_eq_true] at hw
      rcases hw with ⟨hf, hl⟩ | ho
      · have hu : ∃ us, u = .lst us := by cases u <;> first | (exact absurd hl Bool.false_ne_true) | exact ⟨_, rfl⟩
        obtain ⟨l, xs, us, y1, y2, y3, y4, y5⟩ := k1 hf hu
        refine ⟨l, xs, us, y1, Nat.le_trans h.bS y2, y3, y4, y5.mono fun k o n g => ⟨fun z => n ?_, g⟩⟩
        rcases z with z | z
        · exact .inl (.inl z)
        · exact .inr z
      · cases e <;> first | (exact absurd ho Bool.false_ne_true) | skip
        rename_i i
        have ho' : ∃ v, ven[i]? = some (some (true, v)) := by
          unfold ownR at ho
          dsimp only at ho
          cases hp : ven[i]? with
          | none => rw [hp] at ho; exact absurd ho Bool.false_ne_true
          | some p =>
            cases p with
            | none => rw [hp] at ho; exact absurd ho Bool.false_ne_true
            | some p =>
              rw [hp] at ho
              obtain ⟨w, v⟩ := p
              have ho : w = true := ho
              subst ho
              exact ⟨v, rfl⟩
        obtain ⟨v, hp⟩ := ho'
        · skip
          obtain ⟨l, xs, us, y1, y2, y3, y4, y5⟩ := h.own i _ hp
          have hv : evV CV (.var i) ven = .ok v := by unfold evV getV; rw [hp]
          rw [hv] at q1
          cases q1
          have hd : evE C (.var i) en S = .ok (.ref l) S := by unfold evE; rw [y1]; rfl
          rw [hd] at g1
          cases g1
          refine ⟨l, xs, us, rfl, (h.bA l y3).1, y2, y4, y5.mono fun k o n g => ⟨fun z => n ?_, g⟩⟩
          rcases z with z | z
          · exact .inl z
          · subst z; exact .inr y3
  | .ret0, A, S, ven, en, f, h, q => by
    unfold exV at q
    cases q
    exact ⟨.ret .non, S, by unfold exS; rfl, ⟨A, .refl⟩, .non, fun z => by cases z⟩
  | .ifs c a b', A, S, ven, en, f, h, q => by
    unfold exV at q
    obtain ⟨x, q1, q⟩ := VR.bind_ok q
    obtain ⟨t, q2, q⟩ := VR.bind_ok q
    obtain ⟨d, S1, g1, w1, r1, _⟩ := evE_at hC h q1
    have lc : lift en (evE C c en >>= truD) (fun t => if t = true then exB C a en else exB C b' en) S = (if t = true then exB C a en else exB C b' en) S1 := lift_ok (by rw [bind_eq, g1]; exact tru_ok r1 q2)
    unfold exS
    rw [lc]
    by_cases ht : t = true
    · rw [if_pos ht] at q ⊢
      obtain ⟨fl, S', p1, p2⟩ := exs_ok hC a (h.gw w1) q
      exact ⟨fl, S', p1, .trans (.gw w1) p2⟩
    · rw [if_neg ht] at q ⊢
      obtain ⟨fl, S', p1, p2⟩ := exs_ok hC b' (h.gw w1) q
      exact ⟨fl, S', p1, .trans (.gw w1) p2⟩
  | .for_ tg (.val e) b', A, S, ven, en, f, h, q => by
    unfold exV at q
    obtain ⟨u, q1, q⟩ := VR.bind_ok q
    obtain ⟨p, q2, q⟩ := VR.bind_ok q
    obtain ⟨d, S1, g1, w1, r1, k1⟩ := evE_at hC h q1
    have hit : ∃ ds ck, iterD d S1 = .ok (ds, ck) S1 ∧ Rds (fun k => A0 k ∨ Oth A0 A (fvE e) ven en k) S1 ds p.1 ∧ CkOkV (fun k => A0 k ∨ Oth A0 A (fvE e) ven en k) ck S1 ∧ (p.2 = false → ck = []) ∧ (∀ q ∈ ck, d = .ref q.1) := by
      unfold iterU at q2
      split at q2
      · cases r1
        rename_i r1
        cases q2
        exact ⟨_, [], rfl, r1, ck_nil, fun _ => rfl, fun q z => by cases z⟩
      · split at q2
        · rename_i hx
          cases q2
          obtain ⟨l, o, rfl, y1, y2, y3⟩ := at_sq r1 hx
          refine ⟨items o, [(l, o)], ?_, y3, fun q hq => (by rw [List.mem_singleton.mp hq]; exact ⟨y1, y2⟩), fun z => (by cases z), fun q hq => (by rw [List.mem_singleton.mp hq])⟩
          show (match S1[l]? with | some o => R.ok (items o, [(l, o)]) S1 | none => .stuck) = _
          rw [y1]
        · cases q2
    obtain ⟨ds, ck, i1, i2, i3, i4, i5⟩ := hit
    have li : ∀ k : List D × List (Nat × Ob) → M NL.Flow, lift en (evIt C (.val e) en) k S = k (ds, ck) S1 := fun k => lift_ok (by unfold evIt; rw [bind_eq, g1]; exact i1)
    unfold exS
    rw [li]
    by_cases hk : ((!p.2 || (freshE fr e && isL u)) && noLs p.1) = true
    · rw [if_pos hk] at q
      rw [Bool.and_eq_true, Bool.or_eq_true] at hk
      have hck : CkOkV (fun k => A0 k ∨ A k) ck S1 := by
        rcases hk.1 with hp | hf
        · rw [i4 (by simpa using hp)]; exact ck_nil
        · rw [Bool.and_eq_true] at hf
          intro c hc
          have hu : ∃ us, u = .lst us := by
            have := hf.2
            cases u <;> first | (exact absurd this Bool.false_ne_true) | exact ⟨_, rfl⟩
          obtain ⟨l, xs, us, y1, y2, y3, y4, y5⟩ := k1 hf.1 hu
          have := i5 c hc
          rw [y1] at this
          cases this
          refine ⟨(i3 c hc).1, ?_⟩
          rintro (z | z)
          · have := h.b0S _ z; omega
          · have := (h.bA _ z).2; omega
      obtain ⟨fl, S', p1, p2⟩ := for_ok (fun {A S ven en f} => exs_ok hC b') (h.gw w1) (i2.of_noL hk.2) hck q
      exact ⟨fl, S', p1, .trans (.gw w1) p2⟩
    · rw [if_neg hk] at q
      obtain ⟨fl, S', p1, p2⟩ := for_ok (fun {A S ven en f} => exs_ok hC b') ((h.unown (fvE e)).gw w1) i2 i3 q
      exact ⟨fl, S', p1, .trans (Fra.oth.trans (.gw w1)) p2⟩
  | .for_ tg (.rng1 c) b', A, S, ven, en, f, h, q => by
    unfold exV at q
    obtain ⟨p, q1, q⟩ := VR.bind_ok q
    unfold evVt at q1
    obtain ⟨y, q2, q1⟩ := VR.bind_ok q1
    obtain ⟨xs, q3, q1⟩ := VR.bind_ok q1
    cases q1
    obtain ⟨d, S1, g1, w1, r1, k1⟩ := evE_at hC h q2
    obtain ⟨ds, i1, i2⟩ := rng_ok (.int 0) r1 q3
    have li : ∀ k : List D × List (Nat × Ob) → M NL.Flow, lift en (evIt C (.rng1 c) en) k S = k (ds, []) S1 := fun k => lift_ok (by
      unfold evIt
      rw [bind_eq, g1]
      show (rngD (.int 0) d >>= fun xs => (pure (xs, []) : M (List D × List (Nat × Ob)))) S1 = _
      rw [bind_eq, i1]; rfl)
    unfold exS
    rw [li]
    obtain ⟨fl, S', p1, p2⟩ := for_ok (fun {A S ven en f} => exs_ok hC b') (h.gw w1) (ck := []) (i2 _ _) ck_nil q
    exact ⟨fl, S', p1, .trans (.gw w1) p2⟩
  | .for_ tg (.rng2 c c') b', A, S, ven, en, f, h, q => by
    unfold exV at q
    obtain ⟨p, q1, q⟩ := VR.bind_ok q
    unfold evVt at q1
    obtain ⟨x, q0, q1⟩ := VR.bind_ok q1
    obtain ⟨y, q2, q1⟩ := VR.bind_ok q1
    obtain ⟨xs, q3, q1⟩ := VR.bind_ok q1
    cases q1
    obtain ⟨d0, S0, g0, w0, r0, _⟩ := evE_at hC h q0
    obtain ⟨d, S1, g1, w1, r1, _⟩ := evE_at hC (h.gw w0) q2
    obtain ⟨ds, i1, i2⟩ : ∃ ds, rngD d0 d S1 = .ok ds S1 ∧ ∀ B' S', Rds B' S' ds xs := by
      unfold rngU at q3
      split at q3
      · cases r0; cases r1
        exact rng_ok (B := fun _ => False) (.int _) (.int _) (show rngU _ _ = _ from q3)
      · cases q3
    have li : ∀ k : List D × List (Nat × Ob) → M NL.Flow, lift en (evIt C (.rng2 c c') en) k S = k (ds, []) S1 := fun k => lift_ok (by
      unfold evIt
      rw [bind_eq, g0]
      show (evE C c' en >>= fun y => rngD d0 y >>= fun xs => (pure (xs, []) : M (List D × List (Nat × Ob)))) S0 = _
      rw [bind_eq, g1]
      show (rngD d0 d >>= fun xs => (pure (xs, []) : M (List D × List (Nat × Ob)))) S1 = _
      rw [bind_eq, i1]; rfl)
    unfold exS
    rw [li]
    obtain ⟨fl, S', p1, p2⟩ := for_ok (fun {A S ven en f} => exs_ok hC b') ((h.gw w0).gw w1) (ck := []) (i2 _ _) ck_nil q
    exact ⟨fl, S', p1, .trans ((Fra.gw w0).trans (.gw w1)) p2⟩
  | .whl c b', A, S, ven, en, f, h, q => by
    unfold exV at q
    unfold exS
    refine whl_ok (fun {A S ven en t} h q => ?_) (fun {A S ven en f} => exs_ok hC b') h q
    obtain ⟨x, q1, q⟩ := VR.bind_ok q
    obtain ⟨d, S1, g1, w1, r1, _⟩ := evE_at hC h q1
    exact ⟨S1, by rw [bind_eq, g1]; exact tru_ok r1 q, w1⟩
  | .brk, A, S, ven, en, f, h, q => by
    unfold exV at q; cases q
    exact ⟨.brk en, S, by unfold exS; rfl, A, h, .refl⟩
  | .cnt, A, S, ven, en, f, h, q => by
    unfold exV at q; cases q
    exact ⟨.cnt en, S, by unfold exS; rfl, A, h, .refl⟩
  | .pass, A, S, ven, en, f, h, q => by
    unfold exV at q; cases q
    exact ⟨.nx en, S, by unfold exS; rfl, A, h, .refl⟩
  | .dead, A, S, ven, en, f, h, q => by unfold exV at q; cases q
  | .for_ tg (.enm e) b', A, S, ven, en, f, h, q => by
    unfold exV at q
    obtain ⟨u, q1, q⟩ := VR.bind_ok q
    obtain ⟨us, q2, q⟩ := VR.bind_ok q
    obtain ⟨d, S1, g1, w1, r1, k1⟩ := evE_at hC h q1
    obtain ⟨ds, ck, i1, i2, i3⟩ := enm_rd r1 q2
    have li : ∀ k : List D × List (Nat × Ob) → M NL.Flow, lift en (evIt C (.enm e) en) k S = k (ds, ck) S1 := fun k => lift_ok (by unfold evIt; rw [bind_eq, g1]; exact i1)
    unfold exS
    rw [li]
    obtain ⟨fl, S', p1, p2⟩ := for_ok (fun {A S ven en f} => exs_ok hC b') ((h.unown (fvE e)).gw w1) i2 i3 q
    exact ⟨fl, S', p1, .trans (Fra.oth.trans (.gw w1)) p2⟩
  | .for_ tg (.zip e e') b', A, S, ven, en, f, h, q => by
    unfold exV at q
    obtain ⟨u, q1, q⟩ := VR.bind_ok q
    obtain ⟨v, q2, q⟩ := VR.bind_ok q
    obtain ⟨us, q3, q⟩ := VR.bind_ok q
    have er := h.envR (fvE e ++ fvE e')
    have bd := h.bnd (fvE e ++ fvE e')
    obtain ⟨d0, S0, g0, w0, r0, _⟩ := ev_ok hC e bd er.l q1
    obtain ⟨d, S1, g1, w1, r1, _⟩ := ev_ok hC e' (bd.gw w0) (er.r.gw w0) q2
    obtain ⟨ds, ck, i1, i2, i3⟩ := zip_rd (r0.gw w1) r1 q3
    have li : ∀ k : List D × List (Nat × Ob) → M NL.Flow, lift en (evIt C (.zip e e') en) k S = k (ds, ck) S1 := fun k => lift_ok (by
      unfold evIt
      rw [bind_eq, g0]
      show (evE C e' en >>= fun y => zipM d0 y) S0 = _
      rw [bind_eq, g1]
      exact i1)
    unfold exS
    rw [li]
    obtain ⟨fl, S', p1, p2⟩ := for_ok (fun {A S ven en f} => exs_ok hC b') ((h.unown (fvE e ++ fvE e')).gw (w0.trans w1)) i2 i3 q
    exact ⟨fl, S', p1, .trans (Fra.oth.trans (.gw (w0.trans w1))) p2⟩
  | .popx t i, A, S, ven, en, f, h, q => by
    unfold exV at q
    obtain ⟨us, q0, q⟩ := VR.bind_ok q
    have hi := ownV_ok q0
    obtain ⟨l, xs, us', p1, p2, p3, p4, p5⟩ := h.own i _ hi
    cases p2
    cases e1 : us[us.length - 1]? with
    | none => rw [e1] at q; cases q
    | some u =>
      rw [e1] at q
      obtain ⟨d, e2, r2⟩ := p5.get e1
      have e3 : xs[xs.length - 1]? = some d := by rw [p5.length]; exact e2
      have rt : Rds (fun k => A0 k ∨ A k) S xs.dropLast us.dropLast := by
        have := p5.take (xs.length - 1)
        rw [← List.dropLast_eq_take, p5.length, ← List.dropLast_eq_take] at this
        exact this
      have pop : popM l S = .ok d (S.set l (.lst xs.dropLast)) := by
        unfold popM
        rw [bind_eq, show getM l S = .ok xs S by unfold getM; rw [p4]]
        show (match xs[xs.length - 1]? with | some d => (fun S => R.ok d (S.set l (.lst xs.dropLast)) : M D) | none => die) S = _
        rw [e3]
      have hm := h.mut hi p1 p3 (lt_of_get p4) rt
      have r3 : Rd (fun k => A0 k ∨ A k) (S.set l (.lst xs.dropLast)) d u := r2.mono fun l' o n g => ⟨n, by
        rw [List.getElem?_set_ne (fun e => n (.inr (by rw [← e]; exact p3)))]; exact g⟩
      unfold exS
      rw [p1]
      show ∃ fl S', lift en (popM l) _ S = .ok fl S' ∧ _
      rw [lift_ok pop]
      cases t with
      | none =>
        cases q
        exact ⟨.nx en, _, rfl, A, hm, .mut p3⟩
      | some t =>
        obtain ⟨ven2, q1, q⟩ := VR.bind_ok q
        cases q
        obtain ⟨en2, q2, h2⟩ := bindE_ok hm r3 q1
        exact ⟨.nx en2, _, lift_ok q2, A, h2, .mut p3⟩
  | .ext i e, A, S, ven, en, f, h, q => by
    unfold exV at q
    obtain ⟨us0, q0, q⟩ := VR.bind_ok q
    obtain ⟨u, q1, q⟩ := VR.bind_ok q
    obtain ⟨vs, q3, q⟩ := VR.bind_ok q
    obtain ⟨us, q2, q⟩ := VR.bind_ok q
    split at q
    · rename_i hlen
      cases q
      have hi0 := ownV_ok q0
      obtain ⟨l0, xs0, us0', p1, _, _, p4, _⟩ := h.own i _ hi0
      obtain ⟨d, S1, g1, w1, r1, _⟩ := evE_at hC h q1
      obtain ⟨A1, e1, f1, k1⟩ := leaks_ok h vs (fvE e)
      have e2 := e1.gw w1
      have hi := ownV_ok q2
      obtain ⟨l, xs, us', z1, z2, z3, z4, z5⟩ := e2.own i _ hi
      cases z2
      rw [p1] at z1
      cases z1
      have hu : u = .lst vs := by
        unfold lstU at q3
        split at q3
        · cases q3; rfl
        · cases q3
      subst hu
      cases r1 with
      | lst y1 y2 y3 =>
      rename_i k zs _hh
      refine ⟨.nx en, S1.set l0 (.lst (xs ++ zs)), ?_, A1, e2.mut hi p1 z3 (lt_of_get z4) (z5.append (k1 y3)), (f1.trans (.gw w1)).trans (.mut z3)⟩
      unfold exS
      rw [p1]
      have gm : getM l0 S = .ok xs0 S := by unfold getM; rw [p4]
      have gm1 : getM l0 S1 = .ok xs S1 := by unfold getM; rw [z4]
      have gm2 : getM k S1 = .ok zs S1 := by unfold getM; rw [y2]
      have ex : extM l0 (.ref k) S1 = .ok () (S1.set l0 (.lst (xs ++ zs))) := by
        show (getM l0 >>= fun xs => getM k >>= fun ys => if xs.length + ys.length ≤ sizeLine then setM l0 (xs ++ ys) else die) S1 = _
        rw [bind_eq, gm1]
        show (getM k >>= fun ys => if xs.length + ys.length ≤ sizeLine then setM l0 (xs ++ ys) else die) S1 = _
        rw [bind_eq, gm2]
        show (if xs.length + zs.length ≤ sizeLine then setM l0 (xs ++ zs) else die) S1 = _
        rw [if_pos (by rw [z5.length, y3.length]; exact hlen)]
        rfl
      show lift en (getM l0 >>= fun _ => evE C e en) _ S = _
      rw [lift_ok (m := getM l0 >>= fun _ => evE C e en) (by rw [bind_eq, gm]; exact g1)]
      exact lift_ok ex
    · cases q
  | .clr i, A, S, ven, en, f, h, q => by
    unfold exV at q
    obtain ⟨us, q0, q⟩ := VR.bind_ok q
    cases q
    have hi := ownV_ok q0
    obtain ⟨l, xs, us', p1, p2, p3, p4, p5⟩ := h.own i _ hi
    cases p2
    refine ⟨.nx en, S.set l (.lst []), ?_, A, h.mut hi p1 p3 (lt_of_get p4) .nil, .mut p3⟩
    unfold exS
    rw [p1]
    show lift en (getM l) _ S = _
    rw [lift_ok (show getM l S = .ok xs S by unfold getM; rw [p4])]
    exact lift_ok rfl
theorem exs_ok (hC : CallOk fr C CV) {A0 : Nat → Prop} {b : Nat} : ∀ (s : Sts), ExOk A0 b (exVB fr CV s) (exB C s)
  | .nil, A, S, ven, en, f, h, q => by
    unfold exVB at q; cases q
    exact ⟨.nx en, S, by unfold exB; rfl, A, h, .refl⟩
  | .cons s r, A, S, ven, en, f, h, q => by
    unfold exVB at q
    obtain ⟨f1, q1, q⟩ := VR.bind_ok q
    obtain ⟨fl1, S1, g1, o1⟩ := ex_ok hC s h q1
    unfold exB
    rw [bind_eq, g1]
    cases f1 <;> cases fl1 <;> first | (exact o1.elim) | skip
    · obtain ⟨A1, h2, fa⟩ := o1
      obtain ⟨fl, S', p1, p2⟩ := exs_ok hC r h2 q
      exact ⟨fl, S', p1, .trans fa p2⟩
    · cases q; exact ⟨_, S1, rfl, o1⟩
    · cases q; exact ⟨_, S1, rfl, o1⟩
    · cases q; exact ⟨_, S1, rfl, o1⟩
end
theorem run_ok (hC : CallOk fr C CV) {w : Bool} {fn : Fn} {us : List U} {u : U} (q : runV fr CV w fn us = .ok u) {B : Nat → Prop} {S : Store} {ds : List D} (hB : Bnd B S) (r : Rds B S ds us) : OkB w B S (runF C fn ds S) u := by
  unfold runV at q
  split at q
  · rename_i hlen
    have h : EnvOk B (fun _ => False) S.length S (us.map (fun u => some (false, u)) ++ List.replicate (fn.nv - fn.np) none) (ds.map some ++ List.replicate (fn.nv - fn.np) none) := by
      have at_ : ∀ {i : Nat} {w : Bool} {v : U}, (us.map (fun u => some (false, u)) ++ List.replicate (fn.nv - fn.np) none)[i]? = some (some (w, v)) → w = false ∧ us[i]? = some v := fun {i w v} e => by
        by_cases hi : i < us.length
        · rw [List.getElem?_append_left (by simpa using hi), List.getElem?_map] at e
          cases hu : us[i]? with
          | none => rw [hu] at e; cases e
          | some x => rw [hu] at e; cases e; exact ⟨rfl, rfl⟩
        · rw [List.getElem?_append_right (by simpa using Nat.le_of_not_lt hi), List.getElem?_replicate] at e
          split at e <;> cases e
      refine ⟨by simp [r.length], fun i v e => ?_, fun i v e => ?_, fun i j v v' l e _ _ _ => ?_, fun l z => z.elim, hB, Nat.le_refl _⟩
      · obtain ⟨z, _⟩ := at_ e; cases z
      · obtain ⟨_, e'⟩ := at_ e
        obtain ⟨d, h1, h2⟩ := r.get e'
        refine ⟨d, ?_, h2.mono fun l o n g => ⟨fun z => z.elim n id, g⟩⟩
        rw [List.getElem?_append_left (by simpa using (List.getElem?_eq_some_iff.mp h1).1), List.getElem?_map, h1]; rfl
      · obtain ⟨z, _⟩ := at_ e; cases z
    have toGw : ∀ {A' : Nat → Prop} {S' : Store}, Fra (fun _ => False) S A' S' → Gw S S' := fun f => Gw_of (fun k hk => by
      rw [f.get k _ (fun z => z) (List.getElem?_eq_getElem hk), List.getElem?_eq_getElem hk]) f.len
    have hd : ds.length = fn.np := by rw [r.length]; exact hlen
    have un : ∀ {g : NL.Flow} {S' : Store}, exB C fn.body (ds.map some ++ List.replicate (fn.nv - fn.np) none) S = .ok g S' → runF C fn ds S = (match (R.ok g S' : R NL.Flow) with
        | .ok (.nx _) S => .ok .non S
        | .ok (.ret d) S => .ok d S
        | .ok (.exc c d _) S => .exc c d S
        | _ => .stuck) := fun e => by
      unfold runF
      rw [if_pos hd, e] <;> rfl
    split at q
    · rename_i v hv
      cases q
      obtain ⟨fl, S', g1, o1⟩ := exs_ok hC fn.body h hv
      cases fl <;> first | (exact o1.elim) | skip
      obtain ⟨A', h1, f1⟩ := o1
      rw [un g1]
      exact ⟨.non, S', rfl, toGw f1, .non, fun _ z => by obtain ⟨us, z⟩ := z; cases z⟩
    · rename_i o v hv
      split at q
      · cases q
      · rename_i hw
        cases q
        obtain ⟨fl, S', g1, o1⟩ := exs_ok hC fn.body h hv
        cases fl <;> first | (exact o1.elim) | skip
        obtain ⟨⟨A', f1⟩, h1, h2⟩ := o1
        rw [un g1]
        refine ⟨_, S', rfl, toGw f1, h1, fun hw2 ⟨us, hu⟩ => h2 ?_⟩
        subst hw2 hu
        cases o with
        | true => rfl
        | false => exact absurd rfl hw
    · cases q
    · cases q
  · cases q
theorem call_ok {T : Nat → Option Fn} : ∀ (n : Nat), CallOk fr (callT T n) (callV T fr n)
  | 0, f, us, u, h, B, S, ds, hB, r => by unfold callV at h; cases h
  | n + 1, f, us, u, h, B, S, ds, hB, r => by
    unfold callV at h
    unfold callT
    cases hT : T f with
    | none => rw [hT] at h; cases h
    | some fn =>
      rw [hT] at h
      exact run_ok (call_ok n) h hB r
end
/-- THE END, over trees -/
theorem law_of {T : Nat → Option Fn} {fr : Nat → Bool} {n i : Nat} {ns : List Int} (h : callV T fr n i [.frz (ns.map U.int)] = .ok (.bl true)) : ∃ S', callT T n i [.ref 0] [.frz (ns.map D.int)] = .ok (.bl true) S' := by
  have ri : ∀ ks : List Int, Rds (fun _ => False) [Ob.frz (ns.map D.int)] (ks.map D.int) (ks.map U.int) := fun ks => by
    induction ks with
    | nil => exact .nil
    | cons k ks ih => exact .cons (.int k) ih
  obtain ⟨d, S', h1, h2, h3, _⟩ := call_ok n i _ _ h (fun _ => False) [Ob.frz (ns.map D.int)] [.ref 0] (fun l z => z.elim) (.cons (.frz (fun z => z) rfl (ri ns)) .nil)
  cases h3
  exact ⟨S', h1⟩
end VL

/-! Rules by which a text is run on symbols, over trees. -/
namespace VL
open PySem PySem.Spec PyProof.Rows L2 NL
theorem nrf {α : Sort _} {a b : α} (h : a = b) : a = b := h
theorem bind_as {α β γ : Type} (r : VR α) (f : α → VR β) (g : β → VR γ) : (r.bind f).bind g = r.bind fun x => (f x).bind g := by cases r <;> rfl
theorem bind_id {α : Type} (r : VR α) : r.bind VR.ok = r := by cases r <;> rfl
theorem ok_bi {α β : Type} {a : α} {k : α → VR β} : (VR.ok a).bind k = k a := nrf rfl
theorem bi_of {α β : Type} {r : VR α} {a : α} {k : α → VR β} (e : r = .ok a) : r.bind k = k a := by rw [e]; rfl
def getK {β : Type} (en : VEnv) (i : Nat) (k : U → VR β) : VR β := match en[i]? with
  | some (some p) => k p.2
  | _ => .stuck
def setK {β : Type} (en : VEnv) (i : Nat) (w : Bool) (u : U) (k : VEnv → VR β) : VR β := k (en.set i (some (w, u)))
def setsK {β : Type} (en : VEnv) (is : List Nat) (us : List U) (k : VEnv → VR β) : VR β := k (setAllV en is us)
def putK {β : Type} (fl : Bool) (is : List Nat) (i : Nat) (u : U) (en : VEnv) (k : VEnv → VR β) : VR β := k ((leak (fl && isL u) u is en).set i (some (fl && isL u, u)))
def ownK {β : Type} (en : VEnv) (i : Nat) (k : List U → VR β) : VR β := (ownV en i).bind k
class NoL (u : U) : Prop where
  no : noL u = true
class NoLs (us : List U) : Prop where
  no : noLs us = true
instance nl_non : NoL .non := ⟨by unfold noL; rfl⟩
instance nl_bl {b : Bool} : NoL (.bl b) := ⟨by unfold noL; rfl⟩
instance nl_int {i : Int} : NoL (.int i) := ⟨by unfold noL; rfl⟩
instance nl_str {x : Str} : NoL (.str x) := ⟨by unfold noL; rfl⟩
instance nl_tup {us : List U} [h : NoLs us] : NoL (.tup us) := ⟨by unfold noL; exact h.no⟩
instance nls_nil : NoLs [] := ⟨by unfold noLs; rfl⟩
instance nls_cons {u : U} {us : List U} [h : NoL u] [k : NoLs us] : NoLs (u :: us) := ⟨by unfold noLs; rw [h.no, k.no]; rfl⟩
theorem noLs_all {us : List U} : noLs us = true ↔ ∀ u ∈ us, noL u = true := by
  induction us with
  | nil => exact ⟨fun _ _ h => (by cases h), fun _ => by unfold noLs; rfl⟩
  | cons x us ih =>
    unfold noLs
    rw [Bool.and_eq_true, ih]
    constructor
    · rintro ⟨h1, h2⟩ u hu
      rcases List.mem_cons.mp hu with rfl | hu
      · exact h1
      · exact h2 u hu
    · exact fun h => ⟨h x List.mem_cons_self, fun u hu => h u (List.mem_cons_of_mem _ hu)⟩
instance nls_map {α : Type} {f : α → U} {xs : List α} [h : ∀ x, NoL (f x)] : NoLs (xs.map f) := ⟨noLs_all.mpr fun u hu => by
  obtain ⟨x, _, rfl⟩ := List.mem_map.mp hu
  exact (h x).no⟩
instance nls_app {xs ys : List U} [h : NoLs xs] [k : NoLs ys] : NoLs (xs ++ ys) := ⟨noLs_all.mpr fun u hu => by
  rcases List.mem_append.mp hu with hu | hu
  · exact noLs_all.mp h.no u hu
  · exact noLs_all.mp k.no u hu⟩
section
variable {β : Type} {C : Nat → List U → VR U} {fr : Nat → Bool} {en : VEnv}
theorem getK_0 {w : Bool} {u : U} {k : U → VR β} : getK (some (w, u) :: en) 0 k = k u := nrf rfl
theorem getK_s {o : Option (Bool × U)} {i : Nat} {k : U → VR β} : getK (o :: en) (i + 1) k = getK en i k := by unfold getK; rw [List.getElem?_cons_succ]
theorem setK_0 {o : Option (Bool × U)} {w : Bool} {u : U} {k : VEnv → VR β} : setK (o :: en) 0 w u k = k (some (w, u) :: en) := nrf rfl
theorem setK_s {o : Option (Bool × U)} {i : Nat} {w : Bool} {u : U} {k : VEnv → VR β} : setK (o :: en) (i + 1) w u k = setK en i w u fun e => k (o :: e) := nrf rfl
theorem setsK_0 {us : List U} {k : VEnv → VR β} : setsK en [] us k = k en := nrf (by cases us <;> rfl)
theorem setsK_s {i : Nat} {is : List Nat} {u : U} {us : List U} {k : VEnv → VR β} : setsK en (i :: is) (u :: us) k = setK en i false u fun e => setsK e is us k := nrf rfl
theorem ownK_0 {us : List U} {k : List U → VR β} : ownK (some (true, .lst us) :: en) 0 k = k us := nrf rfl
theorem ownK_s {o : Option (Bool × U)} {i : Nat} {k : List U → VR β} : ownK (o :: en) (i + 1) k = ownK en i k := by unfold ownK ownV; rw [List.getElem?_cons_succ]
theorem low_0 {w : Bool} {u : U} : low (some (w, u) :: en) 0 = some (false, u) :: en := nrf rfl
theorem low_n : low (none :: en) 0 = none :: en := nrf rfl
theorem low_s {o : Option (Bool × U)} {i : Nat} : low (o :: en) (i + 1) = o :: low en i := by
  unfold low
  rw [List.getElem?_cons_succ]
  cases en[i]? with
  | none => rfl
  | some o => cases o <;> rfl
theorem unown_0 : unown en [] = en := nrf rfl
theorem unown_s {i : Nat} {is : List Nat} : unown en (i :: is) = unown (low en i) is := nrf rfl
theorem put_n {fl : Bool} {is : List Nat} {i : Nat} {u : U} {k : VEnv → VR β} [h : NoL u] : putK fl is i u en k = setK en i false u k := by
  have e : isL u = false := by
    have := h.no
    cases u <;> first | rfl | (unfold noL at this; cases this)
  unfold putK leak keeps setK
  rw [e, Bool.and_false, h.no]; rfl
theorem put_l {is : List Nat} {i : Nat} {us : List U} {k : VEnv → VR β} [h : NoLs us] : putK true is i (.lst us) en k = setK en i true (.lst us) k := by
  unfold putK leak keeps setK isL
  simp [h.no]
theorem put_sh {is : List Nat} {i : Nat} {us : List U} {k : VEnv → VR β} : putK false is i (.lst us) en k = setK (unown en is) i false (.lst us) k := by
  unfold putK leak keeps setK isL
  simp [noL]
theorem put_sz {is : List Nat} {i : Nat} {us : List U} {k : VEnv → VR β} (h : noLs us = false) : putK true is i (.lst us) en k = setK (unown en is) i true (.lst us) k := by
  unfold putK leak keeps setK isL
  simp [noL, h]
theorem put_t {fl : Bool} {is : List Nat} {i : Nat} {us : List U} {k : VEnv → VR β} (h : noLs us = false) : putK fl is i (.tup us) en k = setK (unown en is) i false (.tup us) k := by
  unfold putK leak keeps setK isL
  simp [noL, h]
theorem leak_n {w : Bool} {u : U} {is : List Nat} [h : NoL u] : leak w u is en = en := by
  unfold leak keeps
  rw [h.no]; rfl
theorem leaks_n {us : List U} {is : List Nat} [h : NoLs us] : leaks us is en = en := by
  unfold leaks
  rw [h.no]; rfl
section
variable {k : U → VR β}
theorem r_var {i : Nat} : (evV C (.var i) en).bind k = getK en i k := by
  rw [evV]; unfold getV getK
  cases en[i]? with
  | none => rfl
  | some o => cases o <;> rfl
theorem r_cI {i : Int} : (evV C (.con (.int i)) en).bind k = k (.int i) := by rw [evV]; rfl
theorem r_cB {i : Bool} : (evV C (.con (.bl i)) en).bind k = k (.bl i) := by rw [evV]; rfl
theorem r_cN : (evV C (.con .non) en).bind k = k .non := by rw [evV]; rfl
theorem r_cS {x : Str} : (evV C (.con (.str x)) en).bind k = k (.str x) := by rw [evV]; rfl
theorem r_bin {o : Bop} {a b : E} : (evV C (.bin o a b) en).bind k = (evV C a en).bind fun x => (evV C b en).bind fun y => (binU o x y).bind k := by
  rw [evV, bind_as]; congr; funext x; rw [bind_as]
theorem r_neg {a : E} : (evV C (.neg a) en).bind k = (evV C a en).bind fun x => (negU x).bind k := by rw [evV, bind_as]
theorem r_not {a : E} : (evV C (.not a) en).bind k = (evV C a en).bind fun x => (truU x).bind fun t => k (.bl (!t)) := by
  rw [evV, bind_as]; congr; funext x; rw [bind_as]; rfl
theorem r_cmp {o : Cop} {a b : E} : (evV C (.cmp o a b) en).bind k = (evV C a en).bind fun x => (evV C b en).bind fun y => (cmpU o x y).bind k := by
  rw [evV, bind_as]; congr; funext x; rw [bind_as]
theorem ite_bi {α : Type} {t : Bool} {m n : VR α} {k : α → VR β} : (if t = true then m else n).bind k = if t = true then m.bind k else n.bind k := by cases t <;> rfl
theorem r_chn {o o' : Cop} {a b c : E} : (evV C (.chn o o' a b c) en).bind k = (evV C a en).bind fun x => (evV C b en).bind fun y => (cmpU o x y).bind fun z => (truU z).bind fun t => if t = true then (evV C c en).bind fun z => (cmpU o' y z).bind k else k (.bl false) := by
  rw [evV, bind_as]; congr; funext x; rw [bind_as]; congr; funext y; rw [bind_as]; congr; funext z; rw [bind_as]; congr; funext t
  rw [ite_bi]
  cases t
  · rfl
  · rw [if_pos rfl, if_pos rfl, bind_as]
theorem r_and {a b : E} : (evV C (.and a b) en).bind k = (evV C a en).bind fun x => (truU x).bind fun t => if t = true then (evV C b en).bind k else k (.bl false) := by
  rw [evV, bind_as]; congr; funext x; rw [bind_as]; congr; funext t; rw [ite_bi]; rfl
theorem r_or {a b : E} : (evV C (.or a b) en).bind k = (evV C a en).bind fun x => (truU x).bind fun t => if t = true then k (.bl true) else (evV C b en).bind k := by
  rw [evV, bind_as]; congr; funext x; rw [bind_as]; congr; funext t; rw [ite_bi]; rfl
theorem r_ite {c a b : E} : (evV C (.ite c a b) en).bind k = (evV C c en).bind fun x => (truU x).bind fun t => if t = true then (evV C a en).bind k else (evV C b en).bind k := by
  rw [evV, bind_as]; congr; funext x; rw [bind_as]; congr; funext t; rw [ite_bi]
theorem r_tup {es : Es} : (evV C (.tup es) en).bind k = (evVs C es en).bind fun xs => if xs.length ≤ sizeLine then k (.tup xs) else .stuck := by
  rw [evV, bind_as]; congr; funext xs; split <;> rfl
theorem r_lst {es : Es} : (evV C (.lst es) en).bind k = (evVs C es en).bind fun xs => if xs.length ≤ sizeLine then k (.lst xs) else .stuck := by
  rw [evV, bind_as]; congr; funext xs; split <;> rfl
theorem r_idx {a i : E} : (evV C (.idx a i) en).bind k = (evV C a en).bind fun x => (evV C i en).bind fun y => (ixU x y).bind k := by
  rw [evV, bind_as]; congr; funext x; rw [bind_as]
theorem r_slc {p q : Bool} {a lo hi : E} : (evV C (.slc p q a lo hi) en).bind k = (evV C a en).bind fun x => (evV C lo en).bind fun y => (bndU p y).bind fun y => (evV C hi en).bind fun z => (bndU q z).bind fun z => (slcU x y z).bind k := by
  rw [evV, bind_as]; congr; funext x; rw [bind_as]; congr; funext y; rw [bind_as]; congr; funext y; rw [bind_as]; congr; funext z; rw [bind_as]
theorem r_call {f : Nat} {es : Es} : (evV C (.call f es) en).bind k = (evVs C es en).bind fun xs => (C f xs).bind k := by rw [evV, bind_as]
theorem r_blt {b : Blt} {es : Es} : (evV C (.blt b es) en).bind k = (evVs C es en).bind fun xs => (bltU b xs).bind k := by rw [evV, bind_as]
theorem r_isi {a : E} {T : NL.Ty} : (evV C (.isi a T) en).bind k = (evV C a en).bind fun x => (isiU T x).bind k := by rw [evV, bind_as]
theorem r_comp {own : List Nat} {tg : Tg} {it : NL.It} {c e : E} : (evV C (.comp own tg it c e) en).bind k = (evVt C it en).bind fun p => if p.1.length ≤ sizeLine then (noXV (compV (fun d => bindV tg d (wipeV en own)) (fun en' => (evV C c en').bind truU) (fun en' => evV C e en') p.1)).bind fun us => k (.lst us) else .stuck := by
  rw [evV, bind_as]; congr; funext p
  split
  · cases compV (fun d => bindV tg d (wipeV en own)) (fun en' => (evV C c en').bind truU) (fun en' => evV C e en') p.1 <;> rfl
  · rfl
theorem nox_ok {α : Type} {a : α} {k : α → VR β} : (noXV (.ok a)).bind k = k a := nrf rfl
theorem nox_of {α : Type} {r : VR α} {a : α} {k : α → VR β} (h : r = .ok a) : (noXV r).bind k = k a := by rw [h]; rfl
/-! operations -/
theorem o_add {i j : Int} : (binU .add (.int i) (.int j)).bind k = k (.int (i + j)) := nrf rfl
theorem o_sub {i j : Int} : (binU .sub (.int i) (.int j)).bind k = k (.int (i - j)) := nrf rfl
theorem o_neg {i : Int} : (negU (.int i)).bind k = k (.int (-i)) := nrf rfl
theorem o_cat {xs ys : List U} (h : xs.length + ys.length ≤ sizeLine) : (binU .add (.lst xs) (.lst ys)).bind k = k (.lst (xs ++ ys)) := by simp only [binU, if_pos h]; rfl
theorem o_mod {i j : Int} (hj : j ≠ 0) : (binU .mod (.int i) (.int j)).bind k = k (.int (i.fmod j)) := by simp only [binU, if_pos hj]; rfl
theorem o_fdiv {i j : Int} (hj : j ≠ 0 ∧ j.natAbs.log2 < 9000) : (binU .fdiv (.int i) (.int j)).bind k = k (.int (i.fdiv j)) := by simp only [binU, if_pos hj]; rfl
theorem o_pow {i j : Int} (hj : 0 ≤ j ∧ (Builtin.Int.intBits i : Int) * j ≤ 2 ^ 27) : (binU .pow (.int i) (.int j)).bind k = k (.int (i ^ j.toNat)) := by simp only [binU, if_pos hj]; rfl
theorem o_mul0 {i j : Int} (hj : MulOk i j) : (binU .mul (.int i) (.int j)).bind k = k (.int (i * j)) := by simp only [binU, if_pos hj]; rfl
theorem o_lt {i j : Int} : (cmpU .lt (.int i) (.int j)).bind k = k (.bl (decide (i < j))) := nrf rfl
theorem o_le {i j : Int} : (cmpU .le (.int i) (.int j)).bind k = k (.bl (decide (i ≤ j))) := nrf rfl
theorem o_gt {i j : Int} : (cmpU .gt (.int i) (.int j)).bind k = k (.bl (decide (j < i))) := nrf rfl
theorem o_ge {i j : Int} : (cmpU .ge (.int i) (.int j)).bind k = k (.bl (decide (j ≤ i))) := nrf rfl
theorem o_eqG {x y : U} {b : Bool} (e : eqU x y = some b) : (cmpU .eq x y).bind k = k (.bl b) := by
  show (ofU (eqU x y)).bind k = _
  rw [e]; rfl
theorem o_neG {x y : U} {b : Bool} (e : eqU x y = some b) : (cmpU .ne x y).bind k = k (.bl (!b)) := by
  show (ofU ((eqU x y).map (!·))).bind k = _
  rw [e]; rfl
theorem o_inG {x y : U} {b : Bool} (e : inU x y = some b) : (cmpU .isIn x y).bind k = k (.bl b) := by
  show (ofU (inU x y)).bind k = _
  rw [e]; rfl
theorem o_niG {x y : U} {b : Bool} (e : inU x y = some b) : (cmpU .notIn x y).bind k = k (.bl (!b)) := by
  show (ofU ((inU x y).map (!·))).bind k = _
  rw [e]; rfl
theorem o_ltG {x y : U} {b : Bool} (e : ordU .lt 12 x y = some b) : (cmpU .lt x y).bind k = k (.bl b) := by
  show (ofU (ordU .lt 12 x y)).bind k = _
  rw [e]; rfl
theorem o_isB {d : U} {b : Bool} : (cmpU .is_ d (.bl b)).bind k = k (.bl (match d with | .bl c => b == c | _ => false)) := nrf rfl
theorem o_isNotB {d : U} {b : Bool} : (cmpU .isNot d (.bl b)).bind k = k (.bl (!(match d with | .bl c => b == c | _ => false))) := nrf rfl
theorem o_isN {d : U} : (cmpU .is_ d .non).bind k = k (.bl (match d with | .non => true | _ => false)) := nrf (by cases d <;> rfl)
theorem o_isNotN {d : U} : (cmpU .isNot d .non).bind k = k (.bl (!(match d with | .non => true | _ => false))) := nrf (by cases d <;> rfl)
theorem o_ixT {xs : List U} {i : Int} {u : U} (h : atI xs i = some u) : (ixU (.tup xs) (.int i)).bind k = k u := by
  unfold ixU; dsimp only; rw [h]; rfl
theorem o_ixL {xs : List U} {i : Int} {u : U} (h : atI xs i = some u) : (ixU (.lst xs) (.int i)).bind k = k u := by
  unfold ixU sqU; dsimp only; rw [h]; rfl
theorem o_ixF {xs : List U} {i : Int} {u : U} (h : atI xs i = some u) : (ixU (.frz xs) (.int i)).bind k = k u := by
  unfold ixU sqU; dsimp only; rw [h]; rfl
theorem at_0 {α : Type} {a : α} {r : List α} : atI (a :: r) 0 = some a := by unfold atI ixN; simp
theorem at_1 {α : Type} {a b : α} {r : List α} : atI (a :: b :: r) 1 = some b := by
  unfold atI ixN
  rw [if_pos (by decide), if_pos (by simp only [List.length_cons]; omega)]; rfl
theorem at_2 {α : Type} {a b c : α} {r : List α} : atI (a :: b :: c :: r) 2 = some c := by
  unfold atI ixN
  rw [if_pos (by decide), if_pos (by simp only [List.length_cons]; omega)]; rfl
theorem at_3 {α : Type} {a b c d : α} {r : List α} : atI (a :: b :: c :: d :: r) 3 = some d := by
  unfold atI ixN
  rw [if_pos (by decide), if_pos (by simp only [List.length_cons]; omega)]; rfl
theorem o_ix0 {a : U} {r : List U} : (ixU (.tup (a :: r)) (.int 0)).bind k = k a := o_ixT at_0
theorem o_ix1 {a b : U} {r : List U} : (ixU (.tup (a :: b :: r)) (.int 1)).bind k = k b := o_ixT at_1
theorem o_ix2 {a b c : U} {r : List U} : (ixU (.tup (a :: b :: c :: r)) (.int 2)).bind k = k c := o_ixT at_2
theorem o_lx0 {a : U} {r : List U} : (ixU (.lst (a :: r)) (.int 0)).bind k = k a := o_ixL at_0
theorem o_lx1 {a b : U} {r : List U} : (ixU (.lst (a :: b :: r)) (.int 1)).bind k = k b := o_ixL at_1
theorem o_lx2 {a b c : U} {r : List U} : (ixU (.lst (a :: b :: c :: r)) (.int 2)).bind k = k c := o_ixL at_2
theorem o_lx3 {a b c d : U} {r : List U} : (ixU (.lst (a :: b :: c :: d :: r)) (.int 3)).bind k = k d := o_ixL at_3
theorem o_lenT {xs : List U} : (bltU .len [.tup xs]).bind k = k (.int xs.length) := nrf rfl
theorem o_lenL {xs : List U} : (bltU .len [.lst xs]).bind k = k (.int xs.length) := nrf rfl
theorem o_lenF {xs : List U} : (bltU .len [.frz xs]).bind k = k (.int xs.length) := nrf rfl
theorem o_listL {xs : List U} : (bltU .list [.lst xs]).bind k = k (.lst xs) := nrf rfl
theorem o_listT {xs : List U} : (bltU .list [.tup xs]).bind k = k (.lst xs) := nrf rfl
theorem o_listF {xs : List U} : (bltU .list [.frz xs]).bind k = k (.lst xs) := nrf rfl
theorem o_tupL {xs : List U} : (bltU .tuple [.lst xs]).bind k = k (.tup xs) := nrf rfl
theorem o_slcL {xs : List U} {lo hi : Option Int} : (slcU (.lst xs) lo hi).bind k = k (.lst (cutU xs lo hi)) := nrf rfl
theorem o_slcF {xs : List U} {lo hi : Option Int} : (slcU (.frz xs) lo hi).bind k = k (.lst (cutU xs lo hi)) := nrf rfl
theorem o_abs {i : Int} : (bltU .abs [.int i]).bind k = k (.int (if i < 0 then -i else i)) := nrf rfl
theorem o_intI {i : Int} : (bltU .int [.int i]).bind k = k (.int i) := nrf rfl
theorem o_intB {b : Bool} : (bltU .int [.bl b]).bind k = k (.int (if b = true then 1 else 0)) := nrf rfl
theorem o_isi {x : U} {T : NL.Ty} : (isiU T x).bind k = k (.bl (tyU x == T.nm || (tyU x == "bool" && T.nm == "int"))) := nrf rfl
theorem o_isiII {i : Int} : (isiU .int (.int i)).bind k = k (.bl true) := nrf rfl
theorem o_isiBB {b : Bool} : (isiU .bool (.bl b)).bind k = k (.bl true) := nrf rfl
theorem o_isiTT {xs : List U} : (isiU .tuple (.tup xs)).bind k = k (.bl true) := nrf rfl
theorem o_isiLL {xs : List U} : (isiU .list (.lst xs)).bind k = k (.bl true) := nrf rfl
end
theorem bu_f {x : U} {k : Option Int → VR β} : (bndU false x).bind k = k none := nrf rfl
theorem bu_t {i : Int} {k : Option Int → VR β} : (bndU true (.int i)).bind k = k (some i) := nrf rfl
theorem r_nil {k : List U → VR β} : (evVs C .nil en).bind k = k [] := by rw [evVs]; rfl
theorem r_cons {e : E} {es : Es} {k : List U → VR β} : (evVs C (.cons e es) en).bind k = (evV C e en).bind fun x => (evVs C es en).bind fun xs => k (x :: xs) := by
  rw [evVs, bind_as]; congr; funext x; rw [bind_as]; rfl
theorem r_tru {b : Bool} {k : Bool → VR β} : (truU (.bl b)).bind k = k b := nrf rfl
theorem i_val_ {e : E} {k : List U × Bool → VR β} : (evVt C (.val e) en).bind k = (evV C e en).bind fun d => (iterU d).bind k := by rw [evVt, bind_as]
theorem i_T {xs : List U} {k : List U × Bool → VR β} : (iterU (.tup xs)).bind k = k (xs, false) := nrf rfl
theorem i_L {xs : List U} {k : List U × Bool → VR β} : (iterU (.lst xs)).bind k = k (xs, true) := nrf rfl
theorem i_F {xs : List U} {k : List U × Bool → VR β} : (iterU (.frz xs)).bind k = k (xs, true) := nrf rfl
theorem i_rng1_ {b : E} {k : List U × Bool → VR β} : (evVt C (.rng1 b) en).bind k = (evV C b en).bind fun y => (rngU (.int 0) y).bind fun xs => k (xs, false) := by
  rw [evVt, bind_as]; congr; funext y; rw [bind_as]; rfl
theorem i_rng2_ {a b : E} {k : List U × Bool → VR β} : (evVt C (.rng2 a b) en).bind k = (evV C a en).bind fun x => (evV C b en).bind fun y => (rngU x y).bind fun xs => k (xs, false) := by
  rw [evVt, bind_as]; congr; funext x; rw [bind_as]; congr; funext y; rw [bind_as]; rfl
theorem o_rng {a b : Int} {k : List U → VR β} (h1 : -(2 ^ 62) ≤ a ∧ a < 2 ^ 62 ∧ -(2 ^ 62) ≤ b ∧ b < 2 ^ 62) : (rngU (.int a) (.int b)).bind k = k ((List.range (b - a).toNat).map fun k => .int (a + (k : Nat))) := by
  have e : rngU (.int a) (.int b) = .ok ((List.range (b - a).toNat).map fun k => .int (a + (k : Nat))) := if_pos h1
  rw [e]; rfl
theorem u_T {n : Nat} {xs : List U} {k : List U → VR β} (h : xs.length = n) : (unpU n (.tup xs)).bind k = k xs := by
  have e : unpU n (.tup xs) = .ok xs := if_pos h
  rw [e]; rfl
theorem u_L {n : Nat} {xs : List U} {k : List U → VR β} (h : xs.length = n) : (unpU n (.lst xs)).bind k = k xs := by
  have e : unpU n (.lst xs) = .ok xs := if_pos h
  rw [e]; rfl
theorem u_2 {i j : Nat} {x y : U} {k : List U → VR β} : (unpU (List.length [i, j]) (.tup [x, y])).bind k = k [x, y] := u_T rfl
theorem u_3 {i j l : Nat} {x y z : U} {k : List U → VR β} : (unpU (List.length [i, j, l]) (.tup [x, y, z])).bind k = k [x, y, z] := u_T rfl
theorem u_4 {i j l m : Nat} {x y z w : U} {k : List U → VR β} : (unpU (List.length [i, j, l, m]) (.tup [x, y, z, w])).bind k = k [x, y, z, w] := u_T rfl
theorem u_l2 {i j : Nat} {x y : U} {k : List U → VR β} : (unpU (List.length [i, j]) (.lst [x, y])).bind k = k [x, y] := u_L rfl
theorem u_l3 {i j l : Nat} {x y z : U} {k : List U → VR β} : (unpU (List.length [i, j, l]) (.lst [x, y, z])).bind k = k [x, y, z] := u_L rfl
theorem u_l4 {i j l m : Nat} {x y z w : U} {k : List U → VR β} : (unpU (List.length [i, j, l, m]) (.lst [x, y, z, w])).bind k = k [x, y, z, w] := u_L rfl
theorem u_n2 {x y : U} {k : List U → VR β} : (unpU 2 (.tup [x, y])).bind k = k [x, y] := u_T rfl
theorem u_n3 {x y z : U} {k : List U → VR β} : (unpU 3 (.tup [x, y, z])).bind k = k [x, y, z] := u_T rfl
theorem u_n4 {x y z w : U} {k : List U → VR β} : (unpU 4 (.tup [x, y, z, w])).bind k = k [x, y, z, w] := u_T rfl
theorem u_nl2 {x y : U} {k : List U → VR β} : (unpU 2 (.lst [x, y])).bind k = k [x, y] := u_L rfl
theorem u_nl3 {x y z : U} {k : List U → VR β} : (unpU 3 (.lst [x, y, z])).bind k = k [x, y, z] := u_L rfl
theorem u_nl4 {x y z w : U} {k : List U → VR β} : (unpU 4 (.lst [x, y, z, w])).bind k = k [x, y, z, w] := u_L rfl
theorem b_nm {i : Nat} {u : U} {k : VEnv → VR β} : (bindV (.nm i) u en).bind k = setK en i false u k := nrf rfl
theorem b_tp {is : List Nat} {u : U} {k : VEnv → VR β} : (bindV (.tp is) u en).bind k = (unpU is.length u).bind fun us => setsK en is us k := by
  show ((unpU is.length u).bind _).bind k = _
  rw [bind_as]; rfl
/-! wiping -/
def wipeK {β : Type} (en : VEnv) (own : List Nat) (k : VEnv → VR β) : VR β := k (wipeV en own)
theorem wipe_0 : wipeV en [] = en := nrf rfl
def clrV (en : VEnv) (v : Nat) : VEnv := en.set v none
theorem wipe_s {v : Nat} {vs : List Nat} : wipeV en (v :: vs) = clrV (wipeV en vs) v := nrf rfl
theorem clr_0 {o : Option (Bool × U)} : clrV (o :: en) 0 = none :: en := nrf rfl
theorem clr_s {o : Option (Bool × U)} {i : Nat} : clrV (o :: en) (i + 1) = o :: clrV en i := nrf rfl
theorem c_nil {bnd : U → VR VEnv} {c : VEnv → VR Bool} {e : VEnv → VR U} {k : List U → VR β} : (noXV (compV bnd c e [])).bind k = k [] := nrf rfl
/-! statements -/
section
variable {k : VF → VR β}
def seqK {β : Type} (g : VEnv → VR β) (k : VF → VR β) : VF → VR β := fun f => match f with
  | .nx en => g en
  | f => k f
theorem x_set {i : Nat} {e : E} : (exV fr C (.set i e) en).bind k = (evV C e en).bind fun u => putK (freshE fr e) (fvE e) i u en fun en => k (.nx en) := by
  rw [exV, bind_as]; rfl
theorem x_unp {is : List Nat} {e : E} : (exV fr C (.unp is e) en).bind k = (evV C e en).bind fun u => (unpU is.length u).bind fun us => setsK (leaks us (fvE e) en) is us fun en => k (.nx en) := by
  rw [exV, bind_as]; congr; funext u; rw [bind_as]; rfl
theorem x_expr {e : E} : (exV fr C (.expr e) en).bind k = (evV C e en).bind fun _ => k (.nx en) := by
  rw [exV, bind_as]; rfl
theorem x_ret {e : E} : (exV fr C (.ret e) en).bind k = (evV C e en).bind fun u => k (.ret ((freshE fr e && isL u) || ownR en e) u) := by
  rw [exV, bind_as]; rfl
theorem x_ret0 : (exV fr C .ret0 en).bind k = k (.ret false .non) := by rw [exV]; rfl
theorem x_if {c : E} {a b : Sts} : (exV fr C (.ifs c a b) en).bind k = (evV C c en).bind fun x => (truU x).bind fun t => if t = true then (exVB fr C a en).bind k else (exVB fr C b en).bind k := by
  rw [exV, bind_as]; congr; funext x; rw [bind_as]; congr; funext t; rw [ite_bi]
theorem x_brk : (exV fr C .brk en).bind k = k (.brk en) := by rw [exV]; rfl
theorem x_cnt : (exV fr C .cnt en).bind k = k (.cnt en) := by rw [exV]; rfl
theorem x_pass : (exV fr C .pass en).bind k = k (.nx en) := by rw [exV]; rfl
theorem x_nil : (exVB fr C .nil en).bind k = k (.nx en) := by rw [exVB]; rfl
theorem x_cons {s : NL.St} {r : Sts} : (exVB fr C (.cons s r) en).bind k = (exV fr C s en).bind (seqK (fun en => (exVB fr C r en).bind k) k) := by
  rw [exVB, bind_as]; congr; funext f; cases f <;> rfl
theorem x_app {i : Nat} {e : E} : (exV fr C (.app i e) en).bind k = ownK en i fun _ => (evV C e en).bind fun u => ownK (leak false u (fvE e) en) i fun us => if us.length < sizeLine then setK (leak false u (fvE e) en) i true (.lst (us ++ [u])) fun en => k (.nx en) else .stuck := by
  rw [exV, bind_as]; unfold ownK; congr; funext us0; rw [bind_as]; congr; funext u; rw [bind_as]; congr; funext us; split <;> rfl
def augK {β : Type} (en : VEnv) (i : Nat) (k : Int → VR β) : VR β := (intV en i).bind k
theorem aug_0 {w : Bool} {x : Int} {k : Int → VR β} : augK (some (w, .int x) :: en) 0 k = k x := nrf rfl
theorem aug_s {o : Option (Bool × U)} {i : Nat} {k : Int → VR β} : augK (o :: en) (i + 1) k = augK en i k := by unfold augK intV; rw [List.getElem?_cons_succ]
theorem toI_k {x : Int} {k : Int → VR β} : (toI (.int x)).bind k = k x := nrf rfl
theorem x_aug {i : Nat} {e : E} : (exV fr C (.aug i e) en).bind k = augK en i fun x => (evV C e en).bind fun y => (toI y).bind fun y => setK en i false (.int (x + y)) fun en => k (.nx en) := by
  rw [exV, bind_as]; unfold augK; congr; funext x; rw [bind_as]; congr; funext y; rw [bind_as]; rfl
theorem s_nx {g : VEnv → VR β} {en : VEnv} : seqK g k (.nx en) = g en := nrf rfl
theorem s_rt {g : VEnv → VR β} {w : Bool} {u : U} : seqK g k (.ret w u) = k (.ret w u) := nrf rfl
theorem s_bk {g : VEnv → VR β} {en : VEnv} : seqK g k (.brk en) = k (.brk en) := nrf rfl
theorem s_ct {g : VEnv → VR β} {en : VEnv} : seqK g k (.cnt en) = k (.cnt en) := nrf rfl
/-! loops -/
def forK {β : Type} (bnd : U → VEnv → VR VEnv) (b : VEnv → VR VF) (xs : List U) (k : VF → VR β) : VF → VR β := fun f => match f with
  | .nx en' => (forV bnd b xs en').bind k
  | .cnt en' => (forV bnd b xs en').bind k
  | .brk en' => k (.nx en')
  | f => k f
def lowI (p : List U × Bool) (w : Bool) (is : List Nat) (en : VEnv) : VEnv := if ((!p.2 || w) && noLs p.1) = true then en else unown en is
theorem x_for {tg : Tg} {e : E} {b : Sts} : (exV fr C (.for_ tg (.val e) b) en).bind k = (evV C e en).bind fun u => (iterU u).bind fun p => (forV (bindV tg) (fun en' => exVB fr C b en') p.1 (lowI p (freshE fr e && isL u) (fvE e) en)).bind k := by
  rw [exV, bind_as]; congr; funext u; rw [bind_as]; rfl
theorem x_for1 {tg : Tg} {e : E} {b : Sts} : (exV fr C (.for_ tg (.rng1 e) b) en).bind k = (evVt C (.rng1 e) en).bind fun p => (forV (bindV tg) (fun en' => exVB fr C b en') p.1 en).bind k := by
  rw [exV, bind_as]
  all_goals (intros; rename_i z; cases z)
theorem x_for2 {tg : Tg} {e e' : E} {b : Sts} : (exV fr C (.for_ tg (.rng2 e e') b) en).bind k = (evVt C (.rng2 e e') en).bind fun p => (forV (bindV tg) (fun en' => exVB fr C b en') p.1 en).bind k := by
  rw [exV, bind_as]
  all_goals (intros; rename_i z; cases z)
theorem li_T {xs : List U} {w : Bool} {is : List Nat} [h : NoLs xs] : lowI (xs, false) w is en = en := by unfold lowI; rw [h.no]; rfl
theorem li_F {xs : List U} {is : List Nat} [h : NoLs xs] : lowI (xs, true) true is en = en := by unfold lowI; rw [h.no]; rfl
theorem li_S {xs : List U} {is : List Nat} : lowI (xs, true) false is en = unown en is := by unfold lowI; rfl
theorem f_nil {bnd : U → VEnv → VR VEnv} {b : VEnv → VR VF} : (forV bnd b [] en).bind k = k (.nx en) := nrf rfl
theorem f_cons {bnd : U → VEnv → VR VEnv} {b : VEnv → VR VF} {x : U} {xs : List U} : (forV bnd b (x :: xs) en).bind k = (bnd x en).bind fun en1 => (b en1).bind (forK bnd b xs k) := by
  rw [forV, bind_as]; congr; funext en1; rw [bind_as]; congr; funext f; cases f <;> rfl
theorem k_nx {bnd : U → VEnv → VR VEnv} {b : VEnv → VR VF} {xs : List U} : forK bnd b xs k (.nx en) = (forV bnd b xs en).bind k := nrf rfl
theorem k_ct {bnd : U → VEnv → VR VEnv} {b : VEnv → VR VF} {xs : List U} : forK bnd b xs k (.cnt en) = (forV bnd b xs en).bind k := nrf rfl
theorem k_bk {bnd : U → VEnv → VR VEnv} {b : VEnv → VR VF} {xs : List U} : forK bnd b xs k (.brk en) = k (.nx en) := nrf rfl
theorem k_rt {bnd : U → VEnv → VR VEnv} {b : VEnv → VR VF} {xs : List U} {w : Bool} {u : U} : forK bnd b xs k (.ret w u) = k (.ret w u) := nrf rfl
def whK {β : Type} (c : VEnv → VR Bool) (b : VEnv → VR VF) (n : Nat) (k : VF → VR β) : VF → VR β := fun f => match f with
  | .nx en' => (whlV c b n en').bind k
  | .cnt en' => (whlV c b n en').bind k
  | .brk en' => k (.nx en')
  | f => k f
theorem x_whl {c : E} {b : Sts} : (exV fr C (.whl c b) en).bind k = (whlV (fun en' => (evV C c en').bind truU) (fun en' => exVB fr C b en') fuel en).bind k := by rw [exV]
theorem w_succ {c : E} {b : VEnv → VR VF} {n : Nat} : (whlV (fun en' => (evV C c en').bind truU) b (n + 1) en).bind k = (evV C c en).bind fun x => (truU x).bind fun t => if t = true then (b en).bind (whK (fun en' => (evV C c en').bind truU) b n k) else k (.nx en) := by
  rw [whlV, bind_as, bind_as]; congr; funext x; congr; funext t
  rw [ite_bi, bind_as]
  cases t
  · rfl
  · rw [if_pos rfl, if_pos rfl]; congr; funext f; cases f <;> rfl
theorem wk_nx {c : VEnv → VR Bool} {b : VEnv → VR VF} {n : Nat} : whK c b n k (.nx en) = (whlV c b n en).bind k := nrf rfl
theorem wk_ct {c : VEnv → VR Bool} {b : VEnv → VR VF} {n : Nat} : whK c b n k (.cnt en) = (whlV c b n en).bind k := nrf rfl
theorem wk_bk {c : VEnv → VR Bool} {b : VEnv → VR VF} {n : Nat} : whK c b n k (.brk en) = k (.nx en) := nrf rfl
theorem wk_rt {c : VEnv → VR Bool} {b : VEnv → VR VF} {n : Nat} {w : Bool} {u : U} : whK c b n k (.ret w u) = k (.ret w u) := nrf rfl
end
/-! ### defs -/
def retK (w : Bool) : VF → VR U
  | .nx _ => .ok .non
  | .ret o u => if (w && isL u && !o) = true then .stuck else .ok u
  | _ => .stuck
theorem run_eq {w : Bool} {f : Fn} {us : List U} (h : us.length = f.np) : runV fr C w f us = (exVB fr C f.body (us.map (fun u => some (false, u)) ++ List.replicate (f.nv - f.np) none)).bind (retK w) := by
  unfold runV
  rw [if_pos h]
  cases exVB fr C f.body (us.map (fun u => some (false, u)) ++ List.replicate (f.nv - f.np) none) with
  | ok fl => cases fl <;> rfl
  | exc c u => rfl
  | stuck => rfl
theorem call_eq {T : Nat → Option Fn} {n i : Nat} {fn : Fn} {us : List U} (h : n ≠ 0) (hT : T i = some fn) : callV T fr n i us = runV fr (callV T fr (n - 1)) (fr i) fn us := by
  cases n with
  | zero => exact absurd rfl h
  | succ n =>
    show (match T i with | some fn => runV fr (callV T fr n) (fr i) fn us | none => .stuck) = _
    rw [hT]; rfl
theorem rt_nx {w : Bool} : retK w (.nx en) = .ok .non := nrf rfl
theorem rt_f {o : Bool} {u : U} : retK false (.ret o u) = .ok u := nrf rfl
theorem rt_t {u : U} {w : Bool} : retK w (.ret true u) = .ok u := by unfold retK; simp
theorem ow_0 {w : Bool} {u : U} : ownR (some (w, u) :: en) (.var 0) = w := nrf rfl
theorem ow_s {o : Option (Bool × U)} {i : Nat} : ownR (o :: en) (.var (i + 1)) = ownR en (.var i) := by unfold ownR; dsimp only; rw [List.getElem?_cons_succ]
theorem il_l {us : List U} : isL (.lst us) = true := nrf rfl
theorem fe_lst {es : Es} : freshE fr (.lst es) = true := by unfold freshE; rfl
theorem fe_comp {own : List Nat} {tg : Tg} {it : NL.It} {c e : E} : freshE fr (.comp own tg it c e) = true := by unfold freshE; rfl
theorem fe_slc {p q : Bool} {a b c : E} : freshE fr (.slc p q a b c) = true := by unfold freshE; rfl
theorem fe_bin {o : Bop} {a b : E} : freshE fr (.bin o a b) = true := by unfold freshE; rfl
theorem fe_list {es : Es} : freshE fr (.blt .list es) = true := by unfold freshE newB; rfl
theorem fe_call {f : Nat} {es : Es} : freshE fr (.call f es) = fr f := by unfold freshE; rfl
theorem fe_var {i : Nat} : freshE fr (.var i) = false := by unfold freshE; rfl
end
/-! ### sizes -/
class Sz (n : outParam Nat) (i : Int) : Prop where
  lt : i.natAbs < 2 ^ n
theorem Sz.up {n m : Nat} {i : Int} (h : Sz n i) (l : n ≤ m) : Sz m i := ⟨Nat.lt_of_lt_of_le h.lt (Nat.pow_le_pow_right (by decide) l)⟩
theorem natAbs_add_lt {a b : Int} {n m : Nat} (h1 : a.natAbs < 2 ^ n) (h2 : b.natAbs < 2 ^ m) : (a + b).natAbs < 2 ^ (n + m + 1) := by
  have e : (a + b).natAbs ≤ a.natAbs + b.natAbs := Int.natAbs_add_le a b
  have p : 2 ^ (n + m + 1) = 2 * (2 ^ n * 2 ^ m) := by rw [Nat.pow_succ, Nat.pow_add]; omega
  have q1 : 2 ^ n ≤ 2 ^ n * 2 ^ m := Nat.le_mul_of_pos_right _ (Nat.pow_pos (by decide))
  have q2 : 2 ^ m ≤ 2 ^ n * 2 ^ m := Nat.le_mul_of_pos_left _ (Nat.pow_pos (by decide))
  omega
instance sz_add {n m : Nat} {i j : Int} [a : Sz n i] [b : Sz m j] : Sz (n + m + 1) (i + j) := ⟨natAbs_add_lt a.lt b.lt⟩
instance sz_sub {n m : Nat} {i j : Int} [a : Sz n i] [b : Sz m j] : Sz (n + m + 1) (i - j) := ⟨by rw [Int.sub_eq_add_neg]; exact natAbs_add_lt a.lt (by rw [Int.natAbs_neg]; exact b.lt)⟩
instance sz_neg {n : Nat} {i : Int} [a : Sz n i] : Sz n (-i) := ⟨by rw [Int.natAbs_neg]; exact a.lt⟩
instance sz_mul {n m : Nat} {i j : Int} [a : Sz n i] [b : Sz m j] : Sz (n + m) (i * j) := ⟨by
  rw [Int.natAbs_mul, Nat.pow_add]
  exact Nat.mul_lt_mul_of_lt_of_lt a.lt b.lt⟩
instance sz_0 : Sz 1 0 := ⟨by decide⟩
instance sz_1 : Sz 1 1 := ⟨by decide⟩
instance sz_2 : Sz 2 2 := ⟨by decide⟩
theorem mulOk {n m : Nat} {i j : Int} [a : Sz n i] [b : Sz m j] (h : n + m ≤ 130000000) : MulOk i j := ⟨n, m, a.lt, b.lt, h⟩
theorem o_mul {β : Type} {k : U → VR β} {n m : Nat} {i j : Int} [a : Sz n i] [b : Sz m j] (hh : n + m ≤ 130000000) : (binU .mul (.int i) (.int j)).bind k = k (.int (i * j)) := o_mul0 (mulOk hh)
theorem fuel_ge {n m : Nat} (h : m < 2 ^ n) (hn : n ≤ 99999) : m + 1 ≤ fuel := by
  have e : fuel = 2 ^ 100000 := by unfold fuel; rfl
  rw [e]
  have := Nat.pow_le_pow_right (show 0 < 2 by decide) (show n ≤ 99999 from hn)
  have q : 2 ^ 99999 ≤ 2 ^ 100000 := Nat.pow_le_pow_right (by decide) (by decide)
  exact Nat.le_trans (Nat.succ_le_of_lt h) (Nat.le_trans this q)
/-! ### equal, in order -/
theorem ieq (i j : Int) : (i == j) = decide (i = j) := by rw [Bool.eq_iff_iff]; simp
theorem eqv_int {i j : Int} : PyData.eqv (.int i) (.int j) = decide (i = j) := by simp only [PyData.eqv]; exact ieq i j
/-- how a thing of ours is told: as plain data, equal where it is equal -/
class Tl (α : Type) [DecidableEq α] (f : α → U) (d : outParam Nat) (p : outParam (α → PyData)) : Prop where
  pu : ∀ (k : Nat) (x : α), d ≤ k → pdU k (f x) = some (p x)
  pt : ∀ (k : Nat) (x : α), d ≤ k → pdT k (f x) = some (p x)
  eqv : ∀ x y, PyData.eqv (p x) (p y) = decide (x = y)
theorem eq_tl {α : Type} [DecidableEq α] {f : α → U} {d : Nat} {p : α → PyData} [t : Tl α f d p] (h : d ≤ 12) (x y : α) : eqU (f x) (f y) = some (decide (x = y)) := by
  unfold eqU
  rw [t.pu 12 x h, t.pu 12 y h, ← t.eqv x y]
theorem eqT_tl {α : Type} [DecidableEq α] {f : α → U} {d : Nat} {p : α → PyData} [t : Tl α f d p] (h : d ≤ 12) (x y : α) : eqT (f x) (f y) = some (decide (x = y)) := by
  unfold eqT
  rw [t.pt 12 x h, t.pt 12 y h, ← t.eqv x y]
instance tl_int : Tl Int U.int 0 PyData.int := ⟨fun k x _ => by cases k <;> rfl, fun k x _ => by cases k <;> rfl, fun x y => eqv_int⟩
abbrev pr {α β : Type} (f : α → U) (g : β → U) : α × β → U := fun x => .tup [f x.1, g x.2]
abbrev tr {α β γ : Type} (f : α → U) (g : β → U) (h : γ → U) : α × β × γ → U := fun x => .tup [f x.1, g x.2.1, h x.2.2]
instance tl_pr {α β : Type} [DecidableEq α] [DecidableEq β] {f : α → U} {g : β → U} {d e : Nat} {p : α → PyData} {q : β → PyData} [a : Tl α f d p] [b : Tl β g e q] : Tl (α × β) (pr f g) (max d e + 1) (fun x => .tuple [p x.1, q x.2]) := by
  refine ⟨fun k x h => ?_, fun k x h => ?_, fun x y => ?_⟩
  · obtain ⟨k, rfl⟩ : ∃ j, k = j + 1 := ⟨k - 1, by omega⟩
    show (NL.mapO (pdU k) [f x.1, g x.2]).map _ = _
    unfold NL.mapO NL.mapO NL.mapO
    rw [a.pu k x.1 (by omega), b.pu k x.2 (by omega)]; rfl
  · obtain ⟨k, rfl⟩ : ∃ j, k = j + 1 := ⟨k - 1, by omega⟩
    show (NL.mapO (pdT k) [f x.1, g x.2]).map _ = _
    unfold NL.mapO NL.mapO NL.mapO
    rw [a.pt k x.1 (by omega), b.pt k x.2 (by omega)]; rfl
  · simp only [PyData.eqv, PyData.eqvAll, Bool.and_true, a.eqv, b.eqv]
    rw [← Bool.decide_and]
    exact decide_eq_decide.mpr Prod.ext_iff.symm
instance tl_tr {α β γ : Type} [DecidableEq α] [DecidableEq β] [DecidableEq γ] {f : α → U} {g : β → U} {h : γ → U} {d e c : Nat} {p : α → PyData} {q : β → PyData} {r : γ → PyData} [a : Tl α f d p] [b : Tl β g e q] [t : Tl γ h c r] : Tl (α × β × γ) (tr f g h) (max d (max e c) + 1) (fun x => .tuple [p x.1, q x.2.1, r x.2.2]) := by
  refine ⟨fun k x hk => ?_, fun k x hk => ?_, fun x y => ?_⟩
  · obtain ⟨k, rfl⟩ : ∃ j, k = j + 1 := ⟨k - 1, by omega⟩
    show (NL.mapO (pdU k) [f x.1, g x.2.1, h x.2.2]).map _ = _
    unfold NL.mapO NL.mapO NL.mapO NL.mapO
    rw [a.pu k x.1 (by omega), b.pu k x.2.1 (by omega), t.pu k x.2.2 (by omega)]; rfl
  · obtain ⟨k, rfl⟩ : ∃ j, k = j + 1 := ⟨k - 1, by omega⟩
    show (NL.mapO (pdT k) [f x.1, g x.2.1, h x.2.2]).map _ = _
    unfold NL.mapO NL.mapO NL.mapO NL.mapO
    rw [a.pt k x.1 (by omega), b.pt k x.2.1 (by omega), t.pt k x.2.2 (by omega)]; rfl
  · simp only [PyData.eqv, PyData.eqvAll, Bool.and_true, a.eqv, b.eqv, t.eqv]
    rw [← Bool.decide_and, ← Bool.decide_and]
    exact decide_eq_decide.mpr (by rw [Prod.ext_iff, Prod.ext_iff])
abbrev ptU : GM.Pt → U := pr U.int U.int
/-- lists -/
abbrev lsU {α : Type} (f : α → U) : List α → U := fun xs => .lst (xs.map f)
theorem mapO_tl {α : Type} {f : α → U} {g : U → Option PyData} {p : α → PyData} (h : ∀ x, g (f x) = some (p x)) : ∀ xs : List α, NL.mapO g (xs.map f) = some (xs.map p)
  | [] => rfl
  | x :: xs => by
    rw [List.map_cons, List.map_cons]
    unfold NL.mapO
    rw [h x, mapO_tl h xs]
theorem eqvAll_tl {α : Type} [DecidableEq α] {p : α → PyData} (h : ∀ x y, PyData.eqv (p x) (p y) = decide (x = y)) : ∀ xs ys : List α, PyData.eqvAll (xs.map p) (ys.map p) = decide (xs = ys)
  | [], [] => by simp [PyData.eqvAll]
  | [], y :: ys => by simp [PyData.eqvAll]
  | x :: xs, [] => by simp [PyData.eqvAll]
  | x :: xs, y :: ys => by
    rw [List.map_cons, List.map_cons]
    simp only [PyData.eqvAll]
    rw [h, eqvAll_tl h xs ys, ← Bool.decide_and]
    exact decide_eq_decide.mpr (by simp)
theorem eq_ls {α : Type} [DecidableEq α] {f : α → U} {d : Nat} {p : α → PyData} [t : Tl α f d p] (h : d ≤ 11) (xs ys : List α) : eqU (.lst (xs.map f)) (.lst (ys.map f)) = some (decide (xs = ys)) := by
  unfold eqU
  have e : ∀ zs : List α, pdU 12 (.lst (zs.map f)) = some (.list (zs.map p)) := fun zs => by
    show (NL.mapO (pdU 11) (zs.map f)).map _ = _
    rw [mapO_tl (fun x => t.pu 11 x h)]; rfl
  rw [e, e]
  simp only [PyData.eqv]
  rw [eqvAll_tl t.eqv]
theorem any_tl {α : Type} [DecidableEq α] {p : α → PyData} (h : ∀ x y, PyData.eqv (p x) (p y) = decide (x = y)) (x : α) : ∀ ys : List α, ((ys.map p).any fun q => PyData.eqv q (p x)) = decide (x ∈ ys)
  | [] => by simp
  | y :: ys => by
    rw [List.map_cons, List.any_cons, h, any_tl h x ys, ← Bool.decide_or]
    exact decide_eq_decide.mpr (by rw [List.mem_cons]; exact ⟨fun z => z.imp Eq.symm id, fun z => z.imp Eq.symm id⟩)
theorem in_ls {α : Type} [DecidableEq α] {f : α → U} {d : Nat} {p : α → PyData} [t : Tl α f d p] (h : d ≤ 12) (x : α) (ys : List α) : inU (f x) (.lst (ys.map f)) = some (decide (x ∈ ys)) := by
  unfold inU sqU
  dsimp only
  rw [t.pu 12 x h, mapO_tl (fun x => t.pu 12 x h)]
  dsimp only
  rw [any_tl t.eqv]
theorem in_tp {α : Type} [DecidableEq α] {f : α → U} {d : Nat} {p : α → PyData} [t : Tl α f d p] (h : d ≤ 12) (x : α) (ys : List α) : inU (f x) (.tup (ys.map f)) = some (decide (x ∈ ys)) := by
  unfold inU
  dsimp only
  rw [t.pu 12 x h, mapO_tl (fun x => t.pu 12 x h)]
  dsimp only
  rw [any_tl t.eqv]
end VL

/-! Numerals, rests, powers (printed by gen22.py). -/
namespace VL
open PySem PySem.Spec PyProof.Rows L2 NL
class Pz (j : Int) : Prop where
  pos : 0 < j
instance sz_emod {n : Nat} {i j : Int} [a : Sz n j] [p : Pz j] : Sz n (i % j) := ⟨by
  have h1 := Int.emod_nonneg i (Int.ne_of_gt p.pos)
  have h2 := Int.emod_lt_of_pos i p.pos
  have h3 := a.lt
  omega⟩
instance pz_tp {j : Int} [p : Pz j] : Pz (2 * j + 1) := ⟨by have := p.pos; omega⟩
instance pz_tm {j : Int} [p : Pz j] : Pz (2 * j - 1) := ⟨by have := p.pos; omega⟩
theorem sl {n : Nat} (h : n ≤ 1000) : (n ≤ sizeLine) = True := eq_true (Nat.le_of_lt (small1000 h))
instance pz_n1 : Pz 1 := ⟨by decide⟩
instance pz_n2 : Pz 2 := ⟨by decide⟩
instance pz_n3 : Pz 3 := ⟨by decide⟩
instance pz_n4 : Pz 4 := ⟨by decide⟩
instance pz_n5 : Pz 5 := ⟨by decide⟩
instance pz_n6 : Pz 6 := ⟨by decide⟩
instance pz_n7 : Pz 7 := ⟨by decide⟩
instance pz_n8 : Pz 8 := ⟨by decide⟩
instance pz_n9 : Pz 9 := ⟨by decide⟩
instance pz_n10 : Pz 10 := ⟨by decide⟩
instance pz_n11 : Pz 11 := ⟨by decide⟩
instance pz_n12 : Pz 12 := ⟨by decide⟩
instance pz_n13 : Pz 13 := ⟨by decide⟩
instance pz_n14 : Pz 14 := ⟨by decide⟩
instance pz_n15 : Pz 15 := ⟨by decide⟩
instance pz_n16 : Pz 16 := ⟨by decide⟩
instance pz_n17 : Pz 17 := ⟨by decide⟩
instance pz_n18 : Pz 18 := ⟨by decide⟩
instance pz_n19 : Pz 19 := ⟨by decide⟩
instance pz_n20 : Pz 20 := ⟨by decide⟩
instance pz_n21 : Pz 21 := ⟨by decide⟩
instance pz_n22 : Pz 22 := ⟨by decide⟩
instance pz_n23 : Pz 23 := ⟨by decide⟩
instance pz_n24 : Pz 24 := ⟨by decide⟩
instance pz_n25 : Pz 25 := ⟨by decide⟩
instance pz_n26 : Pz 26 := ⟨by decide⟩
instance pz_n27 : Pz 27 := ⟨by decide⟩
instance pz_n28 : Pz 28 := ⟨by decide⟩
instance pz_n29 : Pz 29 := ⟨by decide⟩
instance pz_n30 : Pz 30 := ⟨by decide⟩
instance pz_n31 : Pz 31 := ⟨by decide⟩
instance pz_n32 : Pz 32 := ⟨by decide⟩
instance pz_n33 : Pz 33 := ⟨by decide⟩
instance pz_n34 : Pz 34 := ⟨by decide⟩
instance pz_n35 : Pz 35 := ⟨by decide⟩
instance pz_n36 : Pz 36 := ⟨by decide⟩
instance pz_n37 : Pz 37 := ⟨by decide⟩
instance pz_n38 : Pz 38 := ⟨by decide⟩
instance pz_n39 : Pz 39 := ⟨by decide⟩
instance pz_n40 : Pz 40 := ⟨by decide⟩
instance pz_n41 : Pz 41 := ⟨by decide⟩
instance pz_n42 : Pz 42 := ⟨by decide⟩
instance pz_n43 : Pz 43 := ⟨by decide⟩
instance pz_n44 : Pz 44 := ⟨by decide⟩
instance pz_n45 : Pz 45 := ⟨by decide⟩
instance pz_n46 : Pz 46 := ⟨by decide⟩
instance pz_n47 : Pz 47 := ⟨by decide⟩
instance pz_n48 : Pz 48 := ⟨by decide⟩
instance pz_n49 : Pz 49 := ⟨by decide⟩
instance pz_n50 : Pz 50 := ⟨by decide⟩
instance pz_n51 : Pz 51 := ⟨by decide⟩
instance pz_n52 : Pz 52 := ⟨by decide⟩
instance pz_n53 : Pz 53 := ⟨by decide⟩
instance pz_n54 : Pz 54 := ⟨by decide⟩
instance pz_n55 : Pz 55 := ⟨by decide⟩
instance pz_n56 : Pz 56 := ⟨by decide⟩
instance pz_n57 : Pz 57 := ⟨by decide⟩
instance pz_n58 : Pz 58 := ⟨by decide⟩
instance pz_n59 : Pz 59 := ⟨by decide⟩
instance pz_n60 : Pz 60 := ⟨by decide⟩
instance pz_n61 : Pz 61 := ⟨by decide⟩
instance pz_n62 : Pz 62 := ⟨by decide⟩
instance pz_n63 : Pz 63 := ⟨by decide⟩
instance pz_n64 : Pz 64 := ⟨by decide⟩
instance pz_n72 : Pz 72 := ⟨by decide⟩
instance pz_n78 : Pz 78 := ⟨by decide⟩
instance pz_n83 : Pz 83 := ⟨by decide⟩
instance pz_n95 : Pz 95 := ⟨by decide⟩
instance pz_n100 : Pz 100 := ⟨by decide⟩
instance pz_n201 : Pz 201 := ⟨by decide⟩
instance pz_n285 : Pz 285 := ⟨by decide⟩
instance pz_n384 : Pz 384 := ⟨by decide⟩
instance pz_n512 : Pz 512 := ⟨by decide⟩
instance pz_n748 : Pz 748 := ⟨by decide⟩
instance pz_n999 : Pz 999 := ⟨by decide⟩
instance pz_n1000 : Pz 1000 := ⟨by decide⟩
instance pz_n1001 : Pz 1001 := ⟨by decide⟩
instance pz_n1009 : Pz 1009 := ⟨by decide⟩
instance pz_n1013 : Pz 1013 := ⟨by decide⟩
instance pz_n1999 : Pz 1999 := ⟨by decide⟩
instance pz_n2001 : Pz 2001 := ⟨by decide⟩
instance pz_n2003 : Pz 2003 := ⟨by decide⟩
instance pz_n7919 : Pz 7919 := ⟨by decide⟩
instance pz_n8000 : Pz 8000 := ⟨by decide⟩
instance pz_n12345 : Pz 12345 := ⟨by decide⟩
instance pz_n16807 : Pz 16807 := ⟨by decide⟩
instance pz_n39373 : Pz 39373 := ⟨by decide⟩
instance pz_n48271 : Pz 48271 := ⟨by decide⟩
instance pz_n54321 : Pz 54321 := ⟨by decide⟩
instance pz_n69621 : Pz 69621 := ⟨by decide⟩
instance pz_n69623 : Pz 69623 := ⟨by decide⟩
instance pz_n100000 : Pz 100000 := ⟨by decide⟩
instance pz_n1000003 : Pz 1000003 := ⟨by decide⟩
instance pz_n2147483563 : Pz 2147483563 := ⟨by decide⟩
instance pz_n2147483587 : Pz 2147483587 := ⟨by decide⟩
instance pz_n2147483629 : Pz 2147483629 := ⟨by decide⟩
instance pz_n2147483647 : Pz 2147483647 := ⟨by decide⟩
instance sz_n3 : Sz 6 3 := ⟨by decide⟩
instance sz_n4 : Sz 6 4 := ⟨by decide⟩
instance sz_n5 : Sz 6 5 := ⟨by decide⟩
instance sz_n6 : Sz 6 6 := ⟨by decide⟩
instance sz_n7 : Sz 6 7 := ⟨by decide⟩
instance sz_n8 : Sz 6 8 := ⟨by decide⟩
instance sz_n9 : Sz 6 9 := ⟨by decide⟩
instance sz_n10 : Sz 6 10 := ⟨by decide⟩
instance sz_n11 : Sz 6 11 := ⟨by decide⟩
instance sz_n12 : Sz 6 12 := ⟨by decide⟩
instance sz_n13 : Sz 6 13 := ⟨by decide⟩
instance sz_n14 : Sz 6 14 := ⟨by decide⟩
instance sz_n15 : Sz 6 15 := ⟨by decide⟩
instance sz_n16 : Sz 6 16 := ⟨by decide⟩
instance sz_n17 : Sz 6 17 := ⟨by decide⟩
instance sz_n18 : Sz 6 18 := ⟨by decide⟩
instance sz_n19 : Sz 6 19 := ⟨by decide⟩
instance sz_n20 : Sz 6 20 := ⟨by decide⟩
instance sz_n21 : Sz 6 21 := ⟨by decide⟩
instance sz_n22 : Sz 6 22 := ⟨by decide⟩
instance sz_n23 : Sz 6 23 := ⟨by decide⟩
instance sz_n24 : Sz 6 24 := ⟨by decide⟩
instance sz_n25 : Sz 6 25 := ⟨by decide⟩
instance sz_n26 : Sz 6 26 := ⟨by decide⟩
instance sz_n27 : Sz 6 27 := ⟨by decide⟩
instance sz_n28 : Sz 6 28 := ⟨by decide⟩
instance sz_n29 : Sz 6 29 := ⟨by decide⟩
instance sz_n30 : Sz 6 30 := ⟨by decide⟩
instance sz_n31 : Sz 6 31 := ⟨by decide⟩
instance sz_n32 : Sz 6 32 := ⟨by decide⟩
instance sz_n33 : Sz 6 33 := ⟨by decide⟩
instance sz_n34 : Sz 6 34 := ⟨by decide⟩
instance sz_n35 : Sz 6 35 := ⟨by decide⟩
instance sz_n36 : Sz 6 36 := ⟨by decide⟩
instance sz_n37 : Sz 6 37 := ⟨by decide⟩
instance sz_n38 : Sz 6 38 := ⟨by decide⟩
instance sz_n39 : Sz 6 39 := ⟨by decide⟩
instance sz_n40 : Sz 6 40 := ⟨by decide⟩
instance sz_n41 : Sz 6 41 := ⟨by decide⟩
instance sz_n42 : Sz 6 42 := ⟨by decide⟩
instance sz_n43 : Sz 6 43 := ⟨by decide⟩
instance sz_n44 : Sz 6 44 := ⟨by decide⟩
instance sz_n45 : Sz 6 45 := ⟨by decide⟩
instance sz_n46 : Sz 6 46 := ⟨by decide⟩
instance sz_n47 : Sz 6 47 := ⟨by decide⟩
instance sz_n48 : Sz 6 48 := ⟨by decide⟩
instance sz_n49 : Sz 6 49 := ⟨by decide⟩
instance sz_n50 : Sz 6 50 := ⟨by decide⟩
instance sz_n51 : Sz 6 51 := ⟨by decide⟩
instance sz_n52 : Sz 6 52 := ⟨by decide⟩
instance sz_n53 : Sz 6 53 := ⟨by decide⟩
instance sz_n54 : Sz 6 54 := ⟨by decide⟩
instance sz_n55 : Sz 6 55 := ⟨by decide⟩
instance sz_n56 : Sz 6 56 := ⟨by decide⟩
instance sz_n57 : Sz 6 57 := ⟨by decide⟩
instance sz_n58 : Sz 6 58 := ⟨by decide⟩
instance sz_n59 : Sz 6 59 := ⟨by decide⟩
instance sz_n60 : Sz 6 60 := ⟨by decide⟩
instance sz_n61 : Sz 6 61 := ⟨by decide⟩
instance sz_n62 : Sz 6 62 := ⟨by decide⟩
instance sz_n63 : Sz 6 63 := ⟨by decide⟩
instance sz_n64 : Sz 7 64 := ⟨by decide⟩
instance sz_n72 : Sz 7 72 := ⟨by decide⟩
instance sz_n78 : Sz 7 78 := ⟨by decide⟩
instance sz_n83 : Sz 7 83 := ⟨by decide⟩
instance sz_n95 : Sz 7 95 := ⟨by decide⟩
instance sz_n100 : Sz 7 100 := ⟨by decide⟩
instance sz_n201 : Sz 8 201 := ⟨by decide⟩
instance sz_n285 : Sz 9 285 := ⟨by decide⟩
instance sz_n384 : Sz 9 384 := ⟨by decide⟩
instance sz_n512 : Sz 10 512 := ⟨by decide⟩
instance sz_n748 : Sz 10 748 := ⟨by decide⟩
instance sz_n999 : Sz 10 999 := ⟨by decide⟩
instance sz_n1000 : Sz 10 1000 := ⟨by decide⟩
instance sz_n1001 : Sz 10 1001 := ⟨by decide⟩
instance sz_n1009 : Sz 10 1009 := ⟨by decide⟩
instance sz_n1013 : Sz 10 1013 := ⟨by decide⟩
instance sz_n1999 : Sz 11 1999 := ⟨by decide⟩
instance sz_n2001 : Sz 11 2001 := ⟨by decide⟩
instance sz_n2003 : Sz 11 2003 := ⟨by decide⟩
instance sz_n7919 : Sz 13 7919 := ⟨by decide⟩
instance sz_n8000 : Sz 13 8000 := ⟨by decide⟩
instance sz_n12345 : Sz 14 12345 := ⟨by decide⟩
instance sz_n16807 : Sz 15 16807 := ⟨by decide⟩
instance sz_n39373 : Sz 16 39373 := ⟨by decide⟩
instance sz_n48271 : Sz 16 48271 := ⟨by decide⟩
instance sz_n54321 : Sz 16 54321 := ⟨by decide⟩
instance sz_n69621 : Sz 17 69621 := ⟨by decide⟩
instance sz_n69623 : Sz 17 69623 := ⟨by decide⟩
instance sz_n100000 : Sz 17 100000 := ⟨by decide⟩
instance sz_n1000003 : Sz 20 1000003 := ⟨by decide⟩
instance sz_n2147483563 : Sz 31 2147483563 := ⟨by decide⟩
instance sz_n2147483587 : Sz 31 2147483587 := ⟨by decide⟩
instance sz_n2147483629 : Sz 31 2147483629 := ⟨by decide⟩
instance sz_n2147483647 : Sz 31 2147483647 := ⟨by decide⟩
@[irreducible] def P10 : Int := 10000000000
theorem P10_eq : P10 = 10000000000 := by unfold P10; rfl
instance pz_p10 : Pz P10 := ⟨by rw [P10_eq]; decide⟩
instance sz_p10 : Sz 34 P10 := ⟨by rw [P10_eq]; decide⟩
@[irreducible] def P20 : Int := 100000000000000000000
theorem P20_eq : P20 = 100000000000000000000 := by unfold P20; rfl
instance pz_p20 : Pz P20 := ⟨by rw [P20_eq]; decide⟩
instance sz_p20 : Sz 67 P20 := ⟨by rw [P20_eq]; decide⟩
@[irreducible] def P30 : Int := 1000000000000000000000000000000
theorem P30_eq : P30 = 1000000000000000000000000000000 := by unfold P30; rfl
instance pz_p30 : Pz P30 := ⟨by rw [P30_eq]; decide⟩
instance sz_p30 : Sz 100 P30 := ⟨by rw [P30_eq]; decide⟩
@[irreducible] def P38 : Int := 100000000000000000000000000000000000000
theorem P38_eq : P38 = 100000000000000000000000000000000000000 := by unfold P38; rfl
instance pz_p38 : Pz P38 := ⟨by rw [P38_eq]; decide⟩
instance sz_p38 : Sz 127 P38 := ⟨by rw [P38_eq]; decide⟩
@[irreducible] def P39 : Int := 1000000000000000000000000000000000000000
theorem P39_eq : P39 = 1000000000000000000000000000000000000000 := by unfold P39; rfl
instance pz_p39 : Pz P39 := ⟨by rw [P39_eq]; decide⟩
instance sz_p39 : Sz 130 P39 := ⟨by rw [P39_eq]; decide⟩
@[irreducible] def P40 : Int := 10000000000000000000000000000000000000000
theorem P40_eq : P40 = 10000000000000000000000000000000000000000 := by unfold P40; rfl
instance pz_p40 : Pz P40 := ⟨by rw [P40_eq]; decide⟩
instance sz_p40 : Sz 133 P40 := ⟨by rw [P40_eq]; decide⟩
@[irreducible] def P59 : Int := 100000000000000000000000000000000000000000000000000000000000
theorem P59_eq : P59 = 100000000000000000000000000000000000000000000000000000000000 := by unfold P59; rfl
instance pz_p59 : Pz P59 := ⟨by rw [P59_eq]; decide⟩
instance sz_p59 : Sz 196 P59 := ⟨by rw [P59_eq]; decide⟩
@[irreducible] def P60 : Int := 1000000000000000000000000000000000000000000000000000000000000
theorem P60_eq : P60 = 1000000000000000000000000000000000000000000000000000000000000 := by unfold P60; rfl
instance pz_p60 : Pz P60 := ⟨by rw [P60_eq]; decide⟩
instance sz_p60 : Sz 200 P60 := ⟨by rw [P60_eq]; decide⟩
@[irreducible] def P64 : Int := 10000000000000000000000000000000000000000000000000000000000000000
theorem P64_eq : P64 = 10000000000000000000000000000000000000000000000000000000000000000 := by unfold P64; rfl
instance pz_p64 : Pz P64 := ⟨by rw [P64_eq]; decide⟩
instance sz_p64 : Sz 213 P64 := ⟨by rw [P64_eq]; decide⟩
@[irreducible] def P240 : Int := 1000000000000000000000000000000000000000000000000000000000000000000000000000000000000000000000000000000000000000000000000000000000000000000000000000000000000000000000000000000000000000000000000000000000000000000000000000000000000000000000000
theorem P240_eq : P240 = 1000000000000000000000000000000000000000000000000000000000000000000000000000000000000000000000000000000000000000000000000000000000000000000000000000000000000000000000000000000000000000000000000000000000000000000000000000000000000000000000000 := by unfold P240; rfl
instance pz_p240 : Pz P240 := ⟨by rw [P240_eq]; decide +kernel⟩
instance sz_p240 : Sz 798 P240 := ⟨by rw [P240_eq]; decide +kernel⟩
instance pz_1 {i j : Int} [p : Pz j] : Pz (1 + i % j) := ⟨by have := Int.emod_nonneg i (Int.ne_of_gt p.pos); omega⟩
instance pz_add {i j : Int} [p : Pz i] [q : Pz j] : Pz (i + j) := ⟨by have := p.pos; have := q.pos; omega⟩
instance pz_mul {i j : Int} [p : Pz i] [q : Pz j] : Pz (i * j) := ⟨Int.mul_pos p.pos q.pos⟩
section
variable {β : Type} {k : U → VR β}
theorem o_p10 : (binU .pow (.int 10) (.int 10)).bind k = k (.int P10) := (o_pow ⟨by decide, by decide +kernel⟩).trans (by rw [show ((10 : Int) ^ (10 : Int).toNat) = P10 by rw [P10_eq]; decide +kernel])
theorem o_p20 : (binU .pow (.int 10) (.int 20)).bind k = k (.int P20) := (o_pow ⟨by decide, by decide +kernel⟩).trans (by rw [show ((10 : Int) ^ (20 : Int).toNat) = P20 by rw [P20_eq]; decide +kernel])
theorem o_p30 : (binU .pow (.int 10) (.int 30)).bind k = k (.int P30) := (o_pow ⟨by decide, by decide +kernel⟩).trans (by rw [show ((10 : Int) ^ (30 : Int).toNat) = P30 by rw [P30_eq]; decide +kernel])
theorem o_p38 : (binU .pow (.int 10) (.int 38)).bind k = k (.int P38) := (o_pow ⟨by decide, by decide +kernel⟩).trans (by rw [show ((10 : Int) ^ (38 : Int).toNat) = P38 by rw [P38_eq]; decide +kernel])
theorem o_p39 : (binU .pow (.int 10) (.int 39)).bind k = k (.int P39) := (o_pow ⟨by decide, by decide +kernel⟩).trans (by rw [show ((10 : Int) ^ (39 : Int).toNat) = P39 by rw [P39_eq]; decide +kernel])
theorem o_p40 : (binU .pow (.int 10) (.int 40)).bind k = k (.int P40) := (o_pow ⟨by decide, by decide +kernel⟩).trans (by rw [show ((10 : Int) ^ (40 : Int).toNat) = P40 by rw [P40_eq]; decide +kernel])
theorem o_p59 : (binU .pow (.int 10) (.int 59)).bind k = k (.int P59) := (o_pow ⟨by decide, by decide +kernel⟩).trans (by rw [show ((10 : Int) ^ (59 : Int).toNat) = P59 by rw [P59_eq]; decide +kernel])
theorem o_p60 : (binU .pow (.int 10) (.int 60)).bind k = k (.int P60) := (o_pow ⟨by decide, by decide +kernel⟩).trans (by rw [show ((10 : Int) ^ (60 : Int).toNat) = P60 by rw [P60_eq]; decide +kernel])
theorem o_p64 : (binU .pow (.int 10) (.int 64)).bind k = k (.int P64) := (o_pow ⟨by decide, by decide +kernel⟩).trans (by rw [show ((10 : Int) ^ (64 : Int).toNat) = P64 by rw [P64_eq]; decide +kernel])
theorem o_pq : (binU .pow (.int P60) (.int 4)).bind k = k (.int P240) := by
  rw [P60_eq]
  exact (o_pow ⟨by decide, by decide +kernel⟩).trans (by rw [show ((1000000000000000000000000000000000000000000000000000000000000 : Int) ^ (4 : Int).toNat) = P240 by rw [P240_eq]; decide +kernel])
theorem o_modP {i j : Int} [p : Pz j] : (binU .mod (.int i) (.int j)).bind k = k (.int (i % j)) := (o_mod (Int.ne_of_gt p.pos)).trans (by rw [Int.fmod_eq_emod_of_nonneg _ (Int.le_of_lt p.pos)])
theorem o_fdivP {n : Nat} {i j : Int} [s : Sz n j] [p : Pz j] (hj : n ≤ 9000) : (binU .fdiv (.int i) (.int j)).bind k = k (.int (i / j)) := (o_fdiv ⟨Int.ne_of_gt p.pos, by
  have hp := p.pos
  have h0 : 0 < j.natAbs := by omega
  have l : j.natAbs.log2 < n := (Nat.log2_lt (by omega)).mpr s.lt
  omega⟩).trans (by rw [Int.fdiv_eq_ediv_of_nonneg _ (Int.le_of_lt p.pos)])
end
/-- the cell of a script, 0 behind its end -/
def nth (ns : List Int) (k : Int) : Int := ns.getD k.toNat 0
abbrev scr (ns : List Int) : U := .frz (ns.map U.int)
open GM
theorem at_map {ns : List Int} {k : Int} (h0 : 0 ≤ k) (h1 : k < ns.length) : atI (ns.map U.int) k = some (.int (nth ns k)) := by
  unfold atI ixN nth
  rw [if_pos h0, if_pos (by simpa using h1)]
  have h2 : k.toNat < ns.length := by omega
  simp [h2]
instance sz_sg {x : Int} : Sz 1 (sg x) := ⟨by unfold sg; split; decide; split <;> decide⟩
instance sz_div {m : Nat} {x y : Int} [s : Sz m x] : Sz m (x / y) := ⟨Nat.lt_of_le_of_lt (Int.natAbs_ediv_le_natAbs x y) s.lt⟩
end VL

/-! Orders, loops, comprehensions over lists of ours. -/
namespace VL
open PySem PySem.Spec PyProof.Rows L2 NL GM
/-! ### order -/
/-- how two things are ordered: lt says it -/
structure Od {α : Type} (f : α → U) (d : Nat) (lt : α → α → Bool) : Prop where
  od : ∀ (k : Nat) (x y : α), d ≤ k → ordU .lt k (f x) (f y) = some (lt x y)
def ltI (i j : Int) : Bool := decide (i < j)
theorem od_int : Od U.int 0 ltI := ⟨fun k x y _ => by cases k <;> rfl⟩
def ltPr {α β : Type} [DecidableEq α] (l : α → α → Bool) (m : β → β → Bool) (x y : α × β) : Bool := if x.1 = y.1 then m x.2 y.2 else l x.1 y.1
theorem lexU_last {o : Cop} {f : U → U → Option Bool} {x y : U} {b : Bool} (h : eqT x y = some b) : lexU o f [x] [y] = if b = true then some (ord4 o 0 0) else f x y := by
  unfold lexU
  rw [h]
  cases b
  · rfl
  · unfold lexU; rfl
theorem lexU_cons {o : Cop} {f : U → U → Option Bool} {x y : U} {xs ys : List U} {b : Bool} (h : eqT x y = some b) : lexU o f (x :: xs) (y :: ys) = if b = true then lexU o f xs ys else f x y := by
  rw [lexU, h]
  cases b <;> rfl
theorem od_pr {α β : Type} [DecidableEq α] [DecidableEq β] {f : α → U} {g : β → U} {d e a b : Nat} {l : α → α → Bool} {m : β → β → Bool} {p : α → PyData} {q : β → PyData} [ta : Tl α f a p] [tb : Tl β g b q] (ha : a ≤ 12) (hb : b ≤ 12) (of : Od f d l) (og : Od g e m) (ir : ∀ x, m x x = false) : Od (pr f g) (max d e + 1) (ltPr l m) := by
  refine ⟨fun k x y h => ?_⟩
  obtain ⟨k, rfl⟩ : ∃ j, k = j + 1 := ⟨k - 1, by omega⟩
  have e1 := eqT_tl (f := f) ha x.1 y.1
  have e2 := eqT_tl (f := g) hb x.2 y.2
  have o1 := of.od k x.1 y.1 (by omega)
  have o2 := og.od k x.2 y.2 (by omega)
  show ordU .lt (k + 1) (.tup [f x.1, g x.2]) (.tup [f y.1, g y.2]) = _
  unfold ordU
  have hall : ([f x.1, g x.2].zip [f y.1, g y.2]).all (ordC (ordU .lt k)) = true := by
    simp only [ordC, List.zip_cons_cons, List.zip_nil_right, List.all_cons, List.all_nil, Bool.and_true, e1, e2, o1, o2]
    cases decide (x.1 = y.1) <;> cases decide (x.2 = y.2) <;> rfl
  rw [if_pos hall, lexU_cons e1, lexU_last e2, o1, o2]
  unfold ltPr
  by_cases h1 : x.1 = y.1
  · rw [if_pos (by simpa using h1), if_pos h1]
    by_cases h2 : x.2 = y.2
    · rw [if_pos (by simpa using h2), h2, ir]; rfl
    · rw [if_neg (by simpa using h2)]
  · rw [if_neg (by simpa using h1), if_neg h1]
theorem od_tr {α β γ : Type} [DecidableEq α] [DecidableEq β] [DecidableEq γ] {f : α → U} {g : β → U} {h : γ → U} {d e c a b t : Nat} {l : α → α → Bool} {m : β → β → Bool} {n : γ → γ → Bool} {p : α → PyData} {q : β → PyData} {r : γ → PyData} [ta : Tl α f a p] [tb : Tl β g b q] [tc : Tl γ h t r] (ha : a ≤ 12) (hb : b ≤ 12) (ht : t ≤ 12) (of : Od f d l) (og : Od g e m) (oh : Od h c n) (ir : ∀ x, n x x = false) : Od (tr f g h) (max d (max e c) + 1) (ltPr l (ltPr m n)) := by
  refine ⟨fun k x y hk => ?_⟩
  obtain ⟨k, rfl⟩ : ∃ j, k = j + 1 := ⟨k - 1, by omega⟩
  have e1 := eqT_tl (f := f) ha x.1 y.1
  have e2 := eqT_tl (f := g) hb x.2.1 y.2.1
  have e3 := eqT_tl (f := h) ht x.2.2 y.2.2
  have o1 := of.od k x.1 y.1 (by omega)
  have o2 := og.od k x.2.1 y.2.1 (by omega)
  have o3 := oh.od k x.2.2 y.2.2 (by omega)
  show ordU .lt (k + 1) (.tup [f x.1, g x.2.1, h x.2.2]) (.tup [f y.1, g y.2.1, h y.2.2]) = _
  unfold ordU
  have hall : ([f x.1, g x.2.1, h x.2.2].zip [f y.1, g y.2.1, h y.2.2]).all (ordC (ordU .lt k)) = true := by
    simp only [ordC, List.zip_cons_cons, List.zip_nil_right, List.all_cons, List.all_nil, Bool.and_true, e1, e2, e3, o1, o2, o3]
    cases decide (x.1 = y.1) <;> cases decide (x.2.1 = y.2.1) <;> cases decide (x.2.2 = y.2.2) <;> rfl
  rw [if_pos hall, lexU_cons e1, lexU_cons e2, lexU_last e3, o1, o2, o3]
  unfold ltPr
  by_cases h1 : x.1 = y.1
  · rw [if_pos (by simpa using h1), if_pos h1]
    by_cases h2 : x.2.1 = y.2.1
    · rw [if_pos (by simpa using h2), if_pos h2]
      by_cases h3 : x.2.2 = y.2.2
      · rw [if_pos (by simpa using h3), h3, ir]; rfl
      · rw [if_neg (by simpa using h3)]
    · rw [if_neg (by simpa using h2), if_neg h2]
  · rw [if_neg (by simpa using h1), if_neg h1]
/-- an order that is one -/
structure Tot {α : Type} (lt : α → α → Bool) : Prop where
  ir : ∀ x, lt x x = false
  tr : ∀ x y z, lt x y = true → lt y z = true → lt x z = true
  tt : ∀ x y, x ≠ y → lt x y = true ∨ lt y x = true
theorem Tot.as {α : Type} {lt : α → α → Bool} (t : Tot lt) {x y : α} (h : lt x y = true) : lt y x = false := by
  cases e : lt y x with
  | false => rfl
  | true => have := t.tr x y x h e; rw [t.ir] at this; cases this
theorem Tot.le_tr {α : Type} [DecidableEq α] {lt : α → α → Bool} (t : Tot lt) {x y z : α} (h : lt y x = false) (h2 : lt z y = false) : lt z x = false := by
  cases e : lt z x with
  | false => rfl
  | true =>
    by_cases xy : x = y
    · subst xy; rw [e] at h2; cases h2
    · rcases t.tt x y xy with k | k
      · have := t.tr z x y e k; rw [this] at h2; cases h2
      · rw [k] at h; cases h
theorem tot_int : Tot ltI := ⟨fun x => by simp [ltI], fun x y z h k => by simp [ltI] at *; omega, fun x y h => by simp [ltI]; omega⟩
theorem tot_pr {α β : Type} [DecidableEq α] {l : α → α → Bool} {m : β → β → Bool} (a : Tot l) (b : Tot m) : Tot (ltPr l m) := by
  refine ⟨fun x => by unfold ltPr; rw [if_pos rfl]; exact b.ir _, fun x y z h k => ?_, fun x y h => ?_⟩
  · unfold ltPr at *
    by_cases h1 : x.1 = y.1
    · rw [if_pos h1] at h
      by_cases h2 : y.1 = z.1
      · rw [if_pos h2] at k
        rw [if_pos (h1.trans h2)]; exact b.tr _ _ _ h k
      · rw [if_neg h2] at k
        rw [if_neg (by rw [h1]; exact h2), h1]; exact k
    · rw [if_neg h1] at h
      by_cases h2 : y.1 = z.1
      · rw [if_pos h2] at k
        rw [if_neg (by rw [← h2]; exact h1), ← h2]; exact h
      · rw [if_neg h2] at k
        have q := a.tr _ _ _ h k
        by_cases h3 : x.1 = z.1
        · rw [h3, a.ir] at q; cases q
        · rw [if_neg h3]; exact q
  · unfold ltPr
    by_cases h1 : x.1 = y.1
    · rw [if_pos h1, if_pos h1.symm]
      exact b.tt _ _ (fun e => h (Prod.ext h1 e))
    · rw [if_neg h1, if_neg (fun e => h1 e.symm)]
      exact a.tt _ _ h1
/-- the order of places, of sides, of triangles -/
abbrev ltP : Pt → Pt → Bool := ltPr ltI ltI
abbrev Sd := Pt × Pt
abbrev Tr := Pt × Pt × Pt
abbrev sdU : Sd → U := pr ptU ptU
abbrev trU : Tr → U := VL.tr ptU ptU ptU
abbrev ltS : Sd → Sd → Bool := ltPr ltP ltP
abbrev ltT : Tr → Tr → Bool := ltPr ltP (ltPr ltP ltP)
theorem od_pt : Od ptU 1 ltP := od_pr (by omega) (by omega) od_int od_int tot_int.ir
theorem tot_pt : Tot ltP := tot_pr tot_int tot_int
theorem od_sd : Od sdU 2 ltS := od_pr (by omega) (by omega) od_pt od_pt tot_pt.ir
theorem tot_sd : Tot ltS := tot_pr tot_pt tot_pt
theorem od_trg : Od trU 2 ltT := od_tr (by omega) (by omega) (by omega) od_pt od_pt od_pt tot_pt.ir
theorem tot_trg : Tot ltT := tot_pr tot_pt (tot_pr tot_pt tot_pt)
theorem ltP_lx {a b : Pt} : ltP a b = decide (lx a b) := by
  unfold ltP ltPr ltI lx lxP
  split
  · rename_i h
    exact decide_eq_decide.mpr (by omega)
  · rename_i h
    exact decide_eq_decide.mpr (by omega)
section
variable {β : Type}
theorem o_ltP {a b c d : Int} {k : U → VR β} : (cmpU .lt (.tup [.int a, .int b]) (.tup [.int c, .int d])).bind k = k (.bl (decide (lxP a b c d))) := o_ltG ((od_pt.od 12 (a, b) (c, d) (by omega)).trans (by rw [ltP_lx]))
theorem o_eq {i j : Int} {k : U → VR β} : (cmpU .eq (.int i) (.int j)).bind k = k (.bl (decide (i = j))) := o_eqG (eq_tl (f := U.int) (by omega) i j)
theorem o_ne {i j : Int} {k : U → VR β} : (cmpU .ne (.int i) (.int j)).bind k = k (.bl (!decide (i = j))) := o_neG (eq_tl (f := U.int) (by omega) i j)
theorem o_eqB {i j : Bool} {k : U → VR β} : (cmpU .eq (.bl i) (.bl j)).bind k = k (.bl (i == j)) := o_eqG (by unfold eqU pdU; simp only [PyData.eqv])
theorem o_neB {i j : Bool} {k : U → VR β} : (cmpU .ne (.bl i) (.bl j)).bind k = k (.bl (!(i == j))) := o_neG (by unfold eqU pdU; simp only [PyData.eqv])
theorem pt_dec {a b c d : Int} : decide ((a, b) = (c, d)) = decide (a = c ∧ b = d) := decide_eq_decide.mpr (by simp)
theorem o_eqP {a b c d : Int} {k : U → VR β} : (cmpU .eq (.tup [.int a, .int b]) (.tup [.int c, .int d])).bind k = k (.bl (decide (a = c ∧ b = d))) := o_eqG ((eq_tl (f := ptU) (by omega) (a, b) (c, d)).trans (by rw [pt_dec]))
theorem o_neP {a b c d : Int} {k : U → VR β} : (cmpU .ne (.tup [.int a, .int b]) (.tup [.int c, .int d])).bind k = k (.bl (!decide (a = c ∧ b = d))) := o_neG ((eq_tl (f := ptU) (by omega) (a, b) (c, d)).trans (by rw [pt_dec]))
theorem o_in3 {x y a b c d e f : Int} {k : U → VR β} : (cmpU .isIn (.tup [.int x, .int y]) (.tup [.tup [.int a, .int b], .tup [.int c, .int d], .tup [.int e, .int f]])).bind k = k (.bl (decide ((x = a ∧ y = b) ∨ (x = c ∧ y = d) ∨ (x = e ∧ y = f)))) :=
  o_inG ((in_tp (f := ptU) (by omega) (x, y) [(a, b), (c, d), (e, f)]).trans (by congr 1; exact decide_eq_decide.mpr (by simp)))
theorem o_in2 {x y a b c d : Int} {k : U → VR β} : (cmpU .isIn (.tup [.int x, .int y]) (.tup [.tup [.int a, .int b], .tup [.int c, .int d]])).bind k = k (.bl (decide ((x = a ∧ y = b) ∨ (x = c ∧ y = d)))) :=
  o_inG ((in_tp (f := ptU) (by omega) (x, y) [(a, b), (c, d)]).trans (by congr 1; exact decide_eq_decide.mpr (by simp)))
end
/-! ### the best of a list -/
theorem argBest_le (bt : Nat → Nat → Bool) : ∀ k, argBest bt k ≤ k
  | 0 => Nat.le_refl _
  | k + 1 => by
    unfold argBest
    split
    · exact Nat.le_refl _
    · exact Nat.le_succ_of_le (argBest_le bt k)
theorem argBest_min {α : Type} [DecidableEq α] {lt : α → α → Bool} (t : Tot lt) (xs : List α) (z : α) (bt : Nat → Nat → Bool) (hb : ∀ i j, i < xs.length → j < xs.length → bt i j = lt (xs.getD i z) (xs.getD j z)) :
    ∀ k, k < xs.length → ∀ i, i ≤ k → lt (xs.getD i z) (xs.getD (argBest bt k) z) = false
  | 0, h, i, hi => by
    have : i = 0 := by omega
    subst this
    show lt (xs.getD 0 z) (xs.getD 0 z) = false
    exact t.ir _
  | k + 1, h, i, hi => by
    have ih := argBest_min t xs z bt hb k (by omega)
    have hl := argBest_le bt k
    unfold argBest
    rw [hb (k + 1) (argBest bt k) h (by omega)]
    by_cases c : lt (xs.getD (k + 1) z) (xs.getD (argBest bt k) z) = true
    · rw [if_pos c]
      by_cases e : i = k + 1
      · subst e; exact t.ir _
      · have := ih i (by omega)
        exact t.le_tr (t.as c) this
    · rw [if_neg c]
      by_cases e : i = k + 1
      · subst e; simpa using c
      · exact ih i (by omega)
theorem best_min {α : Type} [DecidableEq α] {f : α → U} {d : Nat} {lt : α → α → Bool} (o : Od f d lt) (hd : d ≤ 12) (t : Tot lt) {xs : List α} (hne : xs ≠ []) : ∃ m ∈ xs, bestU .lt (xs.map f) = some (f m) ∧ ∀ x ∈ xs, lt x m = false := by
  obtain ⟨z, zs, rfl⟩ := List.exists_cons_of_ne_nil hne
  generalize hxs : z :: zs = xs at *
  have hlen : 0 < xs.length := by rw [← hxs]; simp
  have hall : ((xs.map f).all fun x => (xs.map f).all fun y => (ordU .lt 12 x y).isSome) = true := by
    rw [List.all_eq_true]
    intro u hu
    rw [List.all_eq_true]
    intro v hv
    obtain ⟨x, _, rfl⟩ := List.mem_map.mp hu
    obtain ⟨y, _, rfl⟩ := List.mem_map.mp hv
    rw [o.od 12 x y hd]; rfl
  have gd : ∀ i, i < xs.length → (xs.map f).getD i .non = f (xs.getD i z) := fun i hi => by
    rw [List.getD_eq_getElem?_getD, List.getD_eq_getElem?_getD, List.getElem?_map, List.getElem?_eq_getElem hi]; rfl
  let bt : Nat → Nat → Bool := fun i j => (ordU .lt 12 ((xs.map f).getD i .non) ((xs.map f).getD j .non)).getD false
  have hbt : ∀ i j, i < xs.length → j < xs.length → bt i j = lt (xs.getD i z) (xs.getD j z) := fun i j hi hj => by
    show (ordU .lt 12 ((xs.map f).getD i .non) ((xs.map f).getD j .non)).getD false = _
    rw [gd i hi, gd j hj, o.od 12 _ _ hd]; rfl
  have hmin := argBest_min t xs z bt hbt (xs.length - 1) (by omega)
  have hl := argBest_le bt (xs.length - 1)
  have hlt : argBest bt (xs.length - 1) < xs.length := by omega
  refine ⟨xs.getD (argBest bt (xs.length - 1)) z, ?_, ?_, fun x hx => ?_⟩
  · rw [List.getD_eq_getElem?_getD, List.getElem?_eq_getElem hlt]
    exact List.getElem_mem hlt
  · unfold bestU
    rw [if_pos hall]
    show (xs.map f)[argBest bt ((xs.map f).length - 1)]? = _
    rw [List.length_map, List.getElem?_map, List.getElem?_eq_getElem hlt, List.getD_eq_getElem?_getD, List.getElem?_eq_getElem hlt]; rfl
  · obtain ⟨i, hi, rfl⟩ := List.mem_iff_getElem.mp hx
    have := hmin i (by omega)
    rw [List.getD_eq_getElem?_getD, List.getElem?_eq_getElem hi] at this
    exact this
/-! ### loops -/
section
variable {α σ : Type} {f : α → U} {bnd : U → VEnv → VR VEnv} {b : VEnv → VR VF}
/-- a loop whose turns keep P -/
theorem for_inv (P : σ → VEnv → Prop) (step : σ → α → σ) : ∀ {xs : List α} {s : σ} {en : VEnv}, P s en →
    (∀ x ∈ xs, ∀ s en, P s en → ∃ en1 en2, bnd (f x) en = .ok en1 ∧ (b en1 = .ok (.nx en2) ∨ b en1 = .ok (.cnt en2)) ∧ P (step s x) en2) → ∃ en', forV bnd b (xs.map f) en = .ok (.nx en') ∧ P (xs.foldl step s) en'
  | [], s, en, h, _ => ⟨en, rfl, h⟩
  | x :: xs, s, en, h, k => by
    obtain ⟨en1, en2, e1, e2, h2⟩ := k x List.mem_cons_self s en h
    obtain ⟨en', e3, h3⟩ := for_inv P step (xs := xs) h2 (fun y hy => k y (List.mem_cons_of_mem _ hy))
    refine ⟨en', ?_, h3⟩
    rw [List.map_cons, forV, e1]
    show (b en1).bind _ = _
    rcases e2 with e2 | e2 <;> rw [e2] <;> exact e3
/-- a loop by its turns -/
theorem for_ix (P : Nat → VEnv → Prop) : ∀ {xs : List α} {j : Nat} {en : VEnv}, P j en →
    (∀ i x, xs[i]? = some x → ∀ en, P (j + i) en → ∃ en1 en2, bnd (f x) en = .ok en1 ∧ (b en1 = .ok (.nx en2) ∨ b en1 = .ok (.cnt en2)) ∧ P (j + i + 1) en2) → ∃ en', forV bnd b (xs.map f) en = .ok (.nx en') ∧ P (j + xs.length) en'
  | [], j, en, h, _ => ⟨en, rfl, h⟩
  | x :: xs, j, en, h, k => by
    obtain ⟨en1, en2, e1, e2, h2⟩ := k 0 x rfl en h
    obtain ⟨en', e3, h3⟩ := for_ix P (xs := xs) (j := j + 1) h2 (fun i y hy en hp => by
      obtain ⟨a, b, c⟩ := k (i + 1) y (by simpa using hy) en (by rw [show j + (i + 1) = j + 1 + i by omega]; exact hp)
      exact ⟨a, b, by rw [show j + 1 + i + 1 = j + (i + 1) + 1 by omega]; exact c⟩)
    refine ⟨en', ?_, by rw [List.length_cons, show j + (xs.length + 1) = j + 1 + xs.length by omega]; exact h3⟩
    rw [List.map_cons, forV, e1]
    show (b en1).bind _ = _
    rcases e2 with e2 | e2 <;> rw [e2] <;> exact e3
/-- a loop that may end early: at the first x with p -/
theorem for_find (P : VEnv → Prop) (p : α → Bool) (r : α → VF) (hr : ∀ x, ∃ w u, r x = .ret w u) : ∀ {xs : List α} {en : VEnv}, P en →
    (∀ x ∈ xs, ∀ en, P en → ∃ en1, bnd (f x) en = .ok en1 ∧ (p x = true → b en1 = .ok (r x)) ∧ (p x = false → ∃ en2, (b en1 = .ok (.nx en2) ∨ b en1 = .ok (.cnt en2)) ∧ P en2)) →
    (∃ x, xs.find? p = some x ∧ forV bnd b (xs.map f) en = .ok (r x)) ∨ (xs.find? p = none ∧ ∃ en', forV bnd b (xs.map f) en = .ok (.nx en') ∧ P en')
  | [], en, h, _ => .inr ⟨rfl, en, rfl, h⟩
  | x :: xs, en, h, k => by
    obtain ⟨en1, e1, k1, k2⟩ := k x List.mem_cons_self en h
    have st : forV bnd b ((x :: xs).map f) en = (b en1).bind fun f' => match f' with
        | .nx en' => forV bnd b (xs.map f) en'
        | .cnt en' => forV bnd b (xs.map f) en'
        | .brk en' => .ok (.nx en')
        | f => .ok f := by
      rw [List.map_cons, forV, e1]; rfl
    cases hp : p x with
    | true =>
      refine .inl ⟨x, by rw [List.find?_cons, hp], ?_⟩
      rw [st, k1 hp]
      obtain ⟨w, u, e⟩ := hr x
      rw [e]; rfl
    | false =>
      obtain ⟨en2, e2, h2⟩ := k2 hp
      have go : forV bnd b ((x :: xs).map f) en = forV bnd b (xs.map f) en2 := by
        rw [st]
        rcases e2 with e2 | e2 <;> rw [e2] <;> rfl
      rw [go, List.find?_cons, hp]
      exact for_find P p r hr h2 (fun y hy => k y (List.mem_cons_of_mem _ hy))
/-- a comprehension -/
theorem comp_fm {bnd : U → VR VEnv} {c : VEnv → VR Bool} {e : VEnv → VR U} (p : α → Bool) (g : α → U) : ∀ {xs : List α}, (∀ x ∈ xs, ∃ en, bnd (f x) = .ok en ∧ c en = .ok (p x) ∧ (p x = true → e en = .ok (g x))) → compV bnd c e (xs.map f) = .ok ((xs.filter p).map g)
  | [], _ => rfl
  | x :: xs, h => by
    obtain ⟨en, h1, h2, h3⟩ := h x List.mem_cons_self
    have ih := comp_fm (bnd := bnd) (c := c) (e := e) p g (xs := xs) (fun y hy => h y (List.mem_cons_of_mem _ hy))
    rw [List.map_cons, compV, h1]
    show (c en).bind _ = _
    rw [h2]
    show (if p x = true then _ else _) = _
    cases hp : p x with
    | true =>
      rw [if_pos rfl, h3 hp, List.filter_cons_of_pos hp]
      show (compV bnd c e (xs.map f)).bind _ = _
      rw [ih]; rfl
    | false =>
      rw [if_neg Bool.false_ne_true, List.filter_cons_of_neg (by rw [hp]; exact Bool.false_ne_true)]
      exact ih
end
end VL

/-! Rules on symbols, heads first: whose lists, leaks. -/
namespace VL
open PySem PySem.Spec PyProof.Rows L2 NL GM
class FrT (fr : Nat → Bool) (f : Nat) : Prop where
  t : fr f = true
class FrF (fr : Nat → Bool) (f : Nat) : Prop where
  t : fr f = false
class FrE (fr : Nat → Bool) (e : E) : Prop where
  t : freshE fr e = true
class NfE (fr : Nat → Bool) (e : E) : Prop where
  t : freshE fr e = false
section
variable {fr : Nat → Bool}
instance fre_lst {es : Es} : FrE fr (.lst es) := ⟨fe_lst⟩
instance fre_comp {own : List Nat} {tg : Tg} {it : NL.It} {c e : E} : FrE fr (.comp own tg it c e) := ⟨fe_comp⟩
instance fre_slc {p q : Bool} {a b c : E} : FrE fr (.slc p q a b c) := ⟨fe_slc⟩
instance fre_bin {o : Bop} {a b : E} : FrE fr (.bin o a b) := ⟨fe_bin⟩
instance fre_list {es : Es} : FrE fr (.blt .list es) := ⟨fe_list⟩
instance fre_call {f : Nat} {es : Es} [h : FrT fr f] : FrE fr (.call f es) := ⟨by rw [fe_call]; exact h.t⟩
instance fre_ite {c a b : E} [h : FrE fr a] [k : FrE fr b] : FrE fr (.ite c a b) := ⟨by unfold freshE; rw [h.t, k.t]; rfl⟩
instance nfe_call {f : Nat} {es : Es} [h : FrF fr f] : NfE fr (.call f es) := ⟨by rw [fe_call]; exact h.t⟩
instance nfe_var {i : Nat} : NfE fr (.var i) := ⟨by unfold freshE; rfl⟩
instance nfe_idx {a b : E} : NfE fr (.idx a b) := ⟨by unfold freshE; rfl⟩
end
def lowK {β : Type} (en : VEnv) (i : Nat) (k : VEnv → VR β) : VR β := k (low en i)
def unK {β : Type} (en : VEnv) (is : List Nat) (k : VEnv → VR β) : VR β := k (unown en is)
/-- the names of e give up their lists -/
def unE {β : Type} (e : E) (en : VEnv) (k : VEnv → VR β) : VR β := k (unown en (fvE e))
def unEs {β : Type} (e : Es) (en : VEnv) (k : VEnv → VR β) : VR β := k (unown en (fvEs e))
theorem unown_app : ∀ {is js : List Nat} {en : VEnv}, unown en (is ++ js) = unown (unown en is) js
  | [], js, en => rfl
  | i :: is, js, en => by
    rw [List.cons_append]
    show unown (low en i) (is ++ js) = unown (unown (low en i) is) js
    exact unown_app
section
variable {β : Type} {C : Nat → List U → VR U} {fr : Nat → Bool} {en : VEnv} {k : VEnv → VR β}
theorem llow_0 {w : Bool} {u : U} : lowK (some (w, u) :: en) 0 k = k (some (false, u) :: en) := nrf rfl
theorem llow_n : lowK (none :: en) 0 k = k (none :: en) := nrf rfl
theorem llow_s {o : Option (Bool × U)} {i : Nat} : lowK (o :: en) (i + 1) k = lowK en i fun e => k (o :: e) := by unfold lowK; rw [low_s]
theorem un_var {i : Nat} : unE (.var i) en k = lowK en i k := nrf rfl
theorem un_con {d : D} : unE (.con d) en k = k en := nrf rfl
theorem un_bin {o : Bop} {a b : E} : unE (.bin o a b) en k = unE a en fun en => unE b en k := by unfold unE; rw [fvE, unown_app]
theorem un_cmp {o : Cop} {a b : E} : unE (.cmp o a b) en k = unE a en fun en => unE b en k := by unfold unE; rw [fvE, unown_app]
theorem un_idx {a b : E} : unE (.idx a b) en k = unE a en fun en => unE b en k := by unfold unE; rw [fvE, unown_app]
theorem un_slc {p q : Bool} {a b c : E} : unE (.slc p q a b c) en k = unE a en fun en => unE b en fun en => unE c en k := by unfold unE; rw [fvE, unown_app, unown_app]
theorem un_ite {c a b : E} : unE (.ite c a b) en k = unE c en fun en => unE a en fun en => unE b en k := by unfold unE; rw [fvE, unown_app, unown_app]
theorem un_call {f : Nat} {es : Es} : unE (.call f es) en k = unEs es en k := nrf rfl
theorem un_blt {f : Blt} {es : Es} : unE (.blt f es) en k = unEs es en k := nrf rfl
theorem un_tup {es : Es} : unE (.tup es) en k = unEs es en k := nrf rfl
theorem un_lst {es : Es} : unE (.lst es) en k = unEs es en k := nrf rfl
theorem un_nil : unEs .nil en k = k en := nrf rfl
theorem un_cons {e : E} {es : Es} : unEs (.cons e es) en k = unE e en fun en => unEs es en k := by unfold unE unEs; rw [fvEs, unown_app]
/-! a name takes a value -/
def pK {β : Type} (fr : Nat → Bool) (e : E) (i : Nat) (u : U) (en : VEnv) (k : VEnv → VR β) : VR β := putK (freshE fr e) (fvE e) i u en k
theorem p_n {e : E} {i : Nat} {u : U} [h : NoL u] : pK fr e i u en k = setK en i false u k := put_n
theorem p_l {e : E} {i : Nat} {us : List U} [f : FrE fr e] [h : NoLs us] : pK fr e i (.lst us) en k = setK en i true (.lst us) k := by unfold pK; rw [f.t]; exact put_l
theorem p_s {e : E} {i : Nat} {us : List U} [f : NfE fr e] : pK fr e i (.lst us) en k = unE e en fun en => setK en i false (.lst us) k := by unfold pK; rw [f.t]; exact put_sh
theorem y_set {i : Nat} {e : E} {k : VF → VR β} : (exV fr C (.set i e) en).bind k = (evV C e en).bind fun u => pK fr e i u en fun en => k (.nx en) := x_set
/-! parting -/
def uK {β : Type} (e : E) (us : List U) (en : VEnv) (k : VEnv → VR β) : VR β := k (leaks us (fvE e) en)
theorem uk_n {e : E} {us : List U} [h : NoLs us] : uK e us en k = k en := by unfold uK; rw [leaks_n]
theorem uk_s {e : E} {us : List U} (h : noLs us = false) : uK e us en k = unE e en k := by unfold uK leaks unE; simp [h]
theorem y_unp {is : List Nat} {e : E} {k : VF → VR β} : (exV fr C (.unp is e) en).bind k = (evV C e en).bind fun u => (unpU is.length u).bind fun us => uK e us en fun en => setsK en is us fun en => k (.nx en) := x_unp
/-! append -/
def aK {β : Type} (e : E) (u : U) (en : VEnv) (k : VEnv → VR β) : VR β := k (leak false u (fvE e) en)
theorem ak_n {e : E} {u : U} [h : NoL u] : aK e u en k = k en := by unfold aK; rw [leak_n]
theorem ak_l {e : E} {us : List U} : aK e (.lst us) en k = unE e en k := by unfold aK leak keeps unE; simp [noL]
theorem ak_t {e : E} {us : List U} (h : noLs us = false) : aK e (.tup us) en k = unE e en k := by unfold aK leak keeps unE; simp [noL, h]
theorem y_app {i : Nat} {e : E} {k : VF → VR β} : (exV fr C (.app i e) en).bind k = ownK en i fun _ => (evV C e en).bind fun u => aK e u en fun en => ownK en i fun us => if us.length < sizeLine then setK en i true (.lst (us ++ [u])) fun en => k (.nx en) else .stuck := x_app
/-! walks -/
def wK {β : Type} (fr : Nat → Bool) (e : E) (u : U) (p : List U × Bool) (en : VEnv) (k : VEnv → VR β) : VR β := k (lowI p (freshE fr e && isL u) (fvE e) en)
theorem wk_T {e : E} {u : U} {xs : List U} [h : NoLs xs] : wK fr e u (xs, false) en k = k en := by unfold wK; rw [li_T]
theorem wk_F {e : E} {us xs : List U} [f : FrE fr e] [h : NoLs xs] : wK fr e (.lst us) (xs, true) en k = k en := by
  unfold wK
  rw [f.t]
  exact congrArg k li_F
theorem wk_S {e : E} {us xs : List U} [f : NfE fr e] : wK fr e (.lst us) (xs, true) en k = unE e en k := by
  unfold wK
  rw [f.t]
  exact congrArg k li_S
theorem wk_Z {e : E} {us xs : List U} : wK fr e (.frz us) (xs, true) en k = unE e en k := by
  unfold wK unE isL
  rw [Bool.and_false]
  exact congrArg k li_S
theorem y_for {tg : Tg} {e : E} {b : Sts} {k : VF → VR β} : (exV fr C (.for_ tg (.val e) b) en).bind k = (evV C e en).bind fun u => (iterU u).bind fun p => wK fr e u p en fun en => (forV (bindV tg) (fun en' => exVB fr C b en') p.1 en).bind k := x_for
/-! return -/
def reK {β : Type} (fr : Nat → Bool) (e : E) (u : U) (en : VEnv) (k : VF → VR β) : VR β := k (.ret ((freshE fr e && isL u) || ownR en e) u)
theorem y_ret {e : E} {k : VF → VR β} : (exV fr C (.ret e) en).bind k = (evV C e en).bind fun u => reK fr e u en k := x_ret
theorem re_n {e : E} {u : U} [h : NoL u] {k : VF → VR β} : reK fr e u en k = k (.ret ((freshE fr e && isL u) || ownR en e) u) := nrf rfl
theorem re_f {e : E} {us : List U} [f : FrE fr e] {k : VF → VR β} : reK fr e (.lst us) en k = k (.ret true (.lst us)) := by unfold reK; rw [f.t]; rfl
def obK {β : Type} (en : VEnv) (i : Nat) (k : Bool → VR β) : VR β := k (ownR en (.var i))
theorem ob_0 {w : Bool} {u : U} {k : Bool → VR β} : obK (some (w, u) :: en) 0 k = k w := nrf rfl
theorem ob_s {o : Option (Bool × U)} {i : Nat} {k : Bool → VR β} : obK (o :: en) (i + 1) k = obK en i k := by unfold obK; rw [ow_s]
theorem re_v {i : Nat} {us : List U} {k : VF → VR β} : reK fr (.var i) (.lst us) en k = obK en i fun w => k (.ret w (.lst us)) := by unfold reK obK; rw [fe_var]; rfl
theorem re_c {f : Nat} {es : Es} {us : List U} [h : FrF fr f] {k : VF → VR β} : reK fr (.call f es) (.lst us) en k = k (.ret false (.lst us)) := by
  unfold reK
  rw [fe_call, h.t]; rfl
theorem rt_n {w o : Bool} {u : U} [h : NoL u] : retK w (.ret o u) = .ok u := by
  have e : isL u = false := by
    have := h.no
    cases u <;> first | rfl | (unfold noL at this; cases this)
  show (if (w && isL u && !o) = true then VR.stuck else VR.ok u) = _
  rw [e, Bool.and_false, Bool.false_and]; rfl
end
/-! comprehensions -/
def bindW (tg : Tg) (own : List Nat) (en : VEnv) (u : U) : VR VEnv := bindV tg u (wipeV en own)
def clrK {β : Type} (en : VEnv) (v : Nat) (k : VEnv → VR β) : VR β := k (en.set v none)
section
variable {β : Type} {C : Nat → List U → VR U} {fr : Nat → Bool} {en : VEnv}
theorem wip_0 {k : VEnv → VR β} : wipeK en [] k = k en := nrf rfl
theorem wip_s {v : Nat} {vs : List Nat} {k : VEnv → VR β} : wipeK en (v :: vs) k = wipeK en vs fun e => clrK e v k := nrf rfl
theorem clk_0 {o : Option (Bool × U)} {k : VEnv → VR β} : clrK (o :: en) 0 k = k (none :: en) := nrf rfl
theorem clk_s {o : Option (Bool × U)} {i : Nat} {k : VEnv → VR β} : clrK (o :: en) (i + 1) k = clrK en i fun e => k (o :: e) := nrf rfl
theorem bw_nm {i : Nat} {own : List Nat} {u : U} {k : VEnv → VR β} : (bindW (.nm i) own en u).bind k = wipeK en own fun en => setK en i false u k := nrf rfl
theorem bw_tp {is own : List Nat} {u : U} {k : VEnv → VR β} : (bindW (.tp is) own en u).bind k = (unpU is.length u).bind fun us => wipeK en own fun en => setsK en is us k := by
  show ((unpU is.length u).bind _).bind k = _
  rw [bind_as]; rfl
/-- .. by its text -/
noncomputable def compS (C : Nat → List U → VR U) (tg : Tg) (own : List Nat) (en : VEnv) (c e : E) (xs : List U) : VR (List U) := compV (bindW tg own en) (fun en' => (evV C c en').bind truU) (fun en' => evV C e en') xs
theorem y_comp {own : List Nat} {tg : Tg} {it : NL.It} {c e : E} {k : U → VR β} : (evV C (.comp own tg it c e) en).bind k = (evVt C it en).bind fun p => if p.1.length ≤ sizeLine then (noXV (compS C tg own en c e p.1)).bind fun us => k (.lst us) else .stuck := r_comp
theorem c_cons {tg : Tg} {own : List Nat} {c e : E} {x : U} {xs : List U} {k : List U → VR β} : (compS C tg own en c e (x :: xs)).bind k = (bindW tg own en x).bind fun en1 => (evV C c en1).bind fun y => (truU y).bind fun t => if t = true then (evV C e en1).bind fun u => (compS C tg own en c e xs).bind fun r => k (u :: r) else (compS C tg own en c e xs).bind k := by
  unfold compS
  rw [compV, bind_as]; congr; funext en; rw [bind_as, bind_as]; congr; funext y; congr; funext t; rw [ite_bi, bind_as]; congr; funext u; rw [bind_as]; rfl
theorem c_end {tg : Tg} {own : List Nat} {c e : E} {k : List U → VR β} : (compS C tg own en c e []).bind k = k [] := nrf rfl
/-! loops by their text -/
noncomputable def forS (fr : Nat → Bool) (C : Nat → List U → VR U) (tg : Tg) (b : Sts) (xs : List U) (en : VEnv) : VR VF := forV (bindV tg) (fun en' => exVB fr C b en') xs en
noncomputable def whlS (fr : Nat → Bool) (C : Nat → List U → VR U) (c : E) (b : Sts) (n : Nat) (en : VEnv) : VR VF := whlV (fun en' => (evV C c en').bind truU) (fun en' => exVB fr C b en') n en
noncomputable def forKS {β : Type} (fr : Nat → Bool) (C : Nat → List U → VR U) (tg : Tg) (b : Sts) (xs : List U) (k : VF → VR β) : VF → VR β := forK (bindV tg) (fun en' => exVB fr C b en') xs k
noncomputable def whKS {β : Type} (fr : Nat → Bool) (C : Nat → List U → VR U) (c : E) (b : Sts) (n : Nat) (k : VF → VR β) : VF → VR β := whK (fun en' => (evV C c en').bind truU) (fun en' => exVB fr C b en') n k
section
variable {k : VF → VR β} {tg : Tg} {b : Sts} {x : U} {xs : List U}
theorem z_for {e : E} : (exV fr C (.for_ tg (.val e) b) en).bind k = (evV C e en).bind fun u => (iterU u).bind fun p => wK fr e u p en fun en => (forS fr C tg b p.1 en).bind k := y_for
theorem z_for1 {e : E} : (exV fr C (.for_ tg (.rng1 e) b) en).bind k = (evVt C (.rng1 e) en).bind fun p => (forS fr C tg b p.1 en).bind k := x_for1
theorem z_for2 {e e' : E} : (exV fr C (.for_ tg (.rng2 e e') b) en).bind k = (evVt C (.rng2 e e') en).bind fun p => (forS fr C tg b p.1 en).bind k := x_for2
theorem zf_nil : (forS fr C tg b [] en).bind k = k (.nx en) := nrf rfl
theorem zf_cons : (forS fr C tg b (x :: xs) en).bind k = (bindV tg x en).bind fun en1 => (exVB fr C b en1).bind (forKS fr C tg b xs k) := f_cons
theorem zk_nx : forKS fr C tg b xs k (.nx en) = (forS fr C tg b xs en).bind k := nrf rfl
theorem zk_ct : forKS fr C tg b xs k (.cnt en) = (forS fr C tg b xs en).bind k := nrf rfl
theorem zk_bk : forKS fr C tg b xs k (.brk en) = k (.nx en) := nrf rfl
theorem zk_rt {w : Bool} {u : U} : forKS fr C tg b xs k (.ret w u) = k (.ret w u) := nrf rfl
theorem z_whl {c : E} : (exV fr C (.whl c b) en).bind k = (whlS fr C c b fuel en).bind k := x_whl
theorem zw_succ {c : E} {n : Nat} : (whlS fr C c b (n + 1) en).bind k = (evV C c en).bind fun x => (truU x).bind fun t => if t = true then (exVB fr C b en).bind (whKS fr C c b n k) else k (.nx en) := w_succ
theorem zw_nx {c : E} {n : Nat} : whKS fr C c b n k (.nx en) = (whlS fr C c b n en).bind k := nrf rfl
theorem zw_ct {c : E} {n : Nat} : whKS fr C c b n k (.cnt en) = (whlS fr C c b n en).bind k := nrf rfl
theorem zw_bk {c : E} {n : Nat} : whKS fr C c b n k (.brk en) = k (.nx en) := nrf rfl
theorem zw_rt {c : E} {n : Nat} {w : Bool} {u : U} : whKS fr C c b n k (.ret w u) = k (.ret w u) := nrf rfl
noncomputable def seqS {β : Type} (fr : Nat → Bool) (C : Nat → List U → VR U) (r : Sts) (k : VF → VR β) : VF → VR β := seqK (fun en => (exVB fr C r en).bind k) k
theorem z_cons {s : NL.St} {r : Sts} : (exVB fr C (.cons s r) en).bind k = (exV fr C s en).bind (seqS fr C r k) := x_cons
theorem zs_nx {r : Sts} : seqS fr C r k (.nx en) = (exVB fr C r en).bind k := nrf rfl
theorem zs_rt {r : Sts} {w : Bool} {u : U} : seqS fr C r k (.ret w u) = k (.ret w u) := nrf rfl
theorem zs_bk {r : Sts} : seqS fr C r k (.brk en) = k (.brk en) := nrf rfl
theorem zs_ct {r : Sts} : seqS fr C r k (.cnt en) = k (.cnt en) := nrf rfl
end
/-! named continuations: nothing runs before its value stands -/
section
variable {k : VF → VR β} {q : U → VR β}
def pS {β : Type} (fr : Nat → Bool) (e : E) (i : Nat) (u : U) (en : VEnv) (k : VF → VR β) : VR β := pK fr e i u en fun en => k (.nx en)
theorem ps_n {e : E} {i : Nat} {u : U} [h : NoL u] : pS fr e i u en k = setK en i false u fun en => k (.nx en) := p_n
theorem ps_l {e : E} {i : Nat} {us : List U} [f : FrE fr e] [h : NoLs us] : pS fr e i (.lst us) en k = setK en i true (.lst us) fun en => k (.nx en) := p_l
theorem ps_s {e : E} {i : Nat} {us : List U} [f : NfE fr e] : pS fr e i (.lst us) en k = unE e en fun en => setK en i false (.lst us) fun en => k (.nx en) := p_s
theorem z_set {i : Nat} {e : E} : (exV fr C (.set i e) en).bind k = (evV C e en).bind fun u => pS fr e i u en k := y_set
def uS {β : Type} (e : E) (is : List Nat) (us : List U) (en : VEnv) (k : VF → VR β) : VR β := uK e us en fun en => setsK en is us fun en => k (.nx en)
theorem us_n {e : E} {is : List Nat} {us : List U} [h : NoLs us] : uS e is us en k = setsK en is us fun en => k (.nx en) := uk_n
theorem z_unp {is : List Nat} {e : E} : (exV fr C (.unp is e) en).bind k = (evV C e en).bind fun u => (unpU is.length u).bind fun us => uS e is us en k := y_unp
def aS {β : Type} (e : E) (i : Nat) (u : U) (en : VEnv) (k : VF → VR β) : VR β := aK e u en fun en => ownK en i fun us => if us.length < sizeLine then setK en i true (.lst (us ++ [u])) fun en => k (.nx en) else .stuck
theorem as_n {e : E} {i : Nat} {u : U} [h : NoL u] : aS e i u en k = ownK en i fun us => if us.length < sizeLine then setK en i true (.lst (us ++ [u])) fun en => k (.nx en) else .stuck := ak_n
theorem as_l {e : E} {i : Nat} {vs : List U} : aS e i (.lst vs) en k = unE e en fun en => ownK en i fun us => if us.length < sizeLine then setK en i true (.lst (us ++ [.lst vs])) fun en => k (.nx en) else .stuck := ak_l
theorem z_app {i : Nat} {e : E} : (exV fr C (.app i e) en).bind k = ownK en i fun _ => (evV C e en).bind fun u => aS e i u en k := y_app
noncomputable def wS {β : Type} (fr : Nat → Bool) (C : Nat → List U → VR U) (tg : Tg) (b : Sts) (e : E) (u : U) (p : List U × Bool) (en : VEnv) (k : VF → VR β) : VR β := wK fr e u p en fun en => (forS fr C tg b p.1 en).bind k
theorem ws_T {tg : Tg} {b : Sts} {e : E} {u : U} {xs : List U} [h : NoLs xs] : wS fr C tg b e u (xs, false) en k = (forS fr C tg b xs en).bind k := wk_T
theorem ws_F {tg : Tg} {b : Sts} {e : E} {us xs : List U} [f : FrE fr e] [h : NoLs xs] : wS fr C tg b e (.lst us) (xs, true) en k = (forS fr C tg b xs en).bind k := wk_F
theorem ws_S {tg : Tg} {b : Sts} {e : E} {us xs : List U} [f : NfE fr e] : wS fr C tg b e (.lst us) (xs, true) en k = unE e en fun en => (forS fr C tg b xs en).bind k := wk_S
theorem ws_Z {tg : Tg} {b : Sts} {e : E} {us xs : List U} : wS fr C tg b e (.frz us) (xs, true) en k = unE e en fun en => (forS fr C tg b xs en).bind k := wk_Z
theorem zz_for {tg : Tg} {b : Sts} {e : E} : (exV fr C (.for_ tg (.val e) b) en).bind k = (evV C e en).bind fun u => (iterU u).bind fun p => wS fr C tg b e u p en k := z_for
noncomputable def ifS {β : Type} (fr : Nat → Bool) (C : Nat → List U → VR U) (a b : Sts) (en : VEnv) (k : VF → VR β) (x : U) : VR β := (truU x).bind fun t => if t = true then (exVB fr C a en).bind k else (exVB fr C b en).bind k
theorem if_b {a b : Sts} {t : Bool} : ifS fr C a b en k (.bl t) = if t = true then (exVB fr C a en).bind k else (exVB fr C b en).bind k := nrf rfl
theorem z_if {c : E} {a b : Sts} : (exV fr C (.ifs c a b) en).bind k = (evV C c en).bind (ifS fr C a b en k) := x_if
noncomputable def anS {β : Type} (C : Nat → List U → VR U) (b : E) (en : VEnv) (k : U → VR β) (x : U) : VR β := (truU x).bind fun t => if t = true then (evV C b en).bind k else k (.bl false)
theorem an_b {b : E} {t : Bool} : anS C b en q (.bl t) = if t = true then (evV C b en).bind q else q (.bl false) := nrf rfl
theorem z_and {a b : E} : (evV C (.and a b) en).bind q = (evV C a en).bind (anS C b en q) := r_and
noncomputable def orS {β : Type} (C : Nat → List U → VR U) (b : E) (en : VEnv) (k : U → VR β) (x : U) : VR β := (truU x).bind fun t => if t = true then k (.bl true) else (evV C b en).bind k
theorem or_b {b : E} {t : Bool} : orS C b en q (.bl t) = if t = true then q (.bl true) else (evV C b en).bind q := nrf rfl
theorem z_or {a b : E} : (evV C (.or a b) en).bind q = (evV C a en).bind (orS C b en q) := r_or
noncomputable def itS {β : Type} (C : Nat → List U → VR U) (a b : E) (en : VEnv) (k : U → VR β) (x : U) : VR β := (truU x).bind fun t => if t = true then (evV C a en).bind k else (evV C b en).bind k
theorem it_b {a b : E} {t : Bool} : itS C a b en q (.bl t) = if t = true then (evV C a en).bind q else (evV C b en).bind q := nrf rfl
theorem z_ite {c a b : E} : (evV C (.ite c a b) en).bind q = (evV C c en).bind (itS C a b en q) := r_ite
noncomputable def chS {β : Type} (C : Nat → List U → VR U) (o : Cop) (c : E) (en : VEnv) (k : U → VR β) (y z : U) : VR β := (truU z).bind fun t => if t = true then (evV C c en).bind fun z => (cmpU o y z).bind k else k (.bl false)
theorem ch_b {o : Cop} {c : E} {y : U} {t : Bool} : chS C o c en q y (.bl t) = if t = true then (evV C c en).bind fun z => (cmpU o y z).bind q else q (.bl false) := nrf rfl
theorem z_chn {o o' : Cop} {a b c : E} : (evV C (.chn o o' a b c) en).bind q = (evV C a en).bind fun x => (evV C b en).bind fun y => (cmpU o x y).bind (chS C o' c en q y) := r_chn
end
section
variable {α : Type} {f : α → U} {tg : Tg} {b : Sts}
theorem fors_ix (P : Nat → VEnv → Prop) {xs : List α} {en : VEnv} (h : P 0 en)
    (k : ∀ i x, xs[i]? = some x → ∀ en, P i en → ∃ en1 en2, bindV tg (f x) en = .ok en1 ∧ (exVB fr C b en1 = .ok (.nx en2) ∨ exVB fr C b en1 = .ok (.cnt en2)) ∧ P (i + 1) en2) : ∃ en', forS fr C tg b (xs.map f) en = .ok (.nx en') ∧ P xs.length en' := by
  obtain ⟨en', h1, h2⟩ := for_ix (bnd := bindV tg) (b := fun en' => exVB fr C b en') (f := f) P (xs := xs) (j := 0) h (fun i x hx en hp => by
    rw [Nat.zero_add] at hp ⊢
    exact k i x hx en hp)
  exact ⟨en', h1, by rw [Nat.zero_add] at h2; exact h2⟩
theorem fors_inv {σ : Type} (P : σ → VEnv → Prop) (step : σ → α → σ) {xs : List α} {s : σ} {en : VEnv} (h : P s en)
    (k : ∀ x ∈ xs, ∀ s en, P s en → ∃ en1 en2, bindV tg (f x) en = .ok en1 ∧ (exVB fr C b en1 = .ok (.nx en2) ∨ exVB fr C b en1 = .ok (.cnt en2)) ∧ P (step s x) en2) : ∃ en', forS fr C tg b (xs.map f) en = .ok (.nx en') ∧ P (xs.foldl step s) en' :=
  for_inv (bnd := bindV tg) (b := fun en' => exVB fr C b en') P step h k
theorem fors_find (P : VEnv → Prop) (p : α → Bool) (r : α → VF) (hr : ∀ x, ∃ w u, r x = .ret w u) {xs : List α} {en : VEnv} (h : P en)
    (k : ∀ x ∈ xs, ∀ en, P en → ∃ en1, bindV tg (f x) en = .ok en1 ∧ (p x = true → exVB fr C b en1 = .ok (r x)) ∧ (p x = false → ∃ en2, (exVB fr C b en1 = .ok (.nx en2) ∨ exVB fr C b en1 = .ok (.cnt en2)) ∧ P en2)) :
    (∃ x, xs.find? p = some x ∧ forS fr C tg b (xs.map f) en = .ok (r x)) ∨ (xs.find? p = none ∧ ∃ en', forS fr C tg b (xs.map f) en = .ok (.nx en') ∧ P en') :=
  for_find (bnd := bindV tg) (b := fun en' => exVB fr C b en') P p r hr h k
theorem comps_fm {own : List Nat} {c e : E} (p : α → Bool) (g : α → U) {xs : List α} (h : ∀ x ∈ xs, ∃ en1, bindW tg own en (f x) = .ok en1 ∧ (evV C c en1).bind truU = .ok (p x) ∧ (p x = true → evV C e en1 = .ok (g x))) : compS C tg own en c e (xs.map f) = .ok ((xs.filter p).map g) :=
  comp_fm (bnd := bindW tg own en) (c := fun en' => (evV C c en').bind truU) (e := fun en' => evV C e en') p g h
end
end
/-- how a call is told -/
theorem call_run {T : Nat → Option Fn} {fr : Nat → Bool} {n i : Nat} {fn : Fn} {us : List U} (w : Bool) (hn : n ≠ 0) (hT : T i = some fn) (hw : fr i = w) (hl : us.length = fn.np) : callV T fr n i us = (exVB fr (callV T fr (n - 1)) fn.body (us.map (fun u => some (false, u)) ++ List.replicate (fn.nv - fn.np) none)).bind (retK w) := by
  rw [call_eq hn hT, run_eq hl, hw]
end VL

/-! Least of places. -/
namespace VL
open PySem PySem.Spec PyProof.Rows L2 NL GM
/-- a comprehension, run by itself -/
theorem nox_run {α β : Type} {r : VR α} {a : α} {k : α → VR β} {z : VR β} (h : r.bind VR.ok = .ok a) (h2 : k a = z) : (noXV r).bind k = z := by
  rw [bind_id] at h
  rw [h]; exact h2
theorem bi_run {α β : Type} {r : VR α} {a : α} {k : α → VR β} {z : VR β} (h : r = .ok a) (h2 : k a = z) : r.bind k = z := by rw [h]; exact h2
theorem ltP_no {a m : Pt} (h : ltP a m = false) : ¬ lx a m := by rw [ltP_lx] at h; exact of_decide_eq_false h
theorem min3 (ax ay bx by_ cx cy : Int) : ∃ mx my : Int, ((mx = ax ∧ my = ay) ∨ (mx = bx ∧ my = by_) ∨ (mx = cx ∧ my = cy)) ∧ (¬ lxP ax ay mx my ∧ ¬ lxP bx by_ mx my ∧ ¬ lxP cx cy mx my) ∧
    ∀ {β : Type} {q : U → VR β}, (bltU .min [.tup [.int ax, .int ay], .tup [.int bx, .int by_], .tup [.int cx, .int cy]]).bind q = q (.tup [.int mx, .int my]) := by
  obtain ⟨m, hm, e, hl⟩ := best_min od_pt (by omega) tot_pt (xs := [(ax, ay), (bx, by_), (cx, cy)]) (by simp)
  refine ⟨m.1, m.2, ?_, ⟨ltP_no (hl (ax, ay) (by simp)), ltP_no (hl (bx, by_) (by simp)), ltP_no (hl (cx, cy) (by simp))⟩, ?_⟩
  · simp only [List.mem_cons, List.not_mem_nil, or_false] at hm
    rcases hm with rfl | rfl | rfl
    · exact .inl ⟨rfl, rfl⟩
    · exact .inr (.inl ⟨rfl, rfl⟩)
    · exact .inr (.inr ⟨rfl, rfl⟩)
  · intro β q
    show (optU (bestU .lt ([(ax, ay), (bx, by_), (cx, cy)].map ptU))).bind q = _
    rw [e]; rfl
theorem min4 (ax ay bx by_ cx cy dx dy : Int) : ∃ mx my : Int, ((mx = ax ∧ my = ay) ∨ (mx = bx ∧ my = by_) ∨ (mx = cx ∧ my = cy) ∨ (mx = dx ∧ my = dy)) ∧ (¬ lxP ax ay mx my ∧ ¬ lxP bx by_ mx my ∧ ¬ lxP cx cy mx my ∧ ¬ lxP dx dy mx my) ∧
    ∀ {β : Type} {q : U → VR β}, (bltU .min [.tup [.int ax, .int ay], .tup [.int bx, .int by_], .tup [.int cx, .int cy], .tup [.int dx, .int dy]]).bind q = q (.tup [.int mx, .int my]) := by
  obtain ⟨m, hm, e, hl⟩ := best_min od_pt (by omega) tot_pt (xs := [(ax, ay), (bx, by_), (cx, cy), (dx, dy)]) (by simp)
  refine ⟨m.1, m.2, ?_, ⟨ltP_no (hl (ax, ay) (by simp)), ltP_no (hl (bx, by_) (by simp)), ltP_no (hl (cx, cy) (by simp)), ltP_no (hl (dx, dy) (by simp))⟩, ?_⟩
  · simp only [List.mem_cons, List.not_mem_nil, or_false] at hm
    rcases hm with rfl | rfl | rfl | rfl
    · exact .inl ⟨rfl, rfl⟩
    · exact .inr (.inl ⟨rfl, rfl⟩)
    · exact .inr (.inr (.inl ⟨rfl, rfl⟩))
    · exact .inr (.inr (.inr ⟨rfl, rfl⟩))
  · intro β q
    show (optU (bestU .lt ([(ax, ay), (bx, by_), (cx, cy), (dx, dy)].map ptU))).bind q = _
    rw [e]; rfl
theorem lx_trans {a b m n x y : Int} (h : ¬ lxP x y m n) (h2 : lxP a b m n) : lxP a b x y := by unfold lxP at *; omega
theorem lx_tot {a b m n : Int} (h : ¬ lxP a b m n) (h2 : ¬ (a = m ∧ b = n)) : lxP m n a b := by unfold lxP at *; omega
theorem lx_least {ax ay bx by_ cx cy mx my dx dy : Int} (hm : (mx = ax ∧ my = ay) ∨ (mx = bx ∧ my = by_) ∨ (mx = cx ∧ my = cy)) (l1 : ¬ lxP ax ay mx my) (l2 : ¬ lxP bx by_ mx my) (l3 : ¬ lxP cx cy mx my) :
    (lxP dx dy ax ay ∧ lxP dx dy bx by_ ∧ lxP dx dy cx cy) ↔ lxP dx dy mx my := by
  constructor
  · rintro ⟨h1, h2, h3⟩
    rcases hm with ⟨rfl, rfl⟩ | ⟨rfl, rfl⟩ | ⟨rfl, rfl⟩
    · exact h1
    · exact h2
    · exact h3
  · intro h
    exact ⟨lx_trans l1 h, lx_trans l2 h, lx_trans l3 h⟩
end VL

/-! More rules: slices, membership, least of two numbers. -/
namespace VL
open PySem PySem.Spec PyProof.Rows L2 NL GM
theorem cut_from (xs : List U) (k : Nat) : cutU xs (some (k : Int)) none = xs.drop k := by
  unfold cutU
  rw [HT.sIx_nat, HT.sIx_none]
  by_cases h : k ≤ xs.length
  · rw [Nat.min_eq_left h, List.take_of_length_le (by rw [List.length_drop]; omega)]
  · rw [Nat.min_eq_right (by omega), List.drop_eq_nil_of_le (Nat.le_refl _), List.drop_eq_nil_of_le (by omega)]; simp
theorem cut_to (xs : List U) (k : Nat) : cutU xs none (some (k : Int)) = xs.take k := by
  unfold cutU
  rw [HT.sIx_nat, HT.sIx_none]
  simp
theorem cut_mid (xs : List U) (i j : Nat) : cutU xs (some (i : Int)) (some (j : Int)) = (xs.take j).drop i := by
  unfold cutU
  rw [HT.sIx_nat, HT.sIx_nat]
  apply List.ext_getElem?
  intro m
  simp only [List.getElem?_take, List.getElem?_drop]
  by_cases h1 : m < min j xs.length - min i xs.length
  · rw [if_pos h1, if_pos (by omega), Nat.min_eq_left (by omega)]
  · rw [if_neg h1]
    split
    · exact (List.getElem?_eq_none (by omega)).symm
    · rfl
section
variable {β : Type} {k : U → VR β}
theorem o_f1 {xs : List U} : (slcU (.lst xs) (some 1) none).bind k = k (.lst (xs.drop 1)) := by rw [← cut_from]; rfl
theorem o_f2 {xs : List U} : (slcU (.lst xs) (some 2) none).bind k = k (.lst (xs.drop 2)) := by rw [← cut_from]; rfl
theorem o_f3 {xs : List U} : (slcU (.lst xs) (some 3) none).bind k = k (.lst (xs.drop 3)) := by rw [← cut_from]; rfl
theorem o_fn {xs : List U} {n : Nat} : (slcU (.lst xs) (some (n : Int)) none).bind k = k (.lst (xs.drop n)) := by rw [← cut_from]; rfl
theorem o_t1 {xs : List U} : (slcU (.lst xs) none (some 1)).bind k = k (.lst (xs.take 1)) := by rw [← cut_to]; rfl
theorem o_t2 {xs : List U} : (slcU (.lst xs) none (some 2)).bind k = k (.lst (xs.take 2)) := by rw [← cut_to]; rfl
theorem o_tn {xs : List U} {n : Nat} : (slcU (.lst xs) none (some (n : Int))).bind k = k (.lst (xs.take n)) := by rw [← cut_to]; rfl
theorem o_mn2 {i j : Int} : (bltU .min [.int i, .int j]).bind k = k (.int (if j < i then j else i)) := by
  obtain ⟨m, hm, e, hl⟩ := best_min od_int (by omega) tot_int (xs := [i, j]) (by simp)
  show (optU (bestU .lt ([i, j].map U.int))).bind k = _
  rw [e]
  show k (.int m) = _
  have h1 := hl i (by simp)
  have h2 := hl j (by simp)
  unfold ltI at h1 h2
  have h1 := of_decide_eq_false h1
  have h2 := of_decide_eq_false h2
  congr 2
  simp only [List.mem_cons, List.not_mem_nil, or_false] at hm
  split <;> omega
theorem o_mx2 {i j : Int} : (bltU .max [.int i, .int j]).bind k = k (.int (if i < j then j else i)) := by
  have ho : ∀ x y : Int, ordU .gt 12 (.int x) (.int y) = some (decide (y < x)) := fun x y => rfl
  show (optU (bestU .gt [.int i, .int j])).bind k = _
  have e : bestU .gt [.int i, .int j] = some (.int (if i < j then j else i)) := by
    unfold bestU
    rw [if_pos (by simp [ho])]
    show ([U.int i, U.int j])[argBest _ 1]? = _
    unfold argBest argBest
    simp only [List.getD_cons_zero, List.getD_cons_succ, ho, Option.getD_some, decide_eq_true_eq]
    split <;> rfl
  rw [e]; rfl
theorem o_inP {a b : Int} {ps : List Pt} : (cmpU .isIn (.tup [.int a, .int b]) (.lst (ps.map ptU))).bind k = k (.bl (decide ((a, b) ∈ ps))) := o_inG ((in_ls (f := ptU) (by omega) (a, b) ps).trans (by congr 1; exact decide_eq_decide.mpr Iff.rfl))
theorem o_niP {a b : Int} {ps : List Pt} : (cmpU .notIn (.tup [.int a, .int b]) (.lst (ps.map ptU))).bind k = k (.bl (!decide ((a, b) ∈ ps))) := o_niG ((in_ls (f := ptU) (by omega) (a, b) ps).trans (by congr 1; exact decide_eq_decide.mpr Iff.rfl))
theorem o_eq0 {α : Type} [DecidableEq α] {f : α → U} {d : Nat} {p : α → PyData} [t : Tl α f d p] {xs : List α} (h : d ≤ 11) : (cmpU .eq (.lst (xs.map f)) (.lst [])).bind k = k (.bl (decide (xs = []))) := o_eqG (eq_ls (f := f) h xs [])
theorem o_ne0 {α : Type} [DecidableEq α] {f : α → U} {d : Nat} {p : α → PyData} [t : Tl α f d p] {xs : List α} (h : d ≤ 11) : (cmpU .ne (.lst (xs.map f)) (.lst [])).bind k = k (.bl (!decide (xs = []))) := o_neG (eq_ls (f := f) h xs [])
theorem o_eqL {α : Type} [DecidableEq α] {f : α → U} {d : Nat} {p : α → PyData} [t : Tl α f d p] {xs ys : List α} (h : d ≤ 11) : (cmpU .eq (.lst (xs.map f)) (.lst (ys.map f))).bind k = k (.bl (decide (xs = ys))) := o_eqG (eq_ls (f := f) h xs ys)
theorem o_neL {α : Type} [DecidableEq α] {f : α → U} {d : Nat} {p : α → PyData} [t : Tl α f d p] {xs ys : List α} (h : d ≤ 11) : (cmpU .ne (.lst (xs.map f)) (.lst (ys.map f))).bind k = k (.bl (!decide (xs = ys))) := o_neG (eq_ls (f := f) h xs ys)
theorem o_e00 : (cmpU .eq (.lst []) (.lst [])).bind k = k (.bl true) := nrf rfl
theorem o_n00 : (cmpU .ne (.lst []) (.lst [])).bind k = k (.bl false) := nrf rfl
end
theorem bi_ex {α β : Type} {r : VR α} {P : α → Prop} {k : α → VR β} {z : VR β} (h : ∃ a, r = .ok a ∧ P a) (h2 : ∀ a, P a → k a = z) : r.bind k = z := by
  obtain ⟨a, e, p⟩ := h
  rw [e]; exact h2 a p
theorem filter_nil' {α : Type} {p : α → Bool} {xs : List α} (h : ∀ x ∈ xs, p x = false) : xs.filter p = [] := List.filter_eq_nil_iff.mpr fun x hx z => by rw [h x hx] at z; cases z
end VL

/-! sorted, on symbols. -/
namespace VL
open PySem PySem.Spec PyProof.Rows L2 NL GM
mutual
theorem noRef_to : ∀ {u : U}, noL u = true → NL.noRef (toD u) = true
  | .non, _ => by unfold toD NL.noRef; rfl
  | .bl _, _ => by unfold toD NL.noRef; rfl
  | .int _, _ => by unfold toD NL.noRef; rfl
  | .str _, _ => by unfold toD NL.noRef; rfl
  | .tup xs, h => by
    unfold noL at h
    unfold toD NL.noRef
    exact noRefs_to h
  | .lst _, h => by unfold noL at h; cases h
  | .frz _, h => by unfold noL at h; cases h
theorem noRefs_to : ∀ {us : List U}, noLs us = true → NL.noRefs (toDs us) = true
  | [], _ => by unfold toDs NL.noRefs; rfl
  | u :: us, h => by
    unfold noLs at h
    rw [Bool.and_eq_true] at h
    unfold toDs NL.noRefs
    rw [noRef_to h.1, noRefs_to h.2]; rfl
end
theorem ins_map {α β : Type} {l : α → α → Bool} {m : β → β → Bool} {g : α → β} (h : ∀ x y, m (g x) (g y) = l x y) (x : α) : ∀ ys : List α, ins m (g x) (ys.map g) = (ins l x ys).map g
  | [] => rfl
  | y :: ys => by
    rw [List.map_cons]
    unfold ins
    rw [h]
    split
    · rw [List.map_cons, ins_map h x ys]
    · rfl
theorem srt_map {α β : Type} {l : α → α → Bool} {m : β → β → Bool} {g : α → β} (h : ∀ x y, m (g x) (g y) = l x y) : ∀ xs : List α, srt m (xs.map g) = (srt l xs).map g
  | [] => rfl
  | x :: xs => by
    rw [List.map_cons]
    unfold srt
    rw [srt_map h xs, ins_map h]
theorem sort_ty {α : Type} [DecidableEq α] {f : α → U} {d : Nat} {lt : α → α → Bool} (o : Od f d lt) (hd : d ≤ 12) (t : Tot lt) (hn : ∀ x, noL (f x) = true) (hk : (∃ g : α → Int, ∀ x, toD (f x) = .int (g x)) ∨ ∃ b, ∀ x, firstT (toD (f x)) = some b) (xs : List α) :
    sortU (xs.map f) = .ok (.lst ((srt lt xs).map f)) := by
  have hl : noLs (xs.map f) = true := noLs_all.mpr fun u hu => by
    obtain ⟨x, _, rfl⟩ := List.mem_map.mp hu
    exact hn x
  have od : ∀ x y, ordD .lt 12 (toD (f x)) (toD (f y)) = some (lt x y) := fun x y => by
    rw [ord_rd (B := fun _ => False) (S := []) .lt 12 _ _ _ _ (rd_to (hn x)) (rd_to (hn y)), o.od 12 x y hd]
  have lt_eq : ∀ x y, ltD (toD (f x)) (toD (f y)) = lt x y := fun x y => by unfold ltD; rw [od]; rfl
  have ok : OrdOk (xs.map fun x => toD (f x)) := by
    refine ⟨fun a ha b hb => ?_, ?_, fun a ha => ?_, fun a ha => ?_, fun a ha b hb c hc h1 h2 => ?_, fun a ha b hb ne => ?_⟩
    · obtain ⟨x, _, rfl⟩ := List.mem_map.mp ha
      obtain ⟨y, _, rfl⟩ := List.mem_map.mp hb
      rw [od]; rfl
    · rcases hk with ⟨g, hg⟩ | ⟨b, hb⟩
      · refine .inl ⟨xs.map g, ?_⟩
        rw [List.map_map]
        exact List.map_congr_left fun x _ => hg x
      · refine .inr ⟨b, fun a ha => ?_⟩
        obtain ⟨x, _, rfl⟩ := List.mem_map.mp ha
        exact hb x
    · obtain ⟨x, _, rfl⟩ := List.mem_map.mp ha
      exact noRef_to (hn x)
    · obtain ⟨x, _, rfl⟩ := List.mem_map.mp ha
      rw [lt_eq]; exact t.ir x
    · obtain ⟨x, _, rfl⟩ := List.mem_map.mp ha
      obtain ⟨y, _, rfl⟩ := List.mem_map.mp hb
      obtain ⟨z, _, rfl⟩ := List.mem_map.mp hc
      rw [lt_eq] at *
      exact t.tr x y z h1 h2
    · obtain ⟨x, _, rfl⟩ := List.mem_map.mp ha
      obtain ⟨y, _, rfl⟩ := List.mem_map.mp hb
      rw [lt_eq, lt_eq]
      exact t.tt x y fun e => ne (by rw [e])
  unfold sortU
  rw [if_pos hl, List.map_map]
  have e : sortD (xs.map (toD ∘ f)) = some (srt ltD (xs.map (toD ∘ f))) := if_pos ok
  rw [e]
  show VR.ok (U.lst (List.map bkD (srt ltD (xs.map (toD ∘ f))))) = _
  rw [srt_map (l := lt) (g := toD ∘ f) (fun x y => lt_eq x y), List.map_map]
  congr 2
  exact List.map_congr_left fun x _ => of_to (hn x)
section
variable {β : Type} {k : U → VR β}
theorem o_srt {α : Type} {f : α → U} {lt : α → α → Bool} (h : ∀ xs : List α, sortU (xs.map f) = .ok (.lst ((srt lt xs).map f))) {xs : List α} : (bltU .sorted [.lst (xs.map f)]).bind k = k (.lst ((srt lt xs).map f)) := by
  show (sortU (xs.map f)).bind k = _
  rw [h]; rfl
theorem o_srtI {xs : List Int} : (bltU .sorted [.lst (xs.map U.int)]).bind k = k (.lst ((srt ltI xs).map U.int)) := o_srt (sort_ty od_int (by omega) tot_int (fun x => NoL.no) (.inl ⟨id, fun x => by unfold toD; rfl⟩))
theorem o_srtP {xs : List Pt} : (bltU .sorted [.lst (xs.map ptU)]).bind k = k (.lst ((srt ltP xs).map ptU)) := o_srt (sort_ty od_pt (by omega) tot_pt (fun x => NoL.no) (.inr ⟨true, fun x => by simp [toD, toDs, firstT]⟩))
theorem o_srtS {xs : List Sd} : (bltU .sorted [.lst (xs.map sdU)]).bind k = k (.lst ((srt ltS xs).map sdU)) := o_srt (sort_ty od_sd (by omega) tot_sd (fun x => NoL.no) (.inr ⟨false, fun x => by simp [toD, toDs, firstT]⟩))
theorem o_srtT {xs : List Tr} : (bltU .sorted [.lst (xs.map trU)]).bind k = k (.lst ((srt ltT xs).map trU)) := o_srt (sort_ty od_trg (by omega) tot_trg (fun x => NoL.no) (.inr ⟨false, fun x => by simp [toD, toDs, firstT]⟩))
end
instance fre_sorted {fr : Nat → Bool} {es : Es} : FrE fr (.blt .sorted es) := ⟨by unfold freshE newB; rfl⟩
theorem srt_mem {α : Type} {lt : α → α → Bool} {x : α} {xs : List α} : x ∈ srt lt xs ↔ x ∈ xs := (srt_perm xs).mem_iff
theorem srt_ord {α : Type} [DecidableEq α] {lt : α → α → Bool} (t : Tot lt) (xs : List α) : (srt lt xs).Pairwise fun a b => lt b a = false :=
  srt_srtd (lt := lt) (P := fun _ => True) (fun x y _ _ h => t.as h) (fun x y z _ _ _ h k => t.le_tr h k) xs fun _ _ => trivial
/-- another order of the same: the same -/
theorem srt_uniq {α : Type} [DecidableEq α] {lt : α → α → Bool} (t : Tot lt) {xs ys : List α} (p : xs.Perm ys) : srt lt xs = srt lt ys :=
  perm_uniq (((srt_perm xs).trans p).trans (srt_perm ys).symm) (fun x _ y _ ne => t.tt x y ne) (srt_ord t xs) (srt_ord t ys)
end VL

/-! Two places: not behind, the lesser, the greater; sides alike; big numbers. -/
namespace VL
open PySem PySem.Spec PyProof.Rows L2 NL GM
theorem ord_pt2 {o : Cop} {k : Nat} {a b c d : Int} : ordU o (k + 1) (.tup [.int a, .int b]) (.tup [.int c, .int d]) = some (if a = c then (if b = d then ord4 o 0 0 else ord4 o b d) else ord4 o a c) := by
  have e1 := eqT_tl (f := U.int) (by omega) a c
  have e2 := eqT_tl (f := U.int) (by omega) b d
  have oi : ∀ (x y : Int), ordU o k (.int x) (.int y) = some (ord4 o x y) := fun x y => by cases k <;> rfl
  unfold ordU
  have hall : ([U.int a, U.int b].zip [U.int c, U.int d]).all (ordC (ordU o k)) = true := by
    simp only [ordC, List.zip_cons_cons, List.zip_nil_right, List.all_cons, List.all_nil, Bool.and_true, e1, e2, oi]
    cases decide (a = c) <;> cases decide (b = d) <;> rfl
  rw [if_pos hall, lexU_cons e1, lexU_last e2, oi, oi]
  by_cases h1 : a = c
  · rw [if_pos (by simpa using h1), if_pos h1]
    by_cases h2 : b = d
    · rw [if_pos (by simpa using h2), if_pos h2]
    · rw [if_neg (by simpa using h2), if_neg h2]
  · rw [if_neg (by simpa using h1), if_neg h1]
theorem ord_leP {a b c d : Int} : ordU .le 12 (.tup [.int a, .int b]) (.tup [.int c, .int d]) = some (decide (¬ lxP c d a b)) := by
  rw [ord_pt2 (k := 11)]
  congr 1
  unfold lxP
  by_cases h1 : a = c
  · by_cases h2 : b = d
    · rw [if_pos h1, if_pos h2]; simp [ord4, h1, h2]
    · rw [if_pos h1, if_neg h2]
      show decide (b ≤ d) = _
      exact decide_eq_decide.mpr (by omega)
  · rw [if_neg h1]
    show decide (a ≤ c) = _
    exact decide_eq_decide.mpr (by omega)
theorem ord_gtP {a b c d : Int} : ordU .gt 12 (.tup [.int a, .int b]) (.tup [.int c, .int d]) = some (decide (lxP c d a b)) := by
  rw [ord_pt2 (k := 11)]
  congr 1
  unfold lxP
  by_cases h1 : a = c
  · by_cases h2 : b = d
    · rw [if_pos h1, if_pos h2]; simp [ord4, h1, h2]
    · rw [if_pos h1, if_neg h2]
      show decide (d < b) = _
      exact decide_eq_decide.mpr (by omega)
  · rw [if_neg h1]
    show decide (c < a) = _
    exact decide_eq_decide.mpr (by omega)
section
variable {β : Type} {k : U → VR β}
theorem o_leP {a b c d : Int} : (cmpU .le (.tup [.int a, .int b]) (.tup [.int c, .int d])).bind k = k (.bl (decide (¬ lxP c d a b))) := by
  show (ofU (ordU .le 12 _ _)).bind k = _
  rw [ord_leP]; rfl
theorem o_mnP2 {a b c d : Int} : (bltU .min [.tup [.int a, .int b], .tup [.int c, .int d]]).bind k = if lxP c d a b then k (.tup [.int c, .int d]) else k (.tup [.int a, .int b]) := by
  have ho : ∀ x y z w : Int, ordU .lt 12 (.tup [.int x, .int y]) (.tup [.int z, .int w]) = some (decide (lxP x y z w)) := fun x y z w => (od_pt.od 12 (x, y) (z, w) (by omega)).trans (by rw [ltP_lx])
  show (optU (bestU .lt [.tup [.int a, .int b], .tup [.int c, .int d]])).bind k = _
  have e : bestU .lt [.tup [.int a, .int b], .tup [.int c, .int d]] = some (if lxP c d a b then .tup [.int c, .int d] else .tup [.int a, .int b]) := by
    unfold bestU
    rw [if_pos (by simp [ho])]
    show ([U.tup [.int a, .int b], U.tup [.int c, .int d]])[argBest _ 1]? = _
    unfold argBest argBest
    simp only [List.getD_cons_zero, List.getD_cons_succ, ho, Option.getD_some, decide_eq_true_eq]
    split <;> rfl
  rw [e]
  split <;> rfl
theorem o_mxP2 {a b c d : Int} : (bltU .max [.tup [.int a, .int b], .tup [.int c, .int d]]).bind k = if lxP a b c d then k (.tup [.int c, .int d]) else k (.tup [.int a, .int b]) := by
  show (optU (bestU .gt [.tup [.int a, .int b], .tup [.int c, .int d]])).bind k = _
  have e : bestU .gt [.tup [.int a, .int b], .tup [.int c, .int d]] = some (if lxP a b c d then .tup [.int c, .int d] else .tup [.int a, .int b]) := by
    unfold bestU
    rw [if_pos (by simp [ord_gtP])]
    show ([U.tup [.int a, .int b], U.tup [.int c, .int d]])[argBest _ 1]? = _
    unfold argBest argBest
    simp only [List.getD_cons_zero, List.getD_cons_succ, ord_gtP, Option.getD_some, decide_eq_true_eq]
    split <;> rfl
  rw [e]
  split <;> rfl
theorem o_eqS {a b c d a' b' c' d' : Int} : (cmpU .eq (.tup [.tup [.int a, .int b], .tup [.int c, .int d]]) (.tup [.tup [.int a', .int b'], .tup [.int c', .int d']])).bind k = k (.bl (decide ((a = a' ∧ b = b') ∧ (c = c' ∧ d = d')))) :=
  o_eqG ((eq_tl (f := sdU) (by omega) ((a, b), (c, d)) ((a', b'), (c', d'))).trans (by congr 1; exact decide_eq_decide.mpr (by simp [Prod.ext_iff])))
end
/-! big numbers of the laws -/
@[irreducible] def K8 : Int := 29477480947986319589215679678287935361
theorem K8_eq : K8 = 48271 ^ 8 := by unfold K8; decide +kernel
@[irreducible] def K7 : Int := 7928331467292760530673834318599741
theorem K7_eq : K7 = 69621 ^ 7 := by unfold K7; decide +kernel
instance sz_k8 : Sz 125 K8 := ⟨by rw [K8_eq]; decide +kernel⟩
instance sz_k7 : Sz 113 K7 := ⟨by rw [K7_eq]; decide +kernel⟩
section
variable {β : Type} {k : U → VR β}
theorem o_k8 : (binU .pow (.int 48271) (.int 8)).bind k = k (.int K8) := (o_pow ⟨by decide, by decide +kernel⟩).trans (by rw [show ((48271 : Int) ^ (8 : Int).toNat) = K8 by rw [K8_eq]; rfl])
theorem o_k7 : (binU .pow (.int 69621) (.int 7)).bind k = k (.int K7) := (o_pow ⟨by decide, by decide +kernel⟩).trans (by rw [show ((69621 : Int) ^ (7 : Int).toNat) = K7 by rw [K7_eq]; rfl])
end
instance pz_m1 : Pz 170141183460469231731687303715884105727 := ⟨by decide⟩
instance pz_m2 : Pz 162259276829213363391578010288127 := ⟨by decide⟩
instance sz_m1 : Sz 127 170141183460469231731687303715884105727 := ⟨by decide +kernel⟩
instance sz_m2 : Sz 107 162259276829213363391578010288127 := ⟨by decide +kernel⟩
end VL

/-! Rules: enumerate, zip, list(reversed), pop, extend, clear. -/
namespace VL
open PySem PySem.Spec PyProof.Rows L2 NL
section
variable {β : Type} {C : Nat → List U → VR U} {fr : Nat → Bool} {en : VEnv}
theorem r_rev {e : E} {k : U → VR β} : (evV C (.rev e) en).bind k = (evV C e en).bind fun x => (revU x).bind k := by rw [evV, bind_as]
theorem o_revL {xs : List U} {k : U → VR β} : (revU (.lst xs)).bind k = k (.lst xs.reverse) := nrf rfl
theorem o_revF {xs : List U} {k : U → VR β} : (revU (.frz xs)).bind k = k (.lst xs.reverse) := nrf rfl
instance fre_rev {e : E} : FrE fr (.rev e) := ⟨by unfold freshE; rfl⟩
theorem un_rev {e : E} {k : VEnv → VR β} : unE (.rev e) en k = unE e en k := nrf rfl
theorem i_enm_ {e : E} {k : List U × Bool → VR β} : (evVt C (.enm e) en).bind k = (evV C e en).bind fun x => (enmU x).bind fun xs => k (xs, true) := by
  rw [evVt, bind_as]; congr; funext y; rw [bind_as]; rfl
theorem i_zip_ {a b : E} {k : List U × Bool → VR β} : (evVt C (.zip a b) en).bind k = (evV C a en).bind fun x => (evV C b en).bind fun y => (zipU x y).bind fun xs => k (xs, true) := by
  rw [evVt, bind_as]; congr; funext x; rw [bind_as]; congr; funext y; rw [bind_as]; rfl
theorem o_enmL {xs : List U} {k : List U → VR β} : (enmU (.lst xs)).bind k = k (numU 0 xs) := nrf rfl
theorem o_enmF {xs : List U} {k : List U → VR β} : (enmU (.frz xs)).bind k = k (numU 0 xs) := nrf rfl
theorem o_zipL {xs ys : List U} {k : List U → VR β} : (zipU (.lst xs) (.lst ys)).bind k = k (zpU xs ys) := nrf rfl
theorem o_zipT {xs ys : List U} {k : List U → VR β} : (zipU (.tup xs) (.tup ys)).bind k = k (zpU xs ys) := nrf rfl
theorem zp_nl {ys : List U} : zpU [] ys = [] := by unfold zpU; rfl
theorem zp_nr {xs : List U} : zpU xs [] = [] := by cases xs <;> (unfold zpU; rfl)
theorem zp_c {x y : U} {xs ys : List U} : zpU (x :: xs) (y :: ys) = .tup [x, y] :: zpU xs ys := by rw [zpU]
theorem num_map {α : Type} {f : α → U} : ∀ (xs : List α) (k : Nat), numU k (xs.map f) = (xs.zipIdx k).map fun p => U.tup [.int (p.2 : Nat), f p.1]
  | [], _ => by rw [List.map_nil, numU]; rfl
  | x :: xs, k => by rw [List.map_cons, numU, num_map xs (k + 1), List.zipIdx_cons, List.map_cons]
theorem zp_map {α γ : Type} {f : α → U} {g : γ → U} : ∀ (xs : List α) (ys : List γ), zpU (xs.map f) (ys.map g) = (xs.zip ys).map fun p => U.tup [f p.1, g p.2]
  | [], _ => by rw [List.map_nil, zp_nl]; rfl
  | _ :: _, [] => by rw [List.map_nil, zp_nr]; rfl
  | x :: xs, y :: ys => by rw [List.map_cons, List.map_cons, zp_c, zp_map xs ys, List.zip_cons_cons, List.map_cons]
variable {k : VF → VR β} {tg : Tg} {b : Sts}
theorem z_forE {e : E} : (exV fr C (.for_ tg (.enm e) b) en).bind k = (evV C e en).bind fun u => (enmU u).bind fun us => unE e en fun en => (forS fr C tg b us en).bind k := by
  rw [exV, bind_as]; congr; funext u; rw [bind_as]; rfl
theorem z_forZ {e e' : E} : (exV fr C (.for_ tg (.zip e e') b) en).bind k = (evV C e en).bind fun u => (evV C e' en).bind fun v => (zipU u v).bind fun us => unE e en fun en => unE e' en fun en => (forS fr C tg b us en).bind k := by
  rw [exV, bind_as]; congr; funext u; rw [bind_as]; congr; funext v; rw [bind_as]; congr; funext us
  unfold unE
  rw [unown_app]; rfl
/-- what x.pop() leaves and gives -/
def popK {β : Type} (us : List U) (k : U → List U → VR β) : VR β := match us[us.length - 1]? with
  | some u => k u us.dropLast
  | none => .stuck
theorem pop_at {us : List U} {u : U} {k : U → List U → VR β} : popK (us ++ [u]) k = k u us := by
  unfold popK
  rw [List.length_append, List.length_singleton, Nat.add_sub_cancel, List.getElem?_concat_length, List.dropLast_concat]
theorem z_pop0 {i : Nat} : (exV fr C (.popx none i) en).bind k = ownK en i fun us => popK us fun _ vs => setK en i true (.lst vs) fun en => k (.nx en) := by
  rw [exV, bind_as]
  unfold ownK popK
  congr; funext us
  cases us[us.length - 1]? <;> rfl
theorem z_pop1 {i j : Nat} : (exV fr C (.popx (some (.nm j)) i) en).bind k = ownK en i fun us => popK us fun u vs => setK en i true (.lst vs) fun en => setK en j false u fun en => k (.nx en) := by
  rw [exV, bind_as]
  unfold ownK popK
  congr; funext us
  cases us[us.length - 1]? <;> rfl
/-- what x.extend(e) does -/
def exS {β : Type} (e : E) (i : Nat) (u : U) (en : VEnv) (k : VF → VR β) : VR β := (lstU u).bind fun vs => ownK (leaks vs (fvE e) en) i fun us => if us.length + vs.length ≤ sizeLine then setK (leaks vs (fvE e) en) i true (.lst (us ++ vs)) fun en => k (.nx en) else .stuck
theorem z_ext {i : Nat} {e : E} : (exV fr C (.ext i e) en).bind k = ownK en i fun _ => (evV C e en).bind fun u => exS e i u en k := by
  rw [exV, bind_as]
  unfold ownK exS
  congr; funext us; rw [bind_as]; congr; funext u; rw [bind_as]; congr; funext vs; unfold ownK; rw [bind_as]; congr; funext us
  split <;> rfl
theorem exs_n {e : E} {i : Nat} {vs : List U} [h : NoLs vs] : exS e i (.lst vs) en k = ownK en i fun us => if us.length + vs.length ≤ sizeLine then setK en i true (.lst (us ++ vs)) fun en => k (.nx en) else .stuck := by
  have e1 : leaks vs (fvE e) en = en := if_pos h.no
  unfold exS
  show (ownK (leaks vs (fvE e) en) i fun us => if us.length + vs.length ≤ sizeLine then setK (leaks vs (fvE e) en) i true (.lst (us ++ vs)) fun en => k (.nx en) else .stuck) = _
  rw [e1]
theorem z_clr {i : Nat} : (exV fr C (.clr i) en).bind k = ownK en i fun _ => setK en i true (.lst []) fun en => k (.nx en) := by
  rw [exV, bind_as]; rfl
instance nls_num {us : List U} {k : Nat} [h : NoLs us] : NoLs (numU k us) := ⟨by
  have := h.no
  clear h
  induction us generalizing k with
  | nil => unfold numU noLs; rfl
  | cons u us ih =>
    unfold noLs at this
    rw [Bool.and_eq_true] at this
    rw [numU]
    unfold noLs
    rw [ih this.2, Bool.and_true]
    simp [noL, noLs, this.1]⟩
end
end VL

/-! A typed reading above the trees: what a value of a type looks like, how its things are alike, ordered. -/
namespace TL
open PySem PySem.Spec PyProof.Rows L2 NL GM VL
class Ty (α : Type) where
  ec : α → U
open Ty (ec)
/-- a place: two whole numbers of at most a thousand bits -/
structure P where
  x : Int
  y : Int
  hx : Sz 1000 x
  hy : Sz 1000 y
/-- a fraction as it stands, of at most m bits -/
structure Fr (m : Nat) where
  n : Int
  d : Int
  hn : Sz m n
  hd : Sz m d
structure T3 (α β γ : Type) where
  a : α
  b : β
  c : γ
  deriving DecidableEq
structure T4 (α β γ δ : Type) where
  a : α
  b : β
  c : γ
  d : δ
  deriving DecidableEq
/-- the script -/
structure Scr where
  ns : List Int
theorem P.ext_ {a b : P} (h : a.x = b.x) (k : a.y = b.y) : a = b := by
  cases a; cases b; cases h; cases k; rfl
theorem P.ext_iff_ {a b : P} : a = b ↔ a.x = b.x ∧ a.y = b.y := ⟨fun h => by cases h; exact ⟨rfl, rfl⟩, fun h => P.ext_ h.1 h.2⟩
instance : DecidableEq P := fun a b => if h : a.x = b.x ∧ a.y = b.y then isTrue (P.ext_ h.1 h.2) else isFalse fun e => h (by cases e; exact ⟨rfl, rfl⟩)
theorem Fr.ext_ {m : Nat} {a b : Fr m} (h : a.n = b.n) (k : a.d = b.d) : a = b := by
  cases a; cases b; cases h; cases k; rfl
instance {m : Nat} : DecidableEq (Fr m) := fun a b => if h : a.n = b.n ∧ a.d = b.d then isTrue (Fr.ext_ h.1 h.2) else isFalse fun e => h (by cases e; exact ⟨rfl, rfl⟩)
instance (a : P) : Sz 1000 a.x := a.hx
instance (a : P) : Sz 1000 a.y := a.hy
instance {m : Nat} (a : Fr m) : Sz m a.n := a.hn
instance {m : Nat} (a : Fr m) : Sz m a.d := a.hd
abbrev P.pt (a : P) : Pt := (a.x, a.y)
instance : Ty Int := ⟨U.int⟩
instance : Ty Bool := ⟨U.bl⟩
instance : Ty Unit := ⟨fun _ => .non⟩
instance : Ty Str := ⟨U.str⟩
instance : Ty U := ⟨id⟩
instance : Ty P := ⟨fun p => .tup [.int p.x, .int p.y]⟩
instance {m : Nat} : Ty (Fr m) := ⟨fun p => .tup [.int p.n, .int p.d]⟩
instance : Ty Scr := ⟨fun s => .frz (s.ns.map U.int)⟩
section
variable {α β γ δ : Type} [Ty α] [Ty β] [Ty γ] [Ty δ]
instance : Ty (α × β) := ⟨fun p => .tup [ec p.1, ec p.2]⟩
instance : Ty (T3 α β γ) := ⟨fun p => .tup [ec p.a, ec p.b, ec p.c]⟩
instance : Ty (T4 α β γ δ) := ⟨fun p => .tup [ec p.a, ec p.b, ec p.c, ec p.d]⟩
instance : Ty (List α) := ⟨fun l => .lst (l.map ec)⟩
instance : Ty (Option α) := ⟨fun o => match o with | none => .non | some a => ec a⟩
end
/-! ### no list within; always one -/
class Flat (α : Type) [Ty α] : Prop where
  fl : ∀ a : α, noL (ec a) = true
class HasL (α : Type) [Ty α] : Prop where
  hl : ∀ a : α, noL (ec a) = false
/-- no list itself -/
class NotL (α : Type) [Ty α] : Prop where
  nl : ∀ a : α, isL (ec a) = false
/-- never None -/
class NoN (α : Type) [Ty α] : Prop where
  nn : ∀ a : α, isU (ec a) .non = some false
instance : Flat Int := ⟨fun _ => by simp [ec, noL]⟩
instance : Flat Bool := ⟨fun _ => by simp [ec, noL]⟩
instance : Flat Unit := ⟨fun _ => by simp [ec, noL]⟩
instance : Flat Str := ⟨fun _ => by simp [ec, noL]⟩
instance : Flat P := ⟨fun _ => by simp [ec, noL, noLs]⟩
instance {m : Nat} : Flat (Fr m) := ⟨fun _ => by simp [ec, noL, noLs]⟩
section
variable {α β γ δ : Type} [Ty α] [Ty β] [Ty γ] [Ty δ]
instance [a : Flat α] [b : Flat β] : Flat (α × β) := ⟨fun x => by show noL (.tup [ec x.1, ec x.2]) = true; simp [noL, noLs, a.fl, b.fl]⟩
instance [a : Flat α] [b : Flat β] [c : Flat γ] : Flat (T3 α β γ) := ⟨fun x => by show noL (.tup [ec x.a, ec x.b, ec x.c]) = true; simp [noL, noLs, a.fl, b.fl, c.fl]⟩
instance [a : Flat α] [b : Flat β] [c : Flat γ] [d : Flat δ] : Flat (T4 α β γ δ) := ⟨fun x => by show noL (.tup [ec x.a, ec x.b, ec x.c, ec x.d]) = true; simp [noL, noLs, a.fl, b.fl, c.fl, d.fl]⟩
instance [a : Flat α] : Flat (Option α) := ⟨fun o => by cases o with | none => simp [ec, noL] | some x => exact a.fl x⟩
instance : HasL (List α) := ⟨fun l => by show noL (.lst _) = false; simp [noL]⟩
instance : HasL Scr := ⟨fun l => by show noL (.frz _) = false; simp [noL]⟩
instance [a : HasL α] : HasL (α × β) := ⟨fun x => by show noL (.tup [ec x.1, ec x.2]) = false; simp [noL, noLs, a.hl]⟩
instance [a : HasL β] : HasL (α × β) := ⟨fun x => by show noL (.tup [ec x.1, ec x.2]) = false; simp [noL, noLs, a.hl]⟩
instance [a : HasL α] : HasL (T3 α β γ) := ⟨fun x => by show noL (.tup [ec x.a, ec x.b, ec x.c]) = false; simp [noL, noLs, a.hl]⟩
instance [a : HasL β] : HasL (T3 α β γ) := ⟨fun x => by show noL (.tup [ec x.a, ec x.b, ec x.c]) = false; simp [noL, noLs, a.hl]⟩
instance [a : HasL γ] : HasL (T3 α β γ) := ⟨fun x => by show noL (.tup [ec x.a, ec x.b, ec x.c]) = false; simp [noL, noLs, a.hl]⟩
instance : NotL Int := ⟨fun _ => rfl⟩
instance : NotL Bool := ⟨fun _ => rfl⟩
instance : NotL Unit := ⟨fun _ => rfl⟩
instance : NotL Str := ⟨fun _ => rfl⟩
instance : NotL P := ⟨fun _ => rfl⟩
instance : NotL Scr := ⟨fun _ => rfl⟩
instance {m : Nat} : NotL (Fr m) := ⟨fun _ => rfl⟩
instance : NotL (α × β) := ⟨fun _ => rfl⟩
instance : NotL (T3 α β γ) := ⟨fun _ => rfl⟩
instance : NotL (T4 α β γ δ) := ⟨fun _ => rfl⟩
instance [a : NotL α] : NotL (Option α) := ⟨fun o => by cases o with | none => rfl | some x => exact a.nl x⟩
instance : NoN Int := ⟨fun _ => rfl⟩
instance : NoN Bool := ⟨fun _ => rfl⟩
instance : NoN Str := ⟨fun _ => rfl⟩
instance : NoN P := ⟨fun _ => rfl⟩
instance {m : Nat} : NoN (Fr m) := ⟨fun _ => rfl⟩
instance : NoN (α × β) := ⟨fun _ => rfl⟩
instance : NoN (T3 α β γ) := ⟨fun _ => rfl⟩
instance : NoN (T4 α β γ δ) := ⟨fun _ => rfl⟩
instance : NoN (List α) := ⟨fun _ => rfl⟩
theorem noL_flat {a : α} [h : Flat α] : NoL (ec a) := ⟨h.fl a⟩
theorem noLs_flat {l : List α} [h : Flat α] : noLs (l.map ec) = true := noLs_all.mpr fun u hu => by
  obtain ⟨x, _, rfl⟩ := List.mem_map.mp hu
  exact h.fl x
end
/-! ### alike -/
/-- as plain data -/
class Dt (α : Type) [Ty α] [DecidableEq α] (d : outParam Nat) where
  p : α → PyData
  pu : ∀ (k : Nat) (x : α), d ≤ k → pdU k (ec x) = some (p x)
  eqv : ∀ x y, PyData.eqv (p x) (p y) = decide (x = y)
/-- .. without lists -/
class Tc (α : Type) [Ty α] [DecidableEq α] (d : outParam Nat) [Dt α d] : Prop where
  pt : ∀ (k : Nat) (x : α), d ≤ k → pdT k (ec x) = some (Dt.p x)
class NonD (α : Type) [Ty α] [DecidableEq α] (d : outParam Nat) [Dt α d] : Prop where
  nn : ∀ a : α, PyData.eqv .none (Dt.p a) = false ∧ PyData.eqv (Dt.p a) .none = false
instance dt_int : Dt Int 0 := ⟨PyData.int, fun k x _ => by cases k <;> rfl, fun x y => eqv_int⟩
instance : Tc Int 0 := ⟨fun k x _ => by cases k <;> rfl⟩
instance dt_bool : Dt Bool 0 := ⟨PyData.bool, fun k x _ => by cases k <;> rfl, fun x y => by simp only [PyData.eqv]; cases x <;> cases y <;> rfl⟩
instance dt_unit : Dt Unit 0 := ⟨fun _ => PyData.none, fun k x _ => by cases k <;> rfl, fun x y => by simp [PyData.eqv]⟩
theorem pu_two {f g : U} {k : Nat} {p q : PyData} (a : pdU k f = some p) (b : pdU k g = some q) : pdU (k + 1) (.tup [f, g]) = some (.tuple [p, q]) := by
  show (NL.mapO (pdU k) [f, g]).map _ = _
  unfold NL.mapO NL.mapO NL.mapO
  rw [a, b]; rfl
theorem pt_two {f g : U} {k : Nat} {p q : PyData} (a : pdT k f = some p) (b : pdT k g = some q) : pdT (k + 1) (.tup [f, g]) = some (.tuple [p, q]) := by
  show (NL.mapO (pdT k) [f, g]).map _ = _
  unfold NL.mapO NL.mapO NL.mapO
  rw [a, b]; rfl
theorem pu_three {f g h : U} {k : Nat} {p q r : PyData} (a : pdU k f = some p) (b : pdU k g = some q) (c : pdU k h = some r) : pdU (k + 1) (.tup [f, g, h]) = some (.tuple [p, q, r]) := by
  show (NL.mapO (pdU k) [f, g, h]).map _ = _
  unfold NL.mapO NL.mapO NL.mapO NL.mapO
  rw [a, b, c]; rfl
theorem pt_three {f g h : U} {k : Nat} {p q r : PyData} (a : pdT k f = some p) (b : pdT k g = some q) (c : pdT k h = some r) : pdT (k + 1) (.tup [f, g, h]) = some (.tuple [p, q, r]) := by
  show (NL.mapO (pdT k) [f, g, h]).map _ = _
  unfold NL.mapO NL.mapO NL.mapO NL.mapO
  rw [a, b, c]; rfl
theorem pu_four {f g h i : U} {k : Nat} {p q r s : PyData} (a : pdU k f = some p) (b : pdU k g = some q) (c : pdU k h = some r) (d : pdU k i = some s) : pdU (k + 1) (.tup [f, g, h, i]) = some (.tuple [p, q, r, s]) := by
  show (NL.mapO (pdU k) [f, g, h, i]).map _ = _
  unfold NL.mapO NL.mapO NL.mapO NL.mapO NL.mapO
  rw [a, b, c, d]; rfl
theorem pred_of {d k : Nat} (h : d + 1 ≤ k) : ∃ j, k = j + 1 ∧ d ≤ j := ⟨k - 1, by omega⟩
theorem z_le {k : Nat} : 0 ≤ k := Nat.zero_le k
theorem ev2 {a b c d : PyData} : PyData.eqv (.tuple [a, b]) (.tuple [c, d]) = (PyData.eqv a c && PyData.eqv b d) := by simp only [PyData.eqv, PyData.eqvAll, Bool.and_true]
theorem ev3 {a b c d e f : PyData} : PyData.eqv (.tuple [a, b, c]) (.tuple [d, e, f]) = (PyData.eqv a d && (PyData.eqv b e && PyData.eqv c f)) := by simp only [PyData.eqv, PyData.eqvAll, Bool.and_true]
theorem ev4 {a b c d e f g h : PyData} : PyData.eqv (.tuple [a, b, c, g]) (.tuple [d, e, f, h]) = (PyData.eqv a d && (PyData.eqv b e && (PyData.eqv c f && PyData.eqv g h))) := by simp only [PyData.eqv, PyData.eqvAll, Bool.and_true]
theorem dec2 {p q r : Prop} [Decidable p] [Decidable q] [Decidable r] (h : p ↔ q ∧ r) : (decide q && decide r) = decide p := by
  rw [← Bool.decide_and]; exact decide_eq_decide.mpr h.symm
theorem dec3 {p q r s : Prop} [Decidable p] [Decidable q] [Decidable r] [Decidable s] (h : p ↔ q ∧ r ∧ s) : (decide q && (decide r && decide s)) = decide p := by
  rw [← Bool.decide_and, ← Bool.decide_and]; exact decide_eq_decide.mpr h.symm
theorem dec4 {p q r s t : Prop} [Decidable p] [Decidable q] [Decidable r] [Decidable s] [Decidable t] (h : p ↔ q ∧ r ∧ s ∧ t) : (decide q && (decide r && (decide s && decide t))) = decide p := by
  rw [← Bool.decide_and, ← Bool.decide_and, ← Bool.decide_and]; exact decide_eq_decide.mpr h.symm
theorem T3.ext_iff_ {α β γ : Type} {x y : T3 α β γ} : x = y ↔ x.a = y.a ∧ x.b = y.b ∧ x.c = y.c := ⟨fun h => by cases h; exact ⟨rfl, rfl, rfl⟩, fun h => by cases x; cases y; obtain ⟨h1, h2, h3⟩ := h; cases h1; cases h2; cases h3; rfl⟩
theorem T4.ext_iff_ {α β γ δ : Type} {x y : T4 α β γ δ} : x = y ↔ x.a = y.a ∧ x.b = y.b ∧ x.c = y.c ∧ x.d = y.d := ⟨fun h => by cases h; exact ⟨rfl, rfl, rfl, rfl⟩, fun h => by cases x; cases y; obtain ⟨h1, h2, h3, h4⟩ := h; cases h1; cases h2; cases h3; cases h4; rfl⟩
theorem Fr.ext_iff_ {m : Nat} {x y : Fr m} : x = y ↔ x.n = y.n ∧ x.d = y.d := ⟨fun h => by cases h; exact ⟨rfl, rfl⟩, fun h => Fr.ext_ h.1 h.2⟩
instance dt_p : Dt P 1 := ⟨fun x => .tuple [.int x.x, .int x.y], fun k x h => by obtain ⟨j, rfl, h'⟩ := pred_of h; exact pu_two (dt_int.pu j _ z_le) (dt_int.pu j _ z_le), fun x y => by rw [ev2, eqv_int, eqv_int]; exact dec2 P.ext_iff_⟩
instance : Tc P 1 := ⟨fun k x h => by obtain ⟨j, rfl, h'⟩ := pred_of h; exact pt_two (Tc.pt (α := Int) j _ z_le) (Tc.pt (α := Int) j _ z_le)⟩
instance dt_fr {m : Nat} : Dt (Fr m) 1 := ⟨fun x => .tuple [.int x.n, .int x.d], fun k x h => by obtain ⟨j, rfl, h'⟩ := pred_of h; exact pu_two (dt_int.pu j _ z_le) (dt_int.pu j _ z_le), fun x y => by rw [ev2, eqv_int, eqv_int]; exact dec2 Fr.ext_iff_⟩
instance {m : Nat} : Tc (Fr m) 1 := ⟨fun k x h => by obtain ⟨j, rfl, h'⟩ := pred_of h; exact pt_two (Tc.pt (α := Int) j _ z_le) (Tc.pt (α := Int) j _ z_le)⟩
section
variable {α β γ δ : Type} [Ty α] [Ty β] [Ty γ] [Ty δ] [DecidableEq α] [DecidableEq β] [DecidableEq γ] [DecidableEq δ] {d e c k : Nat}
instance dt_pr [a : Dt α d] [b : Dt β e] : Dt (α × β) (max d e + 1) := ⟨fun x => .tuple [a.p x.1, b.p x.2], fun k x h => by obtain ⟨j, rfl, h'⟩ := pred_of h; exact pu_two (a.pu j _ (by omega)) (b.pu j _ (by omega)), fun x y => by rw [ev2, a.eqv, b.eqv]; exact dec2 Prod.ext_iff⟩
instance [Dt α d] [Dt β e] [a : Tc α d] [b : Tc β e] : Tc (α × β) (max d e + 1) := ⟨fun k x h => by obtain ⟨j, rfl, h'⟩ := pred_of h; exact pt_two (a.pt j _ (by omega)) (b.pt j _ (by omega))⟩
instance dt_t3 [a : Dt α d] [b : Dt β e] [i : Dt γ c] : Dt (T3 α β γ) (max d (max e c) + 1) := ⟨fun x => .tuple [a.p x.a, b.p x.b, i.p x.c], fun k x h => by obtain ⟨j, rfl, h'⟩ := pred_of h; exact pu_three (a.pu j _ (by omega)) (b.pu j _ (by omega)) (i.pu j _ (by omega)), fun x y => by rw [ev3, a.eqv, b.eqv, i.eqv]; exact dec3 T3.ext_iff_⟩
instance [Dt α d] [Dt β e] [Dt γ c] [a : Tc α d] [b : Tc β e] [i : Tc γ c] : Tc (T3 α β γ) (max d (max e c) + 1) := ⟨fun k x h => by obtain ⟨j, rfl, h'⟩ := pred_of h; exact pt_three (a.pt j _ (by omega)) (b.pt j _ (by omega)) (i.pt j _ (by omega))⟩
instance dt_t4 [a : Dt α d] [b : Dt β e] [i : Dt γ c] [l : Dt δ k] : Dt (T4 α β γ δ) (max d (max e (max c k)) + 1) := ⟨fun x => .tuple [a.p x.a, b.p x.b, i.p x.c, l.p x.d], fun k x h => by obtain ⟨j, rfl, h'⟩ := pred_of h; exact pu_four (a.pu j _ (by omega)) (b.pu j _ (by omega)) (i.pu j _ (by omega)) (l.pu j _ (by omega)), fun x y => by rw [ev4, a.eqv, b.eqv, i.eqv, l.eqv]; exact dec4 T4.ext_iff_⟩
instance dt_list [a : Dt α d] : Dt (List α) (d + 1) := ⟨fun x => .list (x.map a.p), fun k x h => by
    obtain ⟨k, rfl, h'⟩ := pred_of h
    show (NL.mapO (pdU k) (x.map ec)).map _ = _
    rw [mapO_tl (p := a.p) (fun z => a.pu k z h')]; rfl, fun x y => by
    simp only [PyData.eqv]
    exact eqvAll_tl a.eqv x y⟩
instance : NonD Int 0 := ⟨fun a => by simp [Dt.p, PyData.eqv]⟩
instance : NonD Bool 0 := ⟨fun a => by simp [Dt.p, PyData.eqv]⟩
instance : NonD P 1 := ⟨fun a => by simp [Dt.p, PyData.eqv]⟩
instance {m : Nat} : NonD (Fr m) 1 := ⟨fun a => by simp [Dt.p, PyData.eqv]⟩
instance [Dt α d] [Dt β e] : NonD (α × β) (max d e + 1) := ⟨fun a => by simp [Dt.p, PyData.eqv]⟩
instance [Dt α d] [Dt β e] [Dt γ c] : NonD (T3 α β γ) (max d (max e c) + 1) := ⟨fun a => by simp [Dt.p, PyData.eqv]⟩
instance [Dt α d] : NonD (List α) (d + 1) := ⟨fun a => by simp [Dt.p, PyData.eqv]⟩
instance dt_opt [a : Dt α d] [n : NonD α d] : Dt (Option α) d := ⟨fun x => match x with | none => .none | some z => a.p z, fun k x h => by
    cases x with
    | none => cases k <;> rfl
    | some z => exact a.pu k z h, fun x y => by
    cases x with
    | none => cases y with
      | none => simp [PyData.eqv]
      | some z => simpa using (n.nn z).1
    | some w => cases y with
      | none => simpa using (n.nn w).2
      | some z =>
        show PyData.eqv (a.p w) (a.p z) = _
        rw [a.eqv]; exact decide_eq_decide.mpr (by simp)⟩
theorem eq_dt [a : Dt α d] (h : d ≤ 12) (x y : α) : VL.eqU (ec x) (ec y) = some (decide (x = y)) := by
  unfold VL.eqU
  rw [a.pu 12 x h, a.pu 12 y h, ← a.eqv x y]
theorem eq_dtT [a : Dt α d] [t : Tc α d] (h : d ≤ 12) (x y : α) : VL.eqT (ec x) (ec y) = some (decide (x = y)) := by
  unfold VL.eqT
  rw [t.pt 12 x h, t.pt 12 y h, ← a.eqv x y]
theorem any_dt [a : Dt α d] (x : α) : ∀ l : List α, ((l.map a.p).any fun q => PyData.eqv q (a.p x)) = decide (x ∈ l)
  | [] => by simp
  | y :: l => by
    rw [List.map_cons, List.any_cons, any_dt x l, a.eqv, ← Bool.decide_or]
    exact decide_eq_decide.mpr (by rw [List.mem_cons]; exact or_congr_left eq_comm)
theorem in_dt [a : Dt α d] (h : d ≤ 12) (x : α) (l : List α) : inU (ec x) (ec l) = some (decide (x ∈ l)) := by
  show inU (ec x) (.lst (l.map ec)) = _
  unfold inU
  show (match pdU 12 (ec x), NL.mapO (pdU 12) (l.map ec) with | some p, some qs => some (qs.any fun q => PyData.eqv q p) | _, _ => none) = _
  rw [a.pu 12 x h, mapO_tl (p := a.p) (fun z => a.pu 12 z h), ← any_dt x l]
theorem in_dtT [a : Dt α d] (h : d ≤ 12) (x : α) (l : List α) : inU (ec x) (.tup (l.map ec)) = some (decide (x ∈ l)) := by
  unfold inU
  show (match pdU 12 (ec x), NL.mapO (pdU 12) (l.map ec) with | some p, some qs => some (qs.any fun q => PyData.eqv q p) | _, _ => none) = _
  rw [a.pu 12 x h, mapO_tl (p := a.p) (fun z => a.pu 12 z h), ← any_dt x l]
end
/-! ### in order -/
def ov {α : Type} (lt : α → α → Bool) : Cop → α → α → Bool
  | .lt, x, y => lt x y
  | .gt, x, y => lt y x
  | .le, x, y => !lt y x
  | .ge, x, y => !lt x y
  | _, _, _ => false
def Cop4 (o : Cop) : Prop := o = .lt ∨ o = .gt ∨ o = .le ∨ o = .ge
structure Od4 {α : Type} (f : α → U) (d : Nat) (lt : α → α → Bool) : Prop where
  od : ∀ (o : Cop), Cop4 o → ∀ (k : Nat) (x y : α), d ≤ k → ordU o k (f x) (f y) = some (ov lt o x y)
class Or (α : Type) [Ty α] [DecidableEq α] (d : outParam Nat) where
  lt : α → α → Bool
  od : Od4 (ec : α → U) d lt
  tot : Tot lt
/-- what sorted asks -/
class So (α : Type) [Ty α] [DecidableEq α] (d : outParam Nat) [Or α d] : Prop where
  hk : (∃ g : α → Int, ∀ x : α, toD (ec x) = .int (g x)) ∨ ∃ b, ∀ x : α, NL.firstT (toD (ec x)) = some b
theorem od4_int : Od4 U.int 0 ltI := ⟨fun o ho k x y _ => by
  rcases ho with rfl | rfl | rfl | rfl
  · cases k <;> rfl
  · cases k <;> rfl
  · cases k <;> (show some (decide (x ≤ y)) = some (!decide (y < x)); congr 1; rw [← decide_not]; exact decide_eq_decide.mpr Int.not_lt.symm)
  · cases k <;> (show some (decide (y ≤ x)) = some (!decide (x < y)); congr 1; rw [← decide_not]; exact decide_eq_decide.mpr Int.not_lt.symm)⟩
instance or_int : Or Int 0 := ⟨ltI, od4_int, tot_int⟩
instance : So Int 0 := ⟨.inl ⟨id, fun x => by simp [ec, toD]⟩⟩
/-- from the first place that differs -/
def lt2 {α β : Type} [DecidableEq α] (l : α → α → Bool) (m : β → β → Bool) (a b : α) (c d : β) : Bool := if a = b then m c d else l a b
theorem ov_self {α : Type} {lt : α → α → Bool} (t : Tot lt) {o : Cop} (ho : Cop4 o) (x : α) : ov lt o x x = ord4 o 0 0 := by
  rcases ho with rfl | rfl | rfl | rfl <;> simp [ov, ord4, t.ir]
theorem od_two {τ α β : Type} [Ty α] [Ty β] [DecidableEq τ] [DecidableEq α] [DecidableEq β] {d e a b : Nat} [Dt α a] [Dt β b] [Tc α a] [Tc β b] {l : α → α → Bool} {m : β → β → Bool} (ha : a ≤ 12) (hb : b ≤ 12) (of : Od4 (ec : α → U) d l) (og : Od4 (ec : β → U) e m) (tm : Tot m) (s : τ → α) (t : τ → β) :
    Od4 (fun x => .tup [ec (s x), ec (t x)]) (max d e + 1) (fun x y => lt2 l m (s x) (s y) (t x) (t y)) := by
  refine ⟨fun o ho k x y h => ?_⟩
  obtain ⟨k, rfl⟩ : ∃ j, k = j + 1 := ⟨k - 1, by omega⟩
  have e1 := eq_dtT (α := α) ha (s x) (s y)
  have e2 := eq_dtT (α := β) hb (t x) (t y)
  have o1 := of.od o ho k (s x) (s y) (by omega)
  have o2 := og.od o ho k (t x) (t y) (by omega)
  show ordU o (k + 1) (.tup [ec (s x), ec (t x)]) (.tup [ec (s y), ec (t y)]) = _
  unfold ordU
  have hall : ([ec (s x), ec (t x)].zip [ec (s y), ec (t y)]).all (ordC (ordU o k)) = true := by
    simp only [ordC, List.zip_cons_cons, List.zip_nil_right, List.all_cons, List.all_nil, Bool.and_true, e1, e2, o1, o2]
    cases decide (s x = s y) <;> cases decide (t x = t y) <;> rfl
  rw [if_pos hall, lexU_cons e1, lexU_last e2, o1, o2]
  by_cases h1 : s x = s y
  · rw [if_pos (by simpa using h1)]
    by_cases h2 : t x = t y
    · rw [if_pos (by simpa using h2), ← ov_self tm ho (t y)]
      rcases ho with rfl | rfl | rfl | rfl <;> simp [ov, lt2, h1, h2]
    · rw [if_neg (by simpa using h2)]
      rcases ho with rfl | rfl | rfl | rfl <;> simp [ov, lt2, h1]
  · rw [if_neg (by simpa using h1)]
    have h1' : ¬ s y = s x := fun z => h1 z.symm
    rcases ho with rfl | rfl | rfl | rfl <;> simp [ov, lt2, h1, h1']
theorem od_three {τ α β γ : Type} [Ty α] [Ty β] [Ty γ] [DecidableEq τ] [DecidableEq α] [DecidableEq β] [DecidableEq γ] {d e f a b c : Nat} [Dt α a] [Dt β b] [Dt γ c] [Tc α a] [Tc β b] [Tc γ c] {l : α → α → Bool} {m : β → β → Bool} {n : γ → γ → Bool} (ha : a ≤ 12) (hb : b ≤ 12) (hc : c ≤ 12)
    (of : Od4 (ec : α → U) d l) (og : Od4 (ec : β → U) e m) (oh : Od4 (ec : γ → U) f n) (tn : Tot n) (s : τ → α) (t : τ → β) (u : τ → γ) :
    Od4 (fun x => .tup [ec (s x), ec (t x), ec (u x)]) (max d (max e f) + 1) (fun x y => if s x = s y then lt2 m n (t x) (t y) (u x) (u y) else l (s x) (s y)) := by
  refine ⟨fun o ho k x y h => ?_⟩
  obtain ⟨k, rfl⟩ : ∃ j, k = j + 1 := ⟨k - 1, by omega⟩
  have e1 := eq_dtT (α := α) ha (s x) (s y)
  have e2 := eq_dtT (α := β) hb (t x) (t y)
  have e3 := eq_dtT (α := γ) hc (u x) (u y)
  have o1 := of.od o ho k (s x) (s y) (by omega)
  have o2 := og.od o ho k (t x) (t y) (by omega)
  have o3 := oh.od o ho k (u x) (u y) (by omega)
  show ordU o (k + 1) (.tup [ec (s x), ec (t x), ec (u x)]) (.tup [ec (s y), ec (t y), ec (u y)]) = _
  unfold ordU
  have hall : ([ec (s x), ec (t x), ec (u x)].zip [ec (s y), ec (t y), ec (u y)]).all (ordC (ordU o k)) = true := by
    simp only [ordC, List.zip_cons_cons, List.zip_nil_right, List.all_cons, List.all_nil, Bool.and_true, e1, e2, e3, o1, o2, o3]
    cases decide (s x = s y) <;> cases decide (t x = t y) <;> cases decide (u x = u y) <;> rfl
  rw [if_pos hall, lexU_cons e1, lexU_cons e2, lexU_last e3, o1, o2, o3]
  by_cases h1 : s x = s y
  · rw [if_pos (by simpa using h1)]
    by_cases h2 : t x = t y
    · rw [if_pos (by simpa using h2)]
      by_cases h3 : u x = u y
      · rw [if_pos (by simpa using h3), ← ov_self tn ho (u y)]
        rcases ho with rfl | rfl | rfl | rfl <;> simp [ov, lt2, h1, h2, h3]
      · rw [if_neg (by simpa using h3)]
        rcases ho with rfl | rfl | rfl | rfl <;> simp [ov, lt2, h1, h2]
    · rw [if_neg (by simpa using h2)]
      have h2' : ¬ t y = t x := fun z => h2 z.symm
      rcases ho with rfl | rfl | rfl | rfl <;> simp [ov, lt2, h1, h2, h2']
  · rw [if_neg (by simpa using h1)]
    have h1' : ¬ s y = s x := fun z => h1 z.symm
    rcases ho with rfl | rfl | rfl | rfl <;> simp [ov, lt2, h1, h1']
theorem tot_two {τ α β : Type} [DecidableEq α] {l : α → α → Bool} {m : β → β → Bool} (a : Tot l) (b : Tot m) (s : τ → α) (t : τ → β) (hx : ∀ x y, s x = s y → t x = t y → x = y) : Tot (fun x y => lt2 l m (s x) (s y) (t x) (t y)) := by
  have k := tot_pr a b
  exact ⟨fun x => k.ir (s x, t x), fun x y z => k.tr (s x, t x) (s y, t y) (s z, t z), fun x y hn => k.tt (s x, t x) (s y, t y) fun e => hn (hx x y (congrArg Prod.fst e) (congrArg Prod.snd e))⟩
theorem tot_three {τ α β γ : Type} [DecidableEq α] [DecidableEq β] {l : α → α → Bool} {m : β → β → Bool} {n : γ → γ → Bool} (a : Tot l) (b : Tot m) (c : Tot n) (s : τ → α) (t : τ → β) (u : τ → γ) (hx : ∀ x y, s x = s y → t x = t y → u x = u y → x = y) :
    Tot (fun x y => if s x = s y then lt2 m n (t x) (t y) (u x) (u y) else l (s x) (s y)) := by
  have k := tot_pr a (tot_pr b c)
  exact ⟨fun x => k.ir (s x, t x, u x), fun x y z => k.tr (s x, t x, u x) (s y, t y, u y) (s z, t z, u z), fun x y hn => k.tt (s x, t x, u x) (s y, t y, u y) fun e => hn (hx x y (congrArg Prod.fst e) (congrArg (·.2.1) e) (congrArg (·.2.2) e))⟩
def ltPP (a b : P) : Bool := lt2 ltI ltI a.x b.x a.y b.y
instance or_p : Or P 1 := ⟨ltPP, od_two (α := Int) (β := Int) (by omega) (by omega) od4_int od4_int tot_int P.x P.y, tot_two tot_int tot_int P.x P.y fun _ _ => P.ext_⟩
instance : So P 1 := ⟨.inr ⟨true, fun x => by simp [ec, toD, toDs, NL.firstT]⟩⟩
section
variable {α β γ : Type} [Ty α] [Ty β] [Ty γ] [DecidableEq α] [DecidableEq β] [DecidableEq γ]
/-- data is not too deep -/
class Lo (d : Nat) : Prop where
  lo : d ≤ 8
instance or_pr {a b d e : Nat} [Dt α a] [Dt β b] [Tc α a] [Tc β b] [x : Or α d] [y : Or β e] [ha : Lo a] [hb : Lo b] : Or (α × β) (max d e + 1) :=
  ⟨fun p q => lt2 x.lt y.lt p.1 q.1 p.2 q.2, od_two (Nat.le_trans ha.lo (by omega)) (Nat.le_trans hb.lo (by omega)) x.od y.od y.tot Prod.fst Prod.snd, tot_two x.tot y.tot Prod.fst Prod.snd fun _ _ => Prod.ext⟩
instance or_t3 {a b c d e f : Nat} [Dt α a] [Dt β b] [Dt γ c] [Tc α a] [Tc β b] [Tc γ c] [x : Or α d] [y : Or β e] [z : Or γ f] [ha : Lo a] [hb : Lo b] [hc : Lo c] : Or (T3 α β γ) (max d (max e f) + 1) :=
  ⟨fun p q => if p.a = q.a then lt2 y.lt z.lt p.b q.b p.c q.c else x.lt p.a q.a, od_three (Nat.le_trans ha.lo (by omega)) (Nat.le_trans hb.lo (by omega)) (Nat.le_trans hc.lo (by omega)) x.od y.od z.od z.tot T3.a T3.b T3.c, tot_three x.tot y.tot z.tot T3.a T3.b T3.c fun _ _ h k l => T3.ext_iff_.mpr ⟨h, k, l⟩⟩
instance : Lo 0 := ⟨by decide⟩
instance : Lo (max 0 0 + 1) := ⟨by decide⟩
instance : Lo 1 := ⟨by decide⟩
instance : Lo 2 := ⟨by decide⟩
instance : Lo (max 1 1 + 1) := ⟨by decide⟩
instance : Lo (max 1 (max 1 1) + 1) := ⟨by decide⟩
instance : Lo (max 0 (max 0 0) + 1) := ⟨by decide⟩
/-- sorted: the first part of a pair tells which way -/
theorem firstT_int {x : Int} {r : List D} : NL.firstT (.tup (.int x :: r)) = some true := by simp [NL.firstT]
instance {b e : Nat} [Dt β b] [Tc β b] [Or β e] [Lo b] : So (Int × β) (max 0 e + 1) := ⟨.inr ⟨true, fun x => by simp [ec, toD, toDs, NL.firstT]⟩⟩
instance {b e : Nat} [Dt β b] [Tc β b] [Or β e] [Lo b] : So (P × β) (max 1 e + 1) := ⟨.inr ⟨false, fun x => by simp [ec, toD, toDs, NL.firstT]⟩⟩
instance {b c e f : Nat} [Dt β b] [Dt γ c] [Tc β b] [Tc γ c] [Or β e] [Or γ f] [Lo b] [Lo c] : So (T3 Int β γ) (max 0 (max e f) + 1) := ⟨.inr ⟨true, fun x => by simp [ec, toD, toDs, NL.firstT]⟩⟩
instance {b c e f : Nat} [Dt β b] [Dt γ c] [Tc β b] [Tc γ c] [Or β e] [Or γ f] [Lo b] [Lo c] : So (T3 P β γ) (max 1 (max e f) + 1) := ⟨.inr ⟨false, fun x => by simp [ec, toD, toDs, NL.firstT]⟩⟩
end
example : So (T3 P P P) (max 1 (max 1 1) + 1) := inferInstance
example : So (P × P) (max 1 1 + 1) := inferInstance
example : So (T3 Int P P) (max 0 (max 1 1) + 1) := inferInstance
example : Or (Int × (P × P)) (max 0 (max 1 1 + 1) + 1) := inferInstance
end TL

/-! A typed answer stands for a tree: expressions. -/
namespace TL
open PySem PySem.Spec PyProof.Rows L2 NL GM VL
open Ty (ec)
/-- where the typed reading answers, the trees answer so -/
def Rf {α : Type} [Ty α] (r : VR U) (g : VR α) : Prop := match g with
  | .ok a => r = .ok (ec a)
  | .exc c u => r = .exc c u
  | .stuck => True
/-- .. the items -/
def Rl {α : Type} [Ty α] (r : VR (List U)) (g : VR (List α)) : Prop := match g with
  | .ok l => r = .ok (l.map ec)
  | .exc c u => r = .exc c u
  | .stuck => True
/-- .. a thing as it is -/
def Ri {α : Type} (r : VR α) (g : VR α) : Prop := match g with
  | .ok a => r = .ok a
  | .exc c u => r = .exc c u
  | .stuck => True
section
variable {α β γ δ ε ζ η : Type} [Ty α] [Ty β] [Ty γ] [Ty δ] [Ty ε] [Ty ζ] [Ty η]
theorem Rf.bi {r : VR U} {f : U → VR U} {g : VR α} {k : α → VR β} (h : Rf r g) (hk : ∀ a, Rf (f (ec a)) (k a)) : Rf (r.bind f) (g.bind k) := by
  cases g with
  | ok a => rw [show r = .ok (ec a) from h]; exact hk a
  | exc c u => rw [show r = .exc c u from h]; exact (rfl : (VR.exc c u : VR U) = .exc c u)
  | stuck => trivial
theorem Rf.bil {r : VR U} {f : U → VR (List U)} {g : VR α} {k : α → VR (List β)} (h : Rf r g) (hk : ∀ a, Rl (f (ec a)) (k a)) : Rl (r.bind f) (g.bind k) := by
  cases g with
  | ok a => rw [show r = .ok (ec a) from h]; exact hk a
  | exc c u => rw [show r = .exc c u from h]; exact (rfl : (VR.exc c u : VR (List U)) = .exc c u)
  | stuck => trivial
theorem Rl.bi {r : VR (List U)} {f : List U → VR U} {g : VR (List α)} {k : List α → VR β} (h : Rl r g) (hk : ∀ l, Rf (f (l.map ec)) (k l)) : Rf (r.bind f) (g.bind k) := by
  cases g with
  | ok a => rw [show r = .ok (a.map ec) from h]; exact hk a
  | exc c u => rw [show r = .exc c u from h]; exact (rfl : (VR.exc c u : VR U) = .exc c u)
  | stuck => trivial
theorem Rf.bii {r : VR U} {f : U → VR γ} {g : VR α} {k : α → VR γ} (h : Rf r g) (hk : ∀ a, Ri (f (ec a)) (k a)) : Ri (r.bind f) (g.bind k) := by
  cases g with
  | ok a => rw [show r = .ok (ec a) from h]; exact hk a
  | exc c u => rw [show r = .exc c u from h]; exact (rfl : (VR.exc c u : VR γ) = .exc c u)
  | stuck => trivial
theorem Rf.eq {r : VR U} {g : VR α} {a : α} (h : Rf r g) (e : g = .ok a) : r = .ok (ec a) := by subst e; exact h
theorem Rf.then {r : VR U} {g : VR α} {k : α → VR β} (h : Rf r g) (hk : ∀ a, Rf (.ok (ec a)) (k a)) : Rf r (g.bind k) := by
  cases g with
  | ok a => rw [show r = .ok (ec a) from h]; exact hk a
  | exc c u => rw [show r = .exc c u from h]; exact (rfl : (VR.exc c u : VR U) = .exc c u)
  | stuck => trivial
/-! ### what an operation answers -/
theorem rf_rfl {a : α} : Rf (.ok (ec a)) (.ok a) := (rfl : (VR.ok (ec a)) = .ok (ec a))
/-- a test that nothing unfolds -/
@[irreducible] noncomputable def sif {α : Type} (c : Prop) (a b : VR α) : VR α := @ite _ c (Classical.propDecidable c) a b
theorem sif_t {α : Type} {c : Prop} {a b : VR α} (h : c) : sif c a b = a := by unfold sif; rw [if_pos h]
theorem sif_f {α : Type} {c : Prop} {a b : VR α} (h : ¬c) : sif c a b = b := by unfold sif; rw [if_neg h]
theorem sif_p {α : Type} {c : Prop} {a b : VR α} {p : VR α → Prop} (h : c → p a) (k : ¬c → p b) : p (sif c a b) := by
  by_cases e : c
  · rw [sif_t e]; exact h e
  · rw [sif_f e]; exact k e
@[irreducible] noncomputable def mulM (x y : Int) : VR Int := @ite _ (MulOk x y) (Classical.propDecidable _) (.ok (x * y)) .stuck
@[irreducible] noncomputable def fdivM (x y : Int) : VR Int := @ite _ (y ≠ 0 ∧ y.natAbs.log2 < 9000) (Classical.propDecidable _)  (.ok (x.fdiv y)) .stuck
@[irreducible] noncomputable def modM (x y : Int) : VR Int := @ite _ (y ≠ 0) (Classical.propDecidable _)  (.ok (x.fmod y)) .stuck
@[irreducible] noncomputable def powM (x y : Int) : VR Int := @ite _ (0 ≤ y ∧ (Builtin.Int.intBits x : Int) * y ≤ 2 ^ 27) (Classical.propDecidable _)  (.ok (x ^ y.toNat)) .stuck
@[irreducible] noncomputable def catM (l m : List α) : VR (List α) := @ite _ (l.length + m.length ≤ sizeLine) (Classical.propDecidable _)  (.ok (l ++ m)) .stuck
@[irreducible] noncomputable def repM (l : List α) (n : Int) : VR (List α) := @ite _ (-(2 ^ 63) ≤ n ∧ n < 2 ^ 63 ∧ l.length * n.toNat ≤ sizeLine) (Classical.propDecidable _)  (.ok (List.replicate n.toNat l).flatten) .stuck
@[irreducible] def atM {α : Type} (l : List α) (i : Int) : VR α := match L2.atI l i with | some a => .ok a | none => .stuck
def getO {α : Type} : Option α → VR α | some a => .ok a | none => .stuck
def cutL {α : Type} (l : List α) (lo hi : Option Int) : List α := (l.drop (HT.sIx l.length 0 lo)).take (HT.sIx l.length l.length hi - HT.sIx l.length 0 lo)
theorem oAdd (x y : Int) : Rf (binU .add (ec x) (ec y)) (.ok (x + y)) := rfl
theorem oSub (x y : Int) : Rf (binU .sub (ec x) (ec y)) (.ok (x - y)) := rfl
theorem oMul (x y : Int) : Rf (binU .mul (ec x) (ec y)) (mulM x y) := by
  unfold mulM
  split
  · rename_i h
    show binU .mul (.int x) (.int y) = .ok (.int (x * y))
    simp only [binU, if_pos h]
  · trivial
theorem oFdiv (x y : Int) : Rf (binU .fdiv (ec x) (ec y)) (fdivM x y) := by
  unfold fdivM
  split
  · rename_i h
    show binU .fdiv (.int x) (.int y) = .ok (.int (x.fdiv y))
    simp only [binU, if_pos h]
  · trivial
theorem oMod (x y : Int) : Rf (binU .mod (ec x) (ec y)) (modM x y) := by
  unfold modM
  split
  · rename_i h
    show binU .mod (.int x) (.int y) = .ok (.int (x.fmod y))
    simp only [binU, if_pos h]
  · trivial
theorem oPow (x y : Int) : Rf (binU .pow (ec x) (ec y)) (powM x y) := by
  unfold powM
  split
  · rename_i h
    show binU .pow (.int x) (.int y) = .ok (.int (x ^ y.toNat))
    simp only [binU, if_pos h]
  · trivial
theorem oCat (l m : List α) : Rf (binU .add (ec l) (ec m)) (catM l m) := by
  unfold catM
  split
  · rename_i h
    show binU .add (.lst (l.map ec)) (.lst (m.map ec)) = .ok (.lst ((l ++ m).map ec))
    simp only [binU, List.length_map, if_pos h, List.map_append]
  · trivial
theorem oRep (l : List α) (n : Int) : Rf (binU .mul (ec l) (ec n)) (repM l n) := by
  unfold repM
  split
  · rename_i h
    show binU .mul (.lst (l.map ec)) (.int n) = .ok (.lst ((List.replicate n.toNat l).flatten.map ec))
    simp only [binU, List.length_map, if_pos h]
    congr 2
    generalize n.toNat = k
    induction k with
    | zero => rfl
    | succ k ih => rw [List.replicate_succ, List.replicate_succ, List.flatten_cons, List.flatten_cons, List.map_append, ih]
  · trivial
theorem atI_map {α β : Type} {f : α → β} {l : List α} {i : Int} : L2.atI (l.map f) i = (L2.atI l i).map f := by
  unfold L2.atI
  rw [List.length_map]
  cases L2.ixN l.length i with
  | none => rfl
  | some j => show (l.map f)[j]? = (l[j]?).map f; rw [List.getElem?_map]
theorem atM_rf {l : List α} {i : Int} {r : VR U} (h : ∀ u, L2.atI (l.map ec) i = some u → r = .ok u) : Rf r (atM l i) := by
  unfold atM
  cases e : L2.atI l i with
  | none => trivial
  | some a => exact h (ec a) (by rw [atI_map, e]; rfl)
theorem oAt (l : List α) (i : Int) : Rf (ixU (ec l) (ec i)) (atM l i) := atM_rf fun u h => by
  show ixU (.lst (l.map ec)) (.int i) = .ok u
  simp only [ixU, sqU, h]
theorem oAtS (l : Scr) (i : Int) : Rf (ixU (ec l) (ec i)) (atM l.ns i) := atM_rf fun u h => by
  show ixU (.frz (l.ns.map U.int)) (.int i) = .ok u
  have h : L2.atI (l.ns.map U.int) i = some u := h
  simp only [ixU, sqU, h]
theorem oAtT (l : List α) (i : Int) : Rf (ixU (.tup (l.map ec)) (ec i)) (atM l i) := atM_rf fun u h => by
  show ixU (.tup (l.map ec)) (.int i) = .ok u
  simp only [ixU, h]
theorem oAtP (p : P) (i : Int) : Rf (ixU (ec p) (ec i)) (atM [p.x, p.y] i) := oAtT (α := Int) [p.x, p.y] i
theorem oAtF {m : Nat} (p : Fr m) (i : Int) : Rf (ixU (ec p) (ec i)) (atM [p.n, p.d] i) := oAtT (α := Int) [p.n, p.d] i
theorem oAt2 (p : α × α) (i : Int) : Rf (ixU (ec p) (ec i)) (atM [p.1, p.2] i) := oAtT [p.1, p.2] i
theorem oAt3 (p : T3 α α α) (i : Int) : Rf (ixU (ec p) (ec i)) (atM [p.a, p.b, p.c] i) := oAtT [p.a, p.b, p.c] i
/-! comparisons -/
theorem oLt (x y : Int) : Rf (cmpU .lt (ec x) (ec y)) (.ok (decide (x < y))) := rfl
theorem oLe (x y : Int) : Rf (cmpU .le (ec x) (ec y)) (.ok (decide (x ≤ y))) := rfl
theorem oGt (x y : Int) : Rf (cmpU .gt (ec x) (ec y)) (.ok (decide (y < x))) := rfl
theorem oGe (x y : Int) : Rf (cmpU .ge (ec x) (ec y)) (.ok (decide (y ≤ x))) := rfl
end
section
variable {α : Type} [Ty α] [DecidableEq α] {d e : Nat}
theorem oEq [Dt α d] (h : d ≤ 12 := by decide) (x y : α) : Rf (cmpU .eq (ec x) (ec y)) (.ok (decide (x = y))) := by
  show ofU (VL.eqU (ec x) (ec y)) = .ok (.bl _)
  rw [eq_dt h]; rfl
theorem oNe [Dt α d] (h : d ≤ 12 := by decide) (x y : α) : Rf (cmpU .ne (ec x) (ec y)) (.ok (!decide (x = y))) := by
  show ofU ((VL.eqU (ec x) (ec y)).map (!·)) = .ok (.bl _)
  rw [eq_dt h]; rfl
theorem oIn [Dt α d] (h : d ≤ 12 := by decide) (x : α) (l : List α) : Rf (cmpU .isIn (ec x) (ec l)) (.ok (decide (x ∈ l))) := by
  show ofU (inU (ec x) (ec l)) = .ok (.bl _)
  rw [in_dt h]; rfl
theorem oNi [Dt α d] (h : d ≤ 12 := by decide) (x : α) (l : List α) : Rf (cmpU .notIn (ec x) (ec l)) (.ok (!decide (x ∈ l))) := by
  show ofU ((inU (ec x) (ec l)).map (!·)) = .ok (.bl _)
  rw [in_dt h]; rfl
theorem oIn2 [Dt α d] (h : d ≤ 12 := by decide) (x : α) (l : α × α) : Rf (cmpU .isIn (ec x) (ec l)) (.ok (decide (x ∈ [l.1, l.2]))) := by
  show ofU (inU (ec x) (.tup ([l.1, l.2].map ec))) = .ok (.bl _)
  rw [in_dtT h]; rfl
theorem oNi2 [Dt α d] (h : d ≤ 12 := by decide) (x : α) (l : α × α) : Rf (cmpU .notIn (ec x) (ec l)) (.ok (!decide (x ∈ [l.1, l.2]))) := by
  show ofU ((inU (ec x) (.tup ([l.1, l.2].map ec))).map (!·)) = .ok (.bl _)
  rw [in_dtT h]; rfl
theorem oIn3 [Dt α d] (h : d ≤ 12 := by decide) (x : α) (l : T3 α α α) : Rf (cmpU .isIn (ec x) (ec l)) (.ok (decide (x ∈ [l.a, l.b, l.c]))) := by
  show ofU (inU (ec x) (.tup ([l.a, l.b, l.c].map ec))) = .ok (.bl _)
  rw [in_dtT h]; rfl
theorem oNi3 [Dt α d] (h : d ≤ 12 := by decide) (x : α) (l : T3 α α α) : Rf (cmpU .notIn (ec x) (ec l)) (.ok (!decide (x ∈ [l.a, l.b, l.c]))) := by
  show ofU ((inU (ec x) (.tup ([l.a, l.b, l.c].map ec))).map (!·)) = .ok (.bl _)
  rw [in_dtT h]; rfl
/-- the order of a type -/
def lt [o : Or α d] : α → α → Bool := o.lt
theorem oOrd [o : Or α d] (h : d ≤ 12) {c : Cop} (hc : Cop4 c) (x y : α) : Rf (cmpU c (ec x) (ec y)) (.ok (ov o.lt c x y)) := by
  have e := o.od.od c hc 12 x y h
  rcases hc with rfl | rfl | rfl | rfl
  all_goals
    show ofU (ordU _ 12 (ec x) (ec y)) = .ok (.bl _)
    rw [e]; rfl
theorem oLtT [o : Or α d] (h : d ≤ 12 := by decide) (x y : α) : Rf (cmpU .lt (ec x) (ec y)) (.ok (lt x y)) := oOrd h (.inl rfl) x y
theorem oGtT [o : Or α d] (h : d ≤ 12 := by decide) (x y : α) : Rf (cmpU .gt (ec x) (ec y)) (.ok (lt y x)) := oOrd h (.inr (.inl rfl)) x y
theorem oLeT [o : Or α d] (h : d ≤ 12 := by decide) (x y : α) : Rf (cmpU .le (ec x) (ec y)) (.ok (!lt y x)) := oOrd h (.inr (.inr (.inl rfl))) x y
theorem oGeT [o : Or α d] (h : d ≤ 12 := by decide) (x y : α) : Rf (cmpU .ge (ec x) (ec y)) (.ok (!lt x y)) := oOrd h (.inr (.inr (.inr rfl))) x y
end
section
variable {α : Type} [Ty α]
theorem oIsN [NoN α] (x : Option α) (y : Unit) : Rf (cmpU .is_ (ec x) (ec y)) (.ok x.isNone) := by
  cases x with
  | none => rfl
  | some a =>
    show ofU (isU (ec a) .non) = .ok (.bl false)
    rw [NoN.nn]; rfl
theorem oIsNn [NoN α] (x : Option α) (y : Unit) : Rf (cmpU .isNot (ec x) (ec y)) (.ok x.isSome) := by
  cases x with
  | none => rfl
  | some a =>
    show ofU ((isU (ec a) .non).map (!·)) = .ok (.bl true)
    rw [NoN.nn]; rfl
theorem oIsNv [NoN α] (x : α) (y : Unit) : Rf (cmpU .is_ (ec x) (ec y)) (.ok false) := by
  show ofU (isU (ec x) .non) = .ok (.bl false)
  rw [NoN.nn]; rfl
theorem oIsNnv [NoN α] (x : α) (y : Unit) : Rf (cmpU .isNot (ec x) (ec y)) (.ok true) := by
  show ofU ((isU (ec x) .non).map (!·)) = .ok (.bl true)
  rw [NoN.nn]; rfl
theorem oIsBI (x : Int) (b : Bool) : Rf (cmpU .is_ (ec x) (ec b)) (.ok false) := rfl
theorem oIsnBI (x : Int) (b : Bool) : Rf (cmpU .isNot (ec x) (ec b)) (.ok true) := rfl
theorem oIsBB (x : Bool) (b : Bool) : Rf (cmpU .is_ (ec x) (ec b)) (.ok (x == b)) := by cases x <;> cases b <;> rfl
theorem oIsnBB (x : Bool) (b : Bool) : Rf (cmpU .isNot (ec x) (ec b)) (.ok (!(x == b))) := by cases x <;> cases b <;> rfl
end
end TL

/-! A typed answer stands for a tree: expressions, one construct at a time. -/
namespace TL
open PySem PySem.Spec PyProof.Rows L2 NL GM VL
open Ty (ec)
section
variable {C : Nat → List U → VR U} {en : VEnv}
abbrev Ev {α : Type} [Ty α] (C : Nat → List U → VR U) (e : E) (en : VEnv) (g : VR α) : Prop := Rf (evV C e en) g
section
variable {α β γ δ : Type} [Ty α] [Ty β] [Ty γ] [Ty δ]
theorem ev_var {i : Nat} {a : α} (h : getV en i = .ok (ec a)) : Ev C (.var i) en (.ok a) := by
  unfold Ev; rw [evV, h]; exact rf_rfl
theorem ev_int {i : Int} : Ev (α := Int) C (.con (.int i)) en (.ok i) := by unfold Ev; rw [evV]; exact rf_rfl
theorem ev_bool {b : Bool} : Ev (α := Bool) C (.con (.bl b)) en (.ok b) := by unfold Ev; rw [evV]; exact rf_rfl
theorem ev_str {x : Str} : Ev (α := Str) C (.con (.str x)) en (.ok x) := by unfold Ev; rw [evV]; exact rf_rfl
theorem ev_unit : Ev (α := Unit) C (.con .non) en (.ok ()) := by unfold Ev; rw [evV]; exact rf_rfl
theorem ev_none : Ev (α := Option α) C (.con .non) en (.ok none) := by unfold Ev; rw [evV]; exact rf_rfl (α := Option α) (a := none)
/-! a reading told otherwise -/
theorem ev_some {e : E} {g : VR α} (h : Ev C e en g) : Ev C e en (g.bind fun a => .ok (some a)) := h.then fun _ => rfl
theorem ev_get {e : E} {g : VR (Option α)} (h : Ev C e en g) : Ev C e en (g.bind getO) := h.then fun o => by cases o with | none => trivial | some a => exact rf_rfl
theorem ev_u {e : E} {g : VR α} (h : Ev C e en g) : Ev C e en (g.bind fun a => .ok (ec a)) := h.then fun _ => rfl
theorem ev_then {e : E} {g : VR α} {k : α → VR β} (h : Ev C e en g) (hk : ∀ a, Rf (.ok (ec a)) (k a)) : Ev C e en (g.bind k) := Rf.then h hk
/-! operators -/
theorem ev_bin {o : Bop} {a b : E} {ga : VR α} {gb : VR β} {op : α → β → VR γ} (ho : ∀ x y, Rf (binU o (ec x) (ec y)) (op x y)) (ha : Ev C a en ga) (hb : Ev C b en gb) : Ev C (.bin o a b) en (ga.bind fun x => gb.bind fun y => op x y) := by
  unfold Ev; rw [evV]; exact Rf.bi ha fun x => Rf.bi hb fun y => ho x y
theorem ev_cmp {o : Cop} {a b : E} {ga : VR α} {gb : VR β} {op : α → β → VR γ} (ho : ∀ x y, Rf (cmpU o (ec x) (ec y)) (op x y)) (ha : Ev C a en ga) (hb : Ev C b en gb) : Ev C (.cmp o a b) en (ga.bind fun x => gb.bind fun y => op x y) := by
  unfold Ev; rw [evV]; exact Rf.bi ha fun x => Rf.bi hb fun y => ho x y
theorem ev_neg {a : E} {ga : VR Int} (ha : Ev C a en ga) : Ev C (.neg a) en (ga.bind fun x => .ok (-x)) := by
  unfold Ev; rw [evV]; exact Rf.bi ha fun x => rfl
theorem tru_ec {b : Bool} : truU (ec b) = .ok b := rfl
theorem ev_not {a : E} {ga : VR Bool} (ha : Ev C a en ga) : Ev C (.not a) en (ga.bind fun x => .ok (!x)) := by
  unfold Ev; rw [evV]; exact Rf.bi ha fun x => rfl
theorem ev_and {a b : E} {ga gb : VR Bool} (ha : Ev C a en ga) (hb : Ev C b en gb) : Ev C (.and a b) en (ga.bind fun t => if t = true then gb else .ok false) := by
  unfold Ev; rw [evV]; exact Rf.bi ha fun t => by cases t; exact rfl; exact hb
theorem ev_or {a b : E} {ga gb : VR Bool} (ha : Ev C a en ga) (hb : Ev C b en gb) : Ev C (.or a b) en (ga.bind fun t => if t = true then .ok true else gb) := by
  unfold Ev; rw [evV]; exact Rf.bi ha fun t => by cases t; exact hb; exact rfl
theorem ev_andP {a b : E} {x y : Bool} (ha : Ev C a en (.ok x)) (hb : Ev C b en (.ok y)) : Ev C (.and a b) en (.ok (x && y)) := by
  have z := ev_and ha hb; cases x <;> exact z
theorem ev_orP {a b : E} {x y : Bool} (ha : Ev C a en (.ok x)) (hb : Ev C b en (.ok y)) : Ev C (.or a b) en (.ok (x || y)) := by
  have z := ev_or ha hb; cases x <;> exact z
theorem ev_ite {c a b : E} {gc : VR Bool} {ga gb : VR α} (hc : Ev C c en gc) (ha : Ev C a en ga) (hb : Ev C b en gb) : Ev C (.ite c a b) en (gc.bind fun t => if t = true then ga else gb) := by
  unfold Ev; rw [evV]; exact Rf.bi hc fun t => by cases t; exact hb; exact ha
theorem ev_iteP {c a b : E} {t : Bool} {x y : α} (hc : Ev C c en (.ok t)) (ha : Ev C a en (.ok x)) (hb : Ev C b en (.ok y)) : Ev C (.ite c a b) en (.ok (if t = true then x else y)) := by
  have z := ev_ite hc ha hb; cases t <;> exact z
theorem ev_chn {o o' : Cop} {a b c : E} {ga : VR α} {gb : VR β} {gc : VR γ} {op : α → β → VR Bool} {op' : β → γ → VR Bool} (ho : ∀ x y, Rf (cmpU o (ec x) (ec y)) (op x y)) (ho' : ∀ x y, Rf (cmpU o' (ec x) (ec y)) (op' x y)) (ha : Ev C a en ga) (hb : Ev C b en gb) (hc : Ev C c en gc) :
    Ev C (.chn o o' a b c) en (ga.bind fun x => gb.bind fun y => (op x y).bind fun t => if t = true then gc.bind fun z => op' y z else .ok false) := by
  unfold Ev; rw [evV]; exact Rf.bi ha fun x => Rf.bi hb fun y => Rf.bi (ho x y) fun t => by cases t; exact rfl; exact Rf.bi hc fun z => ho' y z
theorem ev_chnP {o o' : Cop} {a b c : E} {x : α} {y : β} {z : γ} {op : α → β → Bool} {op' : β → γ → Bool} (ho : ∀ x y, Rf (cmpU o (ec x) (ec y)) (.ok (op x y))) (ho' : ∀ x y, Rf (cmpU o' (ec x) (ec y)) (.ok (op' x y))) (ha : Ev C a en (.ok x)) (hb : Ev C b en (.ok y)) (hc : Ev C c en (.ok z)) :
    Ev C (.chn o o' a b c) en (.ok (op x y && op' y z)) := by
  have k := ev_chn ho ho' ha hb hc
  have k : Ev C (.chn o o' a b c) en (if op x y = true then .ok (op' y z) else .ok false) := k
  cases h : op x y with
  | false => rw [h, if_neg Bool.false_ne_true] at k; exact k
  | true => rw [h, if_pos rfl] at k; exact k
/-! items -/
abbrev Evl (C : Nat → List U → VR U) (es : Es) (en : VEnv) (g : VR (List α)) : Prop := Rl (evVs C es en) g
theorem evl_nil : Evl C .nil en (.ok ([] : List α)) := by unfold Evl; rw [evVs]; exact (rfl : (VR.ok []) = .ok _)
theorem Rl.bil {r : VR (List U)} {f : List U → VR (List U)} {g : VR (List α)} {k : List α → VR (List β)} (h : Rl r g) (hk : ∀ l, Rl (f (l.map ec)) (k l)) : Rl (r.bind f) (g.bind k) := by
  cases g with
  | ok a => rw [show r = .ok (a.map ec) from h]; exact hk a
  | exc c u => rw [show r = .exc c u from h]; exact (rfl : (VR.exc c u : VR (List U)) = .exc c u)
  | stuck => trivial
theorem evl_cons {e : E} {es : Es} {g : VR α} {gs : VR (List α)} (h : Ev C e en g) (hs : Evl C es en gs) : Evl C (.cons e es) en (g.bind fun a => gs.bind fun l => .ok (a :: l)) := by
  unfold Evl; rw [evVs]; exact Rf.bil h fun a => Rl.bil hs fun l => (rfl : VR.ok _ = .ok _)
theorem evVs_len : ∀ (es : Es) (us : List U), evVs C es en = .ok us → us.length = es.len
  | .nil, us, h => by rw [evVs] at h; cases h; rfl
  | .cons e es, us, h => by
    rw [evVs] at h
    obtain ⟨a, _, h2⟩ := VR.bind_ok h
    obtain ⟨l, h3, h4⟩ := VR.bind_ok h2
    cases h4
    show l.length + 1 = es.len + 1
    rw [evVs_len es l h3]
theorem ev_lst {es : Es} {g : VR (List α)} (h : Evl C es en g) (hn : es.len ≤ 1000 := by decide) : Ev C (.lst es) en g := by
  have h : Rl (evVs C es en) g := h
  unfold Ev; rw [evV]
  cases e : evVs C es en with
  | ok us =>
    have hl := evVs_len es us e
    show Rf (if us.length ≤ sizeLine then .ok (.lst us) else .stuck) g
    rw [if_pos (by rw [hl]; exact Nat.le_of_lt (small1000 hn))]
    cases g with
    | ok l => rw [e] at h; cases (show VR.ok us = .ok (l.map ec) from h); exact rfl
    | exc c u => rw [e] at h; cases (show VR.ok us = .exc c u from h)
    | stuck => trivial
  | exc c u =>
    cases g with
    | ok l => rw [e] at h; cases (show VR.exc c u = .ok (l.map ec) from h)
    | exc c u => rw [e] at h; cases (show VR.exc _ _ = VR.exc _ _ from h); exact rfl
    | stuck => trivial
  | stuck =>
    cases g with
    | ok l => rw [e] at h; cases (show VR.stuck = .ok (l.map ec) from h)
    | exc c u => rw [e] at h; cases (show VR.stuck = .exc c u from h)
    | stuck => trivial
theorem sz2 {a b : U} {k : VR U} : (if [a, b].length ≤ sizeLine then k else .stuck) = k := if_pos (Nat.le_of_lt (small1000 (by simp)))
theorem sz3 {a b c : U} {k : VR U} : (if [a, b, c].length ≤ sizeLine then k else .stuck) = k := if_pos (Nat.le_of_lt (small1000 (by simp)))
theorem sz4 {a b c d : U} {k : VR U} : (if [a, b, c, d].length ≤ sizeLine then k else .stuck) = k := if_pos (Nat.le_of_lt (small1000 (by simp)))
theorem ev_tup2 {a b : E} {ga : VR α} {gb : VR β} (ha : Ev C a en ga) (hb : Ev C b en gb) : Ev C (.tup (.cons a (.cons b .nil))) en (ga.bind fun x => gb.bind fun y => .ok (x, y)) := by
  unfold Ev; rw [evV, evVs, evVs, evVs]; simp only [VL.bind_as, ok_bi, sz2]; exact Rf.bi ha fun x => Rf.bi hb fun y => rfl
theorem ev_tup3 {a b c : E} {ga : VR α} {gb : VR β} {gc : VR γ} (ha : Ev C a en ga) (hb : Ev C b en gb) (hc : Ev C c en gc) : Ev C (.tup (.cons a (.cons b (.cons c .nil)))) en (ga.bind fun x => gb.bind fun y => gc.bind fun z => .ok (T3.mk x y z)) := by
  unfold Ev; rw [evV, evVs, evVs, evVs, evVs]; simp only [VL.bind_as, ok_bi, sz3]; exact Rf.bi ha fun x => Rf.bi hb fun y => Rf.bi hc fun z => rfl
theorem ev_tup4 {a b c d : E} {ga : VR α} {gb : VR β} {gc : VR γ} {gd : VR δ} (ha : Ev C a en ga) (hb : Ev C b en gb) (hc : Ev C c en gc) (hd : Ev C d en gd) : Ev C (.tup (.cons a (.cons b (.cons c (.cons d .nil))))) en (ga.bind fun x => gb.bind fun y => gc.bind fun z => gd.bind fun w => .ok (T4.mk x y z w)) := by
  unfold Ev; rw [evV, evVs, evVs, evVs, evVs, evVs]; simp only [VL.bind_as, ok_bi, sz4]; exact Rf.bi ha fun x => Rf.bi hb fun y => Rf.bi hc fun z => Rf.bi hd fun w => rfl
/-! places -/
theorem ev_idx {a b : E} {ga : VR α} {gb : VR β} {op : α → β → VR γ} (ho : ∀ x y, Rf (ixU (ec x) (ec y)) (op x y)) (ha : Ev C a en ga) (hb : Ev C b en gb) : Ev C (.idx a b) en (ga.bind fun x => gb.bind fun y => op x y) := by
  unfold Ev; rw [evV]; exact Rf.bi ha fun x => Rf.bi hb fun y => ho x y
theorem ev_ixc {a : E} {i : Int} {ga : VR α} {k : α → β} (ho : ∀ x, ixU (ec x) (.int i) = .ok (ec (k x))) (ha : Ev C a en ga) : Ev C (.idx a (.con (.int i))) en (ga.bind fun x => .ok (k x)) := by
  unfold Ev; rw [evV]; exact Rf.bi ha fun x => by rw [evV]; exact ho x
theorem ixU_0 {a : U} {r : List U} : ixU (.tup (a :: r)) (.int 0) = .ok a := by simp only [ixU, at_0]
theorem ixU_1 {a b : U} {r : List U} : ixU (.tup (a :: b :: r)) (.int 1) = .ok b := by simp only [ixU, at_1]
theorem ixU_2 {a b c : U} {r : List U} : ixU (.tup (a :: b :: c :: r)) (.int 2) = .ok c := by simp only [ixU, at_2]
theorem ixU_3 {a b c d : U} {r : List U} : ixU (.tup (a :: b :: c :: d :: r)) (.int 3) = .ok d := by simp only [ixU, at_3]
theorem ev_px {a : E} {ga : VR P} (ha : Ev C a en ga) : Ev C (.idx a (.con (.int 0))) en (ga.bind fun x => .ok x.x) := ev_ixc (fun _ => ixU_0) ha
theorem ev_py {a : E} {ga : VR P} (ha : Ev C a en ga) : Ev C (.idx a (.con (.int 1))) en (ga.bind fun x => .ok x.y) := ev_ixc (fun _ => ixU_1) ha
theorem ev_fn {m : Nat} {a : E} {ga : VR (Fr m)} (ha : Ev C a en ga) : Ev C (.idx a (.con (.int 0))) en (ga.bind fun x => .ok x.n) := ev_ixc (fun _ => ixU_0) ha
theorem ev_fd {m : Nat} {a : E} {ga : VR (Fr m)} (ha : Ev C a en ga) : Ev C (.idx a (.con (.int 1))) en (ga.bind fun x => .ok x.d) := ev_ixc (fun _ => ixU_1) ha
theorem ev_fst {a : E} {ga : VR (α × β)} (ha : Ev C a en ga) : Ev C (.idx a (.con (.int 0))) en (ga.bind fun x => .ok x.1) := ev_ixc (fun _ => ixU_0) ha
theorem ev_snd {a : E} {ga : VR (α × β)} (ha : Ev C a en ga) : Ev C (.idx a (.con (.int 1))) en (ga.bind fun x => .ok x.2) := ev_ixc (fun _ => ixU_1) ha
theorem ev_t3a {a : E} {ga : VR (T3 α β γ)} (ha : Ev C a en ga) : Ev C (.idx a (.con (.int 0))) en (ga.bind fun x => .ok x.a) := ev_ixc (fun _ => ixU_0) ha
theorem ev_t3b {a : E} {ga : VR (T3 α β γ)} (ha : Ev C a en ga) : Ev C (.idx a (.con (.int 1))) en (ga.bind fun x => .ok x.b) := ev_ixc (fun _ => ixU_1) ha
theorem ev_t3c {a : E} {ga : VR (T3 α β γ)} (ha : Ev C a en ga) : Ev C (.idx a (.con (.int 2))) en (ga.bind fun x => .ok x.c) := ev_ixc (fun _ => ixU_2) ha
theorem ev_t4a {a : E} {ga : VR (T4 α β γ δ)} (ha : Ev C a en ga) : Ev C (.idx a (.con (.int 0))) en (ga.bind fun x => .ok x.a) := ev_ixc (fun _ => ixU_0) ha
theorem ev_t4b {a : E} {ga : VR (T4 α β γ δ)} (ha : Ev C a en ga) : Ev C (.idx a (.con (.int 1))) en (ga.bind fun x => .ok x.b) := ev_ixc (fun _ => ixU_1) ha
theorem ev_t4c {a : E} {ga : VR (T4 α β γ δ)} (ha : Ev C a en ga) : Ev C (.idx a (.con (.int 2))) en (ga.bind fun x => .ok x.c) := ev_ixc (fun _ => ixU_2) ha
theorem ev_t4d {a : E} {ga : VR (T4 α β γ δ)} (ha : Ev C a en ga) : Ev C (.idx a (.con (.int 3))) en (ga.bind fun x => .ok x.d) := ev_ixc (fun _ => ixU_3) ha
/-! slices -/
theorem cut_map {l : List α} {lo hi : Option Int} : cutU (l.map ec) lo hi = (cutL l lo hi).map ec := by
  unfold cutU cutL; rw [List.length_map, List.map_take, List.map_drop]
theorem ev_s00 {a : E} {ga : VR (List α)} {lo hi : E} (ha : Ev C a en ga) (hl : Ev C lo en (.ok () : VR Unit)) (hh : Ev C hi en (.ok () : VR Unit)) : Ev C (.slc false false a lo hi) en (ga.bind fun l => .ok (cutL l none none)) := by
  unfold Ev; rw [evV]; exact Rf.bi ha fun x => by
    rw [show evV C lo en = .ok _ from hl, show evV C hi en = .ok _ from hh]; show VR.ok (U.lst (cutU (x.map ec) none none)) = _; rw [cut_map]; rfl
theorem ev_s10 {a : E} {ga : VR (List α)} {lo hi : E} {gl : VR Int} (ha : Ev C a en ga) (hl : Ev C lo en gl) (hh : Ev C hi en (.ok () : VR Unit)) : Ev C (.slc true false a lo hi) en (ga.bind fun l => gl.bind fun i => .ok (cutL l (some i) none)) := by
  unfold Ev; rw [evV]; exact Rf.bi ha fun x => Rf.bi hl fun i => by
    rw [show evV C hi en = .ok _ from hh]; show VR.ok (U.lst (cutU (x.map ec) (some i) none)) = _; rw [cut_map]; rfl
theorem ev_s01 {a : E} {ga : VR (List α)} {lo hi : E} {gh : VR Int} (ha : Ev C a en ga) (hl : Ev C lo en (.ok () : VR Unit)) (hh : Ev C hi en gh) : Ev C (.slc false true a lo hi) en (ga.bind fun l => gh.bind fun i => .ok (cutL l none (some i))) := by
  unfold Ev; rw [evV]; exact Rf.bi ha fun x => by
    rw [show evV C lo en = .ok _ from hl]
    show Rf ((evV C hi en).bind fun z => (bndU true z).bind fun z' => slcU (ec x) none z') _
    exact Rf.bi hh fun i => by show VR.ok (U.lst (cutU (x.map ec) none (some i))) = _; rw [cut_map]; rfl
theorem ev_s11 {a : E} {ga : VR (List α)} {lo hi : E} {gl gh : VR Int} (ha : Ev C a en ga) (hl : Ev C lo en gl) (hh : Ev C hi en gh) : Ev C (.slc true true a lo hi) en (ga.bind fun l => gl.bind fun i => gh.bind fun j => .ok (cutL l (some i) (some j))) := by
  unfold Ev; rw [evV]; exact Rf.bi ha fun x => Rf.bi hl fun i => Rf.bi hh fun j => by show VR.ok (U.lst (cutU (x.map ec) (some i) (some j))) = _; rw [cut_map]; rfl
theorem ev_scr {e : E} {ga : VR Scr} {k : VR β} (h : Ev C e en k) : Ev C e en k := h
theorem ev_s11S {a : E} {ga : VR Scr} {lo hi : E} {gl gh : VR Int} (ha : Ev C a en ga) (hl : Ev C lo en gl) (hh : Ev C hi en gh) : Ev C (.slc true true a lo hi) en (ga.bind fun l => gl.bind fun i => gh.bind fun j => .ok (cutL l.ns (some i) (some j))) := by
  unfold Ev; rw [evV]; exact Rf.bi ha fun x => Rf.bi hl fun i => Rf.bi hh fun j => by show VR.ok (U.lst (cutU (x.ns.map ec) (some i) (some j))) = _; rw [cut_map]; rfl
theorem ev_s10S {a : E} {ga : VR Scr} {lo hi : E} {gl : VR Int} (ha : Ev C a en ga) (hl : Ev C lo en gl) (hh : Ev C hi en (.ok () : VR Unit)) : Ev C (.slc true false a lo hi) en (ga.bind fun l => gl.bind fun i => .ok (cutL l.ns (some i) none)) := by
  unfold Ev; rw [evV]; exact Rf.bi ha fun x => Rf.bi hl fun i => by
    rw [show evV C hi en = .ok _ from hh]; show VR.ok (U.lst (cutU (x.ns.map ec) (some i) none)) = _; rw [cut_map]; rfl
/-! built-in calls -/
theorem ev_b1 {t : Blt} {a : E} {ga : VR α} {op : α → VR β} (ho : ∀ x, Rf (bltU t [ec x]) (op x)) (ha : Ev C a en ga) : Ev C (.blt t (.cons a .nil)) en (ga.bind fun x => op x) := by
  unfold Ev; rw [evV, evVs, evVs]; simp only [VL.bind_as, ok_bi]; exact Rf.bi ha fun x => ho x
theorem ev_b2 {t : Blt} {a b : E} {ga : VR α} {gb : VR β} {op : α → β → VR γ} (ho : ∀ x y, Rf (bltU t [ec x, ec y]) (op x y)) (ha : Ev C a en ga) (hb : Ev C b en gb) : Ev C (.blt t (.cons a (.cons b .nil))) en (ga.bind fun x => gb.bind fun y => op x y) := by
  unfold Ev; rw [evV, evVs, evVs, evVs]; simp only [VL.bind_as, ok_bi]; exact Rf.bi ha fun x => Rf.bi hb fun y => ho x y
theorem ev_b3 {t : Blt} {a b c : E} {ga : VR α} {gb : VR β} {gc : VR γ} {op : α → β → γ → VR δ} (ho : ∀ x y z, Rf (bltU t [ec x, ec y, ec z]) (op x y z)) (ha : Ev C a en ga) (hb : Ev C b en gb) (hc : Ev C c en gc) : Ev C (.blt t (.cons a (.cons b (.cons c .nil)))) en (ga.bind fun x => gb.bind fun y => gc.bind fun z => op x y z) := by
  unfold Ev; rw [evV, evVs, evVs, evVs, evVs]; simp only [VL.bind_as, ok_bi]; exact Rf.bi ha fun x => Rf.bi hb fun y => Rf.bi hc fun z => ho x y z
theorem ev_rev {a : E} {ga : VR (List α)} (ha : Ev C a en ga) : Ev C (.rev a) en (ga.bind fun l => .ok l.reverse) := by
  unfold Ev; rw [evV]; exact Rf.bi ha fun l => by
    show VR.ok (U.lst (l.map ec).reverse) = .ok (.lst (l.reverse.map ec))
    rw [List.map_reverse]
theorem ev_isi {T : NL.Ty} {a : E} {ga : VR α} {k : α → Bool} (ho : ∀ x : α, isiU T (ec x) = .ok (.bl (k x))) (ha : Ev C a en ga) : Ev C (.isi a T) en (ga.bind fun x => .ok (k x)) := by
  unfold Ev; rw [evV]; exact Rf.bi ha fun x => ho x
theorem bAbs (x : Int) : Rf (bltU .abs [ec x]) (.ok (if x < 0 then -x else x)) := rfl
theorem bInt (x : Int) : Rf (bltU .int [ec x]) (.ok x) := rfl
theorem bIntB (x : Bool) : Rf (bltU .int [ec x]) (.ok (if x = true then (1 : Int) else 0)) := rfl
theorem bLen (l : List α) : Rf (bltU .len [ec l]) (.ok (l.length : Int)) := by
  show VR.ok (U.int ((l.map ec).length : Int)) = .ok (.int (l.length : Int))
  rw [List.length_map]
theorem bLenS (l : Scr) : Rf (bltU .len [ec l]) (.ok (l.ns.length : Int)) := by
  show VR.ok (U.int ((l.ns.map U.int).length : Int)) = .ok (.int (l.ns.length : Int))
  rw [List.length_map]
theorem bLen2 (l : α × β) : Rf (bltU .len [ec l]) (.ok (2 : Int)) := rfl
theorem bLen3 (l : T3 α β γ) : Rf (bltU .len [ec l]) (.ok (3 : Int)) := rfl
theorem bLenP (l : P) : Rf (bltU .len [ec l]) (.ok (2 : Int)) := rfl
theorem bLenF {m : Nat} (l : Fr m) : Rf (bltU .len [ec l]) (.ok (2 : Int)) := rfl
theorem bList (l : List α) : Rf (bltU .list [ec l]) (.ok l) := rfl
theorem bListS (l : Scr) : Rf (bltU .list [ec l]) (.ok l.ns) := rfl
theorem bList2 (l : α × α) : Rf (bltU .list [ec l]) (.ok [l.1, l.2]) := rfl
theorem bList3 (l : T3 α α α) : Rf (bltU .list [ec l]) (.ok [l.a, l.b, l.c]) := rfl
theorem ints_map : ∀ l : List Int, intsU (l.map U.int) = some l
  | [] => rfl
  | x :: l => by
    show (intsU (l.map U.int)).map (x :: ·) = _
    rw [ints_map l]; rfl
theorem bSum (l : List Int) : Rf (bltU .sum [ec l]) (.ok l.sum) := by
  show (match intsU (l.map U.int) with | some ns => VR.ok (U.int ns.sum) | none => .stuck) = _
  rw [ints_map]; rfl
/-- tuple(list): of a known length -/
def tup2M {α : Type} : List α → VR (α × α)
  | [a, b] => .ok (a, b)
  | _ => .stuck
def tup3M {α : Type} : List α → VR (T3 α α α)
  | [a, b, c] => .ok ⟨a, b, c⟩
  | _ => .stuck
theorem bTup2 (l : List α) : Rf (bltU .tuple [ec l]) (tup2M l) := by
  unfold tup2M; split
  · exact rfl
  · trivial
theorem bTup3 (l : List α) : Rf (bltU .tuple [ec l]) (tup3M l) := by
  unfold tup3M; split
  · exact rfl
  · trivial
end
/-! the least, the greatest, in order -/
section
variable {α : Type} [Ty α] [DecidableEq α] {d : Nat}
/-- the first of the best -/
def bst {α : Type} (bt : α → α → Bool) : α → List α → α
  | m, [] => m
  | m, x :: l => bst bt (if bt x m = true then x else m) l
def bstM {α : Type} (bt : α → α → Bool) : List α → VR α
  | [] => .stuck
  | x :: l => .ok (bst bt x l)
theorem bst_arg {α : Type} (bt : α → α → Bool) (z : α) : ∀ (l pre : List α) (b : Nat → Nat → Bool), (∀ i j, i < (pre ++ l).length → j < (pre ++ l).length → b i j = bt ((pre ++ l).getD i z) ((pre ++ l).getD j z)) → pre ≠ [] →
    bst bt ((pre ++ l).getD (argBest b (pre.length - 1)) z) l = (pre ++ l).getD (argBest b ((pre ++ l).length - 1)) z
  | [], pre, b, hb, hp => by simp [bst]
  | x :: l, pre, b, hb, hp => by
    have hpl : 0 < pre.length := List.length_pos_iff.mpr hp
    have ih := bst_arg bt z l (pre ++ [x]) b (by simpa using hb) (by simp)
    have e : (pre ++ [x]) ++ l = pre ++ x :: l := by simp
    rw [e] at ih
    rw [← ih]
    have e2 : (pre ++ [x]).length - 1 = (pre.length - 1) + 1 := by simp; omega
    have hle := argBest_le b (pre.length - 1)
    have hx : (pre ++ x :: l).getD ((pre.length - 1) + 1) z = x := by
      rw [show pre.length - 1 + 1 = pre.length by omega, List.getD_eq_getElem?_getD, List.getElem?_append_right (Nat.le_refl _)]; simp
    rw [e2]
    show bst bt (if bt x ((pre ++ x :: l).getD (argBest b (pre.length - 1)) z) = true then x else _) l = _
    congr 1
    show _ = (pre ++ x :: l).getD (if b (pre.length - 1 + 1) (argBest b (pre.length - 1)) then pre.length - 1 + 1 else argBest b (pre.length - 1)) z
    have hb' := hb (pre.length - 1 + 1) (argBest b (pre.length - 1)) (by simp; omega) (by simp; omega)
    rw [hx] at hb'
    rw [hb']
    by_cases c : bt x ((pre ++ x :: l).getD (argBest b (pre.length - 1)) z) = true
    · rw [if_pos c, if_pos c, hx]
    · rw [if_neg c, if_neg c]
theorem best_bst {o : Cop} (ho : Cop4 o) [r : Or α d] (hd : d ≤ 12) (x : α) (l : List α) : bestU o ((x :: l).map ec) = some (ec (bst (ov r.lt o) x l)) := by
  have hall : (((x :: l).map (ec : α → U)).all fun u => ((x :: l).map (ec : α → U)).all fun y => (ordU o 12 u y).isSome) = true := by
    rw [List.all_eq_true]
    intro u hu
    rw [List.all_eq_true]
    intro v hv
    obtain ⟨a, _, rfl⟩ := List.mem_map.mp hu
    obtain ⟨b, _, rfl⟩ := List.mem_map.mp hv
    rw [r.od.od o ho 12 a b hd]; rfl
  unfold bestU
  rw [if_pos hall]
  generalize hxs : x :: l = xs
  have gd : ∀ i, i < xs.length → (xs.map (ec : α → U)).getD i .non = ec (xs.getD i x) := fun i hi => by
    rw [List.getD_eq_getElem?_getD, List.getD_eq_getElem?_getD, List.getElem?_map, List.getElem?_eq_getElem hi]; rfl
  have z := bst_arg (ov r.lt o) x l [x] (fun i j => (ordU o 12 ((xs.map ec).getD i .non) ((xs.map ec).getD j .non)).getD false) (fun i j hi hj => by
    have hi : i < xs.length := by rw [← hxs]; simpa using hi
    have hj : j < xs.length := by rw [← hxs]; simpa using hj
    show (ordU o 12 ((xs.map ec).getD i .non) ((xs.map ec).getD j .non)).getD false = ov r.lt o (([x] ++ l).getD i x) (([x] ++ l).getD j x)
    rw [gd i hi, gd j hj, r.od.od o ho 12 _ _ hd]
    show ov r.lt o (xs.getD i x) (xs.getD j x) = _
    rw [← hxs]; rfl) (by simp)
  have hl := argBest_le (fun i j => (ordU o 12 ((xs.map ec).getD i .non) ((xs.map ec).getD j .non)).getD false) (xs.length - 1)
  have hlen : 0 < xs.length := by rw [← hxs]; simp
  rw [List.length_map, List.getElem?_map, List.getElem?_eq_getElem (by omega)]
  show some (ec _) = _
  congr 2
  have z : bst (ov r.lt o) x l = (x :: l).getD (argBest (fun i j => (ordU o 12 ((xs.map ec).getD i .non) ((xs.map ec).getD j .non)).getD false) ((x :: l).length - 1)) x := z
  rw [z, hxs, List.getD_eq_getElem?_getD, List.getElem?_eq_getElem (by omega)]; rfl
theorem mnU2 {o : Cop} {a b : U} : mnU o [a, b] = optU (bestU o [a, b]) := by cases a <;> rfl
theorem mnU3 {o : Cop} {a b c : U} : mnU o [a, b, c] = optU (bestU o [a, b, c]) := by cases a <;> rfl
def mnT [Or α d] (x y : α) : α := if lt y x = true then y else x
def mxT [Or α d] (x y : α) : α := if lt x y = true then y else x
def minM [Or α d] (l : List α) : VR α := bstM lt l
def maxM [Or α d] (l : List α) : VR α := bstM (fun x y => lt y x) l
theorem bMin2 [r : Or α d] (h : d ≤ 12 := by decide) (x y : α) : Rf (bltU .min [ec x, ec y]) (.ok (mnT x y)) := by
  show mnU .lt [ec x, ec y] = _
  rw [mnU2]
  show optU (bestU .lt ([x, y].map ec)) = _
  rw [best_bst (.inl rfl) h]; rfl
theorem bMax2 [r : Or α d] (h : d ≤ 12 := by decide) (x y : α) : Rf (bltU .max [ec x, ec y]) (.ok (mxT x y)) := by
  show mnU .gt [ec x, ec y] = _
  rw [mnU2]
  show optU (bestU .gt ([x, y].map ec)) = _
  rw [best_bst (.inr (.inl rfl)) h]; rfl
theorem bMin3 [r : Or α d] (h : d ≤ 12 := by decide) (x y z : α) : Rf (bltU .min [ec x, ec y, ec z]) (.ok (mnT (mnT x y) z)) := by
  show mnU .lt [ec x, ec y, ec z] = _
  rw [mnU3]
  show optU (bestU .lt ([x, y, z].map ec)) = _
  rw [best_bst (.inl rfl) h]; rfl
theorem bMin [r : Or α d] (h : d ≤ 12 := by decide) (l : List α) : Rf (bltU .min [ec l]) (minM l) := by
  unfold minM bstM
  split
  · trivial
  · show optU (bestU .lt (List.map ec _)) = _
    rw [best_bst (.inl rfl) h]; rfl
theorem bMax [r : Or α d] (h : d ≤ 12 := by decide) (l : List α) : Rf (bltU .max [ec l]) (maxM l) := by
  unfold maxM bstM
  split
  · trivial
  · show optU (bestU .gt (List.map ec _)) = _
    rw [best_bst (.inr (.inl rfl)) h]; rfl
theorem bMinT3 [r : Or α d] (h : d ≤ 12 := by decide) (l : T3 α α α) : Rf (bltU .min [ec l]) (.ok (mnT (mnT l.a l.b) l.c)) := by
  show optU (bestU .lt ([l.a, l.b, l.c].map ec)) = _
  rw [best_bst (.inl rfl) h]; rfl
def srtL [Or α d] (l : List α) : List α := srt lt l
theorem sort_so [r : Or α d] [k : So α d] [f : Flat α] (hd : d ≤ 12) (xs : List α) : sortU (xs.map ec) = .ok (.lst ((srt r.lt xs).map ec)) :=
  sort_ty (f := ec) (lt := r.lt) ⟨fun k x y h => r.od.od .lt (.inl rfl) k x y h⟩ hd r.tot f.fl k.hk xs
theorem bSorted [r : Or α d] [So α d] [Flat α] (h : d ≤ 12 := by decide) (l : List α) : Rf (bltU .sorted [ec l]) (.ok (srtL l)) := sort_so h l
theorem bSortedS (l : Scr) : Rf (bltU .sorted [ec l]) (.ok (srtL l.ns)) := sort_so (α := Int) (by decide) l.ns
theorem bSortedT3 [r : Or α d] [So α d] [Flat α] (h : d ≤ 12 := by decide) (l : T3 α α α) : True := trivial
end
/-! comprehensions -/
section
variable {α β σ : Type} [Ty α] [Ty β]
def noXT {α : Type} (r : VR α) : VR α := match r with
  | .ok a => .ok a
  | _ => .stuck
def compG {α β : Type} (c : α → VR Bool) (e : α → VR β) : List α → VR (List β)
  | [] => .ok []
  | x :: xs => (c x).bind fun t => if t = true then (e x).bind fun u => (compG c e xs).bind fun r => .ok (u :: r) else compG c e xs
@[irreducible] noncomputable def compM {α β : Type} (c : α → VR Bool) (e : α → VR β) (xs : List α) : VR (List β) := @ite _ (xs.length ≤ sizeLine) (Classical.propDecidable _) (noXT (compG c e xs)) .stuck
theorem comp_rl {bnd : U → VR VEnv} {cV : VEnv → VR Bool} {eV : VEnv → VR U} {c : α → VR Bool} {f : α → VR β} (h : ∀ x : α, ∃ en', bnd (ec x) = .ok en' ∧ Ri (cV en') (c x) ∧ Rf (eV en') (f x)) : ∀ xs : List α, Rl (compV bnd cV eV (xs.map ec)) (compG c f xs)
  | [] => (rfl : VR.ok _ = .ok _)
  | x :: xs => by
    obtain ⟨en', h1, h2, h3⟩ := h x
    have ih := comp_rl h xs
    show Rl ((bnd (ec x)).bind fun en => (cV en).bind fun t => if t = true then (eV en).bind fun u => (compV bnd cV eV (xs.map ec)).bind fun r => .ok (u :: r) else compV bnd cV eV (xs.map ec)) _
    rw [h1]
    show Rl ((cV en').bind fun t => if t = true then (eV en').bind fun u => (compV bnd cV eV (xs.map ec)).bind fun r => .ok (u :: r) else compV bnd cV eV (xs.map ec)) ((c x).bind fun t => if t = true then (f x).bind fun u => (compG c f xs).bind fun r => .ok (u :: r) else compG c f xs)
    cases hc : c x with
    | ok t =>
      rw [hc] at h2
      rw [show cV en' = .ok t from h2]
      cases t with
      | false => exact ih
      | true =>
        show Rl ((eV en').bind fun u => (compV bnd cV eV (xs.map ec)).bind fun r => .ok (u :: r)) ((f x).bind fun u => (compG c f xs).bind fun r => .ok (u :: r))
        exact Rf.bil h3 fun u => Rl.bil ih fun r => (rfl : VR.ok _ = .ok _)
    | exc c u =>
      rw [hc] at h2
      rw [show cV en' = .exc _ _ from h2]
      exact (rfl : (VR.exc c u : VR (List U)) = .exc c u)
    | stuck => trivial
theorem ev_comp {own : List Nat} {tg : Tg} {it : NL.It} {c e : E} {gi : VR (List α)} {gc : α → VR Bool} {ge : α → VR β} {w : List α → Bool} (hi : ∀ l, gi = .ok l → evVt C it en = .ok (l.map ec, w l)) (hx : ∀ c u, gi = .exc c u → evVt C it en = .exc c u)
    (h : ∀ x : α, ∃ en', bindV tg (ec x) (wipeV en own) = .ok en' ∧ Ev C c en' (gc x) ∧ Ev C e en' (ge x)) : Ev C (.comp own tg it c e) en (gi.bind fun l => compM gc ge l) := by
  unfold Ev
  rw [evV]
  cases gi with
  | stuck => trivial
  | exc c u => rw [hx c u rfl]; exact (rfl : (VR.exc c u : VR U) = .exc c u)
  | ok l =>
    rw [hi l rfl]
    rw [ok_bi, ok_bi]
    unfold compM
    show Rf (if (l.map (ec : α → U)).length ≤ sizeLine then _ else _) _
    rw [List.length_map]
    split
    · have z := comp_rl (bnd := fun d => bindV tg d (wipeV en own)) (cV := fun en' => (evV C c en').bind truU) (eV := fun en' => evV C e en') (c := gc) (f := ge) (fun x => by
        obtain ⟨en', h1, h2, h3⟩ := h x
        refine ⟨en', h1, ?_, h3⟩
        have e : gc x = (gc x).bind VR.ok := (bind_id _).symm
        rw [e]
        exact Rf.bii h2 fun t => (rfl : VR.ok _ = .ok _)) l
      cases hg : compG gc ge l with
      | ok r =>
        rw [hg] at z
        rw [show compV _ _ _ (l.map ec) = .ok (r.map ec) from z]
        exact rfl
      | exc c u => trivial
      | stuck => trivial
    · trivial
/-- what is walked -/
def It (C : Nat → List U → VR U) (it : NL.It) (en : VEnv) (gi : VR (List α)) : Prop := (∀ l, gi = .ok l → ∃ w, evVt C it en = .ok (l.map ec, w)) ∧ ∀ c u, gi = .exc c u → evVt C it en = .exc c u
theorem ev_compI {own : List Nat} {tg : Tg} {it : NL.It} {c e : E} {gi : VR (List α)} {gc : α → VR Bool} {ge : α → VR β} (hi : It C it en gi)
    (h : ∀ x : α, ∃ en', bindV tg (ec x) (wipeV en own) = .ok en' ∧ Ev C c en' (gc x) ∧ Ev C e en' (ge x)) : Ev C (.comp own tg it c e) en (gi.bind fun l => compM gc ge l) := by
  cases gi with
  | stuck => trivial
  | exc c u => exact ev_comp (w := fun _ => true) (fun l h => by cases h) (fun c u e => hi.2 c u e) h
  | ok l =>
    obtain ⟨w, hw⟩ := hi.1 l rfl
    exact ev_comp (w := fun _ => w) (fun l' e => by cases e; exact hw) (fun c u e => by cases e) h
end
section
variable {α β : Type} [Ty α] [Ty β]
theorem it_of {e : E} {g : VR α} {gi : VR (List β)} {k : α → List β} {w : Bool} (h : Ev C e en g) (hk : ∀ a, iterU (ec a) = .ok ((k a).map ec, w)) : It C (.val e) en (g.bind fun a => .ok (k a)) := by
  unfold It
  rw [evVt]
  cases g with
  | ok a =>
    rw [show evV C e en = .ok (ec a) from h]
    refine ⟨fun l e => ?_, fun c u e => by cases e⟩
    cases e
    exact ⟨w, hk a⟩
  | exc c u =>
    rw [show evV C e en = .exc c u from h]
    exact ⟨fun l e => (by cases e), fun c u e => (by cases e; rfl)⟩
  | stuck => exact ⟨fun l e => (by cases e), fun c u e => (by cases e)⟩
theorem it_list {e : E} {g : VR (List α)} (h : Ev C e en g) : It C (.val e) en (g.bind fun l => .ok l) := it_of (gi := g) (k := id) (w := true) h fun a => rfl
theorem it_scr {e : E} {g : VR Scr} (h : Ev C e en g) : It C (.val e) en (g.bind fun l => .ok l.ns) := it_of (gi := .stuck) (k := fun l : Scr => l.ns) (w := true) h fun a => rfl
theorem it_two {e : E} {g : VR (α × α)} (h : Ev C e en g) : It C (.val e) en (g.bind fun p => .ok [p.1, p.2]) := it_of (gi := .stuck) (k := fun p : α × α => [p.1, p.2]) (w := false) h fun a => rfl
theorem it_three {e : E} {g : VR (T3 α α α)} (h : Ev C e en g) : It C (.val e) en (g.bind fun p => .ok [p.a, p.b, p.c]) := it_of (gi := .stuck) (k := fun p : T3 α α α => [p.a, p.b, p.c]) (w := false) h fun a => rfl
/-- the numbers from i below j -/
def rngL (i j : Int) : List Int := (List.range (j - i).toNat).map fun k => i + (k : Nat)
@[irreducible] noncomputable def rngM (i j : Int) : VR (List Int) := @ite _ (-(2 ^ 62) ≤ i ∧ i < 2 ^ 62 ∧ -(2 ^ 62) ≤ j ∧ j < 2 ^ 62) (Classical.propDecidable _) (.ok (rngL i j)) .stuck
theorem rng_rl (i j : Int) : Rl (rngU (ec i) (ec j)) (rngM i j) := by
  unfold rngM
  split
  · rename_i h
    show (if -(2 ^ 62) ≤ i ∧ i < 2 ^ 62 ∧ -(2 ^ 62) ≤ j ∧ j < 2 ^ 62 then VR.ok ((List.range (j - i).toNat).map fun k => U.int (i + (k : Nat))) else .stuck) = _
    rw [if_pos h]; unfold rngL; rw [List.map_map]; rfl
  · trivial
theorem it_rl {it : NL.It} {r : VR (List U)} {g : VR (List α)} {w : Bool} (h : Rl r g) (e : evVt C it en = r.bind fun xs => .ok (xs, w)) : It C it en g := by
  unfold It
  rw [e]
  cases g with
  | ok l => rw [show r = .ok (l.map ec) from h]; exact ⟨fun l e => (by cases e; exact ⟨w, rfl⟩), fun c u e => (by cases e)⟩
  | exc c u => rw [show r = .exc c u from h]; exact ⟨fun l e => (by cases e), fun c u e => (by cases e; rfl)⟩
  | stuck => exact ⟨fun l e => (by cases e), fun c u e => (by cases e)⟩
theorem it_rng1 {e : E} {g : VR Int} (h : Ev C e en g) : It C (.rng1 e) en (g.bind fun j => rngM 0 j) :=
  it_rl (r := (evV C e en).bind fun y => rngU (.int 0) y) (w := false) (Rf.bil h fun j => rng_rl 0 j) (by rw [evVt]; simp only [VL.bind_as])
theorem it_rng2 {e f : E} {g h : VR Int} (he : Ev C e en g) (hf : Ev C f en h) : It C (.rng2 e f) en (g.bind fun i => h.bind fun j => rngM i j) :=
  it_rl (r := (evV C e en).bind fun x => (evV C f en).bind fun y => rngU x y) (w := false) (Rf.bil he fun i => Rf.bil hf fun j => rng_rl i j) (by rw [evVt]; simp only [VL.bind_as])
/-- numbered -/
def enmL {α : Type} : Nat → List α → List (Int × α)
  | _, [] => []
  | i, x :: xs => ((i : Nat), x) :: enmL (i + 1) xs
theorem num_map : ∀ (i : Nat) (l : List α), numU i (l.map ec) = (enmL i l).map ec
  | _, [] => rfl
  | i, x :: l => by
    show U.tup [.int (i : Nat), ec x] :: numU (i + 1) (l.map ec) = _
    rw [num_map (i + 1) l]; rfl
theorem it_enm {e : E} {g : VR (List α)} (h : Ev C e en g) : It C (.enm e) en (g.bind fun l => .ok (enmL 0 l)) :=
  it_rl (r := (evV C e en).bind enmU) (w := true) (Rf.bil h fun l => by
    show VR.ok (numU 0 (l.map ec)) = .ok _
    rw [num_map]) (by rw [evVt]; simp only [VL.bind_as])
def zipL {α β : Type} : List α → List β → List (α × β)
  | x :: xs, y :: ys => (x, y) :: zipL xs ys
  | _, _ => []
theorem zip_map : ∀ (l : List α) (m : List β), zpU (l.map ec) (m.map ec) = (zipL l m).map ec
  | [], _ => by simp [zpU, zipL]
  | _ :: _, [] => by simp [zpU, zipL]
  | x :: l, y :: m => by
    show U.tup [ec x, ec y] :: zpU (l.map ec) (m.map ec) = _
    rw [zip_map l m]; rfl
theorem it_zip {e f : E} {g : VR (List α)} {h : VR (List β)} (he : Ev C e en g) (hf : Ev C f en h) : It C (.zip e f) en (g.bind fun l => h.bind fun m => .ok (zipL l m)) :=
  it_rl (r := (evV C e en).bind fun x => (evV C f en).bind fun y => zipU x y) (w := true) (Rf.bil he fun l => Rf.bil hf fun m => by
    show VR.ok (zpU (l.map ec) (m.map ec)) = .ok _
    rw [zip_map]) (by rw [evVt]; simp only [VL.bind_as])
theorem it_zipT {e f : E} {g : VR (α × α)} {h : VR (β × β)} (he : Ev C e en g) (hf : Ev C f en h) : It C (.zip e f) en (g.bind fun l => h.bind fun m => .ok [(l.1, m.1), (l.2, m.2)]) :=
  it_rl (r := (evV C e en).bind fun x => (evV C f en).bind fun y => zipU x y) (w := true) (Rf.bil he fun l => Rf.bil hf fun m => (rfl : VR.ok _ = .ok _)) (by rw [evVt]; simp only [VL.bind_as])
end
theorem ev_c1 {τ0 ρ : Type} [Ty τ0] [Ty ρ] {f : Nat} {ex0 : E} {gx0 : VR τ0} {gf : τ0 → VR ρ} (hf : ∀ x0, Rf (C f [ec x0]) (gf x0)) (hx0 : Ev C ex0 en gx0) : Ev C (.call f (.cons ex0 .nil)) en (gx0.bind fun x0 => gf x0) := by
  unfold Ev; rw [evV, evVs, evVs]; simp only [VL.bind_as, ok_bi]; exact Rf.bi hx0 fun x0 => hf x0
theorem ev_c2 {τ0 τ1 ρ : Type} [Ty τ0] [Ty τ1] [Ty ρ] {f : Nat} {ex0 ex1 : E} {gx0 : VR τ0} {gx1 : VR τ1} {gf : τ0 → τ1 → VR ρ} (hf : ∀ x0 x1, Rf (C f [ec x0, ec x1]) (gf x0 x1)) (hx0 : Ev C ex0 en gx0) (hx1 : Ev C ex1 en gx1) : Ev C (.call f (.cons ex0 (.cons ex1 .nil))) en (gx0.bind fun x0 => gx1.bind fun x1 => gf x0 x1) := by
  unfold Ev; rw [evV, evVs, evVs, evVs]; simp only [VL.bind_as, ok_bi]; exact Rf.bi hx0 fun x0 => Rf.bi hx1 fun x1 => hf x0 x1
theorem ev_c3 {τ0 τ1 τ2 ρ : Type} [Ty τ0] [Ty τ1] [Ty τ2] [Ty ρ] {f : Nat} {ex0 ex1 ex2 : E} {gx0 : VR τ0} {gx1 : VR τ1} {gx2 : VR τ2} {gf : τ0 → τ1 → τ2 → VR ρ} (hf : ∀ x0 x1 x2, Rf (C f [ec x0, ec x1, ec x2]) (gf x0 x1 x2)) (hx0 : Ev C ex0 en gx0) (hx1 : Ev C ex1 en gx1) (hx2 : Ev C ex2 en gx2) : Ev C (.call f (.cons ex0 (.cons ex1 (.cons ex2 .nil)))) en (gx0.bind fun x0 => gx1.bind fun x1 => gx2.bind fun x2 => gf x0 x1 x2) := by
  unfold Ev; rw [evV, evVs, evVs, evVs, evVs]; simp only [VL.bind_as, ok_bi]; exact Rf.bi hx0 fun x0 => Rf.bi hx1 fun x1 => Rf.bi hx2 fun x2 => hf x0 x1 x2
theorem ev_c4 {τ0 τ1 τ2 τ3 ρ : Type} [Ty τ0] [Ty τ1] [Ty τ2] [Ty τ3] [Ty ρ] {f : Nat} {ex0 ex1 ex2 ex3 : E} {gx0 : VR τ0} {gx1 : VR τ1} {gx2 : VR τ2} {gx3 : VR τ3} {gf : τ0 → τ1 → τ2 → τ3 → VR ρ} (hf : ∀ x0 x1 x2 x3, Rf (C f [ec x0, ec x1, ec x2, ec x3]) (gf x0 x1 x2 x3)) (hx0 : Ev C ex0 en gx0) (hx1 : Ev C ex1 en gx1) (hx2 : Ev C ex2 en gx2) (hx3 : Ev C ex3 en gx3) : Ev C (.call f (.cons ex0 (.cons ex1 (.cons ex2 (.cons ex3 .nil))))) en (gx0.bind fun x0 => gx1.bind fun x1 => gx2.bind fun x2 => gx3.bind fun x3 => gf x0 x1 x2 x3) := by
  unfold Ev; rw [evV, evVs, evVs, evVs, evVs, evVs]; simp only [VL.bind_as, ok_bi]; exact Rf.bi hx0 fun x0 => Rf.bi hx1 fun x1 => Rf.bi hx2 fun x2 => Rf.bi hx3 fun x3 => hf x0 x1 x2 x3
theorem ev_c5 {τ0 τ1 τ2 τ3 τ4 ρ : Type} [Ty τ0] [Ty τ1] [Ty τ2] [Ty τ3] [Ty τ4] [Ty ρ] {f : Nat} {ex0 ex1 ex2 ex3 ex4 : E} {gx0 : VR τ0} {gx1 : VR τ1} {gx2 : VR τ2} {gx3 : VR τ3} {gx4 : VR τ4} {gf : τ0 → τ1 → τ2 → τ3 → τ4 → VR ρ} (hf : ∀ x0 x1 x2 x3 x4, Rf (C f [ec x0, ec x1, ec x2, ec x3, ec x4]) (gf x0 x1 x2 x3 x4)) (hx0 : Ev C ex0 en gx0) (hx1 : Ev C ex1 en gx1) (hx2 : Ev C ex2 en gx2) (hx3 : Ev C ex3 en gx3) (hx4 : Ev C ex4 en gx4) : Ev C (.call f (.cons ex0 (.cons ex1 (.cons ex2 (.cons ex3 (.cons ex4 .nil)))))) en (gx0.bind fun x0 => gx1.bind fun x1 => gx2.bind fun x2 => gx3.bind fun x3 => gx4.bind fun x4 => gf x0 x1 x2 x3 x4) := by
  unfold Ev; rw [evV, evVs, evVs, evVs, evVs, evVs, evVs]; simp only [VL.bind_as, ok_bi]; exact Rf.bi hx0 fun x0 => Rf.bi hx1 fun x1 => Rf.bi hx2 fun x2 => Rf.bi hx3 fun x3 => Rf.bi hx4 fun x4 => hf x0 x1 x2 x3 x4
theorem ev_c6 {τ0 τ1 τ2 τ3 τ4 τ5 ρ : Type} [Ty τ0] [Ty τ1] [Ty τ2] [Ty τ3] [Ty τ4] [Ty τ5] [Ty ρ] {f : Nat} {ex0 ex1 ex2 ex3 ex4 ex5 : E} {gx0 : VR τ0} {gx1 : VR τ1} {gx2 : VR τ2} {gx3 : VR τ3} {gx4 : VR τ4} {gx5 : VR τ5} {gf : τ0 → τ1 → τ2 → τ3 → τ4 → τ5 → VR ρ} (hf : ∀ x0 x1 x2 x3 x4 x5, Rf (C f [ec x0, ec x1, ec x2, ec x3, ec x4, ec x5]) (gf x0 x1 x2 x3 x4 x5)) (hx0 : Ev C ex0 en gx0) (hx1 : Ev C ex1 en gx1) (hx2 : Ev C ex2 en gx2) (hx3 : Ev C ex3 en gx3) (hx4 : Ev C ex4 en gx4) (hx5 : Ev C ex5 en gx5) : Ev C (.call f (.cons ex0 (.cons ex1 (.cons ex2 (.cons ex3 (.cons ex4 (.cons ex5 .nil))))))) en (gx0.bind fun x0 => gx1.bind fun x1 => gx2.bind fun x2 => gx3.bind fun x3 => gx4.bind fun x4 => gx5.bind fun x5 => gf x0 x1 x2 x3 x4 x5) := by
  unfold Ev; rw [evV, evVs, evVs, evVs, evVs, evVs, evVs, evVs]; simp only [VL.bind_as, ok_bi]; exact Rf.bi hx0 fun x0 => Rf.bi hx1 fun x1 => Rf.bi hx2 fun x2 => Rf.bi hx3 fun x3 => Rf.bi hx4 fun x4 => Rf.bi hx5 fun x5 => hf x0 x1 x2 x3 x4 x5
theorem ev_c7 {τ0 τ1 τ2 τ3 τ4 τ5 τ6 ρ : Type} [Ty τ0] [Ty τ1] [Ty τ2] [Ty τ3] [Ty τ4] [Ty τ5] [Ty τ6] [Ty ρ] {f : Nat} {ex0 ex1 ex2 ex3 ex4 ex5 ex6 : E} {gx0 : VR τ0} {gx1 : VR τ1} {gx2 : VR τ2} {gx3 : VR τ3} {gx4 : VR τ4} {gx5 : VR τ5} {gx6 : VR τ6} {gf : τ0 → τ1 → τ2 → τ3 → τ4 → τ5 → τ6 → VR ρ} (hf : ∀ x0 x1 x2 x3 x4 x5 x6, Rf (C f [ec x0, ec x1, ec x2, ec x3, ec x4, ec x5, ec x6]) (gf x0 x1 x2 x3 x4 x5 x6)) (hx0 : Ev C ex0 en gx0) (hx1 : Ev C ex1 en gx1) (hx2 : Ev C ex2 en gx2) (hx3 : Ev C ex3 en gx3) (hx4 : Ev C ex4 en gx4) (hx5 : Ev C ex5 en gx5) (hx6 : Ev C ex6 en gx6) : Ev C (.call f (.cons ex0 (.cons ex1 (.cons ex2 (.cons ex3 (.cons ex4 (.cons ex5 (.cons ex6 .nil)))))))) en (gx0.bind fun x0 => gx1.bind fun x1 => gx2.bind fun x2 => gx3.bind fun x3 => gx4.bind fun x4 => gx5.bind fun x5 => gx6.bind fun x6 => gf x0 x1 x2 x3 x4 x5 x6) := by
  unfold Ev; rw [evV, evVs, evVs, evVs, evVs, evVs, evVs, evVs, evVs]; simp only [VL.bind_as, ok_bi]; exact Rf.bi hx0 fun x0 => Rf.bi hx1 fun x1 => Rf.bi hx2 fun x2 => Rf.bi hx3 fun x3 => Rf.bi hx4 fun x4 => Rf.bi hx5 fun x5 => Rf.bi hx6 fun x6 => hf x0 x1 x2 x3 x4 x5 x6
theorem ev_c8 {τ0 τ1 τ2 τ3 τ4 τ5 τ6 τ7 ρ : Type} [Ty τ0] [Ty τ1] [Ty τ2] [Ty τ3] [Ty τ4] [Ty τ5] [Ty τ6] [Ty τ7] [Ty ρ] {f : Nat} {ex0 ex1 ex2 ex3 ex4 ex5 ex6 ex7 : E} {gx0 : VR τ0} {gx1 : VR τ1} {gx2 : VR τ2} {gx3 : VR τ3} {gx4 : VR τ4} {gx5 : VR τ5} {gx6 : VR τ6} {gx7 : VR τ7} {gf : τ0 → τ1 → τ2 → τ3 → τ4 → τ5 → τ6 → τ7 → VR ρ} (hf : ∀ x0 x1 x2 x3 x4 x5 x6 x7, Rf (C f [ec x0, ec x1, ec x2, ec x3, ec x4, ec x5, ec x6, ec x7]) (gf x0 x1 x2 x3 x4 x5 x6 x7)) (hx0 : Ev C ex0 en gx0) (hx1 : Ev C ex1 en gx1) (hx2 : Ev C ex2 en gx2) (hx3 : Ev C ex3 en gx3) (hx4 : Ev C ex4 en gx4) (hx5 : Ev C ex5 en gx5) (hx6 : Ev C ex6 en gx6) (hx7 : Ev C ex7 en gx7) : Ev C (.call f (.cons ex0 (.cons ex1 (.cons ex2 (.cons ex3 (.cons ex4 (.cons ex5 (.cons ex6 (.cons ex7 .nil))))))))) en (gx0.bind fun x0 => gx1.bind fun x1 => gx2.bind fun x2 => gx3.bind fun x3 => gx4.bind fun x4 => gx5.bind fun x5 => gx6.bind fun x6 => gx7.bind fun x7 => gf x0 x1 x2 x3 x4 x5 x6 x7) := by
  unfold Ev; rw [evV, evVs, evVs, evVs, evVs, evVs, evVs, evVs, evVs, evVs]; simp only [VL.bind_as, ok_bi]; exact Rf.bi hx0 fun x0 => Rf.bi hx1 fun x1 => Rf.bi hx2 fun x2 => Rf.bi hx3 fun x3 => Rf.bi hx4 fun x4 => Rf.bi hx5 fun x5 => Rf.bi hx6 fun x6 => Rf.bi hx7 fun x7 => hf x0 x1 x2 x3 x4 x5 x6 x7
end
end TL

/-! A typed answer stands for a tree: statements, loops, defs. -/
namespace TL
open PySem PySem.Spec PyProof.Rows L2 NL GM VL
open Ty (ec)
def Rb {γ : Type} (r : VR VF) (g : VR γ) (D : γ → VF → Prop) : Prop := match g with
  | .ok x => ∃ f, r = .ok f ∧ D x f
  | .exc c u => r = .exc c u
  | .stuck => True
/-- where a block may end: on, broken off, told -/
inductive Fl (σ ρ : Type) where
  | nx (s : σ) | bk (s : σ) | rt (a : ρ)
def Fl.elim {σ ρ γ : Type} (kn : σ → γ) (kr : ρ → γ) : Fl σ ρ → γ
  | .nx s => kn s
  | .bk s => kn s
  | .rt a => kr a
/-- told -/
def Dr {ρ : Type} [Ty ρ] (w : Bool) (a : ρ) (f : VF) : Prop := ∃ o, f = .ret o (ec a) ∧ (w = true → isL (ec a) = true → o = true)
/-- on, the names so -/
def Dj {σ : Type} (R : σ → VEnv → Prop) (s : σ) (f : VF) : Prop := ∃ en, f = .nx en ∧ R s en
/-- .. or the next turn -/
def Dn {σ : Type} (R : σ → VEnv → Prop) (s : σ) (f : VF) : Prop := ∃ en, (f = .nx en ∨ f = .cnt en) ∧ R s en
def Dl {σ ρ : Type} [Ty ρ] (w : Bool) (R : σ → VEnv → Prop) : Fl σ ρ → VF → Prop
  | .nx s, f => Dn R s f
  | .bk s, f => ∃ en, f = .brk en ∧ R s en
  | .rt a, f => Dr w a f
/-- on, or told -/
def De {σ ρ : Type} [Ty ρ] (w : Bool) (R : σ → VEnv → Prop) : Fl σ ρ → VF → Prop
  | .nx s, f => Dj R s f
  | .bk s, f => Dj R s f
  | .rt a, f => Dr w a f
section
variable {fr : Nat → Bool} {C : Nat → List U → VR U} {en : VEnv} {γ : Type} {D : γ → VF → Prop} {r : Sts} {i : Nat} {e : E}
abbrev Bx (fr : Nat → Bool) (C : Nat → List U → VR U) (ss : Sts) (en : VEnv) (g : VR γ) (D : γ → VF → Prop) : Prop := Rb (exVB fr C ss en) g D
theorem Rb.eq {x y : VR VF} {g : VR γ} (e : x = y) (h : Rb y g D) : Rb x g D := by rw [e]; exact h
theorem Rf.bb {α : Type} [Ty α] {x : VR U} {f : U → VR VF} {g : VR α} {k : α → VR γ} (h : Rf x g) (hk : ∀ a, Rb (f (ec a)) (k a) D) : Rb (x.bind f) (g.bind k) D := by
  cases g with
  | ok a => rw [show x = .ok (ec a) from h]; exact hk a
  | exc c u => rw [show x = .exc c u from h]; exact (rfl : (VR.exc c u : VR VF) = .exc c u)
  | stuck => trivial
theorem Rb.bi {γ' : Type} {D' : γ' → VF → Prop} {x : VR VF} {f : VF → VR VF} {g : VR γ'} {k : γ' → VR γ} (h : Rb x g D') (hk : ∀ a f', D' a f' → Rb (f f') (k a) D) : Rb (x.bind f) (g.bind k) D := by
  cases g with
  | ok a => obtain ⟨f', h1, h2⟩ := h; rw [h1]; exact hk a f' h2
  | exc c u => rw [show x = .exc c u from h]; exact (rfl : (VR.exc c u : VR VF) = .exc c u)
  | stuck => trivial
/-! what a statement does to the names -/
theorem cons_eq {s : NL.St} : exVB fr C (.cons s r) en = (exV fr C s en).bind fun f => match f with
    | .nx en' => exVB fr C r en'
    | f => .ok f := by rw [exVB] <;> rfl
/-- a statement, then the rest -/
theorem rb_cut {γ' : Type} {s : NL.St} {g : VR γ'} {R : γ' → VEnv → Prop} {k : γ' → VR γ} (h : Rb (exV fr C s en) g (Dj R)) (hk : ∀ x en', R x en' → Bx fr C r en' (k x) D) : Bx fr C (.cons s r) en (g.bind k) D := by
  unfold Bx; rw [cons_eq]
  exact Rb.bi h fun a f' ⟨en', h1, h2⟩ => by subst h1; exact hk a en' h2
section
variable {α β δ : Type} [Ty α] [Ty β] [Ty δ] {g : VR α} {k : α → VR γ}
theorem noL_isL {u : U} (h : noL u = true) : isL u = false := by
  cases u with
  | lst us => simp [noL] at h
  | _ => rfl
theorem isL_ec {l : List α} : isL (ec l) = true := rfl
theorem set_eq {s : NL.St} (hs : s = .set i e) : exVB fr C (.cons s r) en = (evV C e en).bind fun u => exVB fr C r ((leak (freshE fr e && isL u) u (fvE e) en).set i (some (freshE fr e && isL u, u))) := by
  subst hs; rw [cons_eq, exV, VL.bind_as]; rfl
theorem rb_set_f [Flat α] (h : Ev C e en g) (hk : ∀ a, Bx fr C r (en.set i (some (false, ec a))) (k a) D) : Bx fr C (.cons (.set i e) r) en (g.bind k) D := by
  unfold Bx; rw [set_eq rfl]
  refine Rf.bb h fun a => ?_
  have h1 : noL (ec a) = true := Flat.fl a
  rw [noL_isL h1, Bool.and_false, show leak false (ec a) (fvE e) en = en by unfold leak keeps; rw [h1]; rfl]
  exact hk a
theorem rb_set_o {g : VR (List α)} {k : List α → VR γ} [Flat α] (hf : freshE fr e = true) (h : Ev C e en g) (hk : ∀ l, Bx fr C r (en.set i (some (true, .lst (l.map ec)))) (k l) D) : Bx fr C (.cons (.set i e) r) en (g.bind k) D := by
  unfold Bx; rw [set_eq rfl]
  refine Rf.bb h fun l => ?_
  rw [hf, isL_ec, show leak (true && true) (ec l) (fvE e) en = en by
    unfold leak
    rw [if_pos]
    show (noL (.lst _) || (true && noLs (l.map ec))) = true
    rw [noLs_flat]; simp]
  exact hk l
theorem keeps_lst {us : List U} : keeps false (.lst us) = false := by unfold keeps; simp [noL]
theorem rb_set_s {g : VR (List α)} {k : List α → VR γ} (hf : freshE fr e = false) (h : Ev C e en g) (hk : ∀ l, Bx fr C r ((unown en (fvE e)).set i (some (false, .lst (l.map ec)))) (k l) D) : Bx fr C (.cons (.set i e) r) en (g.bind k) D := by
  unfold Bx; rw [set_eq rfl]
  refine Rf.bb h fun l => ?_
  rw [hf, Bool.false_and, show leak false (ec l) (fvE e) en = unown en (fvE e) by
    unfold leak
    rw [if_neg]
    show ¬ keeps false (.lst _) = true
    rw [keeps_lst]; exact Bool.false_ne_true]
  exact hk l
theorem rb_set_h [HasL α] [NotL α] (h : Ev C e en g) (hk : ∀ a, Bx fr C r ((unown en (fvE e)).set i (some (false, ec a))) (k a) D) : Bx fr C (.cons (.set i e) r) en (g.bind k) D := by
  unfold Bx; rw [set_eq rfl]
  refine Rf.bb h fun a => ?_
  have h1 : noL (ec a) = false := HasL.hl a
  rw [NotL.nl, Bool.and_false, show leak false (ec a) (fvE e) en = unown en (fvE e) by unfold leak keeps; rw [h1]; rfl]
  exact hk a
/-- any value: whose it is is not known -/
theorem rb_set_x (h : Ev C e en g) (hk : ∀ a w en', (en' = en ∨ en' = unown en (fvE e)) → Bx fr C r (en'.set i (some (w, ec a))) (k a) D) : Bx fr C (.cons (.set i e) r) en (g.bind k) D := by
  unfold Bx; rw [set_eq rfl]
  refine Rf.bb h fun a => hk a _ _ ?_
  unfold leak; split
  · exact .inl rfl
  · exact .inr rfl
/-- a new list of lists -/
theorem rb_set_n {g : VR (List α)} {k : List α → VR γ} (hf : freshE fr e = true) (h : Ev C e en g) (hk : ∀ l en', (en' = en ∨ en' = unown en (fvE e)) → Bx fr C r (en'.set i (some (true, .lst (l.map ec)))) (k l) D) : Bx fr C (.cons (.set i e) r) en (g.bind k) D := by
  unfold Bx; rw [set_eq rfl]
  refine Rf.bb h fun l => ?_
  rw [hf, isL_ec]
  refine hk l _ ?_
  unfold leak; split
  · exact .inl rfl
  · exact .inr rfl
/-! a value that is parted -/
theorem unp_eq {is : List Nat} : exVB fr C (.cons (.unp is e) r) en = (evV C e en).bind fun u => (unpU is.length u).bind fun us => exVB fr C r (setAllV (leaks us (fvE e) en) is us) := by
  rw [cons_eq, exV, VL.bind_as]; congr; funext u; rw [VL.bind_as]; rfl
theorem leaks_f {us : List U} {is : List Nat} (h : noLs us = true) : leaks us is en = en := by unfold leaks; rw [if_pos h]
theorem leaks_h {us : List U} {is : List Nat} (h : noLs us = false) : leaks us is en = unown en is := by unfold leaks; rw [h]; rfl
theorem rb_unG {is : List Nat} {us : α → List U} (hu : ∀ a, unpU is.length (ec a) = .ok (us a)) (hl : ∀ a, noLs (us a) = true) (h : Ev C e en g) (hk : ∀ a, Bx fr C r (setAllV en is (us a)) (k a) D) : Bx fr C (.cons (.unp is e) r) en (g.bind k) D := by
  unfold Bx; rw [unp_eq]
  refine Rf.bb h fun a => ?_
  rw [hu a]
  show Rb (exVB fr C r (setAllV (leaks (us a) (fvE e) en) is (us a))) _ _
  rw [leaks_f (hl a)]; exact hk a
theorem rb_unH {is : List Nat} {us : α → List U} (hu : ∀ a, unpU is.length (ec a) = .ok (us a)) (hl : ∀ a, noLs (us a) = false) (h : Ev C e en g) (hk : ∀ a, Bx fr C r (setAllV (unown en (fvE e)) is (us a)) (k a) D) : Bx fr C (.cons (.unp is e) r) en (g.bind k) D := by
  unfold Bx; rw [unp_eq]
  refine Rf.bb h fun a => ?_
  rw [hu a]
  show Rb (exVB fr C r (setAllV (leaks (us a) (fvE e) en) is (us a))) _ _
  rw [leaks_h (hl a)]; exact hk a
variable {i1 i2 i3 i4 : Nat}
theorem rb_u2 [a : Flat α] [b : Flat β] {g : VR (α × β)} {k : α × β → VR γ} (h : Ev C e en g) (hk : ∀ p, Bx fr C r ((en.set i1 (some (false, ec p.1))).set i2 (some (false, ec p.2))) (k p) D) : Bx fr C (.cons (.unp [i1, i2] e) r) en (g.bind k) D :=
  rb_unG (us := fun p => [ec p.1, ec p.2]) (fun _ => rfl) (fun p => by simp [noLs, a.fl, b.fl]) h hk
theorem rb_u2l [a : HasL α] {g : VR (α × β)} {k : α × β → VR γ} (h : Ev C e en g) (hk : ∀ p, Bx fr C r (((unown en (fvE e)).set i1 (some (false, ec p.1))).set i2 (some (false, ec p.2))) (k p) D) : Bx fr C (.cons (.unp [i1, i2] e) r) en (g.bind k) D :=
  rb_unH (us := fun p => [ec p.1, ec p.2]) (fun _ => rfl) (fun p => by simp [noLs, a.hl]) h hk
theorem rb_u2r [a : HasL β] {g : VR (α × β)} {k : α × β → VR γ} (h : Ev C e en g) (hk : ∀ p, Bx fr C r (((unown en (fvE e)).set i1 (some (false, ec p.1))).set i2 (some (false, ec p.2))) (k p) D) : Bx fr C (.cons (.unp [i1, i2] e) r) en (g.bind k) D :=
  rb_unH (us := fun p => [ec p.1, ec p.2]) (fun _ => rfl) (fun p => by simp [noLs, a.hl]) h hk
theorem rb_uP {g : VR P} {k : P → VR γ} (h : Ev C e en g) (hk : ∀ p : P, Bx fr C r ((en.set i1 (some (false, ec p.x))).set i2 (some (false, ec p.y))) (k p) D) : Bx fr C (.cons (.unp [i1, i2] e) r) en (g.bind k) D :=
  rb_unG (us := fun p : P => [ec p.x, ec p.y]) (fun _ => rfl) (fun p => by simp [noLs, ec, noL]) h hk
theorem rb_uF {m : Nat} {g : VR (Fr m)} {k : Fr m → VR γ} (h : Ev C e en g) (hk : ∀ p : Fr m, Bx fr C r ((en.set i1 (some (false, ec p.n))).set i2 (some (false, ec p.d))) (k p) D) : Bx fr C (.cons (.unp [i1, i2] e) r) en (g.bind k) D :=
  rb_unG (us := fun p : Fr m => [ec p.n, ec p.d]) (fun _ => rfl) (fun p => by simp [noLs, ec, noL]) h hk
theorem rb_u3 [a : Flat α] [b : Flat β] [c : Flat δ] {g : VR (T3 α β δ)} {k : T3 α β δ → VR γ} (h : Ev C e en g) (hk : ∀ p, Bx fr C r (((en.set i1 (some (false, ec p.a))).set i2 (some (false, ec p.b))).set i3 (some (false, ec p.c))) (k p) D) : Bx fr C (.cons (.unp [i1, i2, i3] e) r) en (g.bind k) D :=
  rb_unG (us := fun p => [ec p.a, ec p.b, ec p.c]) (fun _ => rfl) (fun p => by simp [noLs, a.fl, b.fl, c.fl]) h hk
theorem rb_u3l [a : HasL α] {g : VR (T3 α β δ)} {k : T3 α β δ → VR γ} (h : Ev C e en g) (hk : ∀ p, Bx fr C r ((((unown en (fvE e)).set i1 (some (false, ec p.a))).set i2 (some (false, ec p.b))).set i3 (some (false, ec p.c))) (k p) D) : Bx fr C (.cons (.unp [i1, i2, i3] e) r) en (g.bind k) D :=
  rb_unH (us := fun p => [ec p.a, ec p.b, ec p.c]) (fun _ => rfl) (fun p => by simp [noLs, a.hl]) h hk
theorem rb_u3r [a : HasL δ] {g : VR (T3 α β δ)} {k : T3 α β δ → VR γ} (h : Ev C e en g) (hk : ∀ p, Bx fr C r ((((unown en (fvE e)).set i1 (some (false, ec p.a))).set i2 (some (false, ec p.b))).set i3 (some (false, ec p.c))) (k p) D) : Bx fr C (.cons (.unp [i1, i2, i3] e) r) en (g.bind k) D :=
  rb_unH (us := fun p => [ec p.a, ec p.b, ec p.c]) (fun _ => rfl) (fun p => by simp [noLs, a.hl]) h hk
theorem rb_uL2 [a : Flat α] {g : VR (List α)} {k : α × α → VR γ} (h : Ev C e en g) (hk : ∀ p : α × α, Bx fr C r ((en.set i1 (some (false, ec p.1))).set i2 (some (false, ec p.2))) (k p) D) : Bx fr C (.cons (.unp [i1, i2] e) r) en ((g.bind tup2M).bind k) D := by
  unfold Bx; rw [unp_eq, VL.bind_as]
  refine Rf.bb h fun l => ?_
  unfold tup2M
  split
  · rename_i x y
    show Rb (exVB fr C r (setAllV (leaks [ec x, ec y] (fvE e) en) [i1, i2] [ec x, ec y])) (k (x, y)) _
    rw [leaks_f (by simp [noLs, a.fl])]; exact hk (x, y)
  · trivial
theorem rb_uL3 [a : Flat α] {g : VR (List α)} {k : T3 α α α → VR γ} (h : Ev C e en g) (hk : ∀ p : T3 α α α, Bx fr C r (((en.set i1 (some (false, ec p.a))).set i2 (some (false, ec p.b))).set i3 (some (false, ec p.c))) (k p) D) : Bx fr C (.cons (.unp [i1, i2, i3] e) r) en ((g.bind tup3M).bind k) D := by
  unfold Bx; rw [unp_eq, VL.bind_as]
  refine Rf.bb h fun l => ?_
  unfold tup3M
  split
  · rename_i x y z
    show Rb (exVB fr C r (setAllV (leaks [ec x, ec y, ec z] (fvE e) en) [i1, i2, i3] [ec x, ec y, ec z])) (k ⟨x, y, z⟩) _
    rw [leaks_f (by simp [noLs, a.fl])]; exact hk ⟨x, y, z⟩
  · trivial
/-! lists that are written -/
@[irreducible] noncomputable def appM {α : Type} (l : List α) (a : α) : VR (List α) := @ite _ (l.length < sizeLine) (Classical.propDecidable _) (.ok (l ++ [a])) .stuck
@[irreducible] def setM {α : Type} (l : List α) (i : Int) (a : α) : VR (List α) := match L2.ixN l.length i with | some n => .ok (l.set n a) | none => .stuck
def popM {α : Type} (l : List α) : VR (α × List α) := match l[l.length - 1]? with | some a => .ok (a, l.dropLast) | none => .stuck
theorem ownV_of {us : List U} (h : en[i]? = some (some (true, .lst us))) : ownV en i = .ok us := by unfold ownV; rw [h]
theorem app_eq {us : List U} (h : en[i]? = some (some (true, .lst us))) : exVB fr C (.cons (.app i e) r) en = (evV C e en).bind fun u => (ownV (leak false u (fvE e) en) i).bind fun us => if us.length < sizeLine then exVB fr C r ((leak false u (fvE e) en).set i (some (true, .lst (us ++ [u])))) else .stuck := by
  rw [cons_eq, exV, ownV_of h]
  show ((evV C e en).bind _).bind _ = _
  rw [VL.bind_as]; congr; funext u; rw [VL.bind_as]; congr; funext us; split <;> rfl
theorem rb_app [Flat α] {l : List α} {g : VR α} {k : List α → VR γ} (ho : en[i]? = some (some (true, .lst (l.map ec)))) (h : Ev C e en g) (hk : ∀ l : List α, Bx fr C r (en.set i (some (true, .lst (l.map ec)))) (k l) D) :
    Bx fr C (.cons (.app i e) r) en (g.bind fun a => (appM l a).bind k) D := by
  unfold Bx; rw [app_eq ho]
  refine Rf.bb h fun a => ?_
  have h1 : noL (ec a) = true := Flat.fl a
  rw [show leak false (ec a) (fvE e) en = en by unfold leak keeps; rw [h1]; rfl, ownV_of ho]
  show Rb (if (l.map ec).length < sizeLine then _ else _) _ _
  unfold appM
  rw [List.length_map]
  split
  · have z := hk (l ++ [a])
    rw [List.map_append] at z
    exact z
  · trivial
/-- .. of a thing with a list in it, the names in which are none's own -/
theorem rb_appH [HasL α] {l : List α} {g : VR α} {k : List α → VR γ} (ho : en[i]? = some (some (true, .lst (l.map ec)))) (h : Ev C e en g) (ho' : (unown en (fvE e))[i]? = some (some (true, .lst (l.map ec)))) (hk : ∀ l : List α, Bx fr C r ((unown en (fvE e)).set i (some (true, .lst (l.map ec)))) (k l) D) :
    Bx fr C (.cons (.app i e) r) en (g.bind fun a => (appM l a).bind k) D := by
  unfold Bx; rw [app_eq ho]
  refine Rf.bb h fun a => ?_
  have h1 : noL (ec a) = false := HasL.hl a
  rw [show leak false (ec a) (fvE e) en = unown en (fvE e) by unfold leak keeps; rw [h1]; rfl, ownV_of ho']
  show Rb (if (l.map ec).length < sizeLine then _ else _) _ _
  unfold appM
  rw [List.length_map]
  split
  · have z := hk (l ++ [a])
    rw [List.map_append] at z
    exact z
  · trivial
@[irreducible] noncomputable def appU {α : Type} (l : List α) : VR Unit := @ite _ (l.length < sizeLine) (Classical.propDecidable _) (.ok ()) .stuck
/-- .. of a thing of another type: the list is read no more -/
theorem rb_appU {β : Type} [Ty β] [Flat β] {l : List α} {g : VR β} {k : VR γ} (ho : en[i]? = some (some (true, .lst (l.map ec)))) (h : Ev C e en g) (hk : ∀ us : List U, Bx fr C r (en.set i (some (true, .lst us))) k D) :
    Bx fr C (.cons (.app i e) r) en (g.bind fun _ => (appU l).bind fun _ => k) D := by
  unfold Bx; rw [app_eq ho]
  refine Rf.bb h fun a => ?_
  have h1 : noL (ec a) = true := Flat.fl a
  rw [show leak false (ec a) (fvE e) en = en by unfold leak keeps; rw [h1]; rfl, ownV_of ho]
  show Rb (if (l.map ec).length < sizeLine then _ else _) _ _
  unfold appU
  rw [List.length_map]
  split
  · exact hk _
  · trivial
theorem rb_ext [Flat α] {l : List α} {g : VR (List α)} {k : List α → VR γ} (ho : en[i]? = some (some (true, .lst (l.map ec)))) (h : Ev C e en g) (hk : ∀ l : List α, Bx fr C r (en.set i (some (true, .lst (l.map ec)))) (k l) D) :
    Bx fr C (.cons (.ext i e) r) en (g.bind fun m => (catM l m).bind k) D := by
  unfold Bx
  have e1 : exVB fr C (.cons (.ext i e) r) en = (evV C e en).bind fun u => (lstU u).bind fun vs => (ownV (leaks vs (fvE e) en) i).bind fun us => if us.length + vs.length ≤ sizeLine then exVB fr C r ((leaks vs (fvE e) en).set i (some (true, .lst (us ++ vs)))) else .stuck := by
    rw [cons_eq, exV, ownV_of ho]
    show ((evV C e en).bind _).bind _ = _
    rw [VL.bind_as]; congr; funext u; rw [VL.bind_as]; congr; funext vs; rw [VL.bind_as]; congr; funext us; split <;> rfl
  rw [e1]
  refine Rf.bb h fun m => ?_
  show Rb ((ownV (leaks (m.map ec) (fvE e) en) i).bind fun us => if us.length + (m.map ec).length ≤ sizeLine then exVB fr C r ((leaks (m.map ec) (fvE e) en).set i (some (true, .lst (us ++ m.map ec)))) else .stuck) _ _
  rw [leaks_f noLs_flat, ownV_of ho]
  show Rb (if (l.map ec).length + (m.map ec).length ≤ sizeLine then _ else _) _ _
  unfold catM
  rw [List.length_map, List.length_map]
  split
  · have z := hk (l ++ m)
    rw [List.map_append] at z
    exact z
  · trivial
theorem rb_pop0 {l : List α} {k : α × List α → VR γ} (ho : en[i]? = some (some (true, .lst (l.map ec)))) (hk : ∀ p : α × List α, Bx fr C r (en.set i (some (true, .lst (p.2.map ec)))) (k p) D) : Bx fr C (.cons (.popx none i) r) en ((popM l).bind k) D := by
  unfold Bx; rw [cons_eq, exV, ownV_of ho]
  unfold popM
  show Rb ((match (l.map ec)[(l.map ec).length - 1]? with | some u => VR.ok (VF.nx (en.set i (some (true, .lst (l.map ec).dropLast)))) | none => VR.stuck).bind _) _ _
  rw [List.length_map, List.getElem?_map]
  cases hl : l[l.length - 1]? with
  | none => trivial
  | some a =>
    have z := hk (a, l.dropLast)
    rw [List.map_dropLast] at z
    exact z
theorem rb_pop1 {j : Nat} {l : List α} {k : α × List α → VR γ} (ho : en[i]? = some (some (true, .lst (l.map ec)))) (hk : ∀ p : α × List α, Bx fr C r ((en.set i (some (true, .lst (p.2.map ec)))).set j (some (false, ec p.1))) (k p) D) : Bx fr C (.cons (.popx (some (.nm j)) i) r) en ((popM l).bind k) D := by
  unfold Bx; rw [cons_eq, exV, ownV_of ho]
  unfold popM
  show Rb ((match (l.map ec)[(l.map ec).length - 1]? with | some u => (VR.ok ((en.set i (some (true, .lst (l.map ec).dropLast))).set j (some (false, u)))).bind fun en2 => VR.ok (VF.nx en2) | none => VR.stuck).bind _) _ _
  rw [List.length_map, List.getElem?_map]
  cases hl : l[l.length - 1]? with
  | none => trivial
  | some a =>
    have z := hk (a, l.dropLast)
    rw [List.map_dropLast] at z
    exact z
theorem rb_clr {l : List α} {g : VR γ} (ho : en[i]? = some (some (true, .lst (l.map ec)))) (hk : Bx fr C r (en.set i (some (true, .lst []))) g D) : Bx fr C (.cons (.clr i) r) en g D := by
  unfold Bx; rw [cons_eq, exV, ownV_of ho]; exact hk
theorem rb_aug {w : Bool} {x : Int} {g : VR Int} {k : Int → VR γ} (ho : en[i]? = some (some (w, .int x))) (h : Ev C e en g) (hk : ∀ y : Int, Bx fr C r (en.set i (some (false, .int y))) (k y) D) : Bx fr C (.cons (.aug i e) r) en (g.bind fun y => k (x + y)) D := by
  unfold Bx; rw [cons_eq, exV, show intV en i = .ok x by unfold intV; rw [ho]]
  show Rb (((evV C e en).bind fun y => (toI y).bind fun y => VR.ok (VF.nx (en.set i (some (false, .int (x + y)))))).bind _) _ _
  rw [VL.bind_as]
  exact Rf.bb h fun y => hk (x + y)
theorem rb_setIx [Flat α] {ei : E} {l : List α} {gi : VR Int} {ge : VR α} {k : List α → VR γ} (ho : en[i]? = some (some (true, .lst (l.map ec)))) (h : Ev C e en ge) (hi : Ev C ei en gi) (hk : ∀ l : List α, Bx fr C r (en.set i (some (true, .lst (l.map ec)))) (k l) D) :
    Bx fr C (.cons (.setIx (.var i) ei e) r) en (ge.bind fun a => gi.bind fun n => (setM l n a).bind k) D := by
  unfold Bx; rw [cons_eq, exV, VL.bind_as]
  refine Rf.bb h fun a => ?_
  rw [VL.bind_as]
  refine Rf.bb hi fun n => ?_
  have h1 : noL (ec a) = true := Flat.fl a
  rw [show leak false (ec a) (fvE e) en = en by unfold leak keeps; rw [h1]; rfl, ownV_of ho]
  show Rb ((match L2.ixN (l.map ec).length n with | some m => VR.ok (VF.nx (en.set i (some (true, .lst ((l.map ec).set m (ec a)))))) | none => .stuck).bind _) _ _
  unfold setM
  rw [List.length_map]
  cases L2.ixN l.length n with
  | none => trivial
  | some m =>
    have z := hk (l.set m a)
    rw [List.map_set] at z
    exact z
theorem rb_expr {g' : VR γ} (h : Ev C e en g) (hk : Bx fr C r en g' D) : Bx fr C (.cons (.expr e) r) en (g.bind fun _ => g') D := by
  unfold Bx; rw [cons_eq, exV, VL.bind_as]; exact Rf.bb h fun _ => hk
theorem rb_pass {g' : VR γ} (hk : Bx fr C r en g' D) : Bx fr C (.cons .pass r) en g' D := by
  unfold Bx; rw [cons_eq, exV]; exact hk
/-! told -/
theorem ret_eq : exVB fr C (.cons (.ret e) r) en = (evV C e en).bind fun u => .ok (.ret ((freshE fr e && isL u) || ownR en e) u) := by
  rw [cons_eq, exV, VL.bind_as]; rfl
theorem rb_retG {w : Bool} {j : α → γ} (hj : ∀ a o, (w = true → isL (ec a) = true → o = true) → D (j a) (.ret o (ec a))) (hw : ∀ a : α, w = true → isL (ec a) = true → ((freshE fr e && isL (ec a)) || ownR en e) = true) (h : Ev C e en g) : Bx fr C (.cons (.ret e) r) en (g.bind fun a => .ok (j a)) D := by
  unfold Bx; rw [ret_eq]
  exact Rf.bb h fun a => ⟨_, rfl, hj a _ (hw a)⟩
/-- whose list it is does not matter; it is no list; it is new; it is its own -/
theorem w_n {a : α} {o : Bool} : false = true → isL (ec a) = true → o = true := fun h => by cases h
theorem w_f [NotL α] {w : Bool} {a : α} {o : Bool} : w = true → isL (ec a) = true → o = true := fun _ h => by rw [NotL.nl] at h; cases h
theorem w_e {w : Bool} {a : α} (hf : freshE fr e = true) : w = true → isL (ec a) = true → ((freshE fr e && isL (ec a)) || ownR en e) = true := fun _ h => by rw [hf, h]; rfl
theorem w_v {w : Bool} {a : α} (hf : ownR en e = true) : w = true → isL (ec a) = true → ((freshE fr e && isL (ec a)) || ownR en e) = true := fun _ _ => by rw [hf]; simp
theorem dr_j {w : Bool} : ∀ (a : α) o, (w = true → isL (ec a) = true → o = true) → Dr w a (.ret o (ec a)) := fun a o h => ⟨o, rfl, h⟩
theorem rb_ret {w : Bool} (hw : ∀ a : α, w = true → isL (ec a) = true → ((freshE fr e && isL (ec a)) || ownR en e) = true) (h : Ev C e en g) : Bx fr C (.cons (.ret e) r) en g (Dr w) := by
  have z := rb_retG (r := r) (D := Dr w) (j := id) dr_j hw h
  have e : (g.bind fun a => VR.ok (id a)) = g := bind_id g
  rw [e] at z; exact z
theorem dl_j {σ : Type} {w : Bool} {R : σ → VEnv → Prop} : ∀ (a : α) o, (w = true → isL (ec a) = true → o = true) → Dl w R (.rt a) (.ret o (ec a)) := fun a o h => ⟨o, rfl, h⟩
theorem de_j {σ : Type} {w : Bool} {R : σ → VEnv → Prop} : ∀ (a : α) o, (w = true → isL (ec a) = true → o = true) → De w R (.rt a) (.ret o (ec a)) := fun a o h => ⟨o, rfl, h⟩
theorem rl_ret {σ : Type} {R : σ → VEnv → Prop} {w : Bool} (hw : ∀ a : α, w = true → isL (ec a) = true → ((freshE fr e && isL (ec a)) || ownR en e) = true) (h : Ev C e en g) : Bx fr C (.cons (.ret e) r) en (g.bind fun a => .ok (.rt a)) (Dl w R) := rb_retG dl_j hw h
theorem re_ret {σ : Type} {R : σ → VEnv → Prop} {w : Bool} (hw : ∀ a : α, w = true → isL (ec a) = true → ((freshE fr e && isL (ec a)) || ownR en e) = true) (h : Ev C e en g) : Bx fr C (.cons (.ret e) r) en (g.bind fun a => .ok (.rt a)) (De w R) := rb_retG de_j hw h
end
/-! ends of blocks -/
section
variable {σ ρ : Type} [Ty ρ] {R : σ → VEnv → Prop} {s : σ} {w : Bool}
theorem nil_eq : exVB fr C .nil en = .ok (.nx en) := by rw [exVB]
theorem rj_nil (h : R s en) : Bx fr C .nil en (.ok s) (Dj R) := ⟨_, nil_eq, en, rfl, h⟩
theorem rn_nil (h : R s en) : Bx fr C .nil en (.ok s) (Dn R) := ⟨_, nil_eq, en, .inl rfl, h⟩
theorem rl_nil (h : R s en) : Bx fr C .nil en (.ok (.nx s)) (Dl (ρ := ρ) w R) := ⟨_, nil_eq, en, .inl rfl, h⟩
theorem re_nil (h : R s en) : Bx fr C .nil en (.ok (.nx s)) (De (ρ := ρ) w R) := ⟨_, nil_eq, en, rfl, h⟩
theorem rn_cnt (h : R s en) : Bx fr C (.cons .cnt r) en (.ok s) (Dn R) := ⟨.cnt en, by rw [cons_eq, exV]; rfl, en, .inr rfl, h⟩
theorem rl_cnt (h : R s en) : Bx fr C (.cons .cnt r) en (.ok (.nx s)) (Dl (ρ := ρ) w R) := ⟨.cnt en, by rw [cons_eq, exV]; rfl, en, .inr rfl, h⟩
theorem rl_brk (h : R s en) : Bx fr C (.cons .brk r) en (.ok (.bk s)) (Dl (ρ := ρ) w R) := ⟨.brk en, by rw [cons_eq, exV]; rfl, en, rfl, h⟩
end
/-! either way -/
def app : Sts → Sts → Sts
  | .nil, r => r
  | .cons s a, r => .cons s (app a r)
theorem app_seq : ∀ (a : Sts) {r : Sts} {en : VEnv}, exVB fr C (app a r) en = (exVB fr C a en).bind fun f => match f with
    | .nx en' => exVB fr C r en'
    | f => .ok f
  | .nil, r, en => by rw [nil_eq]; rfl
  | .cons s a, r, en => by
    show exVB fr C (.cons s (app a r)) en = _
    rw [cons_eq, cons_eq, VL.bind_as]; congr; funext f
    cases f with
    | nx en' => exact app_seq a
    | _ => rfl
theorem if_eq {c : E} {a b : Sts} : exVB fr C (.cons (.ifs c a b) r) en = (evV C c en).bind fun x => (truU x).bind fun t => if t = true then exVB fr C (app a r) en else exVB fr C (app b r) en := by
  rw [cons_eq, exV, VL.bind_as]; congr; funext x; rw [VL.bind_as]; congr; funext t; rw [VL.ite_bi, app_seq, app_seq]
theorem rb_if {c : E} {a b : Sts} {gc : VR Bool} {ga gb : VR γ} (hc : Ev C c en gc) (ha : Bx fr C (app a r) en ga D) (hb : Bx fr C (app b r) en gb D) : Bx fr C (.cons (.ifs c a b) r) en (gc.bind fun t => if t = true then ga else gb) D := by
  unfold Bx; rw [if_eq]
  exact Rf.bb hc fun t => by cases t; exact hb; exact ha
theorem rb_ifj {σ : Type} {R : σ → VEnv → Prop} {c : E} {a b : Sts} {gc : VR Bool} {ga gb : VR σ} {k : σ → VR γ} (hc : Ev C c en gc) (ha : Bx fr C a en ga (Dj R)) (hb : Bx fr C b en gb (Dj R)) (hk : ∀ s en', R s en' → Bx fr C r en' (k s) D) :
    Bx fr C (.cons (.ifs c a b) r) en ((gc.bind fun t => if t = true then ga else gb).bind k) D := by
  refine rb_cut (R := R) ?_ hk
  have z : Bx fr C (.cons (.ifs c a b) .nil) en (gc.bind fun t => if t = true then ga else gb) (Dj R) := by
    have app_nil : ∀ a : Sts, app a .nil = a := fun a => by
      induction a using NL.Sts.rec (motive_1 := fun _ => True) with
      | nil => rfl
      | cons s r _ ih => show NL.Sts.cons s (app r .nil) = _; rw [ih]
      | _ => trivial
    exact rb_if hc (by rw [app_nil]; exact ha) (by rw [app_nil]; exact hb)
  unfold Bx at z
  rw [cons_eq] at z
  have e : (exV fr C (.ifs c a b) en).bind (fun f => match f with | .nx en' => exVB fr C .nil en' | f => .ok f) = exV fr C (.ifs c a b) en := by
    have : (fun f : VF => match f with | .nx en' => exVB fr C .nil en' | f => .ok f) = VR.ok := by
      funext f; cases f <;> first | rfl | exact nil_eq
    rw [this, bind_id]
  rw [e] at z
  exact z
/-! loops -/
section
variable {α σ ρ : Type} [Ty α] [Ty ρ]
def forM {α σ : Type} : List α → σ → (α → σ → VR σ) → VR σ
  | [], s, _ => .ok s
  | x :: xs, s, f => (f x s).bind fun s' => forM xs s' f
def forF {α σ ρ : Type} : List α → σ → (α → σ → VR (Fl σ ρ)) → VR (Fl σ ρ)
  | [], s, _ => .ok (.nx s)
  | x :: xs, s, f => (f x s).bind fun r => match r with
    | .nx s' => forF xs s' f
    | .bk s' => .ok (.nx s')
    | .rt a => .ok (.rt a)
def whlM {σ : Type} : Nat → (σ → VR Bool) → (σ → VR σ) → σ → VR σ
  | 0, _, _, _ => .stuck
  | n + 1, c, f, s => (c s).bind fun t => if t = true then (f s).bind fun s' => whlM n c f s' else .ok s
def whlF {σ ρ : Type} : Nat → (σ → VR Bool) → (σ → VR (Fl σ ρ)) → σ → VR (Fl σ ρ)
  | 0, _, _, _ => .stuck
  | n + 1, c, f, s => (c s).bind fun t => if t = true then (f s).bind fun r => match r with
    | .nx s' => whlF n c f s'
    | .bk s' => .ok (.nx s')
    | .rt a => .ok (.rt a) else .ok (.nx s)
/-- what a for statement walks, the names as it begins -/
def Rx {α : Type} (x : VR VF) (g : VR α) (f : α → VR VF) : Prop := match g with
  | .ok a => x = f a
  | .exc c u => x = .exc c u
  | .stuck => True
def Fi (fr : Nat → Bool) (C : Nat → List U → VR U) (it : NL.It) (en : VEnv) (gi : VR (List α)) (en1 : VEnv) : Prop := ∀ tg b, Rx (exV fr C (.for_ tg it b) en) gi fun l => forV (bindV tg) (fun en' => exVB fr C b en') (l.map ec) en1
theorem Fi.mk {it : NL.It} {gi : VR (List α)} {en1 : VEnv} {r : VR (List U)} (h : Rl r gi) (e : ∀ tg b, (exV fr C (.for_ tg it b) en) = r.bind fun xs => forV (bindV tg) (fun en' => exVB fr C b en') xs en1) : Fi fr C it en gi en1 := fun tg b => by
  rw [e]
  cases gi with
  | ok l => rw [show r = .ok (l.map ec) from h]; exact rfl
  | exc c u => rw [show r = .exc c u from h]; exact rfl
  | stuck => trivial
theorem val_eq {tg : Tg} {b : Sts} : exV fr C (.for_ tg (.val e) b) en = (evV C e en).bind fun u => (iterU u).bind fun p => forV (bindV tg) (fun en' => exVB fr C b en') p.1 (if ((!p.2 || (freshE fr e && isL u)) && noLs p.1) = true then en else unown en (fvE e)) := by rw [exV]
theorem fi_new [Flat α] {g : VR (List α)} (hf : freshE fr e = true) (h : Ev C e en g) : Fi fr C (.val e) en g en := fun tg b => by
  rw [val_eq]
  cases g with
  | ok l =>
    rw [show evV C e en = .ok (ec l) from h]
    show forV (bindV tg) (fun en' => exVB fr C b en') (l.map ec) (if ((!true || (freshE fr e && true)) && noLs (l.map ec)) = true then en else unown en (fvE e)) = _
    rw [hf, noLs_flat]; rfl
  | exc c u => rw [show evV C e en = .exc c u from h]; exact rfl
  | stuck => trivial
theorem fi_old {g : VR (List α)} (hf : freshE fr e = false) (h : Ev C e en g) : Fi fr C (.val e) en g (unown en (fvE e)) := fun tg b => by
  rw [val_eq]
  cases g with
  | ok l =>
    rw [show evV C e en = .ok (ec l) from h]
    show forV (bindV tg) (fun en' => exVB fr C b en') (l.map ec) (if ((!true || (freshE fr e && true)) && noLs (l.map ec)) = true then en else unown en (fvE e)) = _
    rw [hf]; rfl
  | exc c u => rw [show evV C e en = .exc c u from h]; exact rfl
  | stuck => trivial
/-- a new list of lists, of names that are none's own -/
theorem fi_newH {g : VR (List α)} (he : unown en (fvE e) = en) (h : Ev C e en g) : Fi fr C (.val e) en g en := fun tg b => by
  rw [val_eq]
  cases g with
  | ok l =>
    rw [show evV C e en = .ok (ec l) from h, he]
    show forV (bindV tg) (fun en' => exVB fr C b en') (l.map ec) (if _ then en else en) = _
    rw [ite_self]
  | exc c u => rw [show evV C e en = .exc c u from h]; exact rfl
  | stuck => trivial
theorem fi_scr {g : VR Scr} (h : Ev C e en g) : Fi fr C (.val e) en (g.bind fun l => .ok l.ns) (unown en (fvE e)) := fun tg b => by
  rw [val_eq]
  cases g with
  | ok l =>
    rw [show evV C e en = .ok (ec l) from h]
    show forV (bindV tg) (fun en' => exVB fr C b en') (l.ns.map ec) (if ((!true || (freshE fr e && false)) && noLs (l.ns.map ec)) = true then en else unown en (fvE e)) = _
    rw [Bool.and_false]; rfl
  | exc c u => rw [show evV C e en = .exc c u from h]; exact rfl
  | stuck => trivial
theorem fi_tupG {τ : Type} [Ty τ] {g : VR τ} {k : τ → List α} (hk : ∀ a, ec a = .tup ((k a).map ec)) [Flat α] (h : Ev C e en g) : Fi fr C (.val e) en (g.bind fun a => .ok (k a)) en := fun tg b => by
  rw [val_eq]
  cases g with
  | ok l =>
    rw [show evV C e en = .ok (ec l) from h, hk]
    show forV (bindV tg) (fun en' => exVB fr C b en') ((k l).map ec) (if ((!false || _) && noLs ((k l).map ec)) = true then en else unown en (fvE e)) = _
    rw [noLs_flat]; rfl
  | exc c u => rw [show evV C e en = .exc c u from h]; exact rfl
  | stuck => trivial
theorem fi_two [Flat α] {g : VR (α × α)} (h : Ev C e en g) : Fi fr C (.val e) en (g.bind fun p => .ok [p.1, p.2]) en := fi_tupG (k := fun p : α × α => [p.1, p.2]) (fun _ => rfl) h
theorem fi_three [Flat α] {g : VR (T3 α α α)} (h : Ev C e en g) : Fi fr C (.val e) en (g.bind fun p => .ok [p.a, p.b, p.c]) en := fi_tupG (k := fun p : T3 α α α => [p.a, p.b, p.c]) (fun _ => rfl) h
theorem fi_rng1 {g : VR Int} (h : Ev C e en g) : Fi fr C (.rng1 e) en (g.bind fun j => rngM 0 j) en :=
  .mk (r := (evV C e en).bind fun y => rngU (.int 0) y) (Rf.bil h fun j => rng_rl 0 j) fun tg b => by
    rw [exV]
    · rw [evVt]; simp only [VL.bind_as]; rfl
    all_goals (intros; rename_i z; cases z)
theorem fi_rng2 {f : E} {g h : VR Int} (he : Ev C e en g) (hf : Ev C f en h) : Fi fr C (.rng2 e f) en (g.bind fun i => h.bind fun j => rngM i j) en :=
  .mk (r := (evV C e en).bind fun x => (evV C f en).bind fun y => rngU x y) (Rf.bil he fun i => Rf.bil hf fun j => rng_rl i j) fun tg b => by
    rw [exV]
    · rw [evVt]; simp only [VL.bind_as]; rfl
    all_goals (intros; rename_i z; cases z)
theorem fi_enm {g : VR (List α)} (h : Ev C e en g) : Fi fr C (.enm e) en (g.bind fun l => .ok (enmL 0 l)) (unown en (fvE e)) :=
  .mk (r := (evV C e en).bind enmU) (Rf.bil h fun l => by
    show VR.ok (numU 0 (l.map ec)) = .ok _
    rw [num_map]) fun tg b => by rw [exV, VL.bind_as]
theorem fi_zip {β : Type} [Ty β] {f : E} {g : VR (List α)} {h : VR (List β)} (he : Ev C e en g) (hf : Ev C f en h) : Fi fr C (.zip e f) en (g.bind fun l => h.bind fun m => .ok (zipL l m)) (unown en (fvE e ++ fvE f)) :=
  .mk (r := (evV C e en).bind fun x => (evV C f en).bind fun y => zipU x y) (Rf.bil he fun l => Rf.bil hf fun m => by
    show VR.ok (zpU (l.map ec) (m.map ec)) = .ok _
    rw [zip_map]) fun tg b => by rw [exV]; simp only [VL.bind_as]
theorem fi_zipT {β : Type} [Ty β] {f : E} {g : VR (α × α)} {h : VR (β × β)} (he : Ev C e en g) (hf : Ev C f en h) : Fi fr C (.zip e f) en (g.bind fun l => h.bind fun m => .ok [(l.1, m.1), (l.2, m.2)]) (unown en (fvE e ++ fvE f)) :=
  .mk (r := (evV C e en).bind fun x => (evV C f en).bind fun y => zipU x y) (Rf.bil he fun l => Rf.bil hf fun m => (rfl : VR.ok _ = .ok _)) fun tg b => by rw [exV]; simp only [VL.bind_as]
theorem for_dj {R : σ → VEnv → Prop} {tg : Tg} {b : Sts} {f : α → σ → VR σ} (hb : ∀ x s en, R s en → ∃ en', bindV tg (ec x) en = .ok en' ∧ Bx fr C b en' (f x s) (Dn R)) :
    ∀ (l : List α) (s : σ) (en : VEnv), R s en → Rb (forV (bindV tg) (fun en' => exVB fr C b en') (l.map ec) en) (forM l s f) (Dj R)
  | [], s, en, h => ⟨_, rfl, en, rfl, h⟩
  | x :: l, s, en, h => by
    obtain ⟨en', h1, h2⟩ := hb x s en h
    show Rb ((bindV tg (ec x) en).bind fun en1 => (exVB fr C b en1).bind fun f => match f with
      | .nx en' => forV (bindV tg) (fun en' => exVB fr C b en') (l.map ec) en'
      | .cnt en' => forV (bindV tg) (fun en' => exVB fr C b en') (l.map ec) en'
      | .brk en' => .ok (.nx en')
      | f => .ok f) ((f x s).bind fun s' => forM l s' f) (Dj R)
    rw [h1]
    exact Rb.bi h2 fun s' f' ⟨en2, h3, h4⟩ => by
      rcases h3 with rfl | rfl
      · exact for_dj hb l s' en2 h4
      · exact for_dj hb l s' en2 h4
theorem for_de {w : Bool} {R : σ → VEnv → Prop} {tg : Tg} {b : Sts} {f : α → σ → VR (Fl σ ρ)} (hb : ∀ x s en, R s en → ∃ en', bindV tg (ec x) en = .ok en' ∧ Bx fr C b en' (f x s) (Dl w R)) :
    ∀ (l : List α) (s : σ) (en : VEnv), R s en → Rb (forV (bindV tg) (fun en' => exVB fr C b en') (l.map ec) en) (forF l s f) (De w R)
  | [], s, en, h => ⟨_, rfl, en, rfl, h⟩
  | x :: l, s, en, h => by
    obtain ⟨en', h1, h2⟩ := hb x s en h
    show Rb ((bindV tg (ec x) en).bind fun en1 => (exVB fr C b en1).bind fun f => match f with
      | .nx en' => forV (bindV tg) (fun en' => exVB fr C b en') (l.map ec) en'
      | .cnt en' => forV (bindV tg) (fun en' => exVB fr C b en') (l.map ec) en'
      | .brk en' => .ok (.nx en')
      | f => .ok f) ((f x s).bind fun r => match r with
      | .nx s' => forF l s' f
      | .bk s' => .ok (.nx s')
      | .rt a => .ok (.rt a)) (De w R)
    rw [h1]
    refine Rb.bi h2 fun s' f' d => ?_
    cases s' with
    | nx s' =>
      obtain ⟨en2, h3, h4⟩ := d
      rcases h3 with rfl | rfl
      · exact for_de hb l s' en2 h4
      · exact for_de hb l s' en2 h4
    | bk s' =>
      obtain ⟨en2, rfl, h4⟩ := d
      exact ⟨_, rfl, en2, rfl, h4⟩
    | rt a =>
      obtain ⟨o, rfl, h4⟩ := d
      exact ⟨_, rfl, o, rfl, h4⟩
theorem rb_for {it : NL.It} {gi : VR (List α)} {en1 : VEnv} {R : σ → VEnv → Prop} {tg : Tg} {b : Sts} {f : α → σ → VR σ} {s : σ} {k : σ → VR γ} (hi : Fi fr C it en gi en1) (h0 : R s en1)
    (hb : ∀ x s en, R s en → ∃ en', bindV tg (ec x) en = .ok en' ∧ Bx fr C b en' (f x s) (Dn R)) (hk : ∀ s en', R s en' → Bx fr C r en' (k s) D) : Bx fr C (.cons (.for_ tg it b) r) en (gi.bind fun l => (forM l s f).bind k) D := by
  unfold Bx; rw [cons_eq]
  have hi := hi tg b
  cases gi with
  | ok l =>
    rw [show exV fr C (.for_ tg it b) en = forV (bindV tg) (fun en' => exVB fr C b en') (l.map ec) en1 from hi]
    exact Rb.bi (g := forM l s f) (for_dj hb l s en1 h0) fun s' f' ⟨en2, h1, h2⟩ => by subst h1; exact hk s' en2 h2
  | exc c u => rw [show exV fr C (.for_ tg it b) en = _ from hi]; exact (rfl : (VR.exc c u : VR VF) = .exc c u)
  | stuck => trivial
theorem de_use {w : Bool} {R : σ → VEnv → Prop} {x : VR VF} {g : VR (Fl σ ρ)} {kn : σ → VR γ} {j : ρ → γ} (hj : ∀ a o, (w = true → isL (ec a) = true → o = true) → D (j a) (.ret o (ec a))) (h : Rb x g (De w R)) (hk : ∀ s en', R s en' → Bx fr C r en' (kn s) D) :
    Rb (x.bind fun f => match f with | .nx en' => exVB fr C r en' | f => .ok f) (g.bind (Fl.elim kn fun a => .ok (j a))) D :=
  Rb.bi h fun s' f' d => by
    cases s' with
    | nx s' => obtain ⟨en2, rfl, h4⟩ := d; exact hk s' en2 h4
    | bk s' => obtain ⟨en2, rfl, h4⟩ := d; exact hk s' en2 h4
    | rt a => obtain ⟨o, rfl, h4⟩ := d; exact ⟨_, rfl, hj a o h4⟩
theorem rb_forF {w : Bool} {it : NL.It} {gi : VR (List α)} {en1 : VEnv} {R : σ → VEnv → Prop} {tg : Tg} {b : Sts} {f : α → σ → VR (Fl σ ρ)} {s : σ} {kn : σ → VR γ} {j : ρ → γ} (hj : ∀ a o, (w = true → isL (ec a) = true → o = true) → D (j a) (.ret o (ec a))) (hi : Fi fr C it en gi en1) (h0 : R s en1)
    (hb : ∀ x s en, R s en → ∃ en', bindV tg (ec x) en = .ok en' ∧ Bx fr C b en' (f x s) (Dl w R)) (hk : ∀ s en', R s en' → Bx fr C r en' (kn s) D) : Bx fr C (.cons (.for_ tg it b) r) en (gi.bind fun l => (forF l s f).bind (Fl.elim kn fun a => .ok (j a))) D := by
  unfold Bx; rw [cons_eq]
  have hi := hi tg b
  cases gi with
  | ok l =>
    rw [show exV fr C (.for_ tg it b) en = forV (bindV tg) (fun en' => exVB fr C b en') (l.map ec) en1 from hi]
    exact de_use (g := forF l s f) hj (for_de hb l s en1 h0) hk
  | exc c u => rw [show exV fr C (.for_ tg it b) en = _ from hi]; exact (rfl : (VR.exc c u : VR VF) = .exc c u)
  | stuck => trivial
theorem Rf.tru {x : VR U} {g : VR Bool} (h : Rf x g) : Ri (x.bind truU) g := by
  cases g with
  | ok b => rw [show x = .ok (ec b) from h]; exact (rfl : VR.ok b = .ok b)
  | exc c u => rw [show x = .exc c u from h]; exact (rfl : (VR.exc c u : VR Bool) = .exc c u)
  | stuck => trivial
theorem Ri.bb {α : Type} {x : VR α} {f : α → VR VF} {g : VR α} {k : α → VR γ} (h : Ri x g) (hk : ∀ a, Rb (f a) (k a) D) : Rb (x.bind f) (g.bind k) D := by
  cases g with
  | ok a => rw [show x = .ok a from h]; exact hk a
  | exc c u => rw [show x = .exc c u from h]; exact (rfl : (VR.exc c u : VR VF) = .exc c u)
  | stuck => trivial
theorem whl_dj {R : σ → VEnv → Prop} {c : E} {b : Sts} {gc : σ → VR Bool} {f : σ → VR σ} (hc : ∀ s en, R s en → Ev C c en (gc s)) (hb : ∀ s en, R s en → Bx fr C b en (f s) (Dn R)) :
    ∀ (n : Nat) (s : σ) (en : VEnv), R s en → Rb (whlV (fun en' => (evV C c en').bind truU) (fun en' => exVB fr C b en') n en) (whlM n gc f s) (Dj R)
  | 0, s, en, h => trivial
  | n + 1, s, en, h => by
    unfold whlV whlM
    refine Ri.bb (hc s en h).tru fun t => ?_
    cases t with
    | false => exact ⟨_, rfl, en, rfl, h⟩
    | true =>
      rw [if_pos rfl, if_pos rfl]
      exact Rb.bi (hb s en h) fun s' f' ⟨en2, h3, h4⟩ => by
        rcases h3 with rfl | rfl
        · exact whl_dj hc hb n s' en2 h4
        · exact whl_dj hc hb n s' en2 h4
theorem whl_de {w : Bool} {R : σ → VEnv → Prop} {c : E} {b : Sts} {gc : σ → VR Bool} {f : σ → VR (Fl σ ρ)} (hc : ∀ s en, R s en → Ev C c en (gc s)) (hb : ∀ s en, R s en → Bx fr C b en (f s) (Dl w R)) :
    ∀ (n : Nat) (s : σ) (en : VEnv), R s en → Rb (whlV (fun en' => (evV C c en').bind truU) (fun en' => exVB fr C b en') n en) (whlF n gc f s) (De w R)
  | 0, s, en, h => trivial
  | n + 1, s, en, h => by
    unfold whlV whlF
    refine Ri.bb (hc s en h).tru fun t => ?_
    cases t with
    | false => exact ⟨_, rfl, en, rfl, h⟩
    | true =>
      rw [if_pos rfl, if_pos rfl]
      refine Rb.bi (hb s en h) fun s' f' d => ?_
      cases s' with
      | nx s' =>
        obtain ⟨en2, h3, h4⟩ := d
        rcases h3 with rfl | rfl
        · exact whl_de hc hb n s' en2 h4
        · exact whl_de hc hb n s' en2 h4
      | bk s' => obtain ⟨en2, rfl, h4⟩ := d; exact ⟨_, rfl, en2, rfl, h4⟩
      | rt a => obtain ⟨o, rfl, h4⟩ := d; exact ⟨_, rfl, o, rfl, h4⟩
theorem rb_whl {R : σ → VEnv → Prop} {c : E} {b : Sts} {gc : σ → VR Bool} {f : σ → VR σ} {s : σ} {k : σ → VR γ} (h0 : R s en) (hc : ∀ s en, R s en → Ev C c en (gc s)) (hb : ∀ s en, R s en → Bx fr C b en (f s) (Dn R)) (hk : ∀ s en', R s en' → Bx fr C r en' (k s) D) :
    Bx fr C (.cons (.whl c b) r) en ((whlM fuel gc f s).bind k) D := by
  refine rb_cut (R := R) ?_ hk
  rw [exV]
  exact whl_dj hc hb _ s en h0
theorem rb_whlF {w : Bool} {R : σ → VEnv → Prop} {c : E} {b : Sts} {gc : σ → VR Bool} {f : σ → VR (Fl σ ρ)} {s : σ} {kn : σ → VR γ} {j : ρ → γ} (hj : ∀ a o, (w = true → isL (ec a) = true → o = true) → D (j a) (.ret o (ec a))) (h0 : R s en) (hc : ∀ s en, R s en → Ev C c en (gc s)) (hb : ∀ s en, R s en → Bx fr C b en (f s) (Dl w R)) (hk : ∀ s en', R s en' → Bx fr C r en' (kn s) D) :
    Bx fr C (.cons (.whl c b) r) en ((whlF fuel gc f s).bind (Fl.elim kn fun a => .ok (j a))) D := by
  unfold Bx; rw [cons_eq, exV]
  exact de_use hj (whl_de hc hb _ s en h0) hk
end
/-! defs -/
theorem fn_rf {α : Type} [Ty α] {T : Nat → Option Fn} {n k : Nat} {fn : Fn} {us : List U} {w : Bool} {g : VR α} (hT : T k = some fn) (hF : fr k = w) (hn : us.length = fn.np) (hb : Bx fr (callV T fr n) fn.body (us.map (fun u => some (false, u)) ++ List.replicate (fn.nv - fn.np) none) g (Dr w)) :
    Rf (callV T fr (n + 1) k us) g := by
  show Rf (match T k with | some fn => runV fr (callV T fr n) (fr k) fn us | none => .stuck) g
  rw [hT]
  show Rf (runV fr (callV T fr n) (fr k) fn us) g
  rw [run_eq hn, hF]
  cases g with
  | ok a =>
    obtain ⟨f, h1, o, rfl, h2⟩ := hb
    rw [h1]
    show (if (w && isL (ec a) && !o) = true then VR.stuck else .ok (ec a)) = .ok (ec a)
    rw [if_neg]
    intro z
    simp only [Bool.and_eq_true, Bool.not_eq_true'] at z
    rw [h2 z.1.1 z.1.2] at z
    exact absurd z.2 (by decide)
  | exc c u => rw [show exVB fr _ _ _ = .exc c u from hb]; exact rfl
  | stuck => trivial
end
/-! casts -/
open Classical in
/-- a tuple of two whole numbers as a place -/
@[irreducible] noncomputable def toP (p : Int × Int) : VR P := if h : Sz 1000 p.1 ∧ Sz 1000 p.2 then .ok ⟨p.1, p.2, h.1, h.2⟩ else .stuck
open Classical in
@[irreducible] noncomputable def toFr (m : Nat) (p : Int × Int) : VR (Fr m) := if h : Sz m p.1 ∧ Sz m p.2 then .ok ⟨p.1, p.2, h.1, h.2⟩ else .stuck
section
variable {C : Nat → List U → VR U} {en : VEnv} {e : E}
theorem ev_toP {g : VR (Int × Int)} (h : Ev C e en g) : Ev C e en (g.bind toP) := h.then fun p => by
  unfold toP; split
  · exact rfl
  · trivial
theorem ev_toFr {m : Nat} {g : VR (Int × Int)} (h : Ev C e en g) : Ev C e en (g.bind (toFr m)) := h.then fun p => by
  unfold toFr; split
  · exact rfl
  · trivial
theorem ev_ofP {g : VR P} (h : Ev C e en g) : Ev C e en (g.bind fun p => .ok (p.x, p.y)) := h.then fun p => rfl
theorem ev_ofFr {m : Nat} {g : VR (Fr m)} (h : Ev C e en g) : Ev C e en (g.bind fun p => .ok (p.n, p.d)) := h.then fun p => rfl
def mapT {α β : Type} (f : α → VR β) : List α → VR (List β)
  | [] => .ok []
  | x :: l => (f x).bind fun y => (mapT f l).bind fun r => .ok (y :: r)
theorem mapT_rl {α β : Type} [Ty α] [Ty β] {f : α → VR β} (hf : ∀ a, Rf (.ok (ec a)) (f a)) : ∀ l : List α, Rl (.ok (l.map ec)) (mapT f l)
  | [] => (rfl : VR.ok _ = .ok _)
  | x :: l => Rf.bil (r := .ok (ec x)) (f := fun u => .ok (u :: l.map ec)) (hf x) fun y => Rl.bil (r := .ok (l.map ec)) (f := fun us => .ok (ec y :: us)) (mapT_rl hf l) fun r => (rfl : VR.ok _ = .ok _)
theorem ev_mapT {α β : Type} [Ty α] [Ty β] {f : α → VR β} (hf : ∀ a, Rf (.ok (ec a)) (f a)) {g : VR (List α)} (h : Ev C e en g) : Ev C e en (g.bind (mapT f)) := h.then fun l => by
  have z := mapT_rl hf l
  cases hm : mapT f l with
  | ok r => rw [hm] at z; show VR.ok (U.lst (l.map ec)) = .ok (.lst (r.map ec)); rw [show l.map ec = r.map ec from (VR.ok.injEq _ _ ▸ z)]
  | exc c u => rw [hm] at z; cases (show VR.ok _ = VR.exc c u from z)
  | stuck => trivial
theorem toP_rf (a : Int × Int) : Rf (.ok (ec a)) (toP a) := by
  unfold toP; split
  · exact rfl
  · trivial
end
end TL

/-! Further readings. -/
namespace TL
open PySem PySem.Spec PyProof.Rows L2 NL GM VL
open Ty (ec)
/-- a power that is written -/
def pwr (a b : Nat) : Int := ((a ^ b : Nat) : Int)
section
variable {fr : Nat → Bool} {C : Nat → List U → VR U} {en : VEnv} {γ : Type} {D : γ → VF → Prop} {r : Sts} {i : Nat} {e : E}
theorem ev_pwr {a b : Nat} (h : 0 ≤ (b : Int) ∧ (Builtin.Int.intBits (a : Int) : Int) * (b : Int) ≤ 2 ^ 27) : Ev C (.bin .pow (.con (.int a)) (.con (.int b))) en (.ok (pwr a b)) := by
  have z := ev_bin (C := C) (en := en) oPow (ev_int (i := (a : Int))) (ev_int (i := (b : Int)))
  have e : powM (a : Int) (b : Int) = .ok (pwr a b) := by
    unfold powM pwr
    rw [if_pos h, Int.toNat_natCast]
    congr 1
  have z : Ev C (.bin .pow (.con (.int a)) (.con (.int b))) en (powM (a : Int) (b : Int)) := z
  rw [e] at z
  exact z
variable {α β : Type} [Ty α] [Ty β]
theorem rb_set_n0 {g : VR (List α)} {k : List α → VR γ} (hf : freshE fr e = true) (hu : unown en (fvE e) = en) (h : Ev C e en g) (hk : ∀ l, Bx fr C r (en.set i (some (true, .lst (l.map ec)))) (k l) D) : Bx fr C (.cons (.set i e) r) en (g.bind k) D :=
  rb_set_n hf h fun l en' he => by rw [hu] at he; rcases he with rfl | rfl <;> exact hk l
theorem rb_ifT {c : E} {a b : Sts} {ga : VR γ} (hc : Ev C c en (.ok true)) (ha : Bx fr C (app a r) en ga D) : Bx fr C (.cons (.ifs c a b) r) en ga D := by
  unfold Bx; rw [if_eq, show evV C c en = .ok (.bl true) from hc]; exact ha
theorem rb_ifF {c : E} {a b : Sts} {gb : VR γ} (hc : Ev C c en (.ok false)) (hb : Bx fr C (app b r) en gb D) : Bx fr C (.cons (.ifs c a b) r) en gb D := by
  unfold Bx; rw [if_eq, show evV C c en = .ok (.bl false) from hc]; exact hb
theorem rb_set_x0 {g : VR α} {k : α → VR γ} (hu : unown en (fvE e) = en) (h : Ev C e en g) (hk : ∀ a w, Bx fr C r (en.set i (some (w, ec a))) (k a) D) : Bx fr C (.cons (.set i e) r) en (g.bind k) D :=
  rb_set_x h fun a w en' he => by rw [hu] at he; rcases he with rfl | rfl <;> exact hk a w
end
section
variable {C : Nat → List U → VR U} {en : VEnv} {α β γ δ ε : Type} [Ty α] [Ty β] [Ty γ] [Ty δ] [Ty ε]
theorem oEqS (x : Scr) (l : List Int) : Rf (cmpU .eq (ec x) (ec l)) (.ok (decide (x.ns = l))) := oEq (α := List Int) (by decide) x.ns l
theorem oNeS (x : Scr) (l : List Int) : Rf (cmpU .ne (ec x) (ec l)) (.ok (!decide (x.ns = l))) := oNe (α := List Int) (by decide) x.ns l
theorem ev_b4 {t : Blt} {a b c d : E} {ga : VR α} {gb : VR β} {gc : VR γ} {gd : VR δ} {op : α → β → γ → δ → VR ε} (ho : ∀ x y z w, Rf (bltU t [ec x, ec y, ec z, ec w]) (op x y z w)) (ha : Ev C a en ga) (hb : Ev C b en gb) (hc : Ev C c en gc) (hd : Ev C d en gd) : Ev C (.blt t (.cons a (.cons b (.cons c (.cons d .nil))))) en (ga.bind fun x => gb.bind fun y => gc.bind fun z => gd.bind fun w => op x y z w) := by
  unfold Ev; rw [evV, evVs, evVs, evVs, evVs, evVs]; simp only [VL.bind_as, VL.ok_bi]; exact Rf.bi ha fun x => Rf.bi hb fun y => Rf.bi hc fun z => Rf.bi hd fun w => ho x y z w
theorem mnU4 {o : Cop} {a b c d : U} : mnU o [a, b, c, d] = optU (bestU o [a, b, c, d]) := by cases a <;> rfl
variable [DecidableEq α] {d : Nat}
theorem bMin4 [r : Or α d] (h : d ≤ 12 := by decide) (x y z w : α) : Rf (bltU .min [ec x, ec y, ec z, ec w]) (.ok (mnT (mnT (mnT x y) z) w)) := by
  show mnU .lt [ec x, ec y, ec z, ec w] = _
  rw [mnU4]
  show optU (bestU .lt ([x, y, z, w].map ec)) = _
  rw [best_bst (.inl rfl) h]; rfl
theorem bMax3 [r : Or α d] (h : d ≤ 12 := by decide) (x y z : α) : Rf (bltU .max [ec x, ec y, ec z]) (.ok (mxT (mxT x y) z)) := by
  show mnU .gt [ec x, ec y, ec z] = _
  rw [mnU3]
  show optU (bestU .gt ([x, y, z].map ec)) = _
  rw [best_bst (.inr (.inl rfl)) h]; rfl
end
section
variable {C : Nat → List U → VR U} {en : VEnv}
theorem ev_orL {a b : E} {c : Bool} {gb : VR Bool} (ha : Ev C a en (.ok c)) (hb : Ev C b en gb) : Ev C (.or a b) en (if c = true then .ok true else gb) := ev_or ha hb
theorem ev_andL {a b : E} {c : Bool} {gb : VR Bool} (ha : Ev C a en (.ok c)) (hb : Ev C b en gb) : Ev C (.and a b) en (if c = true then gb else .ok false) := ev_and ha hb
end
end TL

/-! What typed readings evaluate to. -/
namespace TL
open PySem PySem.Spec PyProof.Rows L2 NL GM VL
open Ty (ec)
@[simp] theorem ok_bind {α β : Type} {a : α} {k : α → VR β} : (VR.ok a).bind k = k a := rfl
@[simp] theorem exc_bind {α β : Type} {c : Str} {u : U} {k : α → VR β} : (VR.exc c u : VR α).bind k = .exc c u := rfl
theorem bind_assoc {α β γ : Type} (r : VR α) (f : α → VR β) (g : β → VR γ) : (r.bind f).bind g = r.bind fun x => (f x).bind g := VL.bind_as r f g
theorem bind_ok {α β : Type} {r : VR α} {a : α} {k : α → VR β} (h : r = .ok a) : r.bind k = k a := by rw [h]; rfl
@[simp] theorem elim_nx {σ ρ γ : Type} {kn : σ → γ} {kr : ρ → γ} {s : σ} : Fl.elim kn kr (.nx s) = kn s := rfl
@[simp] theorem elim_bk {σ ρ γ : Type} {kn : σ → γ} {kr : ρ → γ} {s : σ} : Fl.elim kn kr (.bk s) = kn s := rfl
@[simp] theorem elim_rt {σ ρ γ : Type} {kn : σ → γ} {kr : ρ → γ} {a : ρ} : Fl.elim kn kr (.rt a) = kr a := rfl
/-- an answer of which Q holds -/
def Ok {α : Type} (g : VR α) (Q : α → Prop) : Prop := ∃ a, g = .ok a ∧ Q a
theorem Ok.bind {α β : Type} {g : VR α} {k : α → VR β} {Q : α → Prop} {R : β → Prop} (h : Ok g Q) (hk : ∀ a, Q a → Ok (k a) R) : Ok (g.bind k) R := by
  obtain ⟨a, rfl, h2⟩ := h; exact hk a h2
theorem Ok.of {α : Type} {g : VR α} {a : α} (e : g = .ok a) {Q : α → Prop} (h : Q a) : Ok g Q := ⟨a, e, h⟩
theorem Ok.ok {α : Type} {a : α} {Q : α → Prop} (h : Q a) : Ok (.ok a) Q := ⟨a, rfl, h⟩
theorem Ok.mono {α : Type} {g : VR α} {Q R : α → Prop} (h : Ok g Q) (k : ∀ a, Q a → R a) : Ok g R := by
  obtain ⟨a, e, q⟩ := h; exact ⟨a, e, k a q⟩
/-! numbers -/
theorem mulM_ok {n m : Nat} {x y : Int} [a : Sz n x] [b : Sz m y] (h : n + m ≤ 130000000) : mulM x y = .ok (x * y) := by
  unfold mulM; rw [if_pos ⟨n, m, a.lt, b.lt, h⟩]
theorem modM_p {x y : Int} [p : Pz y] : modM x y = .ok (x % y) := by
  unfold modM; rw [if_pos (Int.ne_of_gt p.pos), Int.fmod_eq_emod_of_nonneg _ (Int.le_of_lt p.pos)]
theorem log2_sz {n : Nat} {y : Int} [s : Sz n y] (hn : n ≤ 9000) : y.natAbs.log2 < 9000 := by
  by_cases h0 : y.natAbs = 0
  · rw [h0]; decide
  · exact Nat.lt_of_lt_of_le ((Nat.log2_lt h0).mpr s.lt) hn
theorem fdivM_p {n : Nat} {x y : Int} [s : Sz n y] [p : Pz y] (hn : n ≤ 9000) : fdivM x y = .ok (x / y) := by
  unfold fdivM; rw [if_pos ⟨Int.ne_of_gt p.pos, log2_sz hn⟩, Int.fdiv_eq_ediv_of_nonneg _ (Int.le_of_lt p.pos)]
theorem modM_pos {x y : Int} (h : 0 < y) : modM x y = .ok (x % y) := by
  unfold modM; rw [if_pos (Int.ne_of_gt h), Int.fmod_eq_emod_of_nonneg _ (Int.le_of_lt h)]
theorem fdivM_pos {n : Nat} {x y : Int} [s : Sz n y] (h : 0 < y) (hn : n ≤ 9000) : fdivM x y = .ok (x / y) := by
  unfold fdivM; rw [if_pos ⟨Int.ne_of_gt h, log2_sz hn⟩, Int.fdiv_eq_ediv_of_nonneg _ (Int.le_of_lt h)]
theorem Sz.le {n m : Nat} {x y : Int} (h : Sz m y) (hx : x.natAbs ≤ y.natAbs) : Sz m x := ⟨Nat.lt_of_le_of_lt hx h.lt⟩
instance sz_ite {n m : Nat} {c : Prop} [Decidable c] {x y : Int} [a : Sz n x] [b : Sz m y] : Sz (n + m) (if c then x else y) := by
  split
  · exact a.up (by omega)
  · exact b.up (by omega)
/-- something of a list of small numbers -/
def pick (l : List Int) (i : Int) : Int := if ((L2.atI l i).getD 0).natAbs < 1000 then (L2.atI l i).getD 0 else 0
instance sz_pick {l : List Int} {i : Int} : Sz 10 (pick l i) := by
  unfold pick; split
  · rename_i h; exact ⟨Nat.lt_of_lt_of_le h (by decide)⟩
  · exact ⟨by decide⟩
theorem atI_nn {α : Type} {l : List α} {i : Int} (h0 : 0 ≤ i) (h1 : i < (l.length : Int)) : L2.atI l i = l[i.toNat]? := by
  unfold L2.atI L2.ixN; rw [if_pos h0, if_pos h1]; rfl
theorem atI_ng {α : Type} {l : List α} {i : Int} (h0 : i < 0) (h1 : -(l.length : Int) ≤ i) : L2.atI l i = l[(i + l.length).toNat]? := by
  unfold L2.atI L2.ixN; rw [if_neg (by omega), if_pos h1]; rfl
theorem atM_get {α : Type} {l : List α} {i : Int} (h0 : 0 ≤ i) (h1 : i < (l.length : Int)) : ∃ a, l[i.toNat]? = some a ∧ atM l i = .ok a := by
  have hlt : i.toNat < l.length := by omega
  refine ⟨l[i.toNat], List.getElem?_eq_getElem hlt, ?_⟩
  unfold atM; rw [atI_nn h0 h1, List.getElem?_eq_getElem hlt]
theorem atM_nat {α : Type} {l : List α} {k : Nat} {a : α} (h : l[k]? = some a) : atM l (k : Int) = .ok a := by
  have hlt := (List.getElem?_eq_some_iff.mp h).1
  unfold atM; rw [atI_nn (by omega) (by omega), Int.toNat_natCast, h]
/-- from the end: -1 is the last -/
theorem atM_neg {α : Type} {l : List α} {k : Nat} {a : α} (hk : 0 < k) (hl : k ≤ l.length) (h : l[l.length - k]? = some a) : atM l (-(k : Int)) = .ok a := by
  unfold atM; rw [atI_ng (by omega) (by omega), show (-(k : Int) + (l.length : Int)).toNat = l.length - k by omega, h]
theorem pick_ok {l : List Int} {i : Int} (h0 : 0 ≤ i) (h1 : i < (l.length : Int)) (hl : l.all (fun v => decide (v.natAbs < 1000)) = true) : atM l i = .ok (pick l i) := by
  obtain ⟨a, e1, e2⟩ := atM_get h0 h1
  have ha : a.natAbs < 1000 := of_decide_eq_true (List.all_eq_true.mp hl a (List.mem_of_getElem? e1))
  unfold pick
  rw [atI_nn h0 h1, e1, e2]
  show _ = VR.ok (if a.natAbs < 1000 then a else 0)
  rw [if_pos ha]
theorem pick_mem {l : List Int} {i : Int} (h0 : 0 ≤ i) (h1 : i < (l.length : Int)) (hl : l.all (fun v => decide (v.natAbs < 1000)) = true) : pick l i ∈ l := by
  obtain ⟨a, e1, e2⟩ := atM_get h0 h1
  have z := pick_ok h0 h1 hl
  rw [e2] at z; cases z
  exact List.mem_of_getElem? e1
/-! powers -/
theorem pwr_10_6 : pwr 10 6 = 1000000 := by decide +kernel
instance : Sz 20 (pwr 10 6) := ⟨by rw [pwr_10_6]; decide +kernel⟩
instance : Pz (pwr 10 6) := ⟨by rw [pwr_10_6]; decide +kernel⟩
theorem pwr_10_9 : pwr 10 9 = 1000000000 := by decide +kernel
instance : Sz 30 (pwr 10 9) := ⟨by rw [pwr_10_9]; decide +kernel⟩
instance : Pz (pwr 10 9) := ⟨by rw [pwr_10_9]; decide +kernel⟩
theorem pwr_10_10 : pwr 10 10 = 10000000000 := by decide +kernel
instance : Sz 34 (pwr 10 10) := ⟨by rw [pwr_10_10]; decide +kernel⟩
instance : Pz (pwr 10 10) := ⟨by rw [pwr_10_10]; decide +kernel⟩
theorem pwr_10_20 : pwr 10 20 = 100000000000000000000 := by decide +kernel
instance : Sz 67 (pwr 10 20) := ⟨by rw [pwr_10_20]; decide +kernel⟩
instance : Pz (pwr 10 20) := ⟨by rw [pwr_10_20]; decide +kernel⟩
theorem pwr_10_28 : pwr 10 28 = 10000000000000000000000000000 := by decide +kernel
instance : Sz 94 (pwr 10 28) := ⟨by rw [pwr_10_28]; decide +kernel⟩
instance : Pz (pwr 10 28) := ⟨by rw [pwr_10_28]; decide +kernel⟩
theorem pwr_10_30 : pwr 10 30 = 1000000000000000000000000000000 := by decide +kernel
instance : Sz 100 (pwr 10 30) := ⟨by rw [pwr_10_30]; decide +kernel⟩
instance : Pz (pwr 10 30) := ⟨by rw [pwr_10_30]; decide +kernel⟩
theorem pwr_10_38 : pwr 10 38 = 100000000000000000000000000000000000000 := by decide +kernel
instance : Sz 127 (pwr 10 38) := ⟨by rw [pwr_10_38]; decide +kernel⟩
instance : Pz (pwr 10 38) := ⟨by rw [pwr_10_38]; decide +kernel⟩
theorem pwr_10_39 : pwr 10 39 = 1000000000000000000000000000000000000000 := by decide +kernel
instance : Sz 130 (pwr 10 39) := ⟨by rw [pwr_10_39]; decide +kernel⟩
instance : Pz (pwr 10 39) := ⟨by rw [pwr_10_39]; decide +kernel⟩
theorem pwr_10_40 : pwr 10 40 = 10000000000000000000000000000000000000000 := by decide +kernel
instance : Sz 133 (pwr 10 40) := ⟨by rw [pwr_10_40]; decide +kernel⟩
instance : Pz (pwr 10 40) := ⟨by rw [pwr_10_40]; decide +kernel⟩
theorem pwr_10_45 : pwr 10 45 = 1000000000000000000000000000000000000000000000 := by decide +kernel
instance : Sz 150 (pwr 10 45) := ⟨by rw [pwr_10_45]; decide +kernel⟩
instance : Pz (pwr 10 45) := ⟨by rw [pwr_10_45]; decide +kernel⟩
theorem pwr_10_50 : pwr 10 50 = 100000000000000000000000000000000000000000000000000 := by decide +kernel
instance : Sz 167 (pwr 10 50) := ⟨by rw [pwr_10_50]; decide +kernel⟩
instance : Pz (pwr 10 50) := ⟨by rw [pwr_10_50]; decide +kernel⟩
theorem pwr_10_59 : pwr 10 59 = 100000000000000000000000000000000000000000000000000000000000 := by decide +kernel
instance : Sz 196 (pwr 10 59) := ⟨by rw [pwr_10_59]; decide +kernel⟩
instance : Pz (pwr 10 59) := ⟨by rw [pwr_10_59]; decide +kernel⟩
theorem pwr_10_60 : pwr 10 60 = 1000000000000000000000000000000000000000000000000000000000000 := by decide +kernel
instance : Sz 200 (pwr 10 60) := ⟨by rw [pwr_10_60]; decide +kernel⟩
instance : Pz (pwr 10 60) := ⟨by rw [pwr_10_60]; decide +kernel⟩
theorem pwr_10_64 : pwr 10 64 = 10000000000000000000000000000000000000000000000000000000000000000 := by decide +kernel
instance : Sz 213 (pwr 10 64) := ⟨by rw [pwr_10_64]; decide +kernel⟩
instance : Pz (pwr 10 64) := ⟨by rw [pwr_10_64]; decide +kernel⟩
theorem pwr_48271_8 : pwr 48271 8 = 29477480947986319589215679678287935361 := by decide +kernel
instance : Sz 125 (pwr 48271 8) := ⟨by rw [pwr_48271_8]; decide +kernel⟩
instance : Pz (pwr 48271 8) := ⟨by rw [pwr_48271_8]; decide +kernel⟩
theorem pwr_69621_7 : pwr 69621 7 = 7928331467292760530673834318599741 := by decide +kernel
instance : Sz 113 (pwr 69621 7) := ⟨by rw [pwr_69621_7]; decide +kernel⟩
instance : Pz (pwr 69621 7) := ⟨by rw [pwr_69621_7]; decide +kernel⟩
instance : Sz 107 (162259276829213363391578010288127 : Int) := ⟨by decide +kernel⟩
instance : Pz (162259276829213363391578010288127 : Int) := ⟨by decide +kernel⟩
instance : Sz 127 (170141183460469231731687303715884105727 : Int) := ⟨by decide +kernel⟩
instance : Pz (170141183460469231731687303715884105727 : Int) := ⟨by decide +kernel⟩
instance : Sz 129 (414213562373095048801688724209698078569 : Int) := ⟨by decide +kernel⟩
instance : Pz (414213562373095048801688724209698078569 : Int) := ⟨by decide +kernel⟩
instance : Sz 129 (618033988749894848204586834365638117721 : Int) := ⟨by decide +kernel⟩
instance : Pz (618033988749894848204586834365638117721 : Int) := ⟨by decide +kernel⟩
/-! places -/
open Classical in
noncomputable def mkP (x y : Int) : P := if h : Sz 1000 x ∧ Sz 1000 y then ⟨x, y, h.1, h.2⟩ else ⟨0, 0, sz_0.up (by decide), sz_0.up (by decide)⟩
theorem toP_ok {n m : Nat} {x y : Int} [a : Sz n x] [b : Sz m y] (h : n ≤ 1000) (k : m ≤ 1000) : toP (x, y) = .ok (mkP x y) := by
  have c : Sz 1000 x ∧ Sz 1000 y := ⟨a.up h, b.up k⟩
  unfold toP mkP; rw [dif_pos c, dif_pos c]
theorem mkP_x {n m : Nat} {x y : Int} [a : Sz n x] [b : Sz m y] (h : n ≤ 1000) (k : m ≤ 1000) : (mkP x y).x = x ∧ (mkP x y).y = y := by
  have c : Sz 1000 x ∧ Sz 1000 y := ⟨a.up h, b.up k⟩
  unfold mkP; rw [dif_pos c]; exact ⟨rfl, rfl⟩
/-! lists -/
theorem small_sz {n : Nat} (h : n ≤ 100000) : n < sizeLine := by rw [sizeLine_eq]; omega
theorem appM_ok {α : Type} {l : List α} {a : α} (h : l.length ≤ 100000) : appM l a = .ok (l ++ [a]) := by unfold appM; rw [if_pos (small_sz h)]
theorem catM_ok {α : Type} {l m : List α} (h : l.length + m.length ≤ 100000) : catM l m = .ok (l ++ m) := by unfold catM; rw [if_pos (Nat.le_of_lt (small_sz h))]
theorem rngM_ok {i j : Int} (h : -1000000 ≤ i ∧ i ≤ 1000000 ∧ -1000000 ≤ j ∧ j ≤ 1000000) : rngM i j = .ok (rngL i j) := by
  unfold rngM; rw [if_pos (by omega)]
theorem rngL_nat (n : Nat) : rngL 0 (n : Int) = (List.range n).map Int.ofNat := by
  unfold rngL
  rw [show ((n : Int) - 0).toNat = n by omega]
  exact List.map_congr_left fun k _ => by simp
theorem mem_rngL {i j x : Int} : x ∈ rngL i j ↔ i ≤ x ∧ x < j := by
  unfold rngL
  rw [List.mem_map]
  constructor
  · rintro ⟨k, hk, rfl⟩
    rw [List.mem_range] at hk
    omega
  · intro h
    exact ⟨(x - i).toNat, by rw [List.mem_range]; omega, by omega⟩
theorem len_rngL {i j : Int} : (rngL i j).length = (j - i).toNat := by unfold rngL; simp
theorem get_rngL {i j x : Int} {k : Nat} (h : (rngL i j)[k]? = some x) : x = i + k ∧ x < j := by
  unfold rngL at h
  rw [List.getElem?_map] at h
  obtain ⟨m, hm, rfl⟩ := Option.map_eq_some_iff.mp h
  have := List.getElem?_eq_some_iff.mp hm
  obtain ⟨h1, h2⟩ := this
  simp at h1 h2
  omega
theorem cut_lo {α : Type} {l : List α} {i : Int} (h : 0 ≤ i) : cutL l (some i) none = l.drop i.toNat := by
  obtain ⟨k, rfl⟩ : ∃ k : Nat, i = k := ⟨i.toNat, by omega⟩
  unfold cutL
  rw [HT.sIx_nat, HT.sIx_none, Int.toNat_natCast]
  by_cases hk : k ≤ l.length
  · rw [show min k l.length = k by omega, List.take_of_length_le (by rw [List.length_drop]; omega)]
  · rw [List.drop_eq_nil_of_le (show l.length ≤ k by omega), show min k l.length = l.length by omega, List.drop_length, List.take_nil]
theorem cut_hi {α : Type} {l : List α} {i : Int} (h : 0 ≤ i) : cutL l none (some i) = l.take i.toNat := by
  obtain ⟨k, rfl⟩ : ∃ k : Nat, i = k := ⟨i.toNat, by omega⟩
  unfold cutL
  rw [HT.sIx_nat, HT.sIx_none, Int.toNat_natCast, List.drop_zero, Nat.sub_zero]
  by_cases hk : k ≤ l.length
  · rw [show min k l.length = k by omega]
  · rw [show min k l.length = l.length by omega, List.take_length, List.take_of_length_le (by omega)]
theorem cut_last {α : Type} {l : List α} : cutL l none (some (-1)) = l.dropLast := by
  unfold cutL HT.sIx
  simp only [show ((-1 : Int) < 0) from by decide, if_true, List.drop_zero, Nat.sub_zero]
  rw [List.dropLast_eq_take, show (-1 + (l.length : Int)).toNat = l.length - 1 by omega]
theorem cut_mid {α : Type} {l : List α} {i j : Int} (h : 0 ≤ i) (k : 0 ≤ j) : cutL l (some i) (some j) = (l.take j.toNat).drop i.toNat := by
  obtain ⟨a, rfl⟩ : ∃ k : Nat, i = k := ⟨i.toNat, by omega⟩
  obtain ⟨b, rfl⟩ : ∃ k : Nat, j = k := ⟨j.toNat, by omega⟩
  unfold cutL
  rw [HT.sIx_nat, HT.sIx_nat, Int.toNat_natCast, Int.toNat_natCast]
  apply List.ext_getElem?
  intro m
  rw [List.getElem?_take, List.getElem?_drop, List.getElem?_drop, List.getElem?_take]
  by_cases h1 : a ≤ l.length
  · rw [show min a l.length = a by omega]
    by_cases h2 : a + m < b
    · rw [if_pos h2]
      by_cases h3 : m < min b l.length - a
      · rw [if_pos h3]
      · rw [if_neg h3, List.getElem?_eq_none (by omega)]
    · rw [if_neg h2, if_neg (by omega)]
  · rw [show min a l.length = l.length by omega, if_neg (by omega)]
    split
    · rw [List.getElem?_eq_none (by omega)]
    · rfl
/-! comprehensions -/
theorem compG_pure {α β : Type} {p : α → Bool} {f : α → β} : ∀ xs : List α, compG (fun x => .ok (p x)) (fun x => .ok (f x)) xs = .ok ((xs.filter p).map f)
  | [] => rfl
  | x :: xs => by
    show (if p x = true then (VR.ok (f x)).bind fun u => (compG _ _ xs).bind fun r => .ok (u :: r) else compG _ _ xs) = _
    rw [compG_pure xs]
    cases h : p x <;> simp [h]
theorem compG_ok {α β : Type} {c : α → VR Bool} {e : α → VR β} (p : α → Bool) (f : α → β) : ∀ {xs : List α}, (∀ x ∈ xs, c x = .ok (p x) ∧ (p x = true → e x = .ok (f x))) → compG c e xs = .ok ((xs.filter p).map f)
  | [], _ => rfl
  | x :: xs, h => by
    obtain ⟨h1, h2⟩ := h x List.mem_cons_self
    show ((c x).bind fun t => if t = true then (e x).bind fun u => (compG c e xs).bind fun r => .ok (u :: r) else compG c e xs) = _
    rw [h1, compG_ok p f fun y hy => h y (List.mem_cons_of_mem _ hy)]
    cases hp : p x with
    | false => simp [hp]
    | true => rw [h2 hp]; simp [hp]
theorem compM_ok {α β : Type} {c : α → VR Bool} {e : α → VR β} (p : α → Bool) (f : α → β) {xs : List α} (hl : xs.length ≤ 100000) (h : ∀ x ∈ xs, c x = .ok (p x) ∧ (p x = true → e x = .ok (f x))) : compM c e xs = .ok ((xs.filter p).map f) := by
  unfold compM; rw [if_pos (Nat.le_of_lt (small_sz hl)), compG_ok p f h]; rfl
theorem compM_pure {α β : Type} {p : α → Bool} {f : α → β} {xs : List α} (hl : xs.length ≤ 100000) : compM (fun x => .ok (p x)) (fun x => .ok (f x)) xs = .ok ((xs.filter p).map f) := compM_ok p f hl fun _ _ => ⟨rfl, fun _ => rfl⟩
theorem compM_map {α β : Type} {e : α → VR β} (f : α → β) {xs : List α} (hl : xs.length ≤ 100000) (h : ∀ x ∈ xs, e x = .ok (f x)) : compM (fun _ => .ok true) e xs = .ok (xs.map f) := by
  rw [compM_ok (fun _ => true) f hl fun x hx => ⟨rfl, fun _ => h x hx⟩, List.filter_eq_self.mpr fun _ _ => rfl]
theorem compM_filter {α : Type} {c : α → VR Bool} (p : α → Bool) {xs : List α} (hl : xs.length ≤ 100000) (h : ∀ x ∈ xs, c x = .ok (p x)) : compM c (fun x => .ok x) xs = .ok (xs.filter p) := by
  rw [compM_ok p (fun x => x) hl fun x hx => ⟨h x hx, fun _ => rfl⟩, List.map_id']
/-- a comprehension whose parts answer something -/
theorem compM_any {α β : Type} {e : α → VR β} (Q : α → β → Prop) {xs : List α} (hl : xs.length ≤ 100000) (h : ∀ x ∈ xs, Ok (e x) (Q x)) : Ok (compM (fun _ => .ok true) e xs) fun ys => ys.length = xs.length ∧ ∀ (i : Nat) (y : β), ys[i]? = some y → ∃ x, xs[i]? = some x ∧ Q x y := by
  have key : ∀ {xs : List α}, (∀ x ∈ xs, Ok (e x) (Q x)) → Ok (compG (fun _ => .ok true) e xs) fun ys => ys.length = xs.length ∧ ∀ (i : Nat) (y : β), ys[i]? = some y → ∃ x, xs[i]? = some x ∧ Q x y := fun {xs} => by
    induction xs with
    | nil => intro _; exact ⟨[], rfl, rfl, fun i y h => by simp at h⟩
    | cons x xs ih =>
      intro h
      obtain ⟨y, e1, q1⟩ := h x List.mem_cons_self
      obtain ⟨ys, e2, q2, q3⟩ := ih fun z hz => h z (List.mem_cons_of_mem _ hz)
      refine ⟨y :: ys, ?_, by simp [q2], fun i z hz => ?_⟩
      · show ((e x).bind fun u => (compG (fun _ => .ok true) e xs).bind fun r => .ok (u :: r)) = _
        rw [e1, e2]; rfl
      · cases i with
        | zero => simp at hz; subst hz; exact ⟨x, rfl, q1⟩
        | succ i => simp at hz; obtain ⟨w, h1, h2⟩ := q3 i z hz; exact ⟨w, by simpa using h1, h2⟩
  obtain ⟨ys, e1, q⟩ := key h
  exact ⟨ys, by unfold compM; rw [if_pos (Nat.le_of_lt (small_sz hl)), e1]; rfl, q⟩
/-! loops -/
section
variable {α σ ρ : Type}
theorem forM_nil {s : σ} {f : α → σ → VR σ} : forM [] s f = .ok s := rfl
theorem forM_cons {x : α} {xs : List α} {s : σ} {f : α → σ → VR σ} : forM (x :: xs) s f = (f x s).bind fun s' => forM xs s' f := rfl
theorem forM_app {f : α → σ → VR σ} : ∀ {xs ys : List α} {s : σ}, forM (xs ++ ys) s f = (forM xs s f).bind fun s' => forM ys s' f
  | [], ys, s => rfl
  | x :: xs, ys, s => by
    show (f x s).bind (fun s' => forM (xs ++ ys) s' f) = ((f x s).bind fun s' => forM xs s' f).bind _
    rw [bind_assoc]; congr; funext s'; exact forM_app
theorem forM_inv (I : Nat → σ → Prop) {f : α → σ → VR σ} : ∀ {xs : List α} {s : σ} {j : Nat}, I j s → (∀ (i : Nat) (x : α) (s : σ), xs[i]? = some x → I (j + i) s → ∃ s', f x s = .ok s' ∧ I (j + i + 1) s') → ∃ s', forM xs s f = .ok s' ∧ I (j + xs.length) s'
  | [], s, j, h0, _ => ⟨s, rfl, h0⟩
  | x :: xs, s, j, h0, h => by
    obtain ⟨s1, e1, h1⟩ := h 0 x s rfl h0
    obtain ⟨s2, e2, h2⟩ := forM_inv I (xs := xs) (s := s1) (j := j + 1) h1 fun i y t hy ht => by
      obtain ⟨t', e, h'⟩ := h (i + 1) y t (by simpa using hy) (by rw [show j + (i + 1) = j + 1 + i by omega]; exact ht)
      exact ⟨t', e, by rw [show j + 1 + i + 1 = j + (i + 1) + 1 by omega]; exact h'⟩
    exact ⟨s2, by rw [forM_cons, e1]; exact e2, by rw [List.length_cons, show j + (xs.length + 1) = j + 1 + xs.length by omega]; exact h2⟩
/-- a loop that is a fold, while I holds -/
theorem forM_fold (I : σ → Prop) (g : σ → α → σ) {f : α → σ → VR σ} : ∀ {xs : List α} {s : σ}, I s → (∀ x ∈ xs, ∀ s, I s → f x s = .ok (g s x) ∧ I (g s x)) → forM xs s f = .ok (xs.foldl g s) ∧ I (xs.foldl g s)
  | [], s, h0, _ => ⟨rfl, h0⟩
  | x :: xs, s, h0, h => by
    obtain ⟨e1, h1⟩ := h x List.mem_cons_self s h0
    obtain ⟨e2, h2⟩ := forM_fold I g (xs := xs) h1 fun y hy => h y (List.mem_cons_of_mem _ hy)
    exact ⟨by rw [forM_cons, e1]; exact e2, h2⟩
theorem forM_foldT (g : σ → α → σ) {f : α → σ → VR σ} {xs : List α} {s : σ} (h : ∀ x ∈ xs, ∀ s, f x s = .ok (g s x)) : forM xs s f = .ok (xs.foldl g s) := (forM_fold (fun _ => True) g trivial fun x hx s _ => ⟨h x hx s, trivial⟩).1
/-- things put behind a list where p says so -/
theorem forM_gather {β : Type} (p : α → Bool) (g : α → β) {f : α → List β → VR (List β)} : ∀ {xs : List α} {l : List β}, l.length + xs.length ≤ 100000 → (∀ x ∈ xs, ∀ l : List β, l.length ≤ 100000 → f x l = .ok (if p x = true then l ++ [g x] else l)) → forM xs l f = .ok (l ++ (xs.filter p).map g)
  | [], l, _, _ => by simp [forM_nil]
  | x :: xs, l, hl, h => by
    rw [List.length_cons] at hl
    have h1 : (if p x = true then l ++ [g x] else l).length + xs.length ≤ 100000 := by
      split
      · rw [List.length_append, List.length_singleton]; omega
      · omega
    rw [forM_cons, h x List.mem_cons_self l (by omega), ok_bind, forM_gather p g h1 fun y hy => h y (List.mem_cons_of_mem _ hy)]
    cases hp : p x <;> simp [hp]
/-- lists put behind a list -/
theorem forM_flat {β : Type} (g : α → List β) {f : α → List β → VR (List β)} : ∀ {xs : List α} {l : List β}, l.length + (xs.flatMap g).length ≤ 100000 → (∀ x ∈ xs, ∀ l : List β, l.length + (g x).length ≤ 100000 → f x l = .ok (l ++ g x)) → forM xs l f = .ok (l ++ xs.flatMap g)
  | [], l, _, _ => by simp [forM_nil]
  | x :: xs, l, hl, h => by
    rw [List.flatMap_cons, List.length_append] at hl
    have h1 : (l ++ g x).length + (xs.flatMap g).length ≤ 100000 := by rw [List.length_append]; omega
    rw [forM_cons, h x List.mem_cons_self l (by omega), ok_bind, forM_flat g h1 fun y hy => h y (List.mem_cons_of_mem _ hy)]
    simp
theorem forF_nil {s : σ} {f : α → σ → VR (Fl σ ρ)} : forF [] s f = .ok (.nx s) := rfl
theorem forF_cons {x : α} {xs : List α} {s : σ} {f : α → σ → VR (Fl σ ρ)} : forF (x :: xs) s f = (f x s).bind fun r => match r with
    | .nx s' => forF xs s' f
    | .bk s' => .ok (.nx s')
    | .rt a => .ok (.rt a) := rfl
/-- no turn tells -/
theorem forF_inv (I : Nat → σ → Prop) {f : α → σ → VR (Fl σ ρ)} : ∀ {xs : List α} {s : σ} {j : Nat}, I j s → (∀ (i : Nat) (x : α) (s : σ), xs[i]? = some x → I (j + i) s → ∃ s', f x s = .ok (.nx s') ∧ I (j + i + 1) s') → ∃ s', forF xs s f = .ok (.nx s') ∧ I (j + xs.length) s'
  | [], s, j, h0, _ => ⟨s, rfl, h0⟩
  | x :: xs, s, j, h0, h => by
    obtain ⟨s1, e1, h1⟩ := h 0 x s rfl h0
    obtain ⟨s2, e2, h2⟩ := forF_inv I (xs := xs) (s := s1) (j := j + 1) h1 fun i y t hy ht => by
      obtain ⟨t', e, h'⟩ := h (i + 1) y t (by simpa using hy) (by rw [show j + (i + 1) = j + 1 + i by omega]; exact ht)
      exact ⟨t', e, by rw [show j + 1 + i + 1 = j + (i + 1) + 1 by omega]; exact h'⟩
    exact ⟨s2, by rw [forF_cons, e1]; exact e2, by rw [List.length_cons, show j + (xs.length + 1) = j + 1 + xs.length by omega]; exact h2⟩
/-- .. each turn leaves what it found -/
theorem forF_all {f : α → σ → VR (Fl σ ρ)} {xs : List α} {s : σ} (h : ∀ x ∈ xs, f x s = .ok (.nx s)) : forF xs s f = .ok (.nx s) := by
  obtain ⟨s', e, rfl⟩ := forF_inv (fun _ t => t = s) (f := f) (xs := xs) (s := s) (j := 0) rfl fun i x t hx ht => ⟨s, by rw [ht]; exact h x (List.mem_of_getElem? hx), rfl⟩
  exact e
/-- the first of which p holds is told -/
theorem forF_find (p : α → Bool) (r : α → ρ) {f : α → σ → VR (Fl σ ρ)} {s : σ} : ∀ {xs : List α}, (∀ x ∈ xs, f x s = .ok (if p x = true then .rt (r x) else .nx s)) → forF xs s f = .ok (match xs.find? p with | some x => .rt (r x) | none => .nx s)
  | [], _ => rfl
  | x :: xs, h => by
    rw [forF_cons, h x List.mem_cons_self, ok_bind, List.find?_cons]
    cases hp : p x with
    | true => rfl
    | false => exact forF_find p r fun y hy => h y (List.mem_cons_of_mem _ hy)
theorem forF_any (p : α → Bool) (r : ρ) {f : α → σ → VR (Fl σ ρ)} {s : σ} {xs : List α} (h : ∀ x ∈ xs, f x s = .ok (if p x = true then .rt r else .nx s)) : forF xs s f = .ok (if xs.any p = true then .rt r else .nx s) := by
  rw [forF_find p (fun _ => r) h]
  cases e : xs.find? p with
  | none =>
    have : xs.any p = false := by
      rw [List.any_eq_false]
      intro x hx
      simpa using List.find?_eq_none.mp e x hx
    rw [this]; rfl
  | some x =>
    have : xs.any p = true := List.any_eq_true.mpr ⟨x, List.mem_of_find?_eq_some e, List.find?_some e⟩
    rw [this]; rfl
theorem whlM_step {n : Nat} {c : σ → VR Bool} {f : σ → VR σ} {s : σ} : whlM (n + 1) c f s = (c s).bind fun t => if t = true then (f s).bind fun s' => whlM n c f s' else .ok s := rfl
/-- a while loop by a measure -/
theorem whlM_inv (I : σ → Prop) (m : σ → Nat) {c : σ → VR Bool} {f : σ → VR σ} (h : ∀ s, I s → ∃ t, c s = .ok t ∧ (t = true → ∃ s', f s = .ok s' ∧ I s' ∧ m s' < m s)) : ∀ {n : Nat} {s : σ}, I s → m s < n → ∃ s', whlM n c f s = .ok s' ∧ I s' ∧ c s' = .ok false
  | 0, s, _, hn => absurd hn (Nat.not_lt_zero _)
  | n + 1, s, hs, hn => by
    obtain ⟨t, e, k⟩ := h s hs
    rw [whlM_step, e, ok_bind]
    cases t with
    | false => exact ⟨s, rfl, hs, e⟩
    | true =>
      obtain ⟨s', e2, hs', hm⟩ := k rfl
      rw [if_pos rfl, e2, ok_bind]
      exact whlM_inv I m h hs' (by omega)
end
end TL

/-! Places of the program and plain geometry. -/
namespace TL
open PySem PySem.Spec PyProof.Rows L2 NL GM VL
open Ty (ec)
abbrev tP (a b c : P) : Int := tw a.pt b.pt c.pt
abbrev lP (a b : P) : Prop := lx a.pt b.pt
abbrev sP (a b c d : P) : Bool := sp a.pt b.pt c.pt d.pt
theorem pt_inj {a b : P} (h : a.pt = b.pt) : a = b := P.ext_ (congrArg Prod.fst h) (congrArg Prod.snd h)
theorem pt_iff {a b : P} : a = b ↔ a.pt = b.pt := ⟨fun h => by rw [h], pt_inj⟩
theorem ltP_dec (a b : P) : lt a b = decide (lP a b) := by
  show lt2 ltI ltI a.x b.x a.y b.y = _
  unfold lt2 ltI
  by_cases h : a.x = b.x
  · rw [if_pos h]
    exact decide_eq_decide.mpr (by show _ ↔ a.x < b.x ∨ a.x = b.x ∧ a.y < b.y; omega)
  · rw [if_neg h]
    exact decide_eq_decide.mpr (by show _ ↔ a.x < b.x ∨ a.x = b.x ∧ a.y < b.y; omega)
theorem lP_irr {a : P} : ¬ lP a a := lx_irr
theorem lP_tr {a b c : P} (h : lP a b) (k : lP b c) : lP a c := lx_tr h k
theorem lP_as {a b : P} (h : lP a b) : ¬ lP b a := lx_as h
theorem lP_or {a b : P} (h : a ≠ b) : lP a b ∨ lP b a := lx_or fun e => h (pt_inj e)
theorem lP_ne {a b : P} (h : lP a b) : a ≠ b := fun e => lP_irr (e ▸ h)
theorem mn_P (a b : P) : mnT a b = if lP b a then b else a := by
  unfold mnT; rw [ltP_dec]; by_cases h : lP b a <;> simp [h]
theorem mx_P (a b : P) : mxT a b = if lP a b then b else a := by
  unfold mxT; rw [ltP_dec]; by_cases h : lP a b <;> simp [h]
/-- the least of three -/
theorem mn3_P (a b c : P) : (mnT (mnT a b) c = a ∧ ¬ lP b a ∧ ¬ lP c a) ∨ (mnT (mnT a b) c = b ∧ lP b a ∧ ¬ lP c b) ∨ (mnT (mnT a b) c = c ∧ lP c a ∧ lP c b) := by
  rw [mn_P a b]
  by_cases h : lP b a
  · rw [if_pos h, mn_P]
    by_cases k : lP c b
    · rw [if_pos k]; exact .inr (.inr ⟨rfl, lP_tr k h, k⟩)
    · rw [if_neg k]; exact .inr (.inl ⟨rfl, h, k⟩)
  · rw [if_neg h, mn_P]
    by_cases k : lP c a
    · rw [if_pos k]
      refine .inr (.inr ⟨rfl, k, ?_⟩)
      by_cases e : a = b
      · rw [← e]; exact k
      · rcases lP_or e with z | z
        · exact lP_tr k z
        · exact absurd z h
    · rw [if_neg k]; exact .inl ⟨rfl, h, k⟩
end TL

/-! Scripts; lists in order; loops that tell. -/
namespace TL
open PySem PySem.Spec PyProof.Rows L2 NL GM VL
open Ty (ec)
/-- a script as the laws have it -/
structure Small (s : Scr) : Prop where
  len : s.ns.length ≤ 63
  bits : ∀ z ∈ s.ns, Sz 1048578 z
theorem bits_lt {x : Int} (h : Builtin.Int.intBits x ≤ 1048576) : Sz 1048578 x := by
  refine ⟨?_⟩
  unfold Builtin.Int.intBits at h
  have h1 : x.natAbs < 2 ^ (x.natAbs.log2 + 1) := Nat.lt_log2_self
  split at h
  · rename_i h0
    have : x.natAbs = 0 := by simpa using h0
    rw [this]
    exact Nat.pow_pos (by decide)
  · exact Nat.lt_of_lt_of_le h1 (Nat.pow_le_pow_right (by decide) (by omega))
theorem Small.mk' {ns : List Int} (h1 : ns.length ≤ 63) (h2 : ∀ z ∈ ns, Builtin.Int.intBits z ≤ 1048576) : Small ⟨ns⟩ := ⟨h1, fun z hz => bits_lt (h2 z hz)⟩
/-- a number of the script or made of them -/
abbrev Big (x : Int) : Prop := Sz 1100000 x
theorem _root_.VL.Sz.big {n : Nat} {x : Int} (h : Sz n x) (k : n ≤ 1100000 := by decide) : Big x := h.up k
theorem bi_eq {α β : Type} {r : VR α} {a : α} {k : α → VR β} {z : VR β} (h : r = .ok a) (h2 : k a = z) : r.bind k = z := by rw [h]; exact h2
/-! lists -/
theorem get_enmL {α : Type} : ∀ {l : List α} {k i : Nat} {p : Int × α}, (enmL k l)[i]? = some p → p.1 = ((k + i : Nat) : Int) ∧ l[i]? = some p.2
  | [], k, i, p, h => by simp [enmL] at h
  | x :: l, k, 0, p, h => by simp [enmL] at h; subst h; simp
  | x :: l, k, i + 1, p, h => by
    simp [enmL] at h
    obtain ⟨h1, h2⟩ := get_enmL h
    exact ⟨by rw [h1]; congr 1; omega, by simpa using h2⟩
theorem len_enmL {α : Type} : ∀ {l : List α} {k : Nat}, (enmL k l).length = l.length
  | [], k => rfl
  | x :: l, k => by rw [enmL, List.length_cons, len_enmL, List.length_cons]
section
variable {α σ ρ β : Type}
theorem forF_flat (g : α → List β) {f : α → List β → VR (Fl (List β) ρ)} : ∀ {xs : List α} {l : List β}, l.length + (xs.flatMap g).length ≤ 100000 → (∀ x ∈ xs, ∀ l : List β, l.length + (g x).length ≤ 100000 → f x l = .ok (.nx (l ++ g x))) → forF xs l f = .ok (.nx (l ++ xs.flatMap g))
  | [], l, _, _ => by simp [forF_nil]
  | x :: xs, l, hl, h => by
    rw [List.flatMap_cons, List.length_append] at hl
    have h1 : (l ++ g x).length + (xs.flatMap g).length ≤ 100000 := by rw [List.length_append]; omega
    rw [forF_cons, h x List.mem_cons_self l (by omega), ok_bind]
    show forF xs (l ++ g x) f = _
    rw [forF_flat g h1 fun y hy => h y (List.mem_cons_of_mem _ hy)]
    simp
/-- two loops alike -/
theorem forM_congr {f g : α → σ → VR σ} : ∀ {xs : List α} {s : σ}, (∀ x ∈ xs, ∀ s, f x s = g x s) → forM xs s f = forM xs s g
  | [], s, _ => rfl
  | x :: xs, s, h => by
    rw [forM_cons, forM_cons, h x List.mem_cons_self]
    congr; funext s'; exact forM_congr fun y hy => h y (List.mem_cons_of_mem _ hy)
theorem forM_Ok (I : Nat → σ → Prop) {f : α → σ → VR σ} {xs : List α} {s : σ} (h0 : I 0 s) (h : ∀ (i : Nat) (x : α) (s : σ), xs[i]? = some x → I i s → Ok (f x s) (I (i + 1))) : Ok (forM xs s f) (I xs.length) := by
  obtain ⟨s', e, k⟩ := forM_inv I (j := 0) (xs := xs) (f := f) h0 fun i x s hx hs => by
    rw [Nat.zero_add] at hs ⊢
    exact h i x s hx hs
  rw [Nat.zero_add] at k
  exact ⟨s', e, k⟩
theorem flatMap_len_le {g : α → List β} {m : Nat} : ∀ {xs : List α}, (∀ x ∈ xs, (g x).length ≤ m) → (xs.flatMap g).length ≤ xs.length * m
  | [], _ => by simp
  | x :: xs, h => by
    rw [List.flatMap_cons, List.length_append, List.length_cons, Nat.succ_mul]
    have := h x List.mem_cons_self
    have := flatMap_len_le (g := g) (m := m) (xs := xs) fun y hy => h y (List.mem_cons_of_mem _ hy)
    omega
end
/-! sorted -/
section
variable {α : Type} [Ty α] [DecidableEq α] {d : Nat} [o : Or α d]
theorem srtL_perm (l : List α) : (srtL l).Perm l := srt_perm l
theorem srtL_mem {x : α} {l : List α} : x ∈ srtL l ↔ x ∈ l := (srtL_perm l).mem_iff
theorem srtL_len {l : List α} : (srtL l).length = l.length := (srtL_perm l).length_eq
theorem srtL_nodup {l : List α} : (srtL l).Nodup ↔ l.Nodup := (srtL_perm l).nodup_iff
theorem srtL_ord (l : List α) : (srtL l).Pairwise fun a b => lt b a = false := srt_ord o.tot l
theorem srtL_uniq {l m : List α} (h : l.Perm m) : srtL l = srtL m := srt_uniq o.tot h
theorem srtL_srtL (l : List α) : srtL (srtL l) = srtL l := srtL_uniq (srtL_perm l)
/-- strictly sorted where none comes twice -/
theorem srtL_str {l : List α} (h : l.Nodup) : (srtL l).Pairwise fun a b => lt a b = true := by
  have h1 := srtL_ord l
  have h2 := srtL_nodup.mpr h
  refine (h1.and h2).imp ?_
  intro a b ⟨x, y⟩
  rcases o.tot.tt a b y with z | z
  · exact z
  · exact absurd z (by show ¬ lt b a = true; rw [x]; exact Bool.false_ne_true)
/-- sorted already -/
theorem srtL_id {l : List α} (h : l.Pairwise fun a b => lt a b = true) : srtL l = l := by
  refine List.Perm.eq_of_pairwise (le := fun a b => lt b a = false) ?_ (srtL_ord l) (h.imp ?_) (srtL_perm l)
  · intro a b _ _ x y
    by_cases e : a = b
    · exact e
    · rcases o.tot.tt a b e with z | z
      · exact absurd z (by show ¬ lt a b = true; rw [y]; exact Bool.false_ne_true)
      · exact absurd z (by show ¬ lt b a = true; rw [x]; exact Bool.false_ne_true)
  · intro a b x
    cases e : lt b a with
    | false => rfl
    | true => exact absurd (o.tot.tr _ _ _ x e) (by rw [o.tot.ir]; exact Bool.false_ne_true)
end
/-- places in order -/
def Asc (l : List P) : Prop := l.Pairwise lP
theorem srtP_asc {l : List P} (h : l.Nodup) : Asc (srtL l) := (srtL_str h).imp fun {a b} z => by rw [ltP_dec] at z; exact of_decide_eq_true z
theorem srtP_id {l : List P} (h : Asc l) : srtL l = l := srtL_id (h.imp fun {a b} z => by rw [ltP_dec]; exact decide_eq_true z)
theorem Asc.nodup {l : List P} (h : Asc l) : l.Nodup := h.imp fun {a b} z => lP_ne z
theorem Asc.get {l : List P} (h : Asc l) {i j : Nat} {a b : P} (hij : i < j) (ha : l[i]? = some a) (hb : l[j]? = some b) : lP a b := by
  obtain ⟨hi, rfl⟩ := List.getElem?_eq_some_iff.mp ha
  obtain ⟨hj, rfl⟩ := List.getElem?_eq_some_iff.mp hb
  exact List.pairwise_iff_getElem.mp h i j hi hj hij
def P0 : P := ⟨0, 0, sz_0.up (by decide), sz_0.up (by decide)⟩
theorem get_getD {α : Type} {l : List α} {n : Nat} {a : α} (h : n < l.length) : l[n]? = some (l.getD n a) := by
  rw [List.getD_eq_getElem?_getD, List.getElem?_eq_getElem h]; rfl
theorem atM_getD {α : Type} {l : List α} {i : Int} {a : α} (h0 : 0 ≤ i) (h1 : i < (l.length : Int)) : atM l i = .ok (l.getD i.toNat a) := by
  obtain ⟨b, e1, e2⟩ := atM_get h0 h1
  rw [e2, List.getD_eq_getElem?_getD, e1]; rfl
theorem enmL_rng {α : Type} {l : List α} {a : α} : enmL 0 l = (rngL 0 (l.length : Int)).map fun i => (i, l.getD i.toNat a) := by
  apply List.ext_getElem?
  intro k
  rw [List.getElem?_map]
  by_cases h : k < l.length
  · have h1 : k < (enmL 0 l).length := by rw [len_enmL]; exact h
    have h2 : k < (rngL 0 (l.length : Int)).length := by rw [len_rngL]; omega
    rw [List.getElem?_eq_getElem h2, List.getElem?_eq_getElem h1]
    obtain ⟨e1, e2⟩ := get_enmL (List.getElem?_eq_getElem h1)
    obtain ⟨e3, _⟩ := get_rngL (List.getElem?_eq_getElem h2)
    rw [e3]
    show some _ = some _
    congr 1
    refine Prod.ext ?_ ?_
    · rw [e1]; simp
    · rw [get_getD (a := a) h] at e2
      show _ = l.getD (0 + (k : Int)).toNat a
      rw [show (0 + (k : Int)).toNat = k by omega]
      exact (Option.some.inj e2).symm
  · rw [List.getElem?_eq_none (by rw [len_enmL]; omega), List.getElem?_eq_none (by rw [len_rngL]; omega)]
    rfl
theorem any_perm {α : Type} {p : α → Bool} {l m : List α} (h : l.Perm m) : l.any p = m.any p := by
  cases e : m.any p with
  | true =>
    obtain ⟨x, h1, h2⟩ := List.any_eq_true.mp e
    exact List.any_eq_true.mpr ⟨x, h.mem_iff.mpr h1, h2⟩
  | false =>
    rw [List.any_eq_false] at e ⊢
    exact fun x hx => e x (h.mem_iff.mp hx)
/-- three places as the triangle round to the left that none of some places spoils -/
noncomputable def stand (ps : List P) (a b c : P) : Option (T3 P P P) :=
  if tP a b c = 0 then none
  else if 0 < tP a b c then (if ps.any (sP a b c) = true then none else some ⟨a, b, c⟩)
  else (if ps.any (sP a c b) = true then none else some ⟨a, c, b⟩)
theorem stand_perm {ps qs : List P} (h : ps.Perm qs) {a b c : P} : stand ps a b c = stand qs a b c := by
  unfold stand; rw [any_perm h, any_perm h]
/-- all of them, of a row -/
noncomputable def stands3 (ps row : List P) : List (T3 P P P) :=
  (rngL 0 (row.length : Int)).flatMap fun i => (rngL (i + 1) (row.length : Int)).flatMap fun j => (row.drop (j + 1).toNat).flatMap fun c => (stand ps (row.getD i.toNat P0) (row.getD j.toNat P0) c).toList
theorem stands3_in {ps row : List P} {t : T3 P P P} (h : t ∈ stands3 ps row) : ∃ (i j k : Nat) (a b c : P), i < j ∧ j < k ∧ row[i]? = some a ∧ row[j]? = some b ∧ row[k]? = some c ∧ stand ps a b c = some t := by
  unfold stands3 at h
  obtain ⟨i, hi, h⟩ := List.mem_flatMap.mp h
  obtain ⟨j, hj, h⟩ := List.mem_flatMap.mp h
  obtain ⟨c, hc, h⟩ := List.mem_flatMap.mp h
  obtain ⟨i0, i1⟩ := mem_rngL.mp hi
  obtain ⟨j0, j1⟩ := mem_rngL.mp hj
  obtain ⟨k, hk⟩ := List.mem_iff_getElem?.mp hc
  rw [List.getElem?_drop] at hk
  exact ⟨i.toNat, j.toNat, _, _, _, c, by omega, by omega, get_getD (by omega), get_getD (by omega), hk, Option.mem_toList.mp h⟩
theorem in_stands3 {ps row : List P} {t : T3 P P P} {i j k : Nat} {a b c : P} (hij : i < j) (hjk : j < k) (ha : row[i]? = some a) (hb : row[j]? = some b) (hc : row[k]? = some c) (h : stand ps a b c = some t) : t ∈ stands3 ps row := by
  unfold stands3
  have li := (List.getElem?_eq_some_iff.mp ha).1
  have lj := (List.getElem?_eq_some_iff.mp hb).1
  refine List.mem_flatMap.mpr ⟨(i : Int), mem_rngL.mpr (by omega), List.mem_flatMap.mpr ⟨(j : Int), mem_rngL.mpr (by omega), List.mem_flatMap.mpr ⟨c, List.mem_iff_getElem?.mpr ⟨k - (j + 1), ?_⟩, ?_⟩⟩⟩
  · rw [List.getElem?_drop, show ((j : Int) + 1).toNat = j + 1 by omega, show j + 1 + (k - (j + 1)) = k by omega]; exact hc
  · rw [Int.toNat_natCast, Int.toNat_natCast, List.getD_eq_getElem?_getD, List.getD_eq_getElem?_getD, ha, hb]
    exact Option.mem_toList.mpr h
theorem stand_some {ps : List P} {a b c : P} {t : T3 P P P} (h : stand ps a b c = some t) : 0 < tP t.a t.b t.c ∧ (t = ⟨a, b, c⟩ ∨ t = ⟨a, c, b⟩) ∧ ∀ d ∈ ps, sP t.a t.b t.c d = false := by
  unfold stand at h
  split at h
  · cases h
  · rename_i h0
    split at h
    · rename_i h1
      split at h
      · cases h
      · rename_i h2
        cases h
        exact ⟨h1, .inl rfl, fun d hd => by have := List.any_eq_false.mp (Bool.eq_false_iff.mpr h2) d hd; simpa using this⟩
    · rename_i h1
      split at h
      · cases h
      · rename_i h2
        cases h
        refine ⟨?_, .inr rfl, fun d hd => by have := List.any_eq_false.mp (Bool.eq_false_iff.mpr h2) d hd; simpa using this⟩
        have : tP a c b = - tP a b c := tw_sw' _ _ _
        show 0 < tP a c b
        omega
theorem pos_of_mul_pos {x y : Int} (h : 0 < x) (k : 0 < x * y) : 0 < y := by
  rcases Int.lt_trichotomy y 0 with z | z | z
  · exact absurd (Int.mul_neg_of_pos_of_neg h z) (by omega)
  · rw [z, Int.mul_zero] at k; omega
  · exact z
theorem forM_foldI {α σ : Type} (N : Nat) (I : Nat → σ → Prop) (g : σ → α → σ) {f : α → σ → VR σ} : ∀ {xs : List α} {s : σ} {j : Nat}, j + xs.length ≤ N → I j s → (∀ x ∈ xs, ∀ j s, j < N → I j s → f x s = .ok (g s x) ∧ I (j + 1) (g s x)) → forM xs s f = .ok (xs.foldl g s)
  | [], s, j, _, _, _ => rfl
  | x :: xs, s, j, hj, h0, h => by
    rw [List.length_cons] at hj
    obtain ⟨e1, h1⟩ := h x List.mem_cons_self j s (by omega) h0
    rw [forM_cons, e1, ok_bind, List.foldl_cons]
    exact forM_foldI N I g (by omega) h1 fun y hy => h y (List.mem_cons_of_mem _ hy)
theorem mnT_int (x y : Int) : mnT x y = if y < x then y else x := by
  unfold mnT
  by_cases h : y < x
  · rw [if_pos h, if_pos (show lt y x = true from decide_eq_true h)]
  · rw [if_neg h, if_neg (fun z : lt y x = true => h (of_decide_eq_true z))]
theorem mxT_int (x y : Int) : mxT x y = if x < y then y else x := by
  unfold mxT
  by_cases h : x < y
  · rw [if_pos h, if_pos (show lt x y = true from decide_eq_true h)]
  · rw [if_neg h, if_neg (fun z : lt x y = true => h (of_decide_eq_true z))]
/-- a comprehension over three things -/
theorem compM_3 {α β : Type} {e : α → VR β} {x y z : α} {a b c : β} (h1 : e x = .ok a) (h2 : e y = .ok b) (h3 : e z = .ok c) : compM (fun _ => .ok true) e [x, y, z] = .ok [a, b, c] := by
  unfold compM
  rw [if_pos (Nat.le_of_lt (small_sz (by simp)))]
  unfold compG compG compG compG
  simp only [ok_bind, if_true, h1, h2, h3]
  rfl
theorem rngM_3 : rngM 0 3 = .ok [0, 1, 2] := by rw [rngM_ok (by omega)]; rfl
theorem rngM_14 : rngM 1 4 = .ok [1, 2, 3] := by rw [rngM_ok (by omega)]; rfl
theorem rngM_2 : rngM 0 2 = .ok [0, 1] := by rw [rngM_ok (by omega)]; rfl
theorem atM_0 {α : Type} {a : α} {l : List α} : atM (a :: l) 0 = .ok a := by unfold atM; rw [atI_nn (by omega) (by simp only [List.length_cons]; omega)]; rfl
theorem atM_1 {α : Type} {a b : α} {l : List α} : atM (a :: b :: l) 1 = .ok b := by unfold atM; rw [atI_nn (by omega) (by simp only [List.length_cons]; omega)]; rfl
theorem atM_2 {α : Type} {a b c : α} {l : List α} : atM (a :: b :: c :: l) 2 = .ok c := by unfold atM; rw [atI_nn (by omega) (by simp only [List.length_cons]; omega)]; rfl
theorem atM_3 {α : Type} {a b c d : α} {l : List α} : atM (a :: b :: c :: d :: l) 3 = .ok d := by unfold atM; rw [atI_nn (by omega) (by simp only [List.length_cons]; omega)]; rfl
theorem atM_4 {α : Type} {a b c d e : α} {l : List α} : atM (a :: b :: c :: d :: e :: l) 4 = .ok e := by unfold atM; rw [atI_nn (by omega) (by simp only [List.length_cons]; omega)]; rfl
theorem bang_eq {b : Bool} : ((!b) = true) = ¬ b = true := by cases b <;> simp
theorem Ok.eq {α : Type} {g : VR α} {a : α} (h : Ok g fun v => v = a) : g = .ok a := by
  obtain ⟨v, e, rfl⟩ := h; exact e
theorem appU_ok {α : Type} {l : List α} (h : l.length ≤ 100000) : appU l = .ok () := by unfold appU; rw [if_pos (small_sz h)]
theorem bst_int (l : List Int) (x : Int) : (bst lt x l = x ∨ bst lt x l ∈ l) ∧ bst lt x l ≤ x ∧ ∀ y ∈ l, bst lt x l ≤ y := by
  induction l generalizing x with
  | nil => exact ⟨.inl rfl, Int.le_refl _, fun y hy => absurd hy List.not_mem_nil⟩
  | cons z l ih =>
    have e : bst lt x (z :: l) = bst lt (if lt z x = true then z else x) l := rfl
    rw [e]
    obtain ⟨h1, h2, h3⟩ := ih (if lt z x = true then z else x)
    have hz : (lt z x = true) ↔ z < x := ⟨fun h => of_decide_eq_true h, fun h => decide_eq_true h⟩
    by_cases c : z < x
    · rw [if_pos (hz.mpr c)] at h1 h2 h3 ⊢
      refine ⟨.inr ?_, by omega, fun y hy => ?_⟩
      · rcases h1 with h1 | h1
        · rw [h1]; exact List.mem_cons_self
        · exact List.mem_cons_of_mem _ h1
      · rcases List.mem_cons.mp hy with rfl | hy
        · exact h2
        · exact h3 y hy
    · rw [if_neg (fun h => c (hz.mp h))] at h1 h2 h3 ⊢
      refine ⟨?_, h2, fun y hy => ?_⟩
      · rcases h1 with h1 | h1
        · exact .inl h1
        · exact .inr (List.mem_cons_of_mem _ h1)
      · rcases List.mem_cons.mp hy with rfl | hy
        · omega
        · exact h3 y hy
theorem minM_int {l : List Int} (h : l ≠ []) : ∃ v, minM l = .ok v ∧ v ∈ l ∧ ∀ y ∈ l, v ≤ y := by
  cases l with
  | nil => exact absurd rfl h
  | cons x l =>
    obtain ⟨h1, h2, h3⟩ := bst_int l x
    refine ⟨bst lt x l, rfl, ?_, fun y hy => ?_⟩
    · rcases h1 with h1 | h1
      · rw [h1]; exact List.mem_cons_self
      · exact List.mem_cons_of_mem _ h1
    · rcases List.mem_cons.mp hy with rfl | hy
      · exact h2
      · exact h3 y hy
end TL

/-! Fractions in lowest terms; points; what lies nearest. -/
namespace TL
open PySem PySem.Spec PyProof.Rows L2 NL GM VL
open Ty (ec)
abbrev XP := Fr 10000 × Fr 10000
theorem whlM_fuel {σ : Type} (I : σ → Prop) (m : σ → Nat) {n : Nat} (hn : n ≤ 99999) {c : σ → VR Bool} {f : σ → VR σ} {s : σ} (h0 : I s) (hm : m s < 2 ^ n) (h : ∀ s, I s → ∃ t, c s = .ok t ∧ (t = true → ∃ s', f s = .ok s' ∧ I s' ∧ m s' < m s)) : Ok (whlM fuel c f s) fun s' => I s' ∧ c s' = .ok false := by
  obtain ⟨s', h1, h2, h3⟩ := whlM_inv I m h (n := fuel) (s := s) h0 (Nat.lt_of_succ_le (fuel_ge hm hn))
  exact ⟨s', h1, h2, h3⟩
theorem fdiv_exact {x g : Int} (hg : g ≠ 0) (h : g ∣ x) : x.fdiv g = x / g := by
  rw [Int.fdiv_eq_ediv]
  have : ¬ ¬ g ∣ x := fun z => z h
  simp [h]
/-- exact division by what is not nought -/
theorem fdivM_ex {n : Nat} {x y : Int} [s : Sz n y] (h0 : y ≠ 0) (h : y ∣ x) (hn : n ≤ 9000 := by omega) : fdivM x y = .ok (x / y) := by
  unfold fdivM; rw [if_pos ⟨h0, log2_sz hn⟩, fdiv_exact h0 h]
theorem sz_ediv_le {n : Nat} {x y : Int} (h : Sz n x) : Sz n (x / y) := ⟨by
  have := Int.natAbs_ediv_le_natAbs x y
  exact Nat.lt_of_le_of_lt this h.lt⟩
theorem sz_gcd {n : Nat} {x y : Int} (h : Sz n y) (h0 : y ≠ 0) : Sz n ((Int.gcd x y : Nat) : Int) := ⟨by
  rw [Int.natAbs_natCast]
  exact Nat.lt_of_le_of_lt (Nat.le_of_dvd (by omega) (Int.gcd_dvd_natAbs_right x y)) h.lt⟩
noncomputable def mkFr (n d : Int) : Fr 10000 := @dite _ (Sz 10000 n ∧ Sz 10000 d) (Classical.propDecidable _) (fun h => ⟨n, d, h.1, h.2⟩) (fun _ => ⟨0, 0, sz_0.up (by decide), sz_0.up (by decide)⟩)
theorem mkFr_eq {n d : Int} (a : Sz 10000 n) (b : Sz 10000 d) : (mkFr n d).n = n ∧ (mkFr n d).d = d := by
  unfold mkFr; rw [dif_pos ⟨a, b⟩]; exact ⟨rfl, rfl⟩
theorem toFr_ok {n d : Int} (a : Sz 10000 n) (b : Sz 10000 d) : toFr 10000 (n, d) = .ok (mkFr n d) := by
  unfold toFr mkFr; rw [dif_pos ⟨a, b⟩, dif_pos ⟨a, b⟩]
def gc (t b : Int) : Int := (Int.gcd t b : Nat)
def lowN (t b : Int) : Int := if b < 0 then -(t / gc t b) else t / gc t b
def lowD (t b : Int) : Int := if b < 0 then -(b / gc t b) else b / gc t b
/-- in lowest terms -/
noncomputable def low (t b : Int) : Fr 10000 := mkFr (lowN t b) (lowD t b)
theorem gc_pos {t b : Int} (h : b ≠ 0) : 0 < gc t b := by
  unfold gc
  have : 0 < Int.gcd t b := Int.gcd_pos_iff.mpr (.inr h)
  omega
theorem gc_l {t b : Int} : gc t b ∣ t := Int.gcd_dvd_left t b
theorem gc_r {t b : Int} : gc t b ∣ b := Int.gcd_dvd_right t b
theorem sz_neg' {n : Nat} {x : Int} (h : Sz n x) : Sz n (-x) := ⟨by rw [Int.natAbs_neg]; exact h.lt⟩
theorem sz_lowN {n : Nat} {t b : Int} (h : Sz n t) : Sz n (lowN t b) := by
  unfold lowN; split
  · exact sz_neg' (sz_ediv_le h)
  · exact sz_ediv_le h
theorem sz_lowD {n : Nat} {t b : Int} (h : Sz n b) : Sz n (lowD t b) := by
  unfold lowD; split
  · exact sz_neg' (sz_ediv_le h)
  · exact sz_ediv_le h
theorem low_nd {n m : Nat} {t b : Int} (ht : Sz n t) (hb : Sz m b) (hn : n ≤ 10000) (hm : m ≤ 10000) : (low t b).n = lowN t b ∧ (low t b).d = lowD t b := mkFr_eq ((sz_lowN ht).up hn) ((sz_lowD hb).up hm)
theorem lowD_pos {t b : Int} (h : b ≠ 0) : 0 < lowD t b := by
  have g := gc_pos (t := t) h
  have e2 : b / gc t b * gc t b = b := Int.ediv_mul_cancel gc_r
  unfold lowD
  generalize b / gc t b = y at *
  generalize gc t b = z at *
  split
  · rename_i c
    rcases Int.lt_trichotomy y 0 with a | a | a
    · omega
    · rw [a, Int.zero_mul] at e2; omega
    · have := Int.mul_pos a g; omega
  · rename_i c
    rcases Int.lt_trichotomy y 0 with a | a | a
    · have := Int.mul_neg_of_neg_of_pos a g; omega
    · rw [a, Int.zero_mul] at e2; omega
    · exact a
/-- the same number -/
theorem low_cross {t b : Int} (h : b ≠ 0) : lowN t b * b = t * lowD t b := by
  have g := gc_pos (t := t) h
  have e1 : t / gc t b * gc t b = t := Int.ediv_mul_cancel gc_l
  have e2 : b / gc t b * gc t b = b := Int.ediv_mul_cancel gc_r
  unfold lowN lowD
  generalize t / gc t b = x at *
  generalize b / gc t b = y at *
  generalize gc t b = z at *
  split <;> grind
theorem low_gcd {t b : Int} (h : b ≠ 0) : Int.gcd (lowN t b) (lowD t b) = 1 := by
  have g : 0 < Int.gcd t b := Int.gcd_pos_iff.mpr (.inr h)
  have e : Int.gcd (t / gc t b) (b / gc t b) = 1 := Int.gcd_ediv_gcd_ediv_gcd g
  unfold lowN lowD
  split
  · rw [Int.neg_gcd, Int.gcd_neg]; exact e
  · exact e
theorem sgn_div {t g : Int} (hg : 0 < g) (h : g ∣ t) : t / -g = -(t / g) := by rw [Int.ediv_neg]
/-! points -/
structure XOk (X : XP) : Prop where
  u : 0 < X.1.d
  v : 0 < X.2.d
/-- the square of the way to a place, times a number above nought -/
def dX (X : XP) (p : P) : Int := ((p.x * X.1.d - X.1.n) * X.2.d) * ((p.x * X.1.d - X.1.n) * X.2.d) + ((p.y * X.2.d - X.2.n) * X.1.d) * ((p.y * X.2.d - X.2.n) * X.1.d)
def bentX (X : XP) (p q : P) : Int := (q.x * q.x + q.y * q.y - p.x * p.x - p.y * p.y) * X.1.d * X.2.d - 2 * X.1.n * X.2.d * (q.x - p.x) - 2 * X.2.n * X.1.d * (q.y - p.y)
theorem bentX_eq (X : XP) (p q : P) : dX X q - dX X p = X.1.d * X.2.d * bentX X p q := by
  unfold dX bentX; grind
theorem sg_pos_mul {x y : Int} (h : 0 < x) : sg (x * y) = sg y := by rw [sg_mul, sg_pos h, Int.one_mul]
theorem bentX_sg {X : XP} (h : XOk X) (p q : P) : sg (bentX X p q) = sg (dX X q - dX X p) := by
  rw [bentX_eq, sg_pos_mul (Int.mul_pos h.u h.v)]
/-- the places to which no other is nearer, in order -/
def near (X : XP) (ps : List P) : List P := (srtL ps).filter fun p => ps.all fun q => decide (dX X p ≤ dX X q)
theorem all_perm {α : Type} {p : α → Bool} {l m : List α} (h : l.Perm m) : l.all p = m.all p := by
  rw [Bool.eq_iff_iff, List.all_eq_true, List.all_eq_true]
  exact ⟨fun k x hx => k x (h.mem_iff.mpr hx), fun k x hx => k x (h.mem_iff.mp hx)⟩
theorem near_perm {X : XP} {ps qs : List P} (h : ps.Perm qs) : near X ps = near X qs := by
  unfold near
  rw [srtL_uniq h]
  congr 1
  funext p
  exact all_perm h
theorem mem_near {X : XP} {ps : List P} {p : P} : p ∈ near X ps ↔ p ∈ ps ∧ ∀ q ∈ ps, dX X p ≤ dX X q := by
  unfold near
  rw [List.mem_filter, srtL_mem, List.all_eq_true]
  simp
/-- .. step by step -/
def nearS (X : XP) (l : List P) (p : P) : List P := match l with
  | [] => [p]
  | q :: l => if dX X p < dX X q then [p] else if dX X p = dX X q then (q :: l) ++ [p] else q :: l
theorem near_fold {X : XP} : ∀ (ps done : List P), ps.foldl (nearS X) (done.filter fun p => done.all fun q => decide (dX X p ≤ dX X q)) = (done ++ ps).filter fun p => (done ++ ps).all fun q => decide (dX X p ≤ dX X q)
  | [], done => by rw [List.append_nil]; rfl
  | p :: ps, done => by
    have e : nearS X (done.filter fun p => done.all fun q => decide (dX X p ≤ dX X q)) p = (done ++ [p]).filter fun x => (done ++ [p]).all fun q => decide (dX X x ≤ dX X q) := by
      generalize hg : (done.filter fun p => done.all fun q => decide (dX X p ≤ dX X q)) = g
      have mem : ∀ x, x ∈ g ↔ x ∈ done ∧ ∀ q ∈ done, dX X x ≤ dX X q := fun x => by rw [← hg, List.mem_filter, List.all_eq_true]; simp
      have mi : done ≠ [] → ∃ m ∈ done, ∀ q ∈ done, dX X m ≤ dX X q := by
        clear hg mem
        induction done with
        | nil => intro h; exact absurd rfl h
        | cons a l ih =>
          intro _
          by_cases hl : l = []
          · subst hl; exact ⟨a, by simp, by simp⟩
          · obtain ⟨m, hm, hq⟩ := ih hl
            by_cases c : dX X a ≤ dX X m
            · exact ⟨a, by simp, fun q hq' => by rcases List.mem_cons.mp hq' with rfl | z; exact Int.le_refl _; exact Int.le_trans c (hq q z)⟩
            · exact ⟨m, List.mem_cons_of_mem _ hm, fun q hq' => by rcases List.mem_cons.mp hq' with rfl | z; omega; exact hq q z⟩
      have fl : (done ++ [p]).filter (fun x => (done ++ [p]).all fun q => decide (dX X x ≤ dX X q)) = (g.filter fun x => decide (dX X x ≤ dX X p)) ++ (if done.all (fun q => decide (dX X p ≤ dX X q)) = true then [p] else []) := by
        rw [List.filter_append, ← hg, List.filter_filter]
        congr 1
        · apply List.filter_congr
          intro x _
          rw [List.all_append, Bool.and_comm]
          simp
        · rw [List.filter_cons, List.filter_nil, List.all_append]
          have : ([p].all fun q => decide (dX X p ≤ dX X q)) = true := by simp
          rw [this, Bool.and_true]
      rw [fl]
      cases g with
      | nil =>
        have : done = [] := by
          by_cases h : done = []
          · exact h
          · obtain ⟨m, hm, hq⟩ := mi h
            exact absurd ((mem m).mpr ⟨hm, hq⟩) List.not_mem_nil
        subst this
        simp [nearS]
      | cons q l =>
        have hq := (mem q).mp List.mem_cons_self
        have al : ∀ x ∈ q :: l, dX X x = dX X q := fun x hx => by
          have hx := (mem x).mp hx
          have h1 := hx.2 q hq.1
          have h2 := hq.2 x hx.1
          omega
        have pall : (done.all (fun r => decide (dX X p ≤ dX X r)) = true) ↔ dX X p ≤ dX X q := by
          rw [List.all_eq_true]
          constructor
          · intro h; simpa using h q hq.1
          · intro h r hr; have := hq.2 r hr; exact decide_eq_true (by omega)
        show (if dX X p < dX X q then [p] else if dX X p = dX X q then (q :: l) ++ [p] else q :: l) = _
        by_cases c1 : dX X p < dX X q
        · rw [if_pos (pall.mpr (by omega)), if_pos c1]
          rw [List.filter_eq_nil_iff.mpr fun x hx => by have := al x hx; simp; omega]
          rfl
        · by_cases c2 : dX X p = dX X q
          · rw [if_pos (pall.mpr (by omega)), if_neg c1, if_pos c2]
            rw [List.filter_eq_self.mpr fun x hx => by have := al x hx; exact decide_eq_true (by omega)]
          · rw [if_neg c1, if_neg c2, if_neg (fun z => by have := pall.mp z; omega), List.append_nil]
            rw [List.filter_eq_self.mpr fun x hx => by have := al x hx; exact decide_eq_true (by omega)]
    rw [List.foldl_cons, e, near_fold ps (done ++ [p]), List.append_assoc]
    rfl
theorem near_eq (X : XP) (ps : List P) : (srtL ps).foldl (nearS X) [] = near X ps := by
  have := near_fold (X := X) (srtL ps) []
  rw [List.filter_nil, List.nil_append] at this
  rw [this]
  unfold near
  congr 1
  funext p
  exact all_perm (srtL_perm ps)
theorem near_ne {X : XP} {ps : List P} (h : ps ≠ []) : near X ps ≠ [] := by
  have key : ∀ l : List P, l ≠ [] → ∃ m ∈ l, ∀ q ∈ l, dX X m ≤ dX X q := fun l => by
    induction l with
    | nil => intro h; exact absurd rfl h
    | cons a l ih =>
      intro _
      by_cases hl : l = []
      · subst hl; exact ⟨a, by simp, by simp⟩
      · obtain ⟨m, hm, hq⟩ := ih hl
        by_cases c : dX X a ≤ dX X m
        · exact ⟨a, by simp, fun q hq' => by rcases List.mem_cons.mp hq' with rfl | z; exact Int.le_refl _; exact Int.le_trans c (hq q z)⟩
        · exact ⟨m, List.mem_cons_of_mem _ hm, fun q hq' => by rcases List.mem_cons.mp hq' with rfl | z; omega; exact hq q z⟩
  obtain ⟨m, hm, hq⟩ := key ps h
  intro z
  have := mem_near.mpr ⟨hm, hq⟩
  rw [z] at this
  exact absurd this List.not_mem_nil
theorem srtL_filter {α : Type} [Ty α] [DecidableEq α] {d : Nat} [o : Or α d] {p : α → Bool} {l : List α} (h : l.Nodup) : srtL (l.filter p) = (srtL l).filter p := by
  rw [srtL_uniq (((srtL_perm l).filter p).symm)]
  exact srtL_id ((srtL_str h).filter p)
/-- the middle of the ring of three places, over twice their area twice -/
abbrev midNx (a b c : P) : Int := 2 * tP a b c * a.x + (c.y - a.y) * ((b.x - a.x) * (b.x - a.x) + (b.y - a.y) * (b.y - a.y)) - (b.y - a.y) * ((c.x - a.x) * (c.x - a.x) + (c.y - a.y) * (c.y - a.y))
abbrev midNy (a b c : P) : Int := 2 * tP a b c * a.y + (b.x - a.x) * ((c.x - a.x) * (c.x - a.x) + (c.y - a.y) * (c.y - a.y)) - (c.x - a.x) * ((b.x - a.x) * (b.x - a.x) + (b.y - a.y) * (b.y - a.y))
theorem xok_low {n m k : Nat} {x y b : Int} (hx : Sz n x) (hy : Sz m y) (hb : Sz k b) (hn : n ≤ 10000) (hm : m ≤ 10000) (hk : k ≤ 10000) (h : b ≠ 0) : XOk (low x b, low y b) := ⟨by show 0 < (low x b).d; rw [(low_nd hx hb hn hk).2]; exact lowD_pos h, by show 0 < (low y b).d; rw [(low_nd hy hb hm hk).2]; exact lowD_pos h⟩
theorem xok_low2 {n m k l : Nat} {x y b c : Int} (hx : Sz n x) (hy : Sz m y) (hb : Sz k b) (hc : Sz l c) (hn : n ≤ 10000) (hm : m ≤ 10000) (hk : k ≤ 10000) (hl : l ≤ 10000) (h : b ≠ 0) (h' : c ≠ 0) : XOk (low x b, low y c) := ⟨by show 0 < (low x b).d; rw [(low_nd hx hb hn hk).2]; exact lowD_pos h, by show 0 < (low y c).d; rw [(low_nd hy hc hm hl).2]; exact lowD_pos h'⟩
theorem gcd_step (x y : Nat) : Nat.gcd y (x % y) = Nat.gcd x y := by
  rw [Nat.gcd_comm y (x % y), ← Nat.gcd_rec y x, Nat.gcd_comm]
theorem sz_ad {n : Nat} {x y : Int} (a : Sz n x) (b : Sz n y) : Sz (n + 1) (x + y) := ⟨by
  have := a.lt; have := b.lt; rw [Nat.pow_succ]; omega⟩
theorem sz_sb {n : Nat} {x y : Int} (a : Sz n x) (b : Sz n y) : Sz (n + 1) (x - y) := ⟨by
  have := a.lt; have := b.lt; rw [Nat.pow_succ]; omega⟩
theorem sz_ml {n m : Nat} {x y : Int} (a : Sz n x) (b : Sz m y) : Sz (n + m) (x * y) := inferInstance
theorem sz_tP (a b c : P) : Sz 2003 (tP a b c) := sz_sb (sz_ml (sz_sb b.hx a.hx) (sz_sb c.hy a.hy)) (sz_ml (sz_sb b.hy a.hy) (sz_sb c.hx a.hx))
theorem sz_sq (a b : P) : Sz 2003 ((b.x - a.x) * (b.x - a.x) + (b.y - a.y) * (b.y - a.y)) := sz_ad (sz_ml (sz_sb b.hx a.hx) (sz_sb b.hx a.hx)) (sz_ml (sz_sb b.hy a.hy) (sz_sb b.hy a.hy))
theorem sz_2tP (a b c : P) : Sz 2005 (2 * tP a b c) := Sz.up (sz_ml (n := 2) ⟨by decide⟩ (sz_tP a b c)) (by decide)
theorem sz_midNx (a b c : P) : Sz 3100 (midNx a b c) := by
  have h1 : Sz 3010 (2 * tP a b c * a.x) := (sz_ml (sz_2tP a b c) a.hx).up (by decide)
  have h2 : Sz 3010 ((c.y - a.y) * ((b.x - a.x) * (b.x - a.x) + (b.y - a.y) * (b.y - a.y))) := (sz_ml (sz_sb c.hy a.hy) (sz_sq a b)).up (by decide)
  have h3 : Sz 3011 ((b.y - a.y) * ((c.x - a.x) * (c.x - a.x) + (c.y - a.y) * (c.y - a.y))) := (sz_ml (sz_sb b.hy a.hy) (sz_sq a c)).up (by decide)
  exact (sz_sb (sz_ad h1 h2) h3).up (by decide)
theorem sz_midNy (a b c : P) : Sz 3100 (midNy a b c) := by
  have h1 : Sz 3010 (2 * tP a b c * a.y) := (sz_ml (sz_2tP a b c) a.hy).up (by decide)
  have h2 : Sz 3010 ((b.x - a.x) * ((c.x - a.x) * (c.x - a.x) + (c.y - a.y) * (c.y - a.y))) := (sz_ml (sz_sb b.hx a.hx) (sz_sq a c)).up (by decide)
  have h3 : Sz 3011 ((c.x - a.x) * ((b.x - a.x) * (b.x - a.x) + (b.y - a.y) * (b.y - a.y))) := (sz_ml (sz_sb c.hx a.hx) (sz_sq a b)).up (by decide)
  exact (sz_sb (sz_ad h1 h2) h3).up (by decide)
/-- the middle of the ring of three places -/
noncomputable def midX (a b c : P) : XP := (low (midNx a b c) (2 * tP a b c), low (midNy a b c) (2 * tP a b c))
theorem xok_mid {a b c : P} (h : tP a b c ≠ 0) : XOk (midX a b c) := xok_low (sz_midNx a b c) (sz_midNy a b c) (sz_2tP a b c) (by decide) (by decide) (by decide) (by omega)
/-- on which hand of a way a point lies -/
abbrev hX (a b : P) (X : XP) : Int := (b.x - a.x) * (X.2.n - a.y * X.2.d) * X.1.d - (b.y - a.y) * (X.1.n - a.x * X.1.d) * X.2.d
/-- on the straight way between two places, or an end -/
def onWay (a b : P) (X : XP) : Prop := hX a b X = 0 ∧ (mnT a.x b.x * X.1.d ≤ X.1.n ∧ X.1.n ≤ mxT a.x b.x * X.1.d) ∧ mnT a.y b.y * X.2.d ≤ X.2.n ∧ X.2.n ≤ mxT a.y b.y * X.2.d
instance {a b : P} {X : XP} : Decidable (onWay a b X) := by unfold onWay; infer_instance
end TL

/-! Sides that bar the way from a point to a place. -/
namespace TL
open PySem PySem.Spec PyProof.Rows L2 NL GM VL
open Ty (ec)
def crV (px py qx qy ax ay bx by_ : Int) : Int := (qx - px) * (by_ - ay) - (qy - py) * (bx - ax)
def soV (ax ay bx by_ x u y v : Int) : Int := (bx - ax) * (y - ay * v) * u - (by_ - ay) * (x - ax * u) * v
def comV (x u y v px py : Int) : Int := if x * 1 < px * u then -1 else if px * u < x * 1 then 1 else if y * 1 < py * v then -1 else if py * v < y * 1 then 1 else 0
def iolP (ax ay bx by_ x u y v dx dy : Int) : Prop := (0 < comV x u y v dx dy ∧ lxP dx dy bx by_ ∧ 0 ≤ comV x u y v ax ay) ∨ (comV x u y v dx dy < 0 ∧ lxP ax ay dx dy ∧ comV x u y v bx by_ ≤ 0)
instance {ax ay bx by_ x u y v dx dy : Int} : Decidable (iolP ax ay bx by_ x u y v dx dy) := by unfold iolP; infer_instance
def baP (ax ay bx by_ x u y v dx dy : Int) : Prop := (sg (twV ax ay bx by_ dx dy) = 0 ∧ sg (soV ax ay bx by_ x u y v) = 0 ∧ iolP ax ay bx by_ x u y v dx dy) ∨ (¬ sg (twV ax ay bx by_ dx dy) = 0 ∧ sg (soV ax ay bx by_ x u y v) * sg (twV ax ay bx by_ dx dy) ≤ 0 ∧ sg (soV ax ay dx dy x u y v) * sg (soV bx by_ dx dy x u y v) ≤ 0)
instance {ax ay bx by_ x u y v dx dy : Int} : Decidable (baP ax ay bx by_ x u y v dx dy) := by unfold baP; infer_instance
def laP (ax ay bx by_ x y dx dy : Int) : Prop := (crV ax ay bx by_ x y dx dy = 0 ∧ ¬ (x = dx ∧ y = dy) ∧ crV ax ay bx by_ ax ay x y = 0 ∧ ((lxP x y dx dy ∧ lxP ax ay dx dy ∧ ¬ lxP bx by_ x y) ∨ (¬ lxP x y dx dy ∧ lxP dx dy bx by_ ∧ ¬ lxP x y ax ay))) ∨
  (0 < crV ax ay bx by_ x y dx dy ∧ 0 ≤ crV ax ay x y x y dx dy ∧ crV ax ay x y x y dx dy ≤ crV ax ay bx by_ x y dx dy ∧ 0 ≤ crV ax ay x y ax ay bx by_ ∧ crV ax ay x y ax ay bx by_ < crV ax ay bx by_ x y dx dy) ∨
  (crV ax ay bx by_ x y dx dy < 0 ∧ 0 ≤ -crV ax ay x y x y dx dy ∧ -crV ax ay x y x y dx dy ≤ -crV ax ay bx by_ x y dx dy ∧ 0 ≤ -crV ax ay x y ax ay bx by_ ∧ -crV ax ay x y ax ay bx by_ < -crV ax ay bx by_ x y dx dy)
instance {ax ay bx by_ x y dx dy : Int} : Decidable (laP ax ay bx by_ x y dx dy) := by unfold laP; infer_instance
theorem cr_wide (ax ay bx by_ x y dx dy : Int) : crV ax ay bx by_ x y dx dy = twV ax ay bx by_ dx dy - twV ax ay bx by_ x y := by unfold crV twV; grind
theorem cr_here (ax ay x y dx dy : Int) : crV ax ay x y x y dx dy = -twV ax ay dx dy x y := by unfold crV twV; grind
theorem cr_there (ax ay bx by_ x y : Int) : crV ax ay x y ax ay bx by_ = -twV ax ay bx by_ x y := by unfold crV twV; grind
theorem cr_str (ax ay bx by_ x y : Int) : crV ax ay bx by_ ax ay x y = twV ax ay bx by_ x y := by unfold crV twV; grind
theorem tw_be (ax ay bx by_ x y dx dy : Int) : twV bx by_ dx dy x y = twV ax ay dx dy x y + (twV ax ay bx by_ dx dy - twV ax ay bx by_ x y) := by unfold twV; grind
theorem sg3 (k : Int) : (0 < k ∧ sg k = 1) ∨ (k < 0 ∧ sg k = -1) ∨ (k = 0 ∧ sg k = 0) := by
  unfold sg
  rcases Int.lt_trichotomy k 0 with h | h | h
  · right; left; refine ⟨h, ?_⟩; rw [if_neg (by omega), if_pos h]
  · right; right; refine ⟨h, ?_⟩; subst h; rfl
  · left; refine ⟨h, ?_⟩; rw [if_pos h]
theorem bar_core (P Q a : Int) : (¬ sg Q = 0 ∧ sg P * sg Q ≤ 0 ∧ sg a * sg (a + (Q - P)) ≤ 0) ↔ (0 < Q - P ∧ 0 ≤ -a ∧ -a ≤ Q - P ∧ 0 ≤ -P ∧ -P < Q - P) ∨ (Q - P < 0 ∧ 0 ≤ -(-a) ∧ -(-a) ≤ -(Q - P) ∧ 0 ≤ -(-P) ∧ -(-P) < -(Q - P)) := by
  rcases sg3 P with ⟨h1, e1⟩ | ⟨h1, e1⟩ | ⟨h1, e1⟩ <;> rcases sg3 Q with ⟨h2, e2⟩ | ⟨h2, e2⟩ | ⟨h2, e2⟩ <;> rcases sg3 a with ⟨h3, e3⟩ | ⟨h3, e3⟩ | ⟨h3, e3⟩ <;> rcases sg3 (a + (Q - P)) with ⟨h4, e4⟩ | ⟨h4, e4⟩ | ⟨h4, e4⟩ <;> rw [e1, e2, e3, e4] <;> omega
theorem so_tw {ax ay bx by_ x u y v X Y w g h : Int} (hx : x * g = X) (hu : u * g = w) (hy : y * h = Y) (hv : v * h = w) : g * h * soV ax ay bx by_ x u y v = twV (w * ax) (w * ay) (w * bx) (w * by_) X Y := by
  have e1 : g * h * soV ax ay bx by_ x u y v = (bx - ax) * (y * h - ay * (v * h)) * (u * g) - (by_ - ay) * (x * g - ax * (u * g)) * (v * h) := by unfold soV; grind
  rw [e1, hx, hu, hy, hv]
  unfold twV
  grind
theorem sg_mulP {s k : Int} (hs : 0 < s) : sg (s * k) = sg k := by
  rcases sg3 k with ⟨h, e⟩ | ⟨h, e⟩ | ⟨h, e⟩
  · have : 0 < s * k := Int.mul_pos hs h
    rw [e]; unfold sg; rw [if_pos this]
  · have : s * k < 0 := Int.mul_neg_of_pos_of_neg hs h
    rw [e]; unfold sg; rw [if_neg (by omega), if_pos this]
  · rw [e, h, Int.mul_zero]; rfl
theorem com_lx {x u y v px py X Y w g h : Int} (hg : 0 < g) (hh : 0 < h) (hx : x * g = X) (hu : u * g = w) (hy : y * h = Y) (hv : v * h = w) :
    (comV x u y v px py < 0 ↔ lxP X Y (w * px) (w * py)) ∧ (0 < comV x u y v px py ↔ lxP (w * px) (w * py) X Y) := by
  have m1 : ∀ a b : Int, a < b ↔ a * g < b * g := fun a b => ⟨fun z => Int.mul_lt_mul_of_pos_right z hg, fun z => Int.lt_of_mul_lt_mul_right z (Int.le_of_lt hg)⟩
  have m2 : ∀ a b : Int, a < b ↔ a * h < b * h := fun a b => ⟨fun z => Int.mul_lt_mul_of_pos_right z hh, fun z => Int.lt_of_mul_lt_mul_right z (Int.le_of_lt hh)⟩
  have c1 : x * 1 < px * u ↔ X < w * px := by rw [m1, Int.mul_one, hx, show px * u * g = w * px by rw [← hu]; grind]
  have c2 : px * u < x * 1 ↔ w * px < X := by rw [m1, Int.mul_one, hx, show px * u * g = w * px by rw [← hu]; grind]
  have c3 : y * 1 < py * v ↔ Y < w * py := by rw [m2, Int.mul_one, hy, show py * v * h = w * py by rw [← hv]; grind]
  have c4 : py * v < y * 1 ↔ w * py < Y := by rw [m2, Int.mul_one, hy, show py * v * h = w * py by rw [← hv]; grind]
  unfold comV lxP
  simp only [c1, c2, c3, c4]
  repeat' split
  all_goals omega
theorem ba_la {ax ay bx by_ dx dy x u y v X Y w g h : Int} (hw : 0 < w) (hg : 0 < g) (hh : 0 < h) (hx : x * g = X) (hu : u * g = w) (hy : y * h = Y) (hv : v * h = w) :
    baP ax ay bx by_ x u y v dx dy ↔ laP (w * ax) (w * ay) (w * bx) (w * by_) X Y (w * dx) (w * dy) := by
  have gh : 0 < g * h := Int.mul_pos hg hh
  have e1 : sg (soV ax ay bx by_ x u y v) = sg (twV (w * ax) (w * ay) (w * bx) (w * by_) X Y) := by rw [← so_tw hx hu hy hv, sg_mulP gh]
  have e2 : sg (soV ax ay dx dy x u y v) = sg (twV (w * ax) (w * ay) (w * dx) (w * dy) X Y) := by rw [← so_tw hx hu hy hv, sg_mulP gh]
  have e3 : sg (soV bx by_ dx dy x u y v) = sg (twV (w * bx) (w * by_) (w * dx) (w * dy) X Y) := by rw [← so_tw hx hu hy hv, sg_mulP gh]
  have e4 : sg (twV ax ay bx by_ dx dy) = sg (twV (w * ax) (w * ay) (w * bx) (w * by_) (w * dx) (w * dy)) := by
    rw [show twV (w * ax) (w * ay) (w * bx) (w * by_) (w * dx) (w * dy) = w * w * twV ax ay bx by_ dx dy by unfold twV; grind, sg_mulP (Int.mul_pos hw hw)]
  have lw : ∀ a b c d : Int, lxP a b c d ↔ lxP (w * a) (w * b) (w * c) (w * d) := fun a b c d => by
    have m : ∀ a b : Int, a < b ↔ w * a < w * b := fun a b => ⟨fun z => Int.mul_lt_mul_of_pos_left z hw, fun z => Int.lt_of_mul_lt_mul_left z (Int.le_of_lt hw)⟩
    have := m a c; have := m c a; have := m b d
    unfold lxP
    omega
  obtain ⟨d1, d2⟩ := com_lx (px := dx) (py := dy) hg hh hx hu hy hv
  obtain ⟨a1, a2⟩ := com_lx (px := ax) (py := ay) hg hh hx hu hy hv
  obtain ⟨b1, b2⟩ := com_lx (px := bx) (py := by_) hg hh hx hu hy hv
  unfold baP laP iolP
  rw [e1, e2, e3, e4, cr_wide, cr_here, cr_there (w * ax) (w * ay) (w * bx) (w * by_) X Y, cr_str (w * ax) (w * ay) (w * bx) (w * by_) X Y, tw_be (w * ax) (w * ay) (w * bx) (w * by_) X Y (w * dx) (w * dy), bar_core, lw dx dy bx by_, lw ax ay dx dy]
  have sq : ∀ k : Int, sg k = 0 ↔ k = 0 := fun k => by rcases sg3 k with ⟨h, e⟩ | ⟨h, e⟩ | ⟨h, e⟩ <;> rw [e] <;> omega
  have na : 0 ≤ comV x u y v ax ay ↔ ¬ lxP X Y (w * ax) (w * ay) := by rw [← a1]; omega
  have nb : comV x u y v bx by_ ≤ 0 ↔ ¬ lxP (w * bx) (w * by_) X Y := by rw [← b2]; omega
  rw [sq, sq, na, nb, d1, d2]
  refine or_congr ?_ Iff.rfl
  generalize twV (w * ax) (w * ay) (w * bx) (w * by_) X Y = P
  generalize twV (w * ax) (w * ay) (w * bx) (w * by_) (w * dx) (w * dy) = Q
  unfold lxP
  omega
end TL

namespace TL
open PySem PySem.Spec PyProof.Rows L2 NL GM VL
open Ty (ec)
def top (i : Nat) : Stmt := PySem.Challenge.pw_nearland_k54_shut_off.main.body.getD i (.Pass ⟨0, 0, 0, 0⟩)
-- 0: less(one, other); 0 one, 1 other
def f0 : Fn := ⟨2, 2, (.cons (.ret (.cmp .lt (.bin .mul (.idx (.var 0) (.con (.int 0))) (.idx (.var 1) (.con (.int 1)))) (.bin .mul (.idx (.var 1) (.con (.int 0))) (.idx (.var 0) (.con (.int 1)))))) .nil)⟩
abbrev e0 : Ent := ⟨"less", top 1, ["one", "other"], ["one", "other"], f0⟩
-- 1: point_of(p); 0 p
def f1 : Fn := ⟨1, 1, (.cons (.ret (.tup (.cons (.tup (.cons (.idx (.var 0) (.con (.int 0))) (.cons (.con (.int 1)) .nil))) (.cons (.tup (.cons (.idx (.var 0) (.con (.int 1))) (.cons (.con (.int 1)) .nil))) .nil)))) .nil)⟩
abbrev e1 : Ent := ⟨"point_of", top 2, ["p"], ["p"], f1⟩
-- 2: twice(a, b, c); 0 a, 1 b, 2 c
def f2 : Fn := ⟨3, 3, (.cons (.ret (.bin .sub (.bin .mul (.bin .sub (.idx (.var 1) (.con (.int 0))) (.idx (.var 0) (.con (.int 0)))) (.bin .sub (.idx (.var 2) (.con (.int 1))) (.idx (.var 0) (.con (.int 1))))) (.bin .mul (.bin .sub (.idx (.var 1) (.con (.int 1))) (.idx (.var 0) (.con (.int 1)))) (.bin .sub (.idx (.var 2) (.con (.int 0))) (.idx (.var 0) (.con (.int 0))))))) .nil)⟩
abbrev e2 : Ent := ⟨"twice", top 4, ["a", "b", "c"], ["a", "b", "c"], f2⟩
-- 3: sign_of(number); 0 number
def f3 : Fn := ⟨1, 1, (.cons (.ifs (.cmp .gt (.var 0) (.con (.int 0))) (.cons (.ret (.con (.int 1))) .nil) .nil) (.cons (.ifs (.cmp .lt (.var 0) (.con (.int 0))) (.cons (.ret (.neg (.con (.int 1)))) .nil) .nil) (.cons (.ret (.con (.int 0))) .nil)))⟩
abbrev e3 : Ent := ⟨"sign_of", top 5, ["number"], ["number"], f3⟩
-- 4: turn(a, b, c); 0 a, 1 b, 2 c
def f4 : Fn := ⟨3, 3, (.cons (.ret (.call 3 (.cons (.call 2 (.cons (.var 0) (.cons (.var 1) (.cons (.var 2) .nil)))) .nil))) .nil)⟩
abbrev e4 : Ent := ⟨"turn", top 6, ["a", "b", "c"], ["a", "b", "c"], f4⟩
-- 5: side_of(a, b, X); 0 a, 1 b, 2 X, 3 along, 4 x, 5 u, 6 y, 7 v
def f5 : Fn := ⟨3, 8, (.cons (.unp [4, 5] (.idx (.var 2) (.con (.int 0)))) (.cons (.unp [6, 7] (.idx (.var 2) (.con (.int 1)))) (.cons (.set 3 (.bin .mul (.bin .mul (.bin .sub (.idx (.var 1) (.con (.int 0))) (.idx (.var 0) (.con (.int 0)))) (.bin .sub (.var 6) (.bin .mul (.idx (.var 0) (.con (.int 1))) (.var 7)))) (.var 5))) (.cons (.ret (.call 3 (.cons (.bin .sub (.var 3) (.bin .mul (.bin .mul (.bin .sub (.idx (.var 1) (.con (.int 1))) (.idx (.var 0) (.con (.int 1)))) (.bin .sub (.var 4) (.bin .mul (.idx (.var 0) (.con (.int 0))) (.var 5)))) (.var 7))) .nil))) .nil))))⟩
abbrev e5 : Ent := ⟨"side_of", top 7, ["a", "b", "X", "along", "x", "u", "y", "v"], ["a", "b", "X"], f5⟩
-- 6: comes(X, p); 0 X, 1 p, 2 one, 3 other
def f6 : Fn := ⟨2, 4, (.cons (.for_ (.tp [2, 3]) (.zip (.var 0) (.call 1 (.cons (.var 1) .nil))) (.cons (.ifs (.call 0 (.cons (.var 2) (.cons (.var 3) .nil))) (.cons (.ret (.neg (.con (.int 1)))) .nil) .nil) (.cons (.ifs (.call 0 (.cons (.var 3) (.cons (.var 2) .nil))) (.cons (.ret (.con (.int 1))) .nil) .nil) .nil))) (.cons (.ret (.con (.int 0))) .nil))⟩
abbrev e6 : Ent := ⟨"comes", top 9, ["X", "p", "one", "other"], ["X", "p"], f6⟩
-- 7: in_one_line(side, X, d); 0 side, 1 X, 2 d
def f7 : Fn := ⟨3, 3, (.cons (.ifs (.cmp .gt (.call 6 (.cons (.var 1) (.cons (.var 2) .nil))) (.con (.int 0))) (.cons (.ret (.and (.cmp .lt (.var 2) (.idx (.var 0) (.con (.int 1)))) (.cmp .ge (.call 6 (.cons (.var 1) (.cons (.idx (.var 0) (.con (.int 0))) .nil))) (.con (.int 0))))) .nil) .nil) (.cons (.ifs (.cmp .lt (.call 6 (.cons (.var 1) (.cons (.var 2) .nil))) (.con (.int 0))) (.cons (.ret (.and (.cmp .lt (.idx (.var 0) (.con (.int 0))) (.var 2)) (.cmp .le (.call 6 (.cons (.var 1) (.cons (.idx (.var 0) (.con (.int 1))) .nil))) (.con (.int 0))))) .nil) .nil) (.cons (.ret (.con (.bl false))) .nil)))⟩
abbrev e7 : Ent := ⟨"in_one_line", top 10, ["side", "X", "d"], ["side", "X", "d"], f7⟩
-- 8: bars(side, X, d); 0 side, 1 X, 2 d, 3 where, 4 there, 5 a, 6 b
def f8 : Fn := ⟨3, 7, (.cons (.unp [5, 6] (.var 0)) (.cons (.set 3 (.call 5 (.cons (.var 5) (.cons (.var 6) (.cons (.var 1) .nil))))) (.cons (.set 4 (.call 4 (.cons (.var 5) (.cons (.var 6) (.cons (.var 2) .nil))))) (.cons (.ifs (.cmp .eq (.var 4) (.con (.int 0))) (.cons (.ret (.and (.cmp .eq (.var 3) (.con (.int 0))) (.call 7 (.cons (.var 0) (.cons (.var 1) (.cons (.var 2) .nil)))))) .nil) .nil) (.cons (.ret (.and (.cmp .le (.bin .mul (.var 3) (.var 4)) (.con (.int 0))) (.cmp .le (.bin .mul (.call 5 (.cons (.var 5) (.cons (.var 2) (.cons (.var 1) .nil)))) (.call 5 (.cons (.var 6) (.cons (.var 2) (.cons (.var 1) .nil))))) (.con (.int 0))))) .nil)))))⟩
abbrev e8 : Ent := ⟨"bars", top 11, ["side", "X", "d", "where", "there", "a", "b"], ["side", "X", "d"], f8⟩
-- 9: shut(kept, X, d); 0 kept, 1 X, 2 d, 3 side
def f9 : Fn := ⟨3, 4, (.cons (.for_ (.nm 3) (.val (.var 0)) (.cons (.ifs (.call 8 (.cons (.var 3) (.cons (.var 1) (.cons (.var 2) .nil)))) (.cons (.ret (.var 3)) .nil) .nil) .nil)) (.cons (.ret (.con .non)) .nil))⟩
abbrev e9 : Ent := ⟨"shut", top 12, ["kept", "X", "d", "side"], ["kept", "X", "d"], f9⟩
-- 10: _law_at(_law_script, _law_k); 0 _law_script, 1 _law_k
def f10 : Fn := ⟨2, 2, (.cons (.ret (.idx (.bin .add (.slc true true (.var 0) (.var 1) (.bin .add (.var 1) (.con (.int 1)))) (.lst (.cons (.con (.int 0)) .nil))) (.con (.int 0)))) .nil)⟩
abbrev e10 : Ent := ⟨"_law_at", top 14, ["_law_script", "_law_k"], ["_law_script", "_law_k"], f10⟩
-- 11: _law_spot(_law_kind, _law_cell, _law_head); 0 _law_kind, 1 _law_cell, 2 _law_head, 3 _law_five, 4 _law_times, 5 _law_x, 6 _law_y
def f11 : Fn := ⟨3, 7, (.cons (.ifs (.cmp .gt (.var 0) (.con (.int 5))) (.cons (.set 0 (.idx (.lst (.cons (.con (.int 0)) (.cons (.con (.int 3)) (.cons (.con (.int 0)) (.cons (.con (.int 5)) .nil))))) (.bin .add (.bin .mul (.con (.int 2)) (.bin .sub (.var 0) (.con (.int 6)))) (.bin .mod (.bin .fdiv (.var 1) (.con (.int 16))) (.con (.int 2)))))) .nil) .nil) (.cons (.ifs (.cmp .eq (.var 0) (.con (.int 1))) (.cons (.ret (.tup (.cons (.bin .add (.bin .mod (.var 1) (.con (.int 3))) (.bin .pow (.con (.int 10)) (.con (.int 30)))) (.cons (.bin .sub (.bin .mod (.bin .fdiv (.var 1) (.con (.int 3))) (.con (.int 3))) (.bin .pow (.con (.int 10)) (.con (.int 30)))) .nil)))) .nil) .nil) (.cons (.ifs (.cmp .eq (.var 0) (.con (.int 2))) (.cons (.set 3 (.lst (.cons (.tup (.cons (.con (.int 5)) (.cons (.con (.int 0)) .nil))) (.cons (.tup (.cons (.con (.int 4)) (.cons (.con (.int 3)) .nil))) (.cons (.tup (.cons (.con (.int 3)) (.cons (.con (.int 4)) .nil))) (.cons (.tup (.cons (.con (.int 0)) (.cons (.con (.int 5)) .nil))) (.cons (.tup (.cons (.neg (.con (.int 3))) (.cons (.con (.int 4)) .nil))) (.cons (.tup (.cons (.neg (.con (.int 4))) (.cons (.con (.int 3)) .nil))) (.cons (.tup (.cons (.neg (.con (.int 5))) (.cons (.con (.int 0)) .nil))) .nil))))))))) (.cons (.set 3 (.bin .add (.var 3) (.lst (.cons (.tup (.cons (.neg (.con (.int 4))) (.cons (.neg (.con (.int 3))) .nil))) (.cons (.tup (.cons (.neg (.con (.int 3))) (.cons (.neg (.con (.int 4))) .nil))) (.cons (.tup (.cons (.con (.int 0)) (.cons (.neg (.con (.int 5))) .nil))) (.cons (.tup (.cons (.con (.int 3)) (.cons (.neg (.con (.int 4))) .nil))) (.cons (.tup (.cons (.con (.int 4)) (.cons (.neg (.con (.int 3))) .nil))) (.cons (.tup (.cons (.con (.int 0)) (.cons (.con (.int 0)) .nil))) .nil))))))))) (.cons (.unp [5, 6] (.idx (.var 3) (.bin .mod (.var 1) (.con (.int 13))))) (.cons (.set 4 (.bin .mul (.bin .add (.con (.int 1)) (.bin .mod (.var 2) (.con (.int 1009)))) (.bin .add (.con (.int 1)) (.bin .mod (.bin .fdiv (.var 1) (.con (.int 13))) (.con (.int 2)))))) (.cons (.ret (.tup (.cons (.bin .add (.bin .mul (.var 5) (.var 4)) (.bin .mod (.bin .fdiv (.var 2) (.con (.int 1009))) (.bin .pow (.con (.int 10)) (.con (.int 30))))) (.cons (.bin .sub (.bin .mul (.var 6) (.var 4)) (.bin .mod (.bin .fdiv (.var 2) (.con (.int 2003))) (.bin .pow (.con (.int 10)) (.con (.int 30))))) .nil)))) .nil))))) .nil) (.cons (.ifs (.cmp .eq (.var 0) (.con (.int 3))) (.cons (.set 5 (.bin .sub (.bin .mod (.var 1) (.con (.int 11))) (.con (.int 5)))) (.cons (.ret (.tup (.cons (.var 5) (.cons (.bin .add (.bin .mul (.con (.int 2)) (.var 5)) (.bin .mul (.bin .fdiv (.bin .mod (.bin .fdiv (.var 1) (.con (.int 11))) (.con (.int 3))) (.con (.int 2))) (.bin .add (.con (.int 1)) (.bin .mod (.bin .fdiv (.var 1) (.con (.int 33))) (.con (.int 4)))))) .nil)))) .nil)) .nil) (.cons (.ifs (.cmp .eq (.var 0) (.con (.int 4))) (.cons (.ret (.tup (.cons (.bin .sub (.bin .mod (.bin .mul (.var 1) (.con (.int 48271))) (.con (.int 2003))) (.con (.int 1001))) (.cons (.bin .sub (.bin .mod (.bin .mul (.var 1) (.con (.int 69621))) (.con (.int 1999))) (.con (.int 999))) .nil)))) .nil) .nil) (.cons (.ifs (.cmp .eq (.var 0) (.con (.int 5))) (.cons (.set 5 (.bin .mod (.bin .mul (.var 1) (.bin .pow (.con (.int 48271)) (.con (.int 8)))) (.con (.int 170141183460469231731687303715884105727)))) (.cons (.ret (.tup (.cons (.bin .sub (.var 5) (.bin .pow (.con (.int 10)) (.con (.int 38)))) (.cons (.bin .sub (.bin .pow (.con (.int 10)) (.con (.int 30))) (.bin .mod (.bin .mul (.var 1) (.bin .pow (.con (.int 69621)) (.con (.int 7)))) (.con (.int 162259276829213363391578010288127)))) .nil)))) .nil)) .nil) (.cons (.ret (.tup (.cons (.bin .mod (.var 1) (.con (.int 4))) (.cons (.bin .mod (.bin .fdiv (.var 1) (.con (.int 4))) (.con (.int 4))) .nil)))) .nil)))))))⟩
abbrev e11 : Ent := ⟨"_law_spot", top 15, ["_law_kind", "_law_cell", "_law_head", "_law_five", "_law_times", "_law_x", "_law_y"], ["_law_kind", "_law_cell", "_law_head"], f11⟩
-- 12: _law_places(_law_script, _law_most); 0 _law_script, 1 _law_most, 2 _law_some, 3 _law_cell, 4 _law_spot_here
def f12 : Fn := ⟨2, 5, (.cons (.set 2 (.lst .nil)) (.cons (.for_ (.nm 3) (.val (.slc true true (.var 0) (.con (.int 3)) (.bin .add (.con (.int 3)) (.var 1)))) (.cons (.set 4 (.call 11 (.cons (.bin .mod (.call 10 (.cons (.var 0) (.cons (.con (.int 0)) .nil))) (.con (.int 8))) (.cons (.var 3) (.cons (.call 10 (.cons (.var 0) (.cons (.con (.int 2)) .nil))) .nil))))) (.cons (.ifs (.cmp .notIn (.var 4) (.var 2)) (.cons (.app 2 (.var 4)) .nil) .nil) .nil))) (.cons (.ret (.var 2)) .nil)))⟩
abbrev e12 : Ent := ⟨"_law_places", top 16, ["_law_script", "_law_most", "_law_some", "_law_cell", "_law_spot_here"], ["_law_script", "_law_most"], f12⟩
-- 13: _law_int(_law_one); 0 _law_one
def f13 : Fn := ⟨1, 1, (.cons (.ret (.and (.isi (.var 0) .int) (.and (.cmp .isNot (.var 0) (.con (.bl true))) (.cmp .isNot (.var 0) (.con (.bl false)))))) .nil)⟩
abbrev e13 : Ent := ⟨"_law_int", top 17, ["_law_one"], ["_law_one"], f13⟩
-- 14: _law_places_of(_law_found, _law_many); 0 _law_found, 1 _law_many, 2 _law_p
def f14 : Fn := ⟨2, 3, (.cons (.ifs (.or (.not (.isi (.var 0) .tuple)) (.cmp .ne (.blt .len (.cons (.var 0) .nil)) (.var 1))) (.cons (.ret (.con (.bl false))) .nil) .nil) (.cons (.for_ (.nm 2) (.val (.var 0)) (.cons (.ifs (.or (.not (.isi (.var 2) .tuple)) (.or (.cmp .ne (.blt .len (.cons (.var 2) .nil)) (.con (.int 2))) (.or (.not (.call 13 (.cons (.idx (.var 2) (.con (.int 0))) .nil))) (.not (.call 13 (.cons (.idx (.var 2) (.con (.int 1))) .nil)))))) (.cons (.ret (.con (.bl false))) .nil) .nil) .nil)) (.cons (.ret (.con (.bl true))) .nil)))⟩
abbrev e14 : Ent := ⟨"_law_places_of", top 18, ["_law_found", "_law_many", "_law_p"], ["_law_found", "_law_many"], f14⟩
-- 15: _law_cross(_law_p, _law_q, _law_a, _law_b); 0 _law_p, 1 _law_q, 2 _law_a, 3 _law_b
def f15 : Fn := ⟨4, 4, (.cons (.ret (.bin .sub (.bin .mul (.bin .sub (.idx (.var 1) (.con (.int 0))) (.idx (.var 0) (.con (.int 0)))) (.bin .sub (.idx (.var 3) (.con (.int 1))) (.idx (.var 2) (.con (.int 1))))) (.bin .mul (.bin .sub (.idx (.var 1) (.con (.int 1))) (.idx (.var 0) (.con (.int 1)))) (.bin .sub (.idx (.var 3) (.con (.int 0))) (.idx (.var 2) (.con (.int 0))))))) .nil)⟩
abbrev e15 : Ent := ⟨"_law_cross", top 20, ["_law_p", "_law_q", "_law_a", "_law_b"], ["_law_p", "_law_q", "_law_a", "_law_b"], f15⟩
-- 16: _law_bars(_law_side, _law_x, _law_d); 0 _law_side, 1 _law_x, 2 _law_d, 3 _law_wide, 4 _law_here, 5 _law_there, 6 _law_a, 7 _law_b
def f16 : Fn := ⟨3, 8, (.cons (.unp [6, 7] (.var 0)) (.cons (.set 3 (.call 15 (.cons (.var 6) (.cons (.var 7) (.cons (.var 1) (.cons (.var 2) .nil)))))) (.cons (.ifs (.cmp .eq (.var 3) (.con (.int 0))) (.cons (.ifs (.or (.cmp .eq (.var 1) (.var 2)) (.cmp .ne (.call 15 (.cons (.var 6) (.cons (.var 7) (.cons (.var 6) (.cons (.var 1) .nil))))) (.con (.int 0)))) (.cons (.ret (.con (.bl false))) .nil) .nil) (.cons (.ifs (.cmp .lt (.var 1) (.var 2)) (.cons (.ret (.and (.cmp .lt (.var 6) (.var 2)) (.cmp .le (.var 1) (.var 7)))) .nil) .nil) (.cons (.ret (.and (.cmp .lt (.var 2) (.var 7)) (.cmp .le (.var 6) (.var 1)))) .nil))) .nil) (.cons (.set 4 (.call 15 (.cons (.var 6) (.cons (.var 1) (.cons (.var 1) (.cons (.var 2) .nil)))))) (.cons (.set 5 (.call 15 (.cons (.var 6) (.cons (.var 1) (.cons (.var 6) (.cons (.var 7) .nil)))))) (.cons (.ifs (.cmp .lt (.var 3) (.con (.int 0))) (.cons (.unp [3, 4, 5] (.tup (.cons (.neg (.var 3)) (.cons (.neg (.var 4)) (.cons (.neg (.var 5)) .nil))))) .nil) .nil) (.cons (.ret (.and (.cmp .le (.con (.int 0)) (.var 4)) (.and (.cmp .le (.var 4) (.var 3)) (.and (.cmp .le (.con (.int 0)) (.var 5)) (.cmp .lt (.var 5) (.var 3)))))) .nil)))))))⟩
abbrev e16 : Ent := ⟨"_law_bars", top 21, ["_law_side", "_law_x", "_law_d", "_law_wide", "_law_here", "_law_there", "_law_a", "_law_b"], ["_law_side", "_law_x", "_law_d"], f16⟩
-- 17: _law_grown(_law_some, _law_by); 0 _law_some, 1 _law_by, 2 _law_side, 3 _law_p
def f17 : Fn := ⟨2, 4, (.cons (.ret (.comp [2] (.nm 2) (.val (.var 0)) (.con (.bl true)) (.blt .tuple (.cons (.comp [3] (.nm 3) (.val (.var 2)) (.con (.bl true)) (.tup (.cons (.bin .mul (.idx (.var 3) (.con (.int 0))) (.var 1)) (.cons (.bin .mul (.idx (.var 3) (.con (.int 1))) (.var 1)) .nil)))) .nil)))) .nil)⟩
abbrev e17 : Ent := ⟨"_law_grown", top 22, ["_law_some", "_law_by", "_law_side", "_law_p"], ["_law_some", "_law_by"], f17⟩
-- 18: _law_first_bar(_law_some, _law_x, _law_by, _law_d); 0 _law_some, 1 _law_x, 2 _law_by, 3 _law_d, 4 _law_grown_here, 5 _law_k
def f18 : Fn := ⟨4, 6, (.cons (.set 4 (.call 17 (.cons (.var 0) (.cons (.var 2) .nil)))) (.cons (.for_ (.nm 5) (.rng1 (.blt .len (.cons (.var 0) .nil))) (.cons (.ifs (.call 16 (.cons (.idx (.var 4) (.var 5)) (.cons (.var 1) (.cons (.tup (.cons (.bin .mul (.idx (.var 3) (.con (.int 0))) (.var 2)) (.cons (.bin .mul (.idx (.var 3) (.con (.int 1))) (.var 2)) .nil))) .nil)))) (.cons (.ret (.idx (.var 0) (.var 5))) .nil) .nil) .nil)) (.cons (.ret (.con .non)) .nil)))⟩
abbrev e18 : Ent := ⟨"_law_first_bar", top 23, ["_law_some", "_law_x", "_law_by", "_law_d", "_law_grown_here", "_law_k"], ["_law_some", "_law_x", "_law_by", "_law_d"], f18⟩
-- 19: _law_lowest(_law_top, _law_bottom); 0 _law_top, 1 _law_bottom, 2 _law_one, 3 _law_other
def f19 : Fn := ⟨2, 4, (.cons (.unp [2, 3] (.tup (.cons (.var 1) (.cons (.var 0) .nil)))) (.cons (.whl (.cmp .ne (.var 3) (.con (.int 0))) (.cons (.unp [2, 3] (.tup (.cons (.var 3) (.cons (.bin .mod (.var 2) (.var 3)) .nil)))) .nil)) (.cons (.ret (.tup (.cons (.bin .fdiv (.var 0) (.blt .abs (.cons (.var 2) .nil))) (.cons (.bin .fdiv (.var 1) (.blt .abs (.cons (.var 2) .nil))) .nil)))) .nil)))⟩
abbrev e19 : Ent := ⟨"_law_lowest", top 24, ["_law_top", "_law_bottom", "_law_one", "_law_other"], ["_law_top", "_law_bottom"], f19⟩
-- 20: _law_asked(_law_some, _law_x, _law_by, _law_d); 0 _law_some, 1 _law_x, 2 _law_by, 3 _law_d, 4 _law_handed, 5 _law_found, 6 _law_due
def f20 : Fn := ⟨4, 7, (.cons (.set 4 (.blt .list (.cons (.var 0) .nil))) (.cons (.set 5 (.call 9 (.cons (.var 4) (.cons (.tup (.cons (.call 19 (.cons (.idx (.var 1) (.con (.int 0))) (.cons (.var 2) .nil))) (.cons (.call 19 (.cons (.idx (.var 1) (.con (.int 1))) (.cons (.var 2) .nil))) .nil))) (.cons (.var 3) .nil))))) (.cons (.set 6 (.call 18 (.cons (.var 0) (.cons (.var 1) (.cons (.var 2) (.cons (.var 3) .nil)))))) (.cons (.ifs (.cmp .ne (.var 4) (.var 0)) (.cons (.ret (.con (.bl false))) .nil) .nil) (.cons (.ifs (.cmp .is_ (.var 6) (.con .non)) (.cons (.ret (.cmp .is_ (.var 5) (.con .non))) .nil) .nil) (.cons (.ret (.and (.call 14 (.cons (.var 5) (.cons (.con (.int 2)) .nil))) (.cmp .eq (.var 5) (.var 6)))) .nil))))))⟩
abbrev e20 : Ent := ⟨"_law_asked", top 25, ["_law_some", "_law_x", "_law_by", "_law_d", "_law_handed", "_law_found", "_law_due"], ["_law_some", "_law_x", "_law_by", "_law_d"], f20⟩
-- 21: law(_law_script); 0 _law_script, 1 _law_places_here, 2 _law_many, 3 _law_some, 4 _law_cell, 5 _law_shares, 6 _law_three, 7 _law_points, 8 _law_x, 9 _law_one, 10 _law_other, 11 _law_spot_here, 12 _law_by, 13 _law_d, 14 _law_k, 15 _law_p
def f21 : Fn := ⟨1, 16, (.cons (.set 1 (.blt .sorted (.cons (.call 12 (.cons (.var 0) (.cons (.bin .add (.con (.int 2)) (.bin .mod (.call 10 (.cons (.var 0) (.cons (.con (.int 1)) .nil))) (.con (.int 5)))) .nil))) .nil))) (.cons (.set 2 (.blt .len (.cons (.var 1) .nil))) (.cons (.ifs (.cmp .lt (.var 2) (.con (.int 2))) (.cons (.ret (.cmp .is_ (.call 9 (.cons (.lst .nil) (.cons (.tup (.cons (.tup (.cons (.con (.int 0)) (.cons (.con (.int 1)) .nil))) (.cons (.tup (.cons (.bin .mod (.call 10 (.cons (.var 0) (.cons (.con (.int 2)) .nil))) (.bin .pow (.con (.int 10)) (.con (.int 60)))) (.cons (.con (.int 1)) .nil))) .nil))) (.cons (.tup (.cons (.con (.int 0)) (.cons (.con (.int 0)) .nil))) .nil)))) (.con .non))) .nil) .nil) (.cons (.set 3 (.lst .nil)) (.cons (.for_ (.nm 4) (.val (.slc true true (.var 0) (.con (.int 8)) (.con (.int 16)))) (.cons (.set 9 (.bin .mod (.var 4) (.var 2))) (.cons (.set 10 (.bin .mod (.bin .add (.bin .add (.var 9) (.con (.int 1))) (.bin .mod (.bin .fdiv (.var 4) (.var 2)) (.bin .sub (.var 2) (.con (.int 1))))) (.var 2))) (.cons (.app 3 (.tup (.cons (.idx (.var 1) (.blt .min (.cons (.var 9) (.cons (.var 10) .nil)))) (.cons (.idx (.var 1) (.blt .max (.cons (.var 9) (.cons (.var 10) .nil)))) .nil)))) .nil)))) (.cons (.set 5 (.comp [14] (.nm 14) (.rng1 (.con (.int 3))) (.con (.bl true)) (.bin .add (.con (.int 1)) (.bin .mod (.call 10 (.cons (.var 0) (.cons (.bin .add (.con (.int 16)) (.var 14)) .nil))) (.bin .pow (.con (.int 10)) (.con (.int 9))))))) (.cons (.set 6 (.lst (.cons (.idx (.var 1) (.bin .mod (.call 10 (.cons (.var 0) (.cons (.con (.int 19)) .nil))) (.var 2))) (.cons (.idx (.var 1) (.bin .mod (.call 10 (.cons (.var 0) (.cons (.con (.int 20)) .nil))) (.var 2))) (.cons (.idx (.var 1) (.neg (.con (.int 1)))) .nil))))) (.cons (.set 7 (.comp [15] (.nm 15) (.val (.var 1)) (.con (.bl true)) (.tup (.cons (.tup (.cons (.idx (.var 15) (.con (.int 0))) (.cons (.idx (.var 15) (.con (.int 1))) .nil))) (.cons (.con (.int 1)) .nil))))) (.cons (.app 7 (.tup (.cons (.tup (.cons (.bin .add (.idx (.idx (.var 1) (.con (.int 0))) (.con (.int 0))) (.idx (.idx (.var 1) (.con (.int 1))) (.con (.int 0)))) (.cons (.bin .add (.idx (.idx (.var 1) (.con (.int 0))) (.con (.int 1))) (.idx (.idx (.var 1) (.con (.int 1))) (.con (.int 1)))) .nil))) (.cons (.con (.int 2)) .nil)))) (.cons (.app 7 (.tup (.cons (.tup (.cons (.bin .sub (.bin .mul (.con (.int 2)) (.idx (.idx (.var 1) (.con (.int 0))) (.con (.int 0)))) (.idx (.idx (.var 6) (.con (.int 0))) (.con (.int 0)))) (.cons (.bin .sub (.bin .mul (.con (.int 2)) (.idx (.idx (.var 1) (.con (.int 0))) (.con (.int 1)))) (.idx (.idx (.var 6) (.con (.int 0))) (.con (.int 1)))) .nil))) (.cons (.con (.int 1)) .nil)))) (.cons (.app 7 (.tup (.cons (.tup (.cons (.bin .sub (.bin .mul (.con (.int 2)) (.idx (.idx (.var 6) (.con (.int 1))) (.con (.int 0)))) (.idx (.idx (.var 6) (.con (.int 0))) (.con (.int 0)))) (.cons (.bin .sub (.bin .mul (.con (.int 2)) (.idx (.idx (.var 6) (.con (.int 1))) (.con (.int 1)))) (.idx (.idx (.var 6) (.con (.int 0))) (.con (.int 1)))) .nil))) (.cons (.con (.int 1)) .nil)))) (.cons (.set 8 (.blt .sum (.cons (.comp [14] (.nm 14) (.rng1 (.con (.int 3))) (.con (.bl true)) (.bin .mul (.idx (.var 5) (.var 14)) (.idx (.idx (.var 6) (.var 14)) (.con (.int 0))))) .nil))) (.cons (.app 7 (.tup (.cons (.tup (.cons (.var 8) (.cons (.blt .sum (.cons (.comp [14] (.nm 14) (.rng1 (.con (.int 3))) (.con (.bl true)) (.bin .mul (.idx (.var 5) (.var 14)) (.idx (.idx (.var 6) (.var 14)) (.con (.int 1))))) .nil)) .nil))) (.cons (.blt .sum (.cons (.var 5) .nil)) .nil)))) (.cons (.for_ (.tp [11, 12]) (.val (.var 7)) (.cons (.for_ (.nm 13) (.val (.var 1)) (.cons (.ifs (.not (.call 20 (.cons (.var 3) (.cons (.var 11) (.cons (.var 12) (.cons (.var 13) .nil)))))) (.cons (.ret (.con (.bl false))) .nil) .nil) .nil)) .nil)) (.cons (.ret (.con (.bl true))) .nil)))))))))))))))⟩
abbrev e21 : Ent := ⟨"law", top 26, ["_law_script", "_law_places_here", "_law_many", "_law_some", "_law_cell", "_law_shares", "_law_three", "_law_points", "_law_x", "_law_one", "_law_other", "_law_spot_here", "_law_by", "_law_d", "_law_k", "_law_p"], ["_law_script"], f21⟩
abbrev tab : List Ent := [e0, e1, e2, e3, e4, e5, e6, e7, e8, e9, e10, e11, e12, e13, e14, e15, e16, e17, e18, e19, e20, e21]
theorem ok0 : EOk (ftOf tab) e0 := ⟨rfl, ⟨rfl, rfl, rfl, by decide +kernel, rfl, by decide +kernel, by decide +kernel⟩, rfl, rfl⟩
theorem ok1 : EOk (ftOf tab) e1 := ⟨rfl, ⟨rfl, rfl, rfl, by decide +kernel, rfl, by decide +kernel, by decide +kernel⟩, rfl, rfl⟩
theorem ok2 : EOk (ftOf tab) e2 := ⟨rfl, ⟨rfl, rfl, rfl, by decide +kernel, rfl, by decide +kernel, by decide +kernel⟩, rfl, rfl⟩
theorem ok3 : EOk (ftOf tab) e3 := ⟨rfl, ⟨rfl, rfl, rfl, by decide +kernel, rfl, by decide +kernel, by decide +kernel⟩, rfl, rfl⟩
theorem ok4 : EOk (ftOf tab) e4 := ⟨rfl, ⟨rfl, rfl, rfl, by decide +kernel, rfl, by decide +kernel, by decide +kernel⟩, rfl, rfl⟩
theorem ok5 : EOk (ftOf tab) e5 := ⟨rfl, ⟨rfl, rfl, rfl, by decide +kernel, rfl, by decide +kernel, by decide +kernel⟩, rfl, rfl⟩
theorem ok6 : EOk (ftOf tab) e6 := ⟨rfl, ⟨rfl, rfl, rfl, by decide +kernel, rfl, by decide +kernel, by decide +kernel⟩, rfl, rfl⟩
theorem ok7 : EOk (ftOf tab) e7 := ⟨rfl, ⟨rfl, rfl, rfl, by decide +kernel, rfl, by decide +kernel, by decide +kernel⟩, rfl, rfl⟩
theorem ok8 : EOk (ftOf tab) e8 := ⟨rfl, ⟨rfl, rfl, rfl, by decide +kernel, rfl, by decide +kernel, by decide +kernel⟩, rfl, rfl⟩
theorem ok9 : EOk (ftOf tab) e9 := ⟨rfl, ⟨rfl, rfl, rfl, by decide +kernel, rfl, by decide +kernel, by decide +kernel⟩, rfl, rfl⟩
theorem ok10 : EOk (ftOf tab) e10 := ⟨rfl, ⟨rfl, rfl, rfl, by decide +kernel, rfl, by decide +kernel, by decide +kernel⟩, rfl, rfl⟩
theorem ok11 : EOk (ftOf tab) e11 := ⟨rfl, ⟨rfl, rfl, rfl, by decide +kernel, rfl, by decide +kernel, by decide +kernel⟩, rfl, rfl⟩
theorem ok12 : EOk (ftOf tab) e12 := ⟨rfl, ⟨rfl, rfl, rfl, by decide +kernel, rfl, by decide +kernel, by decide +kernel⟩, rfl, rfl⟩
theorem ok13 : EOk (ftOf tab) e13 := ⟨rfl, ⟨rfl, rfl, rfl, by decide +kernel, rfl, by decide +kernel, by decide +kernel⟩, rfl, rfl⟩
theorem ok14 : EOk (ftOf tab) e14 := ⟨rfl, ⟨rfl, rfl, rfl, by decide +kernel, rfl, by decide +kernel, by decide +kernel⟩, rfl, rfl⟩
theorem ok15 : EOk (ftOf tab) e15 := ⟨rfl, ⟨rfl, rfl, rfl, by decide +kernel, rfl, by decide +kernel, by decide +kernel⟩, rfl, rfl⟩
theorem ok16 : EOk (ftOf tab) e16 := ⟨rfl, ⟨rfl, rfl, rfl, by decide +kernel, rfl, by decide +kernel, by decide +kernel⟩, rfl, rfl⟩
theorem ok17 : EOk (ftOf tab) e17 := ⟨rfl, ⟨rfl, rfl, rfl, by decide +kernel, rfl, by decide +kernel, by decide +kernel⟩, rfl, rfl⟩
theorem ok18 : EOk (ftOf tab) e18 := ⟨rfl, ⟨rfl, rfl, rfl, by decide +kernel, rfl, by decide +kernel, by decide +kernel⟩, rfl, rfl⟩
theorem ok19 : EOk (ftOf tab) e19 := ⟨rfl, ⟨rfl, rfl, rfl, by decide +kernel, rfl, by decide +kernel, by decide +kernel⟩, rfl, rfl⟩
theorem ok20 : EOk (ftOf tab) e20 := ⟨rfl, ⟨rfl, rfl, rfl, by decide +kernel, rfl, by decide +kernel, by decide +kernel⟩, rfl, rfl⟩
theorem ok21 : EOk (ftOf tab) e21 := ⟨rfl, ⟨rfl, rfl, rfl, by decide +kernel, rfl, by decide +kernel, by decide +kernel⟩, rfl, rfl⟩
theorem okAll : ∀ (i : Nat) (e : Ent), tab[i]? = some e → EOk (ftOf tab) e
  | 0, _, h => by cases h; exact ok0
  | 1, _, h => by cases h; exact ok1
  | 2, _, h => by cases h; exact ok2
  | 3, _, h => by cases h; exact ok3
  | 4, _, h => by cases h; exact ok4
  | 5, _, h => by cases h; exact ok5
  | 6, _, h => by cases h; exact ok6
  | 7, _, h => by cases h; exact ok7
  | 8, _, h => by cases h; exact ok8
  | 9, _, h => by cases h; exact ok9
  | 10, _, h => by cases h; exact ok10
  | 11, _, h => by cases h; exact ok11
  | 12, _, h => by cases h; exact ok12
  | 13, _, h => by cases h; exact ok13
  | 14, _, h => by cases h; exact ok14
  | 15, _, h => by cases h; exact ok15
  | 16, _, h => by cases h; exact ok16
  | 17, _, h => by cases h; exact ok17
  | 18, _, h => by cases h; exact ok18
  | 19, _, h => by cases h; exact ok19
  | 20, _, h => by cases h; exact ok20
  | 21, _, h => by cases h; exact ok21
  | n + 22, _, h => by simp [tab] at h
theorem stands {K : PySem.W.Frag} {h : Heap} {mg : Str → Option Value} (X : K.In h) (G : h.Ns mainGlobals mg)
    {g0 : Addr} {od0 an0 : Option Addr} {sl0 : Array (Option Value)} {oc0 kV0 dc0 pm0 cd0 ct0 : Value} (a0 : PySem.W.nsIn K mainGlobals "less" = some (some (.ref g0))) (l0 : K.lookup g0 = some ⟨oc0, od0, .func (PySem.W.fnOf "less" "less" (defArgs (top 1)) (defBody (top 1)) (defScope (top 1)) .none kV0 dc0 pm0 an0 cd0 ct0), sl0⟩) (c0 : PySem.W.codeIn K cd0 "less" = true) (k0 : PySem.W.keepIn K (.ref g0) = true)
    {g1 : Addr} {od1 an1 : Option Addr} {sl1 : Array (Option Value)} {oc1 kV1 dc1 pm1 cd1 ct1 : Value} (a1 : PySem.W.nsIn K mainGlobals "point_of" = some (some (.ref g1))) (l1 : K.lookup g1 = some ⟨oc1, od1, .func (PySem.W.fnOf "point_of" "point_of" (defArgs (top 2)) (defBody (top 2)) (defScope (top 2)) .none kV1 dc1 pm1 an1 cd1 ct1), sl1⟩) (c1 : PySem.W.codeIn K cd1 "point_of" = true) (k1 : PySem.W.keepIn K (.ref g1) = true)
    {g2 : Addr} {od2 an2 : Option Addr} {sl2 : Array (Option Value)} {oc2 kV2 dc2 pm2 cd2 ct2 : Value} (a2 : PySem.W.nsIn K mainGlobals "twice" = some (some (.ref g2))) (l2 : K.lookup g2 = some ⟨oc2, od2, .func (PySem.W.fnOf "twice" "twice" (defArgs (top 4)) (defBody (top 4)) (defScope (top 4)) .none kV2 dc2 pm2 an2 cd2 ct2), sl2⟩) (c2 : PySem.W.codeIn K cd2 "twice" = true) (k2 : PySem.W.keepIn K (.ref g2) = true)
    {g3 : Addr} {od3 an3 : Option Addr} {sl3 : Array (Option Value)} {oc3 kV3 dc3 pm3 cd3 ct3 : Value} (a3 : PySem.W.nsIn K mainGlobals "sign_of" = some (some (.ref g3))) (l3 : K.lookup g3 = some ⟨oc3, od3, .func (PySem.W.fnOf "sign_of" "sign_of" (defArgs (top 5)) (defBody (top 5)) (defScope (top 5)) .none kV3 dc3 pm3 an3 cd3 ct3), sl3⟩) (c3 : PySem.W.codeIn K cd3 "sign_of" = true) (k3 : PySem.W.keepIn K (.ref g3) = true)
    {g4 : Addr} {od4 an4 : Option Addr} {sl4 : Array (Option Value)} {oc4 kV4 dc4 pm4 cd4 ct4 : Value} (a4 : PySem.W.nsIn K mainGlobals "turn" = some (some (.ref g4))) (l4 : K.lookup g4 = some ⟨oc4, od4, .func (PySem.W.fnOf "turn" "turn" (defArgs (top 6)) (defBody (top 6)) (defScope (top 6)) .none kV4 dc4 pm4 an4 cd4 ct4), sl4⟩) (c4 : PySem.W.codeIn K cd4 "turn" = true) (k4 : PySem.W.keepIn K (.ref g4) = true)
    {g5 : Addr} {od5 an5 : Option Addr} {sl5 : Array (Option Value)} {oc5 kV5 dc5 pm5 cd5 ct5 : Value} (a5 : PySem.W.nsIn K mainGlobals "side_of" = some (some (.ref g5))) (l5 : K.lookup g5 = some ⟨oc5, od5, .func (PySem.W.fnOf "side_of" "side_of" (defArgs (top 7)) (defBody (top 7)) (defScope (top 7)) .none kV5 dc5 pm5 an5 cd5 ct5), sl5⟩) (c5 : PySem.W.codeIn K cd5 "side_of" = true) (k5 : PySem.W.keepIn K (.ref g5) = true)
    {g6 : Addr} {od6 an6 : Option Addr} {sl6 : Array (Option Value)} {oc6 kV6 dc6 pm6 cd6 ct6 : Value} (a6 : PySem.W.nsIn K mainGlobals "comes" = some (some (.ref g6))) (l6 : K.lookup g6 = some ⟨oc6, od6, .func (PySem.W.fnOf "comes" "comes" (defArgs (top 9)) (defBody (top 9)) (defScope (top 9)) .none kV6 dc6 pm6 an6 cd6 ct6), sl6⟩) (c6 : PySem.W.codeIn K cd6 "comes" = true) (k6 : PySem.W.keepIn K (.ref g6) = true)
    {g7 : Addr} {od7 an7 : Option Addr} {sl7 : Array (Option Value)} {oc7 kV7 dc7 pm7 cd7 ct7 : Value} (a7 : PySem.W.nsIn K mainGlobals "in_one_line" = some (some (.ref g7))) (l7 : K.lookup g7 = some ⟨oc7, od7, .func (PySem.W.fnOf "in_one_line" "in_one_line" (defArgs (top 10)) (defBody (top 10)) (defScope (top 10)) .none kV7 dc7 pm7 an7 cd7 ct7), sl7⟩) (c7 : PySem.W.codeIn K cd7 "in_one_line" = true) (k7 : PySem.W.keepIn K (.ref g7) = true)
    {g8 : Addr} {od8 an8 : Option Addr} {sl8 : Array (Option Value)} {oc8 kV8 dc8 pm8 cd8 ct8 : Value} (a8 : PySem.W.nsIn K mainGlobals "bars" = some (some (.ref g8))) (l8 : K.lookup g8 = some ⟨oc8, od8, .func (PySem.W.fnOf "bars" "bars" (defArgs (top 11)) (defBody (top 11)) (defScope (top 11)) .none kV8 dc8 pm8 an8 cd8 ct8), sl8⟩) (c8 : PySem.W.codeIn K cd8 "bars" = true) (k8 : PySem.W.keepIn K (.ref g8) = true)
    {g9 : Addr} {od9 an9 : Option Addr} {sl9 : Array (Option Value)} {oc9 kV9 dc9 pm9 cd9 ct9 : Value} (a9 : PySem.W.nsIn K mainGlobals "shut" = some (some (.ref g9))) (l9 : K.lookup g9 = some ⟨oc9, od9, .func (PySem.W.fnOf "shut" "shut" (defArgs (top 12)) (defBody (top 12)) (defScope (top 12)) .none kV9 dc9 pm9 an9 cd9 ct9), sl9⟩) (c9 : PySem.W.codeIn K cd9 "shut" = true) (k9 : PySem.W.keepIn K (.ref g9) = true)
    {g10 : Addr} {od10 an10 : Option Addr} {sl10 : Array (Option Value)} {oc10 kV10 dc10 pm10 cd10 ct10 : Value} (a10 : PySem.W.nsIn K mainGlobals "_law_at" = some (some (.ref g10))) (l10 : K.lookup g10 = some ⟨oc10, od10, .func (PySem.W.fnOf "_law_at" "_law_at" (defArgs (top 14)) (defBody (top 14)) (defScope (top 14)) .none kV10 dc10 pm10 an10 cd10 ct10), sl10⟩) (c10 : PySem.W.codeIn K cd10 "_law_at" = true) (k10 : PySem.W.keepIn K (.ref g10) = true)
    {g11 : Addr} {od11 an11 : Option Addr} {sl11 : Array (Option Value)} {oc11 kV11 dc11 pm11 cd11 ct11 : Value} (a11 : PySem.W.nsIn K mainGlobals "_law_spot" = some (some (.ref g11))) (l11 : K.lookup g11 = some ⟨oc11, od11, .func (PySem.W.fnOf "_law_spot" "_law_spot" (defArgs (top 15)) (defBody (top 15)) (defScope (top 15)) .none kV11 dc11 pm11 an11 cd11 ct11), sl11⟩) (c11 : PySem.W.codeIn K cd11 "_law_spot" = true) (k11 : PySem.W.keepIn K (.ref g11) = true)
    {g12 : Addr} {od12 an12 : Option Addr} {sl12 : Array (Option Value)} {oc12 kV12 dc12 pm12 cd12 ct12 : Value} (a12 : PySem.W.nsIn K mainGlobals "_law_places" = some (some (.ref g12))) (l12 : K.lookup g12 = some ⟨oc12, od12, .func (PySem.W.fnOf "_law_places" "_law_places" (defArgs (top 16)) (defBody (top 16)) (defScope (top 16)) .none kV12 dc12 pm12 an12 cd12 ct12), sl12⟩) (c12 : PySem.W.codeIn K cd12 "_law_places" = true) (k12 : PySem.W.keepIn K (.ref g12) = true)
    {g13 : Addr} {od13 an13 : Option Addr} {sl13 : Array (Option Value)} {oc13 kV13 dc13 pm13 cd13 ct13 : Value} (a13 : PySem.W.nsIn K mainGlobals "_law_int" = some (some (.ref g13))) (l13 : K.lookup g13 = some ⟨oc13, od13, .func (PySem.W.fnOf "_law_int" "_law_int" (defArgs (top 17)) (defBody (top 17)) (defScope (top 17)) .none kV13 dc13 pm13 an13 cd13 ct13), sl13⟩) (c13 : PySem.W.codeIn K cd13 "_law_int" = true) (k13 : PySem.W.keepIn K (.ref g13) = true)
    {g14 : Addr} {od14 an14 : Option Addr} {sl14 : Array (Option Value)} {oc14 kV14 dc14 pm14 cd14 ct14 : Value} (a14 : PySem.W.nsIn K mainGlobals "_law_places_of" = some (some (.ref g14))) (l14 : K.lookup g14 = some ⟨oc14, od14, .func (PySem.W.fnOf "_law_places_of" "_law_places_of" (defArgs (top 18)) (defBody (top 18)) (defScope (top 18)) .none kV14 dc14 pm14 an14 cd14 ct14), sl14⟩) (c14 : PySem.W.codeIn K cd14 "_law_places_of" = true) (k14 : PySem.W.keepIn K (.ref g14) = true)
    {g15 : Addr} {od15 an15 : Option Addr} {sl15 : Array (Option Value)} {oc15 kV15 dc15 pm15 cd15 ct15 : Value} (a15 : PySem.W.nsIn K mainGlobals "_law_cross" = some (some (.ref g15))) (l15 : K.lookup g15 = some ⟨oc15, od15, .func (PySem.W.fnOf "_law_cross" "_law_cross" (defArgs (top 20)) (defBody (top 20)) (defScope (top 20)) .none kV15 dc15 pm15 an15 cd15 ct15), sl15⟩) (c15 : PySem.W.codeIn K cd15 "_law_cross" = true) (k15 : PySem.W.keepIn K (.ref g15) = true)
    {g16 : Addr} {od16 an16 : Option Addr} {sl16 : Array (Option Value)} {oc16 kV16 dc16 pm16 cd16 ct16 : Value} (a16 : PySem.W.nsIn K mainGlobals "_law_bars" = some (some (.ref g16))) (l16 : K.lookup g16 = some ⟨oc16, od16, .func (PySem.W.fnOf "_law_bars" "_law_bars" (defArgs (top 21)) (defBody (top 21)) (defScope (top 21)) .none kV16 dc16 pm16 an16 cd16 ct16), sl16⟩) (c16 : PySem.W.codeIn K cd16 "_law_bars" = true) (k16 : PySem.W.keepIn K (.ref g16) = true)
    {g17 : Addr} {od17 an17 : Option Addr} {sl17 : Array (Option Value)} {oc17 kV17 dc17 pm17 cd17 ct17 : Value} (a17 : PySem.W.nsIn K mainGlobals "_law_grown" = some (some (.ref g17))) (l17 : K.lookup g17 = some ⟨oc17, od17, .func (PySem.W.fnOf "_law_grown" "_law_grown" (defArgs (top 22)) (defBody (top 22)) (defScope (top 22)) .none kV17 dc17 pm17 an17 cd17 ct17), sl17⟩) (c17 : PySem.W.codeIn K cd17 "_law_grown" = true) (k17 : PySem.W.keepIn K (.ref g17) = true)
    {g18 : Addr} {od18 an18 : Option Addr} {sl18 : Array (Option Value)} {oc18 kV18 dc18 pm18 cd18 ct18 : Value} (a18 : PySem.W.nsIn K mainGlobals "_law_first_bar" = some (some (.ref g18))) (l18 : K.lookup g18 = some ⟨oc18, od18, .func (PySem.W.fnOf "_law_first_bar" "_law_first_bar" (defArgs (top 23)) (defBody (top 23)) (defScope (top 23)) .none kV18 dc18 pm18 an18 cd18 ct18), sl18⟩) (c18 : PySem.W.codeIn K cd18 "_law_first_bar" = true) (k18 : PySem.W.keepIn K (.ref g18) = true)
    {g19 : Addr} {od19 an19 : Option Addr} {sl19 : Array (Option Value)} {oc19 kV19 dc19 pm19 cd19 ct19 : Value} (a19 : PySem.W.nsIn K mainGlobals "_law_lowest" = some (some (.ref g19))) (l19 : K.lookup g19 = some ⟨oc19, od19, .func (PySem.W.fnOf "_law_lowest" "_law_lowest" (defArgs (top 24)) (defBody (top 24)) (defScope (top 24)) .none kV19 dc19 pm19 an19 cd19 ct19), sl19⟩) (c19 : PySem.W.codeIn K cd19 "_law_lowest" = true) (k19 : PySem.W.keepIn K (.ref g19) = true)
    {g20 : Addr} {od20 an20 : Option Addr} {sl20 : Array (Option Value)} {oc20 kV20 dc20 pm20 cd20 ct20 : Value} (a20 : PySem.W.nsIn K mainGlobals "_law_asked" = some (some (.ref g20))) (l20 : K.lookup g20 = some ⟨oc20, od20, .func (PySem.W.fnOf "_law_asked" "_law_asked" (defArgs (top 25)) (defBody (top 25)) (defScope (top 25)) .none kV20 dc20 pm20 an20 cd20 ct20), sl20⟩) (c20 : PySem.W.codeIn K cd20 "_law_asked" = true) (k20 : PySem.W.keepIn K (.ref g20) = true)
    {g21 : Addr} {od21 an21 : Option Addr} {sl21 : Array (Option Value)} {oc21 kV21 dc21 pm21 cd21 ct21 : Value} (a21 : PySem.W.nsIn K mainGlobals "law" = some (some (.ref g21))) (l21 : K.lookup g21 = some ⟨oc21, od21, .func (PySem.W.fnOf "law" "law" (defArgs (top 26)) (defBody (top 26)) (defScope (top 26)) .none kV21 dc21 pm21 an21 cd21 ct21), sl21⟩) (c21 : PySem.W.codeIn K cd21 "law" = true) (k21 : PySem.W.keepIn K (.ref g21) = true)
    (z0 : PySem.W.nsIn K mainGlobals "abs" = some none)
    (z1 : PySem.W.nsIn K mainGlobals "int" = some none)
    (z2 : PySem.W.nsIn K mainGlobals "len" = some none)
    (z3 : PySem.W.nsIn K mainGlobals "min" = some none)
    (z4 : PySem.W.nsIn K mainGlobals "max" = some none)
    (z5 : PySem.W.nsIn K mainGlobals "list" = some none)
    (z6 : PySem.W.nsIn K mainGlobals "tuple" = some none)
    (z7 : PySem.W.nsIn K mainGlobals "sum" = some none)
    (z8 : PySem.W.nsIn K mainGlobals "sorted" = some none)
    (z9 : PySem.W.nsIn K mainGlobals "isinstance" = some none)
    (z10 : PySem.W.nsIn K mainGlobals "range" = some none)
    (z11 : PySem.W.nsIn K mainGlobals "bool" = some none)
    (z12 : PySem.W.nsIn K mainGlobals "str" = some none)
    (z13 : PySem.W.nsIn K mainGlobals "enumerate" = some none)
    (z14 : PySem.W.nsIn K mainGlobals "zip" = some none)
    (z15 : PySem.W.nsIn K mainGlobals "reversed" = some none)
    : Blts mg ∧ ∀ (i : Nat) (e : Ent), tab[i]? = some e → DIn K mg e := by
  have y0 := PySem.W.mg_none_of X G z0
  have y1 := PySem.W.mg_none_of X G z1
  have y2 := PySem.W.mg_none_of X G z2
  have y3 := PySem.W.mg_none_of X G z3
  have y4 := PySem.W.mg_none_of X G z4
  have y5 := PySem.W.mg_none_of X G z5
  have y6 := PySem.W.mg_none_of X G z6
  have y7 := PySem.W.mg_none_of X G z7
  have y8 := PySem.W.mg_none_of X G z8
  have y9 := PySem.W.mg_none_of X G z9
  have y10 := PySem.W.mg_none_of X G z10
  have y11 := PySem.W.mg_none_of X G z11
  have y12 := PySem.W.mg_none_of X G z12
  have y13 := PySem.W.mg_none_of X G z13
  have y14 := PySem.W.mg_none_of X G z14
  have y15 := PySem.W.mg_none_of X G z15
  refine ⟨⟨fun b => ?_, y9, y10, y13, y14, y15, fun t => ?_⟩, fun i e he => ?_⟩
  · cases b
    · exact y0
    · exact y1
    · exact y2
    · exact y3
    · exact y4
    · exact y5
    · exact y6
    · exact y7
    · exact y8
  · cases t
    · exact y1
    · exact y11
    · exact y6
    · exact y5
    · exact y12
  · match i, e, he with
    | 0, _, h => cases h; exact ⟨g0, _, fun_mk (st := top 1) l0 c0 k0, PySem.W.mg_of X G a0, fun us hl => match us, hl with | [_, _], _ => rfl⟩
    | 1, _, h => cases h; exact ⟨g1, _, fun_mk (st := top 2) l1 c1 k1, PySem.W.mg_of X G a1, fun us hl => match us, hl with | [_], _ => rfl⟩
    | 2, _, h => cases h; exact ⟨g2, _, fun_mk (st := top 4) l2 c2 k2, PySem.W.mg_of X G a2, fun us hl => match us, hl with | [_, _, _], _ => rfl⟩
    | 3, _, h => cases h; exact ⟨g3, _, fun_mk (st := top 5) l3 c3 k3, PySem.W.mg_of X G a3, fun us hl => match us, hl with | [_], _ => rfl⟩
    | 4, _, h => cases h; exact ⟨g4, _, fun_mk (st := top 6) l4 c4 k4, PySem.W.mg_of X G a4, fun us hl => match us, hl with | [_, _, _], _ => rfl⟩
    | 5, _, h => cases h; exact ⟨g5, _, fun_mk (st := top 7) l5 c5 k5, PySem.W.mg_of X G a5, fun us hl => match us, hl with | [_, _, _], _ => rfl⟩
    | 6, _, h => cases h; exact ⟨g6, _, fun_mk (st := top 9) l6 c6 k6, PySem.W.mg_of X G a6, fun us hl => match us, hl with | [_, _], _ => rfl⟩
    | 7, _, h => cases h; exact ⟨g7, _, fun_mk (st := top 10) l7 c7 k7, PySem.W.mg_of X G a7, fun us hl => match us, hl with | [_, _, _], _ => rfl⟩
    | 8, _, h => cases h; exact ⟨g8, _, fun_mk (st := top 11) l8 c8 k8, PySem.W.mg_of X G a8, fun us hl => match us, hl with | [_, _, _], _ => rfl⟩
    | 9, _, h => cases h; exact ⟨g9, _, fun_mk (st := top 12) l9 c9 k9, PySem.W.mg_of X G a9, fun us hl => match us, hl with | [_, _, _], _ => rfl⟩
    | 10, _, h => cases h; exact ⟨g10, _, fun_mk (st := top 14) l10 c10 k10, PySem.W.mg_of X G a10, fun us hl => match us, hl with | [_, _], _ => rfl⟩
    | 11, _, h => cases h; exact ⟨g11, _, fun_mk (st := top 15) l11 c11 k11, PySem.W.mg_of X G a11, fun us hl => match us, hl with | [_, _, _], _ => rfl⟩
    | 12, _, h => cases h; exact ⟨g12, _, fun_mk (st := top 16) l12 c12 k12, PySem.W.mg_of X G a12, fun us hl => match us, hl with | [_, _], _ => rfl⟩
    | 13, _, h => cases h; exact ⟨g13, _, fun_mk (st := top 17) l13 c13 k13, PySem.W.mg_of X G a13, fun us hl => match us, hl with | [_], _ => rfl⟩
    | 14, _, h => cases h; exact ⟨g14, _, fun_mk (st := top 18) l14 c14 k14, PySem.W.mg_of X G a14, fun us hl => match us, hl with | [_, _], _ => rfl⟩
    | 15, _, h => cases h; exact ⟨g15, _, fun_mk (st := top 20) l15 c15 k15, PySem.W.mg_of X G a15, fun us hl => match us, hl with | [_, _, _, _], _ => rfl⟩
    | 16, _, h => cases h; exact ⟨g16, _, fun_mk (st := top 21) l16 c16 k16, PySem.W.mg_of X G a16, fun us hl => match us, hl with | [_, _, _], _ => rfl⟩
    | 17, _, h => cases h; exact ⟨g17, _, fun_mk (st := top 22) l17 c17 k17, PySem.W.mg_of X G a17, fun us hl => match us, hl with | [_, _], _ => rfl⟩
    | 18, _, h => cases h; exact ⟨g18, _, fun_mk (st := top 23) l18 c18 k18, PySem.W.mg_of X G a18, fun us hl => match us, hl with | [_, _, _, _], _ => rfl⟩
    | 19, _, h => cases h; exact ⟨g19, _, fun_mk (st := top 24) l19 c19 k19, PySem.W.mg_of X G a19, fun us hl => match us, hl with | [_, _], _ => rfl⟩
    | 20, _, h => cases h; exact ⟨g20, _, fun_mk (st := top 25) l20 c20 k20, PySem.W.mg_of X G a20, fun us hl => match us, hl with | [_, _, _, _], _ => rfl⟩
    | 21, _, h => cases h; exact ⟨g21, _, fun_mk (st := top 26) l21 c21 k21, PySem.W.mg_of X G a21, fun us hl => match us, hl with | [_], _ => rfl⟩
    | n + 22, _, h => simp [tab] at h
abbrev T := tabT tab
def F : Nat → Bool := fun i => i == 12 || i == 17
@[irreducible] noncomputable def g_less (v_one : (Fr 10000)) (v_other : (Fr 10000)) : VR Bool := ((mulM v_one.n v_other.d).bind fun t1 => (mulM v_other.n v_one.d).bind fun t2 => VR.ok (decide (t1 < t2)))
theorem less_rf (n : Nat) (v_one : (Fr 10000)) (v_other : (Fr 10000)) : Rf (callV T F (n + 1) 0 [ec v_one, ec v_other]) (g_less v_one v_other) := by
  unfold g_less
  refine fn_rf (n := n + 0) (fn := f0) (w := false) rfl rfl rfl ?_
  change Bx F (callV T F (n + 0)) _ [some (false, ec v_one), some (false, ec v_other)] (((mulM v_one.n v_other.d).bind fun t1 => (mulM v_other.n v_one.d).bind fun t2 => VR.ok (decide (t1 < t2)))) _
  exact rb_ret (fun _ => w_n) (ev_cmp oLt (ev_bin oMul (ev_fn (ev_var (a := v_one) rfl)) (ev_fd (ev_var (a := v_other) rfl))) (ev_bin oMul (ev_fn (ev_var (a := v_other) rfl)) (ev_fd (ev_var (a := v_one) rfl))))
@[irreducible] noncomputable def g_point_of (v_p : P) : VR ((Fr 10000) × (Fr 10000)) := (((toFr 10000) (v_p.x, (1 : Int))).bind fun t1 => ((toFr 10000) (v_p.y, (1 : Int))).bind fun t2 => VR.ok (t1, t2))
theorem point_of_rf (n : Nat) (v_p : P) : Rf (callV T F (n + 1) 1 [ec v_p]) (g_point_of v_p) := by
  unfold g_point_of
  refine fn_rf (n := n + 0) (fn := f1) (w := false) rfl rfl rfl ?_
  change Bx F (callV T F (n + 0)) _ [some (false, ec v_p)] ((((toFr 10000) (v_p.x, (1 : Int))).bind fun t1 => ((toFr 10000) (v_p.y, (1 : Int))).bind fun t2 => VR.ok (t1, t2))) _
  exact rb_ret (fun _ => w_n) (ev_tup2 (ev_toFr (ev_tup2 (ev_px (ev_var (a := v_p) rfl)) ev_int)) (ev_toFr (ev_tup2 (ev_py (ev_var (a := v_p) rfl)) ev_int)))
@[irreducible] noncomputable def g_twice (v_a : P) (v_b : P) (v_c : P) : VR Int := ((mulM (v_b.x - v_a.x) (v_c.y - v_a.y)).bind fun t1 => (mulM (v_b.y - v_a.y) (v_c.x - v_a.x)).bind fun t2 => VR.ok (t1 - t2))
theorem twice_rf (n : Nat) (v_a : P) (v_b : P) (v_c : P) : Rf (callV T F (n + 1) 2 [ec v_a, ec v_b, ec v_c]) (g_twice v_a v_b v_c) := by
  unfold g_twice
  refine fn_rf (n := n + 0) (fn := f2) (w := false) rfl rfl rfl ?_
  change Bx F (callV T F (n + 0)) _ [some (false, ec v_a), some (false, ec v_b), some (false, ec v_c)] (((mulM (v_b.x - v_a.x) (v_c.y - v_a.y)).bind fun t1 => (mulM (v_b.y - v_a.y) (v_c.x - v_a.x)).bind fun t2 => VR.ok (t1 - t2))) _
  exact rb_ret (fun _ => w_n) (ev_bin oSub (ev_bin oMul (ev_bin oSub (ev_px (ev_var (a := v_b) rfl)) (ev_px (ev_var (a := v_a) rfl))) (ev_bin oSub (ev_py (ev_var (a := v_c) rfl)) (ev_py (ev_var (a := v_a) rfl)))) (ev_bin oMul (ev_bin oSub (ev_py (ev_var (a := v_b) rfl)) (ev_py (ev_var (a := v_a) rfl))) (ev_bin oSub (ev_px (ev_var (a := v_c) rfl)) (ev_px (ev_var (a := v_a) rfl)))))
@[irreducible] noncomputable def g_sign_of (v_number : Int) : VR Int := (if (decide ((0 : Int) < v_number)) = true then ((VR.ok (1 : Int))) else ((if (decide (v_number < (0 : Int))) = true then ((VR.ok (-(1 : Int)))) else ((VR.ok (0 : Int))))))
theorem sign_of_rf (n : Nat) (v_number : Int) : Rf (callV T F (n + 1) 3 [ec v_number]) (g_sign_of v_number) := by
  unfold g_sign_of
  refine fn_rf (n := n + 0) (fn := f3) (w := false) rfl rfl rfl ?_
  change Bx F (callV T F (n + 0)) _ [some (false, ec v_number)] ((if (decide ((0 : Int) < v_number)) = true then ((VR.ok (1 : Int))) else ((if (decide (v_number < (0 : Int))) = true then ((VR.ok (-(1 : Int)))) else ((VR.ok (0 : Int))))))) _
  refine rb_if (ev_cmp oGt (ev_var (a := v_number) rfl) ev_int) ?_ ?_
  · exact rb_ret (fun _ => w_n) ev_int
  · refine rb_if (ev_cmp oLt (ev_var (a := v_number) rfl) ev_int) ?_ ?_
    · exact rb_ret (fun _ => w_n) (ev_neg ev_int)
    · exact rb_ret (fun _ => w_n) ev_int
@[irreducible] noncomputable def g_turn (v_a : P) (v_b : P) (v_c : P) : VR Int := ((g_twice v_a v_b v_c).bind fun t1 => (g_sign_of t1))
theorem turn_rf (n : Nat) (v_a : P) (v_b : P) (v_c : P) : Rf (callV T F (n + 2) 4 [ec v_a, ec v_b, ec v_c]) (g_turn v_a v_b v_c) := by
  unfold g_turn
  refine fn_rf (n := n + 1) (fn := f4) (w := false) rfl rfl rfl ?_
  change Bx F (callV T F (n + 1)) _ [some (false, ec v_a), some (false, ec v_b), some (false, ec v_c)] (((g_twice v_a v_b v_c).bind fun t1 => (g_sign_of t1))) _
  exact rb_ret (fun _ => w_n) (ev_c1 (sign_of_rf (n + 0)) (ev_c3 (twice_rf (n + 0)) (ev_var (a := v_a) rfl) (ev_var (a := v_b) rfl) (ev_var (a := v_c) rfl)))
@[irreducible] noncomputable def g_side_of (v_a : P) (v_b : P) (v_X : ((Fr 10000) × (Fr 10000))) : VR Int := (VR.ok v_X.1).bind fun p1 => (VR.ok v_X.2).bind fun p2 => ((((mulM v_a.y p2.d).bind fun t3 => VR.ok (p2.n - t3)).bind fun t4 => (mulM (v_b.x - v_a.x) t4)).bind fun t5 => (mulM t5 p1.d)).bind fun (v_along : Int) => ((((((mulM v_a.x p1.d).bind fun t6 => VR.ok (p1.n - t6)).bind fun t7 => (mulM (v_b.y - v_a.y) t7)).bind fun t8 => (mulM t8 p2.d)).bind fun t9 => VR.ok (v_along - t9)).bind fun t10 => (g_sign_of t10))
theorem side_of_rf (n : Nat) (v_a : P) (v_b : P) (v_X : ((Fr 10000) × (Fr 10000))) : Rf (callV T F (n + 2) 5 [ec v_a, ec v_b, ec v_X]) (g_side_of v_a v_b v_X) := by
  unfold g_side_of
  refine fn_rf (n := n + 1) (fn := f5) (w := false) rfl rfl rfl ?_
  change Bx F (callV T F (n + 1)) _ [some (false, ec v_a), some (false, ec v_b), some (false, ec v_X), none, none, none, none, none] ((VR.ok v_X.1).bind fun p1 => (VR.ok v_X.2).bind fun p2 => ((((mulM v_a.y p2.d).bind fun t3 => VR.ok (p2.n - t3)).bind fun t4 => (mulM (v_b.x - v_a.x) t4)).bind fun t5 => (mulM t5 p1.d)).bind fun (v_along : Int) => ((((((mulM v_a.x p1.d).bind fun t6 => VR.ok (p1.n - t6)).bind fun t7 => (mulM (v_b.y - v_a.y) t7)).bind fun t8 => (mulM t8 p2.d)).bind fun t9 => VR.ok (v_along - t9)).bind fun t10 => (g_sign_of t10))) _
  refine rb_uF (ev_fst (ev_var (a := v_X) rfl)) ?_
  intro p1
  refine rb_uF (ev_snd (ev_var (a := v_X) rfl)) ?_
  intro p2
  refine rb_set_f (ev_bin oMul (ev_bin oMul (ev_bin oSub (ev_px (ev_var (a := v_b) rfl)) (ev_px (ev_var (a := v_a) rfl))) (ev_bin oSub (ev_var (a := p2.n) rfl) (ev_bin oMul (ev_py (ev_var (a := v_a) rfl)) (ev_var (a := p2.d) rfl)))) (ev_var (a := p1.d) rfl)) ?_
  intro v_along
  exact rb_ret (fun _ => w_n) (ev_c1 (sign_of_rf (n + 0)) (ev_bin oSub (ev_var (a := v_along) rfl) (ev_bin oMul (ev_bin oMul (ev_bin oSub (ev_py (ev_var (a := v_b) rfl)) (ev_py (ev_var (a := v_a) rfl))) (ev_bin oSub (ev_var (a := p1.n) rfl) (ev_bin oMul (ev_px (ev_var (a := v_a) rfl)) (ev_var (a := p1.d) rfl)))) (ev_var (a := p2.d) rfl))))
@[irreducible] noncomputable def g_comes (v_X : ((Fr 10000) × (Fr 10000))) (v_p : P) : VR Int := ((g_point_of v_p).bind fun t1 => VR.ok [(v_X.1, t1.1), (v_X.2, t1.2)]).bind fun t8 => (forF t8 () (fun (x5 : ((Fr 10000) × (Fr 10000))) (s2 : Unit) => (((g_less x5.1 x5.2).bind fun t7 => if t7 = true then (VR.ok (Fl.rt (-(1 : Int)))) else (((g_less x5.2 x5.1).bind fun t6 => if t6 = true then (VR.ok (Fl.rt (1 : Int))) else (VR.ok (Fl.nx ()))))) : VR (Fl (Unit) Int)))).bind (Fl.elim (fun (s2 : Unit) => (VR.ok (0 : Int))) (fun (a : Int) => VR.ok a))
theorem comes_rf (n : Nat) (v_X : ((Fr 10000) × (Fr 10000))) (v_p : P) : Rf (callV T F (n + 2) 6 [ec v_X, ec v_p]) (g_comes v_X v_p) := by
  unfold g_comes
  refine fn_rf (n := n + 1) (fn := f6) (w := false) rfl rfl rfl ?_
  change Bx F (callV T F (n + 1)) _ [some (false, ec v_X), some (false, ec v_p), none, none] (((g_point_of v_p).bind fun t1 => VR.ok [(v_X.1, t1.1), (v_X.2, t1.2)]).bind fun t8 => (forF t8 () (fun (x5 : ((Fr 10000) × (Fr 10000))) (s2 : Unit) => (((g_less x5.1 x5.2).bind fun t7 => if t7 = true then (VR.ok (Fl.rt (-(1 : Int)))) else (((g_less x5.2 x5.1).bind fun t6 => if t6 = true then (VR.ok (Fl.rt (1 : Int))) else (VR.ok (Fl.nx ()))))) : VR (Fl (Unit) Int)))).bind (Fl.elim (fun (s2 : Unit) => (VR.ok (0 : Int))) (fun (a : Int) => VR.ok a))) _
  refine rb_forF (w := false) (R := (fun (s2 : Unit) (en : VEnv) => ∃ o3 o4 : Option (Bool × U), en = [some (false, ec v_X), some (false, ec v_p), o3, o4])) (kn := fun (s2 : Unit) => _) (j := fun (a : Int) => a) dr_j (fi_zipT (ev_var (a := v_X) rfl) (ev_c1 (point_of_rf (n + 0)) (ev_var (a := v_p) rfl))) ⟨_, _, rfl⟩ ?_ ?_
  · rintro x5 s2 en ⟨o3, o4, rfl⟩
    refine ⟨_, rfl, ?_⟩
    refine rb_if (ev_c2 (less_rf (n + 0)) (ev_var (a := x5.1) rfl) (ev_var (a := x5.2) rfl)) ?_ ?_
    · exact rl_ret (fun _ => w_n) (ev_neg ev_int)
    · refine rb_if (ev_c2 (less_rf (n + 0)) (ev_var (a := x5.2) rfl) (ev_var (a := x5.1) rfl)) ?_ ?_
      · exact rl_ret (fun _ => w_n) ev_int
      · exact rl_nil ⟨_, _, rfl⟩
  · rintro s2 en ⟨o3, o4, rfl⟩
    exact rb_ret (fun _ => w_n) ev_int
@[irreducible] noncomputable def g_in_one_line (v_side : (P × P)) (v_X : ((Fr 10000) × (Fr 10000))) (v_d : P) : VR Bool := (((g_comes v_X v_d).bind fun t1 => VR.ok (decide ((0 : Int) < t1))).bind fun t6 => if t6 = true then (((if (lt v_d v_side.2) = true then ((g_comes v_X v_side.1).bind fun t2 => VR.ok (decide ((0 : Int) ≤ t2))) else VR.ok false))) else ((((g_comes v_X v_d).bind fun t3 => VR.ok (decide (t3 < (0 : Int)))).bind fun t5 => if t5 = true then (((if (lt v_side.1 v_d) = true then ((g_comes v_X v_side.2).bind fun t4 => VR.ok (decide (t4 ≤ (0 : Int)))) else VR.ok false))) else ((VR.ok false)))))
theorem in_one_line_rf (n : Nat) (v_side : (P × P)) (v_X : ((Fr 10000) × (Fr 10000))) (v_d : P) : Rf (callV T F (n + 3) 7 [ec v_side, ec v_X, ec v_d]) (g_in_one_line v_side v_X v_d) := by
  unfold g_in_one_line
  refine fn_rf (n := n + 2) (fn := f7) (w := false) rfl rfl rfl ?_
  change Bx F (callV T F (n + 2)) _ [some (false, ec v_side), some (false, ec v_X), some (false, ec v_d)] ((((g_comes v_X v_d).bind fun t1 => VR.ok (decide ((0 : Int) < t1))).bind fun t6 => if t6 = true then (((if (lt v_d v_side.2) = true then ((g_comes v_X v_side.1).bind fun t2 => VR.ok (decide ((0 : Int) ≤ t2))) else VR.ok false))) else ((((g_comes v_X v_d).bind fun t3 => VR.ok (decide (t3 < (0 : Int)))).bind fun t5 => if t5 = true then (((if (lt v_side.1 v_d) = true then ((g_comes v_X v_side.2).bind fun t4 => VR.ok (decide (t4 ≤ (0 : Int)))) else VR.ok false))) else ((VR.ok false)))))) _
  refine rb_if (ev_cmp oGt (ev_c2 (comes_rf (n + 0)) (ev_var (a := v_X) rfl) (ev_var (a := v_d) rfl)) ev_int) ?_ ?_
  · exact rb_ret (fun _ => w_n) (ev_andL (ev_cmp (oLtT (α := P) (by decide)) (ev_var (a := v_d) rfl) (ev_snd (ev_var (a := v_side) rfl))) (ev_cmp oGe (ev_c2 (comes_rf (n + 0)) (ev_var (a := v_X) rfl) (ev_fst (ev_var (a := v_side) rfl))) ev_int))
  · refine rb_if (ev_cmp oLt (ev_c2 (comes_rf (n + 0)) (ev_var (a := v_X) rfl) (ev_var (a := v_d) rfl)) ev_int) ?_ ?_
    · exact rb_ret (fun _ => w_n) (ev_andL (ev_cmp (oLtT (α := P) (by decide)) (ev_fst (ev_var (a := v_side) rfl)) (ev_var (a := v_d) rfl)) (ev_cmp oLe (ev_c2 (comes_rf (n + 0)) (ev_var (a := v_X) rfl) (ev_snd (ev_var (a := v_side) rfl))) ev_int))
    · exact rb_ret (fun _ => w_n) ev_bool
@[irreducible] noncomputable def g_bars (v_side : (P × P)) (v_X : ((Fr 10000) × (Fr 10000))) (v_d : P) : VR Bool := (VR.ok v_side).bind fun p1 => (g_side_of p1.1 p1.2 v_X).bind fun (v_where : Int) => (g_turn p1.1 p1.2 v_d).bind fun (v_there : Int) => (if (decide (v_there = (0 : Int))) = true then (((if (decide (v_where = (0 : Int))) = true then (g_in_one_line v_side v_X v_d) else VR.ok false))) else ((((mulM v_where v_there).bind fun t2 => VR.ok (decide (t2 ≤ (0 : Int)))).bind fun t6 => (if t6 = true then (((g_side_of p1.1 v_d v_X).bind fun t3 => (g_side_of p1.2 v_d v_X).bind fun t4 => (mulM t3 t4)).bind fun t5 => VR.ok (decide (t5 ≤ (0 : Int)))) else VR.ok false))))
theorem bars_rf (n : Nat) (v_side : (P × P)) (v_X : ((Fr 10000) × (Fr 10000))) (v_d : P) : Rf (callV T F (n + 4) 8 [ec v_side, ec v_X, ec v_d]) (g_bars v_side v_X v_d) := by
  unfold g_bars
  refine fn_rf (n := n + 3) (fn := f8) (w := false) rfl rfl rfl ?_
  change Bx F (callV T F (n + 3)) _ [some (false, ec v_side), some (false, ec v_X), some (false, ec v_d), none, none, none, none] ((VR.ok v_side).bind fun p1 => (g_side_of p1.1 p1.2 v_X).bind fun (v_where : Int) => (g_turn p1.1 p1.2 v_d).bind fun (v_there : Int) => (if (decide (v_there = (0 : Int))) = true then (((if (decide (v_where = (0 : Int))) = true then (g_in_one_line v_side v_X v_d) else VR.ok false))) else ((((mulM v_where v_there).bind fun t2 => VR.ok (decide (t2 ≤ (0 : Int)))).bind fun t6 => (if t6 = true then (((g_side_of p1.1 v_d v_X).bind fun t3 => (g_side_of p1.2 v_d v_X).bind fun t4 => (mulM t3 t4)).bind fun t5 => VR.ok (decide (t5 ≤ (0 : Int)))) else VR.ok false))))) _
  refine rb_u2 (ev_var (a := v_side) rfl) ?_
  intro p1
  refine rb_set_f (ev_c3 (side_of_rf (n + 1)) (ev_var (a := p1.1) rfl) (ev_var (a := p1.2) rfl) (ev_var (a := v_X) rfl)) ?_
  intro v_where
  refine rb_set_f (ev_c3 (turn_rf (n + 1)) (ev_var (a := p1.1) rfl) (ev_var (a := p1.2) rfl) (ev_var (a := v_d) rfl)) ?_
  intro v_there
  refine rb_if (ev_cmp (oEq (α := Int) (by decide)) (ev_var (a := v_there) rfl) ev_int) ?_ ?_
  · exact rb_ret (fun _ => w_n) (ev_andL (ev_cmp (oEq (α := Int) (by decide)) (ev_var (a := v_where) rfl) ev_int) (ev_c3 (in_one_line_rf (n + 0)) (ev_var (a := v_side) rfl) (ev_var (a := v_X) rfl) (ev_var (a := v_d) rfl)))
  · exact rb_ret (fun _ => w_n) (ev_and (ev_cmp oLe (ev_bin oMul (ev_var (a := v_where) rfl) (ev_var (a := v_there) rfl)) ev_int) (ev_cmp oLe (ev_bin oMul (ev_c3 (side_of_rf (n + 1)) (ev_var (a := p1.1) rfl) (ev_var (a := v_d) rfl) (ev_var (a := v_X) rfl)) (ev_c3 (side_of_rf (n + 1)) (ev_var (a := p1.2) rfl) (ev_var (a := v_d) rfl) (ev_var (a := v_X) rfl))) ev_int))
@[irreducible] noncomputable def g_shut (v_kept : (List (P × P))) (v_X : ((Fr 10000) × (Fr 10000))) (v_d : P) : VR (Option (P × P)) := (forF v_kept () (fun (x3 : (P × P)) (s1 : Unit) => (((g_bars x3 v_X v_d).bind fun t4 => if t4 = true then (VR.ok (Fl.rt (some x3))) else (VR.ok (Fl.nx ()))) : VR (Fl (Unit) (Option (P × P)))))).bind (Fl.elim (fun (s1 : Unit) => (VR.ok (none : (Option (P × P))))) (fun (a : (Option (P × P))) => VR.ok a))
theorem shut_rf (n : Nat) (v_kept : (List (P × P))) (v_X : ((Fr 10000) × (Fr 10000))) (v_d : P) : Rf (callV T F (n + 5) 9 [ec v_kept, ec v_X, ec v_d]) (g_shut v_kept v_X v_d) := by
  unfold g_shut
  refine fn_rf (n := n + 4) (fn := f9) (w := false) rfl rfl rfl ?_
  change Bx F (callV T F (n + 4)) _ [some (false, ec v_kept), some (false, ec v_X), some (false, ec v_d), none] ((forF v_kept () (fun (x3 : (P × P)) (s1 : Unit) => (((g_bars x3 v_X v_d).bind fun t4 => if t4 = true then (VR.ok (Fl.rt (some x3))) else (VR.ok (Fl.nx ()))) : VR (Fl (Unit) (Option (P × P)))))).bind (Fl.elim (fun (s1 : Unit) => (VR.ok (none : (Option (P × P))))) (fun (a : (Option (P × P))) => VR.ok a))) _
  refine rb_forF (w := false) (R := (fun (s1 : Unit) (en : VEnv) => ∃ o2 : Option (Bool × U), en = [some (false, ec v_kept), some (false, ec v_X), some (false, ec v_d), o2])) (kn := fun (s1 : Unit) => _) (j := fun (a : (Option (P × P))) => a) dr_j (fi_old (by rfl) (ev_var (a := v_kept) rfl)) ⟨_, rfl⟩ ?_ ?_
  · rintro x3 s1 en ⟨o2, rfl⟩
    refine ⟨_, rfl, ?_⟩
    refine rb_if (ev_c3 (bars_rf (n + 0)) (ev_var (a := x3) rfl) (ev_var (a := v_X) rfl) (ev_var (a := v_d) rfl)) ?_ ?_
    · exact rl_ret (fun _ => w_n) (ev_some (ev_var (a := x3) rfl))
    · exact rl_nil ⟨_, rfl⟩
  · rintro s1 en ⟨o2, rfl⟩
    exact rb_ret (fun _ => w_n) (ev_none (α := (P × P)))
@[irreducible] noncomputable def g_law_at (v_lscript : Scr) (v_lk : Int) : VR Int := ((catM (cutL v_lscript.ns (some v_lk) (some (v_lk + (1 : Int)))) [(0 : Int)]).bind fun t1 => (atM t1 (0 : Int)))
theorem law_at_rf (n : Nat) (v_lscript : Scr) (v_lk : Int) : Rf (callV T F (n + 1) 10 [ec v_lscript, ec v_lk]) (g_law_at v_lscript v_lk) := by
  unfold g_law_at
  refine fn_rf (n := n + 0) (fn := f10) (w := false) rfl rfl rfl ?_
  change Bx F (callV T F (n + 0)) _ [some (false, ec v_lscript), some (false, ec v_lk)] (((catM (cutL v_lscript.ns (some v_lk) (some (v_lk + (1 : Int)))) [(0 : Int)]).bind fun t1 => (atM t1 (0 : Int)))) _
  exact rb_ret (fun _ => w_n) (ev_idx oAt (ev_bin oCat (ev_s11S (ev_var (a := v_lscript) rfl) (ev_var (a := v_lk) rfl) (ev_bin oAdd (ev_var (a := v_lk) rfl) ev_int)) (ev_lst (evl_cons ev_int (evl_nil (α := Int))))) ev_int)
@[irreducible] noncomputable def g_law_spot (v_lkind : Int) (v_lcell : Int) (v_lhead : Int) : VR P := (if (decide ((5 : Int) < v_lkind)) = true then ((((mulM (2 : Int) (v_lkind - (6 : Int))).bind fun t7 => ((fdivM v_lcell (16 : Int)).bind fun t6 => (modM t6 (2 : Int))).bind fun t8 => VR.ok (t7 + t8)).bind fun t9 => (atM [(0 : Int), (3 : Int), (0 : Int), (5 : Int)] t9)).bind fun (v_lkind : Int) => VR.ok v_lkind) else (VR.ok v_lkind)).bind fun (s1 : Int) => (if (decide (s1 = (1 : Int))) = true then (((((modM v_lcell (3 : Int)).bind fun t10 => VR.ok (t10 + (pwr 10 30))).bind fun t13 => (((fdivM v_lcell (3 : Int)).bind fun t11 => (modM t11 (3 : Int))).bind fun t12 => VR.ok (t12 - (pwr 10 30))).bind fun t14 => VR.ok (t13, t14)).bind toP)) else ((if (decide (s1 = (2 : Int))) = true then ((VR.ok [((5 : Int), (0 : Int)), ((4 : Int), (3 : Int)), ((3 : Int), (4 : Int)), ((0 : Int), (5 : Int)), ((-(3 : Int)), (4 : Int)), ((-(4 : Int)), (3 : Int)), ((-(5 : Int)), (0 : Int))]).bind fun (v_lfive : (List (Int × Int))) => (catM v_lfive [((-(4 : Int)), (-(3 : Int))), ((-(3 : Int)), (-(4 : Int))), ((0 : Int), (-(5 : Int))), ((3 : Int), (-(4 : Int))), ((4 : Int), (-(3 : Int))), ((0 : Int), (0 : Int))]).bind fun (v_lfive : (List (Int × Int))) => ((modM v_lcell (13 : Int)).bind fun t15 => (atM v_lfive t15)).bind fun p16 => (((modM v_lhead (1009 : Int)).bind fun t17 => VR.ok ((1 : Int) + t17)).bind fun t20 => (((fdivM v_lcell (13 : Int)).bind fun t18 => (modM t18 (2 : Int))).bind fun t19 => VR.ok ((1 : Int) + t19)).bind fun t21 => (mulM t20 t21)).bind fun (v_ltimes : Int) => ((((mulM p16.1 v_ltimes).bind fun t23 => ((fdivM v_lhead (1009 : Int)).bind fun t22 => (modM t22 (pwr 10 30))).bind fun t24 => VR.ok (t23 + t24)).bind fun t28 => ((mulM p16.2 v_ltimes).bind fun t26 => ((fdivM v_lhead (2003 : Int)).bind fun t25 => (modM t25 (pwr 10 30))).bind fun t27 => VR.ok (t26 - t27)).bind fun t29 => VR.ok (t28, t29)).bind toP)) else ((if (decide (s1 = (3 : Int))) = true then (((modM v_lcell (11 : Int)).bind fun t30 => VR.ok (t30 - (5 : Int))).bind fun (v_lx : Int) => ((((mulM (2 : Int) v_lx).bind fun t37 => ((((fdivM v_lcell (11 : Int)).bind fun t31 => (modM t31 (3 : Int))).bind fun t32 => (fdivM t32 (2 : Int))).bind fun t35 => (((fdivM v_lcell (33 : Int)).bind fun t33 => (modM t33 (4 : Int))).bind fun t34 => VR.ok ((1 : Int) + t34)).bind fun t36 => (mulM t35 t36)).bind fun t38 => VR.ok (t37 + t38)).bind fun t39 => VR.ok (v_lx, t39)).bind toP)) else ((if (decide (s1 = (4 : Int))) = true then ((((((mulM v_lcell (48271 : Int)).bind fun t40 => (modM t40 (2003 : Int))).bind fun t41 => VR.ok (t41 - (1001 : Int))).bind fun t44 => (((mulM v_lcell (69621 : Int)).bind fun t42 => (modM t42 (1999 : Int))).bind fun t43 => VR.ok (t43 - (999 : Int))).bind fun t45 => VR.ok (t44, t45)).bind toP)) else ((if (decide (s1 = (5 : Int))) = true then (((mulM v_lcell (pwr 48271 8)).bind fun t46 => (modM t46 (170141183460469231731687303715884105727 : Int))).bind fun (v_lx : Int) => (((((mulM v_lcell (pwr 69621 7)).bind fun t47 => (modM t47 (162259276829213363391578010288127 : Int))).bind fun t48 => VR.ok ((pwr 10 30) - t48)).bind fun t49 => VR.ok ((v_lx - (pwr 10 38)), t49)).bind toP)) else ((((modM v_lcell (4 : Int)).bind fun t51 => ((fdivM v_lcell (4 : Int)).bind fun t50 => (modM t50 (4 : Int))).bind fun t52 => VR.ok (t51, t52)).bind toP)))))))))))
theorem law_spot_rf (n : Nat) (v_lkind : Int) (v_lcell : Int) (v_lhead : Int) : Rf (callV T F (n + 1) 11 [ec v_lkind, ec v_lcell, ec v_lhead]) (g_law_spot v_lkind v_lcell v_lhead) := by
  unfold g_law_spot
  refine fn_rf (n := n + 0) (fn := f11) (w := false) rfl rfl rfl ?_
  change Bx F (callV T F (n + 0)) _ [some (false, ec v_lkind), some (false, ec v_lcell), some (false, ec v_lhead), none, none, none, none] ((if (decide ((5 : Int) < v_lkind)) = true then ((((mulM (2 : Int) (v_lkind - (6 : Int))).bind fun t7 => ((fdivM v_lcell (16 : Int)).bind fun t6 => (modM t6 (2 : Int))).bind fun t8 => VR.ok (t7 + t8)).bind fun t9 => (atM [(0 : Int), (3 : Int), (0 : Int), (5 : Int)] t9)).bind fun (v_lkind : Int) => VR.ok v_lkind) else (VR.ok v_lkind)).bind fun (s1 : Int) => (if (decide (s1 = (1 : Int))) = true then (((((modM v_lcell (3 : Int)).bind fun t10 => VR.ok (t10 + (pwr 10 30))).bind fun t13 => (((fdivM v_lcell (3 : Int)).bind fun t11 => (modM t11 (3 : Int))).bind fun t12 => VR.ok (t12 - (pwr 10 30))).bind fun t14 => VR.ok (t13, t14)).bind toP)) else ((if (decide (s1 = (2 : Int))) = true then ((VR.ok [((5 : Int), (0 : Int)), ((4 : Int), (3 : Int)), ((3 : Int), (4 : Int)), ((0 : Int), (5 : Int)), ((-(3 : Int)), (4 : Int)), ((-(4 : Int)), (3 : Int)), ((-(5 : Int)), (0 : Int))]).bind fun (v_lfive : (List (Int × Int))) => (catM v_lfive [((-(4 : Int)), (-(3 : Int))), ((-(3 : Int)), (-(4 : Int))), ((0 : Int), (-(5 : Int))), ((3 : Int), (-(4 : Int))), ((4 : Int), (-(3 : Int))), ((0 : Int), (0 : Int))]).bind fun (v_lfive : (List (Int × Int))) => ((modM v_lcell (13 : Int)).bind fun t15 => (atM v_lfive t15)).bind fun p16 => (((modM v_lhead (1009 : Int)).bind fun t17 => VR.ok ((1 : Int) + t17)).bind fun t20 => (((fdivM v_lcell (13 : Int)).bind fun t18 => (modM t18 (2 : Int))).bind fun t19 => VR.ok ((1 : Int) + t19)).bind fun t21 => (mulM t20 t21)).bind fun (v_ltimes : Int) => ((((mulM p16.1 v_ltimes).bind fun t23 => ((fdivM v_lhead (1009 : Int)).bind fun t22 => (modM t22 (pwr 10 30))).bind fun t24 => VR.ok (t23 + t24)).bind fun t28 => ((mulM p16.2 v_ltimes).bind fun t26 => ((fdivM v_lhead (2003 : Int)).bind fun t25 => (modM t25 (pwr 10 30))).bind fun t27 => VR.ok (t26 - t27)).bind fun t29 => VR.ok (t28, t29)).bind toP)) else ((if (decide (s1 = (3 : Int))) = true then (((modM v_lcell (11 : Int)).bind fun t30 => VR.ok (t30 - (5 : Int))).bind fun (v_lx : Int) => ((((mulM (2 : Int) v_lx).bind fun t37 => ((((fdivM v_lcell (11 : Int)).bind fun t31 => (modM t31 (3 : Int))).bind fun t32 => (fdivM t32 (2 : Int))).bind fun t35 => (((fdivM v_lcell (33 : Int)).bind fun t33 => (modM t33 (4 : Int))).bind fun t34 => VR.ok ((1 : Int) + t34)).bind fun t36 => (mulM t35 t36)).bind fun t38 => VR.ok (t37 + t38)).bind fun t39 => VR.ok (v_lx, t39)).bind toP)) else ((if (decide (s1 = (4 : Int))) = true then ((((((mulM v_lcell (48271 : Int)).bind fun t40 => (modM t40 (2003 : Int))).bind fun t41 => VR.ok (t41 - (1001 : Int))).bind fun t44 => (((mulM v_lcell (69621 : Int)).bind fun t42 => (modM t42 (1999 : Int))).bind fun t43 => VR.ok (t43 - (999 : Int))).bind fun t45 => VR.ok (t44, t45)).bind toP)) else ((if (decide (s1 = (5 : Int))) = true then (((mulM v_lcell (pwr 48271 8)).bind fun t46 => (modM t46 (170141183460469231731687303715884105727 : Int))).bind fun (v_lx : Int) => (((((mulM v_lcell (pwr 69621 7)).bind fun t47 => (modM t47 (162259276829213363391578010288127 : Int))).bind fun t48 => VR.ok ((pwr 10 30) - t48)).bind fun t49 => VR.ok ((v_lx - (pwr 10 38)), t49)).bind toP)) else ((((modM v_lcell (4 : Int)).bind fun t51 => ((fdivM v_lcell (4 : Int)).bind fun t50 => (modM t50 (4 : Int))).bind fun t52 => VR.ok (t51, t52)).bind toP)))))))))))) _
  refine rb_ifj (R := (fun (s1 : Int) (en : VEnv) => ∃ o2 o3 o4 o5 : Option (Bool × U), en = [some (false, ec s1), some (false, ec v_lcell), some (false, ec v_lhead), o2, o3, o4, o5])) (ev_cmp oGt (ev_var (a := v_lkind) rfl) ev_int) ?_ ?_ ?_
  · refine rb_set_f (ev_idx oAt (ev_lst (evl_cons ev_int (evl_cons ev_int (evl_cons ev_int (evl_cons ev_int (evl_nil (α := Int))))))) (ev_bin oAdd (ev_bin oMul ev_int (ev_bin oSub (ev_var (a := v_lkind) rfl) ev_int)) (ev_bin oMod (ev_bin oFdiv (ev_var (a := v_lcell) rfl) ev_int) ev_int))) ?_
    intro v_lkind
    exact rj_nil ⟨_, _, _, _, rfl⟩
  · exact rj_nil ⟨_, _, _, _, rfl⟩
  · rintro s1 en ⟨o2, o3, o4, o5, rfl⟩
    refine rb_if (ev_cmp (oEq (α := Int) (by decide)) (ev_var (a := s1) rfl) ev_int) ?_ ?_
    · exact rb_ret (fun _ => w_n) (ev_toP (ev_tup2 (ev_bin oAdd (ev_bin oMod (ev_var (a := v_lcell) rfl) ev_int) (ev_pwr (by decide +kernel))) (ev_bin oSub (ev_bin oMod (ev_bin oFdiv (ev_var (a := v_lcell) rfl) ev_int) ev_int) (ev_pwr (by decide +kernel)))))
    · refine rb_if (ev_cmp (oEq (α := Int) (by decide)) (ev_var (a := s1) rfl) ev_int) ?_ ?_
      · refine rb_set_o (by rfl) (ev_lst (evl_cons (ev_tup2 ev_int ev_int) (evl_cons (ev_tup2 ev_int ev_int) (evl_cons (ev_tup2 ev_int ev_int) (evl_cons (ev_tup2 ev_int ev_int) (evl_cons (ev_tup2 (ev_neg ev_int) ev_int) (evl_cons (ev_tup2 (ev_neg ev_int) ev_int) (evl_cons (ev_tup2 (ev_neg ev_int) ev_int) (evl_nil (α := (Int × Int))))))))))) ?_
        intro v_lfive
        refine rb_set_o (by rfl) (ev_bin oCat (ev_var (a := v_lfive) rfl) (ev_lst (evl_cons (ev_tup2 (ev_neg ev_int) (ev_neg ev_int)) (evl_cons (ev_tup2 (ev_neg ev_int) (ev_neg ev_int)) (evl_cons (ev_tup2 ev_int (ev_neg ev_int)) (evl_cons (ev_tup2 ev_int (ev_neg ev_int)) (evl_cons (ev_tup2 ev_int (ev_neg ev_int)) (evl_cons (ev_tup2 ev_int ev_int) (evl_nil (α := (Int × Int))))))))))) ?_
        intro v_lfive
        refine rb_u2 (ev_idx oAt (ev_var (a := v_lfive) rfl) (ev_bin oMod (ev_var (a := v_lcell) rfl) ev_int)) ?_
        intro p16
        refine rb_set_f (ev_bin oMul (ev_bin oAdd ev_int (ev_bin oMod (ev_var (a := v_lhead) rfl) ev_int)) (ev_bin oAdd ev_int (ev_bin oMod (ev_bin oFdiv (ev_var (a := v_lcell) rfl) ev_int) ev_int))) ?_
        intro v_ltimes
        exact rb_ret (fun _ => w_n) (ev_toP (ev_tup2 (ev_bin oAdd (ev_bin oMul (ev_var (a := p16.1) rfl) (ev_var (a := v_ltimes) rfl)) (ev_bin oMod (ev_bin oFdiv (ev_var (a := v_lhead) rfl) ev_int) (ev_pwr (by decide +kernel)))) (ev_bin oSub (ev_bin oMul (ev_var (a := p16.2) rfl) (ev_var (a := v_ltimes) rfl)) (ev_bin oMod (ev_bin oFdiv (ev_var (a := v_lhead) rfl) ev_int) (ev_pwr (by decide +kernel))))))
      · refine rb_if (ev_cmp (oEq (α := Int) (by decide)) (ev_var (a := s1) rfl) ev_int) ?_ ?_
        · refine rb_set_f (ev_bin oSub (ev_bin oMod (ev_var (a := v_lcell) rfl) ev_int) ev_int) ?_
          intro v_lx
          exact rb_ret (fun _ => w_n) (ev_toP (ev_tup2 (ev_var (a := v_lx) rfl) (ev_bin oAdd (ev_bin oMul ev_int (ev_var (a := v_lx) rfl)) (ev_bin oMul (ev_bin oFdiv (ev_bin oMod (ev_bin oFdiv (ev_var (a := v_lcell) rfl) ev_int) ev_int) ev_int) (ev_bin oAdd ev_int (ev_bin oMod (ev_bin oFdiv (ev_var (a := v_lcell) rfl) ev_int) ev_int))))))
        · refine rb_if (ev_cmp (oEq (α := Int) (by decide)) (ev_var (a := s1) rfl) ev_int) ?_ ?_
          · exact rb_ret (fun _ => w_n) (ev_toP (ev_tup2 (ev_bin oSub (ev_bin oMod (ev_bin oMul (ev_var (a := v_lcell) rfl) ev_int) ev_int) ev_int) (ev_bin oSub (ev_bin oMod (ev_bin oMul (ev_var (a := v_lcell) rfl) ev_int) ev_int) ev_int)))
          · refine rb_if (ev_cmp (oEq (α := Int) (by decide)) (ev_var (a := s1) rfl) ev_int) ?_ ?_
            · refine rb_set_f (ev_bin oMod (ev_bin oMul (ev_var (a := v_lcell) rfl) (ev_pwr (by decide +kernel))) ev_int) ?_
              intro v_lx
              exact rb_ret (fun _ => w_n) (ev_toP (ev_tup2 (ev_bin oSub (ev_var (a := v_lx) rfl) (ev_pwr (by decide +kernel))) (ev_bin oSub (ev_pwr (by decide +kernel)) (ev_bin oMod (ev_bin oMul (ev_var (a := v_lcell) rfl) (ev_pwr (by decide +kernel))) ev_int))))
            · exact rb_ret (fun _ => w_n) (ev_toP (ev_tup2 (ev_bin oMod (ev_var (a := v_lcell) rfl) ev_int) (ev_bin oMod (ev_bin oFdiv (ev_var (a := v_lcell) rfl) ev_int) ev_int)))
@[irreducible] noncomputable def g_law_places (v_lscript : Scr) (v_lmost : Int) : VR (List P) := (VR.ok ([] : List P)).bind fun (v_lsome : (List P)) => (forM (cutL v_lscript.ns (some (3 : Int)) (some ((3 : Int) + v_lmost))) v_lsome (fun (x4 : Int) (s1 : (List P)) => ((((g_law_at v_lscript (0 : Int)).bind fun t5 => (modM t5 (8 : Int))).bind fun t6 => (g_law_at v_lscript (2 : Int)).bind fun t7 => (g_law_spot t6 x4 t7)).bind fun (v_lspot_here : P) => (if (!decide (v_lspot_here ∈ s1)) = true then ((appM s1 v_lspot_here).bind fun (v_lsome : (List P)) => VR.ok v_lsome) else (VR.ok s1)) : VR ((List P))))).bind fun (s1 : (List P)) => (VR.ok s1)
theorem law_places_rf (n : Nat) (v_lscript : Scr) (v_lmost : Int) : Rf (callV T F (n + 2) 12 [ec v_lscript, ec v_lmost]) (g_law_places v_lscript v_lmost) := by
  unfold g_law_places
  refine fn_rf (n := n + 1) (fn := f12) (w := true) rfl rfl rfl ?_
  change Bx F (callV T F (n + 1)) _ [some (false, ec v_lscript), some (false, ec v_lmost), none, none, none] ((VR.ok ([] : List P)).bind fun (v_lsome : (List P)) => (forM (cutL v_lscript.ns (some (3 : Int)) (some ((3 : Int) + v_lmost))) v_lsome (fun (x4 : Int) (s1 : (List P)) => ((((g_law_at v_lscript (0 : Int)).bind fun t5 => (modM t5 (8 : Int))).bind fun t6 => (g_law_at v_lscript (2 : Int)).bind fun t7 => (g_law_spot t6 x4 t7)).bind fun (v_lspot_here : P) => (if (!decide (v_lspot_here ∈ s1)) = true then ((appM s1 v_lspot_here).bind fun (v_lsome : (List P)) => VR.ok v_lsome) else (VR.ok s1)) : VR ((List P))))).bind fun (s1 : (List P)) => (VR.ok s1)) _
  refine rb_set_o (by rfl) (ev_lst (evl_nil (α := P))) ?_
  intro v_lsome
  refine rb_for (R := (fun (s1 : (List P)) (en : VEnv) => ∃ o2 o3 : Option (Bool × U), en = [some (false, ec v_lscript), some (false, ec v_lmost), some (true, ec s1), o2, o3])) (fi_new (by rfl) (ev_s11S (ev_var (a := v_lscript) rfl) ev_int (ev_bin oAdd ev_int (ev_var (a := v_lmost) rfl)))) ⟨_, _, rfl⟩ ?_ ?_
  · rintro x4 s1 en ⟨o2, o3, rfl⟩
    refine ⟨_, rfl, ?_⟩
    refine rb_set_f (ev_c3 (law_spot_rf (n + 0)) (ev_bin oMod (ev_c2 (law_at_rf (n + 0)) (ev_var (a := v_lscript) rfl) ev_int) ev_int) (ev_var (a := x4) rfl) (ev_c2 (law_at_rf (n + 0)) (ev_var (a := v_lscript) rfl) ev_int)) ?_
    intro v_lspot_here
    refine rb_if (ev_cmp (oNi (α := P) (by decide)) (ev_var (a := v_lspot_here) rfl) (ev_var (a := s1) rfl)) ?_ ?_
    · refine rb_app (l := s1) rfl (ev_var (a := v_lspot_here) rfl) ?_
      intro v_lsome
      exact rn_nil ⟨_, _, rfl⟩
    · exact rn_nil ⟨_, _, rfl⟩
  · rintro s1 en ⟨o2, o3, rfl⟩
    exact rb_ret (fun _ => w_v rfl) (ev_var (a := s1) rfl)
@[irreducible] noncomputable def g_law_int (v_lone : Int) : VR Bool := (VR.ok (true && (true && true)))
theorem law_int_rf (n : Nat) (v_lone : Int) : Rf (callV T F (n + 1) 13 [ec v_lone]) (g_law_int v_lone) := by
  unfold g_law_int
  refine fn_rf (n := n + 0) (fn := f13) (w := false) rfl rfl rfl ?_
  change Bx F (callV T F (n + 0)) _ [some (false, ec v_lone)] ((VR.ok (true && (true && true)))) _
  exact rb_ret (fun _ => w_n) (ev_andP (ev_isi (k := fun _ => true) (fun x => rfl) (ev_var (a := v_lone) rfl)) (ev_andP (ev_cmp oIsnBI (ev_var (a := v_lone) rfl) ev_bool) (ev_cmp oIsnBI (ev_var (a := v_lone) rfl) ev_bool)))
@[irreducible] noncomputable def g_law_places_of (v_lfound : (P × P)) (v_lmany : Int) : VR Bool := (if ((!true) || (!decide ((2 : Int) = v_lmany))) = true then ((VR.ok false)) else ((forF [v_lfound.1, v_lfound.2] () (fun (x3 : P) (s1 : Unit) => ((((if (!true) = true then VR.ok true else ((if (!decide ((2 : Int) = (2 : Int))) = true then VR.ok true else (((g_law_int x3.x).bind fun t4 => VR.ok (!t4)).bind fun t6 => (if t6 = true then VR.ok true else ((g_law_int x3.y).bind fun t5 => VR.ok (!t5)))))))).bind fun t7 => if t7 = true then (VR.ok (Fl.rt false)) else (VR.ok (Fl.nx ()))) : VR (Fl (Unit) Bool)))).bind (Fl.elim (fun (s1 : Unit) => (VR.ok true)) (fun (a : Bool) => VR.ok a))))
theorem law_places_of_rf (n : Nat) (v_lfound : (P × P)) (v_lmany : Int) : Rf (callV T F (n + 2) 14 [ec v_lfound, ec v_lmany]) (g_law_places_of v_lfound v_lmany) := by
  unfold g_law_places_of
  refine fn_rf (n := n + 1) (fn := f14) (w := false) rfl rfl rfl ?_
  change Bx F (callV T F (n + 1)) _ [some (false, ec v_lfound), some (false, ec v_lmany), none] ((if ((!true) || (!decide ((2 : Int) = v_lmany))) = true then ((VR.ok false)) else ((forF [v_lfound.1, v_lfound.2] () (fun (x3 : P) (s1 : Unit) => ((((if (!true) = true then VR.ok true else ((if (!decide ((2 : Int) = (2 : Int))) = true then VR.ok true else (((g_law_int x3.x).bind fun t4 => VR.ok (!t4)).bind fun t6 => (if t6 = true then VR.ok true else ((g_law_int x3.y).bind fun t5 => VR.ok (!t5)))))))).bind fun t7 => if t7 = true then (VR.ok (Fl.rt false)) else (VR.ok (Fl.nx ()))) : VR (Fl (Unit) Bool)))).bind (Fl.elim (fun (s1 : Unit) => (VR.ok true)) (fun (a : Bool) => VR.ok a))))) _
  refine rb_if (ev_orP (ev_not (ev_isi (k := fun _ => true) (fun x => rfl) (ev_var (a := v_lfound) rfl))) (ev_cmp (oNe (α := Int) (by decide)) (ev_b1 bLen2 (ev_var (a := v_lfound) rfl)) (ev_var (a := v_lmany) rfl))) ?_ ?_
  · exact rb_ret (fun _ => w_n) ev_bool
  · refine rb_forF (w := false) (R := (fun (s1 : Unit) (en : VEnv) => ∃ o2 : Option (Bool × U), en = [some (false, ec v_lfound), some (false, ec v_lmany), o2])) (kn := fun (s1 : Unit) => _) (j := fun (a : Bool) => a) dr_j (fi_two (ev_var (a := v_lfound) rfl)) ⟨_, rfl⟩ ?_ ?_
    · rintro x3 s1 en ⟨o2, rfl⟩
      refine ⟨_, rfl, ?_⟩
      refine rb_if (ev_orL (ev_not (ev_isi (k := fun _ => true) (fun x => rfl) (ev_var (a := x3) rfl))) (ev_orL (ev_cmp (oNe (α := Int) (by decide)) (ev_b1 bLenP (ev_var (a := x3) rfl)) ev_int) (ev_or (ev_not (ev_c1 (law_int_rf (n + 0)) (ev_px (ev_var (a := x3) rfl)))) (ev_not (ev_c1 (law_int_rf (n + 0)) (ev_py (ev_var (a := x3) rfl))))))) ?_ ?_
      · exact rl_ret (fun _ => w_n) ev_bool
      · exact rl_nil ⟨_, rfl⟩
    · rintro s1 en ⟨o2, rfl⟩
      exact rb_ret (fun _ => w_n) ev_bool
@[irreducible] noncomputable def g_law_cross (v_lp : P) (v_lq : P) (v_la : P) (v_lb : P) : VR Int := ((mulM (v_lq.x - v_lp.x) (v_lb.y - v_la.y)).bind fun t1 => (mulM (v_lq.y - v_lp.y) (v_lb.x - v_la.x)).bind fun t2 => VR.ok (t1 - t2))
theorem law_cross_rf (n : Nat) (v_lp : P) (v_lq : P) (v_la : P) (v_lb : P) : Rf (callV T F (n + 1) 15 [ec v_lp, ec v_lq, ec v_la, ec v_lb]) (g_law_cross v_lp v_lq v_la v_lb) := by
  unfold g_law_cross
  refine fn_rf (n := n + 0) (fn := f15) (w := false) rfl rfl rfl ?_
  change Bx F (callV T F (n + 0)) _ [some (false, ec v_lp), some (false, ec v_lq), some (false, ec v_la), some (false, ec v_lb)] (((mulM (v_lq.x - v_lp.x) (v_lb.y - v_la.y)).bind fun t1 => (mulM (v_lq.y - v_lp.y) (v_lb.x - v_la.x)).bind fun t2 => VR.ok (t1 - t2))) _
  exact rb_ret (fun _ => w_n) (ev_bin oSub (ev_bin oMul (ev_bin oSub (ev_px (ev_var (a := v_lq) rfl)) (ev_px (ev_var (a := v_lp) rfl))) (ev_bin oSub (ev_py (ev_var (a := v_lb) rfl)) (ev_py (ev_var (a := v_la) rfl)))) (ev_bin oMul (ev_bin oSub (ev_py (ev_var (a := v_lq) rfl)) (ev_py (ev_var (a := v_lp) rfl))) (ev_bin oSub (ev_px (ev_var (a := v_lb) rfl)) (ev_px (ev_var (a := v_la) rfl)))))
@[irreducible] noncomputable def g_law_bars (v_lside : (P × P)) (v_lx : P) (v_ld : P) : VR Bool := (VR.ok v_lside).bind fun p1 => (g_law_cross p1.1 p1.2 v_lx v_ld).bind fun (v_lwide : Int) => (if (decide (v_lwide = (0 : Int))) = true then ((((if (decide (v_lx = v_ld)) = true then VR.ok true else ((g_law_cross p1.1 p1.2 p1.1 v_lx).bind fun t2 => VR.ok (!decide (t2 = (0 : Int)))))).bind fun t3 => if t3 = true then ((VR.ok false)) else ((if (lt v_lx v_ld) = true then ((VR.ok ((lt p1.1 v_ld) && (!lt p1.2 v_lx)))) else ((VR.ok ((lt v_ld p1.2) && (!lt v_lx p1.1)))))))) else ((g_law_cross p1.1 v_lx v_lx v_ld).bind fun (v_lhere : Int) => (g_law_cross p1.1 v_lx p1.1 p1.2).bind fun (v_lthere : Int) => (if (decide (v_lwide < (0 : Int))) = true then ((VR.ok (T3.mk (-v_lwide) (-v_lhere) (-v_lthere))).bind fun p5 => VR.ok (p5.a, p5.b, p5.c)) else (VR.ok (v_lwide, v_lhere, v_lthere))).bind fun (s4 : Int × Int × Int) => (VR.ok ((decide ((0 : Int) ≤ s4.2.1)) && ((decide (s4.2.1 ≤ s4.1)) && ((decide ((0 : Int) ≤ s4.2.2)) && (decide (s4.2.2 < s4.1))))))))
theorem law_bars_rf (n : Nat) (v_lside : (P × P)) (v_lx : P) (v_ld : P) : Rf (callV T F (n + 2) 16 [ec v_lside, ec v_lx, ec v_ld]) (g_law_bars v_lside v_lx v_ld) := by
  unfold g_law_bars
  refine fn_rf (n := n + 1) (fn := f16) (w := false) rfl rfl rfl ?_
  change Bx F (callV T F (n + 1)) _ [some (false, ec v_lside), some (false, ec v_lx), some (false, ec v_ld), none, none, none, none, none] ((VR.ok v_lside).bind fun p1 => (g_law_cross p1.1 p1.2 v_lx v_ld).bind fun (v_lwide : Int) => (if (decide (v_lwide = (0 : Int))) = true then ((((if (decide (v_lx = v_ld)) = true then VR.ok true else ((g_law_cross p1.1 p1.2 p1.1 v_lx).bind fun t2 => VR.ok (!decide (t2 = (0 : Int)))))).bind fun t3 => if t3 = true then ((VR.ok false)) else ((if (lt v_lx v_ld) = true then ((VR.ok ((lt p1.1 v_ld) && (!lt p1.2 v_lx)))) else ((VR.ok ((lt v_ld p1.2) && (!lt v_lx p1.1)))))))) else ((g_law_cross p1.1 v_lx v_lx v_ld).bind fun (v_lhere : Int) => (g_law_cross p1.1 v_lx p1.1 p1.2).bind fun (v_lthere : Int) => (if (decide (v_lwide < (0 : Int))) = true then ((VR.ok (T3.mk (-v_lwide) (-v_lhere) (-v_lthere))).bind fun p5 => VR.ok (p5.a, p5.b, p5.c)) else (VR.ok (v_lwide, v_lhere, v_lthere))).bind fun (s4 : Int × Int × Int) => (VR.ok ((decide ((0 : Int) ≤ s4.2.1)) && ((decide (s4.2.1 ≤ s4.1)) && ((decide ((0 : Int) ≤ s4.2.2)) && (decide (s4.2.2 < s4.1))))))))) _
  refine rb_u2 (ev_var (a := v_lside) rfl) ?_
  intro p1
  refine rb_set_f (ev_c4 (law_cross_rf (n + 0)) (ev_var (a := p1.1) rfl) (ev_var (a := p1.2) rfl) (ev_var (a := v_lx) rfl) (ev_var (a := v_ld) rfl)) ?_
  intro v_lwide
  refine rb_if (ev_cmp (oEq (α := Int) (by decide)) (ev_var (a := v_lwide) rfl) ev_int) ?_ ?_
  · refine rb_if (ev_orL (ev_cmp (oEq (α := P) (by decide)) (ev_var (a := v_lx) rfl) (ev_var (a := v_ld) rfl)) (ev_cmp (oNe (α := Int) (by decide)) (ev_c4 (law_cross_rf (n + 0)) (ev_var (a := p1.1) rfl) (ev_var (a := p1.2) rfl) (ev_var (a := p1.1) rfl) (ev_var (a := v_lx) rfl)) ev_int)) ?_ ?_
    · exact rb_ret (fun _ => w_n) ev_bool
    · refine rb_if (ev_cmp (oLtT (α := P) (by decide)) (ev_var (a := v_lx) rfl) (ev_var (a := v_ld) rfl)) ?_ ?_
      · exact rb_ret (fun _ => w_n) (ev_andP (ev_cmp (oLtT (α := P) (by decide)) (ev_var (a := p1.1) rfl) (ev_var (a := v_ld) rfl)) (ev_cmp (oLeT (α := P) (by decide)) (ev_var (a := v_lx) rfl) (ev_var (a := p1.2) rfl)))
      · exact rb_ret (fun _ => w_n) (ev_andP (ev_cmp (oLtT (α := P) (by decide)) (ev_var (a := v_ld) rfl) (ev_var (a := p1.2) rfl)) (ev_cmp (oLeT (α := P) (by decide)) (ev_var (a := p1.1) rfl) (ev_var (a := v_lx) rfl)))
  · refine rb_set_f (ev_c4 (law_cross_rf (n + 0)) (ev_var (a := p1.1) rfl) (ev_var (a := v_lx) rfl) (ev_var (a := v_lx) rfl) (ev_var (a := v_ld) rfl)) ?_
    intro v_lhere
    refine rb_set_f (ev_c4 (law_cross_rf (n + 0)) (ev_var (a := p1.1) rfl) (ev_var (a := v_lx) rfl) (ev_var (a := p1.1) rfl) (ev_var (a := p1.2) rfl)) ?_
    intro v_lthere
    refine rb_ifj (R := (fun (s4 : Int × Int × Int) (en : VEnv) => en = [some (false, ec v_lside), some (false, ec v_lx), some (false, ec v_ld), some (false, ec s4.1), some (false, ec s4.2.1), some (false, ec s4.2.2), some (false, ec p1.1), some (false, ec p1.2)])) (ev_cmp oLt (ev_var (a := v_lwide) rfl) ev_int) ?_ ?_ ?_
    · refine rb_u3 (ev_tup3 (ev_neg (ev_var (a := v_lwide) rfl)) (ev_neg (ev_var (a := v_lhere) rfl)) (ev_neg (ev_var (a := v_lthere) rfl))) ?_
      intro p5
      exact rj_nil rfl
    · exact rj_nil rfl
    · rintro s4 en rfl
      exact rb_ret (fun _ => w_n) (ev_andP (ev_cmp oLe ev_int (ev_var (a := s4.2.1) rfl)) (ev_andP (ev_cmp oLe (ev_var (a := s4.2.1) rfl) (ev_var (a := s4.1) rfl)) (ev_andP (ev_cmp oLe ev_int (ev_var (a := s4.2.2) rfl)) (ev_cmp oLt (ev_var (a := s4.2.2) rfl) (ev_var (a := s4.1) rfl)))))
@[irreducible] noncomputable def g_law_grown (v_lsome : (List (P × P))) (v_lby : Int) : VR (List (P × P)) := (compM (fun (x1 : (P × P)) => (VR.ok true)) (fun (x1 : (P × P)) => ((compM (fun (x2 : P) => (VR.ok true)) (fun (x2 : P) => (((mulM x2.x v_lby).bind fun t3 => (mulM x2.y v_lby).bind fun t4 => VR.ok (t3, t4)).bind toP)) [x1.1, x1.2]).bind fun t5 => (tup2M t5))) v_lsome)
theorem law_grown_rf (n : Nat) (v_lsome : (List (P × P))) (v_lby : Int) : Rf (callV T F (n + 1) 17 [ec v_lsome, ec v_lby]) (g_law_grown v_lsome v_lby) := by
  unfold g_law_grown
  refine fn_rf (n := n + 0) (fn := f17) (w := true) rfl rfl rfl ?_
  change Bx F (callV T F (n + 0)) _ [some (false, ec v_lsome), some (false, ec v_lby), none, none] ((compM (fun (x1 : (P × P)) => (VR.ok true)) (fun (x1 : (P × P)) => ((compM (fun (x2 : P) => (VR.ok true)) (fun (x2 : P) => (((mulM x2.x v_lby).bind fun t3 => (mulM x2.y v_lby).bind fun t4 => VR.ok (t3, t4)).bind toP)) [x1.1, x1.2]).bind fun t5 => (tup2M t5))) v_lsome)) _
  exact rb_ret (fun _ => w_e rfl) (ev_compI (it_list (ev_var (a := v_lsome) rfl)) (fun (x1 : (P × P)) => ⟨_, rfl, ev_bool, (ev_b1 bTup2 (ev_compI (it_two (ev_var (a := x1) rfl)) (fun (x2 : P) => ⟨_, rfl, ev_bool, (ev_toP (ev_tup2 (ev_bin oMul (ev_px (ev_var (a := x2) rfl)) (ev_var (a := v_lby) rfl)) (ev_bin oMul (ev_py (ev_var (a := x2) rfl)) (ev_var (a := v_lby) rfl))))⟩)))⟩))
@[irreducible] noncomputable def g_law_first_bar (v_lsome : (List (P × P))) (v_lx : P) (v_lby : Int) (v_ld : P) : VR (Option (P × P)) := (g_law_grown v_lsome v_lby).bind fun (v_lgrown_here : (List (P × P))) => (rngM 0 (v_lsome.length : Int)).bind fun t11 => (forF t11 () (fun (x3 : Int) (s1 : Unit) => ((((atM v_lgrown_here x3).bind fun t6 => (((mulM v_ld.x v_lby).bind fun t4 => (mulM v_ld.y v_lby).bind fun t5 => VR.ok (t4, t5)).bind toP).bind fun t7 => (g_law_bars t6 v_lx t7)).bind fun t10 => if t10 = true then (((atM v_lsome x3).bind fun t8 => VR.ok (some t8)).bind fun t9 => VR.ok (Fl.rt t9)) else (VR.ok (Fl.nx ()))) : VR (Fl (Unit) (Option (P × P)))))).bind (Fl.elim (fun (s1 : Unit) => (VR.ok (none : (Option (P × P))))) (fun (a : (Option (P × P))) => VR.ok a))
theorem law_first_bar_rf (n : Nat) (v_lsome : (List (P × P))) (v_lx : P) (v_lby : Int) (v_ld : P) : Rf (callV T F (n + 3) 18 [ec v_lsome, ec v_lx, ec v_lby, ec v_ld]) (g_law_first_bar v_lsome v_lx v_lby v_ld) := by
  unfold g_law_first_bar
  refine fn_rf (n := n + 2) (fn := f18) (w := false) rfl rfl rfl ?_
  change Bx F (callV T F (n + 2)) _ [some (false, ec v_lsome), some (false, ec v_lx), some (false, ec v_lby), some (false, ec v_ld), none, none] ((g_law_grown v_lsome v_lby).bind fun (v_lgrown_here : (List (P × P))) => (rngM 0 (v_lsome.length : Int)).bind fun t11 => (forF t11 () (fun (x3 : Int) (s1 : Unit) => ((((atM v_lgrown_here x3).bind fun t6 => (((mulM v_ld.x v_lby).bind fun t4 => (mulM v_ld.y v_lby).bind fun t5 => VR.ok (t4, t5)).bind toP).bind fun t7 => (g_law_bars t6 v_lx t7)).bind fun t10 => if t10 = true then (((atM v_lsome x3).bind fun t8 => VR.ok (some t8)).bind fun t9 => VR.ok (Fl.rt t9)) else (VR.ok (Fl.nx ()))) : VR (Fl (Unit) (Option (P × P)))))).bind (Fl.elim (fun (s1 : Unit) => (VR.ok (none : (Option (P × P))))) (fun (a : (Option (P × P))) => VR.ok a))) _
  refine rb_set_o (by rfl) (ev_c2 (law_grown_rf (n + 1)) (ev_var (a := v_lsome) rfl) (ev_var (a := v_lby) rfl)) ?_
  intro v_lgrown_here
  refine rb_forF (w := false) (R := (fun (s1 : Unit) (en : VEnv) => ∃ o2 : Option (Bool × U), en = [some (false, ec v_lsome), some (false, ec v_lx), some (false, ec v_lby), some (false, ec v_ld), some (true, ec v_lgrown_here), o2])) (kn := fun (s1 : Unit) => _) (j := fun (a : (Option (P × P))) => a) dr_j (fi_rng1 (ev_b1 bLen (ev_var (a := v_lsome) rfl))) ⟨_, rfl⟩ ?_ ?_
  · rintro x3 s1 en ⟨o2, rfl⟩
    refine ⟨_, rfl, ?_⟩
    refine rb_if (ev_c3 (law_bars_rf (n + 0)) (ev_idx oAt (ev_var (a := v_lgrown_here) rfl) (ev_var (a := x3) rfl)) (ev_var (a := v_lx) rfl) (ev_toP (ev_tup2 (ev_bin oMul (ev_px (ev_var (a := v_ld) rfl)) (ev_var (a := v_lby) rfl)) (ev_bin oMul (ev_py (ev_var (a := v_ld) rfl)) (ev_var (a := v_lby) rfl))))) ?_ ?_
    · exact rl_ret (fun _ => w_n) (ev_some (ev_idx oAt (ev_var (a := v_lsome) rfl) (ev_var (a := x3) rfl)))
    · exact rl_nil ⟨_, rfl⟩
  · rintro s1 en ⟨o2, rfl⟩
    exact rb_ret (fun _ => w_n) (ev_none (α := (P × P)))
@[irreducible] noncomputable def g_law_lowest (v_ltop : Int) (v_lbottom : Int) : VR (Fr 10000) := (VR.ok (v_lbottom, v_ltop)).bind fun p1 => (whlM fuel (fun (s2 : Int × Int) => (VR.ok (!decide (s2.2 = (0 : Int))))) (fun (s2 : Int × Int) => (((modM s2.1 s2.2).bind fun t4 => VR.ok (s2.2, t4)).bind fun p5 => VR.ok (p5.1, p5.2) : VR (Int × Int))) (p1.1, p1.2)).bind fun (s2 : Int × Int) => (((fdivM v_ltop (if s2.1 < 0 then -s2.1 else s2.1)).bind fun t6 => (fdivM v_lbottom (if s2.1 < 0 then -s2.1 else s2.1)).bind fun t7 => VR.ok (t6, t7)).bind (toFr 10000))
theorem law_lowest_rf (n : Nat) (v_ltop : Int) (v_lbottom : Int) : Rf (callV T F (n + 1) 19 [ec v_ltop, ec v_lbottom]) (g_law_lowest v_ltop v_lbottom) := by
  unfold g_law_lowest
  refine fn_rf (n := n + 0) (fn := f19) (w := false) rfl rfl rfl ?_
  change Bx F (callV T F (n + 0)) _ [some (false, ec v_ltop), some (false, ec v_lbottom), none, none] ((VR.ok (v_lbottom, v_ltop)).bind fun p1 => (whlM fuel (fun (s2 : Int × Int) => (VR.ok (!decide (s2.2 = (0 : Int))))) (fun (s2 : Int × Int) => (((modM s2.1 s2.2).bind fun t4 => VR.ok (s2.2, t4)).bind fun p5 => VR.ok (p5.1, p5.2) : VR (Int × Int))) (p1.1, p1.2)).bind fun (s2 : Int × Int) => (((fdivM v_ltop (if s2.1 < 0 then -s2.1 else s2.1)).bind fun t6 => (fdivM v_lbottom (if s2.1 < 0 then -s2.1 else s2.1)).bind fun t7 => VR.ok (t6, t7)).bind (toFr 10000))) _
  refine rb_u2 (ev_tup2 (ev_var (a := v_lbottom) rfl) (ev_var (a := v_ltop) rfl)) ?_
  intro p1
  refine rb_whl (R := (fun (s2 : Int × Int) (en : VEnv) => en = [some (false, ec v_ltop), some (false, ec v_lbottom), some (false, ec s2.1), some (false, ec s2.2)])) rfl ?_ ?_ ?_
  · rintro s2 en rfl
    exact (ev_cmp (oNe (α := Int) (by decide)) (ev_var (a := s2.2) rfl) ev_int)
  · rintro s2 en rfl
    refine rb_u2 (ev_tup2 (ev_var (a := s2.2) rfl) (ev_bin oMod (ev_var (a := s2.1) rfl) (ev_var (a := s2.2) rfl))) ?_
    intro p5
    exact rn_nil rfl
  · rintro s2 en rfl
    exact rb_ret (fun _ => w_n) (ev_toFr (ev_tup2 (ev_bin oFdiv (ev_var (a := v_ltop) rfl) (ev_b1 bAbs (ev_var (a := s2.1) rfl))) (ev_bin oFdiv (ev_var (a := v_lbottom) rfl) (ev_b1 bAbs (ev_var (a := s2.1) rfl)))))
@[irreducible] noncomputable def g_law_asked (v_lsome : (List (P × P))) (v_lx : P) (v_lby : Int) (v_ld : P) : VR Bool := (VR.ok v_lsome).bind fun (v_lhanded : (List (P × P))) => (((g_law_lowest v_lx.x v_lby).bind fun t1 => (g_law_lowest v_lx.y v_lby).bind fun t2 => VR.ok (t1, t2)).bind fun t3 => (g_shut v_lhanded t3 v_ld)).bind fun (v_lfound : (Option (P × P))) => (g_law_first_bar v_lsome v_lx v_lby v_ld).bind fun (v_ldue : (Option (P × P))) => (if (!decide (v_lhanded = v_lsome)) = true then ((VR.ok false)) else ((if v_ldue.isNone = true then ((VR.ok v_lfound.isNone)) else ((((getO v_lfound).bind fun t4 => (g_law_places_of t4 (2 : Int))).bind fun t5 => (if t5 = true then (VR.ok (decide (v_lfound = v_ldue))) else VR.ok false))))))
theorem law_asked_rf (n : Nat) (v_lsome : (List (P × P))) (v_lx : P) (v_lby : Int) (v_ld : P) : Rf (callV T F (n + 6) 20 [ec v_lsome, ec v_lx, ec v_lby, ec v_ld]) (g_law_asked v_lsome v_lx v_lby v_ld) := by
  unfold g_law_asked
  refine fn_rf (n := n + 5) (fn := f20) (w := false) rfl rfl rfl ?_
  change Bx F (callV T F (n + 5)) _ [some (false, ec v_lsome), some (false, ec v_lx), some (false, ec v_lby), some (false, ec v_ld), none, none, none] ((VR.ok v_lsome).bind fun (v_lhanded : (List (P × P))) => (((g_law_lowest v_lx.x v_lby).bind fun t1 => (g_law_lowest v_lx.y v_lby).bind fun t2 => VR.ok (t1, t2)).bind fun t3 => (g_shut v_lhanded t3 v_ld)).bind fun (v_lfound : (Option (P × P))) => (g_law_first_bar v_lsome v_lx v_lby v_ld).bind fun (v_ldue : (Option (P × P))) => (if (!decide (v_lhanded = v_lsome)) = true then ((VR.ok false)) else ((if v_ldue.isNone = true then ((VR.ok v_lfound.isNone)) else ((((getO v_lfound).bind fun t4 => (g_law_places_of t4 (2 : Int))).bind fun t5 => (if t5 = true then (VR.ok (decide (v_lfound = v_ldue))) else VR.ok false))))))) _
  refine rb_set_o (by rfl) (ev_b1 bList (ev_var (a := v_lsome) rfl)) ?_
  intro v_lhanded
  refine rb_set_f (ev_c3 (shut_rf (n + 0)) (ev_var (a := v_lhanded) rfl) (ev_tup2 (ev_c2 (law_lowest_rf (n + 4)) (ev_px (ev_var (a := v_lx) rfl)) (ev_var (a := v_lby) rfl)) (ev_c2 (law_lowest_rf (n + 4)) (ev_py (ev_var (a := v_lx) rfl)) (ev_var (a := v_lby) rfl))) (ev_var (a := v_ld) rfl)) ?_
  intro v_lfound
  refine rb_set_f (ev_c4 (law_first_bar_rf (n + 2)) (ev_var (a := v_lsome) rfl) (ev_var (a := v_lx) rfl) (ev_var (a := v_lby) rfl) (ev_var (a := v_ld) rfl)) ?_
  intro v_ldue
  refine rb_if (ev_cmp (oNe (α := (List (P × P))) (by decide)) (ev_var (a := v_lhanded) rfl) (ev_var (a := v_lsome) rfl)) ?_ ?_
  · exact rb_ret (fun _ => w_n) ev_bool
  · refine rb_if (ev_cmp (oIsN (α := (P × P))) (ev_var (a := v_ldue) rfl) ev_unit) ?_ ?_
    · exact rb_ret (fun _ => w_n) (ev_cmp (oIsN (α := (P × P))) (ev_var (a := v_lfound) rfl) ev_unit)
    · exact rb_ret (fun _ => w_n) (ev_and (ev_c2 (law_places_of_rf (n + 3)) (ev_get (ev_var (a := v_lfound) rfl)) ev_int) (ev_cmp (oEq (α := (Option (P × P))) (by decide)) (ev_var (a := v_lfound) rfl) (ev_var (a := v_ldue) rfl)))
@[irreducible] noncomputable def g_law (v_lscript : Scr) : VR Bool := (((((g_law_at v_lscript (1 : Int)).bind fun t1 => (modM t1 (5 : Int))).bind fun t2 => VR.ok ((2 : Int) + t2)).bind fun t3 => (g_law_places v_lscript t3)).bind fun t4 => VR.ok (srtL t4)).bind fun (v_lplaces_here : (List P)) => (VR.ok (v_lplaces_here.length : Int)).bind fun (v_lmany : Int) => (if (decide (v_lmany < (2 : Int))) = true then ((((((toFr 10000) ((0 : Int), (1 : Int))).bind fun t7 => ((((g_law_at v_lscript (2 : Int)).bind fun t5 => (modM t5 (pwr 10 60))).bind fun t6 => VR.ok (t6, (1 : Int))).bind (toFr 10000)).bind fun t8 => VR.ok (t7, t8)).bind fun t9 => (toP ((0 : Int), (0 : Int))).bind fun t10 => (g_shut ([] : List (P × P)) t9 t10)).bind fun t11 => VR.ok t11.isNone)) else ((VR.ok ([] : List (P × P))).bind fun (v_lsome : (List (P × P))) => (forM (cutL v_lscript.ns (some (8 : Int)) (some (16 : Int))) v_lsome (fun (x25 : Int) (s12 : (List (P × P))) => ((modM x25 v_lmany).bind fun (v_lone : Int) => ((((fdivM x25 v_lmany).bind fun t26 => (modM t26 (v_lmany - (1 : Int)))).bind fun t27 => VR.ok ((v_lone + (1 : Int)) + t27)).bind fun t28 => (modM t28 v_lmany)).bind fun (v_lother : Int) => ((atM v_lplaces_here (mnT v_lone v_lother)).bind fun t29 => (atM v_lplaces_here (mxT v_lone v_lother)).bind fun t30 => VR.ok (t29, t30)).bind fun t31 => (appM s12 t31).bind fun (v_lsome : (List (P × P))) => VR.ok v_lsome : VR ((List (P × P)))))).bind fun (s12 : (List (P × P))) => ((rngM 0 (3 : Int)).bind fun t35 => (compM (fun (x32 : Int) => (VR.ok true)) (fun (x32 : Int) => (((g_law_at v_lscript ((16 : Int) + x32)).bind fun t33 => (modM t33 (pwr 10 9))).bind fun t34 => VR.ok ((1 : Int) + t34))) t35)).bind fun (v_lshares : (List Int)) => ((((g_law_at v_lscript (19 : Int)).bind fun t36 => (modM t36 v_lmany)).bind fun t37 => (atM v_lplaces_here t37)).bind fun t43 => ((((g_law_at v_lscript (20 : Int)).bind fun t38 => (modM t38 v_lmany)).bind fun t39 => (atM v_lplaces_here t39)).bind fun t41 => ((atM v_lplaces_here (-(1 : Int))).bind fun t40 => VR.ok (t40 :: ([] : List P))).bind fun t42 => VR.ok (t41 :: t42)).bind fun t44 => VR.ok (t43 :: t44)).bind fun (v_lthree : (List P)) => (compM (fun (x45 : P) => (VR.ok true)) (fun (x45 : P) => (VR.ok ((x45.x, x45.y), (1 : Int)))) v_lplaces_here).bind fun (v_lpoints : (List ((Int × Int) × Int))) => (((((atM v_lplaces_here (0 : Int)).bind fun t46 => VR.ok t46.x).bind fun t48 => ((atM v_lplaces_here (1 : Int)).bind fun t47 => VR.ok t47.x).bind fun t49 => VR.ok (t48 + t49)).bind fun t54 => (((atM v_lplaces_here (0 : Int)).bind fun t50 => VR.ok t50.y).bind fun t52 => ((atM v_lplaces_here (1 : Int)).bind fun t51 => VR.ok t51.y).bind fun t53 => VR.ok (t52 + t53)).bind fun t55 => VR.ok (t54, t55)).bind fun t56 => VR.ok (t56, (2 : Int))).bind fun t122 => (appM v_lpoints t122).bind fun (v_lpoints : (List ((Int × Int) × Int))) => ((((((atM v_lplaces_here (0 : Int)).bind fun t57 => VR.ok t57.x).bind fun t58 => (mulM (2 : Int) t58)).bind fun t60 => ((atM v_lthree (0 : Int)).bind fun t59 => VR.ok t59.x).bind fun t61 => VR.ok (t60 - t61)).bind fun t67 => ((((atM v_lplaces_here (0 : Int)).bind fun t62 => VR.ok t62.y).bind fun t63 => (mulM (2 : Int) t63)).bind fun t65 => ((atM v_lthree (0 : Int)).bind fun t64 => VR.ok t64.y).bind fun t66 => VR.ok (t65 - t66)).bind fun t68 => VR.ok (t67, t68)).bind fun t69 => VR.ok (t69, (1 : Int))).bind fun t121 => (appM v_lpoints t121).bind fun (v_lpoints : (List ((Int × Int) × Int))) => ((((((atM v_lthree (1 : Int)).bind fun t70 => VR.ok t70.x).bind fun t71 => (mulM (2 : Int) t71)).bind fun t73 => ((atM v_lthree (0 : Int)).bind fun t72 => VR.ok t72.x).bind fun t74 => VR.ok (t73 - t74)).bind fun t80 => ((((atM v_lthree (1 : Int)).bind fun t75 => VR.ok t75.y).bind fun t76 => (mulM (2 : Int) t76)).bind fun t78 => ((atM v_lthree (0 : Int)).bind fun t77 => VR.ok t77.y).bind fun t79 => VR.ok (t78 - t79)).bind fun t81 => VR.ok (t80, t81)).bind fun t82 => VR.ok (t82, (1 : Int))).bind fun t120 => (appM v_lpoints t120).bind fun (v_lpoints : (List ((Int × Int) × Int))) => (((rngM 0 (3 : Int)).bind fun t87 => (compM (fun (x83 : Int) => (VR.ok true)) (fun (x83 : Int) => ((atM v_lshares x83).bind fun t85 => ((atM v_lthree x83).bind fun t84 => VR.ok t84.x).bind fun t86 => (mulM t85 t86))) t87)).bind fun t88 => VR.ok t88.sum).bind fun (v_lx : Int) => (((((rngM 0 (3 : Int)).bind fun t93 => (compM (fun (x89 : Int) => (VR.ok true)) (fun (x89 : Int) => ((atM v_lshares x89).bind fun t91 => ((atM v_lthree x89).bind fun t90 => VR.ok t90.y).bind fun t92 => (mulM t91 t92))) t93)).bind fun t94 => VR.ok t94.sum).bind fun t95 => VR.ok (v_lx, t95)).bind fun t96 => VR.ok (t96, v_lshares.sum)).bind fun t119 => (appM v_lpoints t119).bind fun (v_lpoints : (List ((Int × Int) × Int))) => (forF v_lpoints () (fun (x107 : ((Int × Int) × Int)) (s97 : Unit) => ((forF v_lplaces_here () (fun (x115 : P) (s108 : Unit) => (((((toP x107.1).bind fun t116 => (g_law_asked s12 t116 x107.2 x115)).bind fun t117 => VR.ok (!t117)).bind fun t118 => if t118 = true then (VR.ok (Fl.rt false)) else (VR.ok (Fl.nx ()))) : VR (Fl (Unit) Bool)))).bind (Fl.elim (fun (s108 : Unit) => VR.ok (Fl.nx ())) (fun (a : Bool) => VR.ok (Fl.rt a))) : VR (Fl (Unit) Bool)))).bind (Fl.elim (fun (s97 : Unit) => (VR.ok true)) (fun (a : Bool) => VR.ok a))))
theorem law_rf (n : Nat) (v_lscript : Scr) : Rf (callV T F (n + 7) 21 [ec v_lscript]) (g_law v_lscript) := by
  unfold g_law
  refine fn_rf (n := n + 6) (fn := f21) (w := false) rfl rfl rfl ?_
  change Bx F (callV T F (n + 6)) _ [some (false, ec v_lscript), none, none, none, none, none, none, none, none, none, none, none, none, none, none, none] ((((((g_law_at v_lscript (1 : Int)).bind fun t1 => (modM t1 (5 : Int))).bind fun t2 => VR.ok ((2 : Int) + t2)).bind fun t3 => (g_law_places v_lscript t3)).bind fun t4 => VR.ok (srtL t4)).bind fun (v_lplaces_here : (List P)) => (VR.ok (v_lplaces_here.length : Int)).bind fun (v_lmany : Int) => (if (decide (v_lmany < (2 : Int))) = true then ((((((toFr 10000) ((0 : Int), (1 : Int))).bind fun t7 => ((((g_law_at v_lscript (2 : Int)).bind fun t5 => (modM t5 (pwr 10 60))).bind fun t6 => VR.ok (t6, (1 : Int))).bind (toFr 10000)).bind fun t8 => VR.ok (t7, t8)).bind fun t9 => (toP ((0 : Int), (0 : Int))).bind fun t10 => (g_shut ([] : List (P × P)) t9 t10)).bind fun t11 => VR.ok t11.isNone)) else ((VR.ok ([] : List (P × P))).bind fun (v_lsome : (List (P × P))) => (forM (cutL v_lscript.ns (some (8 : Int)) (some (16 : Int))) v_lsome (fun (x25 : Int) (s12 : (List (P × P))) => ((modM x25 v_lmany).bind fun (v_lone : Int) => ((((fdivM x25 v_lmany).bind fun t26 => (modM t26 (v_lmany - (1 : Int)))).bind fun t27 => VR.ok ((v_lone + (1 : Int)) + t27)).bind fun t28 => (modM t28 v_lmany)).bind fun (v_lother : Int) => ((atM v_lplaces_here (mnT v_lone v_lother)).bind fun t29 => (atM v_lplaces_here (mxT v_lone v_lother)).bind fun t30 => VR.ok (t29, t30)).bind fun t31 => (appM s12 t31).bind fun (v_lsome : (List (P × P))) => VR.ok v_lsome : VR ((List (P × P)))))).bind fun (s12 : (List (P × P))) => ((rngM 0 (3 : Int)).bind fun t35 => (compM (fun (x32 : Int) => (VR.ok true)) (fun (x32 : Int) => (((g_law_at v_lscript ((16 : Int) + x32)).bind fun t33 => (modM t33 (pwr 10 9))).bind fun t34 => VR.ok ((1 : Int) + t34))) t35)).bind fun (v_lshares : (List Int)) => ((((g_law_at v_lscript (19 : Int)).bind fun t36 => (modM t36 v_lmany)).bind fun t37 => (atM v_lplaces_here t37)).bind fun t43 => ((((g_law_at v_lscript (20 : Int)).bind fun t38 => (modM t38 v_lmany)).bind fun t39 => (atM v_lplaces_here t39)).bind fun t41 => ((atM v_lplaces_here (-(1 : Int))).bind fun t40 => VR.ok (t40 :: ([] : List P))).bind fun t42 => VR.ok (t41 :: t42)).bind fun t44 => VR.ok (t43 :: t44)).bind fun (v_lthree : (List P)) => (compM (fun (x45 : P) => (VR.ok true)) (fun (x45 : P) => (VR.ok ((x45.x, x45.y), (1 : Int)))) v_lplaces_here).bind fun (v_lpoints : (List ((Int × Int) × Int))) => (((((atM v_lplaces_here (0 : Int)).bind fun t46 => VR.ok t46.x).bind fun t48 => ((atM v_lplaces_here (1 : Int)).bind fun t47 => VR.ok t47.x).bind fun t49 => VR.ok (t48 + t49)).bind fun t54 => (((atM v_lplaces_here (0 : Int)).bind fun t50 => VR.ok t50.y).bind fun t52 => ((atM v_lplaces_here (1 : Int)).bind fun t51 => VR.ok t51.y).bind fun t53 => VR.ok (t52 + t53)).bind fun t55 => VR.ok (t54, t55)).bind fun t56 => VR.ok (t56, (2 : Int))).bind fun t122 => (appM v_lpoints t122).bind fun (v_lpoints : (List ((Int × Int) × Int))) => ((((((atM v_lplaces_here (0 : Int)).bind fun t57 => VR.ok t57.x).bind fun t58 => (mulM (2 : Int) t58)).bind fun t60 => ((atM v_lthree (0 : Int)).bind fun t59 => VR.ok t59.x).bind fun t61 => VR.ok (t60 - t61)).bind fun t67 => ((((atM v_lplaces_here (0 : Int)).bind fun t62 => VR.ok t62.y).bind fun t63 => (mulM (2 : Int) t63)).bind fun t65 => ((atM v_lthree (0 : Int)).bind fun t64 => VR.ok t64.y).bind fun t66 => VR.ok (t65 - t66)).bind fun t68 => VR.ok (t67, t68)).bind fun t69 => VR.ok (t69, (1 : Int))).bind fun t121 => (appM v_lpoints t121).bind fun (v_lpoints : (List ((Int × Int) × Int))) => ((((((atM v_lthree (1 : Int)).bind fun t70 => VR.ok t70.x).bind fun t71 => (mulM (2 : Int) t71)).bind fun t73 => ((atM v_lthree (0 : Int)).bind fun t72 => VR.ok t72.x).bind fun t74 => VR.ok (t73 - t74)).bind fun t80 => ((((atM v_lthree (1 : Int)).bind fun t75 => VR.ok t75.y).bind fun t76 => (mulM (2 : Int) t76)).bind fun t78 => ((atM v_lthree (0 : Int)).bind fun t77 => VR.ok t77.y).bind fun t79 => VR.ok (t78 - t79)).bind fun t81 => VR.ok (t80, t81)).bind fun t82 => VR.ok (t82, (1 : Int))).bind fun t120 => (appM v_lpoints t120).bind fun (v_lpoints : (List ((Int × Int) × Int))) => (((rngM 0 (3 : Int)).bind fun t87 => (compM (fun (x83 : Int) => (VR.ok true)) (fun (x83 : Int) => ((atM v_lshares x83).bind fun t85 => ((atM v_lthree x83).bind fun t84 => VR.ok t84.x).bind fun t86 => (mulM t85 t86))) t87)).bind fun t88 => VR.ok t88.sum).bind fun (v_lx : Int) => (((((rngM 0 (3 : Int)).bind fun t93 => (compM (fun (x89 : Int) => (VR.ok true)) (fun (x89 : Int) => ((atM v_lshares x89).bind fun t91 => ((atM v_lthree x89).bind fun t90 => VR.ok t90.y).bind fun t92 => (mulM t91 t92))) t93)).bind fun t94 => VR.ok t94.sum).bind fun t95 => VR.ok (v_lx, t95)).bind fun t96 => VR.ok (t96, v_lshares.sum)).bind fun t119 => (appM v_lpoints t119).bind fun (v_lpoints : (List ((Int × Int) × Int))) => (forF v_lpoints () (fun (x107 : ((Int × Int) × Int)) (s97 : Unit) => ((forF v_lplaces_here () (fun (x115 : P) (s108 : Unit) => (((((toP x107.1).bind fun t116 => (g_law_asked s12 t116 x107.2 x115)).bind fun t117 => VR.ok (!t117)).bind fun t118 => if t118 = true then (VR.ok (Fl.rt false)) else (VR.ok (Fl.nx ()))) : VR (Fl (Unit) Bool)))).bind (Fl.elim (fun (s108 : Unit) => VR.ok (Fl.nx ())) (fun (a : Bool) => VR.ok (Fl.rt a))) : VR (Fl (Unit) Bool)))).bind (Fl.elim (fun (s97 : Unit) => (VR.ok true)) (fun (a : Bool) => VR.ok a))))) _
  refine rb_set_o (by rfl) (ev_b1 (bSorted (by decide)) (ev_c2 (law_places_rf (n + 4)) (ev_var (a := v_lscript) rfl) (ev_bin oAdd ev_int (ev_bin oMod (ev_c2 (law_at_rf (n + 5)) (ev_var (a := v_lscript) rfl) ev_int) ev_int)))) ?_
  intro v_lplaces_here
  refine rb_set_f (ev_b1 bLen (ev_var (a := v_lplaces_here) rfl)) ?_
  intro v_lmany
  refine rb_if (ev_cmp oLt (ev_var (a := v_lmany) rfl) ev_int) ?_ ?_
  · exact rb_ret (fun _ => w_n) (ev_cmp (oIsN (α := (P × P))) (ev_c3 (shut_rf (n + 1)) (ev_lst (evl_nil (α := (P × P)))) (ev_tup2 (ev_toFr (ev_tup2 ev_int ev_int)) (ev_toFr (ev_tup2 (ev_bin oMod (ev_c2 (law_at_rf (n + 5)) (ev_var (a := v_lscript) rfl) ev_int) (ev_pwr (by decide +kernel))) ev_int))) (ev_toP (ev_tup2 ev_int ev_int))) ev_unit)
  · refine rb_set_o (by rfl) (ev_lst (evl_nil (α := (P × P)))) ?_
    intro v_lsome
    refine rb_for (R := (fun (s12 : (List (P × P))) (en : VEnv) => ∃ o13 o14 o15 o16 o17 o18 o19 o20 o21 o22 o23 o24 : Option (Bool × U), en = [some (false, ec v_lscript), some (true, ec v_lplaces_here), some (false, ec v_lmany), some (true, ec s12), o13, o14, o15, o16, o17, o18, o19, o20, o21, o22, o23, o24])) (fi_new (by rfl) (ev_s11S (ev_var (a := v_lscript) rfl) ev_int ev_int)) ⟨_, _, _, _, _, _, _, _, _, _, _, _, rfl⟩ ?_ ?_
    · rintro x25 s12 en ⟨o13, o14, o15, o16, o17, o18, o19, o20, o21, o22, o23, o24, rfl⟩
      refine ⟨_, rfl, ?_⟩
      refine rb_set_f (ev_bin oMod (ev_var (a := x25) rfl) (ev_var (a := v_lmany) rfl)) ?_
      intro v_lone
      refine rb_set_f (ev_bin oMod (ev_bin oAdd (ev_bin oAdd (ev_var (a := v_lone) rfl) ev_int) (ev_bin oMod (ev_bin oFdiv (ev_var (a := x25) rfl) (ev_var (a := v_lmany) rfl)) (ev_bin oSub (ev_var (a := v_lmany) rfl) ev_int))) (ev_var (a := v_lmany) rfl)) ?_
      intro v_lother
      refine rb_app (l := s12) rfl (ev_tup2 (ev_idx oAt (ev_var (a := v_lplaces_here) rfl) (ev_b2 (bMin2 (by decide)) (ev_var (a := v_lone) rfl) (ev_var (a := v_lother) rfl))) (ev_idx oAt (ev_var (a := v_lplaces_here) rfl) (ev_b2 (bMax2 (by decide)) (ev_var (a := v_lone) rfl) (ev_var (a := v_lother) rfl)))) ?_
      intro v_lsome
      exact rn_nil ⟨_, _, _, _, _, _, _, _, _, _, _, _, rfl⟩
    · rintro s12 en ⟨o13, o14, o15, o16, o17, o18, o19, o20, o21, o22, o23, o24, rfl⟩
      refine rb_set_o (by rfl) (ev_compI (it_rng1 ev_int) (fun (x32 : Int) => ⟨_, rfl, ev_bool, (ev_bin oAdd ev_int (ev_bin oMod (ev_c2 (law_at_rf (n + 5)) (ev_var (a := v_lscript) rfl) (ev_bin oAdd ev_int (ev_var (a := x32) rfl))) (ev_pwr (by decide +kernel))))⟩)) ?_
      intro v_lshares
      refine rb_set_o (by rfl) (ev_lst (evl_cons (ev_idx oAt (ev_var (a := v_lplaces_here) rfl) (ev_bin oMod (ev_c2 (law_at_rf (n + 5)) (ev_var (a := v_lscript) rfl) ev_int) (ev_var (a := v_lmany) rfl))) (evl_cons (ev_idx oAt (ev_var (a := v_lplaces_here) rfl) (ev_bin oMod (ev_c2 (law_at_rf (n + 5)) (ev_var (a := v_lscript) rfl) ev_int) (ev_var (a := v_lmany) rfl))) (evl_cons (ev_idx oAt (ev_var (a := v_lplaces_here) rfl) (ev_neg ev_int)) (evl_nil (α := P)))))) ?_
      intro v_lthree
      refine rb_set_o (by rfl) (ev_compI (it_list (ev_var (a := v_lplaces_here) rfl)) (fun (x45 : P) => ⟨_, rfl, ev_bool, (ev_tup2 (ev_tup2 (ev_px (ev_var (a := x45) rfl)) (ev_py (ev_var (a := x45) rfl))) ev_int)⟩)) ?_
      intro v_lpoints
      refine rb_app (l := v_lpoints) rfl (ev_tup2 (ev_tup2 (ev_bin oAdd (ev_px (ev_idx oAt (ev_var (a := v_lplaces_here) rfl) ev_int)) (ev_px (ev_idx oAt (ev_var (a := v_lplaces_here) rfl) ev_int))) (ev_bin oAdd (ev_py (ev_idx oAt (ev_var (a := v_lplaces_here) rfl) ev_int)) (ev_py (ev_idx oAt (ev_var (a := v_lplaces_here) rfl) ev_int)))) ev_int) ?_
      intro v_lpoints
      refine rb_app (l := v_lpoints) rfl (ev_tup2 (ev_tup2 (ev_bin oSub (ev_bin oMul ev_int (ev_px (ev_idx oAt (ev_var (a := v_lplaces_here) rfl) ev_int))) (ev_px (ev_idx oAt (ev_var (a := v_lthree) rfl) ev_int))) (ev_bin oSub (ev_bin oMul ev_int (ev_py (ev_idx oAt (ev_var (a := v_lplaces_here) rfl) ev_int))) (ev_py (ev_idx oAt (ev_var (a := v_lthree) rfl) ev_int)))) ev_int) ?_
      intro v_lpoints
      refine rb_app (l := v_lpoints) rfl (ev_tup2 (ev_tup2 (ev_bin oSub (ev_bin oMul ev_int (ev_px (ev_idx oAt (ev_var (a := v_lthree) rfl) ev_int))) (ev_px (ev_idx oAt (ev_var (a := v_lthree) rfl) ev_int))) (ev_bin oSub (ev_bin oMul ev_int (ev_py (ev_idx oAt (ev_var (a := v_lthree) rfl) ev_int))) (ev_py (ev_idx oAt (ev_var (a := v_lthree) rfl) ev_int)))) ev_int) ?_
      intro v_lpoints
      refine rb_set_f (ev_b1 bSum (ev_compI (it_rng1 ev_int) (fun (x83 : Int) => ⟨_, rfl, ev_bool, (ev_bin oMul (ev_idx oAt (ev_var (a := v_lshares) rfl) (ev_var (a := x83) rfl)) (ev_px (ev_idx oAt (ev_var (a := v_lthree) rfl) (ev_var (a := x83) rfl))))⟩))) ?_
      intro v_lx
      refine rb_app (l := v_lpoints) rfl (ev_tup2 (ev_tup2 (ev_var (a := v_lx) rfl) (ev_b1 bSum (ev_compI (it_rng1 ev_int) (fun (x89 : Int) => ⟨_, rfl, ev_bool, (ev_bin oMul (ev_idx oAt (ev_var (a := v_lshares) rfl) (ev_var (a := x89) rfl)) (ev_py (ev_idx oAt (ev_var (a := v_lthree) rfl) (ev_var (a := x89) rfl))))⟩)))) (ev_b1 bSum (ev_var (a := v_lshares) rfl))) ?_
      intro v_lpoints
      refine rb_forF (w := false) (R := (fun (s97 : Unit) (en : VEnv) => ∃ o99 o100 o101 o102 o103 o104 o105 o106 : Option (Bool × U), ∃ w98 : Bool, en = [some (false, ec v_lscript), some (w98, ec v_lplaces_here), some (false, ec v_lmany), some (true, ec s12), o99, some (true, ec v_lshares), some (true, ec v_lthree), some (false, ec v_lpoints), some (false, ec v_lx), o100, o101, o102, o103, o104, o105, o106])) (kn := fun (s97 : Unit) => _) (j := fun (a : Bool) => a) dr_j (fi_old (by rfl) (ev_var (a := v_lpoints) rfl)) ⟨_, _, _, _, _, _, _, _, _, rfl⟩ ?_ ?_
      · rintro x107 s97 en ⟨o99, o100, o101, o102, o103, o104, o105, o106, w98, rfl⟩
        refine ⟨_, rfl, ?_⟩
        refine rb_forF (w := false) (R := (fun (s108 : Unit) (en : VEnv) => ∃ o109 o110 o111 o112 o113 o114 : Option (Bool × U), en = [some (false, ec v_lscript), some (false, ec v_lplaces_here), some (false, ec v_lmany), some (true, ec s12), o109, some (true, ec v_lshares), some (true, ec v_lthree), some (false, ec v_lpoints), some (false, ec v_lx), o110, o111, some (false, ec x107.1), some (false, ec x107.2), o112, o113, o114])) (kn := fun (s108 : Unit) => _) (j := fun (a : Bool) => Fl.rt a) dl_j (fi_old (by rfl) (ev_var (a := v_lplaces_here) rfl)) ⟨_, _, _, _, _, _, rfl⟩ ?_ ?_
        · rintro x115 s108 en ⟨o109, o110, o111, o112, o113, o114, rfl⟩
          refine ⟨_, rfl, ?_⟩
          refine rb_if (ev_not (ev_c4 (law_asked_rf (n + 0)) (ev_var (a := s12) rfl) (ev_toP (ev_var (a := x107.1) rfl)) (ev_var (a := x107.2) rfl) (ev_var (a := x115) rfl))) ?_ ?_
          · exact rl_ret (fun _ => w_n) ev_bool
          · exact rl_nil ⟨_, _, _, _, _, _, rfl⟩
        · rintro s108 en ⟨o109, o110, o111, o112, o113, o114, rfl⟩
          exact rl_nil ⟨_, _, _, _, _, _, _, _, _, rfl⟩
      · rintro s97 en ⟨o99, o100, o101, o102, o103, o104, o105, o106, w98, rfl⟩
        exact rb_ret (fun _ => w_n) ev_bool
theorem g_less_eq (p q : Fr 10000) : g_less p q = .ok (decide (p.n * q.d < q.n * p.d)) := by
  unfold g_less
  simp (disch := omega) only [mulM_ok, ok_bind]

theorem ptF_eq (p : P) : (mkFr p.x 1).n = p.x ∧ (mkFr p.x 1).d = 1 ∧ (mkFr p.y 1).n = p.y ∧ (mkFr p.y 1).d = 1 := by
  have h1 : Sz 10000 (1 : Int) := Sz.up (n := 1) ⟨by decide⟩ (by decide)
  have a := mkFr_eq (n := p.x) (d := 1) (p.hx.up (by decide)) h1
  have b := mkFr_eq (n := p.y) (d := 1) (p.hy.up (by decide)) h1
  exact ⟨a.1, a.2, b.1, b.2⟩
theorem g_point_of_eq (p : P) : g_point_of p = .ok (mkFr p.x 1, mkFr p.y 1) := by
  unfold g_point_of
  have h1 : Sz 10000 (1 : Int) := Sz.up (n := 1) ⟨by decide⟩ (by decide)
  rw [toFr_ok (p.hx.up (by decide)) h1, ok_bind, toFr_ok (p.hy.up (by decide)) h1, ok_bind]

theorem g_twice_eq (a b c : P) : g_twice a b c = .ok (tP a b c) := by
  unfold g_twice; simp (disch := omega) only [mulM_ok, ok_bind]

theorem g_sign_of_eq (x : Int) : g_sign_of x = .ok (sg x) := by
  unfold g_sign_of sg
  simp only [decide_eq_true_eq]
  split
  · rfl
  · split <;> rfl

theorem g_turn_eq (a b c : P) : g_turn a b c = .ok (sg (tP a b c)) := by
  unfold g_turn; rw [g_twice_eq, ok_bind, g_sign_of_eq]

theorem g_side_of_eq (a b : P) (X : XP) : g_side_of a b X = .ok (sg (hX a b X)) := by
  unfold g_side_of
  simp (disch := omega) only [mulM_ok, ok_bind, g_sign_of_eq]

theorem g_comes_eq (X : XP) (p : P) : g_comes X p = .ok (comV X.1.n X.1.d X.2.n X.2.d p.x p.y) := by
  unfold g_comes comV
  obtain ⟨e1, e2, e3, e4⟩ := ptF_eq p
  rw [g_point_of_eq, ok_bind, ok_bind]
  simp only [forF_cons, forF_nil, g_less_eq, ok_bind, e1, e2, e3, e4, decide_eq_true_eq]
  by_cases h1 : X.1.n * 1 < p.x * X.1.d
  · simp only [h1, if_true, ok_bind, elim_rt]
  · by_cases h2 : p.x * X.1.d < X.1.n * 1
    · simp only [h1, h2, if_true, if_false, ok_bind, elim_rt]
    · by_cases h3 : X.2.n * 1 < p.y * X.2.d
      · simp only [h1, h2, h3, if_true, if_false, ok_bind, elim_rt]
      · by_cases h4 : p.y * X.2.d < X.2.n * 1
        · simp only [h1, h2, h3, h4, if_true, if_false, ok_bind, elim_rt]
        · simp only [h1, h2, h3, h4, if_true, if_false, ok_bind, elim_nx]

abbrev iolX (s : P × P) (X : XP) (d : P) : Prop := iolP s.1.x s.1.y s.2.x s.2.y X.1.n X.1.d X.2.n X.2.d d.x d.y
theorem g_in_one_line_eq (s : P × P) (X : XP) (d : P) : g_in_one_line s X d = .ok (decide (iolX s X d)) := by
  unfold g_in_one_line
  simp only [g_comes_eq, ok_bind, ltP_dec, decide_eq_true_eq]
  have k : ∀ {p : Prop} [Decidable p] {b : Bool}, (b = true ↔ p) → VR.ok b = .ok (decide p) := fun {p} _ {b} h => by congr 1; rw [Bool.eq_iff_iff, h, decide_eq_true_eq]
  have un : iolX s X d ↔ (0 < comV X.1.n X.1.d X.2.n X.2.d d.x d.y ∧ lP d s.2 ∧ 0 ≤ comV X.1.n X.1.d X.2.n X.2.d s.1.x s.1.y) ∨ (comV X.1.n X.1.d X.2.n X.2.d d.x d.y < 0 ∧ lP s.1 d ∧ comV X.1.n X.1.d X.2.n X.2.d s.2.x s.2.y ≤ 0) := Iff.rfl
  by_cases h1 : 0 < comV X.1.n X.1.d X.2.n X.2.d d.x d.y
  · rw [if_pos h1]
    by_cases h2 : lP d s.2
    · rw [if_pos h2]
      refine k ?_
      rw [decide_eq_true_eq, un]
      exact ⟨fun z => .inl ⟨h1, h2, z⟩, fun z => by rcases z with z | z; exact z.2.2; omega⟩
    · rw [if_neg h2]
      exact k ⟨fun z => absurd z (by decide), fun z => by rw [un] at z; rcases z with z | z; exact absurd z.2.1 h2; omega⟩
  · rw [if_neg h1]
    by_cases h3 : comV X.1.n X.1.d X.2.n X.2.d d.x d.y < 0
    · rw [if_pos h3]
      by_cases h2 : lP s.1 d
      · rw [if_pos h2]
        refine k ?_
        rw [decide_eq_true_eq, un]
        exact ⟨fun z => .inr ⟨h3, h2, z⟩, fun z => by rcases z with z | z; omega; exact z.2.2⟩
      · rw [if_neg h2]
        exact k ⟨fun z => absurd z (by decide), fun z => by rw [un] at z; rcases z with z | z; omega; exact absurd z.2.1 h2⟩
    · rw [if_neg h3]
      exact k ⟨fun z => absurd z (by decide), fun z => by rw [un] at z; rcases z with z | z <;> omega⟩

abbrev baX (s : P × P) (X : XP) (d : P) : Prop := baP s.1.x s.1.y s.2.x s.2.y X.1.n X.1.d X.2.n X.2.d d.x d.y
theorem g_bars_eq (s : P × P) (X : XP) (d : P) : g_bars s X d = .ok (decide (baX s X d)) := by
  unfold g_bars
  rw [ok_bind, g_side_of_eq, ok_bind, g_turn_eq, ok_bind]
  have k : ∀ {p : Prop} [Decidable p] {b : Bool}, (b = true ↔ p) → VR.ok b = .ok (decide p) := fun {p} _ {b} h => by congr 1; rw [Bool.eq_iff_iff, h, decide_eq_true_eq]
  have un : baX s X d ↔ (sg (tP s.1 s.2 d) = 0 ∧ sg (hX s.1 s.2 X) = 0 ∧ iolX s X d) ∨ (¬ sg (tP s.1 s.2 d) = 0 ∧ sg (hX s.1 s.2 X) * sg (tP s.1 s.2 d) ≤ 0 ∧ sg (hX s.1 d X) * sg (hX s.2 d X) ≤ 0) := Iff.rfl
  by_cases h1 : sg (tP s.1 s.2 d) = 0
  · rw [if_pos (decide_eq_true h1)]
    by_cases h2 : sg (hX s.1 s.2 X) = 0
    · rw [if_pos (decide_eq_true h2), g_in_one_line_eq]
      refine k ?_
      rw [decide_eq_true_eq, un]
      exact ⟨fun z => .inl ⟨h1, h2, z⟩, fun z => by rcases z with z | z; exact z.2.2; exact absurd h1 z.1⟩
    · rw [if_neg (by simpa using h2)]
      exact k ⟨fun z => absurd z (by decide), fun z => by rw [un] at z; rcases z with z | z; exact absurd z.2.1 h2; exact absurd h1 z.1⟩
  · rw [if_neg (by simpa using h1)]
    simp (disch := decide) only [mulM_ok (n := 1) (m := 1), ok_bind, g_side_of_eq, decide_eq_true_eq]
    by_cases h2 : sg (hX s.1 s.2 X) * sg (tP s.1 s.2 d) ≤ 0
    · rw [if_pos h2]
      refine k ?_
      rw [decide_eq_true_eq, un]
      exact ⟨fun z => .inr ⟨h1, h2, z⟩, fun z => by rcases z with z | z; exact absurd z.1 h1; exact z.2.2⟩
    · rw [if_neg h2]
      exact k ⟨fun z => absurd z (by decide), fun z => by rw [un] at z; rcases z with z | z; exact absurd z.1 h1; exact absurd z.2.1 h2⟩

theorem g_shut_eq (l : List (P × P)) (X : XP) (d : P) : g_shut l X d = .ok (l.find? fun s => decide (baX s X d)) := by
  unfold g_shut
  rw [forF_find (fun s => decide (baX s X d)) some fun s _ => by rw [g_bars_eq, ok_bind]; split <;> rfl, ok_bind]
  cases l.find? fun s => decide (baX s X d) <;> rfl

theorem law_at_ok {s : Scr} (hs : Small s) {k : Int} (h0 : 0 ≤ k) (h1 : k ≤ 1000) : Ok (g_law_at s k) Big := by
  unfold g_law_at
  have hl := hs.len
  rw [cut_mid h0 (by omega), catM_ok (by rw [List.length_drop, List.length_take]; simp only [List.length_cons, List.length_nil]; omega), ok_bind]
  obtain ⟨a, e1, e2⟩ := atM_get (l := (s.ns.take (k + 1).toNat).drop k.toNat ++ [(0 : Int)]) (i := 0) (by omega) (by rw [List.length_append]; simp only [List.length_cons, List.length_nil]; omega)
  refine ⟨a, e2, ?_⟩
  rcases List.mem_append.mp (List.mem_of_getElem? e1) with z | z
  · exact (hs.bits a (List.mem_of_mem_take (List.mem_of_mem_drop z))).big
  · have : a = 0 := by simpa using z
    rw [this]; exact sz_0.up (by decide)

theorem spot_fin {n m : Nat} {x y : Int} [a : Sz n x] [b : Sz m y] (h : n ≤ 400) (k : m ≤ 400) : ∃ p : P, VR.ok (mkP x y) = .ok p ∧ Sz 400 p.x ∧ Sz 400 p.y := by
  obtain ⟨e1, e2⟩ := mkP_x (x := x) (y := y) (n := n) (m := m) (by omega) (by omega)
  exact ⟨_, rfl, by rw [e1]; exact a.up h, by rw [e2]; exact b.up k⟩
theorem law_spot8_ok {kind cell head : Int} (h0 : 0 ≤ kind) (h1 : kind < 8) [Big cell] [Big head] : ∃ p, g_law_spot kind cell head = .ok p ∧ Sz 400 p.x ∧ Sz 400 p.y := by
  unfold g_law_spot
  have : Sz 8 kind := ⟨by omega⟩
  have kd : ∃ j : Int, (if (decide ((5 : Int) < kind)) = true then ((((mulM (2 : Int) (kind - (6 : Int))).bind fun t7 => ((fdivM cell (16 : Int)).bind fun t6 => (modM t6 (2 : Int))).bind fun t8 => VR.ok (t7 + t8)).bind fun t9 => (atM [(0 : Int), (3 : Int), (0 : Int), (5 : Int)] t9)).bind fun (v_lkind : Int) => VR.ok v_lkind) else (VR.ok kind)) = .ok j := by
    by_cases c : 5 < kind
    · rw [if_pos (decide_eq_true c)]
      simp (disch := omega) only [modM_p, ok_bind, mulM_ok, fdivM_p]
      rw [pick_ok (by omega) (by simp only [List.length_cons, List.length_nil]; omega) (by decide), ok_bind]
      exact ⟨_, rfl⟩
    · rw [if_neg (by simpa using c)]; exact ⟨_, rfl⟩
  obtain ⟨j, e⟩ := kd
  rw [e, ok_bind]
  have five : ∃ q : Int × Int, (catM [((5 : Int), (0 : Int)), ((4 : Int), (3 : Int)), ((3 : Int), (4 : Int)), ((0 : Int), (5 : Int)), ((-(3 : Int)), (4 : Int)), ((-(4 : Int)), (3 : Int)), ((-(5 : Int)), (0 : Int))] [((-(4 : Int)), (-(3 : Int))), ((-(3 : Int)), (-(4 : Int))), ((0 : Int), (-(5 : Int))), ((3 : Int), (-(4 : Int))), ((4 : Int), (-(3 : Int))), ((0 : Int), (0 : Int))]).bind (fun v => (modM cell 13).bind fun t => atM v t) = .ok q ∧ Sz 10 q.1 ∧ Sz 10 q.2 := by
    rw [catM_ok (by simp), ok_bind, modM_p, ok_bind]
    obtain ⟨q, e1, e2⟩ := atM_get (l := [((5 : Int), (0 : Int)), ((4 : Int), (3 : Int)), ((3 : Int), (4 : Int)), ((0 : Int), (5 : Int)), ((-(3 : Int)), (4 : Int)), ((-(4 : Int)), (3 : Int)), ((-(5 : Int)), (0 : Int))] ++ [((-(4 : Int)), (-(3 : Int))), ((-(3 : Int)), (-(4 : Int))), ((0 : Int), (-(5 : Int))), ((3 : Int), (-(4 : Int))), ((4 : Int), (-(3 : Int))), ((0 : Int), (0 : Int))]) (i := cell % 13) (by omega) (by simp only [List.length_append, List.length_cons, List.length_nil]; omega)
    have al : ([((5 : Int), (0 : Int)), ((4 : Int), (3 : Int)), ((3 : Int), (4 : Int)), ((0 : Int), (5 : Int)), ((-(3 : Int)), (4 : Int)), ((-(4 : Int)), (3 : Int)), ((-(5 : Int)), (0 : Int))] ++ [((-(4 : Int)), (-(3 : Int))), ((-(3 : Int)), (-(4 : Int))), ((0 : Int), (-(5 : Int))), ((3 : Int), (-(4 : Int))), ((4 : Int), (-(3 : Int))), ((0 : Int), (0 : Int))]).all (fun q => decide (q.1.natAbs < 2 ^ 10) && decide (q.2.natAbs < 2 ^ 10)) = true := by decide
    have := List.all_eq_true.mp al q (List.mem_of_getElem? e1)
    rw [Bool.and_eq_true, decide_eq_true_eq, decide_eq_true_eq] at this
    exact ⟨q, e2, ⟨this.1⟩, ⟨this.2⟩⟩
  obtain ⟨q, e5, s1, s2⟩ := five
  simp (disch := omega) only [modM_p, ok_bind, mulM_ok, fdivM_p, decide_eq_true_eq, toP_ok]
  simp (disch := omega) only [modM_p, ok_bind, mulM_ok, fdivM_p, decide_eq_true_eq, toP_ok] at e5
  split
  · exact spot_fin (by decide) (by decide)
  split
  · obtain ⟨w, e6, e7⟩ : ∃ w, catM [((5 : Int), (0 : Int)), ((4 : Int), (3 : Int)), ((3 : Int), (4 : Int)), ((0 : Int), (5 : Int)), ((-(3 : Int)), (4 : Int)), ((-(4 : Int)), (3 : Int)), ((-(5 : Int)), (0 : Int))] [((-(4 : Int)), (-(3 : Int))), ((-(3 : Int)), (-(4 : Int))), ((0 : Int), (-(5 : Int))), ((3 : Int), (-(4 : Int))), ((4 : Int), (-(3 : Int))), ((0 : Int), (0 : Int))] = .ok w ∧ atM w (cell % 13) = .ok q := by
      rw [catM_ok (by simp)] at e5 ⊢
      exact ⟨_, rfl, e5⟩
    rw [e6, ok_bind, e7]
    simp (disch := omega) only [modM_p, ok_bind, mulM_ok, fdivM_p, decide_eq_true_eq, toP_ok]
    exact spot_fin (by decide) (by decide)
  split
  · exact spot_fin (by decide) (by decide)
  split
  · exact spot_fin (by decide) (by decide)
  split
  · exact spot_fin (by decide) (by decide)
  · exact spot_fin (by decide) (by decide)

theorem law_places8_ok {s : Scr} (hs : Small s) {m : Int} (h0 : 0 ≤ m) (h1 : m ≤ 50) : Ok (g_law_places s m) fun ps => ps.Nodup ∧ ps.length ≤ m.toNat ∧ ∀ p ∈ ps, Sz 400 p.x ∧ Sz 400 p.y := by
  unfold g_law_places
  have hl := hs.len
  rw [ok_bind, cut_mid (by omega) (by omega)]
  refine Ok.bind (Q := fun l : List P => l.Nodup ∧ l.length ≤ ((s.ns.take (3 + m).toNat).drop (3 : Int).toNat).length ∧ ∀ p ∈ l, Sz 400 p.x ∧ Sz 400 p.y) ?_ fun ps q => Ok.ok ⟨q.1, by have := q.2.1; rw [List.length_drop, List.length_take] at this; omega, q.2.2⟩
  refine forM_Ok (fun j (l : List P) => l.Nodup ∧ l.length ≤ j ∧ ∀ p ∈ l, Sz 400 p.x ∧ Sz 400 p.y) ⟨List.nodup_nil, Nat.le_refl 0, fun p hp => absurd hp List.not_mem_nil⟩ fun i x l hx hl' => ?_
  have := hs.bits x (List.mem_of_mem_take (List.mem_of_mem_drop (List.mem_of_getElem? hx)))
  have hb : Big x := this.big
  have hi := (List.getElem?_eq_some_iff.mp hx).1
  rw [List.length_drop, List.length_take] at hi
  obtain ⟨a, e1, _⟩ := law_at_ok hs (k := 0) (by omega) (by omega)
  obtain ⟨b, e2, _⟩ := law_at_ok hs (k := 2) (by omega) (by omega)
  rw [e1, ok_bind, modM_p, ok_bind, e2, ok_bind]
  obtain ⟨p, e3, p1, p2⟩ := law_spot8_ok (kind := a % 8) (cell := x) (head := b) (by omega) (by omega)
  rw [e3, ok_bind]
  by_cases q : p ∈ l
  · rw [if_neg (by simpa using q)]
    exact Ok.ok ⟨hl'.1, by omega, hl'.2.2⟩
  · rw [if_pos (by simpa using q), appM_ok (by omega), ok_bind]
    refine Ok.ok ⟨List.nodup_append.mpr ⟨hl'.1, by simp, fun a ha b hb => by simp at hb; subst hb; exact fun z => q (z ▸ ha)⟩, by rw [List.length_append, List.length_singleton]; omega, fun z hz => ?_⟩
    rcases List.mem_append.mp hz with hz | hz
    · exact hl'.2.2 z hz
    · have : z = p := by simpa using hz
      subst this; exact ⟨p1, p2⟩

theorem g_law_int_eq (x : Int) : g_law_int x = .ok true := by unfold g_law_int; rfl

theorem g_law_places_of_eq (s : P × P) : g_law_places_of s 2 = .ok true := by
  unfold g_law_places_of
  rw [if_neg (by decide)]
  simp only [forF_cons, forF_nil, g_law_int_eq, ok_bind]
  rfl

theorem g_law_cross_eq (p q a b : P) : g_law_cross p q a b = .ok (crV p.x p.y q.x q.y a.x a.y b.x b.y) := by
  unfold g_law_cross
  simp (disch := omega) only [mulM_ok, ok_bind]
  rfl

abbrev laX (s : P × P) (x d : P) : Prop := laP s.1.x s.1.y s.2.x s.2.y x.x x.y d.x d.y
theorem g_law_bars_eq (s : P × P) (x d : P) : g_law_bars s x d = .ok (decide (laX s x d)) := by
  unfold g_law_bars
  rw [ok_bind]
  simp only [g_law_cross_eq, ok_bind, ltP_dec, decide_eq_true_eq]
  have k : ∀ {p : Prop} [Decidable p] {b : Bool}, (b = true ↔ p) → VR.ok b = .ok (decide p) := fun {p} _ {b} h => by congr 1; rw [Bool.eq_iff_iff, h, decide_eq_true_eq]
  have un : laX s x d ↔ (crV s.1.x s.1.y s.2.x s.2.y x.x x.y d.x d.y = 0 ∧ ¬ (x.x = d.x ∧ x.y = d.y) ∧ crV s.1.x s.1.y s.2.x s.2.y s.1.x s.1.y x.x x.y = 0 ∧ ((lP x d ∧ lP s.1 d ∧ ¬ lP s.2 x) ∨ (¬ lP x d ∧ lP d s.2 ∧ ¬ lP x s.1))) ∨
      (0 < crV s.1.x s.1.y s.2.x s.2.y x.x x.y d.x d.y ∧ 0 ≤ crV s.1.x s.1.y x.x x.y x.x x.y d.x d.y ∧ crV s.1.x s.1.y x.x x.y x.x x.y d.x d.y ≤ crV s.1.x s.1.y s.2.x s.2.y x.x x.y d.x d.y ∧ 0 ≤ crV s.1.x s.1.y x.x x.y s.1.x s.1.y s.2.x s.2.y ∧ crV s.1.x s.1.y x.x x.y s.1.x s.1.y s.2.x s.2.y < crV s.1.x s.1.y s.2.x s.2.y x.x x.y d.x d.y) ∨
      (crV s.1.x s.1.y s.2.x s.2.y x.x x.y d.x d.y < 0 ∧ 0 ≤ -crV s.1.x s.1.y x.x x.y x.x x.y d.x d.y ∧ -crV s.1.x s.1.y x.x x.y x.x x.y d.x d.y ≤ -crV s.1.x s.1.y s.2.x s.2.y x.x x.y d.x d.y ∧ 0 ≤ -crV s.1.x s.1.y x.x x.y s.1.x s.1.y s.2.x s.2.y ∧ -crV s.1.x s.1.y x.x x.y s.1.x s.1.y s.2.x s.2.y < -crV s.1.x s.1.y s.2.x s.2.y x.x x.y d.x d.y) := Iff.rfl
  rw [← P.ext_iff_] at un
  generalize crV s.1.x s.1.y s.2.x s.2.y x.x x.y d.x d.y = w at *
  generalize crV s.1.x s.1.y s.2.x s.2.y s.1.x s.1.y x.x x.y = st at *
  generalize crV s.1.x s.1.y x.x x.y x.x x.y d.x d.y = he at *
  generalize crV s.1.x s.1.y x.x x.y s.1.x s.1.y s.2.x s.2.y = th at *
  by_cases w0 : w = 0
  · rw [if_pos w0]
    by_cases h1 : x = d
    · rw [if_pos h1, ok_bind, if_pos rfl]
      exact k ⟨fun z => absurd z (by decide), fun z => by rw [un] at z; rcases z with z | z | z; exact absurd h1 z.2.1; omega; omega⟩
    · rw [if_neg h1]
      by_cases h2 : st = 0
      · rw [ok_bind, if_neg (by simp [h2])]
        by_cases h3 : lP x d
        · rw [if_pos h3]
          refine k ?_
          rw [un, Bool.and_eq_true, decide_eq_true_eq, bang_eq, decide_eq_true_eq]
          exact ⟨fun z => .inl ⟨w0, h1, h2, .inl ⟨h3, z.1, z.2⟩⟩, fun z => by
            rcases z with ⟨_, _, _, z | z⟩ | z | z
            · exact ⟨z.2.1, z.2.2⟩
            · exact absurd h3 z.1
            · omega
            · omega⟩
        · rw [if_neg h3]
          refine k ?_
          rw [un, Bool.and_eq_true, decide_eq_true_eq, bang_eq, decide_eq_true_eq]
          exact ⟨fun z => .inl ⟨w0, h1, h2, .inr ⟨h3, z.1, z.2⟩⟩, fun z => by
            rcases z with ⟨_, _, _, z | z⟩ | z | z
            · exact absurd z.1 h3
            · exact ⟨z.2.1, z.2.2⟩
            · omega
            · omega⟩
      · rw [ok_bind, if_pos (by simp [h2])]
        exact k ⟨fun z => absurd z (by decide), fun z => by rw [un] at z; rcases z with z | z | z; exact absurd z.2.2.1 h2; omega; omega⟩
  · rw [if_neg w0]
    by_cases h1 : w < 0
    · rw [if_pos h1, ok_bind]
      refine k ?_
      rw [un]
      simp only [Bool.and_eq_true, decide_eq_true_eq]
      omega
    · rw [if_neg h1, ok_bind]
      refine k ?_
      rw [un]
      simp only [Bool.and_eq_true, decide_eq_true_eq]
      omega

noncomputable def growP (w : Int) (p : P) : P := mkP (p.x * w) (p.y * w)
theorem growP_xy {w : Int} (hw : Sz 40 w) {p : P} (h : Sz 400 p.x ∧ Sz 400 p.y) : (growP w p).x = p.x * w ∧ (growP w p).y = p.y * w := by
  obtain ⟨_, _⟩ := h
  exact mkP_x (n := 440) (m := 440) (by decide) (by decide)
theorem grow_toP {w : Int} (hw : Sz 40 w) {p : P} (h : Sz 400 p.x ∧ Sz 400 p.y) : toP (p.x * w, p.y * w) = .ok (growP w p) := by
  obtain ⟨_, _⟩ := h
  exact toP_ok (n := 440) (m := 440) (by decide) (by decide)
theorem g_law_grown_eq {some_ : List (P × P)} {w : Int} (hw : Sz 40 w) (hl : some_.length ≤ 1000) (h : ∀ s ∈ some_, (Sz 400 s.1.x ∧ Sz 400 s.1.y) ∧ (Sz 400 s.2.x ∧ Sz 400 s.2.y)) : g_law_grown some_ w = .ok (some_.map fun s => (growP w s.1, growP w s.2)) := by
  unfold g_law_grown
  refine compM_map _ (by omega) fun s hs => ?_
  obtain ⟨a, b⟩ := h s hs
  have e : compM (fun x2 : P => VR.ok true) (fun x2 : P => ((mulM x2.x w).bind fun t3 => (mulM x2.y w).bind fun t4 => VR.ok (t3, t4)).bind toP) [s.1, s.2] = .ok [growP w s.1, growP w s.2] := by
    have one : ∀ p : P, Sz 400 p.x ∧ Sz 400 p.y → (((mulM p.x w).bind fun t3 => (mulM p.y w).bind fun t4 => VR.ok (t3, t4)).bind toP) = .ok (growP w p) := fun p hp => by
      rw [mulM_ok (n := 1000) (m := 40) (by decide), ok_bind, mulM_ok (n := 1000) (m := 40) (by decide), ok_bind, ok_bind, grow_toP hw hp]
    unfold compM
    rw [if_pos (Nat.le_of_lt (small_sz (by simp)))]
    unfold compG compG compG
    simp only [ok_bind, if_true, one s.1 a, one s.2 b]
    rfl
  rw [e, ok_bind]
  rfl

theorem g_law_first_bar_eq {some_ : List (P × P)} {x d : P} {w : Int} (hw : Sz 40 w) (hl : some_.length ≤ 1000) (h : ∀ s ∈ some_, (Sz 400 s.1.x ∧ Sz 400 s.1.y) ∧ (Sz 400 s.2.x ∧ Sz 400 s.2.y)) (hd : Sz 400 d.x ∧ Sz 400 d.y) :
    g_law_first_bar some_ x w d = .ok (some_.find? fun s => decide (laX (growP w s.1, growP w s.2) x (growP w d))) := by
  unfold g_law_first_bar
  rw [g_law_grown_eq hw hl h, ok_bind, rngM_ok (by omega), ok_bind]
  have e : ∀ k ∈ rngL 0 (some_.length : Int), ((((atM (some_.map fun s => (growP w s.1, growP w s.2)) k).bind fun t6 => (((mulM d.x w).bind fun t4 => (mulM d.y w).bind fun t5 => VR.ok (t4, t5)).bind toP).bind fun t7 => (g_law_bars t6 x t7)).bind fun t10 => if t10 = true then (((atM some_ k).bind fun t8 => VR.ok (some t8)).bind fun t9 => VR.ok (Fl.rt t9)) else (VR.ok (Fl.nx ()))) : VR (Fl Unit (Option (P × P)))) = .ok (if decide (laX (growP w (some_.getD k.toNat (P0, P0)).1, growP w (some_.getD k.toNat (P0, P0)).2) x (growP w d)) = true then .rt (some (some_.getD k.toNat (P0, P0))) else .nx ()) := fun k hk => by
    obtain ⟨k0, k1⟩ := mem_rngL.mp hk
    have gk := get_getD (l := some_) (a := (P0, P0)) (n := k.toNat) (by omega)
    obtain ⟨s, s1, s2⟩ := atM_get (l := some_.map fun s => (growP w s.1, growP w s.2)) (i := k) k0 (by rw [List.length_map]; exact k1)
    rw [List.getElem?_map, gk] at s1
    have s1 : (growP w (some_.getD k.toNat (P0, P0)).1, growP w (some_.getD k.toNat (P0, P0)).2) = s := Option.some.inj s1
    rw [s2, ok_bind, mulM_ok (n := 1000) (m := 40) (by decide), ok_bind, mulM_ok (n := 1000) (m := 40) (by decide), ok_bind, ok_bind, grow_toP hw hd, ok_bind, g_law_bars_eq, ok_bind, ← s1, atM_getD (a := (P0, P0)) k0 k1]
    split <;> rfl
  rw [forF_find (fun k : Int => decide (laX (growP w (some_.getD k.toNat (P0, P0)).1, growP w (some_.getD k.toNat (P0, P0)).2) x (growP w d))) (fun k => some (some_.getD k.toNat (P0, P0))) e, ok_bind]
  have m : some_ = (rngL 0 (some_.length : Int)).map fun k => some_.getD k.toNat (P0, P0) := by
    have := congrArg (List.map Prod.snd) (enmL_rng (l := some_) (a := (P0, P0)))
    rw [List.map_map] at this
    have e2 : ∀ (l : List (P × P)) (n : Nat), (enmL n l).map Prod.snd = l := fun l => by
      induction l with
      | nil => intro n; rfl
      | cons a l ih => intro n; rw [enmL, List.map_cons, ih]
    rw [e2] at this
    exact this
  have fm : some_.find? (fun s => decide (laX (growP w s.1, growP w s.2) x (growP w d))) = ((rngL 0 (some_.length : Int)).find? fun k => decide (laX (growP w (some_.getD k.toNat (P0, P0)).1, growP w (some_.getD k.toNat (P0, P0)).2) x (growP w d))).map fun k => some_.getD k.toNat (P0, P0) := by
    conv => lhs; rw [m]
    rw [List.find?_map]
    rfl
  rw [fm]
  cases (rngL 0 (some_.length : Int)).find? fun k => decide (laX (growP w (some_.getD k.toNat (P0, P0)).1, growP w (some_.getD k.toNat (P0, P0)).2) x (growP w d)) <;> rfl

theorem modM_nz {x y : Int} (h : y ≠ 0) : modM x y = .ok (x.fmod y) := by unfold modM; rw [if_pos h]
theorem gcd_fmod (x y : Int) : Int.gcd y (x.fmod y) = Int.gcd x y := by
  rw [Int.fmod_def, Int.gcd_comm]
  have : x - y * x.fdiv y = x + y * (-(x.fdiv y)) := by rw [Int.mul_neg]; omega
  rw [this, Int.gcd_add_mul_left_left]
theorem g_law_lowest_eq {n m : Nat} {t b : Int} [ht : Sz n t] [hb : Sz m b] (hn : n ≤ 9000) (hm : m ≤ 9000) (h : 0 < b) : g_law_lowest t b = .ok (low t b) := by
  unfold g_law_lowest
  rw [ok_bind]
  have w : Ok (whlM fuel (fun (s2 : Int × Int) => (VR.ok (!decide (s2.2 = (0 : Int))))) (fun (s2 : Int × Int) => (((modM s2.1 s2.2).bind fun t4 => VR.ok (s2.2, t4)).bind fun p5 => VR.ok (p5.1, p5.2) : VR (Int × Int))) ((b, t).1, (b, t).2)) fun s => (if s.1 < 0 then -s.1 else s.1) = gc t b := by
    refine Ok.mono (whlM_fuel (fun s : Int × Int => Int.gcd s.1 s.2 = Int.gcd b t) (fun s => s.2.natAbs) (n := n) (by omega) (s := (b, t)) rfl ht.lt fun s hs => ⟨_, rfl, fun hc => ?_⟩) fun s hs => ?_
    · have h2 : s.2 ≠ 0 := by simpa using hc
      refine ⟨(s.2, s.1.fmod s.2), by rw [modM_nz h2, ok_bind, ok_bind], by rw [← hs]; exact gcd_fmod _ _, ?_⟩
      show (s.1.fmod s.2).natAbs < s.2.natAbs
      have e := Int.fmod_eq_emod (a := s.1) (b := s.2)
      have m0 := Int.emod_nonneg s.1 h2
      have m1 := Int.emod_lt s.1 h2
      split at e
      · omega
      · rename_i c
        have c1 : ¬ s.2 ∣ s.1 := fun q => c (.inr q)
        have c2 : s.1 % s.2 ≠ 0 := fun q => c1 (Int.dvd_of_emod_eq_zero q)
        omega
    · have h2 : s.2 = 0 := by
        have := hs.2
        injection this with this
        simpa using this
      have h1 := hs.1
      rw [h2, Int.gcd_zero_right] at h1
      unfold gc
      rw [Int.gcd_comm, ← h1]
      split <;> omega
  obtain ⟨s, e, hs⟩ := w
  rw [e, ok_bind, hs]
  have g := gc_pos (t := t) (b := b) (by omega)
  have sg : Sz m (gc t b) := sz_gcd hb (by omega)
  rw [fdivM_ex (n := m) (by omega) gc_l, ok_bind, fdivM_ex (n := m) (by omega) gc_r, ok_bind, ok_bind]
  rw [toFr_ok ((sz_ediv_le ht).up (by omega)) ((sz_ediv_le hb).up (by omega))]
  unfold low lowN lowD
  rw [if_neg (by omega), if_neg (by omega)]

theorem find_congr {α : Type} {p q : α → Bool} : ∀ {l : List α}, (∀ x ∈ l, p x = q x) → l.find? p = l.find? q
  | [], _ => rfl
  | x :: l, h => by rw [List.find?_cons, List.find?_cons, h x List.mem_cons_self, find_congr fun y hy => h y (List.mem_cons_of_mem _ hy)]
abbrev Sm (p : P) : Prop := Sz 400 p.x ∧ Sz 400 p.y
theorem low_g {n m : Nat} {t b : Int} (ht : Sz n t) (hb : Sz m b) (hn : n ≤ 10000) (hm : m ≤ 10000) (h : 0 < b) : (low t b).n * gc t b = t ∧ (low t b).d * gc t b = b := by
  obtain ⟨e1, e2⟩ := low_nd ht hb hn hm
  rw [e1, e2]
  unfold lowN lowD
  rw [if_neg (by omega), if_neg (by omega)]
  exact ⟨Int.ediv_mul_cancel gc_l, Int.ediv_mul_cancel gc_r⟩
theorem ba_eq {s : P × P} {x d : P} {w : Int} (h0 : 0 < w) (hw : Sz 40 w) (h1 : Sm s.1) (h2 : Sm s.2) (hd : Sm d) : baX s (low x.x w, low x.y w) d ↔ laX (growP w s.1, growP w s.2) x (growP w d) := by
  obtain ⟨a1, a2⟩ := growP_xy hw h1
  obtain ⟨b1, b2⟩ := growP_xy hw h2
  obtain ⟨c1, c2⟩ := growP_xy hw hd
  obtain ⟨g1, g2⟩ := low_g x.hx hw (by decide) (by decide) h0
  obtain ⟨g3, g4⟩ := low_g x.hy hw (by decide) (by decide) h0
  have m : ∀ y : Int, y * w = w * y := fun y => Int.mul_comm _ _
  show _ ↔ laP (growP w s.1).x (growP w s.1).y (growP w s.2).x (growP w s.2).y x.x x.y (growP w d).x (growP w d).y
  rw [a1, a2, b1, b2, c1, c2, m, m, m, m, m, m]
  exact ba_la h0 (gc_pos (by omega)) (gc_pos (by omega)) g1 g2 g3 g4
theorem g_law_asked_ok {some_ : List (P × P)} {x d : P} {w : Int} (h0 : 0 < w) (hw : Sz 40 w) (hl : some_.length ≤ 1000) (h : ∀ s ∈ some_, Sm s.1 ∧ Sm s.2) (hd : Sm d) : g_law_asked some_ x w d = .ok true := by
  unfold g_law_asked
  have e1 : g_law_lowest x.x w = .ok (low x.x w) := g_law_lowest_eq (ht := x.hx) (hb := hw) (by decide) (by decide) h0
  have e2 : g_law_lowest x.y w = .ok (low x.y w) := g_law_lowest_eq (ht := x.hy) (hb := hw) (by decide) (by decide) h0
  rw [ok_bind, e1, ok_bind, e2, ok_bind, ok_bind, g_shut_eq, ok_bind, g_law_first_bar_eq hw hl h hd, ok_bind, if_neg (by simp)]
  have fe : some_.find? (fun s => decide (baX s (low x.x w, low x.y w) d)) = some_.find? fun s => decide (laX (growP w s.1, growP w s.2) x (growP w d)) := find_congr fun s hs => decide_eq_decide.mpr (ba_eq h0 hw (h s hs).1 (h s hs).2 hd)
  rw [fe]
  cases some_.find? fun s => decide (laX (growP w s.1, growP w s.2) x (growP w d)) with
  | none => rfl
  | some s =>
    rw [if_neg (by simp)]
    simp only [getO, ok_bind, g_law_places_of_eq, if_true, decide_true]

theorem idx_in {ps : List P} {x : Int} (h : 0 < (ps.length : Int)) : ∃ p ∈ ps, atM ps (x % ps.length) = .ok p := by
  obtain ⟨p, h1, h2⟩ := atM_get (l := ps) (i := x % ps.length) (Int.emod_nonneg _ (by omega)) (Int.emod_lt_of_pos _ h)
  exact ⟨p, List.mem_of_getElem? h1, h2⟩
theorem idx_in' {ps : List P} {x : Int} (h0 : 0 ≤ x) (h : x < (ps.length : Int)) : ∃ p ∈ ps, atM ps x = .ok p := by
  obtain ⟨p, h1, h2⟩ := atM_get (l := ps) (i := x) h0 h
  exact ⟨p, List.mem_of_getElem? h1, h2⟩
/-- a point asked about -/
structure PtOk (q : (Int × Int) × Int) : Prop where
  x : Sz 900 q.1.1
  y : Sz 900 q.1.2
  p : 0 < q.2
  w : Sz 40 q.2
theorem law_ok (s : Scr) (h1 : s.ns.length ≤ 63) (h2 : ∀ z ∈ s.ns, Builtin.Int.intBits z ≤ 1048576) : g_law s = .ok true := by
  have hs : Small s := Small.mk' h1 h2
  unfold g_law
  obtain ⟨c, e, _⟩ := law_at_ok hs (k := 1) (by omega) (by omega)
  rw [e, ok_bind, modM_p, ok_bind, ok_bind]
  obtain ⟨ps0, e, nd, hl, hp⟩ := law_places8_ok hs (m := 2 + c % 5) (by omega) (by omega)
  rw [e, ok_bind, ok_bind, ok_bind]
  have hl : (srtL ps0).length ≤ 7 := by rw [srtL_len]; omega
  have hp : ∀ p ∈ srtL ps0, Sm p := fun p h => hp p (srtL_mem.mp h)
  generalize srtL ps0 = ps at *
  by_cases c0 : (ps.length : Int) < 2
  · rw [if_pos (decide_eq_true c0)]
    obtain ⟨b, e, _⟩ := law_at_ok hs (k := 2) (by omega) (by omega)
    have z0 : Sz 10000 (0 : Int) := sz_0.up (by decide)
    have z1 : Sz 10000 (1 : Int) := Sz.up (n := 1) ⟨by decide⟩ (by decide)
    rw [toFr_ok z0 z1, ok_bind, e, ok_bind, modM_p, ok_bind, ok_bind, toFr_ok (Sz.up inferInstance (by decide)) z1, ok_bind, ok_bind, toP_ok (n := 1) (m := 1) (a := sz_0.up (by decide)) (b := sz_0.up (by decide)) (by decide) (by decide), ok_bind, g_shut_eq]
    rfl
  · rw [if_neg (by simpa using c0), ok_bind]
    have hn : 0 < (ps.length : Int) := by omega
    have hn1 : 0 < (ps.length : Int) - 1 := by omega
    rw [cut_mid (by omega) (by omega)]
    have cl : ((s.ns.take (16 : Int).toNat).drop (8 : Int).toNat).length ≤ 8 := by rw [List.length_drop, List.length_take]; omega
    refine Ok.eq (Ok.bind (Q := fun l : List (P × P) => l.length ≤ ((s.ns.take (16 : Int).toNat).drop (8 : Int).toNat).length ∧ ∀ s ∈ l, s.1 ∈ ps ∧ s.2 ∈ ps) ?_ fun l hq => ?_)
    · refine forM_Ok (fun j (l : List (P × P)) => l.length ≤ j ∧ ∀ s ∈ l, s.1 ∈ ps ∧ s.2 ∈ ps) ⟨Nat.le_refl 0, fun s h => absurd h List.not_mem_nil⟩ fun i x l hx hq => ?_
      have hxb : Big x := (hs.bits x (List.mem_of_mem_take (List.mem_of_mem_drop (List.mem_of_getElem? hx)))).big
      have hi := (List.getElem?_eq_some_iff.mp hx).1
      have sn : Sz 8 (ps.length : Int) := ⟨by omega⟩
      rw [modM_pos hn, ok_bind, fdivM_pos (n := 8) hn (by decide), ok_bind, modM_pos hn1, ok_bind, ok_bind, modM_pos hn, ok_bind]
      have a0 := Int.emod_nonneg x (b := (ps.length : Int)) (by omega)
      have a1 := Int.emod_lt_of_pos x hn
      generalize x % (ps.length : Int) = a at *
      have b0 := Int.emod_nonneg (a + 1 + x / (ps.length : Int) % ((ps.length : Int) - 1)) (b := (ps.length : Int)) (by omega)
      have b1 := Int.emod_lt_of_pos (a + 1 + x / (ps.length : Int) % ((ps.length : Int) - 1)) hn
      generalize (a + 1 + x / (ps.length : Int) % ((ps.length : Int) - 1)) % (ps.length : Int) = b at *
      obtain ⟨p, p1, p2⟩ := idx_in' (ps := ps) (x := mnT a b) (by rw [mnT_int]; split <;> omega) (by rw [mnT_int]; split <;> omega)
      obtain ⟨q, q1, q2⟩ := idx_in' (ps := ps) (x := mxT a b) (by rw [mxT_int]; split <;> omega) (by rw [mxT_int]; split <;> omega)
      rw [p2, ok_bind, q2, ok_bind, ok_bind, appM_ok (by omega), ok_bind]
      refine ⟨_, rfl, by rw [List.length_append, List.length_singleton]; omega, fun z hz => ?_⟩
      rcases List.mem_append.mp hz with hz | hz
      · exact hq.2 z hz
      · have : z = (p, q) := by simpa using hz
        subst this; exact ⟨p1, q1⟩
    · obtain ⟨l1, l2⟩ := hq
      obtain ⟨c16, e16, _⟩ := law_at_ok hs (k := 16 + 0) (by omega) (by omega)
      obtain ⟨c17, e17, _⟩ := law_at_ok hs (k := 16 + 1) (by omega) (by omega)
      obtain ⟨c18, e18, _⟩ := law_at_ok hs (k := 16 + 2) (by omega) (by omega)
      obtain ⟨c19, e19, _⟩ := law_at_ok hs (k := 19) (by omega) (by omega)
      obtain ⟨c20, e20, _⟩ := law_at_ok hs (k := 20) (by omega) (by omega)
      have p9 := pwr_10_9
      rw [rngM_3, ok_bind, compM_3 (a := 1 + c16 % pwr 10 9) (b := 1 + c17 % pwr 10 9) (c := 1 + c18 % pwr 10 9) (by rw [e16, ok_bind, modM_p, ok_bind]) (by rw [e17, ok_bind, modM_p, ok_bind]) (by rw [e18, ok_bind, modM_p, ok_bind]), ok_bind]
      have r16 : 1 ≤ 1 + c16 % pwr 10 9 ∧ 1 + c16 % pwr 10 9 ≤ 1000000000 := by rw [p9]; omega
      have r17 : 1 ≤ 1 + c17 % pwr 10 9 ∧ 1 + c17 % pwr 10 9 ≤ 1000000000 := by rw [p9]; omega
      have r18 : 1 ≤ 1 + c18 % pwr 10 9 ∧ 1 + c18 % pwr 10 9 ≤ 1000000000 := by rw [p9]; omega
      generalize 1 + c16 % pwr 10 9 = s1 at *
      generalize 1 + c17 % pwr 10 9 = s2 at *
      generalize 1 + c18 % pwr 10 9 = s3 at *
      obtain ⟨x1, m1, f1⟩ := idx_in (ps := ps) (x := c19) hn
      obtain ⟨x2, m2, f2⟩ := idx_in (ps := ps) (x := c20) hn
      obtain ⟨x3, m3, f3⟩ : ∃ p ∈ ps, atM ps (-(1 : Int)) = .ok p := by
        have hlt : ps.length - 1 < ps.length := by omega
        exact ⟨ps[ps.length - 1], List.getElem_mem _, atM_neg (k := 1) (by omega) (by omega) (List.getElem?_eq_getElem hlt)⟩
      obtain ⟨y0, n0, g0⟩ := idx_in' (ps := ps) (x := 0) (by omega) (by omega)
      obtain ⟨y1, n1, g1⟩ := idx_in' (ps := ps) (x := 1) (by omega) (by omega)
      obtain ⟨_, _⟩ := hp x1 m1
      obtain ⟨_, _⟩ := hp x2 m2
      obtain ⟨_, _⟩ := hp x3 m3
      obtain ⟨_, _⟩ := hp y0 n0
      obtain ⟨_, _⟩ := hp y1 n1
      have t1 : Sz 40 s1 := ⟨by omega⟩
      have t2 : Sz 40 s2 := ⟨by omega⟩
      have t3 : Sz 40 s3 := ⟨by omega⟩
      rw [e19, ok_bind, modM_pos hn, ok_bind, f1, ok_bind, e20, ok_bind, modM_pos hn, ok_bind, f2, ok_bind, f3, ok_bind, ok_bind, ok_bind, ok_bind]
      rw [compM_map (fun p : P => ((p.x, p.y), (1 : Int))) (by omega) (fun _ _ => rfl), ok_bind]
      have o1 : Sz 40 (1 : Int) := ⟨by decide⟩
      have o2 : Sz 40 (2 : Int) := ⟨by decide⟩
      have b0 : ∀ q ∈ ps.map (fun p : P => ((p.x, p.y), (1 : Int))), PtOk q := fun q hq => by
        obtain ⟨p, h, rfl⟩ := List.mem_map.mp hq
        exact ⟨(hp p h).1.up (by decide), (hp p h).2.up (by decide), by show (0 : Int) < 1; omega, o1⟩
      have ln : (ps.map fun p : P => ((p.x, p.y), (1 : Int))).length ≤ 7 := by rw [List.length_map]; exact hl
      generalize ps.map (fun p : P => ((p.x, p.y), (1 : Int))) = pts at *
      have ap : ∀ {pts : List ((Int × Int) × Int)} {q : (Int × Int) × Int}, (∀ q ∈ pts, PtOk q) → PtOk q → ∀ z ∈ pts ++ [q], PtOk z := fun hq h z hz => by
        rcases List.mem_append.mp hz with hz | hz
        · exact hq z hz
        · rw [List.mem_singleton.mp hz]; exact h
      have sum3 : ∀ p q r : Int, [p, q, r].sum = p + q + r := fun p q r => by simp [List.sum_cons]; omega
      have ap1 : ∀ {pts : List ((Int × Int) × Int)} {q : (Int × Int) × Int}, pts.length ≤ 100 → appM pts q = .ok (pts ++ [q]) := fun h => appM_ok (by omega)
      have q1 : PtOk ((y0.x + y1.x, y0.y + y1.y), 2) := ⟨Sz.up inferInstance (by decide), Sz.up inferInstance (by decide), by show (0 : Int) < 2; omega, o2⟩
      have q2 : PtOk ((2 * y0.x - x1.x, 2 * y0.y - x1.y), 1) := ⟨Sz.up inferInstance (by decide), Sz.up inferInstance (by decide), by show (0 : Int) < 1; omega, o1⟩
      have q3 : PtOk ((2 * x2.x - x1.x, 2 * x2.y - x1.y), 1) := ⟨Sz.up inferInstance (by decide), Sz.up inferInstance (by decide), by show (0 : Int) < 1; omega, o1⟩
      have q4 : PtOk ((s1 * x1.x + s2 * x2.x + s3 * x3.x, s1 * x1.y + s2 * x2.y + s3 * x3.y), s1 + s2 + s3) := ⟨Sz.up (sz_ad (sz_ad (sz_ml t1 (hp x1 m1).1) (sz_ml t2 (hp x2 m2).1)) ((sz_ml t3 (hp x3 m3).1).up (by decide))) (by decide), Sz.up (sz_ad (sz_ad (sz_ml t1 (hp x1 m1).2) (sz_ml t2 (hp x2 m2).2)) ((sz_ml t3 (hp x3 m3).2).up (by decide))) (by decide), by show (0 : Int) < s1 + s2 + s3; omega, ⟨by show (s1 + s2 + s3).natAbs < 2 ^ 40; omega⟩⟩
      have k1 : compM (fun (x83 : Int) => (VR.ok true)) (fun (x83 : Int) => ((atM [s1, s2, s3] x83).bind fun t85 => ((atM [x1, x2, x3] x83).bind fun t84 => VR.ok t84.x).bind fun t86 => (mulM t85 t86))) [0, 1, 2] = .ok [s1 * x1.x, s2 * x2.x, s3 * x3.x] := compM_3 (by simp (disch := omega) only [atM_0, ok_bind, mulM_ok]) (by simp (disch := omega) only [atM_1, ok_bind, mulM_ok]) (by simp (disch := omega) only [atM_2, ok_bind, mulM_ok])
      have k2 : compM (fun (x83 : Int) => (VR.ok true)) (fun (x83 : Int) => ((atM [s1, s2, s3] x83).bind fun t85 => ((atM [x1, x2, x3] x83).bind fun t84 => VR.ok t84.y).bind fun t86 => (mulM t85 t86))) [0, 1, 2] = .ok [s1 * x1.y, s2 * x2.y, s3 * x3.y] := compM_3 (by simp (disch := omega) only [atM_0, ok_bind, mulM_ok]) (by simp (disch := omega) only [atM_1, ok_bind, mulM_ok]) (by simp (disch := omega) only [atM_2, ok_bind, mulM_ok])
      simp (disch := omega) only [g0, g1, ok_bind, atM_0, atM_1, mulM_ok, rngM_3, k1, k2, sum3]
      rw [ap1 (by omega), ok_bind, ap1 (by rw [List.length_append, List.length_singleton]; omega), ok_bind, ap1 (by simp only [List.length_append, List.length_singleton]; omega), ok_bind, ap1 (by simp only [List.length_append, List.length_singleton]; omega), ok_bind]
      rw [forF_all fun q hq => ?_, ok_bind]
      · exact ⟨_, rfl, rfl⟩
      have hq := ap (ap (ap (ap b0 q1) q2) q3) q4 q hq
      rw [forF_all fun d hd => ?_, ok_bind]
      · rfl
      obtain ⟨⟨qx, qy⟩, w⟩ := q
      have h1 := hq.x
      have h2 := hq.y
      rw [toP_ok (n := 900) (m := 900) (by decide) (by decide), ok_bind, g_law_asked_ok hq.p hq.w (by omega) (fun s hs => ⟨hp _ (l2 s hs).1, hp _ (l2 s hs).2⟩) (hp d hd), ok_bind, ok_bind, if_neg (by simp)]

theorem law_true : ∀ ns : List Int, ns.length ≤ 63 → (∀ z ∈ ns, Builtin.Int.intBits z ≤ 1048576) → ∃ S', callT (tabT tab) 7 21 [.ref 0] [.frz (ns.map D.int)] = .ok (.bl true) S' := fun ns h1 h2 => law_of (fr := F) ((law_rf 0 ⟨ns⟩).eq (law_ok ⟨ns⟩ h1 h2))
end TL
open PySem PySem.W PyProof.Rows
set_option maxRecDepth 100000 in
set_option maxHeartbeats 0 in
theorem PySem.Challenge.cw_nearland_k54_shut_off_holds : PySem.Challenge.rw_nearland_k54_shut_off.Holds := by
  w_on; o_law; k_head; (case hw => w_witness2)
  k_fill
  refine NL.walk_nl (l := PySem.Challenge.rw_nearland_k54_shut_off) (tab := TL.tab) (n := 7) (i := 21) (e := TL.e21) rfl rfl ⟨rfl, by decide, by decide⟩ (fun w h Y => PySem.W.kIn_of Y) rfl rfl rfl TL.okAll ?F TL.law_true
  case F =>
    intro w mg h KX G
    refine' TL.stands KX G ?a0 ?l0 ?c0 ?k0 ?a1 ?l1 ?c1 ?k1 ?a2 ?l2 ?c2 ?k2 ?a3 ?l3 ?c3 ?k3 ?a4 ?l4 ?c4 ?k4 ?a5 ?l5 ?c5 ?k5 ?a6 ?l6 ?c6 ?k6 ?a7 ?l7 ?c7 ?k7 ?a8 ?l8 ?c8 ?k8 ?a9 ?l9 ?c9 ?k9 ?a10 ?l10 ?c10 ?k10 ?a11 ?l11 ?c11 ?k11 ?a12 ?l12 ?c12 ?k12 ?a13 ?l13 ?c13 ?k13 ?a14 ?l14 ?c14 ?k14 ?a15 ?l15 ?c15 ?k15 ?a16 ?l16 ?c16 ?k16 ?a17 ?l17 ?c17 ?k17 ?a18 ?l18 ?c18 ?k18 ?a19 ?l19 ?c19 ?k19 ?a20 ?l20 ?c20 ?k20 ?a21 ?l21 ?c21 ?k21 ?z0 ?z1 ?z2 ?z3 ?z4 ?z5 ?z6 ?z7 ?z8 ?z9 ?z10 ?z11 ?z12 ?z13 ?z14 ?z15
    (case a0 => k_is)
    (case l0 => k_is)
    (case c0 => k_is)
    (case k0 => k_is)
    (case a1 => k_is)
    (case l1 => k_is)
    (case c1 => k_is)
    (case k1 => k_is)
    (case a2 => k_is)
    (case l2 => k_is)
    (case c2 => k_is)
    (case k2 => k_is)
    (case a3 => k_is)
    (case l3 => k_is)
    (case c3 => k_is)
    (case k3 => k_is)
    (case a4 => k_is)
    (case l4 => k_is)
    (case c4 => k_is)
    (case k4 => k_is)
    (case a5 => k_is)
    (case l5 => k_is)
    (case c5 => k_is)
    (case k5 => k_is)
    (case a6 => k_is)
    (case l6 => k_is)
    (case c6 => k_is)
    (case k6 => k_is)
    (case a7 => k_is)
    (case l7 => k_is)
    (case c7 => k_is)
    (case k7 => k_is)
    (case a8 => k_is)
    (case l8 => k_is)
    (case c8 => k_is)
    (case k8 => k_is)
    (case a9 => k_is)
    (case l9 => k_is)
    (case c9 => k_is)
    (case k9 => k_is)
    (case a10 => k_is)
    (case l10 => k_is)
    (case c10 => k_is)
    (case k10 => k_is)
    (case a11 => k_is)
    (case l11 => k_is)
    (case c11 => k_is)
    (case k11 => k_is)
    (case a12 => k_is)
    (case l12 => k_is)
    (case c12 => k_is)
    (case k12 => k_is)
    (case a13 => k_is)
    (case l13 => k_is)
    (case c13 => k_is)
    (case k13 => k_is)
    (case a14 => k_is)
    (case l14 => k_is)
    (case c14 => k_is)
    (case k14 => k_is)
    (case a15 => k_is)
    (case l15 => k_is)
    (case c15 => k_is)
    (case k15 => k_is)
    (case a16 => k_is)
    (case l16 => k_is)
    (case c16 => k_is)
    (case k16 => k_is)
    (case a17 => k_is)
    (case l17 => k_is)
    (case c17 => k_is)
    (case k17 => k_is)
    (case a18 => k_is)
    (case l18 => k_is)
    (case c18 => k_is)
    (case k18 => k_is)
    (case a19 => k_is)
    (case l19 => k_is)
    (case c19 => k_is)
    (case k19 => k_is)
    (case a20 => k_is)
    (case l20 => k_is)
    (case c20 => k_is)
    (case k20 => k_is)
    (case a21 => k_is)
    (case l21 => k_is)
    (case c21 => k_is)
    (case k21 => k_is)
    (case z0 => k_is)
    (case z1 => k_is)
    (case z2 => k_is)
    (case z3 => k_is)
    (case z4 => k_is)
    (case z5 => k_is)
    (case z6 => k_is)
    (case z7 => k_is)
    (case z8 => k_is)
    (case z9 => k_is)
    (case z10 => k_is)
    (case z11 => k_is)
    (case z12 => k_is)
    (case z13 => k_is)
    (case z14 => k_is)
    (case z15 => k_is)
#print axioms PySem.Challenge.cw_nearland_k54_shut_off_holds
