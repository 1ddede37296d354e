import PyProof.Rows.All
import Wide.All
import OpenK.AllK
import KE.KDictKeyed
import HandS.Dict
import HandS.Iter
import HandS.List
import Wide.FinOn
import HandS.ForMost
import HandS.ForExc
import HandS.TupLe
import HandS.EndBits
import HandS.Flow
import HandS.Deep
import HandS.IsInst
import HandS.SortOrd
import KE.KDictWalk
import KE.LtData
import KE.DataCmp
import HandS.SortInts
import HandS.SortRule
import HandS.ExcValue
import HandS.ExcIs
import HandS.ExcOwn
import HandS.Rev
import KE.KDictSum
import KE.KDictCopyH
import HandS.Zip
import HandS.TupSets
import KE.KDictDisplayH
import HandS.Style
import PySem.Challenge.RW_nearland_k13_middles
set_option Elab.async false
set_option linter.all false
set_option maxRecDepth 100000
set_option maxHeartbeats 4000000
set_option synthInstance.maxHeartbeats 0
set_option synthInstance.maxSize 100000
/-! Plain geometry of places: no program in sight. -/
namespace GM
def sg (x : Int) : Int := if 0 < x then 1 else if x < 0 then -1 else 0
abbrev twV (ax ay bx by_ cx cy : Int) : Int := (bx - ax) * (cy - ay) - (by_ - ay) * (cx - ax)
abbrev heV (ax ay dx dy : Int) : Int := (ax - dx) * (ax - dx) + (ay - dy) * (ay - dy)
abbrev boV (ax ay bx by_ cx cy dx dy : Int) : Int := heV ax ay dx dy * twV dx dy bx by_ cx cy + heV bx by_ dx dy * twV dx dy cx cy ax ay + heV cx cy dx dy * twV dx dy ax ay bx by_
abbrev riV (ax ay bx by_ cx cy dx dy : Int) : Int := sg (twV ax ay bx by_ cx cy) * sg (boV ax ay bx by_ cx cy dx dy)
def lxP (ax ay bx by_ : Int) : Prop := ax < bx ∨ ax = bx ∧ ay < by_
instance {a b c d : Int} : Decidable (lxP a b c d) := by unfold lxP; infer_instance
def spV (ax ay bx by_ cx cy dx dy : Int) : Bool := decide (
  if riV ax ay bx by_ cx cy dx dy ≠ 0 ∨ (ax = dx ∧ ay = dy) ∨ (bx = dx ∧ by_ = dy) ∨ (cx = dx ∧ cy = dy) then riV ax ay bx by_ cx cy dx dy = 1
  else if lxP dx dy ax ay ∧ lxP dx dy bx by_ ∧ lxP dx dy cx cy then True
  else if ¬ lxP bx by_ ax ay ∧ ¬ lxP cx cy ax ay then sg (twV bx by_ cx cy ax ay) * sg (twV bx by_ cx cy dx dy) < 0
  else if ¬ lxP ax ay bx by_ ∧ ¬ lxP cx cy bx by_ then sg (twV ax ay cx cy bx by_) * sg (twV ax ay cx cy dx dy) < 0
  else sg (twV ax ay bx by_ cx cy) * sg (twV ax ay bx by_ dx dy) < 0)
end GM

/-! Who spoils whom: a telling that is alike in all orders; heights that tell it. -/
namespace GM
abbrev Pt := Int × Int
abbrev tw (a b c : Pt) : Int := twV a.1 a.2 b.1 b.2 c.1 c.2
abbrev he (a d : Pt) : Int := heV a.1 a.2 d.1 d.2
abbrev ri (a b c d : Pt) : Int := riV a.1 a.2 b.1 b.2 c.1 c.2 d.1 d.2
abbrev lx (a b : Pt) : Prop := lxP a.1 a.2 b.1 b.2
abbrev sp (a b c d : Pt) : Bool := spV a.1 a.2 b.1 b.2 c.1 c.2 d.1 d.2
theorem lx_irr {a : Pt} : ¬ lx a a := by unfold lx lxP; omega
theorem tw_rot (a b c : Pt) : tw b c a = tw a b c := by unfold tw twV; grind
theorem tw_rot' (a b c : Pt) : tw c a b = tw a b c := by unfold tw twV; grind
theorem tw_sw (a b c : Pt) : tw b a c = -tw a b c := by unfold tw twV; grind
theorem tw_sw' (a b c : Pt) : tw a c b = -tw a b c := by unfold tw twV; grind
end GM

/-! Heights that tell who spoils whom, ties and all. -/
namespace GM
/-- how far d stands over the plane of a, b, c (times the area), heights by h -/
def pw (h : Pt → Int) (a b c d : Pt) : Int := h d * tw a b c - (h a * tw d b c + h b * tw a d c + h c * tw a b d)
def nm (x : Pt) : Int := x.1 * x.1 + x.2 * x.2
/-! the largest of a few -/
/-! weights: the lesser, the heavier by far -/
/-- heights, generic on the places of P -/
structure Hts (P : List Pt) (h : Pt → Int) : Prop where
  nz : ∀ a ∈ P, ∀ b ∈ P, ∀ c ∈ P, ∀ d ∈ P, 0 < tw a b c → d ≠ a → d ≠ b → d ≠ c → pw h a b c d ≠ 0
  sp : ∀ a ∈ P, ∀ b ∈ P, ∀ c ∈ P, ∀ d ∈ P, 0 < tw a b c → (sp a b c d = true ↔ pw h a b c d < 0)
end GM

/-! Over one base: who spoils is an order. -/
namespace GM
end GM

/-! Dicts whose keys are nested tuples of whole numbers, in the abstract heap. -/
namespace NL
open PySem PySem.Spec PyProof.Rows L2
/-! ### keys -/
mutual
def intK : NestedKey → Bool
  | .num _ => true
  | .tup ks => intKs ks
  | _ => false
def intKs : List NestedKey → Bool
  | [] => true
  | k :: ks => intK k && intKs ks
end
mutual
theorem hash_int {w w' : World} : ∀ k : NestedKey, intK k = true → k.hash w = k.hash w'
  | .none, h => by unfold intK at h; cases h
  | .num i, _ => by unfold NestedKey.hash; rfl
  | .text x, h => by unfold intK at h; cases h
  | .tup ks, h => by
    unfold intK at h
    unfold NestedKey.hash
    rw [hashes_int ks h]
theorem hashes_int {w w' : World} : ∀ ks : List NestedKey, intKs ks = true → NestedKey.hashes w ks = NestedKey.hashes w' ks
  | [], _ => by unfold NestedKey.hashes; rfl
  | k :: ks, h => by
    unfold intKs at h
    rw [Bool.and_eq_true] at h
    unfold NestedKey.hashes
    rw [hash_int k h.1, hashes_int ks h.2]
end
mutual
inductive NKv (H : Hp) : NestedKey → V → Prop
  | int (i : Int) : NKv H (.num i) (.int i)
  | tup {a : Addr} {ks : List NestedKey} {vs : List V} : H a = some (.tup vs) → NKvs H ks vs → NKv H (.tup ks) (.ref a)
inductive NKvs (H : Hp) : List NestedKey → List V → Prop
  | nil : NKvs H [] []
  | cons {k : NestedKey} {v : V} {ks : List NestedKey} {vs : List V} : NKv H k v → NKvs H ks vs → NKvs H (k :: ks) (v :: vs)
end
mutual
theorem NKv.int_ {H : Hp} : ∀ {k : NestedKey} {v : V}, NKv H k v → intK k = true
  | _, _, .int i => by unfold intK; rfl
  | _, _, .tup _ r => by unfold intK; exact NKvs.int_ r
theorem NKvs.int_ {H : Hp} : ∀ {ks : List NestedKey} {vs : List V}, NKvs H ks vs → intKs ks = true
  | _, _, .nil => by unfold intKs; rfl
  | _, _, .cons a r => by unfold intKs; rw [NKv.int_ a, NKvs.int_ r]; rfl
end
mutual
theorem NKv.keep {H H' : Hp} (g : ∀ a xs, H a = some (.tup xs) → H' a = some (.tup xs)) : ∀ {k : NestedKey} {v : V}, NKv H k v → NKv H' k v
  | _, _, .int i => .int i
  | _, _, .tup e r => .tup (g _ _ e) (NKvs.keep g r)
theorem NKvs.keep {H H' : Hp} (g : ∀ a xs, H a = some (.tup xs) → H' a = some (.tup xs)) : ∀ {ks : List NestedKey} {vs : List V}, NKvs H ks vs → NKvs H' ks vs
  | _, _, .nil => .nil
  | _, _, .cons a r => .cons (NKv.keep g a) (NKvs.keep g r)
end
section
variable {P : Program} {w : World} {H : Hp} {h : Heap}
mutual
theorem NKv.is (ok : HOk P w H h) : ∀ {k : NestedKey} {v : V} {u : Value}, NKv H k v → RelV v u → NestedIs h k u
  | _, _, u, .int i, r => by
    obtain ⟨t, rfl⟩ := (show ∃ t, u = Value.int i t from r)
    exact .int i t
  | _, _, u, .tup (a := a) e rs, r => by
    cases (show u = Value.ref a from r)
    obtain ⟨_, its, rv, o, h1, h2, n, h3⟩ := (show ObjOk P w H h a (.tup _) from ok a _ e)
    exact .tup h1 h2 h3 (by simpa using NKvs.is ok rs rv)
theorem NKvs.is (ok : HOk P w H h) : ∀ {ks : List NestedKey} {vs : List V} {us : List Value}, NKvs H ks vs → Vals vs us → NestedAll h ks us
  | _, _, _, .nil, r => by cases r; exact .nil
  | _, _, _, .cons a rs, r => by
    cases r with
    | cons r1 r2 => exact .cons (NKv.is ok a r1) (NKvs.is ok rs r2)
end
end
/-! ### the object -/
def DictX (a : Addr) (xs : List (NestedKey × Addr × Value)) (h : Heap) : Prop :=
  ∃ (P : Program) (w : World) (o : Obj) (es : Array DictEntry) (ep : Nat), h.get? a = some o ∧ o.ExactDict ∧ o.data = .dict es ep ∧ es.toList = xs.map (entryOfKey (nestedKind P w)) ∧ (xs.map (·.1)).Nodup ∧ (∀ x ∈ xs, intK x.1 = true) ∧ (a == sysModules) = false ∧ xs.length ≤ sizeLine
abbrev dctO (a : Addr) (xs : List (NestedKey × Addr × Value)) : HO := .ext (DictX a xs)
/-- its keys stand -/
def DV (H : Hp) (xs : List (NestedKey × Addr × Value)) : Prop := ∀ x ∈ xs, NKv H x.1 (.ref x.2.1) ∧ x.1.depth ≤ 8
theorem DV.keep {H H' : Hp} {xs : List (NestedKey × Addr × Value)} (d : DV H xs) (g : ∀ a ys, H a = some (.tup ys) → H' a = some (.tup ys)) : DV H' xs := fun x hx => ⟨(d x hx).1.keep g, (d x hx).2⟩
theorem dictX_ok {P : Program} {w : World} {H : Hp} {h : Heap} {a : Addr} {xs : List (NestedKey × Addr × Value)} (x : DictX a xs h) : ObjOk P w H h a (dctO a xs) := by
  obtain ⟨P', w', o, es, ep, h1, r⟩ := id x
  exact ⟨x, ⟨o, h1⟩, fun h1 h2 ⟨P, w, o, es, ep, e, r⟩ k => ⟨P, w, o, es, ep, k o e, r⟩⟩
theorem entries_w {P P' : Program} {w w' : World} {xs : List (NestedKey × Addr × Value)} (h : ∀ x ∈ xs, intK x.1 = true) : xs.map (entryOfKey (nestedKind P w)) = xs.map (entryOfKey (nestedKind P' w')) := by
  refine List.map_congr_left fun x hx => ?_
  show (⟨x.1.hash w, .ref x.2.1, x.2.2⟩ : DictEntry) = ⟨x.1.hash w', .ref x.2.1, x.2.2⟩
  rw [hash_int x.1 (h x hx)]
section
variable {P : Program} {w : World} {H : Hp} {h h' : Heap} {a : Addr} {xs : List (NestedKey × Addr × Value)}
theorem DictX.of (ok : HOk P w H h) (e : Rd H a (dctO a xs)) : DictX a xs h := by
  obtain ⟨q, _⟩ := (show ObjOk P w H h a (dctO a xs) from e.ok ok)
  exact q
theorem DictX.hh (x : DictX a xs h) (ok : HOk P w H h) (d : DV H xs) : h.DictOfH (nestedKind P w) a xs := by
  obtain ⟨P', w', o, es, ep, h1, h2, h3, h4, h5, h6, _⟩ := x
  exact ⟨o, es, ep, h1, h2, h3, by rw [h4, entries_w h6], fun y hy => ⟨(d y hy).1.is ok rfl, (d y hy).2⟩, h5⟩
theorem DictX.back (x : h.DictOfH (nestedKind P w) a xs) (hi : ∀ x ∈ xs, intK x.1 = true) (hs : (a == sysModules) = false) (hl : xs.length ≤ sizeLine) : DictX a xs h := by
  obtain ⟨o, es, ep, h1, h2, h3, h4, _, h5⟩ := x
  exact ⟨P, w, o, es, ep, h1, h2, h3, h4, h5, hi, hs, hl⟩
theorem DictX.sys (x : DictX a xs h) : (a == sysModules) = false := by
  obtain ⟨P', w', o, es, ep, h1, h2, h3, h4, h5, h6, h7, _⟩ := x; exact h7
theorem DictX.len (x : DictX a xs h) : xs.length ≤ sizeLine := by
  obtain ⟨P', w', o, es, ep, h1, h2, h3, h4, h5, h6, h7, h8⟩ := x; exact h8
theorem DictX.int (x : DictX a xs h) : ∀ y ∈ xs, intK y.1 = true := by
  obtain ⟨P', w', o, es, ep, h1, h2, h3, h4, h5, h6, _⟩ := x; exact h6
theorem DictX.obj (x : DictX a xs h) : ∃ o, h.get? a = some o ∧ o.ExactDict := by
  obtain ⟨P', w', o, es, ep, h1, h2, _⟩ := x; exact ⟨o, h1, h2⟩
theorem stored_mem {k : NestedKey} {b : Addr} {u : Value} {y : NestedKey × Addr × Value} (hy : y ∈ storedH xs k b u) : (∃ z ∈ xs, z.1 = y.1 ∧ z.2.1 = y.2.1) ∨ (y.1 = k ∧ y.2.1 = b) := by
  unfold storedH at hy
  split at hy
  · obtain ⟨z, hz, rfl⟩ := List.mem_map.mp hy
    refine .inl ⟨z, hz, ?_⟩
    unfold putAt
    split <;> exact ⟨rfl, rfl⟩
  · rcases List.mem_append.mp hy with hy | hy
    · exact .inl ⟨y, hy, rfl, rfl⟩
    · have : y = (k, b, u) := by simpa using hy
      subst this; exact .inr ⟨rfl, rfl⟩
theorem stored_len {k : NestedKey} {b : Addr} {u : Value} : (storedH xs k b u).length ≤ xs.length + 1 := by
  unfold storedH
  split
  · rw [List.length_map]; omega
  · simp
theorem stored_int {k : NestedKey} {b : Addr} {u : Value} (h : ∀ x ∈ xs, intK x.1 = true) (hk : intK k = true) : ∀ x ∈ storedH xs k b u, intK x.1 = true := fun y hy => by
  rcases stored_mem hy with ⟨z, hz, e, _⟩ | ⟨e, _⟩
  · rw [← e]; exact h z hz
  · rw [e]; exact hk
end
/-! ### what the machine does -/
section
variable {X : Cx} {pins : List (Addr × Obj)} {σ : L2.St} {H : Hp} {s : Shared} {a b : Addr} {xs : List (NestedKey × Addr × Value)} {k : NestedKey} {A : Around} {E : Value → Shared → Prop}
theorem room8 (hu : A.units + 9 < cLine) : (nestedKind X.prog X.w).room A.in1 := by show A.units + 1 + 8 < cLine; omega
theorem n_get {p : Addr × Value} {Q : Value → Shared → Prop} (hu : A.units + 9 < cLine) (I : Inv X pins σ H s) (e : Rd H a (dctO a xs)) (d : DV H xs) (hk : NKv H k (.ref b)) (hd : k.depth ≤ 8) (hp : atKey xs k = some p) (h : ∀ s', Inv X pins σ H s' → Q p.2 s') :
    wpAny (model X.prog X.w) A (getItem (.ref a) (.ref b)) Q E s :=
  wpAny_getItem_heap (room8 hu) ⟨hk.is I.hok rfl, hd⟩ ((DictX.of I.hok e).hh I.hok d) hp (h _ (I.tok _))
theorem n_in {Q : Value → Shared → Prop} (hu : A.units + 9 < cLine) (I : Inv X pins σ H s) (e : Rd H a (dctO a xs)) (d : DV H xs) (hk : NKv H k (.ref b)) (hd : k.depth ≤ 8) (h : ∀ s', Inv X pins σ H s' → Q (.bool (atKey xs k).isSome) s') :
    wpAny (model X.prog X.w) A (compareOp .In (.ref b) (.ref a)) Q E s :=
  wpAny_in_heap (room8 hu) ⟨hk.is I.hok rfl, hd⟩ (DictX.of I.hok e).sys ((DictX.of I.hok e).hh I.hok d) (h _ (I.tok _))
theorem n_notIn {Q : Value → Shared → Prop} (hu : A.units + 9 < cLine) (I : Inv X pins σ H s) (e : Rd H a (dctO a xs)) (d : DV H xs) (hk : NKv H k (.ref b)) (hd : k.depth ≤ 8) (h : ∀ s', Inv X pins σ H s' → Q (.bool (!(atKey xs k).isSome)) s') :
    wpAny (model X.prog X.w) A (compareOp .NotIn (.ref b) (.ref a)) Q E s :=
  wpAny_notIn_heap (room8 hu) ⟨hk.is I.hok rfl, hd⟩ (DictX.of I.hok e).sys ((DictX.of I.hok e).hh I.hok d) (h _ (I.tok _))
theorem n_write {h' : Heap} {t' : Nat} {ys : List (NestedKey × Addr × Value)} (I : Inv X pins σ H s) (e : H a = some (dctO a xs)) (hs : Heap.SameBut a s.heap h') (x : DictX a ys h') :
    Inv X pins σ (upd H a (dctO a ys)) { s with heap := h', toks := t' } := by
  obtain ⟨o, ho, _⟩ := x.obj
  exact d_write I (by rw [e]; exact True.intro) hs ⟨o, ho⟩ (dictX_ok x)
theorem n_set {u : Value} {Q : Unit → Shared → Prop} (hu : A.units + 9 < cLine) (I : Inv X pins σ H s) (e : H a = some (dctO a xs)) (d : DV H xs) (hk : NKv H k (.ref b)) (hd : k.depth ≤ 8) (hl : xs.length < sizeLine)
    (h : ∀ s', Inv X pins σ (upd H a (dctO a (storedH xs k b u))) s' → Q () s') : wpAny (model X.prog X.w) A (setItem (.ref a) (.ref b) u) Q E s := by
  have x := DictX.of I.hok (.inl e)
  refine wpAny_setItem_heap (hsz := x.len) (room8 hu) ⟨hk.is I.hok rfl, hd⟩ (x.hh I.hok d) fun h' hm hs => h _ (n_write I e hs (DictX.back hm (stored_int x.int hk.int_) x.sys ?_))
  have := stored_len (xs := xs) (k := k) (b := b) (u := u)
  omega
theorem n_pop {p : Addr × Value} {Q : Value → Shared → Prop} (hu : A.units + 9 < cLine) (I : Inv X pins σ H s) (e : H a = some (dctO a xs)) (d : DV H xs) (hk : NKv H k (.ref b)) (hd : k.depth ≤ 8) (hp : atKey xs k = some p)
    (h : ∀ s', Inv X pins σ (upd H a (dctO a (withoutH xs k))) s' → Q p.2 s') : wpAny (model X.prog X.w) A (call (.builtin "dict.pop") [.ref a, .ref b]) Q E s := by
  have x := DictX.of I.hok (.inl e)
  refine call_pop_heap (more := []) (hsz := x.len) (.inl rfl) (PySem.F.args_dict_pop_2 _ _) (room8 hu) ⟨hk.is I.hok rfl, hd⟩ x.sys (x.hh I.hok d) hp fun h' hm hs => h _ (n_write I e hs (DictX.back hm (fun y hy => x.int y (List.mem_filter.mp hy).1) x.sys ?_))
  exact Nat.le_trans (List.length_filter_le _ _) x.len
theorem n_getOr {u : Value} {Q : Value → Shared → Prop} (hu : A.units + 9 < cLine) (I : Inv X pins σ H s) (e : Rd H a (dctO a xs)) (d : DV H xs) (hk : NKv H k (.ref b)) (hd : k.depth ≤ 8) (h : ∀ s', Inv X pins σ H s' → Q (((atKey xs k).map (·.2)).getD u) s') :
    wpAny (model X.prog X.w) A (call (.builtin "dict.get") [.ref a, .ref b, u]) Q E s := by
  have x := DictX.of I.hok e
  have xh := x.hh I.hok d
  exact call_meetsIn F.slot_dict_get xh.typeIs F.entry_dict_get (F.args_dict_get_3 _ _ _) (meetsH_dict_get_default (nestedKind X.prog X.w) a b x.sys u) ⟨room8 hu, k, xs, ⟨hk.is I.hok rfl, hd⟩, xh, h _ (I.tok _)⟩
end
end NL

/-! Dicts: what an operation on values reaches. -/
namespace NL
open PySem PySem.Spec PyProof.Rows L2
/-- a dict, a key -/
structure NAt (H : Hp) (a b : Addr) (xs : List (NestedKey × Addr × Value)) (k : NestedKey) : Prop where
  rd : Rd H a (dctO a xs)
  dv : DV H xs
  key : NKv H k (.ref b)
  depth : k.depth ≤ 8
def rIxN : V → V → Hp → VK → Prop := fun x y H Q => ∃ a b xs k p v, x = .ref a ∧ y = .ref b ∧ NAt H a b xs k ∧ atKey xs k = some p ∧ RelV v p.2 ∧ Q v H
def rInN : V → V → Hp → VK → Prop := fun y x H Q => ∃ a b xs k, x = .ref a ∧ y = .ref b ∧ NAt H a b xs k ∧ Q (.bl (atKey xs k).isSome) H
def rNotInN : V → V → Hp → VK → Prop := fun y x H Q => ∃ a b xs k, x = .ref a ∧ y = .ref b ∧ NAt H a b xs k ∧ Q (.bl (!(atKey xs k).isSome)) H
def rSetN : V → V → V → Hp → (Hp → Prop) → Prop := fun o i v H Q => ∃ a b xs k, o = .ref a ∧ i = .ref b ∧ H a = some (dctO a xs) ∧ NAt H a b xs k ∧ xs.length < sizeLine ∧ ∀ u, RelV v u → Q (upd H a (dctO a (storedH xs k b u)))
def rPopN : V → List V → Hp → VK → Prop := fun x vs H Q => ∃ a b xs k p v, x = .ref a ∧ vs = [.ref b] ∧ H a = some (dctO a xs) ∧ NAt H a b xs k ∧ atKey xs k = some p ∧ RelV v p.2 ∧ Q v (upd H a (dctO a (withoutH xs k)))
def rGetN : V → List V → Hp → VK → Prop := fun x vs H Q => ∃ a b xs k d, x = .ref a ∧ vs = [.ref b, d] ∧ NAt H a b xs k ∧ ((∃ p v, atKey xs k = some p ∧ RelV v p.2 ∧ Q v H) ∨ (atKey xs k = none ∧ Q d H))
section
variable {X : Cx}
theorem n_typeIs {pins : List (Addr × Obj)} {σ : L2.St} {H : Hp} {s : Shared} {a : Addr} {xs : List (NestedKey × Addr × Value)} (I : Inv X pins σ H s) (h : Rd H a (dctO a xs)) : s.TypeIs (.ref a) "dict" ∧ ∀ b, Value.ref a = .ref b → ∃ ob, s.heap.get? b = some ob ∧ ob.dict = none := by
  obtain ⟨o, h1, h2⟩ := (DictX.of I.hok h).obj
  exact ⟨⟨o, h1, h2.1⟩, fun b e => by cases e; exact ⟨o, h1, h2.2.1⟩⟩
theorem ix_dict (hu : X.A.units + 9 < cLine) : IxR X rIxN := by
  intro value slice pins s σ H x y v u Q I rx ry h hs
  obtain ⟨a, b, xs, k, p, w, rfl, rfl, n, hp, rw_, q⟩ := h
  obtain rfl : v = Value.ref a := rx
  obtain rfl : u = Value.ref b := ry
  have hT := (n_typeIs I n.rd).1
  unfold subscriptTail
  refine wpAny_bind ?_
  rw [getitemInPython_of_ne hT.not_modules]
  refine wpAny_bind (wpAny_specialOf hT PySem.F.slot_dict_getitem.lookup ?_)
  have fin : wpAny (model X.prog X.w) X.A (subscripted slice false (.ref a) (.ref b) >>= fun r => letTemporaryGo value (.ref a) r >>= fun _ => pure r) (EP X pins σ Q) X.xe s := by
    rw [hs]
    exact wpAny_bind (wpAny_operating (n_get hu I n.rd n.dv n.key n.depth hp fun s' I' => wpAny_bind (wpAny_letTemporaryGo (wpAny_pure ⟨w, H, I', rw_, q⟩))))
  first
    | exact wpAny_pure fin
    | exact wpAny_bind (wpAny_pure fin)
    | exact fin
theorem op_inN (hu : X.A.units + 9 < cLine) : OpR X (compareOp .In) rInN := by
  intro pins s σ H x y v u Q I rx ry h
  obtain ⟨a, b, xs, k, rfl, rfl, n, q⟩ := h
  obtain rfl : v = Value.ref b := rx
  obtain rfl : u = Value.ref a := ry
  exact n_in hu I n.rd n.dv n.key n.depth fun s' I' => ⟨.bl _, H, I', rfl, q⟩
theorem op_notInN (hu : X.A.units + 9 < cLine) : OpR X (compareOp .NotIn) rNotInN := by
  intro pins s σ H x y v u Q I rx ry h
  obtain ⟨a, b, xs, k, rfl, rfl, n, q⟩ := h
  obtain rfl : v = Value.ref b := rx
  obtain rfl : u = Value.ref a := ry
  exact n_notIn hu I n.rd n.dv n.key n.depth fun s' I' => ⟨.bl _, H, I', rfl, q⟩
theorem set_dict (hu : X.A.units + 9 < cLine) : PSet X rSetN := by
  intro pins s σ H o i v ov iv u Q I ro ri rv h
  obtain ⟨a, b, xs, k, rfl, rfl, e, n, hl, q⟩ := h
  obtain rfl : ov = Value.ref a := ro
  obtain rfl : iv = Value.ref b := ri
  exact n_set hu I e n.dv n.key n.depth hl fun s' I' => ⟨_, I', q u rv⟩
theorem mt_popN (hu : X.A.units + 9 < cLine) : MtR X "dict.pop" rPopN := by
  intro pins s σ H x vs v us Q I rx rv h
  obtain ⟨a, b, xs, k, p, w, rfl, rfl, e, n, hp, rw_, q⟩ := h
  obtain rfl : v = Value.ref a := rx
  obtain ⟨u, rfl, ru⟩ := rv.one
  obtain rfl : u = Value.ref b := ru
  exact n_pop hu I e n.dv n.key n.depth hp fun s' I' => ⟨w, _, I', rw_, q⟩
theorem mt_getN (hu : X.A.units + 9 < cLine) : MtR X "dict.get" rGetN := by
  intro pins s σ H x vs v us Q I rx rv h
  obtain ⟨a, b, xs, k, d, rfl, rfl, n, q⟩ := h
  obtain rfl : v = Value.ref a := rx
  cases rv with
  | cons r1 r2 =>
    rename_i u0 us0
    cases r2 with
    | cons r3 r4 =>
      cases r4
      obtain rfl : u0 = Value.ref b := r1
      refine n_getOr hu I n.rd n.dv n.key n.depth fun s' I' => ?_
      rcases q with ⟨p, w, hp, rw_, q⟩ | ⟨hp, q⟩
      · rw [hp]; exact ⟨w, H, I', rw_, q⟩
      · rw [hp]; exact ⟨d, H, I', r3, q⟩
def tNNew : TE := fun _ H Q => ∀ p, H p = none → Q (.ref p) (upd H p (dctO p []))
theorem pe_nnew {pos : Pos} : PE X (.Dict [] [] pos) tNNew := ⟨fun pins s σ H Q I h =>
  wpAny_Dict_empty ⟨.ref s.heap.objs.size, _, I.laid (a := s.heap.objs.size) (o := dctO s.heap.objs.size []) (t' := s.toks) (fun _ _ q => Heap.get?_push_of_some _ q) (Nat.le_refl _)
    (dictX_ok (DictX.back (P := X.prog) (w := X.w) (Heap.DictOfH.new s.heap) (fun x hx => nomatch hx) (beq_eq_false_iff_ne.mpr (Ne.symm (Nat.ne_of_lt I.big))) (Nat.zero_le _))), rfl, h _ (I.hok.fresh (Nat.le_refl _))⟩⟩
end
end NL

/-! A small language of plain data over the hand layer: values as trees, lists in a store, and how they stand in the abstract heap. -/
namespace NL
open PySem PySem.Spec PyProof.Rows L2

/-- a value: atoms and tuples as trees; a list by its place in the store -/
inductive D where
  | non | bl (b : Bool) | int (i : Int) | str (x : Str) | tup (xs : List D) | ref (l : Nat)
  deriving Inhabited
/-- what stands at a place of the store: a list of ours, a list that is only read -/
inductive Ob where
  | lst (xs : List D) | frz (xs : List D) | dct (lk : Bool) (kvs : List (D × D))
def Ob.mut : Ob → Bool
  | .frz _ => false
  | _ => true
abbrev Store := List Ob
/-- a list, ours or read -/
def Ob.sq : Ob → Bool
  | .dct _ _ => false
  | _ => true
def sqO (S : Store) (l : Nat) : Option Ob := match S[l]? with
  | some o => if o.sq = true then some o else none
  | none => none
theorem sqO_some {S : Store} {l : Nat} {o : Ob} (h : sqO S l = some o) : S[l]? = some o ∧ o.sq = true := by
  unfold sqO at h
  split at h
  · split at h
    · rename_i e q; cases h; exact ⟨e, q⟩
    · cases h
  · cases h
theorem sqO_of {S : Store} {l : Nat} {o : Ob} (h : S[l]? = some o) (q : o.sq = true) : sqO S l = some o := by
  unfold sqO; rw [h]; simp [q]
theorem sqO_lst {S : Store} {l : Nat} {xs : List D} (h : S[l]? = some (.lst xs)) : sqO S l = some (.lst xs) := sqO_of h rfl
theorem sqO_frz {S : Store} {l : Nat} {xs : List D} (h : S[l]? = some (.frz xs)) : sqO S l = some (.frz xs) := sqO_of h rfl
/-! ### keys -/
mutual
def nkD : D → Option NestedKey
  | .int i => some (.num i)
  | .tup xs => (nkDs xs).map .tup
  | _ => none
def nkDs : List D → Option (List NestedKey)
  | [] => some []
  | x :: xs => match nkD x, nkDs xs with
    | some k, some ks => some (k :: ks)
    | _, _ => none
end
/-- a tuple of whole numbers, nested, as a key -/
def keyD : D → Option NestedKey
  | .tup xs => (nkD (.tup xs)).filter fun k => decide (k.depth ≤ 8)
  | _ => none
/-- an answer: a value, an exception (its class, the place of its dict), or nothing is said -/
inductive R (α : Type) where
  | ok (a : α) (S : Store) | exc (c : Str) (d : Option Nat) (S : Store) | stuck
def R.bind {α β : Type} (r : R α) (f : α → Store → R β) : R β := match r with
  | .ok a S => f a S
  | .exc c d S => .exc c d S
  | .stuck => .stuck
def M (α : Type) := Store → R α
def M.pure {α : Type} (a : α) : M α := fun S => .ok a S
def M.bind {α β : Type} (m : M α) (f : α → M β) : M β := fun S => (m S).bind f
def die {α : Type} : M α := fun _ => .stuck
instance : Monad M where
  pure := M.pure
  bind := M.bind
theorem bind_eq {α β : Type} (m : M α) (f : α → M β) (S : Store) : (m >>= f) S = (m S).bind f := rfl
theorem pure_eq {α : Type} (a : α) (S : Store) : (pure a : M α) S = .ok a S := rfl
theorem bind_as {α β γ : Type} (m : M α) (f : α → M β) (g : β → M γ) : m >>= f >>= g = m >>= fun x => f x >>= g := by
  funext S
  show (R.bind (R.bind (m S) f) g) = R.bind (m S) fun x => M.bind (f x) g
  cases m S <;> rfl
theorem pure_bi {α β : Type} (a : α) (f : α → M β) : (pure a : M α) >>= f = f a := rfl
theorem ite_bi {α β : Type} (c : Prop) [Decidable c] (m n : M α) (f : α → M β) : (if c then m else n) >>= f = if c then m >>= f else n >>= f := by split <;> rfl
/-! ### how values stand in the heap -/
mutual
inductive Rep (m : List Addr) (H : Hp) : D → V → Prop
  | non : Rep m H .non .non
  | bl (b : Bool) : Rep m H (.bl b) (.bl b)
  | int (i : Int) : Rep m H (.int i) (.int i)
  | str (x : Str) : Rep m H (.str x) (.str x)
  | tup {a : Addr} {xs : List D} {vs : List V} : H a = some (.tup vs) → Reps m H xs vs → Rep m H (.tup xs) (.ref a)
  | ref {l : Nat} {a : Addr} : m[l]? = some a → Rep m H (.ref l) (.ref a)
inductive Reps (m : List Addr) (H : Hp) : List D → List V → Prop
  | nil : Reps m H [] []
  | cons {d : D} {v : V} {ds : List D} {vs : List V} : Rep m H d v → Reps m H ds vs → Reps m H (d :: ds) (v :: vs)
end
/-- later: places stay, tuples stay -/
structure Gr (m m' : List Addr) (H H' : Hp) : Prop where
  pre : ∀ (l : Nat) (a : Addr), m[l]? = some a → m'[l]? = some a
  tup : ∀ (a : Addr) (xs : List V), H a = some (.tup xs) → H' a = some (.tup xs)
  frz : ∀ (a : Addr) (o : Obj) (u : HO), H a = some (.frz o u) → H' a = some (.frz o u)
theorem Gr.refl (m : List Addr) (H : Hp) : Gr m m H H := ⟨fun _ _ h => h, fun _ _ h => h, fun _ _ _ h => h⟩
theorem Gr.trans {m m1 m2 : List Addr} {H H1 H2 : Hp} (a : Gr m m1 H H1) (b : Gr m1 m2 H1 H2) : Gr m m2 H H2 :=
  ⟨fun l x h => b.pre l x (a.pre l x h), fun x xs h => b.tup x xs (a.tup x xs h), fun x o u h => b.frz x o u (a.frz x o u h)⟩
mutual
theorem Rep.mono {m m' : List Addr} {H H' : Hp} (g : Gr m m' H H') : ∀ (d : D) (v : V), Rep m H d v → Rep m' H' d v
  | .non, _, h => by cases h; exact .non
  | .bl _, _, h => by cases h; exact .bl _
  | .int _, _, h => by cases h; exact .int _
  | .str _, _, h => by cases h; exact .str _
  | .tup xs, _, h => by
    cases h with
    | tup e r => exact .tup (g.tup _ _ e) (Reps.mono g xs _ r)
  | .ref _, _, h => by
    cases h with
    | ref e => exact .ref (g.pre _ _ e)
theorem Reps.mono {m m' : List Addr} {H H' : Hp} (g : Gr m m' H H') : ∀ (ds : List D) (vs : List V), Reps m H ds vs → Reps m' H' ds vs
  | [], _, h => by cases h; exact .nil
  | d :: ds, _, h => by
    cases h with
    | cons a b => exact .cons (Rep.mono g d _ a) (Reps.mono g ds _ b)
end
section
variable {m : List Addr} {H : Hp}
theorem Reps.length : ∀ {ds : List D} {vs : List V}, Reps m H ds vs → ds.length = vs.length
  | _, _, .nil => rfl
  | _, _, .cons _ t => by rw [List.length_cons, List.length_cons, Reps.length t]
theorem Reps.get : ∀ {ds : List D} {vs : List V} {i : Nat} {d : D}, Reps m H ds vs → ds[i]? = some d → ∃ v, vs[i]? = some v ∧ Rep m H d v
  | _, _, i, d, .nil, e => by simp at e
  | _, _, 0, d, .cons r _, e => by simp at e; subst e; exact ⟨_, rfl, r⟩
  | _, _, i + 1, d, .cons _ t, e => by
    obtain ⟨v, h1, h2⟩ := Reps.get (i := i) t (by simpa using e)
    exact ⟨v, by simpa using h1, h2⟩
theorem Reps.append : ∀ {ds es : List D} {vs us : List V}, Reps m H ds vs → Reps m H es us → Reps m H (ds ++ es) (vs ++ us)
  | _, _, _, _, .nil, s => s
  | _, _, _, _, .cons r t, s => .cons r (Reps.append t s)
theorem Reps.take : ∀ {ds : List D} {vs : List V} (n : Nat), Reps m H ds vs → Reps m H (ds.take n) (vs.take n)
  | _, _, 0, _ => by rw [List.take_zero, List.take_zero]; exact .nil
  | _, _, _ + 1, .nil => by rw [List.take_nil, List.take_nil]; exact .nil
  | _, _, n + 1, .cons r t => by rw [List.take_succ_cons, List.take_succ_cons]; exact .cons r (Reps.take n t)
theorem Reps.drop : ∀ {ds : List D} {vs : List V} (n : Nat), Reps m H ds vs → Reps m H (ds.drop n) (vs.drop n)
  | _, _, 0, r => r
  | _, _, _ + 1, .nil => by rw [List.drop_nil, List.drop_nil]; exact .nil
  | _, _, n + 1, .cons _ t => by rw [List.drop_succ_cons, List.drop_succ_cons]; exact Reps.drop n t
theorem Reps.reverse : ∀ {ds : List D} {vs : List V}, Reps m H ds vs → Reps m H ds.reverse vs.reverse
  | _, _, .nil => .nil
  | _, _, .cons r t => by rw [List.reverse_cons, List.reverse_cons]; exact Reps.append (Reps.reverse t) (.cons r .nil)
theorem Reps.set {d : D} {v : V} (r : Rep m H d v) : ∀ {ds : List D} {vs : List V} (i : Nat), Reps m H ds vs → Reps m H (ds.set i d) (vs.set i v)
  | _, _, _, .nil => .nil
  | _, _, 0, .cons _ t => .cons r t
  | _, _, i + 1, .cons q t => .cons q (Reps.set r i t)
theorem Reps.ints : ∀ (ns : List Int), Reps m H (ns.map D.int) (ns.map V.int)
  | [] => .nil
  | n :: r => .cons (.int n) (Reps.ints r)
end

/-! ### the store -/
/-- a list that is only read: known to the object, or an object of the module -/
def SqF (K : PySem.W.Frag) (H : Hp) (a : Addr) (vs : List V) : Prop :=
  (∃ o, H a = some (.frz o (.lst vs))) ∨
    ∃ (o : Obj) (its : Array Value) (n : Nat), K.lookup a = some o ∧ o.cls = .type "list" ∧ o.dict = none ∧ o.data = .seq its n ∧ its.size ≤ sizeLine ∧ Vals vs its.toList
/-- the pairs of a dict -/
inductive DR (m : List Addr) (H : Hp) : List (D × D) → List (NestedKey × Addr × Value) → Prop
  | nil : DR m H [] []
  | cons {dk dv : D} {k : NestedKey} {b : Addr} {v : V} {u : Value} {r : List (D × D)} {xs : List (NestedKey × Addr × Value)} : Rep m H dk (.ref b) → keyD dk = some k → Rep m H dv v → RelV v u → DR m H r xs → DR m H ((dk, dv) :: r) ((k, b, u) :: xs)
theorem DR.mono {m m' : List Addr} {H H' : Hp} (g : Gr m m' H H') : ∀ {kvs : List (D × D)} {xs : List (NestedKey × Addr × Value)}, DR m H kvs xs → DR m' H' kvs xs
  | _, _, .nil => .nil
  | _, _, .cons a e b c r => .cons (Rep.mono g _ _ a) e (Rep.mono g _ _ b) c (DR.mono g r)
/-- where it stands, locked or not -/
def DictAt (H : Hp) (a : Addr) (lk : Bool) (xs : List (NestedKey × Addr × Value)) : Prop := if lk = true then ∃ od, H a = some (.frz od (dctO a xs)) else H a = some (dctO a xs)
theorem DictAt.rd {H : Hp} {a : Addr} {lk : Bool} {xs : List (NestedKey × Addr × Value)} (h : DictAt H a lk xs) : Rd H a (dctO a xs) := by
  unfold DictAt at h
  split at h
  · obtain ⟨od, h⟩ := h; exact .inr ⟨od, h⟩
  · exact .inl h
theorem DictAt.some {H : Hp} {a : Addr} {lk : Bool} {xs : List (NestedKey × Addr × Value)} (h : DictAt H a lk xs) : ∃ u, H a = some u := by
  unfold DictAt at h
  split at h
  · obtain ⟨od, h⟩ := h; exact ⟨_, h⟩
  · exact ⟨_, h⟩
theorem DictAt.keep {H H' : Hp} {a : Addr} {lk : Bool} {xs : List (NestedKey × Addr × Value)} (h : DictAt H a lk xs) (k : ∀ u, H a = Option.some u → H' a = Option.some u) : DictAt H' a lk xs := by
  unfold DictAt at *
  split at h
  · rename_i e; rw [if_pos e]; obtain ⟨od, h⟩ := h; exact ⟨od, k _ h⟩
  · rename_i e; rw [if_neg e]; exact k _ h
def ObR (K : PySem.W.Frag) (m : List Addr) (H : Hp) (a : Addr) : Ob → Prop
  | .lst xs => ∃ vs, H a = some (.lst vs) ∧ Reps m H xs vs
  | .frz xs => ∃ vs, SqF K H a vs ∧ Reps m H xs vs
  | .dct lk kvs => ∃ xs, DR m H kvs xs ∧ DictAt H a lk xs
structure SR (K : PySem.W.Frag) (m : List Addr) (S : Store) (H : Hp) : Prop where
  len : m.length = S.length
  ob : ∀ (l : Nat) (o : Ob) (a : Addr), S[l]? = some o → m[l]? = some a → ObR K m H a o
  inj : ∀ (l l' : Nat) (a : Addr) (o o' : Ob), m[l]? = some a → m[l']? = some a → S[l]? = some o → S[l']? = some o' → o.mut = true → o'.mut = true → l = l'
section
variable {K : PySem.W.Frag} {m m' : List Addr} {S : Store} {H H' : Hp} {a : Addr}
theorem SqF.sq {vs : List V} (h : SqF K H a vs) : SqL K H a vs := by
  rcases h with ⟨o, h⟩ | h
  · exact .inl (.inr ⟨o, h⟩)
  · exact .inr h
/-- an address of the store at l -/
theorem SR.at_ (r : SR K m S H) {l : Nat} {o : Ob} (h : S[l]? = some o) : ∃ a, m[l]? = some a ∧ ObR K m H a o := by
  have hl : l < m.length := by rw [r.len]; exact (List.getElem?_eq_some_iff.mp h).1
  exact ⟨m[l], List.getElem?_eq_getElem hl, r.ob l o _ h (List.getElem?_eq_getElem hl)⟩
/-- what a list holds, read -/
def items : Ob → List D
  | .lst xs => xs
  | .frz xs => xs
  | .dct _ _ => []
theorem ObR.sq {o : Ob} (hq : o.sq = true) (h : ObR K m H a o) : ∃ vs, SqL K H a vs ∧ Reps m H (items o) vs := by
  cases o with
  | lst xs => obtain ⟨vs, e, r⟩ := h; exact ⟨vs, SqL.of e, r⟩
  | frz xs => obtain ⟨vs, e, r⟩ := h; exact ⟨vs, e.sq, r⟩
  | dct lk kvs => cases hq
/-- a fresh address is none of the store's own -/
theorem SR.fresh (r : SR K m S H) {p : Addr} (hp : H p = none) {l : Nat} {o : Ob} (h : S[l]? = some o) (hm : o.mut = true) : m[l]? ≠ some p := fun e => by
  have q := r.ob l o p h e
  cases o with
  | lst xs => obtain ⟨vs, e', _⟩ := q; rw [hp] at e'; cases e'
  | frz xs => exact absurd hm Bool.false_ne_true
  | dct lk kvs =>
    obtain ⟨xs, _, d⟩ := q
    obtain ⟨u, e'⟩ := d.some
    rw [hp] at e'; cases e'
theorem Gr.upd_new {o : HO} {p : Addr} (hp : H p = none) : Gr m m H (upd H p o) := ⟨fun _ _ h => h, fun a xs h => by rw [upd_ne (ne_of_none h hp)]; exact h, fun a _ _ h => by rw [upd_ne (ne_of_none h hp)]; exact h⟩
theorem Gr.push {p : Addr} : Gr m (m ++ [p]) H H := ⟨fun l a h => by rw [List.getElem?_append_left (List.getElem?_eq_some_iff.mp h).1]; exact h, fun _ _ h => h, fun _ _ _ h => h⟩
theorem Gr.push_new {o : HO} {p : Addr} (hp : H p = none) : Gr m (m ++ [p]) H (upd H p o) := Gr.trans (Gr.upd_new hp) Gr.push
theorem ObR.keep {o : Ob} (g : Gr m m' H H') (h : ObR K m H a o) (k : ∀ u, H a = some u → H' a = some u) : ObR K m' H' a o := by
  cases o with
  | lst xs => obtain ⟨vs, e, r⟩ := h; exact ⟨vs, k _ e, Reps.mono g _ _ r⟩
  | frz xs =>
    obtain ⟨vs, e, r⟩ := h
    refine ⟨vs, ?_, Reps.mono g _ _ r⟩
    rcases e with ⟨o, e⟩ | e
    · exact .inl ⟨o, k _ e⟩
    · exact .inr e
  | dct lk kvs =>
    obtain ⟨xs, r, d⟩ := h
    exact ⟨xs, r.mono g, d.keep k⟩
/-- nothing of the store is touched by a new thing that is not in it (a tuple) -/
theorem SR.new (r : SR K m S H) {p : Addr} {o : HO} (hp : H p = none) : SR K m S (upd H p o) :=
  ⟨r.len, fun l ob a h e => (r.ob l ob a h e).keep (Gr.upd_new hp) fun u q => by rw [upd_ne (ne_of_none q hp)]; exact q, r.inj⟩
/-- a new list -/
theorem SR.alloc (r : SR K m S H) {p : Addr} {xs : List D} {vs : List V} (hp : H p = none) (hx : Reps m H xs vs) : SR K (m ++ [p]) (S ++ [.lst xs]) (upd H p (.lst vs)) := by
  have g : Gr m (m ++ [p]) H (upd H p (.lst vs)) := Gr.push_new hp
  have hn : (m ++ [p])[S.length]? = some p := by rw [← r.len]; simp
  refine ⟨by simp [r.len], fun l ob a h e => ?_, fun l l' a o o' h1 h2 h3 h4 hm hm' => ?_⟩
  · by_cases hl : l < S.length
    · rw [List.getElem?_append_left hl] at h
      rw [List.getElem?_append_left (by rw [r.len]; exact hl)] at e
      exact (r.ob l ob a h e).keep g fun u q => by rw [upd_ne (ne_of_none q hp)]; exact q
    · have e1 : l = S.length := by
        have := (List.getElem?_eq_some_iff.mp h).1
        simp at this; omega
      subst e1
      rw [hn] at e
      simp at h
      cases e
      subst h
      exact ⟨vs, upd_same, Reps.mono g _ _ hx⟩
  · have key : ∀ {l : Nat} {o : Ob}, (S ++ [Ob.lst xs])[l]? = some o → l < S.length ∧ S[l]? = some o ∨ l = S.length := fun {l o} h => by
      by_cases hl : l < S.length
      · rw [List.getElem?_append_left hl] at h
        exact .inl ⟨hl, h⟩
      · have := (List.getElem?_eq_some_iff.mp h).1
        simp at this
        exact .inr (by omega)
    rcases key h3 with ⟨k1, k2⟩ | k1
    · rw [List.getElem?_append_left (by rw [r.len]; exact k1)] at h1
      rcases key h4 with ⟨k3, k4⟩ | k3
      · rw [List.getElem?_append_left (by rw [r.len]; exact k3)] at h2
        exact r.inj l l' a o o' h1 h2 k2 k4 hm hm'
      · subst k3
        rw [hn] at h2; cases h2
        exact absurd h1 (r.fresh hp k2 hm)
    · subst k1
      rw [hn] at h1; cases h1
      rcases key h4 with ⟨k3, k4⟩ | k3
      · rw [List.getElem?_append_left (by rw [r.len]; exact k3)] at h2
        exact absurd h2 (r.fresh hp k4 hm')
      · exact k3.symm
/-- a list of ours is written -/
theorem Gr.write {p : Addr} {vs vs' : List V} (hp : H p = some (.lst vs)) : Gr m m H (upd H p (.lst vs')) :=
  ⟨fun _ _ h => h, fun a xs h => by rw [upd_ne (ne_of h hp (by intro z; cases z))]; exact h, fun a _ _ h => by rw [upd_ne (ne_of h hp (by intro z; cases z))]; exact h⟩
theorem SR.write (r : SR K m S H) {l : Nat} {p : Addr} {xs xs' : List D} {vs vs' : List V} (hl : S[l]? = some (.lst xs)) (hm : m[l]? = some p) (hp : H p = some (.lst vs)) (hx : Reps m H xs' vs') :
    SR K m (S.set l (.lst xs')) (upd H p (.lst vs')) := by
  have g : Gr m m H (upd H p (.lst vs')) := Gr.write hp
  have hlt : l < S.length := (List.getElem?_eq_some_iff.mp hl).1
  refine ⟨by rw [List.length_set]; exact r.len, fun k ob a h e => ?_, fun k k' a o o' h1 h2 h3 h4 hm1 hm2 => ?_⟩
  · by_cases hk : l = k
    · subst hk
      rw [List.getElem?_set_self hlt] at h
      cases h
      rw [hm] at e; cases e
      exact ⟨vs', upd_same, Reps.mono g _ _ hx⟩
    · rw [List.getElem?_set_ne hk] at h
      have q := r.ob k ob a h e
      cases ob with
      | lst ys =>
        refine q.keep g fun u hu => ?_
        rw [upd_ne (fun z => hk (r.inj l k a _ _ (by rw [z]; exact hm) e hl h rfl rfl))]; exact hu
      | frz ys =>
        obtain ⟨ws, hw, rw'⟩ := q
        refine ⟨ws, ?_, Reps.mono g _ _ rw'⟩
        rcases hw with ⟨o, e'⟩ | e'
        · refine .inl ⟨o, ?_⟩
          rw [upd_ne (ne_of e' hp (by intro z; cases z))]; exact e'
        · exact .inr e'
      | dct lk kvs =>
        refine q.keep g fun u hu => ?_
        rw [upd_ne (fun z => hk (r.inj l k a _ _ (by rw [z]; exact hm) e hl h rfl rfl))]; exact hu
  · have key : ∀ {j : Nat} {o : Ob}, (S.set l (.lst xs'))[j]? = some o → o.mut = true → ∃ o1, S[j]? = some o1 ∧ o1.mut = true := fun {j o} h hmu => by
      by_cases hj : l = j
      · subst hj; exact ⟨_, hl, rfl⟩
      · rw [List.getElem?_set_ne hj] at h
        exact ⟨o, h, hmu⟩
    obtain ⟨o1, q1, q2⟩ := key h3 hm1
    obtain ⟨o2, q3, q4⟩ := key h4 hm2
    exact r.inj k k' a o1 o2 h1 h2 q1 q3 q2 q4
end
end NL

/-! What an operation answers, and that the machine answers so. -/
namespace NL
open PySem PySem.Spec PyProof.Rows L2
/-! ### what is wanted behind -/
def post {α : Type} (K : PySem.W.Frag) (E : Str → Option Nat → List Addr → Store → Hp → Prop) (m : List Addr) (H : Hp) (r : R α) (F : α → List Addr → Store → Hp → Prop) : Prop :=
  match r with
  | .ok a S => ∀ m' H', Gr m m' H H' → SR K m' S H' → F a m' S H'
  | .exc c d S => ∀ m' H', Gr m m' H H' → SR K m' S H' → E c d m' S H'
  | .stuck => False
def E0x : Str → Option Nat → List Addr → Store → Hp → Prop := fun _ _ _ _ _ => False
section
variable {α β : Type} {K : PySem.W.Frag} {E E' : Str → Option Nat → List Addr → Store → Hp → Prop} {m : List Addr} {H : Hp} {r : R α} {F G : α → List Addr → Store → Hp → Prop}
theorem post_mono (h : post K E m H r F) (k : ∀ a m' S' H', Gr m m' H H' → SR K m' S' H' → F a m' S' H' → G a m' S' H') : post K E m H r G := by
  cases r with
  | ok a S => exact fun m' H' g s => k a m' S H' g s (h m' H' g s)
  | exc c d S => exact h
  | stuck => exact h
theorem post_monoE (h : post K E m H r F) (k : ∀ c d m' S' H', Gr m m' H H' → SR K m' S' H' → E c d m' S' H' → E' c d m' S' H') : post K E' m H r F := by
  cases r with
  | ok a S => exact h
  | exc c d S => exact fun m' H' g s => k c d m' S H' g s (h m' H' g s)
  | stuck => exact h
/-- from a later state on -/
theorem post_later {m1 : List Addr} {H1 : Hp} (g : Gr m m1 H H1) (h : post K E m H r F) : post K E m1 H1 r F := by
  cases r with
  | ok a S => exact fun m' H' g' s => h m' H' (g.trans g') s
  | exc c d S => exact fun m' H' g' s => h m' H' (g.trans g') s
  | stuck => exact h
theorem post_bind {f : α → Store → R β} {F : β → List Addr → Store → Hp → Prop} (h : post K E m H (r.bind f) F) : post K E m H r (fun a m1 S1 H1 => post K E m1 H1 (f a S1) F) := by
  cases r with
  | ok a S => exact fun m' H' g s => post_later g (show post K E m H (f a S) F from h)
  | exc c d S => exact h
  | stuck => exact h
theorem post_now {a : α} {S : Store} (s : SR K m S H) (h : post K E m H (.ok a S) F) : F a m S H := h m H (Gr.refl m H) s
theorem post_gr {a : α} {S : Store} {m' : List Addr} {H' : Hp} (h : post K E m H (.ok a S) F) (g : Gr m m' H H') (s : SR K m' S H') : F a m' S H' := h m' H' g s
end

/-! ### answers -/
def MulOk (i j : Int) : Prop := ∃ a b : Nat, i.natAbs < 2 ^ a ∧ j.natAbs < 2 ^ b ∧ a + b ≤ 130000000
theorem MulOk.ok {i j : Int} (h : MulOk i j) : IntMulOk i j := by
  obtain ⟨a, b, h1, h2, h3⟩ := h
  have bd : ∀ (x : Int) (n : Nat), x.natAbs < 2 ^ n → Builtin.Int.intBits x ≤ n + 1 := fun x n hx => by
    unfold Builtin.Int.intBits
    by_cases hn : n = 0
    · subst hn
      have e : x.natAbs = 0 := by simpa using hx
      split <;> simp_all
    · have l := PySem.Flt.log2_lt_of (Nat.pos_of_ne_zero hn) hx
      split <;> omega
  have e1 := bd i a h1
  have e2 := bd j b h2
  have e : bitsLine = 134217728 := by decide
  unfold IntMulOk
  intro z
  rw [Bool.and_eq_true] at z
  have z2 := z.2
  unfold Builtin.Int.intTooBig at z2
  have z3 := of_decide_eq_true z2
  rw [e] at z3
  omega
inductive Bop where | add | sub | mul | fdiv | mod | pow
inductive Cop where | lt | le | gt | ge | eq | ne | isIn | notIn | is_ | isNot
  deriving DecidableEq
def alloc (o : Ob) : M D := fun S => .ok (.ref S.length) (S ++ [o])
/-- the items of a list -/
def getL (l : Nat) : M (List D) := fun S => match sqO S l with
  | some o => .ok (items o) S
  | none => .stuck
/-- .. of a list of ours -/
def getM (l : Nat) : M (List D) := fun S => match S[l]? with
  | some (.lst xs) => .ok xs S
  | _ => .stuck
open Classical in
noncomputable def binD : Bop → D → D → M D
  | .add, .int i, .int j => pure (.int (i + j))
  | .add, .ref l, .ref k => getM l >>= fun xs => getM k >>= fun ys => if xs.length + ys.length ≤ sizeLine then alloc (.lst (xs ++ ys)) else die
  | .sub, .int i, .int j => pure (.int (i - j))
  | .mul, .int i, .int j => if MulOk i j then pure (.int (i * j)) else die
  | .mul, .ref l, .int n => getM l >>= fun xs => if -(2 ^ 63) ≤ n ∧ n < 2 ^ 63 ∧ xs.length * n.toNat ≤ sizeLine then alloc (.lst (List.replicate n.toNat xs).flatten) else die
  | .fdiv, .int i, .int j => if j ≠ 0 ∧ j.natAbs.log2 < 9000 then pure (.int (i.fdiv j)) else die
  | .mod, .int i, .int j => if j ≠ 0 then pure (.int (i.fmod j)) else die
  | .pow, .int i, .int j => if 0 ≤ j ∧ (Builtin.Int.intBits i : Int) * j ≤ 2 ^ 27 then pure (.int (i ^ j.toNat)) else die
  | _, _, _ => die
def negD : D → M D
  | .int i => pure (.int (-i))
  | _ => die
def mapO {α β : Type} (f : α → Option β) : List α → Option (List β)
  | [] => some []
  | x :: xs => match f x, mapO f xs with
    | some y, some ys => some (y :: ys)
    | _, _ => none
/-- a value as plain data -/
def pd (S : Store) : Nat → D → Option PyData
  | _, .non => some .none
  | _, .bl b => some (.bool b)
  | _, .int i => some (.int i)
  | _, .str x => if PyData.strOk x = true then some (.str x) else none
  | 0, .tup _ => none
  | 0, .ref _ => none
  | k + 1, .tup xs => (mapO (pd S k) xs).map .tuple
  | k + 1, .ref l => match sqO S l with
    | some o => (mapO (pd S k) (items o)).map .list
    | none => none
def eqD (S : Store) (x y : D) : Option Bool := match pd S 12 x, pd S 12 y with
  | some p, some q => some (PyData.eqv p q)
  | _, _ => none
def ord4 : Cop → Int → Int → Bool
  | .lt, i, j => decide (i < j)
  | .le, i, j => decide (i ≤ j)
  | .gt, i, j => decide (j < i)
  | .ge, i, j => decide (j ≤ i)
  | _, _, _ => false
/-- from the first place at which two lists differ -/
def lexO (o : Cop) (f : D → D → Option Bool) : List D → List D → Option Bool
  | [], [] => some (ord4 o 0 0)
  | [], _ :: _ => some (ord4 o 0 1)
  | _ :: _, [] => some (ord4 o 1 0)
  | x :: xs, y :: ys => match eqD [] x y with
    | some true => lexO o f xs ys
    | some false => f x y
    | none => none
/-- the order of two values -/
def ordD (o : Cop) : Nat → D → D → Option Bool
  | _, .int i, .int j => some (ord4 o i j)
  | k + 1, .tup xs, .tup ys => if ((xs.zip ys).all fun p => match eqD [] p.1 p.2 with
      | some true => true
      | some false => (ordD o k p.1 p.2).isSome
      | none => false) = true then lexO o (ordD o k) xs ys else none
  | _, _, _ => none
def isD : D → D → Option Bool
  | x, .non => some (match x with | .non => true | _ => false)
  | x, .bl b => some (match x with | .bl c => b == c | _ => false)
  | _, _ => none
/-- what a dict has at a key -/
def findK (kvs : List (D × D)) (k : NestedKey) : Option D := (kvs.find? fun p => decide (keyD p.1 = some k)).map (·.2)
def inD (S : Store) (x y : D) : Option Bool :=
  match y with
  | .tup ys => (match pd S 12 x, mapO (pd S 12) ys with
    | some p, some qs => some (qs.any fun q => PyData.eqv q p)
    | _, _ => none)
  | .ref l => (match sqO S l with
    | some o => (match pd S 12 x, mapO (pd S 12) (items o) with
      | some p, some qs => some (qs.any fun q => PyData.eqv q p)
      | _, _ => none)
    | none => (match S[l]? with
      | some (.dct _ kvs) => (keyD x).map fun k => (findK kvs k).isSome
      | _ => none))
  | _ => none
def ofB (b : Option Bool) : M D := match b with
  | some b => pure (.bl b)
  | none => die
/-- lists of whole numbers, from the first place at which they differ -/
def ltLI : List Int → List Int → Bool
  | [], [] => false
  | [], _ :: _ => true
  | _ :: _, [] => false
  | x :: xs, y :: ys => if x = y then ltLI xs ys else decide (x < y)
def intsP : List PyData → Option (List Int)
  | [] => some []
  | .int i :: r => (intsP r).map (i :: ·)
  | _ => none
def ltQ : Option PyData → Option PyData → Option Bool
  | some (.list ps), some (.list qs) => (match intsP ps, intsP qs with
    | some ns, some ms => some (ltLI ns ms)
    | _, _ => none)
  | _, _ => none
def cmpD : Cop → D → D → M D
  | .lt, .ref l, .ref k => fun S => ofB (ltQ (pd S 12 (.ref l)) (pd S 12 (.ref k))) S
  | .gt, .ref l, .ref k => fun S => ofB (ltQ (pd S 12 (.ref k)) (pd S 12 (.ref l))) S
  | .eq, x, y => fun S => ofB (eqD S x y) S
  | .ne, x, y => fun S => ofB ((eqD S x y).map (!·)) S
  | .isIn, x, y => fun S => ofB (inD S x y) S
  | .notIn, x, y => fun S => ofB ((inD S x y).map (!·)) S
  | .is_, x, y => ofB (isD x y)
  | .isNot, x, y => ofB ((isD x y).map (!·))
  | o, x, y => ofB (ordD o 12 x y)
/-- the pairs of a dict -/
def getN (l : Nat) : M (Bool × List (D × D)) := fun S => match S[l]? with
  | some (.dct lk kvs) => .ok (lk, kvs) S
  | _ => .stuck
def keyM (d : D) : M NestedKey := match keyD d with
  | some k => pure k
  | none => die
def optM (o : Option D) : M D := match o with
  | some d => pure d
  | none => die
/-- d[k], d a dict -/
def dgetM (l : Nat) (x : D) : M D := getN l >>= fun p => keyM x >>= fun k => optM (findK p.2 k)
/-- a[i] -/
def ixD : D → D → M D
  | .tup xs, .int i => match atI xs i with | some d => pure d | none => die
  | .ref l, .int i => getL l >>= fun xs => match atI xs i with | some d => pure d | none => die
  | .ref l, .tup ys => dgetM l (.tup ys)
  | _, _ => die
/-- the truth of a value -/
def truD : D → M Bool
  | .bl b => pure b
  | _ => die
end NL

/-! Dicts in the store. -/
namespace NL
open PySem PySem.Spec PyProof.Rows L2
mutual
theorem Rep.keepT {m : List Addr} {H H' : Hp} (g : ∀ a xs, H a = some (.tup xs) → H' a = some (.tup xs)) : ∀ (d : D) (v : V), Rep m H d v → Rep m H' d v
  | .non, _, h => by cases h; exact .non
  | .bl _, _, h => by cases h; exact .bl _
  | .int _, _, h => by cases h; exact .int _
  | .str _, _, h => by cases h; exact .str _
  | .tup xs, _, h => by
    cases h with
    | tup e r => exact .tup (g _ _ e) (Reps.keepT g xs _ r)
  | .ref _, _, h => by
    cases h with
    | ref e => exact .ref e
theorem Reps.keepT {m : List Addr} {H H' : Hp} (g : ∀ a xs, H a = some (.tup xs) → H' a = some (.tup xs)) : ∀ (ds : List D) (vs : List V), Reps m H ds vs → Reps m H' ds vs
  | [], _, h => by cases h; exact .nil
  | d :: ds, _, h => by
    cases h with
    | cons a b => exact .cons (Rep.keepT g d _ a) (Reps.keepT g ds _ b)
end
theorem DR.keepT {m : List Addr} {H H' : Hp} (g : ∀ a xs, H a = some (.tup xs) → H' a = some (.tup xs)) : ∀ {kvs : List (D × D)} {xs : List (NestedKey × Addr × Value)}, DR m H kvs xs → DR m H' kvs xs
  | _, _, .nil => .nil
  | _, _, .cons a e b c r => .cons (Rep.keepT g _ _ a) e (Rep.keepT g _ _ b) c (DR.keepT g r)
section
variable {m : List Addr} {H : Hp}
mutual
theorem nk_v : ∀ {d : D} {v : V} {k : NestedKey}, nkD d = some k → Rep m H d v → NKv H k v
  | .int i, _, k, h, r => by
    unfold nkD at h
    cases h; cases r; exact .int i
  | .tup xs, _, k, h, r => by
    unfold nkD at h
    obtain ⟨ks, h1, rfl⟩ := Option.map_eq_some_iff.mp h
    cases r with
    | tup e r => exact .tup e (nks_v h1 r)
  | .non, _, _, h, _ => by unfold nkD at h; cases h
  | .bl _, _, _, h, _ => by unfold nkD at h; cases h
  | .str _, _, _, h, _ => by unfold nkD at h; cases h
  | .ref _, _, _, h, _ => by unfold nkD at h; cases h
theorem nks_v : ∀ {ds : List D} {vs : List V} {ks : List NestedKey}, nkDs ds = some ks → Reps m H ds vs → NKvs H ks vs
  | [], _, ks, h, r => by
    unfold nkDs at h
    cases h; cases r; exact .nil
  | d :: ds, _, ks, h, r => by
    unfold nkDs at h
    cases e1 : nkD d with
    | none => rw [e1] at h; cases h
    | some k =>
      cases e2 : nkDs ds with
      | none => rw [e1, e2] at h; cases h
      | some ks' =>
        rw [e1, e2] at h
        cases h
        cases r with
        | cons a b => exact .cons (nk_v e1 a) (nks_v e2 b)
end
theorem key_v {d : D} {v : V} {k : NestedKey} (h : keyD d = some k) (r : Rep m H d v) : ∃ b, v = .ref b ∧ NKv H k (.ref b) ∧ k.depth ≤ 8 := by
  cases d with
  | tup xs =>
    unfold keyD at h
    obtain ⟨h1, h2⟩ := Option.filter_eq_some_iff.mp h
    cases r with
    | tup e r => exact ⟨_, rfl, nk_v h1 (.tup e r), of_decide_eq_true h2⟩
  | _ => cases h
theorem DR.dv : ∀ {kvs : List (D × D)} {xs : List (NestedKey × Addr × Value)}, DR m H kvs xs → DV H xs
  | _, _, .nil => fun x hx => nomatch hx
  | _, _, .cons a e b c r => fun x hx => by
    rcases List.mem_cons.mp hx with rfl | hx
    · obtain ⟨b, e1, e2, e3⟩ := key_v e a
      cases e1
      exact ⟨e2, e3⟩
    · exact DR.dv r x hx
theorem DR.find (k : NestedKey) : ∀ {kvs : List (D × D)} {xs : List (NestedKey × Addr × Value)}, DR m H kvs xs → (findK kvs k = none ∧ atKey xs k = none) ∨ ∃ dv p v, findK kvs k = some dv ∧ atKey xs k = some p ∧ Rep m H dv v ∧ RelV v p.2
  | _, _, .nil => .inl ⟨rfl, rfl⟩
  | _, _, .cons (dk := dk) (dv := dv) (k := k') (b := b) (u := u) (r := r) (xs := xs) a e rb c t => by
    have ih := DR.find k t
    unfold findK atKey at ih ⊢
    rw [List.find?_cons, List.find?_cons]
    by_cases h : k' = k
    · subst h
      have h1 : decide (keyD dk = some k') = true := decide_eq_true e
      have h2 : decide (k' = k') = true := decide_eq_true rfl
      rw [h1, h2]
      exact .inr ⟨dv, _, _, rfl, rfl, rb, c⟩
    · have h1 : decide (keyD dk = some k) = false := decide_eq_false (fun z => h (Option.some.inj (e.symm.trans z)))
      have h2 : decide (k' = k) = false := decide_eq_false h
      rw [h1, h2]
      exact ih
def putD (kvs : List (D × D)) (k : NestedKey) (dk dv : D) : List (D × D) := if (findK kvs k).isSome = true then kvs.map (fun p => if keyD p.1 = some k then (p.1, dv) else p) else kvs ++ [(dk, dv)]
def dropD (kvs : List (D × D)) (k : NestedKey) : List (D × D) := kvs.filter fun p => decide (keyD p.1 ≠ some k)
theorem DR.app : ∀ {kvs kvs' : List (D × D)} {xs xs' : List (NestedKey × Addr × Value)}, DR m H kvs xs → DR m H kvs' xs' → DR m H (kvs ++ kvs') (xs ++ xs')
  | _, _, _, _, .nil, s => s
  | _, _, _, _, .cons a e b c r, s => .cons a e b c (DR.app r s)
theorem DR.put {k : NestedKey} {dk dv : D} {b : Addr} {v : V} {u : Value} {kvs : List (D × D)} {xs : List (NestedKey × Addr × Value)} (r : DR m H kvs xs) (rk : Rep m H dk (.ref b)) (hk : keyD dk = some k) (rv : Rep m H dv v) (ru : RelV v u) : DR m H (putD kvs k dk dv) (storedH xs k b u) := by
  have rep : ∀ {kvs : List (D × D)} {xs : List (NestedKey × Addr × Value)}, DR m H kvs xs → DR m H (kvs.map fun p => if keyD p.1 = some k then (p.1, dv) else p) (xs.map (putAt k u)) := by
    intro kvs xs r
    induction r with
    | nil => exact .nil
    | @cons dk' dv' k' b' v' u' r' xs' a e b c t ih =>
      rw [List.map_cons, List.map_cons]
      unfold putAt
      by_cases h : k' = k
      · subst h
        rw [if_pos e, if_pos rfl]
        exact .cons a e rv ru ih
      · rw [if_neg (fun z => h (Option.some.inj (e.symm.trans z))), if_neg h]
        exact .cons a e b c ih
  unfold putD storedH
  rcases DR.find k r with ⟨e1, e2⟩ | ⟨dv', p, v', e1, e2, _, _⟩
  · rw [e1, e2, if_neg (by decide), if_neg (by decide)]
    exact r.app (.cons rk hk rv ru .nil)
  · rw [e1, e2]
    simp only [Option.isSome_some, if_true]
    exact rep r
theorem DR.drop (k : NestedKey) : ∀ {kvs : List (D × D)} {xs : List (NestedKey × Addr × Value)}, DR m H kvs xs → DR m H (dropD kvs k) (withoutH xs k)
  | _, _, .nil => .nil
  | _, _, .cons (dk := dk) (k := k') a e b c r => by
    have ih := DR.drop k r
    unfold dropD withoutH at ih ⊢
    rw [List.filter_cons, List.filter_cons]
    by_cases h : k' = k
    · subst h
      rw [if_neg (by simp [e]), if_neg (by simp)]
      exact ih
    · have h1 : decide (keyD dk ≠ some k) = true := decide_eq_true (p := keyD dk ≠ some k) fun z => h (Option.some.inj (e.symm.trans z))
      have h2 : decide (k' ≠ k) = true := decide_eq_true (p := k' ≠ k) h
      simp only [h1, h2, if_true]
      exact .cons a e b c ih
theorem DR.len : ∀ {kvs : List (D × D)} {xs : List (NestedKey × Addr × Value)}, DR m H kvs xs → kvs.length = xs.length
  | _, _, .nil => rfl
  | _, _, .cons _ _ _ _ r => by rw [List.length_cons, List.length_cons, DR.len r]
theorem DR.get : ∀ {kvs : List (D × D)} {xs : List (NestedKey × Addr × Value)} {i : Nat} {p : D × D}, DR m H kvs xs → kvs[i]? = some p → ∃ k b u v, xs[i]? = some (k, b, u) ∧ Rep m H p.1 (.ref b) ∧ Rep m H p.2 v ∧ RelV v u
  | _, _, i, p, .nil, h => by simp at h
  | _, _, 0, p, .cons a e b c r, h => by simp at h; subst h; exact ⟨_, _, _, _, rfl, a, b, c⟩
  | _, _, i + 1, p, .cons a e b c r, h => by
    obtain ⟨k, b', u, v, h1, h2, h3, h4⟩ := DR.get (i := i) r (by simpa using h)
    exact ⟨k, b', u, v, by simpa using h1, h2, h3, h4⟩
end
section
variable {K : PySem.W.Frag} {m m' : List Addr} {S : Store} {H H' : Hp} {a : Addr}
theorem SR.dct_at (s : SR K m S H) {l : Nat} {lk : Bool} {kvs : List (D × D)} (h : S[l]? = some (.dct lk kvs)) (e : m[l]? = some a) : ∃ xs, DR m H kvs xs ∧ DictAt H a lk xs := s.ob l _ a h e
/-- something new -/
theorem SR.allocG (r : SR K m S H) {p : Addr} {o : Ob} {u : HO} (hp : H p = none) (ho : ObR K (m ++ [p]) (upd H p u) p o) : SR K (m ++ [p]) (S ++ [o]) (upd H p u) := by
  have g : Gr m (m ++ [p]) H (upd H p u) := Gr.push_new hp
  have hn : (m ++ [p])[S.length]? = some p := by rw [← r.len]; simp
  refine ⟨by simp [r.len], fun l ob a h e => ?_, fun l l' a o1 o2 h1 h2 h3 h4 hm hm' => ?_⟩
  · by_cases hl : l < S.length
    · rw [List.getElem?_append_left hl] at h
      rw [List.getElem?_append_left (by rw [r.len]; exact hl)] at e
      exact (r.ob l ob a h e).keep g fun u q => by rw [upd_ne (ne_of_none q hp)]; exact q
    · have e1 : l = S.length := by
        have := (List.getElem?_eq_some_iff.mp h).1
        simp at this; omega
      subst e1
      rw [hn] at e
      simp at h
      cases e
      subst h
      exact ho
  · have key : ∀ {l : Nat} {o' : Ob}, (S ++ [o])[l]? = some o' → l < S.length ∧ S[l]? = some o' ∨ l = S.length := fun {l o'} h => by
      by_cases hl : l < S.length
      · rw [List.getElem?_append_left hl] at h
        exact .inl ⟨hl, h⟩
      · have := (List.getElem?_eq_some_iff.mp h).1
        simp at this
        exact .inr (by omega)
    rcases key h3 with ⟨k1, k2⟩ | k1
    · rw [List.getElem?_append_left (by rw [r.len]; exact k1)] at h1
      rcases key h4 with ⟨k3, k4⟩ | k3
      · rw [List.getElem?_append_left (by rw [r.len]; exact k3)] at h2
        exact r.inj l l' a o1 o2 h1 h2 k2 k4 hm hm'
      · subst k3
        rw [hn] at h2; cases h2
        exact absurd h1 (r.fresh hp k2 hm)
    · subst k1
      rw [hn] at h1; cases h1
      rcases key h4 with ⟨k3, k4⟩ | k3
      · rw [List.getElem?_append_left (by rw [r.len]; exact k3)] at h2
        exact absurd h2 (r.fresh hp k4 hm')
      · exact k3.symm
/-- a thing of ours is written: neither a tuple nor a list that is only read -/
theorem SR.writeG (r : SR K m S H) {l : Nat} {p : Addr} {o o' : Ob} {u : HO} (hl : S[l]? = some o) (mo : o.mut = true) (mo' : o'.mut = true) (hm : m[l]? = some p) (nt : ∀ vs, H p ≠ some (.tup vs)) (nf : ∀ q vs, H p ≠ some (.frz q (.lst vs)))
    (ho : ObR K m (upd H p u) p o') : SR K m (S.set l o') (upd H p u) := by
  have g : ∀ a xs, H a = some (.tup xs) → upd H p u a = some (.tup xs) := fun a xs h => by
    rw [upd_ne (fun z => nt xs (by rw [← z]; exact h))]; exact h
  have hlt : l < S.length := (List.getElem?_eq_some_iff.mp hl).1
  have other : ∀ {k : Nat} {ob : Ob} {a : Addr}, l ≠ k → S[k]? = some ob → m[k]? = some a → ob.mut = true → a ≠ p := fun hk h e hmu z => hk (r.inj l _ _ _ _ (by rw [z]; exact hm) e hl h mo hmu)
  refine ⟨by rw [List.length_set]; exact r.len, fun k ob a h e => ?_, fun k k' a o1 o2 h1 h2 h3 h4 hm1 hm2 => ?_⟩
  · by_cases hk : l = k
    · subst hk
      rw [List.getElem?_set_self hlt] at h
      cases h
      rw [hm] at e; cases e
      exact ho
    · rw [List.getElem?_set_ne hk] at h
      have q := r.ob k ob a h e
      cases ob with
      | lst ys =>
        obtain ⟨vs, e1, e2⟩ := q
        exact ⟨vs, by rw [upd_ne (other hk h e rfl)]; exact e1, Reps.keepT g _ _ e2⟩
      | frz ys =>
        obtain ⟨ws, hw, rw'⟩ := q
        refine ⟨ws, ?_, Reps.keepT g _ _ rw'⟩
        rcases hw with ⟨o, e'⟩ | e'
        · refine .inl ⟨o, ?_⟩
          rw [upd_ne (fun z => nf o ws (by rw [← z]; exact e'))]; exact e'
        · exact .inr e'
      | dct lk kvs =>
        obtain ⟨xs, e1, e2⟩ := q
        exact ⟨xs, e1.keepT g, e2.keep fun u' hu => by rw [upd_ne (other hk h e rfl)]; exact hu⟩
  · have key : ∀ {j : Nat} {o1 : Ob}, (S.set l o')[j]? = some o1 → o1.mut = true → ∃ o2, S[j]? = some o2 ∧ o2.mut = true := fun {j o1} h hmu => by
      by_cases hj : l = j
      · subst hj; exact ⟨_, hl, mo⟩
      · rw [List.getElem?_set_ne hj] at h
        exact ⟨o1, h, hmu⟩
    obtain ⟨o3, q1, q2⟩ := key h3 hm1
    obtain ⟨o4, q3, q4⟩ := key h4 hm2
    exact r.inj k k' a o3 o4 h1 h2 q1 q3 q2 q4
theorem SR.newD (r : SR K m S H) {p : Addr} (hp : H p = none) : SR K (m ++ [p]) (S ++ [.dct false []]) (upd H p (dctO p [])) := r.allocG hp ⟨[], .nil, by unfold DictAt; rw [if_neg (by decide)]; exact upd_same⟩
theorem dictAt_f {xs : List (NestedKey × Addr × Value)} : DictAt H a false xs ↔ H a = some (dctO a xs) := by unfold DictAt; simp
theorem Gr.writeD {p : Addr} {xs : List (NestedKey × Addr × Value)} {u : HO} (hp : H p = some (dctO p xs)) : Gr m m H (upd H p u) :=
  ⟨fun _ _ h => h, fun a xs h => by rw [upd_ne (ne_of h hp (by intro z; cases z))]; exact h, fun a _ _ h => by rw [upd_ne (ne_of h hp (by intro z; cases z))]; exact h⟩
theorem SR.writeD (r : SR K m S H) {l : Nat} {p : Addr} {kvs kvs' : List (D × D)} {xs xs' : List (NestedKey × Addr × Value)} (hl : S[l]? = some (.dct false kvs)) (hm : m[l]? = some p) (hp : H p = some (dctO p xs)) (hx : DR m H kvs' xs') :
    SR K m (S.set l (.dct false kvs')) (upd H p (dctO p xs')) := by
  refine r.writeG hl rfl rfl hm (fun vs z => by rw [hp] at z; cases z) (fun q vs z => by rw [hp] at z; cases z) ⟨xs', hx.keepT fun a ys h => ?_, dictAt_f.mpr upd_same⟩
  rw [upd_ne (ne_of h hp (by intro z; cases z))]; exact h
end
end NL

/-! A locked dict is walked. -/
namespace NL
open PySem PySem.Spec PyProof.Rows L2
def Itkn (d : Addr) (o : Obj) (xs : List (NestedKey × Addr × Value)) : L2.It :=
  ⟨fun i H => H d = some (.frz o (dctO d xs)) ∧ i < xs.length, fun i H x H' => H' = H ∧ ∃ (k : NestedKey) (b : Addr) (u : Value), xs[i]? = some (k, b, u) ∧ x = .ref b, fun i H => H d = some (.frz o (dctO d xs)) ∧ xs.length ≤ i⟩
/-- the pairs, each a new tuple; vs: what stands at the keys -/
def Itin (d : Addr) (o : Obj) (xs : List (NestedKey × Addr × Value)) (vs : List V) : L2.It :=
  ⟨fun i H => H d = some (.frz o (dctO d xs)) ∧ i < xs.length, fun i H x H' => ∃ T k b u v, xs[i]? = some (k, b, u) ∧ vs[i]? = some v ∧ x = .ref T ∧ H T = none ∧ H' = upd H T (.tup [.ref b, v]), fun i H => H d = some (.frz o (dctO d xs)) ∧ xs.length ≤ i⟩
section
variable {X : Cx} {pins : List (Addr × Obj)} {σ : L2.St} {H : Hp} {s : Shared} {d : Addr} {o : Obj} {xs : List (NestedKey × Addr × Value)}
theorem frzN (I : Inv X pins σ H s) (h : H d = some (.frz o (dctO d xs))) :
    (d == sysModules) = false ∧ s.heap.get? d = some o ∧ o.ExactDict ∧ ∃ (es : Array DictEntry) (ep : Nat), o.data = .dict es ep ∧ es.size = xs.length ∧
      ∀ (i : Nat) (k : NestedKey) (b : Addr) (u : Value), xs[i]? = some (k, b, u) → ∃ en : DictEntry, es[i]? = some en ∧ en.key = .ref b ∧ en.val = u := by
  obtain ⟨hd, x, _⟩ := (show ObjOk X.prog X.w H s.heap d (.frz o (dctO d xs)) from I.hok d _ h)
  have sy := DictX.sys x
  obtain ⟨P', w', o', es, ep, h1, h2, h3, h4, h5, h6, h7, h8⟩ := x
  rw [hd] at h1
  cases h1
  have hs : es.size = xs.length := by rw [← Array.length_toList, h4, List.length_map]
  refine ⟨sy, hd, h2, es, ep, h3, hs, fun i k b u e => ?_⟩
  refine ⟨entryOfKey (nestedKind P' w') (k, b, u), ?_, rfl, rfl⟩
  rw [← Array.getElem?_toList, h4, List.getElem?_map, e]; rfl
end
section
variable {P : Program} {w : World} {K : PySem.W.Frag} {tg : Expr} {d : Addr} {o : Obj} {es : Array DictEntry} {ep : Nat}
theorem turn_keysN {xs : List (NestedKey × Addr × Value)} (it : Addr) (hod : o.data = .dict es ep) : Turn P w K tg (Itkn d o xs) [it] it (fun i h => h.IsKeyIter it d i xs.length ep) where
  mem := by simp
  obj := fun i h st b hb => by
    have e : b = it := by simpa using hb
    subst e
    obtain ⟨oi, e, c, dd⟩ := st
    exact ⟨oi, e, fun v z => by rw [dd] at z; cases z⟩
  keep := fun i h h' st k => st.at fun oi e => k it (by simp) oi e
  item := by
    intro X hP hw hK hc i pins s σ H E I hf st hg
    subst hP hw hK
    obtain ⟨hd, hi⟩ := hg
    obtain ⟨f0, f1, f2, f3, f4, f5⟩ := hf it (by simp)
    obtain ⟨hs, hgd, hx, es', ep', hdt, hsz, ent⟩ := frzN I hd
    obtain ⟨rfl, rfl⟩ := dict_ep hod hdt
    obtain ⟨⟨k, b, u⟩, hkv⟩ : ∃ p, xs[i]? = some p := ⟨xs[i], List.getElem?_eq_getElem hi⟩
    obtain ⟨en, hen, hkey, hval⟩ := ent i k b u hkv
    refine next_key_item st hgd hdt hsz hen fun h' st' sb => ?_
    have I1 : Inv X pins σ H { s with heap := h' } := I.turned (t' := s.toks) (fun b ob hb e => (sb.2 b hb).trans e) f0 f1 f3 f4 f5
    obtain ⟨oi, e, c, dd⟩ := id st'
    exact ⟨en.key, rfl, go_of (s := { s with heap := h' }) e c dd (by decide) ⟨.ref b, H, I1, hkey, ⟨rfl, k, b, u, hkv, rfl⟩, st', fun b hb => (hf b hb).1⟩⟩
  done := by
    intro X hP hw hK hc i pins s σ H E I hf st hg
    subst hP hw hK
    obtain ⟨hd, hi⟩ := hg
    obtain ⟨f0, f1, f2, f3, f4, f5⟩ := hf it (by simp)
    obtain ⟨hs, hgd, hx, es', ep', hdt, hsz, ent⟩ := frzN I hd
    obtain ⟨rfl, rfl⟩ := dict_ep hod hdt
    exact next_key_end (I.ok.hd hc) st hgd hdt hsz hi fun h' eb => ⟨rfl, I.turned (t' := s.toks) (fun b ob hb e => eb b ob hb e) f0 f1 f3 f4 f5⟩
  self := fun A i s Q E st h => by
    refine wpAny_pyIter_slot st.typeIs F.slot_dict_keyiterator_iter (wpAny_call_entry F.slot_dict_keyiterator_iter st.typeIs F.entry_dict_keyiterator_iter ?_ (F.args_dict_keyiterator_iter_1 _))
    show wpAny _ _ (ret (.ref it)) _ _ s
    exact wpAny_pure ⟨_, rfl, "dict_keyiterator", _, st.typeIs, F.slot_dict_keyiterator_next.lookup, h⟩
theorem turn_itemsN {xs : List (NestedKey × Addr × Value)} {vs : List V} {elts : List Expr} {kk : Nat} {tpos : Pos} (hv : ∀ (i : Nat) (k : NestedKey) (b : Addr) (u : Value), xs[i]? = some (k, b, u) → ∃ v, vs[i]? = some v ∧ RelV v u) (it : Addr) (hod : o.data = .dict es ep) :
    Turn P w K (.Tuple elts kk tpos) (Itin d o xs vs) [it] it (fun i h => ∃ ok ov, IsItemIter h it d i xs.length ep ok ov) where
  mem := by simp
  obj := fun i h st b hb => by
    have e : b = it := by simpa using hb
    subst e
    obtain ⟨ok, ov, e⟩ := st
    exact ⟨_, e, fun v z => nomatch z⟩
  keep := fun i h h' st k => let ⟨ok, ov, e⟩ := st; ⟨ok, ov, k it (by simp) _ e⟩
  item := by
    intro X hP hw hK hc i pins s σ H E I hf st hg
    subst hP hw hK
    obtain ⟨hd, hi⟩ := hg
    obtain ⟨hs, hgd, hx, es', ep', hdt, hsz, ent⟩ := frzN I hd
    obtain ⟨rfl, rfl⟩ := dict_ep hod hdt
    obtain ⟨⟨k, b, u⟩, hkv⟩ : ∃ p, xs[i]? = some p := ⟨xs[i], List.getElem?_eq_getElem hi⟩
    obtain ⟨en, hen, hkey, hval⟩ := ent i k b u hkv
    obtain ⟨v, hvv, ru⟩ := hv i k b u hkv
    obtain ⟨ok, ov, he⟩ := st
    have hlt : it < s.heap.objs.size := Heap.lt_size he
    rw [← hsz] at he
    have hge : ∃ h : i < es'.size, es'[i] = en := by
      have := Array.getElem?_eq_some_iff.mp hen
      exact this
    obtain ⟨hlt', hget⟩ := hge
    refine wpAny_pyNext_items_item_raw he ⟨o, hgd, hx, hdt⟩ hlt' fun h' ho hT hz hk => ?_
    rw [hget, hkey, hval] at ho hT
    refine ⟨_, rfl, wpAny_letOwnedTupleGo_items (s := { s with heap := h' }) ho fun h'' he' sb => ?_⟩
    have hT2 : h''.get? s.heap.objs.size = some { cls := .type "tuple", data := .seq #[.ref b, u] } := (sb.2 _ (Nat.ne_of_gt hlt)).trans hT
    have new : ObjOk X.prog X.w (upd H s.heap.objs.size (.tup [.ref b, v])) h'' s.heap.objs.size (.tup [.ref b, v]) :=
      ⟨by show 2 ≤ sizeLine; decide, [.ref b, u], .cons rfl (.cons ru .nil), ⟨_, hT2, rfl, _, rfl⟩⟩
    have I1 : Inv X pins σ (upd H s.heap.objs.size (.tup [.ref b, v])) { s with heap := h'' } :=
      I.turnedNew (t' := s.toks) (ch := [it]) (fun b ob hb e => (sb.2 b (by simpa using hb)).trans (hk b ob (by simpa using hb) e)) hf (Nat.le_refl _) new
    refine ⟨.ref s.heap.objs.size, _, I1, rfl, ⟨_, k, b, u, v, hkv, hvv, rfl, I.hok.fresh (Nat.le_refl _), rfl⟩, ⟨.ref b, u, ?_⟩, fun b hb => ?_⟩
    · rw [← hsz]; exact he'
    · have e : b = it := by simpa using hb
      rw [e, upd_ne (Nat.ne_of_lt hlt)]
      exact (hf it (by simp)).1
  done := by
    intro X hP hw hK hc i pins s σ H E I hf st hg
    subst hP hw hK
    obtain ⟨hd, hi⟩ := hg
    obtain ⟨f0, f1, f2, f3, f4, f5⟩ := hf it (by simp)
    obtain ⟨hs, hgd, hx, es', ep', hdt, hsz, ent⟩ := frzN I hd
    obtain ⟨rfl, rfl⟩ := dict_ep hod hdt
    obtain ⟨ok, ov, he⟩ := st
    rw [← hsz] at he
    exact wpAny_pyNext_items_end_raw (I.ok.hd hc) he ⟨o, hgd, hx, hdt⟩ (by omega) fun h' eb => ⟨rfl, I.turned (t' := s.toks) (fun b ob hb e => eb b ob hb e) f0 f1 f3 f4 f5⟩
  self := fun A i s Q E st h => let ⟨_, _, e⟩ := st; PySem.W.kcp_self e h
end
section
variable {X : Cx} {tg e : Expr} {pins : List (Addr × Obj)} {σ : L2.St} {H : Hp} {s : Shared} {d : Addr} {o : Obj} {xs : List (NestedKey × Addr × Value)} {R : L2.It → Hp → Prop}
/-- a walk over a locked dict begins -/
theorem pi_keysN (I : Inv X pins σ H s) (hd : H d = some (.frz o (dctO d xs))) (q : R (Itkn d o xs) H) : wpAny (model X.prog X.w) X.A (pyIter (.ref d)) (PIE X pins σ tg R) X.xe s := by
  obtain ⟨hs, hgd, hx, es, ep, hdt, hsz, ent⟩ := frzN I hd
  refine iter_keys hs hgd hx hdt (pi_one (tk := s.toks) I _ (turn_keysN _ hdt) ⟨_, Heap.get?_push_size _ rfl, rfl, ?_⟩ q)
  rw [hsz] <;> rfl
/-- .. over its pairs -/
def iItemsN (td : TE) : TI := fun σ H R => td σ H fun x H1 => ∃ d o xs vs, x = .ref d ∧ H1 d = some (.frz o (dctO d xs)) ∧ (∀ (i : Nat) (k : NestedKey) (b : Addr) (u : Value), xs[i]? = some (k, b, u) → ∃ v, vs[i]? = some v ∧ RelV v u) ∧ R (Itin d o xs vs) H1
theorem pi_itemsN {td : TE} {elts : List Expr} {kk : Nat} {tpos apos cpos : Pos} (he : PE X e td) (hbase : attributeBase e "items" X.env (eval e X.env) = eval e X.env := by rfl) (hline : (apos.endLine == cpos.line) = true := by rfl) :
    PI X (.Tuple elts kk tpos) (.Call (.Attribute e "items" apos) [] [] cpos) (iItemsN td) := by
  refine ⟨fun pins s σ H R I h => ?_⟩
  refine wpAny_Call_method (T := "dict") (id := "dict.items") hbase rfl hline F.plainAttrs_dict F.slot_dict_items F.type_dict_items (thn (he.run pins s σ H _ I h) fun u s1 ⟨x, H1, I1, rx, d, o, xs, vs, ex, hd, hv, q⟩ => ?_)
  subst ex
  obtain rfl : u = Value.ref d := rx
  obtain ⟨hs, hgd, hx, es, ep, hdt, hsz, ent⟩ := frzN I1 hd
  have raw : s1.heap.DictRaw d es ep := ⟨o, hgd, hx, hdt⟩
  refine ⟨raw.typeIs, fun a ea => by cases ea; exact ⟨o, hgd, hx.2.1⟩, ?_⟩
  have I2 : Inv X pins σ H1 { s1 with heap := s1.heap.push { cls := .type "dict_items", data := .fields #[.ref d] } } := I1.kept (t' := s1.toks) fun b ob q => Heap.get?_push_of_some _ q
  have fin : wpAny (model X.prog X.w) X.A (pyIter (.ref s1.heap.objs.size)) (PIE X pins σ (.Tuple elts kk tpos) R) X.xe { s1 with heap := s1.heap.push { cls := .type "dict_items", data := .fields #[.ref d] } } := by
    refine wpAny_pyIter_items_raw (d := d) ⟨_, Heap.get?_push_size _ rfl, rfl, rfl⟩ (raw.at fun o e => Heap.get?_push_of_some _ e) (pi_one (tk := s1.toks) I2 _ (turn_itemsN hv _ hdt) ⟨.none, .none, ?_⟩ q)
    rw [← hsz]
    exact Heap.get?_push_size _ rfl
  show wpAny _ _ (callWith cpos (.builtin "dict.items") [.ref d] [] []) _ X.xe s1
  exact method_meetsIn F.slot_dict_items F.entry_dict_items rfl (PySem.evalArgs_none ⟨rfl, raw.typeIs, F.args_dict_items_1 _, _, meets_dict_items_raw d hs, ⟨es, ep, raw⟩, fin⟩)
end
end NL

namespace NL
open PySem PySem.Spec PyProof.Rows L2
/-! ### the machine answers so: operators -/
def Bop.op : Bop → Operator
  | .add => .Add | .sub => .Sub | .mul => .Mult | .fdiv => .FloorDiv | .mod => .Mod | .pow => .Pow
def Cop.op : Cop → CmpOp
  | .lt => .Lt | .le => .LtE | .gt => .Gt | .ge => .GtE | .eq => .Eq | .ne => .NotEq | .isIn => .In | .notIn => .NotIn | .is_ => .Is | .isNot => .IsNot
/-- a reading of two values by what they are in the store -/
def rD (K : PySem.W.Frag) (g : D → D → M D) : R2 := fun v u H Q => ∃ Ex m S x y, SR K m S H ∧ Rep m H x v ∧ Rep m H y u ∧ post K Ex m H (g x y S) (fun d m' _ H' => ∀ w, Rep m' H' d w → Q w H')
theorem OpR.imp {X : Cx} {f : Value → Value → Sem Value} {r r' : R2} (h : OpR X f r) (k : ∀ x y H Q, r' x y H Q → r x y H Q) : OpR X f r' := fun pins s σ H x y v u Q I rx ry q => h pins s σ H x y v u Q I rx ry (k _ _ _ _ q)
theorem OpR.or {X : Cx} {f : Value → Value → Sem Value} {r r' : R2} (h : OpR X f r) (h' : OpR X f r') : OpR X f (fun x y H Q => r x y H Q ∨ r' x y H Q) := fun pins s σ H x y v u Q I rx ry q =>
  q.elim (h pins s σ H x y v u Q I rx ry) (h' pins s σ H x y v u Q I rx ry)
section
variable {K : PySem.W.Frag} {m : List Addr} {S : Store} {H : Hp} {Q : VK}
/-- behind a pure answer -/
theorem post_val {E : Str → Option Nat → List Addr → Store → Hp → Prop} {d : D} {w : V} (s : SR K m S H) (h : post K E m H (.ok d S) (fun d m' _ H' => ∀ w, Rep m' H' d w → Q w H')) (r : Rep m H d w) : Q w H := post_now s h w r
theorem post_alloc {E : Str → Option Nat → List Addr → Store → Hp → Prop} {xs : List D} {vs : List V} (s : SR K m S H) (h : post K E m H (alloc (.lst xs) S) (fun d m' _ H' => ∀ w, Rep m' H' d w → Q w H')) (r : Reps m H xs vs) : ∀ p, H p = none → Q (.ref p) (upd H p (.lst vs)) := fun p hp => by
  refine post_gr h (m' := m ++ [p]) (Gr.push_new hp) (s.alloc hp r) _ (.ref ?_)
  rw [← s.len]; simp
theorem getM_bind {α : Type} {E : Str → Option Nat → List Addr → Store → Hp → Prop} {l : Nat} {f : List D → M α} {F : α → List Addr → Store → Hp → Prop} (h : post K E m H ((getM l >>= f) S) F) : ∃ xs, S[l]? = some (.lst xs) ∧ post K E m H (f xs S) F := by
  rw [bind_eq] at h
  unfold getM at h
  cases e : S[l]? with
  | none => rw [e] at h; exact h.elim
  | some o =>
    rw [e] at h
    cases o with
    | lst xs => exact ⟨xs, rfl, h⟩
    | frz xs => exact h.elim
    | dct lk kvs => exact h.elim
theorem getL_bind {α : Type} {E : Str → Option Nat → List Addr → Store → Hp → Prop} {l : Nat} {f : List D → M α} {F : α → List Addr → Store → Hp → Prop} (h : post K E m H ((getL l >>= f) S) F) : ∃ o, sqO S l = some o ∧ post K E m H (f (items o) S) F := by
  rw [bind_eq] at h
  unfold getL at h
  cases e : sqO S l with
  | none => rw [e] at h; exact h.elim
  | some o =>
    rw [e] at h
    exact ⟨o, rfl, h⟩
theorem getN_bind {α : Type} {E : Str → Option Nat → List Addr → Store → Hp → Prop} {l : Nat} {f : Bool × List (D × D) → M α} {F : α → List Addr → Store → Hp → Prop} (h : post K E m H ((getN l >>= f) S) F) : ∃ lk kvs, S[l]? = some (.dct lk kvs) ∧ post K E m H (f (lk, kvs) S) F := by
  rw [bind_eq] at h
  unfold getN at h
  cases e : S[l]? with
  | none => rw [e] at h; exact h.elim
  | some o =>
    rw [e] at h
    cases o with
    | dct lk kvs => exact ⟨lk, kvs, rfl, h⟩
    | _ => exact h.elim
theorem keyM_bind {α : Type} {E : Str → Option Nat → List Addr → Store → Hp → Prop} {d : D} {f : NestedKey → M α} {F : α → List Addr → Store → Hp → Prop} (h : post K E m H ((keyM d >>= f) S) F) : ∃ k, keyD d = some k ∧ post K E m H (f k S) F := by
  unfold keyM at h
  cases e : keyD d with
  | none => rw [e] at h; exact h.elim
  | some k => rw [e] at h; exact ⟨k, rfl, h⟩
theorem optM_bind {α : Type} {E : Str → Option Nat → List Addr → Store → Hp → Prop} {o : Option D} {f : D → M α} {F : α → List Addr → Store → Hp → Prop} (h : post K E m H ((optM o >>= f) S) F) : ∃ d, o = some d ∧ post K E m H (f d S) F := by
  unfold optM at h
  cases o with
  | none => exact h.elim
  | some k => exact ⟨k, rfl, h⟩
theorem optM_post {E : Str → Option Nat → List Addr → Store → Hp → Prop} {o : Option D} {F : D → List Addr → Store → Hp → Prop} (h : post K E m H (optM o S) F) : ∃ d, o = some d ∧ post K E m H ((pure d : M D) S) F := by
  unfold optM at h
  cases o with
  | none => exact h.elim
  | some k => exact ⟨k, rfl, h⟩
theorem post_ite {α : Type} {E : Str → Option Nat → List Addr → Store → Hp → Prop} {c : Prop} {_ : Decidable c} {f : M α} {F : α → List Addr → Store → Hp → Prop} (h : post K E m H ((if c then f else die) S) F) : c ∧ post K E m H (f S) F := by
  by_cases hc : c
  · rw [if_pos hc] at h; exact ⟨hc, h⟩
  · rw [if_neg hc] at h; exact h.elim
/-- the address of a list of ours -/
theorem SR.lst_at (s : SR K m S H) {l : Nat} {a : Addr} {xs : List D} (h : S[l]? = some (.lst xs)) (e : m[l]? = some a) : ∃ vs, H a = some (.lst vs) ∧ Reps m H xs vs := s.ob l _ a h e
theorem SR.sq_at (s : SR K m S H) {l : Nat} {a : Addr} {o : Ob} (h : sqO S l = some o) (e : m[l]? = some a) : ∃ vs, SqL K H a vs ∧ Reps m H (items o) vs := (s.ob l _ a (sqO_some h).1 e).sq (sqO_some h).2
end
section
variable {X : Cx}
theorem op_mulX' : OpR X (binaryOp .Mult) (rI MulOk fun i j => .int (i * j)) := opI fun _ _ _ _ _ _ _ hc q => mul_int q hc.ok
theorem op_fdivX : OpR X (binaryOp .FloorDiv) (rI (fun _ j => j ≠ 0 ∧ j.natAbs.log2 < 9000) fun i j => .int (i.fdiv j)) := opI fun _ _ _ _ _ _ _ hc q => floordiv_int hc.1 q (.inl (PyProof.noPylong_of_log2 hc.2))
theorem op_powX : OpR X (binaryOp .Pow) (rI (fun i j => 0 ≤ j ∧ (Builtin.Int.intBits i : Int) * j ≤ 2 ^ 27) fun i j => .int (i ^ j.toNat)) := opI fun _ _ _ _ _ _ _ hc q => PyProof.Rows.pow_int hc.1 hc.2 q
theorem op_binD : ∀ (o : Bop), OpR X (binaryOp o.op) (rD X.K (binD o))
  | .add => by
    refine OpR.imp (OpR.or op_add op_cat) ?_
    intro v u H Q h
    obtain ⟨Ex, m, S, x, y, s, rx, ry, h⟩ := h
    cases rx <;> cases ry <;> try exact (show False from h).elim
    · exact .inl ⟨_, _, rfl, rfl, post_val s h (.int _)⟩
    · rename_i ea _ _ eb
      obtain ⟨xs, e1, h⟩ := getM_bind h
      obtain ⟨ys, e2, h⟩ := getM_bind h
      obtain ⟨hc, h⟩ := post_ite h
      obtain ⟨vs, h1, r1⟩ := s.lst_at e1 ea
      obtain ⟨us, h2, r2⟩ := s.lst_at e2 eb
      exact .inr ⟨_, _, vs, us, rfl, rfl, h1, h2, by rw [← r1.length, ← r2.length]; exact hc, post_alloc s h (r1.append r2)⟩
  | .sub => by
    refine OpR.imp op_sub ?_
    intro v u H Q h
    obtain ⟨Ex, m, S, x, y, s, rx, ry, h⟩ := h
    cases rx <;> cases ry <;> try exact (show False from h).elim
    exact ⟨_, _, rfl, rfl, post_val s h (.int _)⟩
  | .mul => by
    refine OpR.imp (OpR.or op_mulX' op_rep) ?_
    intro v u H Q h
    obtain ⟨Ex, m, S, x, y, s, rx, ry, h⟩ := h
    cases rx <;> cases ry <;> try exact (show False from h).elim
    · obtain ⟨hc, h⟩ := post_ite h
      exact .inl ⟨_, _, rfl, rfl, hc, post_val s h (.int _)⟩
    · rename_i ea n
      obtain ⟨xs, e1, h⟩ := getM_bind h
      obtain ⟨⟨c1, c2, c3⟩, h⟩ := post_ite h
      obtain ⟨vs, h1, r1⟩ := s.lst_at e1 ea
      refine .inr ⟨_, _, vs, rfl, rfl, h1, c1, c2, by rw [← r1.length]; exact c3, post_alloc s h ?_⟩
      generalize n.toNat = k
      induction k with
      | zero => exact .nil
      | succ k ih =>
        rw [List.replicate_succ, List.replicate_succ, List.flatten_cons, List.flatten_cons]
        exact r1.append ih
  | .fdiv => by
    refine OpR.imp op_fdivX ?_
    intro v u H Q h
    obtain ⟨Ex, m, S, x, y, s, rx, ry, h⟩ := h
    cases rx <;> cases ry <;> try exact (show False from h).elim
    obtain ⟨hc, h⟩ := post_ite h
    exact ⟨_, _, rfl, rfl, hc, post_val s h (.int _)⟩
  | .mod => by
    refine OpR.imp op_modN ?_
    intro v u H Q h
    obtain ⟨Ex, m, S, x, y, s, rx, ry, h⟩ := h
    cases rx <;> cases ry <;> try exact (show False from h).elim
    obtain ⟨hc, h⟩ := post_ite h
    exact ⟨_, _, rfl, rfl, hc, post_val s h (.int _)⟩
  | .pow => by
    refine OpR.imp op_powX ?_
    intro v u H Q h
    obtain ⟨Ex, m, S, x, y, s, rx, ry, h⟩ := h
    cases rx <;> cases ry <;> try exact (show False from h).elim
    obtain ⟨hc, h⟩ := post_ite h
    exact ⟨_, _, rfl, rfl, hc, post_val s h (.int _)⟩

/-! ### data -/
section
variable {K : PySem.W.Frag} {m : List Addr} {S : Store} {H : Hp}
theorem dpAll_of {f : D → Option PyData} (ih : ∀ (d : D) (v : V) (p : PyData), Rep m H d v → f d = some p → Dp K H v p) : ∀ {ds : List D} {vs : List V} {ps : List PyData}, Reps m H ds vs → mapO f ds = some ps → DpAll K H vs ps
  | [], _, _, r, h => by
    cases r
    unfold mapO at h
    cases h
    exact .nil
  | d :: ds, _, _, r, h => by
    cases r with
    | cons r1 r2 =>
      unfold mapO at h
      cases e1 : f d with
      | none => rw [e1] at h; cases h
      | some y =>
        cases e2 : mapO f ds with
        | none => rw [e1, e2] at h; cases h
        | some ys' =>
          rw [e1, e2] at h
          cases h
          exact .cons (ih d _ y r1 e1) (dpAll_of ih r2 e2)
theorem dp_of (s : SR K m S H) : ∀ (k : Nat) (d : D) (v : V) (p : PyData), Rep m H d v → pd S k d = some p → Dp K H v p
  | 0, d, v, p, r, h => by
    cases r <;> unfold pd at h
    · cases h; exact .non
    · cases h; exact .bl _
    · cases h; exact .int _
    · split at h
      · cases h; exact .str _
      · cases h
    · cases h
    · cases h
  | k + 1, d, v, p, r, h => by
    cases r with
    | non => unfold pd at h; cases h; exact .non
    | bl b => unfold pd at h; cases h; exact .bl _
    | int i => unfold pd at h; cases h; exact .int _
    | str x =>
      unfold pd at h
      split at h
      · cases h; exact .str _
      · cases h
    | tup e rs =>
      rename_i a xs vs
      unfold pd at h
      cases e1 : mapO (pd S k) xs with
      | none => rw [e1] at h; cases h
      | some ps =>
        rw [e1] at h
        cases h
        exact .tup (SqT.of e) (dpAll_of (dp_of s k) rs e1)
    | ref e =>
      rename_i l a
      unfold pd at h
      cases e0 : sqO S l with
      | none => rw [e0] at h; cases h
      | some o =>
        rw [e0] at h
        dsimp only at h
        cases e1 : mapO (pd S k) (items o) with
        | none => rw [e1] at h; cases h
        | some ps =>
          rw [e1] at h
          cases h
          obtain ⟨vs, q, rs⟩ := s.sq_at e0 e
          exact .lst q (dpAll_of (dp_of s k) rs e1)
end
theorem canAll_of {f : D → Option PyData} {n : Nat} (ih : ∀ (d : D) (p : PyData), f d = some p → p.canLay0 = true ∧ p.depth ≤ n) : ∀ {ds : List D} {ps : List PyData}, mapO f ds = some ps → PyData.canLayAll0 ps = true ∧ PyData.depthAll ps ≤ n
  | [], _, h => by
    unfold mapO at h
    cases h
    exact ⟨by simp [PyData.canLayAll0], by simp [PyData.depthAll]⟩
  | d :: ds, _, h => by
    unfold mapO at h
    cases e1 : f d with
    | none => rw [e1] at h; cases h
    | some y =>
      cases e2 : mapO f ds with
      | none => rw [e1, e2] at h; cases h
      | some ys' =>
        rw [e1, e2] at h
        cases h
        obtain ⟨h1, h2⟩ := canAll_of ih e2
        obtain ⟨h3, h4⟩ := ih d y e1
        refine ⟨by simp [PyData.canLayAll0, h1, h3], ?_⟩
        simp only [PyData.depthAll]
        omega
theorem pd_shape {S : Store} : ∀ (k : Nat) (d : D) (p : PyData), pd S k d = some p → p.canLay0 = true ∧ p.depth ≤ k
  | 0, d, p, h => by
    cases d <;> unfold pd at h <;> first
      | (cases h; exact ⟨by simp [PyData.canLay0], by simp [PyData.depth]⟩)
      | (split at h <;> cases h; exact ⟨by simp only [PyData.canLay0]; assumption, by simp [PyData.depth]⟩)
      | cases h
  | k + 1, d, p, h => by
    cases d with
    | non => unfold pd at h; cases h; exact ⟨by simp [PyData.canLay0], by simp [PyData.depth]⟩
    | bl b => unfold pd at h; cases h; exact ⟨by simp [PyData.canLay0], by simp [PyData.depth]⟩
    | int i => unfold pd at h; cases h; exact ⟨by simp [PyData.canLay0], by simp [PyData.depth]⟩
    | str x =>
      unfold pd at h
      split at h
      · cases h; exact ⟨by simp only [PyData.canLay0]; assumption, by simp [PyData.depth]⟩
      · cases h
    | tup xs =>
      unfold pd at h
      cases e1 : mapO (pd S k) xs with
      | none => rw [e1] at h; cases h
      | some ps =>
        rw [e1] at h
        cases h
        obtain ⟨h1, h2⟩ := canAll_of (pd_shape k) e1
        exact ⟨by simp only [PyData.canLay0]; exact h1, by simp only [PyData.depth]; omega⟩
    | ref l =>
      unfold pd at h
      cases e0 : sqO S l with
      | none => rw [e0] at h; cases h
      | some o =>
        rw [e0] at h
        dsimp only at h
        cases e1 : mapO (pd S k) (items o) with
        | none => rw [e1] at h; cases h
        | some ps =>
          rw [e1] at h
          cases h
          obtain ⟨h1, h2⟩ := canAll_of (pd_shape k) e1
          exact ⟨by simp only [PyData.canLay0]; exact h1, by simp only [PyData.depth]; omega⟩
theorem pd_shaped {S : Store} {k : Nat} {d : D} {p : PyData} (h : pd S k d = some p) (hk : k ≤ 64) : SeqAt.shaped p = true := by
  obtain ⟨h1, h2⟩ := pd_shape k d p h
  show (p.canLay0 && decide (p.depth ≤ 64)) = true
  rw [Bool.and_eq_true]
  exact ⟨h1, decide_eq_true (by omega)⟩
end
end NL

namespace NL
open PySem PySem.Spec PyProof.Rows L2
/-! ### comparisons -/
theorem mapO_mono {α β : Type} {f g : α → Option β} (h : ∀ x y, f x = some y → g x = some y) : ∀ {xs : List α} {ys : List β}, mapO f xs = some ys → mapO g xs = some ys
  | [], _, e => e
  | x :: xs, _, e => by
    unfold mapO at e ⊢
    cases e1 : f x with
    | none => rw [e1] at e; cases e
    | some y =>
      cases e2 : mapO f xs with
      | none => rw [e1, e2] at e; cases e
      | some ys' =>
        rw [e1, e2] at e
        rw [h _ _ e1, mapO_mono h e2]
        exact e
theorem pd_nil {S : Store} : ∀ (k : Nat) (d : D) (p : PyData), pd [] k d = some p → pd S k d = some p
  | 0, d, p, h => by cases d <;> first | exact h | (unfold pd at h; cases h)
  | k + 1, d, p, h => by
    cases d with
    | tup xs =>
      unfold pd at h ⊢
      cases e : mapO (pd [] k) xs with
      | none => rw [e] at h; cases h
      | some ps => rw [e] at h; rw [mapO_mono (pd_nil k) e]; exact h
    | ref l => unfold pd at h; simp [sqO] at h
    | non => exact h
    | bl b => exact h
    | int i => exact h
    | str x => exact h
section
variable {X : Cx} {pins : List (Addr × Obj)} {σ : L2.St} {H : Hp} {s : Shared} {m : List Addr} {S : Store}
theorem eq_at (I : Inv X pins σ H s) (sr : SR X.K m S H) {k : Nat} {x y : D} {p q : PyData} {v w : V} {u u' : Value} (hx : pd S k x = some p) (hy : pd S k y = some q) (rx : Rep m H x v) (ry : Rep m H y w) (rv : RelV v u) (rw' : RelV w u')
    (A : Around) (hu : A.units + k < cLine) : PySem.SeqAt.EqAt A s u u' (PyData.eqv p q) := by
  obtain ⟨as, r1⟩ := Dp.reads I p v u (dp_of sr k x v p rx hx) rv
  obtain ⟨bs, r2⟩ := Dp.reads I q w u' (dp_of sr k y w q ry hy) rw'
  obtain ⟨c1, d1⟩ := pd_shape k x p hx
  obtain ⟨c2, d2⟩ := pd_shape k y q hy
  exact SeqAt.eqAt_reads p q A s u u' as bs r1 r2 c1 c2 (by have : min p.depth q.depth ≤ k := Nat.le_trans (Nat.min_le_left _ _) d1; omega)
theorem lex_at {o : Cop} (ho : o = .lt ∨ o = .le ∨ o = .gt ∨ o = .ge) {f : D → D → Option Bool} : ∀ (xs ys : List D) (i : Nat) (e r : Nat → Bool) (b : Bool), lexO o f xs ys = some b →
    (∀ j x y, xs[j]? = some x → ys[j]? = some y → eqD [] x y = some (e (i + j))) → (∀ j x y, xs[j]? = some x → ys[j]? = some y → e (i + j) = false → f x y = some (r (i + j))) →
    b = Ob.lexAt e r (ord4 o xs.length ys.length) i (min xs.length ys.length)
  | [], [], i, e, r, b, h, _, _ => by
    unfold lexO at h
    cases h
    rfl
  | [], y :: ys, i, e, r, b, h, _, _ => by
    unfold lexO at h
    cases h
    rw [List.length_nil, Nat.zero_min, Ob.lexAt_zero]
    rcases ho with rfl | rfl | rfl | rfl <;> simp [ord4] <;> omega
  | x :: xs, [], i, e, r, b, h, _, _ => by
    unfold lexO at h
    cases h
    rw [List.length_nil, Nat.min_zero, Ob.lexAt_zero]
    rcases ho with rfl | rfl | rfl | rfl <;> simp [ord4] <;> omega
  | x :: xs, y :: ys, i, e, r, b, h, he, hr => by
    have e0 := he 0 x y rfl rfl
    rw [Nat.add_zero] at e0
    have hm : min (x :: xs).length (y :: ys).length = min xs.length ys.length + 1 := by simp only [List.length_cons]; omega
    rw [hm, Ob.lexAt_succ]
    unfold lexO at h
    rw [e0] at h
    have hl : ord4 o ((x :: xs).length : Nat) ((y :: ys).length : Nat) = ord4 o (xs.length : Nat) (ys.length : Nat) := by
      rcases ho with rfl | rfl | rfl | rfl <;> simp only [ord4, List.length_cons] <;> congr 1 <;> simp
    cases q : e i with
    | true =>
      rw [q] at h
      rw [if_pos rfl, hl]
      exact lex_at ho xs ys (i + 1) e r b h (fun j x' y' h1 h2 => by rw [show i + 1 + j = i + (j + 1) by omega]; exact he (j + 1) x' y' h1 h2) (fun j x' y' h1 h2 => by rw [show i + 1 + j = i + (j + 1) by omega]; exact hr (j + 1) x' y' h1 h2)
    | false =>
      rw [q] at h
      rw [if_neg Bool.false_ne_true]
      have z := hr 0 x y rfl rfl (by rw [Nat.add_zero]; exact q)
      rw [Nat.add_zero] at z
      rw [z] at h
      exact (Option.some.inj h).symm
theorem ordD_cases {o : Cop} {k : Nat} {x y : D} {b : Bool} (h : ordD o k x y = some b) : (∃ i j, x = .int i ∧ y = .int j ∧ b = ord4 o i j) ∨ ∃ k' xs ys, k = k' + 1 ∧ x = .tup xs ∧ y = .tup ys ∧
    ((xs.zip ys).all fun p => match eqD [] p.1 p.2 with | some true => true | some false => (ordD o k' p.1 p.2).isSome | none => false) = true ∧ lexO o (ordD o k') xs ys = some b := by
  cases k with
  | zero =>
    cases x <;> cases y <;> simp only [ordD] at h <;> try cases h
    exact .inl ⟨_, _, rfl, rfl, rfl⟩
  | succ k =>
    cases x <;> cases y <;> simp only [ordD] at h <;> try cases h
    · exact .inl ⟨_, _, rfl, rfl, rfl⟩
    · split at h
      · rename_i hall
        exact .inr ⟨_, _, _, rfl, rfl, rfl, hall, h⟩
      · cases h
theorem ord_rc (I : Inv X pins σ H s) (sr : SR X.K m S H) {o : Cop} (ho : o = .lt ∨ o = .le ∨ o = .gt ∨ o = .ge) : ∀ (k : Nat) (x y : D) (b : Bool) (v w : V) (u u' : Value) (A : Around), ordD o k x y = some b → Rep m H x v → Rep m H y w → RelV v u → RelV w u' →
    A.units + k + 14 < cLine → Ob.RcOp o.op A s u u' b := by
  intro k
  induction k with
  | zero =>
    intro x y b v w u u' A h rx ry rv rw' hu
    rcases ordD_cases h with ⟨i, j, rfl, rfl, rfl⟩ | ⟨k', xs, ys, e, _⟩
    · cases rx
      cases ry
      obtain ⟨t, rfl⟩ := rv
      obtain ⟨t', rfl⟩ := rw'
      rcases ho with rfl | rfl | rfl | rfl
      · exact Ob.RcOp.lt_int _ _ _ _
      · exact Ob.RcOp.le_int _ _ _ _
      · exact Ob.RcOp.gt_int _ _ _ _
      · exact Ob.RcOp.ge_int _ _ _ _
    · cases e
  | succ k ih =>
    intro x y b v w u u' A h rx ry rv rw' hu
    rcases ordD_cases h with ⟨i, j, rfl, rfl, rfl⟩ | ⟨k', xs, ys, e, rfl, rfl, hall, h⟩
    · cases rx
      cases ry
      obtain ⟨t, rfl⟩ := rv
      obtain ⟨t', rfl⟩ := rw'
      rcases ho with rfl | rfl | rfl | rfl
      · exact Ob.RcOp.lt_int _ _ _ _
      · exact Ob.RcOp.le_int _ _ _ _
      · exact Ob.RcOp.gt_int _ _ _ _
      · exact Ob.RcOp.ge_int _ _ _ _
    · cases e
      cases rx with
      | tup ea ra =>
        cases ry with
        | tup eb rb =>
          cases rv
          cases rw'
          obtain ⟨its, r1, p1, z1⟩ := I.tuple (SqT.of ea)
          obtain ⟨its2, r2, p2, z2⟩ := I.tuple (SqT.of eb)
          rw [List.all_eq_true] at hall
          have hp : ∀ (j : Nat) (x y : D), xs[j]? = some x → ys[j]? = some y → ∃ c, eqD [] x y = some c ∧ (c = false → (ordD o k x y).isSome = true) := fun j x y h1 h2 => by
            have hm : (x, y) ∈ xs.zip ys := List.mem_of_getElem? (i := j) (by rw [List.getElem?_zip_eq_some]; exact ⟨h1, h2⟩)
            have q := hall _ hm
            dsimp only at q
            cases e : eqD [] x y with
            | none => rw [e] at q; cases q
            | some c =>
              refine ⟨c, rfl, fun hc => ?_⟩
              subst hc
              rw [e] at q
              exact q
          have e : ∃ e : Nat → Bool, ∀ (j : Nat) (x y : D), xs[j]? = some x → ys[j]? = some y → eqD [] x y = some (e j) := ⟨fun j => match xs[j]?, ys[j]? with | some x, some y => (eqD [] x y).getD false | _, _ => false, fun j x y h1 h2 => by
            obtain ⟨c, hc, _⟩ := hp j x y h1 h2
            dsimp only
            rw [h1, h2]
            dsimp only
            rw [hc]; rfl⟩
          obtain ⟨e, he⟩ := e
          have r : ∃ r : Nat → Bool, ∀ (j : Nat) (x y : D), xs[j]? = some x → ys[j]? = some y → e j = false → ordD o k x y = some (r j) := ⟨fun j => match xs[j]?, ys[j]? with | some x, some y => (ordD o k x y).getD false | _, _ => false, fun j x y h1 h2 h3 => by
            obtain ⟨c, hc, hs⟩ := hp j x y h1 h2
            have := he j x y h1 h2
            rw [hc] at this
            cases this
            obtain ⟨d, hd⟩ := Option.isSome_iff_exists.mp (hs h3)
            dsimp only
            rw [h1, h2]
            dsimp only
            rw [hd]; rfl⟩
          obtain ⟨r, hr⟩ := r
          have hb := lex_at ho xs ys 0 e r b h (fun j x y h1 h2 => by rw [Nat.zero_add]; exact he j x y h1 h2) (fun j x y h1 h2 h3 => by rw [Nat.zero_add] at h3 ⊢; exact hr j x y h1 h2 h3)
          have n1 : its.toArray.size = xs.length := by rw [List.size_toArray, ← r1.length, ra.length]
          have n2 : its2.toArray.size = ys.length := by rw [List.size_toArray, ← r2.length, rb.length]
          have at1 : ∀ (j : Nat) (hj : j < its.toArray.size), ∃ x v, xs[j]? = some x ∧ Rep m H x v ∧ RelV v its.toArray[j] := fun j hj => by
            have hj' : j < xs.length := by omega
            obtain ⟨v, h1, h2⟩ := ra.get (List.getElem?_eq_getElem hj')
            obtain ⟨u, h3, h4⟩ := r1.get h1
            refine ⟨_, v, List.getElem?_eq_getElem hj', h2, ?_⟩
            have : its.toArray[j] = u := by
              have hl : j < its.length := by simpa using hj
              rw [List.getElem?_eq_getElem hl] at h3
              simpa using Option.some.inj h3
            rw [this]; exact h4
          have at2 : ∀ (j : Nat) (hj : j < its2.toArray.size), ∃ x v, ys[j]? = some x ∧ Rep m H x v ∧ RelV v its2.toArray[j] := fun j hj => by
            have hj' : j < ys.length := by omega
            obtain ⟨v, h1, h2⟩ := rb.get (List.getElem?_eq_getElem hj')
            obtain ⟨u, h3, h4⟩ := r2.get h1
            refine ⟨_, v, List.getElem?_eq_getElem hj', h2, ?_⟩
            have : its2.toArray[j] = u := by
              have hl : j < its2.length := by simpa using hj
              rw [List.getElem?_eq_getElem hl] at h3
              simpa using Option.some.inj h3
            rw [this]; exact h4
          have HE : ∀ j (h1 : j < its.toArray.size) (h2 : j < its2.toArray.size), PySem.SeqAt.EqAt A.in1 s its.toArray[j] its2.toArray[j] (e j) := fun j h1 h2 => by
            obtain ⟨x, v, q1, q2, q3⟩ := at1 j h1
            obtain ⟨y, w, q4, q5, q6⟩ := at2 j h2
            have q := he j x y q1 q4
            unfold eqD at q
            cases c1 : pd [] 12 x with
            | none => rw [c1] at q; cases q
            | some p =>
              cases c2 : pd [] 12 y with
              | none => rw [c1, c2] at q; cases q
              | some p' =>
                rw [c1, c2] at q
                have q' := Option.some.inj q
                rw [← q']
                exact eq_at I sr (pd_nil 12 x p c1) (pd_nil 12 y p' c2) q2 q5 q3 q6 A.in1 (by show A.units + 1 + 12 < cLine; omega)
          have HR : ∀ j (h1 : j < its.toArray.size) (h2 : j < its2.toArray.size), e j = false → Ob.RcOp o.op A.in1 s its.toArray[j] its2.toArray[j] (r j) := fun j h1 h2 h3 => by
            obtain ⟨x, v, q1, q2, q3⟩ := at1 j h1
            obtain ⟨y, w, q4, q5, q6⟩ := at2 j h2
            exact ih x y (r j) v w _ _ A.in1 (hr j x y q1 q4 h3) q2 q5 q3 q6 (by show A.units + 1 + k + 14 < cLine; omega)
          rw [hb]
          rcases ho with rfl | rfl | rfl | rfl
          · have z := Ob.RcOp.tuples_lt p1 p2 (by omega) HE HR
            rw [n1, n2] at z
            have e2 : ord4 .lt (xs.length : Nat) (ys.length : Nat) = decide (xs.length < ys.length) := by simp [ord4]
            rw [e2]; exact z
          · have z := Ob.RcOp.tuples_le p1 p2 (by omega) HE HR
            rw [n1, n2] at z
            have e2 : ord4 .le (xs.length : Nat) (ys.length : Nat) = decide (xs.length ≤ ys.length) := by simp [ord4]
            rw [e2]; exact z
          · have z := Ob.RcOp.tuples_gt p1 p2 (by omega) HE HR
            rw [n1, n2] at z
            have e2 : ord4 .gt (xs.length : Nat) (ys.length : Nat) = decide (xs.length > ys.length) := by simp [ord4]
            rw [e2]; exact z
          · have z := Ob.RcOp.tuples_ge p1 p2 (by omega) HE HR
            rw [n1, n2] at z
            have e2 : ord4 .ge (xs.length : Nat) (ys.length : Nat) = decide (xs.length ≥ ys.length) := by simp [ord4]
            rw [e2]; exact z
end
end NL

namespace NL
open PySem PySem.Spec PyProof.Rows L2
section
variable {X : Cx}
theorem ofB_some {Ex : Str → Option Nat → List Addr → Store → Hp → Prop} {K : PySem.W.Frag} {m : List Addr} {S : Store} {H : Hp} {b : Option Bool} {F : D → List Addr → Store → Hp → Prop} (h : post K Ex m H (ofB b S) F) : ∃ c, b = some c ∧ post K Ex m H (.ok (.bl c) S) F := by
  cases b with
  | none => exact h.elim
  | some c => exact ⟨c, rfl, h⟩
/-! ### lists of whole numbers in order -/
theorem intsP_some : ∀ {ps : List PyData} {ns : List Int}, intsP ps = some ns → ps = ns.map PyData.int
  | [], _, h => by unfold intsP at h; cases h; rfl
  | p :: ps, _, h => by
    cases p <;> unfold intsP at h <;> try cases h
    obtain ⟨ms, h1, rfl⟩ := Option.map_eq_some_iff.mp h
    rw [intsP_some h1]; rfl
theorem alike_ints : ∀ (ns ms : List Int), PySem.W.alikeAll (ns.map PyData.int) (ms.map PyData.int) = true
  | [], _ => by simp [PySem.W.alikeAll]
  | _ :: _, [] => by simp [PySem.W.alikeAll]
  | x :: ns, y :: ms => by
    rw [List.map_cons, List.map_cons, PySem.W.alikeAll, alike_ints ns ms]
    simp [PySem.W.alike]
theorem lt_ints : ∀ (ns ms : List Int), PyProof.Rows.lexLt PyProof.Rows.itemOrd (PySem.W.keyToksAll (ns.map PyData.int)) (PySem.W.keyToksAll (ms.map PyData.int)) = ltLI ns ms
  | [], [] => by
    simp only [List.map_nil, PySem.W.keyToksAll, ltLI]
    rw [PyProof.Rows.lex_irrefl]
  | [], y :: ms => by
    simp only [List.map_nil, List.map_cons, PySem.W.keyToksAll, ltLI]
    rw [PySem.W.lex_atom (by simp)]
    have := PySem.W.dataLt_int 0 1
    unfold PySem.W.dataLt at this
    simp only [PySem.W.keyToks] at this
    rw [this]; rfl
  | x :: ns, [] => by
    simp only [List.map_nil, List.map_cons, PySem.W.keyToksAll, ltLI]
    rw [PySem.W.lex_atom (by simp)]
    have := PySem.W.dataLt_int 1 0
    unfold PySem.W.dataLt at this
    simp only [PySem.W.keyToks] at this
    rw [this]; rfl
  | x :: ns, y :: ms => by
    have ih := lt_ints ns ms
    simp only [List.map_cons, PySem.W.keyToksAll, PySem.W.keyToks, ltLI, List.singleton_append]
    rw [PyProof.Rows.lex_self (O := PyProof.Rows.itemOrd)]
    by_cases h : x = y
    · subst h
      rw [if_pos rfl, PyProof.Rows.lex_self (O := PyProof.Rows.itemOrd)]
      exact ih
    · rw [if_neg h, PySem.W.lex_atom (by simpa using h)]
      have := PySem.W.dataLt_int x y
      unfold PySem.W.dataLt at this
      simp only [PySem.W.keyToks] at this
      exact this
theorem ltQ_some {p q : Option PyData} {b : Bool} (h : ltQ p q = some b) : ∃ ns ms : List Int, p = some (.list (ns.map PyData.int)) ∧ q = some (.list (ms.map PyData.int)) ∧ b = ltLI ns ms := by
  unfold ltQ at h
  split at h
  · rename_i ps qs
    split at h
    · rename_i ns ms h1 h2
      exact ⟨ns, ms, by rw [intsP_some h1], by rw [intsP_some h2], (Option.some.inj h).symm⟩
    · cases h
  · cases h
/-- neither is a list -/
def NoRefs (x y : D) : Prop := ∀ l k, x = .ref l → y = .ref k → False
theorem cmpD_ord {o : Cop} (ho : o = .lt ∨ o = .le ∨ o = .gt ∨ o = .ge) {x y : D} (hn : NoRefs x y ∨ o = .le ∨ o = .ge) : cmpD o x y = ofB (ordD o 12 x y) := by
  rcases ho with rfl | rfl | rfl | rfl
  · cases x <;> cases y <;> first | rfl | skip
    rcases hn with hn | hn | hn
    · exact (hn _ _ rfl rfl).elim
    · cases hn
    · cases hn
  · cases x <;> cases y <;> rfl
  · cases x <;> cases y <;> first | rfl | skip
    rcases hn with hn | hn | hn
    · exact (hn _ _ rfl rfl).elim
    · cases hn
    · cases hn
  · cases x <;> cases y <;> rfl
theorem op_ordD (hu : X.A.units + 26 < cLine) {o : Cop} (ho : o = .lt ∨ o = .le ∨ o = .gt ∨ o = .ge) : OpR X (compareOp o.op) (rD X.K (cmpD o)) := by
  intro pins s σ H v w u u' Q I rv rw' h
  obtain ⟨Ex, m, S, x, y, sr, rx, ry, h⟩ := h
  by_cases hn : NoRefs x y ∨ o = .le ∨ o = .ge
  case neg =>
    obtain ⟨l, k, rfl, rfl⟩ : ∃ l k, x = .ref l ∧ y = .ref k := Classical.byContradiction fun z => hn (.inl fun l k e1 e2 => z ⟨l, k, e1, e2⟩)
    rcases ho with rfl | rfl | rfl | rfl
    · obtain ⟨c, e, h⟩ := ofB_some (show post X.K Ex m H (ofB (ltQ (pd S 12 (.ref l)) (pd S 12 (.ref k))) S) (fun d m' _ H' => ∀ w, Rep m' H' d w → Q w H') from h)
      obtain ⟨ns, ms, e1, e2, rfl⟩ := ltQ_some e
      obtain ⟨as, r1⟩ := Dp.reads I _ v u (dp_of sr 12 _ v _ rx e1) rv
      obtain ⟨bs, r2⟩ := Dp.reads I _ w u' (dp_of sr 12 _ w _ ry e2) rw'
      have d1 := (pd_shape 12 _ _ e1).2
      have R := PySem.W.rcLt_alike _ _ X.A s u u' as bs r1 r2 (by rw [PySem.W.alike]; exact alike_ints ns ms) (by simp) (Nat.lt_of_le_of_lt (Nat.add_le_add_left (Nat.le_trans (Nat.min_le_left _ _) d1) _) (by omega))
      rw [PySem.W.dataLt_list, lt_ints] at R
      exact R X.prog X.w X.xe (EP X pins σ Q) ⟨.bl _, H, I, rfl, post_val sr h (.bl _)⟩
    · exact (hn (.inr (.inl rfl))).elim
    · obtain ⟨c, e, h⟩ := ofB_some (show post X.K Ex m H (ofB (ltQ (pd S 12 (.ref k)) (pd S 12 (.ref l))) S) (fun d m' _ H' => ∀ w, Rep m' H' d w → Q w H') from h)
      obtain ⟨ns, ms, e1, e2, rfl⟩ := ltQ_some e
      obtain ⟨as, r1⟩ := Dp.reads I _ v u (dp_of sr 12 _ v _ rx e2) rv
      obtain ⟨bs, r2⟩ := Dp.reads I _ w u' (dp_of sr 12 _ w _ ry e1) rw'
      have d1 := (pd_shape 12 _ _ e2).2
      have R := PySem.W.rcGt_alike _ _ X.A s u u' as bs r1 r2 (by rw [PySem.W.alike]; exact alike_ints ms ns) (by simp) (Nat.lt_of_le_of_lt (Nat.add_le_add_left (Nat.le_trans (Nat.min_le_left _ _) d1) _) (by omega))
      rw [PySem.W.dataLt_list, lt_ints] at R
      exact R X.prog X.w X.xe (EP X pins σ Q) ⟨.bl _, H, I, rfl, post_val sr h (.bl _)⟩
    · exact (hn (.inr (.inr rfl))).elim
  rw [cmpD_ord ho hn] at h
  obtain ⟨c, e, h⟩ := ofB_some h
  have R := ord_rc I sr ho 12 x y c v w u u' X.A e rx ry rv rw' hu
  have z : wpAny (model X.prog X.w) X.A (richCompare o.op u u') (EP X pins σ Q) X.xe s := R X.prog X.w X.xe (EP X pins σ Q) ⟨.bl c, H, I, rfl, post_val sr h (.bl c)⟩
  rcases ho with rfl | rfl | rfl | rfl <;> exact z
theorem eqD_some {S : Store} {x y : D} {b : Bool} (h : eqD S x y = some b) : ∃ p q, pd S 12 x = some p ∧ pd S 12 y = some q ∧ b = PyData.eqv p q := by
  unfold eqD at h
  cases c1 : pd S 12 x with
  | none => rw [c1] at h; cases h
  | some p =>
    cases c2 : pd S 12 y with
    | none => rw [c1, c2] at h; cases h
    | some q => rw [c1, c2] at h; exact ⟨p, q, rfl, rfl, (Option.some.inj h).symm⟩
theorem op_eqX (hu : X.A.units + 64 < cLine) : OpR X (compareOp .Eq) (rD X.K (cmpD .eq)) := by
  refine OpR.imp (op_eqD hu) ?_
  intro v u H Q h
  obtain ⟨Ex, m, S, x, y, s, rx, ry, h⟩ := h
  obtain ⟨c, e, hp⟩ := ofB_some h
  obtain ⟨p, q, h1, h2, rfl⟩ := eqD_some e
  exact ⟨p, q, dp_of s 12 x v p rx h1, dp_of s 12 y u q ry h2, pd_shaped h1 (by decide), pd_shaped h2 (by decide), post_val s hp (.bl _)⟩
theorem op_neX (hu : X.A.units + 64 < cLine) : OpR X (compareOp .NotEq) (rD X.K (cmpD .ne)) := by
  refine OpR.imp (op_neD hu) ?_
  intro v u H Q h
  obtain ⟨Ex, m, S, x, y, s, rx, ry, h⟩ := h
  obtain ⟨c, e, hp⟩ := ofB_some h
  obtain ⟨b, e', rfl⟩ := Option.map_eq_some_iff.mp e
  obtain ⟨p, q, h1, h2, rfl⟩ := eqD_some e'
  exact ⟨p, q, dp_of s 12 x v p rx h1, dp_of s 12 y u q ry h2, pd_shaped h1 (by decide), pd_shaped h2 (by decide), post_val s hp (.bl _)⟩
theorem all_shape {S : Store} {ds : List D} {ps : List PyData} (h : mapO (pd S 12) ds = some ps) : PyData.canLayAll0 ps = true ∧ PyData.depthAll ps ≤ 12 := canAll_of (pd_shape 12) h
/-- x in a tuple -/
theorem op_in_tup (hu : X.A.units + 65 < cLine) (ng : Bool) : OpR X (compareOp (if ng then .NotIn else .In)) (fun x y H Q => ∃ d ds a xs, Dp X.K H x d ∧ y = .ref a ∧ SqT X.K H a xs ∧ DpAll X.K H xs ds ∧ SeqAt.shaped d = true ∧ PyData.canLayAll0 ds = true ∧ Q (.bl (ng != ds.any fun z => PyData.eqv z d)) H) := by
  intro pins s σ H x y v u Q I rx ry h
  obtain ⟨d, ds, a, xs, hd, rfl, ht, ha, sd, sl, q⟩ := h
  cases ry
  obtain ⟨as, r1⟩ := Dp.reads I d x v hd rx
  obtain ⟨bs, r2⟩ := Dp.reads I (.tuple ds) (.ref a) (.ref a) (.tup ht ha) rfl
  cases ng with
  | true => exact SeqAt.notIn_tuple_reads r2 r1 sl (SeqAt.canLay_of_shaped sd) (room_in_shaped sd hu) ⟨.bl _, H, I, rfl, by simpa using q⟩
  | false => exact SeqAt.in_tuple_reads r2 r1 sl (SeqAt.canLay_of_shaped sd) (room_in_shaped sd hu) ⟨.bl _, H, I, rfl, by simpa using q⟩
theorem inD_some {S : Store} {x y : D} {b : Bool} (h : inD S x y = some b) : (∃ p qs ds, pd S 12 x = some p ∧ mapO (pd S 12) ds = some qs ∧ b = (qs.any fun q => PyData.eqv q p) ∧ (y = .tup ds ∨ ∃ l o, y = .ref l ∧ sqO S l = some o ∧ items o = ds)) ∨ ∃ l lk kvs k, y = .ref l ∧ S[l]? = some (.dct lk kvs) ∧ keyD x = some k ∧ b = (findK kvs k).isSome := by
  cases y with
  | tup ys =>
    simp only [inD] at h
    cases c1 : pd S 12 x with
    | none => rw [c1] at h; cases h
    | some p =>
      cases c2 : mapO (pd S 12) ys with
      | none => rw [c1, c2] at h; cases h
      | some q => rw [c1, c2] at h; exact .inl ⟨p, q, ys, rfl, c2, (Option.some.inj h).symm, .inl rfl⟩
  | ref l =>
    simp only [inD] at h
    cases c0 : sqO S l with
    | none =>
      rw [c0] at h
      dsimp only at h
      cases c1 : S[l]? with
      | none => rw [c1] at h; cases h
      | some o =>
        rw [c1] at h
        cases o with
        | dct lk kvs =>
          obtain ⟨k, h1, h2⟩ := Option.map_eq_some_iff.mp h
          exact .inr ⟨l, lk, kvs, k, rfl, c1, h1, h2.symm⟩
        | _ => cases h
    | some o =>
      rw [c0] at h
      dsimp only at h
      cases c1 : pd S 12 x with
      | none => rw [c1] at h; cases h
      | some p =>
        cases c2 : mapO (pd S 12) (items o) with
        | none => rw [c1, c2] at h; cases h
        | some q => rw [c1, c2] at h; exact .inl ⟨p, q, items o, rfl, c2, (Option.some.inj h).symm, .inr ⟨l, o, rfl, c0, rfl⟩⟩
  | _ => simp only [inD] at h; cases h
theorem list_shaped {S : Store} {ds : List D} {ps : List PyData} (h : mapO (pd S 12) ds = some ps) : SeqAt.shaped (.list ps) = true := by
  obtain ⟨h1, h2⟩ := all_shape h
  show (PyData.canLay0 (.list ps) && decide (PyData.depth (.list ps) ≤ 64)) = true
  rw [Bool.and_eq_true]
  exact ⟨by simp only [PyData.canLay0]; exact h1, decide_eq_true (by simp only [PyData.depth]; omega)⟩
theorem op_inX (hu : X.A.units + 65 < cLine) : OpR X (compareOp .In) (rD X.K (cmpD .isIn)) := by
  refine OpR.imp (OpR.or (OpR.or (op_in_tup hu false) (op_inD hu)) (op_inN (by omega))) ?_
  intro v u H Q h
  obtain ⟨Ex, m, S, x, y, s, rx, ry, h⟩ := h
  obtain ⟨c, e, hp⟩ := ofB_some h
  rcases inD_some e with ⟨p, qs, ds, h1, h2, rfl, h3⟩ | ⟨l, lk, kvs, k, rfl, e0, hk, rfl⟩
  rotate_left
  · cases ry with
    | ref ea =>
      obtain ⟨xs, dr, da⟩ := s.dct_at e0 ea
      obtain ⟨b, rfl, k1, k2⟩ := key_v hk rx
      refine .inr ⟨_, b, xs, k, rfl, rfl, ⟨da.rd, dr.dv, k1, k2⟩, ?_⟩
      have z := post_val s hp (.bl _)
      rcases dr.find k with ⟨z1, z2⟩ | ⟨dv, p, v, z1, z2, _, _⟩
      · rw [z1] at z; rw [z2]; exact z
      · rw [z1] at z; rw [z2]; exact z
  rcases h3 with rfl | ⟨l, o, rfl, e0, rfl⟩
  · cases ry with
    | tup ea ra => exact .inl (.inl ⟨p, qs, _, _, dp_of s 12 x v p rx h1, rfl, SqT.of ea, dpAll_of (dp_of s 12) ra h2, pd_shaped h1 (by decide), (all_shape h2).1, by simpa using post_val s hp (.bl _)⟩)
  · cases ry with
    | ref ea =>
      obtain ⟨vs, q, rs⟩ := s.sq_at e0 ea
      exact .inl (.inr ⟨p, qs, dp_of s 12 x v p rx h1, .lst q (dpAll_of (dp_of s 12) rs h2), pd_shaped h1 (by decide), list_shaped h2, post_val s hp (.bl _)⟩)
theorem op_notInX (hu : X.A.units + 65 < cLine) : OpR X (compareOp .NotIn) (rD X.K (cmpD .notIn)) := by
  refine OpR.imp (OpR.or (OpR.or (op_in_tup hu true) (op_notInD hu)) (op_notInN (by omega))) ?_
  intro v u H Q h
  obtain ⟨Ex, m, S, x, y, s, rx, ry, h⟩ := h
  obtain ⟨c, e, hp⟩ := ofB_some h
  obtain ⟨b, e', rfl⟩ := Option.map_eq_some_iff.mp e
  rcases inD_some e' with ⟨p, qs, ds, h1, h2, rfl, h3⟩ | ⟨l, lk, kvs, k, rfl, e0, hk, rfl⟩
  rotate_left
  · cases ry with
    | ref ea =>
      obtain ⟨xs, dr, da⟩ := s.dct_at e0 ea
      obtain ⟨b, rfl, k1, k2⟩ := key_v hk rx
      refine .inr ⟨_, b, xs, k, rfl, rfl, ⟨da.rd, dr.dv, k1, k2⟩, ?_⟩
      have z := post_val s hp (.bl _)
      rcases dr.find k with ⟨z1, z2⟩ | ⟨dv, p, v, z1, z2, _, _⟩
      · rw [z1] at z; rw [z2]; exact z
      · rw [z1] at z; rw [z2]; exact z
  rcases h3 with rfl | ⟨l, o, rfl, e0, rfl⟩
  · cases ry with
    | tup ea ra => exact .inl (.inl ⟨p, qs, _, _, dp_of s 12 x v p rx h1, rfl, SqT.of ea, dpAll_of (dp_of s 12) ra h2, pd_shaped h1 (by decide), (all_shape h2).1, by simpa using post_val s hp (.bl _)⟩)
  · cases ry with
    | ref ea =>
      obtain ⟨vs, q, rs⟩ := s.sq_at e0 ea
      exact .inl (.inr ⟨p, qs, dp_of s 12 x v p rx h1, .lst q (dpAll_of (dp_of s 12) rs h2), pd_shaped h1 (by decide), list_shaped h2, post_val s hp (.bl _)⟩)
/-- a value and a written None, True, False -/
theorem op_isV (ng : Bool) : OpR X (compareOp (if ng then .IsNot else .Is)) (fun x y H Q => (y = .non ∧ Q (.bl (ng != decide (x = .non))) H) ∨ ∃ b, y = .bl b ∧ Q (.bl (ng != decide (x = .bl b))) H) := by
  intro pins s σ H x y v u Q I rx ry h
  rcases h with ⟨rfl, q⟩ | ⟨b, rfl, q⟩
  · cases ng with
    | true => exact op_notN pins s σ H x .non v u Q I rx ry ⟨rfl, by simpa using q⟩
    | false => exact op_isN pins s σ H x .non v u Q I rx ry ⟨rfl, by simpa using q⟩
  · cases (show u = Value.bool b from ry)
    by_cases e : x = .bl b
    · subst e
      cases (show v = Value.bool b from rx)
      cases ng with
      | true => exact wpAny_isNot_self rfl ⟨.bl false, H, I, rfl, by simpa using q⟩
      | false => exact wpAny_is_self rfl ⟨.bl true, H, I, rfl, by simpa using q⟩
    · have hne : v ≠ Value.bool b := fun z => e (RelV.inj rx (show RelV (.bl b) v from z))
      have hp : plainIs v (Value.bool b) = true := by cases v <;> first | rfl | (cases x <;> first | exact nomatch rx | (obtain ⟨_, z⟩ := rx; cases z))
      cases ng with
      | true => exact wpAny_isNot_other hp hne ⟨.bl true, H, I, rfl, by simpa [e] using q⟩
      | false => exact wpAny_is_other hp hne ⟨.bl false, H, I, rfl, by simpa [e] using q⟩
theorem isD_some {m : List Addr} {H : Hp} {x y : D} {v u : V} {b : Bool} (h : isD x y = some b) (rx : Rep m H x v) (ry : Rep m H y u) : (u = .non ∧ b = decide (v = .non)) ∨ ∃ c, u = .bl c ∧ b = decide (v = .bl c) := by
  cases y <;> simp only [isD] at h <;> try cases h
  · cases ry
    refine .inl ⟨rfl, ?_⟩
    cases rx <;> simp
  · cases ry
    refine .inr ⟨_, rfl, ?_⟩
    cases rx <;> first | (simp; done) | (rename_i c d; cases c <;> cases d <;> rfl)
theorem op_isX : OpR X (compareOp .Is) (rD X.K (cmpD .is_)) := by
  refine OpR.imp (op_isV false) ?_
  intro v u H Q h
  obtain ⟨Ex, m, S, x, y, s, rx, ry, h⟩ := h
  obtain ⟨c, e, hp⟩ := ofB_some h
  rcases isD_some e rx ry with ⟨rfl, rfl⟩ | ⟨b, rfl, rfl⟩
  · exact .inl ⟨rfl, by simpa using post_val s hp (.bl _)⟩
  · exact .inr ⟨b, rfl, by simpa using post_val s hp (.bl _)⟩
theorem op_isNotX : OpR X (compareOp .IsNot) (rD X.K (cmpD .isNot)) := by
  refine OpR.imp (op_isV true) ?_
  intro v u H Q h
  obtain ⟨Ex, m, S, x, y, s, rx, ry, h⟩ := h
  obtain ⟨c, e, hp⟩ := ofB_some h
  obtain ⟨c', e', rfl⟩ := Option.map_eq_some_iff.mp e
  rcases isD_some e' rx ry with ⟨rfl, rfl⟩ | ⟨b, rfl, rfl⟩
  · exact .inl ⟨rfl, by simpa using post_val s hp (.bl _)⟩
  · exact .inr ⟨b, rfl, by simpa using post_val s hp (.bl _)⟩
theorem op_cmpD (hu : X.A.units + 65 < cLine) : ∀ o : Cop, OpR X (compareOp o.op) (rD X.K (cmpD o))
  | .lt => op_ordD (by omega) (.inl rfl)
  | .le => op_ordD (by omega) (.inr (.inl rfl))
  | .gt => op_ordD (by omega) (.inr (.inr (.inl rfl)))
  | .ge => op_ordD (by omega) (.inr (.inr (.inr rfl)))
  | .eq => op_eqX (by omega)
  | .ne => op_neX (by omega)
  | .isIn => op_inX hu
  | .notIn => op_notInX hu
  | .is_ => op_isX
  | .isNot => op_isNotX
/-! ### one place, a place of a list -/
theorem ix_D (hu : X.A.units + 9 < cLine) : IxR X (rD X.K ixD) := by
  intro value slice pins s σ H v u w w' Q I rv ru h hs
  refine (ix_seq.or (ix_dict hu)) value slice pins s σ H v u w w' Q I rv ru ?_ hs
  obtain ⟨Ex, m, S, x, y, sr, rx, ry, h⟩ := h
  have dd : ∀ {l : Nat} {a : Addr} {ys : List D} {vs : List V} {bb : Addr}, m[l]? = some a → H bb = some (.tup vs) → Reps m H ys vs → post X.K Ex m H (ixD (.ref l) (.tup ys) S) (fun d m' _ H' => ∀ w, Rep m' H' d w → Q w H') → rIxN (.ref a) (.ref bb) H Q := fun {l a ys vs bb} ea eb rb h => by
    have h : post X.K Ex m H (dgetM l (.tup ys) S) (fun d m' _ H' => ∀ w, Rep m' H' d w → Q w H') := h
    unfold dgetM at h
    obtain ⟨lk, kvs, e0, h⟩ := getN_bind h
    obtain ⟨k, hk, h⟩ := keyM_bind h
    obtain ⟨d, hf, h⟩ := optM_post h
    obtain ⟨xs, dr, da⟩ := sr.dct_at e0 ea
    obtain ⟨b, e1, k1, k2⟩ := key_v hk (Rep.tup eb rb)
    cases e1
    rcases dr.find k with ⟨z1, z2⟩ | ⟨dv, p, v, z1, z2, z3, z4⟩
    · rw [z1] at hf; cases hf
    · have hf : findK kvs k = some d := hf
      rw [z1] at hf
      cases hf
      exact ⟨a, bb, xs, k, p, v, rfl, rfl, ⟨da.rd, dr.dv, k1, k2⟩, z2, z4, h m H (Gr.refl m H) sr v z3⟩
  cases rx with
  | ref ea =>
    cases ry with
    | tup eb rb => exact .inr (dd ea eb rb h)
    | int i =>
      rename_i l a
      obtain ⟨o, e0, h⟩ := getL_bind h
      obtain ⟨vs, q, ra⟩ := sr.sq_at e0 ea
      cases e : atI (items o) i with
      | none => rw [e] at h; exact h.elim
      | some d =>
        rw [e] at h
        obtain ⟨j, h1, h2, h3, h4, h5⟩ := atI_get e
        obtain ⟨w, h6, h7⟩ := ra.get h2
        refine .inl (.inl ⟨_, vs, i, w, rfl, rfl, q, ?_, post_val sr h h7⟩)
        unfold atI at e ⊢
        rw [← ra.length]
        cases e2 : ixN (items o).length i with
        | none => rw [e2] at e; cases e
        | some j' =>
          have := (ixN_seq e2).1
          rw [h1] at this
          cases this
          exact h6
    | _ => exact (show False from h).elim
  | tup ea ra =>
    cases ry with
    | int i =>
      rename_i a xs vs
      simp only [ixD] at h
      cases e : atI xs i with
      | none => rw [e] at h; exact h.elim
      | some d =>
        rw [e] at h
        obtain ⟨j, h1, h2, h3, h4, h5⟩ := atI_get e
        obtain ⟨w, h6, h7⟩ := ra.get h2
        refine .inl (.inr (.inl ⟨_, vs, i, w, rfl, rfl, SqT.of ea, ?_, post_val sr h h7⟩))
        unfold atI at e ⊢
        rw [← ra.length]
        cases e2 : ixN xs.length i with
        | none => rw [e2] at e; cases e
        | some j' =>
          have := (ixN_seq e2).1
          rw [h1] at this
          cases this
          exact h6
    | _ => exact (show False from h).elim
  | _ => cases ry <;> exact (show False from h).elim
end
end NL

/-! min and max of values that are ordered by what stands in the heap (tuples) -/
namespace NL
open PySem PySem.Spec PyProof.Rows
/-- a comparison by places, where G holds of the heap -/
def CmpG (prog : Program) (w : World) (A : Around) (op : CmpOp) (G : Shared → Prop) (P : Nat → Value → Prop) (bt : Nat → Nat → Bool) : Prop :=
  ∀ (i j : Nat) (x y : Value) (s : Shared) (Q E : Value → Shared → Prop), G s → P i x → P j y → Q (.bool (bt i j)) s → wpAny (model prog w) A (richCompare op x y) Q E s
/-- kept but for the iterator's own and T -/
abbrev Kp (wr : List Addr) (T : Addr) (h h' : Heap) : Prop := ∀ b o, b ∉ wr → b ≠ T → h.get? b = some o → h'.get? b = some o
abbrev two (x : Value) (c : Nat) : Obj := { cls := .type "list", dict := none, data := .seq #[x, x] c, slots := #[] }
section
variable {prog : Program} {w : World} {A : Around} {R : Result → Shared → Prop} {I T : Addr} {fp wr : List Addr} {n : Nat} {P : Nat → Value → Prop} {St : Nat → Heap → Prop} {bt : Nat → Nat → Bool} {G : Shared → Prop}

/-! #### min: the running best, with what is known of the heap kept -/
theorem min_turns (W : Walks prog w A.in1 I fp wr n P St) (hG : ∀ (s : Shared) (h' : Heap) (tk : Nat), G s → Kp wr T s.heap h' → G { s with heap := h', toks := tk }) (hc : CmpG prog w A.in1 .Lt G P bt) (hT : T ∉ fp) :
    ∀ (k j : Nat) (s : Shared) (x : Value) (c : Nat), n = j + 1 + k → St (j + 1) s.heap → G s → P (argBest bt j) x → s.heap.get? T = some (two x c) →
      (∀ v h' tk, P (argBest bt (n - 1)) v → Kp wr T s.heap h' → R (.ok (.ret v)) { s with heap := h', toks := tk }) →
      codeAny (model prog w) A (.builtin "min.loop" ⟨[.ref I, .none, .ref T], []⟩) R s := by
  have hw : T ∉ wr := fun q => hT (W.sub _ q)
  have nm : (toString "min" ++ toString ".loop" : String) = "min.loop" := by decide
  intro k
  induction k with
  | zero =>
    intro j s x c en st g px hx hr
    refine codeAny_builtin F.entry_min_loop (A := A) ?_
    rw [Around.under_plainId F.plain_min_loop _]
    show wpAny _ A.in1 (seqItems? (.ref T) >>= _) _ _ s
    refine wpAny_bind (wpAny_seqItems hx rfl (A := A.in1) ?_)
    show wpAny _ A.in1 (tryCatch (pyNext (.ref I)) _ >>= _) _ _ s
    refine wpAny_bind (wpAny_tryCatch (W.done s _ _ (by rw [en]; exact st) fun h1 tk k1 => ?_))
    have hx1 := k1 T _ hw hx
    show wpAny _ A.in1 (updateSeq T (fun _ => #[]) >>= _) _ _ _
    refine wpAny_bind (wpAny_updateSeq hx1 rfl (wpAny_bind (wpAny_letGo (wpAny_pure ?_))))
    exact hr x _ tk (by rw [en]; exact px) fun b o h1 h2 e => (Heap.get?_update_other _ _ (Ne.symm h2)).trans (k1 b o h1 e)
  | succ k ih =>
    intro j s x c en st g px hx hr
    refine codeAny_builtin F.entry_min_loop (A := A) ?_
    rw [Around.under_plainId F.plain_min_loop _]
    show wpAny _ A.in1 (seqItems? (.ref T) >>= _) _ _ s
    refine wpAny_bind (wpAny_seqItems hx rfl (A := A.in1) ?_)
    show wpAny _ A.in1 (tryCatch (pyNext (.ref I)) _ >>= _) _ _ s
    refine wpAny_bind (wpAny_tryCatch (W.item (j + 1) s _ _ (by omega) st fun v h1 tk pv st1 k1 => ?_))
    have hx1 := k1 T _ hw hx
    have g1 : G { s with heap := h1, toks := tk } := hG _ _ tk g fun b o q _ e => k1 b o q e
    show wpAny _ A.in1 (tryCatch (holding [v, v] (richCompare .Lt v x >>= _)) _ >>= _) _ _ _
    refine wpAny_bind (wpAny_tryCatch (wpAny_holding (wpAny_bind (hc (j + 1) (argBest bt j) v x { s with heap := h1, toks := tk } _ _ g1 pv px ?_))))
    refine wpAny_bind (wpAny_holding (wpAny_truthy_bool (wpAny_bind (wpAny_letGo (wpAny_pure ?_)))))
    cases hb : bt (j + 1) (argBest bt j) with
    | false =>
      simp only [Bool.false_eq_true, if_false]
      refine wpAny_bind (wpAny_letGo ?_)
      rw [nm]
      refine wpAny_pure ⟨plainId_quiet F.plain_min_loop _, ih (j + 1) { s with heap := h1, toks := tk } x c (by omega) st1 g1 (by simp only [argBest, hb, Bool.false_eq_true, if_false]; exact px) hx1 fun v' h2 t2 p2 k2 => ?_⟩
      exact hr v' h2 t2 p2 fun b o q1 q2 e => k2 b o q1 q2 (k1 b o q1 e)
    | true =>
      simp only [if_true]
      refine wpAny_bind (wpAny_updateSeq hx1 rfl (wpAny_bind (wpAny_letGo ?_)))
      rw [nm]
      have kk : ∀ b o, b ≠ T → h1.get? b = some o → (h1.update T (Obj.mapSeq fun _ => #[v, v])).get? b = some o := fun b o q e => (Heap.get?_update_other _ _ (Ne.symm q)).trans e
      refine wpAny_pure ⟨plainId_quiet F.plain_min_loop _, ih (j + 1) { s with heap := _, toks := tk } v _ (by omega) (W.frame _ _ _ st1 fun b hb2 o e => kk b o (fun q => hT (by rw [← q]; exact hb2)) e) (hG { s with heap := h1, toks := tk } _ tk g1 fun b o _ q e => kk b o q e)
        (by simp only [argBest, hb, if_true]; exact pv) (Heap.get?_update_self _ hx1 rfl) fun v' h2 t2 p2 k2 => ?_⟩
      exact hr v' h2 t2 p2 fun b o q1 q2 e => k2 b o q1 q2 (kk b o q2 (k1 b o q1 e))
theorem min_first (W : Walks prog w A.in1 I fp wr n P St) (hG : ∀ (s : Shared) (h' : Heap) (tk : Nat), G s → Kp wr T s.heap h' → G { s with heap := h', toks := tk }) (hc : CmpG prog w A.in1 .Lt G P bt) (hT : T ∉ fp) (hn : 0 < n) {s : Shared} {c : Nat}
    (st : St 0 s.heap) (g : G s) (hx : s.heap.get? T = some { cls := .type "list", dict := none, data := .seq #[] c, slots := #[] })
    (hr : ∀ v h' tk, P (argBest bt (n - 1)) v → Kp wr T s.heap h' → R (.ok (.ret v)) { s with heap := h', toks := tk }) :
    codeAny (model prog w) A (.builtin "min.loop" ⟨[.ref I, .none, .ref T], []⟩) R s := by
  have hw : T ∉ wr := fun q => hT (W.sub _ q)
  have nm : (toString "min" ++ toString ".loop" : String) = "min.loop" := by decide
  refine codeAny_builtin F.entry_min_loop (A := A) ?_
  rw [Around.under_plainId F.plain_min_loop _]
  show wpAny _ A.in1 (seqItems? (.ref T) >>= _) _ _ s
  refine wpAny_bind (wpAny_seqItems hx rfl (A := A.in1) ?_)
  show wpAny _ A.in1 (tryCatch (pyNext (.ref I)) _ >>= _) _ _ s
  refine wpAny_bind (wpAny_tryCatch (W.item 0 s _ _ hn st fun v h1 tk pv st1 k1 => ?_))
  have hx1 := k1 T _ hw hx
  have kk : ∀ b o, b ≠ T → h1.get? b = some o → (h1.update T (Obj.mapSeq fun _ => #[v, v])).get? b = some o := fun b o q e => (Heap.get?_update_other _ _ (Ne.symm q)).trans e
  have g1 : G { s with heap := h1, toks := tk } := hG _ _ tk g fun b o q _ e => k1 b o q e
  show wpAny _ A.in1 (updateSeq T (fun _ => #[v, v]) >>= _) _ _ _
  refine wpAny_bind (wpAny_updateSeq hx1 rfl ?_)
  rw [nm]
  refine wpAny_pure ⟨plainId_quiet F.plain_min_loop _, min_turns W hG hc hT (n - 1) 0 { s with heap := _, toks := tk } v _ (by omega) (W.frame _ _ _ st1 fun b hb2 o e => kk b o (fun q => hT (by rw [← q]; exact hb2)) e) (hG { s with heap := h1, toks := tk } _ tk g1 fun b o _ q e => kk b o q e)
    pv (Heap.get?_update_self _ hx1 rfl) fun v' h2 t2 p2 k2 => ?_⟩
  exact hr v' h2 t2 p2 fun b o q1 q2 e => k2 b o q1 q2 (kk b o q2 (k1 b o q1 e))
/-- min of the items that are walked -/
theorem min_walk {x : Value} {Q : Value → Shared → Prop} {E : Value → Shared → Prop} {s : Shared}
    (h : wpAny (model prog w) A.in1 (pyIter x) (fun it s2 => ∃ I fp wr n P St bt G, it = .ref I ∧ Walks prog w A.in1 I fp wr n P St ∧ St 0 s2.heap ∧ (∀ b ∈ fp, b < s2.heap.objs.size) ∧ 0 < n ∧ G s2 ∧
      (∀ (s : Shared) (h' : Heap) (tk : Nat), G s → (∀ b o, b < s2.heap.objs.size → b ∉ wr → s.heap.get? b = some o → h'.get? b = some o) → G { s with heap := h', toks := tk }) ∧ CmpG prog w A.in1 .Lt G P bt ∧
      ∀ v h' tk, P (argBest bt (n - 1)) v → (∀ b o, b ∉ wr → s2.heap.get? b = some o → h'.get? b = some o) → Q v { s2 with heap := h', toks := tk }) E s) :
    wpAny (model prog w) A (call (.builtin "min") [x]) Q E s := by
  have nm : (toString "min" ++ toString ".loop" : String) = "min.loop" := by decide
  refine call_function_tree F.kind_min F.plain_min F.entry_min (F.args_min1 _) ?_
  show wpAny _ A.in1 (Builtin.Builtins.bindParams "min" ["key", "default"] 0 ⟨[], []⟩ >>= _) _ _ s
  refine wpAny_bind (wpAny_of_eq (a := [none, none]) (by rfl) (wpAny_bind (wpAny_pure (wpAny_bind (wpAny_mono h (fun it s2 h2 => ?_) fun _ _ e => e)))))
  obtain ⟨I, fp, wr, n, P, St, bt, G, rfl, W, st, hfp, hn, g, hG, hc, hq⟩ := h2
  refine wpAny_bind (wpAny_newObj_type ?_)
  rw [nm]
  have lt : ∀ {b : Addr} {o : Obj}, s2.heap.get? b = some o → b ≠ s2.heap.objs.size := fun e => Nat.ne_of_lt (Heap.lt_size e)
  refine wpAny_pure ⟨plainId_quiet F.plain_min_loop _, min_first W (fun a b t ga k => hG a b t ga fun c o q1 q2 e => k c o q2 (Nat.ne_of_lt q1) e) hc (fun hm => Nat.lt_irrefl _ (hfp _ hm)) hn (W.frame _ _ _ st fun b _ o e => Heap.get?_push_of_some _ e)
    (hG _ _ s2.toks g fun b o _ _ e => Heap.get?_push_of_some _ e) (Heap.get?_push_size _ rfl) fun v h' tk pv k => ?_⟩
  exact hq v h' tk pv fun b o q e => k b o q (lt e) (Heap.get?_push_of_some _ e)

/-- min of 2 written values -/
theorem min_args2 {a b : Value} {Q : Value → Shared → Prop} {E : Value → Shared → Prop} {s : Shared}
    (h : wpAny (model prog w) A.in1 (pyIter (.ref s.heap.objs.size)) (fun it s2 => ∃ I fp wr n P St bt G, it = .ref I ∧ Walks prog w A.in1 I fp wr n P St ∧ St 0 s2.heap ∧ (∀ b ∈ fp, b < s2.heap.objs.size) ∧ 0 < n ∧ G s2 ∧
      (∀ (s : Shared) (h' : Heap) (tk : Nat), G s → (∀ b o, b < s2.heap.objs.size → b ∉ wr → s.heap.get? b = some o → h'.get? b = some o) → G { s with heap := h', toks := tk }) ∧ CmpG prog w A.in1 .Lt G P bt ∧
      ∀ v h' tk, P (argBest bt (n - 1)) v → (∀ b o, b ∉ wr → s2.heap.get? b = some o → h'.get? b = some o) → Q v { s2 with heap := h', toks := tk }) E
      { s with heap := s.heap.push { cls := .type "tuple", data := .seq #[a, b] } }) :
    wpAny (model prog w) A (call (.builtin "min") [a, b]) Q E s := by
  have nm : (toString "min" ++ toString ".loop" : String) = "min.loop" := by decide
  refine call_function_tree F.kind_min F.plain_min F.entry_min (by unfold argsOk; kernel_rfl) ?_
  show wpAny _ A.in1 (Builtin.Builtins.bindParams "min" ["key", "default"] 0 ⟨[], []⟩ >>= _) _ _ s
  refine wpAny_bind (wpAny_of_eq (a := [none, none]) (by rfl) ?_)
  show wpAny _ A.in1 (newTuple [a, b] >>= _) _ _ s
  refine wpAny_bind (wpAny_newObj_type (wpAny_bind (wpAny_mono h (fun it s2 h2 => ?_) fun _ _ e => e)))
  obtain ⟨I, fp, wr, n, P, St, bt, G, rfl, W, st, hfp, hn, g, hG, hc, hq⟩ := h2
  refine wpAny_bind (wpAny_newObj_type ?_)
  rw [nm]
  have lt : ∀ {b : Addr} {o : Obj}, s2.heap.get? b = some o → b ≠ s2.heap.objs.size := fun e => Nat.ne_of_lt (Heap.lt_size e)
  refine wpAny_pure ⟨plainId_quiet F.plain_min_loop _, min_first W (fun a b t ga k => hG a b t ga fun c o q1 q2 e => k c o q2 (Nat.ne_of_lt q1) e) hc (fun hm => Nat.lt_irrefl _ (hfp _ hm)) hn (W.frame _ _ _ st fun b _ o e => Heap.get?_push_of_some _ e)
    (hG _ _ s2.toks g fun b o _ _ e => Heap.get?_push_of_some _ e) (Heap.get?_push_size _ rfl) fun v h' tk pv k => ?_⟩
  exact hq v h' tk pv fun b o q e => k b o q (lt e) (Heap.get?_push_of_some _ e)

/-- min of 3 written values -/
theorem min_args3 {a b c : Value} {Q : Value → Shared → Prop} {E : Value → Shared → Prop} {s : Shared}
    (h : wpAny (model prog w) A.in1 (pyIter (.ref s.heap.objs.size)) (fun it s2 => ∃ I fp wr n P St bt G, it = .ref I ∧ Walks prog w A.in1 I fp wr n P St ∧ St 0 s2.heap ∧ (∀ b ∈ fp, b < s2.heap.objs.size) ∧ 0 < n ∧ G s2 ∧
      (∀ (s : Shared) (h' : Heap) (tk : Nat), G s → (∀ b o, b < s2.heap.objs.size → b ∉ wr → s.heap.get? b = some o → h'.get? b = some o) → G { s with heap := h', toks := tk }) ∧ CmpG prog w A.in1 .Lt G P bt ∧
      ∀ v h' tk, P (argBest bt (n - 1)) v → (∀ b o, b ∉ wr → s2.heap.get? b = some o → h'.get? b = some o) → Q v { s2 with heap := h', toks := tk }) E
      { s with heap := s.heap.push { cls := .type "tuple", data := .seq #[a, b, c] } }) :
    wpAny (model prog w) A (call (.builtin "min") [a, b, c]) Q E s := by
  have nm : (toString "min" ++ toString ".loop" : String) = "min.loop" := by decide
  refine call_function_tree F.kind_min F.plain_min F.entry_min (by unfold argsOk; kernel_rfl) ?_
  show wpAny _ A.in1 (Builtin.Builtins.bindParams "min" ["key", "default"] 0 ⟨[], []⟩ >>= _) _ _ s
  refine wpAny_bind (wpAny_of_eq (a := [none, none]) (by rfl) ?_)
  show wpAny _ A.in1 (newTuple [a, b, c] >>= _) _ _ s
  refine wpAny_bind (wpAny_newObj_type (wpAny_bind (wpAny_mono h (fun it s2 h2 => ?_) fun _ _ e => e)))
  obtain ⟨I, fp, wr, n, P, St, bt, G, rfl, W, st, hfp, hn, g, hG, hc, hq⟩ := h2
  refine wpAny_bind (wpAny_newObj_type ?_)
  rw [nm]
  have lt : ∀ {b : Addr} {o : Obj}, s2.heap.get? b = some o → b ≠ s2.heap.objs.size := fun e => Nat.ne_of_lt (Heap.lt_size e)
  refine wpAny_pure ⟨plainId_quiet F.plain_min_loop _, min_first W (fun a b t ga k => hG a b t ga fun c o q1 q2 e => k c o q2 (Nat.ne_of_lt q1) e) hc (fun hm => Nat.lt_irrefl _ (hfp _ hm)) hn (W.frame _ _ _ st fun b _ o e => Heap.get?_push_of_some _ e)
    (hG _ _ s2.toks g fun b o _ _ e => Heap.get?_push_of_some _ e) (Heap.get?_push_size _ rfl) fun v h' tk pv k => ?_⟩
  exact hq v h' tk pv fun b o q e => k b o q (lt e) (Heap.get?_push_of_some _ e)

/-- min of 4 written values -/
theorem min_args4 {a b c d : Value} {Q : Value → Shared → Prop} {E : Value → Shared → Prop} {s : Shared}
    (h : wpAny (model prog w) A.in1 (pyIter (.ref s.heap.objs.size)) (fun it s2 => ∃ I fp wr n P St bt G, it = .ref I ∧ Walks prog w A.in1 I fp wr n P St ∧ St 0 s2.heap ∧ (∀ b ∈ fp, b < s2.heap.objs.size) ∧ 0 < n ∧ G s2 ∧
      (∀ (s : Shared) (h' : Heap) (tk : Nat), G s → (∀ b o, b < s2.heap.objs.size → b ∉ wr → s.heap.get? b = some o → h'.get? b = some o) → G { s with heap := h', toks := tk }) ∧ CmpG prog w A.in1 .Lt G P bt ∧
      ∀ v h' tk, P (argBest bt (n - 1)) v → (∀ b o, b ∉ wr → s2.heap.get? b = some o → h'.get? b = some o) → Q v { s2 with heap := h', toks := tk }) E
      { s with heap := s.heap.push { cls := .type "tuple", data := .seq #[a, b, c, d] } }) :
    wpAny (model prog w) A (call (.builtin "min") [a, b, c, d]) Q E s := by
  have nm : (toString "min" ++ toString ".loop" : String) = "min.loop" := by decide
  refine call_function_tree F.kind_min F.plain_min F.entry_min (by unfold argsOk; kernel_rfl) ?_
  show wpAny _ A.in1 (Builtin.Builtins.bindParams "min" ["key", "default"] 0 ⟨[], []⟩ >>= _) _ _ s
  refine wpAny_bind (wpAny_of_eq (a := [none, none]) (by rfl) ?_)
  show wpAny _ A.in1 (newTuple [a, b, c, d] >>= _) _ _ s
  refine wpAny_bind (wpAny_newObj_type (wpAny_bind (wpAny_mono h (fun it s2 h2 => ?_) fun _ _ e => e)))
  obtain ⟨I, fp, wr, n, P, St, bt, G, rfl, W, st, hfp, hn, g, hG, hc, hq⟩ := h2
  refine wpAny_bind (wpAny_newObj_type ?_)
  rw [nm]
  have lt : ∀ {b : Addr} {o : Obj}, s2.heap.get? b = some o → b ≠ s2.heap.objs.size := fun e => Nat.ne_of_lt (Heap.lt_size e)
  refine wpAny_pure ⟨plainId_quiet F.plain_min_loop _, min_first W (fun a b t ga k => hG a b t ga fun c o q1 q2 e => k c o q2 (Nat.ne_of_lt q1) e) hc (fun hm => Nat.lt_irrefl _ (hfp _ hm)) hn (W.frame _ _ _ st fun b _ o e => Heap.get?_push_of_some _ e)
    (hG _ _ s2.toks g fun b o _ _ e => Heap.get?_push_of_some _ e) (Heap.get?_push_size _ rfl) fun v h' tk pv k => ?_⟩
  exact hq v h' tk pv fun b o q e => k b o q (lt e) (Heap.get?_push_of_some _ e)

/-! #### max: the running best, with what is known of the heap kept -/
theorem max_turns (W : Walks prog w A.in1 I fp wr n P St) (hG : ∀ (s : Shared) (h' : Heap) (tk : Nat), G s → Kp wr T s.heap h' → G { s with heap := h', toks := tk }) (hc : CmpG prog w A.in1 .Gt G P bt) (hT : T ∉ fp) :
    ∀ (k j : Nat) (s : Shared) (x : Value) (c : Nat), n = j + 1 + k → St (j + 1) s.heap → G s → P (argBest bt j) x → s.heap.get? T = some (two x c) →
      (∀ v h' tk, P (argBest bt (n - 1)) v → Kp wr T s.heap h' → R (.ok (.ret v)) { s with heap := h', toks := tk }) →
      codeAny (model prog w) A (.builtin "max.loop" ⟨[.ref I, .none, .ref T], []⟩) R s := by
  have hw : T ∉ wr := fun q => hT (W.sub _ q)
  have nm : (toString "max" ++ toString ".loop" : String) = "max.loop" := by decide
  intro k
  induction k with
  | zero =>
    intro j s x c en st g px hx hr
    refine codeAny_builtin F.entry_max_loop (A := A) ?_
    rw [Around.under_plainId F.plain_max_loop _]
    show wpAny _ A.in1 (seqItems? (.ref T) >>= _) _ _ s
    refine wpAny_bind (wpAny_seqItems hx rfl (A := A.in1) ?_)
    show wpAny _ A.in1 (tryCatch (pyNext (.ref I)) _ >>= _) _ _ s
    refine wpAny_bind (wpAny_tryCatch (W.done s _ _ (by rw [en]; exact st) fun h1 tk k1 => ?_))
    have hx1 := k1 T _ hw hx
    show wpAny _ A.in1 (updateSeq T (fun _ => #[]) >>= _) _ _ _
    refine wpAny_bind (wpAny_updateSeq hx1 rfl (wpAny_bind (wpAny_letGo (wpAny_pure ?_))))
    exact hr x _ tk (by rw [en]; exact px) fun b o h1 h2 e => (Heap.get?_update_other _ _ (Ne.symm h2)).trans (k1 b o h1 e)
  | succ k ih =>
    intro j s x c en st g px hx hr
    refine codeAny_builtin F.entry_max_loop (A := A) ?_
    rw [Around.under_plainId F.plain_max_loop _]
    show wpAny _ A.in1 (seqItems? (.ref T) >>= _) _ _ s
    refine wpAny_bind (wpAny_seqItems hx rfl (A := A.in1) ?_)
    show wpAny _ A.in1 (tryCatch (pyNext (.ref I)) _ >>= _) _ _ s
    refine wpAny_bind (wpAny_tryCatch (W.item (j + 1) s _ _ (by omega) st fun v h1 tk pv st1 k1 => ?_))
    have hx1 := k1 T _ hw hx
    have g1 : G { s with heap := h1, toks := tk } := hG _ _ tk g fun b o q _ e => k1 b o q e
    show wpAny _ A.in1 (tryCatch (holding [v, v] (richCompare .Gt v x >>= _)) _ >>= _) _ _ _
    refine wpAny_bind (wpAny_tryCatch (wpAny_holding (wpAny_bind (hc (j + 1) (argBest bt j) v x { s with heap := h1, toks := tk } _ _ g1 pv px ?_))))
    refine wpAny_bind (wpAny_holding (wpAny_truthy_bool (wpAny_bind (wpAny_letGo (wpAny_pure ?_)))))
    cases hb : bt (j + 1) (argBest bt j) with
    | false =>
      simp only [Bool.false_eq_true, if_false]
      refine wpAny_bind (wpAny_letGo ?_)
      rw [nm]
      refine wpAny_pure ⟨plainId_quiet F.plain_max_loop _, ih (j + 1) { s with heap := h1, toks := tk } x c (by omega) st1 g1 (by simp only [argBest, hb, Bool.false_eq_true, if_false]; exact px) hx1 fun v' h2 t2 p2 k2 => ?_⟩
      exact hr v' h2 t2 p2 fun b o q1 q2 e => k2 b o q1 q2 (k1 b o q1 e)
    | true =>
      simp only [if_true]
      refine wpAny_bind (wpAny_updateSeq hx1 rfl (wpAny_bind (wpAny_letGo ?_)))
      rw [nm]
      have kk : ∀ b o, b ≠ T → h1.get? b = some o → (h1.update T (Obj.mapSeq fun _ => #[v, v])).get? b = some o := fun b o q e => (Heap.get?_update_other _ _ (Ne.symm q)).trans e
      refine wpAny_pure ⟨plainId_quiet F.plain_max_loop _, ih (j + 1) { s with heap := _, toks := tk } v _ (by omega) (W.frame _ _ _ st1 fun b hb2 o e => kk b o (fun q => hT (by rw [← q]; exact hb2)) e) (hG { s with heap := h1, toks := tk } _ tk g1 fun b o _ q e => kk b o q e)
        (by simp only [argBest, hb, if_true]; exact pv) (Heap.get?_update_self _ hx1 rfl) fun v' h2 t2 p2 k2 => ?_⟩
      exact hr v' h2 t2 p2 fun b o q1 q2 e => k2 b o q1 q2 (kk b o q2 (k1 b o q1 e))
theorem max_first (W : Walks prog w A.in1 I fp wr n P St) (hG : ∀ (s : Shared) (h' : Heap) (tk : Nat), G s → Kp wr T s.heap h' → G { s with heap := h', toks := tk }) (hc : CmpG prog w A.in1 .Gt G P bt) (hT : T ∉ fp) (hn : 0 < n) {s : Shared} {c : Nat}
    (st : St 0 s.heap) (g : G s) (hx : s.heap.get? T = some { cls := .type "list", dict := none, data := .seq #[] c, slots := #[] })
    (hr : ∀ v h' tk, P (argBest bt (n - 1)) v → Kp wr T s.heap h' → R (.ok (.ret v)) { s with heap := h', toks := tk }) :
    codeAny (model prog w) A (.builtin "max.loop" ⟨[.ref I, .none, .ref T], []⟩) R s := by
  have hw : T ∉ wr := fun q => hT (W.sub _ q)
  have nm : (toString "max" ++ toString ".loop" : String) = "max.loop" := by decide
  refine codeAny_builtin F.entry_max_loop (A := A) ?_
  rw [Around.under_plainId F.plain_max_loop _]
  show wpAny _ A.in1 (seqItems? (.ref T) >>= _) _ _ s
  refine wpAny_bind (wpAny_seqItems hx rfl (A := A.in1) ?_)
  show wpAny _ A.in1 (tryCatch (pyNext (.ref I)) _ >>= _) _ _ s
  refine wpAny_bind (wpAny_tryCatch (W.item 0 s _ _ hn st fun v h1 tk pv st1 k1 => ?_))
  have hx1 := k1 T _ hw hx
  have kk : ∀ b o, b ≠ T → h1.get? b = some o → (h1.update T (Obj.mapSeq fun _ => #[v, v])).get? b = some o := fun b o q e => (Heap.get?_update_other _ _ (Ne.symm q)).trans e
  have g1 : G { s with heap := h1, toks := tk } := hG _ _ tk g fun b o q _ e => k1 b o q e
  show wpAny _ A.in1 (updateSeq T (fun _ => #[v, v]) >>= _) _ _ _
  refine wpAny_bind (wpAny_updateSeq hx1 rfl ?_)
  rw [nm]
  refine wpAny_pure ⟨plainId_quiet F.plain_max_loop _, max_turns W hG hc hT (n - 1) 0 { s with heap := _, toks := tk } v _ (by omega) (W.frame _ _ _ st1 fun b hb2 o e => kk b o (fun q => hT (by rw [← q]; exact hb2)) e) (hG { s with heap := h1, toks := tk } _ tk g1 fun b o _ q e => kk b o q e)
    pv (Heap.get?_update_self _ hx1 rfl) fun v' h2 t2 p2 k2 => ?_⟩
  exact hr v' h2 t2 p2 fun b o q1 q2 e => k2 b o q1 q2 (kk b o q2 (k1 b o q1 e))
/-- max of the items that are walked -/
theorem max_walk {x : Value} {Q : Value → Shared → Prop} {E : Value → Shared → Prop} {s : Shared}
    (h : wpAny (model prog w) A.in1 (pyIter x) (fun it s2 => ∃ I fp wr n P St bt G, it = .ref I ∧ Walks prog w A.in1 I fp wr n P St ∧ St 0 s2.heap ∧ (∀ b ∈ fp, b < s2.heap.objs.size) ∧ 0 < n ∧ G s2 ∧
      (∀ (s : Shared) (h' : Heap) (tk : Nat), G s → (∀ b o, b < s2.heap.objs.size → b ∉ wr → s.heap.get? b = some o → h'.get? b = some o) → G { s with heap := h', toks := tk }) ∧ CmpG prog w A.in1 .Gt G P bt ∧
      ∀ v h' tk, P (argBest bt (n - 1)) v → (∀ b o, b ∉ wr → s2.heap.get? b = some o → h'.get? b = some o) → Q v { s2 with heap := h', toks := tk }) E s) :
    wpAny (model prog w) A (call (.builtin "max") [x]) Q E s := by
  have nm : (toString "max" ++ toString ".loop" : String) = "max.loop" := by decide
  refine call_function_tree F.kind_max F.plain_max F.entry_max (F.args_max1 _) ?_
  show wpAny _ A.in1 (Builtin.Builtins.bindParams "max" ["key", "default"] 0 ⟨[], []⟩ >>= _) _ _ s
  refine wpAny_bind (wpAny_of_eq (a := [none, none]) (by rfl) (wpAny_bind (wpAny_pure (wpAny_bind (wpAny_mono h (fun it s2 h2 => ?_) fun _ _ e => e)))))
  obtain ⟨I, fp, wr, n, P, St, bt, G, rfl, W, st, hfp, hn, g, hG, hc, hq⟩ := h2
  refine wpAny_bind (wpAny_newObj_type ?_)
  rw [nm]
  have lt : ∀ {b : Addr} {o : Obj}, s2.heap.get? b = some o → b ≠ s2.heap.objs.size := fun e => Nat.ne_of_lt (Heap.lt_size e)
  refine wpAny_pure ⟨plainId_quiet F.plain_max_loop _, max_first W (fun a b t ga k => hG a b t ga fun c o q1 q2 e => k c o q2 (Nat.ne_of_lt q1) e) hc (fun hm => Nat.lt_irrefl _ (hfp _ hm)) hn (W.frame _ _ _ st fun b _ o e => Heap.get?_push_of_some _ e)
    (hG _ _ s2.toks g fun b o _ _ e => Heap.get?_push_of_some _ e) (Heap.get?_push_size _ rfl) fun v h' tk pv k => ?_⟩
  exact hq v h' tk pv fun b o q e => k b o q (lt e) (Heap.get?_push_of_some _ e)

/-- max of 2 written values -/
theorem max_args2 {a b : Value} {Q : Value → Shared → Prop} {E : Value → Shared → Prop} {s : Shared}
    (h : wpAny (model prog w) A.in1 (pyIter (.ref s.heap.objs.size)) (fun it s2 => ∃ I fp wr n P St bt G, it = .ref I ∧ Walks prog w A.in1 I fp wr n P St ∧ St 0 s2.heap ∧ (∀ b ∈ fp, b < s2.heap.objs.size) ∧ 0 < n ∧ G s2 ∧
      (∀ (s : Shared) (h' : Heap) (tk : Nat), G s → (∀ b o, b < s2.heap.objs.size → b ∉ wr → s.heap.get? b = some o → h'.get? b = some o) → G { s with heap := h', toks := tk }) ∧ CmpG prog w A.in1 .Gt G P bt ∧
      ∀ v h' tk, P (argBest bt (n - 1)) v → (∀ b o, b ∉ wr → s2.heap.get? b = some o → h'.get? b = some o) → Q v { s2 with heap := h', toks := tk }) E
      { s with heap := s.heap.push { cls := .type "tuple", data := .seq #[a, b] } }) :
    wpAny (model prog w) A (call (.builtin "max") [a, b]) Q E s := by
  have nm : (toString "max" ++ toString ".loop" : String) = "max.loop" := by decide
  refine call_function_tree F.kind_max F.plain_max F.entry_max (by unfold argsOk; kernel_rfl) ?_
  show wpAny _ A.in1 (Builtin.Builtins.bindParams "max" ["key", "default"] 0 ⟨[], []⟩ >>= _) _ _ s
  refine wpAny_bind (wpAny_of_eq (a := [none, none]) (by rfl) ?_)
  show wpAny _ A.in1 (newTuple [a, b] >>= _) _ _ s
  refine wpAny_bind (wpAny_newObj_type (wpAny_bind (wpAny_mono h (fun it s2 h2 => ?_) fun _ _ e => e)))
  obtain ⟨I, fp, wr, n, P, St, bt, G, rfl, W, st, hfp, hn, g, hG, hc, hq⟩ := h2
  refine wpAny_bind (wpAny_newObj_type ?_)
  rw [nm]
  have lt : ∀ {b : Addr} {o : Obj}, s2.heap.get? b = some o → b ≠ s2.heap.objs.size := fun e => Nat.ne_of_lt (Heap.lt_size e)
  refine wpAny_pure ⟨plainId_quiet F.plain_max_loop _, max_first W (fun a b t ga k => hG a b t ga fun c o q1 q2 e => k c o q2 (Nat.ne_of_lt q1) e) hc (fun hm => Nat.lt_irrefl _ (hfp _ hm)) hn (W.frame _ _ _ st fun b _ o e => Heap.get?_push_of_some _ e)
    (hG _ _ s2.toks g fun b o _ _ e => Heap.get?_push_of_some _ e) (Heap.get?_push_size _ rfl) fun v h' tk pv k => ?_⟩
  exact hq v h' tk pv fun b o q e => k b o q (lt e) (Heap.get?_push_of_some _ e)

/-- max of 3 written values -/
theorem max_args3 {a b c : Value} {Q : Value → Shared → Prop} {E : Value → Shared → Prop} {s : Shared}
    (h : wpAny (model prog w) A.in1 (pyIter (.ref s.heap.objs.size)) (fun it s2 => ∃ I fp wr n P St bt G, it = .ref I ∧ Walks prog w A.in1 I fp wr n P St ∧ St 0 s2.heap ∧ (∀ b ∈ fp, b < s2.heap.objs.size) ∧ 0 < n ∧ G s2 ∧
      (∀ (s : Shared) (h' : Heap) (tk : Nat), G s → (∀ b o, b < s2.heap.objs.size → b ∉ wr → s.heap.get? b = some o → h'.get? b = some o) → G { s with heap := h', toks := tk }) ∧ CmpG prog w A.in1 .Gt G P bt ∧
      ∀ v h' tk, P (argBest bt (n - 1)) v → (∀ b o, b ∉ wr → s2.heap.get? b = some o → h'.get? b = some o) → Q v { s2 with heap := h', toks := tk }) E
      { s with heap := s.heap.push { cls := .type "tuple", data := .seq #[a, b, c] } }) :
    wpAny (model prog w) A (call (.builtin "max") [a, b, c]) Q E s := by
  have nm : (toString "max" ++ toString ".loop" : String) = "max.loop" := by decide
  refine call_function_tree F.kind_max F.plain_max F.entry_max (by unfold argsOk; kernel_rfl) ?_
  show wpAny _ A.in1 (Builtin.Builtins.bindParams "max" ["key", "default"] 0 ⟨[], []⟩ >>= _) _ _ s
  refine wpAny_bind (wpAny_of_eq (a := [none, none]) (by rfl) ?_)
  show wpAny _ A.in1 (newTuple [a, b, c] >>= _) _ _ s
  refine wpAny_bind (wpAny_newObj_type (wpAny_bind (wpAny_mono h (fun it s2 h2 => ?_) fun _ _ e => e)))
  obtain ⟨I, fp, wr, n, P, St, bt, G, rfl, W, st, hfp, hn, g, hG, hc, hq⟩ := h2
  refine wpAny_bind (wpAny_newObj_type ?_)
  rw [nm]
  have lt : ∀ {b : Addr} {o : Obj}, s2.heap.get? b = some o → b ≠ s2.heap.objs.size := fun e => Nat.ne_of_lt (Heap.lt_size e)
  refine wpAny_pure ⟨plainId_quiet F.plain_max_loop _, max_first W (fun a b t ga k => hG a b t ga fun c o q1 q2 e => k c o q2 (Nat.ne_of_lt q1) e) hc (fun hm => Nat.lt_irrefl _ (hfp _ hm)) hn (W.frame _ _ _ st fun b _ o e => Heap.get?_push_of_some _ e)
    (hG _ _ s2.toks g fun b o _ _ e => Heap.get?_push_of_some _ e) (Heap.get?_push_size _ rfl) fun v h' tk pv k => ?_⟩
  exact hq v h' tk pv fun b o q e => k b o q (lt e) (Heap.get?_push_of_some _ e)

/-- max of 4 written values -/
theorem max_args4 {a b c d : Value} {Q : Value → Shared → Prop} {E : Value → Shared → Prop} {s : Shared}
    (h : wpAny (model prog w) A.in1 (pyIter (.ref s.heap.objs.size)) (fun it s2 => ∃ I fp wr n P St bt G, it = .ref I ∧ Walks prog w A.in1 I fp wr n P St ∧ St 0 s2.heap ∧ (∀ b ∈ fp, b < s2.heap.objs.size) ∧ 0 < n ∧ G s2 ∧
      (∀ (s : Shared) (h' : Heap) (tk : Nat), G s → (∀ b o, b < s2.heap.objs.size → b ∉ wr → s.heap.get? b = some o → h'.get? b = some o) → G { s with heap := h', toks := tk }) ∧ CmpG prog w A.in1 .Gt G P bt ∧
      ∀ v h' tk, P (argBest bt (n - 1)) v → (∀ b o, b ∉ wr → s2.heap.get? b = some o → h'.get? b = some o) → Q v { s2 with heap := h', toks := tk }) E
      { s with heap := s.heap.push { cls := .type "tuple", data := .seq #[a, b, c, d] } }) :
    wpAny (model prog w) A (call (.builtin "max") [a, b, c, d]) Q E s := by
  have nm : (toString "max" ++ toString ".loop" : String) = "max.loop" := by decide
  refine call_function_tree F.kind_max F.plain_max F.entry_max (by unfold argsOk; kernel_rfl) ?_
  show wpAny _ A.in1 (Builtin.Builtins.bindParams "max" ["key", "default"] 0 ⟨[], []⟩ >>= _) _ _ s
  refine wpAny_bind (wpAny_of_eq (a := [none, none]) (by rfl) ?_)
  show wpAny _ A.in1 (newTuple [a, b, c, d] >>= _) _ _ s
  refine wpAny_bind (wpAny_newObj_type (wpAny_bind (wpAny_mono h (fun it s2 h2 => ?_) fun _ _ e => e)))
  obtain ⟨I, fp, wr, n, P, St, bt, G, rfl, W, st, hfp, hn, g, hG, hc, hq⟩ := h2
  refine wpAny_bind (wpAny_newObj_type ?_)
  rw [nm]
  have lt : ∀ {b : Addr} {o : Obj}, s2.heap.get? b = some o → b ≠ s2.heap.objs.size := fun e => Nat.ne_of_lt (Heap.lt_size e)
  refine wpAny_pure ⟨plainId_quiet F.plain_max_loop _, max_first W (fun a b t ga k => hG a b t ga fun c o q1 q2 e => k c o q2 (Nat.ne_of_lt q1) e) hc (fun hm => Nat.lt_irrefl _ (hfp _ hm)) hn (W.frame _ _ _ st fun b _ o e => Heap.get?_push_of_some _ e)
    (hG _ _ s2.toks g fun b o _ _ e => Heap.get?_push_of_some _ e) (Heap.get?_push_size _ rfl) fun v h' tk pv k => ?_⟩
  exact hq v h' tk pv fun b o q e => k b o q (lt e) (Heap.get?_push_of_some _ e)
end
end NL

namespace NL
open PySem PySem.Spec PyProof.Rows L2
/-! ### min, max -/
def ofD (d : Option D) : M D := match d with
  | some d => pure d
  | none => die
def bestD (o : Cop) (xs : List D) : Option D :=
  if (xs.all fun x => xs.all fun y => (ordD o 12 x y).isSome) = true then xs[argBest (fun i j => (ordD o 12 (xs.getD i .non) (xs.getD j .non)).getD false) (xs.length - 1)]? else none
def mnD (o : Cop) : List D → M D
  | [.ref l] => getL l >>= fun xs => ofD (bestD o xs)
  | [.tup xs] => ofD (bestD o xs)
  | [a, b] => ofD (bestD o [a, b])
  | [a, b, c] => ofD (bestD o [a, b, c])
  | [a, b, c, d] => ofD (bestD o [a, b, c, d])
  | _ => die
/-- later states of s: all kept -/
def Lat (s : Shared) (s' : Shared) : Prop := ∃ h' tk, s' = { s with heap := h', toks := tk } ∧ ∀ b o, s.heap.get? b = some o → h'.get? b = some o
section
variable {X : Cx} {pins : List (Addr × Obj)} {σ : L2.St} {H : Hp} {s : Shared} {m : List Addr} {S : Store}
abbrev btOf (o : Cop) (xs : List D) : Nat → Nat → Bool := fun i j => (ordD o 12 (xs.getD i .non) (xs.getD j .non)).getD false
theorem mm_core (hu : X.A.units + 27 < cLine) (I : Inv X pins σ H s) (sr : SR X.K m S H) {o : Cop} (ho : o = .lt ∨ o = .le ∨ o = .gt ∨ o = .ge) {xs : List D} {vs : List V} {its : List Value} (rs : Reps m H xs vs) (rv : Vals vs its)
    (hall : (xs.all fun x => xs.all fun y => (ordD o 12 x y).isSome) = true) : CmpG X.prog X.w X.A.in1 o.op (Lat s) (fun i v => its.toArray[i]? = some v) (btOf o xs) := by
  intro i j x y s' Q E hG hx hy hQ
  obtain ⟨h', tk, rfl, k⟩ := hG
  have I' : Inv X pins σ H { s with heap := h', toks := tk } := I.kept k
  have at_ : ∀ {i : Nat} {x : Value}, its.toArray[i]? = some x → ∃ d v, xs[i]? = some d ∧ Rep m H d v ∧ RelV v x := fun {i x} h => by
    have hl : i < its.length := by simpa using (Array.getElem?_eq_some_iff.mp h).1
    have h' : its[i]? = some x := by simpa using h
    have hl2 : i < xs.length := by rw [rs.length, rv.length]; exact hl
    obtain ⟨v, h1, h2⟩ := rs.get (List.getElem?_eq_getElem hl2)
    obtain ⟨u, h3, h4⟩ := rv.get h1
    rw [h'] at h3
    cases h3
    exact ⟨_, v, List.getElem?_eq_getElem hl2, h2, h4⟩
  obtain ⟨d, v, d1, d2, d3⟩ := at_ hx
  obtain ⟨e, w, e1, e2, e3⟩ := at_ hy
  rw [List.all_eq_true] at hall
  have q := hall d (List.mem_of_getElem? d1)
  rw [List.all_eq_true] at q
  obtain ⟨b, hb⟩ := Option.isSome_iff_exists.mp (q e (List.mem_of_getElem? e1))
  have hbt : btOf o xs i j = b := by
    show (ordD o 12 (xs.getD i .non) (xs.getD j .non)).getD false = b
    rw [List.getD_eq_getElem?_getD, List.getD_eq_getElem?_getD, d1, e1]
    show (ordD o 12 d e).getD false = b
    rw [hb]; rfl
  rw [hbt] at hQ
  exact ord_rc I' sr ho 12 d e b v w x y X.A.in1 hb d2 e2 d3 e3 (by show X.A.units + 1 + 12 + 14 < cLine; omega) X.prog X.w E Q hQ
theorem best_some {o : Cop} {xs : List D} {d : D} (h : bestD o xs = some d) : (xs.all fun x => xs.all fun y => (ordD o 12 x y).isSome) = true ∧ xs[argBest (btOf o xs) (xs.length - 1)]? = some d := by
  unfold bestD at h
  split at h
  · rename_i hc; exact ⟨hc, h⟩
  · cases h
theorem ofD_some {Ex : Str → Option Nat → List Addr → Store → Hp → Prop} {K : PySem.W.Frag} {b : Option D} {F : D → List Addr → Store → Hp → Prop} (h : post K Ex m H (ofD b S) F) : ∃ c, b = some c ∧ post K Ex m H (.ok c S) F := by
  cases b with
  | none => exact h.elim
  | some c => exact ⟨c, rfl, h⟩
/-- behind the walk: the value that stands there -/
theorem best_end {Ex : Str → Option Nat → List Addr → Store → Hp → Prop} (I : Inv X pins σ H s) (sr : SR X.K m S H) {Q : VK} {o : Cop} {xs : List D} {vs : List V} {its : List Value} {d : D} (rs : Reps m H xs vs) (rv : Vals vs its) (hd : xs[argBest (btOf o xs) (xs.length - 1)]? = some d)
    (h : post X.K Ex m H (.ok d S) (fun d m' _ H' => ∀ w, Rep m' H' d w → Q w H')) {v : Value} {h' : Heap} {tk : Nat} (hv : its.toArray[argBest (btOf o xs) (its.toArray.size - 1)]? = some v) (k : ∀ b o, s.heap.get? b = some o → h'.get? b = some o) :
    EP X pins σ Q v { s with heap := h', toks := tk } := by
  have n : its.toArray.size = xs.length := by rw [List.size_toArray, ← rv.length, rs.length]
  rw [n] at hv
  obtain ⟨w, h1, h2⟩ := rs.get hd
  obtain ⟨u, h3, h4⟩ := rv.get h1
  have hv' : its[argBest (btOf o xs) (xs.length - 1)]? = some v := by simpa using hv
  rw [hv'] at h3
  cases h3
  exact ⟨w, H, I.kept k, h4, post_val sr h h2⟩
end
/-- a call by what the arguments are in the store -/
def rCD (K : PySem.W.Frag) (g : List D → M D) : List V → Hp → VK → Prop := fun vs H Q => ∃ Ex m S ds, SR K m S H ∧ Reps m H ds vs ∧ post K Ex m H (g ds S) (fun d m' _ H' => ∀ w, Rep m' H' d w → Q w H')
theorem push_lt {h : Heap} {o : Obj} {b : Addr} (hb : b < h.objs.size) : b < (h.push o).objs.size := by rw [Heap.size_push]; exact Nat.lt_succ_of_lt hb
theorem push_top {h : Heap} {o : Obj} : h.objs.size < (h.push o).objs.size := by rw [Heap.size_push]; exact Nat.lt_succ_self _
section
variable {X : Cx}
/-- min of one list or tuple -/
theorem min_one (hc : X.calm = true) (hu : X.A.units + 27 < cLine) {Ex : Str → Option Nat → List Addr → Store → Hp → Prop} {pins : List (Addr × Obj)} {σ : L2.St} {H : Hp} {s : Shared} {m : List Addr} {S : Store} {Q : VK} {xs : List D} {vs : List V} {its : List Value} {d : D} {a : Addr} (I : Inv X pins σ H s) (sr : SR X.K m S H)
    (rs : Reps m H xs vs) (rv : Vals vs its) (hs : s.heap.IsList a its.toArray ∨ s.heap.IsTuple a its.toArray) (hb : bestD .lt xs = some d)
    (h : post X.K Ex m H (.ok d S) (fun d m' _ H' => ∀ w, Rep m' H' d w → Q w H')) : wpAny (model X.prog X.w) X.A (call (.builtin "min") [.ref a]) (EP X pins σ Q) X.xe s := by
  obtain ⟨hall, hd⟩ := best_some hb
  have hn : 0 < its.toArray.size := by
    have n : its.toArray.size = xs.length := by rw [List.size_toArray, ← rv.length, rs.length]
    have := (List.getElem?_eq_some_iff.mp hd).1
    omega
  have cmp := mm_core hu I sr (o := .lt) (by decide) rs rv hall
  refine min_walk ?_
  have ne : ∀ {b : Addr} {o : Obj}, s.heap.get? b = some o → b ≠ s.heap.objs.size := fun e => Nat.ne_of_lt (Heap.lt_size e)
  have clo : ∀ {x : Obj} (s' : Shared) (h' : Heap) (tk : Nat), Lat s s' → (∀ b o, b < (s.heap.push x).objs.size → b ∉ [s.heap.objs.size] → s'.heap.get? b = some o → h'.get? b = some o) → Lat s { s' with heap := h', toks := tk } := fun {x} s' h' tk hl k => by
    obtain ⟨h1, t1, rfl, k1⟩ := hl
    exact ⟨h', tk, rfl, fun b o e => k b o (push_lt (Heap.lt_size e)) (by simpa using ne e) (k1 b o e)⟩
  have fin : ∀ {x : Obj} (v : Value) (h' : Heap) (tk : Nat), its.toArray[argBest (btOf .lt xs) (its.toArray.size - 1)]? = some v → (∀ b o, b ∉ [s.heap.objs.size] → (s.heap.push x).get? b = some o → h'.get? b = some o) → EP X pins σ Q v { s with heap := h', toks := tk } := fun {x} v h' tk hv k =>
    best_end I sr rs rv hd h hv fun b o e => k b o (by simpa using ne e) (Heap.get?_push_of_some _ e)
  rcases hs with hs | hs
  · have hlt : a < s.heap.objs.size := by obtain ⟨_, e, _⟩ := hs; exact Heap.lt_size e
    refine wpAny_pyIter_list hs ?_
    refine ⟨s.heap.objs.size, [s.heap.objs.size, a], [s.heap.objs.size], _, _, _, btOf .lt xs, Lat s, rfl, Walks.list (A := X.A.in1) (I.ok.hd hc) _ a (Nat.ne_of_lt hlt) its.toArray, ⟨⟨_, Heap.get?_push_size _ rfl, rfl, rfl⟩, hs.push _⟩, fun b hb => ?_, hn, ⟨_, s.toks, rfl, fun b o e => Heap.get?_push_of_some _ e⟩, clo, cmp, fin⟩
    rcases List.mem_cons.mp hb with rfl | hb
    · exact push_top
    · rw [List.mem_singleton.mp hb]; exact push_lt hlt
  · have hlt : a < s.heap.objs.size := by obtain ⟨_, e, _⟩ := hs; exact Heap.lt_size e
    refine wpAny_pyIter_tuple hs ?_
    refine ⟨s.heap.objs.size, [s.heap.objs.size, a], [s.heap.objs.size], _, _, _, btOf .lt xs, Lat s, rfl, Walks.tuple (A := X.A.in1) (I.ok.hd hc) _ a (Nat.ne_of_lt hlt) its.toArray, ⟨⟨_, Heap.get?_push_size _ rfl, rfl, rfl⟩, hs.push _⟩, fun b hb => ?_, hn, ⟨_, s.toks, rfl, fun b o e => Heap.get?_push_of_some _ e⟩, clo, cmp, fin⟩
    rcases List.mem_cons.mp hb with rfl | hb
    · exact push_top
    · rw [List.mem_singleton.mp hb]; exact push_lt hlt
theorem min_of_2 (hc : X.calm = true) (hu : X.A.units + 27 < cLine) {Ex : Str → Option Nat → List Addr → Store → Hp → Prop} {pins : List (Addr × Obj)} {σ : L2.St} {H : Hp} {s : Shared} {m : List Addr} {S : Store} {Q : VK} {xs : List D} {vs : List V} {a b : Value} {d : D} (I : Inv X pins σ H s) (sr : SR X.K m S H)
    (rs : Reps m H xs vs) (rv : Vals vs [a, b]) (hb : bestD .lt xs = some d)
    (h : post X.K Ex m H (.ok d S) (fun d m' _ H' => ∀ w, Rep m' H' d w → Q w H')) : wpAny (model X.prog X.w) X.A (call (.builtin "min") [a, b]) (EP X pins σ Q) X.xe s := by
  obtain ⟨hall, hd⟩ := best_some hb
  have cmp := mm_core hu I sr (o := .lt) (by decide) rs rv hall
  have hs : (s.heap.push { cls := .type "tuple", data := .seq #[a, b] }).IsTuple s.heap.objs.size [a, b].toArray := ⟨_, Heap.get?_push_size _ rfl, rfl, _, rfl⟩
  have ne : ∀ {b : Addr} {o : Obj}, s.heap.get? b = some o → b ≠ s.heap.objs.size := fun e => Nat.ne_of_lt (Heap.lt_size e)
  refine min_args2 (wpAny_pyIter_tuple hs ?_)
  refine ⟨_, [_, s.heap.objs.size], [_], _, _, _, btOf .lt xs, Lat s, rfl, Walks.tuple (A := X.A.in1) (I.ok.hd hc) _ s.heap.objs.size (Nat.ne_of_lt push_top) [a, b].toArray, ⟨⟨_, Heap.get?_push_size _ rfl, rfl, rfl⟩, hs.push _⟩, fun b hb => ?_, (by simp), ⟨_, s.toks, rfl, fun b o e => Heap.get?_push_of_some _ (Heap.get?_push_of_some _ e)⟩, fun s' h' tk hl k => ?_, cmp, fun v h' tk hv k => ?_⟩
  · rcases List.mem_cons.mp hb with rfl | hb
    · exact push_top
    · rw [List.mem_singleton.mp hb]; exact push_lt push_top
  · obtain ⟨h1, t1, rfl, k1⟩ := hl
    refine ⟨h', tk, rfl, fun b o e => k b o (push_lt (push_lt (Heap.lt_size e))) ?_ (k1 b o e)⟩
    have h1 := Heap.lt_size e
    intro hm
    rw [List.mem_singleton.mp hm, Heap.size_push] at h1
    exact Nat.lt_irrefl _ (Nat.lt_of_succ_lt h1)
  · refine best_end I sr rs rv hd h hv fun b o e => k b o ?_ (Heap.get?_push_of_some _ (Heap.get?_push_of_some _ e))
    have h1 := Heap.lt_size e
    intro hm
    rw [List.mem_singleton.mp hm, Heap.size_push] at h1
    exact Nat.lt_irrefl _ (Nat.lt_of_succ_lt h1)
theorem min_of_3 (hc : X.calm = true) (hu : X.A.units + 27 < cLine) {Ex : Str → Option Nat → List Addr → Store → Hp → Prop} {pins : List (Addr × Obj)} {σ : L2.St} {H : Hp} {s : Shared} {m : List Addr} {S : Store} {Q : VK} {xs : List D} {vs : List V} {a b c : Value} {d : D} (I : Inv X pins σ H s) (sr : SR X.K m S H)
    (rs : Reps m H xs vs) (rv : Vals vs [a, b, c]) (hb : bestD .lt xs = some d)
    (h : post X.K Ex m H (.ok d S) (fun d m' _ H' => ∀ w, Rep m' H' d w → Q w H')) : wpAny (model X.prog X.w) X.A (call (.builtin "min") [a, b, c]) (EP X pins σ Q) X.xe s := by
  obtain ⟨hall, hd⟩ := best_some hb
  have cmp := mm_core hu I sr (o := .lt) (by decide) rs rv hall
  have hs : (s.heap.push { cls := .type "tuple", data := .seq #[a, b, c] }).IsTuple s.heap.objs.size [a, b, c].toArray := ⟨_, Heap.get?_push_size _ rfl, rfl, _, rfl⟩
  have ne : ∀ {b : Addr} {o : Obj}, s.heap.get? b = some o → b ≠ s.heap.objs.size := fun e => Nat.ne_of_lt (Heap.lt_size e)
  refine min_args3 (wpAny_pyIter_tuple hs ?_)
  refine ⟨_, [_, s.heap.objs.size], [_], _, _, _, btOf .lt xs, Lat s, rfl, Walks.tuple (A := X.A.in1) (I.ok.hd hc) _ s.heap.objs.size (Nat.ne_of_lt push_top) [a, b, c].toArray, ⟨⟨_, Heap.get?_push_size _ rfl, rfl, rfl⟩, hs.push _⟩, fun b hb => ?_, (by simp), ⟨_, s.toks, rfl, fun b o e => Heap.get?_push_of_some _ (Heap.get?_push_of_some _ e)⟩, fun s' h' tk hl k => ?_, cmp, fun v h' tk hv k => ?_⟩
  · rcases List.mem_cons.mp hb with rfl | hb
    · exact push_top
    · rw [List.mem_singleton.mp hb]; exact push_lt push_top
  · obtain ⟨h1, t1, rfl, k1⟩ := hl
    refine ⟨h', tk, rfl, fun b o e => k b o (push_lt (push_lt (Heap.lt_size e))) ?_ (k1 b o e)⟩
    have h1 := Heap.lt_size e
    intro hm
    rw [List.mem_singleton.mp hm, Heap.size_push] at h1
    exact Nat.lt_irrefl _ (Nat.lt_of_succ_lt h1)
  · refine best_end I sr rs rv hd h hv fun b o e => k b o ?_ (Heap.get?_push_of_some _ (Heap.get?_push_of_some _ e))
    have h1 := Heap.lt_size e
    intro hm
    rw [List.mem_singleton.mp hm, Heap.size_push] at h1
    exact Nat.lt_irrefl _ (Nat.lt_of_succ_lt h1)
theorem min_of_4 (hc : X.calm = true) (hu : X.A.units + 27 < cLine) {Ex : Str → Option Nat → List Addr → Store → Hp → Prop} {pins : List (Addr × Obj)} {σ : L2.St} {H : Hp} {s : Shared} {m : List Addr} {S : Store} {Q : VK} {xs : List D} {vs : List V} {a b c e : Value} {d : D} (I : Inv X pins σ H s) (sr : SR X.K m S H)
    (rs : Reps m H xs vs) (rv : Vals vs [a, b, c, e]) (hb : bestD .lt xs = some d)
    (h : post X.K Ex m H (.ok d S) (fun d m' _ H' => ∀ w, Rep m' H' d w → Q w H')) : wpAny (model X.prog X.w) X.A (call (.builtin "min") [a, b, c, e]) (EP X pins σ Q) X.xe s := by
  obtain ⟨hall, hd⟩ := best_some hb
  have cmp := mm_core hu I sr (o := .lt) (by decide) rs rv hall
  have hs : (s.heap.push { cls := .type "tuple", data := .seq #[a, b, c, e] }).IsTuple s.heap.objs.size [a, b, c, e].toArray := ⟨_, Heap.get?_push_size _ rfl, rfl, _, rfl⟩
  have ne : ∀ {b : Addr} {o : Obj}, s.heap.get? b = some o → b ≠ s.heap.objs.size := fun e => Nat.ne_of_lt (Heap.lt_size e)
  refine min_args4 (wpAny_pyIter_tuple hs ?_)
  refine ⟨_, [_, s.heap.objs.size], [_], _, _, _, btOf .lt xs, Lat s, rfl, Walks.tuple (A := X.A.in1) (I.ok.hd hc) _ s.heap.objs.size (Nat.ne_of_lt push_top) [a, b, c, e].toArray, ⟨⟨_, Heap.get?_push_size _ rfl, rfl, rfl⟩, hs.push _⟩, fun b hb => ?_, (by simp), ⟨_, s.toks, rfl, fun b o e => Heap.get?_push_of_some _ (Heap.get?_push_of_some _ e)⟩, fun s' h' tk hl k => ?_, cmp, fun v h' tk hv k => ?_⟩
  · rcases List.mem_cons.mp hb with rfl | hb
    · exact push_top
    · rw [List.mem_singleton.mp hb]; exact push_lt push_top
  · obtain ⟨h1, t1, rfl, k1⟩ := hl
    refine ⟨h', tk, rfl, fun b o e => k b o (push_lt (push_lt (Heap.lt_size e))) ?_ (k1 b o e)⟩
    have h1 := Heap.lt_size e
    intro hm
    rw [List.mem_singleton.mp hm, Heap.size_push] at h1
    exact Nat.lt_irrefl _ (Nat.lt_of_succ_lt h1)
  · refine best_end I sr rs rv hd h hv fun b o e => k b o ?_ (Heap.get?_push_of_some _ (Heap.get?_push_of_some _ e))
    have h1 := Heap.lt_size e
    intro hm
    rw [List.mem_singleton.mp hm, Heap.size_push] at h1
    exact Nat.lt_irrefl _ (Nat.lt_of_succ_lt h1)
theorem call_min (hc : X.calm = true) (hu : X.A.units + 27 < cLine) : CallR X (.builtin "min") (rCD X.K (mnD .lt)) := by
  intro pins s σ H xs us Q I r h
  obtain ⟨Ex, m, S, ds, sr, rs, h⟩ := h
  unfold mnD at h
  split at h
  · cases rs with
    | cons r1 rn =>
      cases rn
      cases r1 with
      | ref ea =>
        obtain ⟨o, e0, h⟩ := getL_bind h
        obtain ⟨d, hb, h⟩ := ofD_some h
        obtain ⟨vs, q, ra⟩ := sr.sq_at e0 ea
        obtain ⟨its, rv, pl, _⟩ := I.list q
        rw [Vals.ref1 r]
        exact min_one hc hu I sr ra rv (.inl pl.isList) hb h
  · cases rs with
    | cons r1 rn =>
      cases rn
      cases r1 with
      | tup ea ra =>
        obtain ⟨d, hb, h⟩ := ofD_some h
        obtain ⟨its, rv, pl, _⟩ := I.tuple (SqT.of ea)
        rw [Vals.ref1 r]
        exact min_one hc hu I sr ra rv (.inr pl) hb h
  · obtain ⟨d, hb, h⟩ := ofD_some h
    cases rs with | cons a1 rs => cases rs with | cons a2 rs => cases rs; cases r with | cons b1 r => cases r with | cons b2 r => cases r; exact min_of_2 hc hu I sr (.cons a1 (.cons a2 .nil)) (.cons b1 (.cons b2 .nil)) hb h
  · obtain ⟨d, hb, h⟩ := ofD_some h
    cases rs with | cons a1 rs => cases rs with | cons a2 rs => cases rs with | cons a3 rs => cases rs; cases r with | cons b1 r => cases r with | cons b2 r => cases r with | cons b3 r => cases r; exact min_of_3 hc hu I sr (.cons a1 (.cons a2 (.cons a3 .nil))) (.cons b1 (.cons b2 (.cons b3 .nil))) hb h
  · obtain ⟨d, hb, h⟩ := ofD_some h
    cases rs with | cons a1 rs => cases rs with | cons a2 rs => cases rs with | cons a3 rs => cases rs with | cons a4 rs => cases rs; cases r with | cons b1 r => cases r with | cons b2 r => cases r with | cons b3 r => cases r with | cons b4 r => cases r; exact min_of_4 hc hu I sr (.cons a1 (.cons a2 (.cons a3 (.cons a4 .nil)))) (.cons b1 (.cons b2 (.cons b3 (.cons b4 .nil)))) hb h
  · exact h.elim
/-- max of one list or tuple -/
theorem max_one (hc : X.calm = true) (hu : X.A.units + 27 < cLine) {Ex : Str → Option Nat → List Addr → Store → Hp → Prop} {pins : List (Addr × Obj)} {σ : L2.St} {H : Hp} {s : Shared} {m : List Addr} {S : Store} {Q : VK} {xs : List D} {vs : List V} {its : List Value} {d : D} {a : Addr} (I : Inv X pins σ H s) (sr : SR X.K m S H)
    (rs : Reps m H xs vs) (rv : Vals vs its) (hs : s.heap.IsList a its.toArray ∨ s.heap.IsTuple a its.toArray) (hb : bestD .gt xs = some d)
    (h : post X.K Ex m H (.ok d S) (fun d m' _ H' => ∀ w, Rep m' H' d w → Q w H')) : wpAny (model X.prog X.w) X.A (call (.builtin "max") [.ref a]) (EP X pins σ Q) X.xe s := by
  obtain ⟨hall, hd⟩ := best_some hb
  have hn : 0 < its.toArray.size := by
    have n : its.toArray.size = xs.length := by rw [List.size_toArray, ← rv.length, rs.length]
    have := (List.getElem?_eq_some_iff.mp hd).1
    omega
  have cmp := mm_core hu I sr (o := .gt) (by decide) rs rv hall
  refine max_walk ?_
  have ne : ∀ {b : Addr} {o : Obj}, s.heap.get? b = some o → b ≠ s.heap.objs.size := fun e => Nat.ne_of_lt (Heap.lt_size e)
  have clo : ∀ {x : Obj} (s' : Shared) (h' : Heap) (tk : Nat), Lat s s' → (∀ b o, b < (s.heap.push x).objs.size → b ∉ [s.heap.objs.size] → s'.heap.get? b = some o → h'.get? b = some o) → Lat s { s' with heap := h', toks := tk } := fun {x} s' h' tk hl k => by
    obtain ⟨h1, t1, rfl, k1⟩ := hl
    exact ⟨h', tk, rfl, fun b o e => k b o (push_lt (Heap.lt_size e)) (by simpa using ne e) (k1 b o e)⟩
  have fin : ∀ {x : Obj} (v : Value) (h' : Heap) (tk : Nat), its.toArray[argBest (btOf .gt xs) (its.toArray.size - 1)]? = some v → (∀ b o, b ∉ [s.heap.objs.size] → (s.heap.push x).get? b = some o → h'.get? b = some o) → EP X pins σ Q v { s with heap := h', toks := tk } := fun {x} v h' tk hv k =>
    best_end I sr rs rv hd h hv fun b o e => k b o (by simpa using ne e) (Heap.get?_push_of_some _ e)
  rcases hs with hs | hs
  · have hlt : a < s.heap.objs.size := by obtain ⟨_, e, _⟩ := hs; exact Heap.lt_size e
    refine wpAny_pyIter_list hs ?_
    refine ⟨s.heap.objs.size, [s.heap.objs.size, a], [s.heap.objs.size], _, _, _, btOf .gt xs, Lat s, rfl, Walks.list (A := X.A.in1) (I.ok.hd hc) _ a (Nat.ne_of_lt hlt) its.toArray, ⟨⟨_, Heap.get?_push_size _ rfl, rfl, rfl⟩, hs.push _⟩, fun b hb => ?_, hn, ⟨_, s.toks, rfl, fun b o e => Heap.get?_push_of_some _ e⟩, clo, cmp, fin⟩
    rcases List.mem_cons.mp hb with rfl | hb
    · exact push_top
    · rw [List.mem_singleton.mp hb]; exact push_lt hlt
  · have hlt : a < s.heap.objs.size := by obtain ⟨_, e, _⟩ := hs; exact Heap.lt_size e
    refine wpAny_pyIter_tuple hs ?_
    refine ⟨s.heap.objs.size, [s.heap.objs.size, a], [s.heap.objs.size], _, _, _, btOf .gt xs, Lat s, rfl, Walks.tuple (A := X.A.in1) (I.ok.hd hc) _ a (Nat.ne_of_lt hlt) its.toArray, ⟨⟨_, Heap.get?_push_size _ rfl, rfl, rfl⟩, hs.push _⟩, fun b hb => ?_, hn, ⟨_, s.toks, rfl, fun b o e => Heap.get?_push_of_some _ e⟩, clo, cmp, fin⟩
    rcases List.mem_cons.mp hb with rfl | hb
    · exact push_top
    · rw [List.mem_singleton.mp hb]; exact push_lt hlt
theorem max_of_2 (hc : X.calm = true) (hu : X.A.units + 27 < cLine) {Ex : Str → Option Nat → List Addr → Store → Hp → Prop} {pins : List (Addr × Obj)} {σ : L2.St} {H : Hp} {s : Shared} {m : List Addr} {S : Store} {Q : VK} {xs : List D} {vs : List V} {a b : Value} {d : D} (I : Inv X pins σ H s) (sr : SR X.K m S H)
    (rs : Reps m H xs vs) (rv : Vals vs [a, b]) (hb : bestD .gt xs = some d)
    (h : post X.K Ex m H (.ok d S) (fun d m' _ H' => ∀ w, Rep m' H' d w → Q w H')) : wpAny (model X.prog X.w) X.A (call (.builtin "max") [a, b]) (EP X pins σ Q) X.xe s := by
  obtain ⟨hall, hd⟩ := best_some hb
  have cmp := mm_core hu I sr (o := .gt) (by decide) rs rv hall
  have hs : (s.heap.push { cls := .type "tuple", data := .seq #[a, b] }).IsTuple s.heap.objs.size [a, b].toArray := ⟨_, Heap.get?_push_size _ rfl, rfl, _, rfl⟩
  have ne : ∀ {b : Addr} {o : Obj}, s.heap.get? b = some o → b ≠ s.heap.objs.size := fun e => Nat.ne_of_lt (Heap.lt_size e)
  refine max_args2 (wpAny_pyIter_tuple hs ?_)
  refine ⟨_, [_, s.heap.objs.size], [_], _, _, _, btOf .gt xs, Lat s, rfl, Walks.tuple (A := X.A.in1) (I.ok.hd hc) _ s.heap.objs.size (Nat.ne_of_lt push_top) [a, b].toArray, ⟨⟨_, Heap.get?_push_size _ rfl, rfl, rfl⟩, hs.push _⟩, fun b hb => ?_, (by simp), ⟨_, s.toks, rfl, fun b o e => Heap.get?_push_of_some _ (Heap.get?_push_of_some _ e)⟩, fun s' h' tk hl k => ?_, cmp, fun v h' tk hv k => ?_⟩
  · rcases List.mem_cons.mp hb with rfl | hb
    · exact push_top
    · rw [List.mem_singleton.mp hb]; exact push_lt push_top
  · obtain ⟨h1, t1, rfl, k1⟩ := hl
    refine ⟨h', tk, rfl, fun b o e => k b o (push_lt (push_lt (Heap.lt_size e))) ?_ (k1 b o e)⟩
    have h1 := Heap.lt_size e
    intro hm
    rw [List.mem_singleton.mp hm, Heap.size_push] at h1
    exact Nat.lt_irrefl _ (Nat.lt_of_succ_lt h1)
  · refine best_end I sr rs rv hd h hv fun b o e => k b o ?_ (Heap.get?_push_of_some _ (Heap.get?_push_of_some _ e))
    have h1 := Heap.lt_size e
    intro hm
    rw [List.mem_singleton.mp hm, Heap.size_push] at h1
    exact Nat.lt_irrefl _ (Nat.lt_of_succ_lt h1)
theorem max_of_3 (hc : X.calm = true) (hu : X.A.units + 27 < cLine) {Ex : Str → Option Nat → List Addr → Store → Hp → Prop} {pins : List (Addr × Obj)} {σ : L2.St} {H : Hp} {s : Shared} {m : List Addr} {S : Store} {Q : VK} {xs : List D} {vs : List V} {a b c : Value} {d : D} (I : Inv X pins σ H s) (sr : SR X.K m S H)
    (rs : Reps m H xs vs) (rv : Vals vs [a, b, c]) (hb : bestD .gt xs = some d)
    (h : post X.K Ex m H (.ok d S) (fun d m' _ H' => ∀ w, Rep m' H' d w → Q w H')) : wpAny (model X.prog X.w) X.A (call (.builtin "max") [a, b, c]) (EP X pins σ Q) X.xe s := by
  obtain ⟨hall, hd⟩ := best_some hb
  have cmp := mm_core hu I sr (o := .gt) (by decide) rs rv hall
  have hs : (s.heap.push { cls := .type "tuple", data := .seq #[a, b, c] }).IsTuple s.heap.objs.size [a, b, c].toArray := ⟨_, Heap.get?_push_size _ rfl, rfl, _, rfl⟩
  have ne : ∀ {b : Addr} {o : Obj}, s.heap.get? b = some o → b ≠ s.heap.objs.size := fun e => Nat.ne_of_lt (Heap.lt_size e)
  refine max_args3 (wpAny_pyIter_tuple hs ?_)
  refine ⟨_, [_, s.heap.objs.size], [_], _, _, _, btOf .gt xs, Lat s, rfl, Walks.tuple (A := X.A.in1) (I.ok.hd hc) _ s.heap.objs.size (Nat.ne_of_lt push_top) [a, b, c].toArray, ⟨⟨_, Heap.get?_push_size _ rfl, rfl, rfl⟩, hs.push _⟩, fun b hb => ?_, (by simp), ⟨_, s.toks, rfl, fun b o e => Heap.get?_push_of_some _ (Heap.get?_push_of_some _ e)⟩, fun s' h' tk hl k => ?_, cmp, fun v h' tk hv k => ?_⟩
  · rcases List.mem_cons.mp hb with rfl | hb
    · exact push_top
    · rw [List.mem_singleton.mp hb]; exact push_lt push_top
  · obtain ⟨h1, t1, rfl, k1⟩ := hl
    refine ⟨h', tk, rfl, fun b o e => k b o (push_lt (push_lt (Heap.lt_size e))) ?_ (k1 b o e)⟩
    have h1 := Heap.lt_size e
    intro hm
    rw [List.mem_singleton.mp hm, Heap.size_push] at h1
    exact Nat.lt_irrefl _ (Nat.lt_of_succ_lt h1)
  · refine best_end I sr rs rv hd h hv fun b o e => k b o ?_ (Heap.get?_push_of_some _ (Heap.get?_push_of_some _ e))
    have h1 := Heap.lt_size e
    intro hm
    rw [List.mem_singleton.mp hm, Heap.size_push] at h1
    exact Nat.lt_irrefl _ (Nat.lt_of_succ_lt h1)
theorem max_of_4 (hc : X.calm = true) (hu : X.A.units + 27 < cLine) {Ex : Str → Option Nat → List Addr → Store → Hp → Prop} {pins : List (Addr × Obj)} {σ : L2.St} {H : Hp} {s : Shared} {m : List Addr} {S : Store} {Q : VK} {xs : List D} {vs : List V} {a b c e : Value} {d : D} (I : Inv X pins σ H s) (sr : SR X.K m S H)
    (rs : Reps m H xs vs) (rv : Vals vs [a, b, c, e]) (hb : bestD .gt xs = some d)
    (h : post X.K Ex m H (.ok d S) (fun d m' _ H' => ∀ w, Rep m' H' d w → Q w H')) : wpAny (model X.prog X.w) X.A (call (.builtin "max") [a, b, c, e]) (EP X pins σ Q) X.xe s := by
  obtain ⟨hall, hd⟩ := best_some hb
  have cmp := mm_core hu I sr (o := .gt) (by decide) rs rv hall
  have hs : (s.heap.push { cls := .type "tuple", data := .seq #[a, b, c, e] }).IsTuple s.heap.objs.size [a, b, c, e].toArray := ⟨_, Heap.get?_push_size _ rfl, rfl, _, rfl⟩
  have ne : ∀ {b : Addr} {o : Obj}, s.heap.get? b = some o → b ≠ s.heap.objs.size := fun e => Nat.ne_of_lt (Heap.lt_size e)
  refine max_args4 (wpAny_pyIter_tuple hs ?_)
  refine ⟨_, [_, s.heap.objs.size], [_], _, _, _, btOf .gt xs, Lat s, rfl, Walks.tuple (A := X.A.in1) (I.ok.hd hc) _ s.heap.objs.size (Nat.ne_of_lt push_top) [a, b, c, e].toArray, ⟨⟨_, Heap.get?_push_size _ rfl, rfl, rfl⟩, hs.push _⟩, fun b hb => ?_, (by simp), ⟨_, s.toks, rfl, fun b o e => Heap.get?_push_of_some _ (Heap.get?_push_of_some _ e)⟩, fun s' h' tk hl k => ?_, cmp, fun v h' tk hv k => ?_⟩
  · rcases List.mem_cons.mp hb with rfl | hb
    · exact push_top
    · rw [List.mem_singleton.mp hb]; exact push_lt push_top
  · obtain ⟨h1, t1, rfl, k1⟩ := hl
    refine ⟨h', tk, rfl, fun b o e => k b o (push_lt (push_lt (Heap.lt_size e))) ?_ (k1 b o e)⟩
    have h1 := Heap.lt_size e
    intro hm
    rw [List.mem_singleton.mp hm, Heap.size_push] at h1
    exact Nat.lt_irrefl _ (Nat.lt_of_succ_lt h1)
  · refine best_end I sr rs rv hd h hv fun b o e => k b o ?_ (Heap.get?_push_of_some _ (Heap.get?_push_of_some _ e))
    have h1 := Heap.lt_size e
    intro hm
    rw [List.mem_singleton.mp hm, Heap.size_push] at h1
    exact Nat.lt_irrefl _ (Nat.lt_of_succ_lt h1)
theorem call_max (hc : X.calm = true) (hu : X.A.units + 27 < cLine) : CallR X (.builtin "max") (rCD X.K (mnD .gt)) := by
  intro pins s σ H xs us Q I r h
  obtain ⟨Ex, m, S, ds, sr, rs, h⟩ := h
  unfold mnD at h
  split at h
  · cases rs with
    | cons r1 rn =>
      cases rn
      cases r1 with
      | ref ea =>
        obtain ⟨o, e0, h⟩ := getL_bind h
        obtain ⟨d, hb, h⟩ := ofD_some h
        obtain ⟨vs, q, ra⟩ := sr.sq_at e0 ea
        obtain ⟨its, rv, pl, _⟩ := I.list q
        rw [Vals.ref1 r]
        exact max_one hc hu I sr ra rv (.inl pl.isList) hb h
  · cases rs with
    | cons r1 rn =>
      cases rn
      cases r1 with
      | tup ea ra =>
        obtain ⟨d, hb, h⟩ := ofD_some h
        obtain ⟨its, rv, pl, _⟩ := I.tuple (SqT.of ea)
        rw [Vals.ref1 r]
        exact max_one hc hu I sr ra rv (.inr pl) hb h
  · obtain ⟨d, hb, h⟩ := ofD_some h
    cases rs with | cons a1 rs => cases rs with | cons a2 rs => cases rs; cases r with | cons b1 r => cases r with | cons b2 r => cases r; exact max_of_2 hc hu I sr (.cons a1 (.cons a2 .nil)) (.cons b1 (.cons b2 .nil)) hb h
  · obtain ⟨d, hb, h⟩ := ofD_some h
    cases rs with | cons a1 rs => cases rs with | cons a2 rs => cases rs with | cons a3 rs => cases rs; cases r with | cons b1 r => cases r with | cons b2 r => cases r with | cons b3 r => cases r; exact max_of_3 hc hu I sr (.cons a1 (.cons a2 (.cons a3 .nil))) (.cons b1 (.cons b2 (.cons b3 .nil))) hb h
  · obtain ⟨d, hb, h⟩ := ofD_some h
    cases rs with | cons a1 rs => cases rs with | cons a2 rs => cases rs with | cons a3 rs => cases rs with | cons a4 rs => cases rs; cases r with | cons b1 r => cases r with | cons b2 r => cases r with | cons b3 r => cases r with | cons b4 r => cases r; exact max_of_4 hc hu I sr (.cons a1 (.cons a2 (.cons a3 (.cons a4 .nil)))) (.cons b1 (.cons b2 (.cons b3 (.cons b4 .nil)))) hb h
  · exact h.elim
end
end NL

/-! sorted. -/
namespace NL
open PySem PySem.Spec PyProof.Rows L2
mutual
def noRef : D → Bool
  | .ref _ => false
  | .tup xs => noRefs xs
  | _ => true
def noRefs : List D → Bool
  | [] => true
  | x :: r => noRef x && noRefs r
end
mutual
theorem rep_fun {m : List Addr} {H : Hp} : ∀ {d d' : D} {v : V}, noRef d = true → noRef d' = true → Rep m H d v → Rep m H d' v → d = d'
  | _, d', _, _, n2, .non, r => by cases r; rfl
  | _, d', _, _, n2, .bl _, r => by cases r; rfl
  | _, d', _, _, n2, .int _, r => by cases r; rfl
  | _, d', _, _, n2, .str _, r => by cases r; rfl
  | .tup xs, d', _, n1, n2, .tup e a, r => by
    cases r with
    | tup e' a' =>
      rw [e] at e'
      cases e'
      unfold noRef at n1 n2
      rw [reps_fun n1 n2 a a']
    | ref _ => unfold noRef at n2; cases n2
  | _, d', _, n1, n2, .ref _, r => by unfold noRef at n1; cases n1
theorem reps_fun {m : List Addr} {H : Hp} : ∀ {ds ds' : List D} {vs : List V}, noRefs ds = true → noRefs ds' = true → Reps m H ds vs → Reps m H ds' vs → ds = ds'
  | _, _, _, _, _, .nil, r => by cases r; rfl
  | _, _, _, n1, n2, .cons a t, r => by
    cases r with
    | cons a' t' =>
      unfold noRefs at n1 n2
      rw [Bool.and_eq_true] at n1 n2
      rw [rep_fun n1.1 n2.1 a a', reps_fun n1.2 n2.2 t t']
end
def ltD (x y : D) : Bool := (ordD .lt 12 x y).getD false
/-- of what kind the first things are -/
def firstT : D → Option Bool
  | .tup (.int _ :: _) => some true
  | .tup (.tup _ :: _) => some false
  | _ => none
/-- what can be sorted: ints, or tuples that begin alike, in one order -/
structure OrdOk (xs : List D) : Prop where
  cmp : ∀ x ∈ xs, ∀ y ∈ xs, (ordD .lt 12 x y).isSome = true
  kind : (∃ ns : List Int, xs = ns.map D.int) ∨ ∃ b, ∀ x ∈ xs, firstT x = some b
  no : ∀ x ∈ xs, noRef x = true
  ir : ∀ x ∈ xs, ltD x x = false
  tr : ∀ x ∈ xs, ∀ y ∈ xs, ∀ z ∈ xs, ltD x y = true → ltD y z = true → ltD x z = true
  tt : ∀ x ∈ xs, ∀ y ∈ xs, x ≠ y → ltD x y = true ∨ ltD y x = true
/-- put in order -/
def ins {α : Type} (lt : α → α → Bool) (x : α) : List α → List α
  | [] => [x]
  | y :: ys => if lt y x = true then y :: ins lt x ys else x :: y :: ys
def srt {α : Type} (lt : α → α → Bool) : List α → List α
  | [] => []
  | x :: xs => ins lt x (srt lt xs)
theorem ins_perm {α : Type} {lt : α → α → Bool} {x : α} : ∀ ys : List α, (ins lt x ys).Perm (x :: ys)
  | [] => .refl _
  | y :: ys => by
    unfold ins
    split
    · exact ((ins_perm ys).cons y).trans (.swap x y ys)
    · exact .refl _
theorem srt_perm {α : Type} {lt : α → α → Bool} : ∀ xs : List α, (srt lt xs).Perm xs
  | [] => .refl _
  | x :: xs => (ins_perm (srt lt xs)).trans ((srt_perm xs).cons x)
theorem ins_srtd {α : Type} {lt : α → α → Bool} {P : α → Prop} (as : ∀ x y, P x → P y → lt x y = true → lt y x = false) (tr : ∀ x y z, P x → P y → P z → lt y x = false → lt z y = false → lt z x = false) {x : α} (hx : P x) :
    ∀ ys : List α, (∀ y ∈ ys, P y) → ys.Pairwise (fun a b => lt b a = false) → (ins lt x ys).Pairwise (fun a b => lt b a = false)
  | [], _, _ => List.pairwise_singleton _ _
  | y :: ys, hP, h => by
    obtain ⟨h1, h2⟩ := List.pairwise_cons.mp h
    have py := hP y List.mem_cons_self
    unfold ins
    split
    · rename_i c
      refine List.pairwise_cons.mpr ⟨fun z hz => ?_, ins_srtd as tr hx ys (fun z hz => hP z (List.mem_cons_of_mem _ hz)) h2⟩
      rcases List.mem_cons.mp ((ins_perm ys).mem_iff.mp hz) with rfl | hz
      · exact as y z py hx c
      · exact h1 z hz
    · rename_i c
      have c : lt y x = false := by simpa using c
      refine List.pairwise_cons.mpr ⟨fun z hz => ?_, h⟩
      rcases List.mem_cons.mp hz with rfl | hz
      · exact c
      · exact tr x y z hx py (hP z (List.mem_cons_of_mem _ hz)) c (h1 z hz)
theorem srt_srtd {α : Type} {lt : α → α → Bool} {P : α → Prop} (as : ∀ x y, P x → P y → lt x y = true → lt y x = false) (tr : ∀ x y z, P x → P y → P z → lt y x = false → lt z y = false → lt z x = false) :
    ∀ xs : List α, (∀ x ∈ xs, P x) → (srt lt xs).Pairwise (fun a b => lt b a = false)
  | [], _ => List.Pairwise.nil
  | x :: xs, hP => ins_srtd as tr (hP x List.mem_cons_self) _ (fun y hy => hP y (List.mem_cons_of_mem _ ((srt_perm xs).mem_iff.mp hy))) (srt_srtd as tr xs fun y hy => hP y (List.mem_cons_of_mem _ hy))
open Classical in
noncomputable def sortD (xs : List D) : Option (List D) := if OrdOk xs then some (srt ltD xs) else none
theorem OrdOk.as {xs : List D} (o : OrdOk xs) {x y : D} (hx : x ∈ xs) (hy : y ∈ xs) (h : ltD x y = true) : ltD y x = false := by
  cases e : ltD y x with
  | false => rfl
  | true => have := o.tr x hx y hy x hx h e; rw [o.ir x hx] at this; cases this
theorem OrdOk.le_tr {xs : List D} (o : OrdOk xs) {x y z : D} (hx : x ∈ xs) (hy : y ∈ xs) (hz : z ∈ xs) (h : ltD y x = false) (h2 : ltD z y = false) : ltD z x = false := by
  cases e : ltD z x with
  | false => rfl
  | true =>
    by_cases xy : x = y
    · subst xy; rw [e] at h2; cases h2
    · rcases o.tt x hx y hy xy with k | k
      · have := o.tr z hz x hx y hy e k; rw [this] at h2; cases h2
      · rw [k] at h; cases h
/-- two rearrangements in order are one -/
theorem perm_uniq {α : Type} {lt : α → α → Bool} : ∀ {l m : List α}, l.Perm m → (∀ x ∈ l, ∀ y ∈ l, x ≠ y → lt x y = true ∨ lt y x = true) → l.Pairwise (fun x y => lt y x = false) → m.Pairwise (fun x y => lt y x = false) → l = m
  | [], m, p, _, _, _ => (List.Perm.eq_nil p.symm).symm
  | x :: l, [], p, _, _, _ => absurd p.length_eq (by simp)
  | x :: l, y :: m, p, t, h1, h2 => by
    have e : x = y := by
      apply Classical.byContradiction
      intro ne
      have hy : y ∈ l := by
        rcases List.mem_cons.mp (p.mem_iff.mpr (List.mem_cons_self (a := y) (l := m))) with z | z
        · exact absurd z.symm ne
        · exact z
      have hx : x ∈ m := by
        rcases List.mem_cons.mp (p.mem_iff.mp (List.mem_cons_self (a := x) (l := l))) with z | z
        · exact absurd z ne
        · exact z
      have q1 := (List.pairwise_cons.mp h1).1 y hy
      have q2 := (List.pairwise_cons.mp h2).1 x hx
      rcases t x List.mem_cons_self y (List.mem_cons_of_mem _ hy) ne with z | z
      · rw [z] at q2; cases q2
      · rw [z] at q1; cases q1
    subst e
    rw [perm_uniq p.cons_inv (fun a ha b hb => t a (List.mem_cons_of_mem _ ha) b (List.mem_cons_of_mem _ hb)) (List.pairwise_cons.mp h1).2 (List.pairwise_cons.mp h2).2]
theorem OrdOk.sorted {xs : List D} (o : OrdOk xs) : (srt ltD xs).Pairwise fun x y => ltD y x = false :=
  srt_srtd (P := fun x => x ∈ xs) (fun x y hx hy h => o.as hx hy h) (fun x y z hx hy hz h k => o.le_tr hx hy hz h k) xs fun x h => h
theorem sortD_some {xs ys : List D} (h : sortD xs = some ys) : OrdOk xs ∧ ys = srt ltD xs := by
  unfold sortD at h
  split at h
  · rename_i o; cases h; exact ⟨o, rfl⟩
  · cases h
section
variable {X : Cx} {pins : List (Addr × Obj)} {σ : L2.St} {H : Hp} {s : Shared} {m : List Addr} {S : Store}
/-- the lexicographic loop of the sort, over what stands in the store -/
theorem kat_lex (I : Inv X pins σ H s) (sr : SR X.K m S H) {prog : Program} {w : World} {A : Around} (hu : A.units + 40 < cLine) {fl : Bool} {k : Nat} (hk : k ≤ 12) {Q : Bool → Shared → Prop} : ∀ (xs ys : List D) (vs ws : List V) (us ts : List Value) (i : Nat) (b : Bool),
    lexO .lt (ordD .lt k) xs ys = some b → ((xs.zip ys).all fun p => match eqD [] p.1 p.2 with | some true => true | some false => (ordD .lt k p.1 p.2).isSome | none => false) = true →
    Reps m H xs vs → Reps m H ys ws → Vals vs us → Vals ws ts → ((fl && i == 0) = true → ∃ n n' r r', xs = D.int n :: r ∧ ys = D.int n' :: r') → Q b s → PySem.W.KatLex prog w A fl (ord4 .lt (xs.length : Nat) (ys.length : Nat)) Q (us.zip ts) i s
  | [], [], _, _, _, _, i, b, h, _, .nil, .nil, .nil, .nil, _, hq => by
    unfold lexO at h
    cases h
    exact PySem.W.kat_nil hq
  | [], y :: ys, _, _, _, _, i, b, h, _, .nil, .cons _ _, .nil, .cons _ _, _, hq => by
    unfold lexO at h
    cases h
    refine PySem.W.kat_nil ?_
    have : ord4 .lt (([] : List D).length : Nat) ((y :: ys).length : Nat) = ord4 .lt 0 1 := by simp [ord4] <;> omega
    rw [this]; exact hq
  | x :: xs, [], _, _, _, _, i, b, h, _, .cons _ _, .nil, .cons _ _, .nil, _, hq => by
    unfold lexO at h
    cases h
    refine PySem.W.kat_nil ?_
    have : ord4 .lt ((x :: xs).length : Nat) (([] : List D).length : Nat) = ord4 .lt 1 0 := by simp [ord4] <;> omega
    rw [this]; exact hq
  | x :: xs, y :: ys, v :: vs, w' :: ws, u :: us, t :: ts, i, b, h, hall, .cons r1 t1, .cons r2 t2, .cons v1 w1, .cons v2 w2, hi, hq => by
    rw [List.zip_cons_cons, List.all_cons, Bool.and_eq_true] at hall
    obtain ⟨ha, hall⟩ := hall
    have eqn : ∃ c, eqD [] x y = some c ∧ (c = false → (ordD .lt k x y).isSome = true) := by
      dsimp only at ha
      cases e : eqD [] x y with
      | none => rw [e] at ha; cases ha
      | some c => refine ⟨c, rfl, fun z => ?_⟩; subst z; rw [e] at ha; exact ha
    obtain ⟨c, hc, hs⟩ := eqn
    have E : PySem.SeqAt.EqAt A s u t c := by
      have q := hc
      unfold eqD at q
      cases c1 : pd [] 12 x with
      | none => rw [c1] at q; cases q
      | some p =>
        cases c2 : pd [] 12 y with
        | none => rw [c1, c2] at q; cases q
        | some p' =>
          rw [c1, c2] at q
          have q' := Option.some.inj q
          rw [← q']
          exact eq_at I sr (pd_nil 12 x p c1) (pd_nil 12 y p' c2) r1 r2 v1 v2 A (by omega)
    rw [List.zip_cons_cons]
    refine PySem.W.kat_cons (E prog w _ _ ?_)
    have ln : ord4 .lt ((x :: xs).length : Nat) ((y :: ys).length : Nat) = ord4 .lt (xs.length : Nat) (ys.length : Nat) := by
      show decide (((x :: xs).length : Int) < ((y :: ys).length : Int)) = decide ((xs.length : Int) < (ys.length : Int))
      rw [List.length_cons, List.length_cons]
      exact decide_eq_decide.mpr (by omega)
    cases c with
    | true =>
      refine PySem.W.kat_yes ?_
      unfold lexO at h
      rw [hc] at h
      rw [ln]
      exact kat_lex I sr hu hk xs ys vs ws us ts (i + 1) b h hall t1 t2 w1 w2 (fun z => by simp at z) hq
    | false =>
      refine PySem.W.kat_no ?_
      unfold lexO at h
      rw [hc] at h
      have h : ordD .lt k x y = some b := h
      cases hfl : (fl && i == 0) with
      | true =>
        obtain ⟨n, n', r, r', e1, e2⟩ := hi hfl
        cases e1; cases e2
        cases r1; cases r2
        obtain ⟨t, rfl⟩ := v1
        obtain ⟨t', rfl⟩ := v2
        have hb : b = decide (n < n') := by
          cases k <;> (unfold ordD at h; cases h; rfl)
        subst hb
        exact oneLt_int hq
      | false =>
        exact PySem.W.kat_one _ _ (ord_rc I sr (.inl rfl) k x y b _ _ _ _ A h r1 r2 v1 v2 (by omega) prog w _ _ (show PySem.W.BoolBack Q (.bool b) s from hq))
theorem get_none {h : Heap} {p : Addr} (e : h.objs.size ≤ p) : h.get? p = none := by
  cases q : h.get? p with
  | none => rfl
  | some o => exact absurd (Nat.lt_of_lt_of_le (Heap.lt_size q) e) (Nat.lt_irrefl _)
/-- what a sort of these items has to say -/
def SortDrv (X : Cx) (s : Shared) (its : List Value) (G : (Value → Shared → Prop) → Prop) : Prop :=
  ∀ (ltv : Value → Value → Bool) (Q : Value → Shared → Prop), SrtO.Swo ltv →
    (2 ≤ its.length → ∀ (h₁ : Heap) (tk : Nat) (a : Addr), h₁.get? a = some (seqObj "list" its.toArray 0) → (∀ b o, s.heap.get? b = some o → b ≠ a ∧ h₁.get? b = some o) → SrtO.SortableO X.prog X.w X.A.in1.in1 { s with heap := h₁, toks := tk } a its ltv) →
    (∀ (out : List Value) (h₂ : Heap) (tk : Nat) (p : Addr), SrtO.Srtd ltv out → SrtO.Stb ltv out its → (∀ b o, s.heap.get? b = some o → h₂.get? b = some o) → s.heap.get? p = none → (∃ ep, h₂.get? p = some (seqObj "list" out.toArray ep)) → Q (.ref p) { s with heap := h₂, toks := tk }) → G Q
theorem drv_list {a : Addr} {its : List Value} (hl : s.heap.IsList a its.toArray) (hz : its.length ≤ sizeLine) : SortDrv X s its fun Q => wpAny (model X.prog X.w) X.A (call (.builtin "sorted") [.ref a]) Q X.xe s := fun ltv Q O h1 h2 =>
  SrtO.sorted_ord O hl hz (fun h h₁ a' ha kk => h1 h h₁ s.toks a' ha kk) fun out x1 x2 => h2 out _ s.toks _ x1 x2 (fun _ _ => PyProof.Rows.sortedAll_old) (get_none (Nat.le_succ _)) (PyProof.Rows.sortedAll_at s.heap its out.toArray)
/-- sorted of tuples -/
theorem sort_drv (I : Inv X pins σ H s) (sr : SR X.K m S H) (hu : X.A.units + 60 < cLine) {xs : List D} {vs : List V} {its : List Value} (o : OrdOk xs) {fb : Bool} (hk : ∀ x ∈ xs, firstT x = some fb) (rs : Reps m H xs vs) (rv : Vals vs its) (hz : its.length ≤ sizeLine) {G : (Value → Shared → Prop) → Prop} (drv : SortDrv X s its G) {Q : VK}
    (h : ∀ (ys : List V) (p : Addr), Reps m H (srt ltD xs) ys → H p = none → Q (.ref p) (upd H p (.lst ys))) : G (EP X pins σ Q) := by
  -- which item a value is
  have ex : ∀ u ∈ its, ∃ d ∈ xs, ∃ v, Rep m H d v ∧ RelV v u := fun u hu => by
    obtain ⟨i, hi, rfl⟩ := List.mem_iff_getElem.mp hu
    have l1 : i < xs.length := by rw [rs.length, rv.length]; exact hi
    obtain ⟨v, h1, h2⟩ := rs.get (List.getElem?_eq_getElem l1)
    obtain ⟨u', h3, h4⟩ := rv.get h1
    rw [List.getElem?_eq_getElem hi] at h3
    cases h3
    exact ⟨_, List.getElem_mem l1, v, h2, h4⟩
  open Classical in
  let dec : Value → D := fun u => if h : ∃ d ∈ xs, ∃ v, Rep m H d v ∧ RelV v u then choose h else xs.headD .non
  have isref : ∀ d ∈ xs, ∀ v u, Rep m H d v → RelV v u → ∃ b, v = .ref b ∧ u = .ref b := fun d hd v u r q => by
    have := hk d hd
    cases r <;> first | (unfold firstT at this; cases this; done) | skip
    · cases q; exact ⟨_, rfl, rfl⟩
  have dec_in : ∀ u, dec u ∈ xs ∨ (xs = [] ∧ dec u = .non) := fun u => by
    show (if h : ∃ d ∈ xs, ∃ v, Rep m H d v ∧ RelV v u then Classical.choose h else xs.headD .non) ∈ xs ∨ _
    split
    · rename_i h; exact .inl (Classical.choose_spec h).1
    · cases hx : xs with
      | nil =>
        refine .inr ⟨rfl, ?_⟩
        rename_i hn
        show (if h : ∃ d ∈ xs, ∃ v, Rep m H d v ∧ RelV v u then Classical.choose h else xs.headD .non) = .non
        rw [dif_neg hn, hx]; rfl
      | cons x r => exact .inl (by simp)
  have dec_eq : ∀ d ∈ xs, ∀ v u, Rep m H d v → RelV v u → dec u = d := fun d hd v u r q => by
    have h : ∃ d ∈ xs, ∃ v, Rep m H d v ∧ RelV v u := ⟨d, hd, v, r, q⟩
    have e : dec u = Classical.choose h := dif_pos h
    obtain ⟨h1, v', h2, h3⟩ := Classical.choose_spec h
    rw [e]
    obtain ⟨b, rfl, rfl⟩ := isref d hd v u r q
    obtain ⟨b', rfl, e'⟩ := isref _ h1 v' _ h2 h3
    cases e'
    exact rep_fun (o.no _ h1) (o.no d hd) h2 r
  have irr : ltD .non .non = false := rfl
  let ltv : Value → Value → Bool := fun v u => ltD (dec v) (dec u)
  have O : SrtO.Swo ltv := by
    refine ⟨fun v u h => ?_, fun v u w h k => ?_⟩
    · rcases dec_in v with a | ⟨e, a⟩
      · rcases dec_in u with b | ⟨e, b⟩
        · exact o.as a b h
        · rw [e] at a; cases a
      · rcases dec_in u with b | ⟨_, b⟩
        · rw [e] at b; cases b
        · show ltD (dec u) (dec v) = false
          rw [a, b]; rfl
    · rcases dec_in v with a | ⟨e, a⟩
      · rcases dec_in u with b | ⟨e, b⟩
        · rcases dec_in w with c | ⟨e, c⟩
          · exact o.le_tr a b c h k
          · rw [e] at a; cases a
        · rw [e] at a; cases a
      · rcases dec_in w with c | ⟨_, c⟩
        · rw [e] at c; cases c
        · show ltD (dec w) (dec v) = false
          rw [a, c]; rfl
  refine drv ltv _ O (fun h2 h₁ tk a' ha' kk => ?_) fun out hp2 tk p h1 h2 kp hp' he' => ?_
  · intro h' keep
    have k' : ∀ b ob, s.heap.get? b = some ob → h'.get? b = some ob := fun b ob e => keep b ob (kk b ob e).1 (kk b ob e).2
    have I' : Inv X pins σ H { s with heap := h', toks := tk } := I.kept (t' := tk) k'
    -- what an item is in the heap
    have item : ∀ u ∈ its, ∃ (b : Addr) (ds : List D) (ws : List V) (us : List Value) (ob : Obj) (n : Nat), u = .ref b ∧ D.tup ds ∈ xs ∧ dec u = .tup ds ∧ Reps m H ds ws ∧ Vals ws us ∧ h'.get? b = some ob ∧ ob.cls = .type "tuple" ∧ ob.data = .seq us.toArray n := fun u hu => by
      obtain ⟨d, hd, v, r, q⟩ := ex u hu
      have de := dec_eq d hd v u r q
      have := hk d hd
      cases r with
      | tup e a =>
        cases q
        obtain ⟨us, r1, p1, _⟩ := I'.tuple (SqT.of e)
        obtain ⟨ob, n, hb, hc, hd'⟩ : ∃ ob n, h'.get? _ = some ob ∧ ob.cls = .type "tuple" ∧ ob.data = .seq us.toArray n := by
          obtain ⟨ob, e1, e2, e3⟩ := p1
          obtain ⟨n, e3⟩ := e3
          exact ⟨ob, n, e1, e2, e3⟩
        exact ⟨_, _, _, us, ob, n, rfl, hd, de, a, r1, hb, hc, hd'⟩
      | _ => unfold firstT at this; cases this
    refine ⟨tuples' fb, fun Q E hq => ?_, fun p q hp hq => ?_⟩
    · have T : ∃ T : Value, (T != Value.type "tuple") = fb ∧ (T == T) = true ∧ ∀ l : List Value, (∀ u ∈ l, u ∈ its) → ∃ fs : List Value, PySem.W.KatTups h' l fs ∧ fs.length = l.length ∧ ∀ f ∈ fs, PySem.W.Looks (model X.prog X.w) h' (typeOf f) T := by
        refine ⟨if fb = true then .type "int" else .type "tuple", by cases fb <;> decide, by cases fb <;> decide, fun l => ?_⟩
        induction l with
        | nil => exact fun _ => ⟨[], .nil, rfl, fun f hf => (by cases hf)⟩
        | cons u l ih =>
          intro hu
          obtain ⟨fs, f1, f2, f3⟩ := ih fun w hw => hu w (List.mem_cons_of_mem _ hw)
          obtain ⟨b1, ds1, ws1, us1, ob1, n1, e1, m1, d1, r1, v1, g1, c1, t1⟩ := item u (hu u List.mem_cons_self)
          have k1 := hk _ m1
          have fst : ∃ f r, us1 = f :: r ∧ PySem.W.Looks (model X.prog X.w) h' (typeOf f) (if fb = true then .type "int" else .type "tuple") := by
            unfold firstT at k1
            split at k1 <;> first | (cases k1; done) | skip
            · rename_i ez
              cases ez
              cases k1
              cases r1 with
              | cons ra rb =>
                cases ra
                cases v1 with
                | cons va vb =>
                  obtain ⟨t, rfl⟩ := va
                  exact ⟨_, _, rfl, PySem.W.Looks.now⟩
            · rename_i ez
              cases ez
              cases k1
              cases r1 with
              | cons ra rb =>
                cases ra with
                | tup e a =>
                  cases v1 with
                  | cons va vb =>
                    cases va
                    obtain ⟨us, q1, p1, _⟩ := I'.tuple (SqT.of e)
                    obtain ⟨ob, g1, g2, _⟩ := p1
                    refine ⟨_, _, rfl, ?_⟩
                    have : PySem.W.Looks (model X.prog X.w) h' (typeOf (.ref _)) ob.cls := (PySem.W.Looks.ld g1).andThen .now
                    rw [g2] at this
                    exact this
          obtain ⟨f, r, rfl, hf⟩ := fst
          subst e1
          exact ⟨f :: fs, .cons g1 c1 t1 (by simp) f1, by simp [f2], fun g hg => by
            rcases List.mem_cons.mp hg with rfl | hg
            · exact hf
            · exact f3 g hg⟩
      obtain ⟨T, hT, hTT, fl⟩ := T
      obtain ⟨fs, f1, f2, f3⟩ := fl its fun u hu => hu
      refine PySem.W.kat_kind f1 (by rw [f2]; omega) f3 hTT ?_
      rw [hT]; exact hq
    · obtain ⟨b1, ds1, ws1, us1, ob1, n1, e1, m1, d1, r1, v1, g1, c1, t1⟩ := item p.1 hp
      obtain ⟨b2, ds2, ws2, us2, ob2, n2, e2, m2, d2, r2, v2, g2, c2, t2⟩ := item q.1 hq
      obtain ⟨b, hb⟩ := Option.isSome_iff_exists.mp (o.cmp _ m1 _ m2)
      have lb : SrtO.lt2 ltv p q = b := by
        show (ordD .lt 12 (dec p.1) (dec q.1)).getD false = b
        rw [d1, d2, hb]; rfl
      rw [e1, e2]
      refine PySem.W.kat_lt g1 t1 g2 t2 ?_
      have hb' : ordD .lt (11 + 1) (.tup ds1) (.tup ds2) = some b := hb
      rcases ordD_cases hb' with ⟨i, j, z, _⟩ | ⟨k', xs', ys', ek, z1, z2, hall, hx⟩
      · cases z
      · cases z1; cases z2
        have ek' : k' = 11 := by omega
        subst ek'
        have L := kat_lex I' sr (prog := X.prog) (w := X.w) (A := X.A.in1.in1) (by show X.A.units + 1 + 1 + 40 < cLine; omega) (fl := fb) (by omega) (Q := fun r s' => s' = { s with heap := h', toks := tk } ∧ r = SrtO.lt2 ltv p q) ds1 ds2 ws1 ws2 us1 us2 0 b hx hall r1 r2 v1 v2 (fun z => by
          have z : fb = true := by simpa using z
          subst z
          have k1 := hk _ m1
          have k2 := hk _ m2
          unfold firstT at k1 k2
          split at k1 <;> first | (cases k1; done) | skip
          split at k2 <;> first | (cases k2; done) | skip
          rename_i e3 _ _ _ e4
          cases e3; cases e4
          exact ⟨_, _, _, _, rfl, rfl⟩) ⟨rfl, lb.symm⟩
        have fin : ord4 .lt (ds1.length : Nat) (ds2.length : Nat) = decide (us1.toArray.size < us2.toArray.size) := by
          rw [List.size_toArray, List.size_toArray, ← v1.length, ← v2.length, ← r1.length, ← r2.length]
          show decide ((ds1.length : Int) < ds2.length) = _
          exact decide_eq_decide.mpr (by omega)
        rw [fin] at L
        exact L
  · obtain ⟨e1, e2⟩ := refs_back rv fun v hv => by
      obtain ⟨i, hi, rfl⟩ := List.mem_iff_getElem.mp hv
      have l1 : i < xs.length := by rw [rs.length]; exact hi
      obtain ⟨v, q1, q2⟩ := rs.get (List.getElem?_eq_getElem l1)
      rw [List.getElem?_eq_getElem hi] at q1
      cases q1
      obtain ⟨u', h3, h4⟩ := rv.get (List.getElem?_eq_getElem hi)
      obtain ⟨b, eb, _⟩ := isref _ (List.getElem_mem l1) _ u' q2 h4
      exact ⟨b, eb⟩
    have em : its.map dec = xs := by
      apply List.ext_getElem?
      intro i
      rw [List.getElem?_map]
      by_cases hi : i < xs.length
      · obtain ⟨v, q1, q2⟩ := rs.get (List.getElem?_eq_getElem hi)
        obtain ⟨u', h3, h4⟩ := rv.get q1
        rw [h3, List.getElem?_eq_getElem hi]
        show some (dec u') = _
        rw [dec_eq _ (List.getElem_mem hi) v u' q2 h4]
      · have hi' : ¬ i < its.length := by rw [← rv.length, ← rs.length]; exact hi
        rw [List.getElem?_eq_none (by omega), List.getElem?_eq_none (by omega)]; rfl
    have hp : (out.map dec).Perm xs := by
      have := h2.perm.map dec
      rw [em] at this
      exact this
    have eo : out.map dec = srt ltD xs := by
      refine perm_uniq (lt := ltD) (hp.trans (srt_perm xs).symm) (fun x hx y hy ne => o.tt x (hp.mem_iff.mp hx) y (hp.mem_iff.mp hy) ne) ?_ o.sorted
      exact List.pairwise_map.mpr h1
    have om : ∀ u ∈ out, u ∈ its := fun u hu => h2.perm.mem_iff.mp hu
    have ro : ∀ l : List Value, (∀ u ∈ l, u ∈ its) → Reps m H (l.map dec) (l.map backV) ∧ Vals (l.map backV) l := fun l => by
      induction l with
      | nil => exact fun _ => ⟨.nil, .nil⟩
      | cons u l ih =>
        intro hu
        obtain ⟨i1, i2⟩ := ih fun w hw => hu w (List.mem_cons_of_mem _ hw)
        obtain ⟨d, hd, v, r, q⟩ := ex u (hu u List.mem_cons_self)
        have de := dec_eq d hd v u r q
        obtain ⟨b, rfl, rfl⟩ := isref d hd v u r q
        rw [List.map_cons, List.map_cons, de]
        exact ⟨.cons r i1, .cons rfl i2⟩
    obtain ⟨ro1, ro2⟩ := ro out om
    rw [eo] at ro1
    obtain ⟨ep, he'⟩ := he'
    have hlen : (out.map backV).length ≤ sizeLine := by
      rw [List.length_map, h2.perm.length_eq]; exact hz
    exact ⟨.ref _, upd H p (.lst (out.map backV)), I.laidN (t' := tk) kp hp' (I.hok.gone hp') ⟨hlen, out, ep, ro2, he'⟩, rfl, h _ _ ro1 (I.hok.gone hp')⟩
/-- sorted of a list of tuples -/
theorem sort_tup (I : Inv X pins σ H s) (sr : SR X.K m S H) (hu : X.A.units + 60 < cLine) {xs : List D} {vs : List V} {its : List Value} {a : Addr} (o : OrdOk xs) {fb : Bool} (hk : ∀ x ∈ xs, firstT x = some fb) (rs : Reps m H xs vs) (rv : Vals vs its) (hl : s.heap.IsList a its.toArray) (hz : its.length ≤ sizeLine) {Q : VK}
    (h : ∀ (ys : List V) (p : Addr), Reps m H (srt ltD xs) ys → H p = none → Q (.ref p) (upd H p (.lst ys))) : wpAny (model X.prog X.w) X.A (call (.builtin "sorted") [.ref a]) (EP X pins σ Q) X.xe s :=
  sort_drv I sr hu o hk rs rv hz (drv_list hl hz) h
end
end NL

namespace NL
open PySem PySem.Spec PyProof.Rows L2
/-! ### built-in calls -/
inductive Blt where | abs | int | len | min | max | list | tuple | sum | sorted
  deriving DecidableEq
def intsD : List D → Option (List Int)
  | [] => some []
  | .int i :: r => (intsD r).map (i :: ·)
  | _ => none
def intQ : D → Bool
  | .int _ => true
  | _ => false
noncomputable def bltD : Blt → List D → M D
  | .abs, [.int i] => pure (.int (if i < 0 then -i else i))
  | .int, [.int i] => pure (.int i)
  | .int, [.bl b] => pure (.int (if b = true then 1 else 0))
  | .len, [.tup xs] => pure (.int xs.length)
  | .len, [.ref l] => getL l >>= fun xs => pure (.int xs.length)
  | .min, ds => mnD .lt ds
  | .max, ds => mnD .gt ds
  | .list, [.tup xs] => alloc (.lst xs)
  | .list, [.ref l] => getL l >>= fun xs => alloc (.lst xs)
  | .tuple, [.tup xs] => pure (.tup xs)
  | .tuple, [.ref l] => getL l >>= fun xs => pure (.tup xs)
  | .sum, [.ref l] => getL l >>= fun xs => match intsD xs with | some ns => pure (.int ns.sum) | none => die
  | .sorted, [.ref l] => getL l >>= fun xs => match sortD xs with | some ys => alloc (.lst ys) | none => die
  | .sorted, [.tup xs] => if xs.any intQ = true then die else match sortD xs with | some ys => alloc (.lst ys) | none => die
  | _, _ => die
def Blt.name : Blt → Str
  | .abs => "abs" | .int => "int" | .len => "len" | .min => "min" | .max => "max" | .list => "list" | .tuple => "tuple" | .sum => "sum" | .sorted => "sorted"
def Blt.val : Blt → Value
  | .abs => .builtin "abs" | .int => .type "int" | .len => .builtin "len" | .min => .builtin "min" | .max => .builtin "max" | .list => .type "list" | .tuple => .type "tuple" | .sum => .builtin "sum" | .sorted => .builtin "sorted"
theorem CallR.imp {X : Cx} {f : Value} {r r' : List V → Hp → VK → Prop} (h : CallR X f r) (k : ∀ vs H Q, r' vs H Q → r vs H Q) : CallR X f r' := fun pins s σ H xs us Q I rx q => h pins s σ H xs us Q I rx (k _ _ _ q)
theorem CallR.or {X : Cx} {f : Value} {r r' : List V → Hp → VK → Prop} (h : CallR X f r) (h' : CallR X f r') : CallR X f (fun vs H Q => r vs H Q ∨ r' vs H Q) := fun pins s σ H xs us Q I rx q => q.elim (h pins s σ H xs us Q I rx) (h' pins s σ H xs us Q I rx)
theorem Reps.one {m : List Addr} {H : Hp} {d : D} {vs : List V} (h : Reps m H [d] vs) : ∃ v, vs = [v] ∧ Rep m H d v := by
  cases h with
  | cons a b => cases b; exact ⟨_, rfl, a⟩
theorem intsD_some {m : List Addr} {H : Hp} : ∀ {ds : List D} {ns : List Int} {vs : List V}, intsD ds = some ns → Reps m H ds vs → vs = ns.map V.int
  | [], _, _, h, r => by cases r; cases h; rfl
  | d :: ds, ns, _, h, r => by
    cases r with
    | cons r1 r2 =>
      cases r1 <;> simp only [intsD] at h <;> try cases h
      obtain ⟨ns', e, rfl⟩ := Option.map_eq_some_iff.mp h
      rw [intsD_some e r2]; rfl
section
variable {K : PySem.W.Frag} {m : List Addr} {S : Store} {H : Hp} {Q : VK} {E : Str → Option Nat → List Addr → Store → Hp → Prop}
theorem post_tup {xs : List D} {vs : List V} (s : SR K m S H) (h : post K E m H (.ok (.tup xs) S) (fun d m' _ H' => ∀ w, Rep m' H' d w → Q w H')) (r : Reps m H xs vs) : ∀ p, H p = none → Q (.ref p) (upd H p (.tup vs)) := fun p hp =>
  post_gr h (Gr.upd_new hp) (s.new hp) _ (.tup upd_same (Reps.mono (Gr.upd_new hp) _ _ r))
end
section
variable {X : Cx}
theorem drv_tup {s : Shared} {a : Addr} {its : List Value} (hl : IsTup s.heap a its.toArray) (hz : its.length ≤ sizeLine) : SortDrv X s its fun Q => wpAny (model X.prog X.w) X.A (call (.builtin "sorted") [.ref a]) Q X.xe s := by
  intro ltv Q O h1 h2
  refine Calls.call_function_entry kind_sorted plain_sorted entry_sorted (args_sorted1 _) ?_
  unfold Builtin.«sorted»
  refine wpAny_bind (m := checkCount "sorted" 1 1 _) (wpAny_pure ?_)
  obtain ⟨o, g1, g2, n, g3⟩ := hl
  refine wpAny_bind (wpAny_collect_seq (A := X.A.in1) a (.inr rfl) g1 g2 g3 (fun h' hk => ?_) (by simpa using hz))
  refine wpAny_bind (wpAny_newList ?_ hz)
  have hoL : (h'.push (seqObj "list" its.toArray 0)).get? h'.objs.size = some (seqObj "list" its.toArray 0) := Heap.get?_push_size _ rfl
  have keep : ∀ b o, s.heap.get? b = some o → b ≠ h'.objs.size ∧ (h'.push (seqObj "list" its.toArray 0)).get? b = some o := fun b o q =>
    ⟨Nat.ne_of_lt (Heap.lt_size (hk b o q)), Heap.get?_push_of_some _ (hk b o q)⟩
  refine wpAny_bind (wpAny_holding (wpAny_call_entry slot_list_sort ⟨_, hoL, rfl⟩ entry_list_sort (SrtO.list_sort_ord (s := { s with heap := h'.push (seqObj "list" its.toArray 0) }) O hoL hz (fun hh2 => h1 hh2 _ _ _ hoL keep) fun out hs hb => ⟨_, rfl, ?_⟩) (args_list_sort _)))
  refine wpAny_pure ⟨_, rfl, h2 out _ _ _ hs hb (fun b o q => ?_) ?_ (sortedHeap_at hoL)⟩
  · have := keep b o q
    exact (sortedHeap_old this.1 (Heap.lt_size this.2)).trans this.2
  · show s.heap.get? h'.objs.size = none
    cases q : s.heap.get? h'.objs.size with
    | none => rfl
    | some o => exact absurd (Heap.lt_size (hk _ _ q)) (Nat.lt_irrefl _)
theorem call_sorted (hu : X.A.units + 65 < cLine) : CallR X (.builtin "sorted") (rCD X.K (bltD .sorted)) := by
  intro pins σ2 σ H vs us Q I rx h
  obtain ⟨Ex, m, S, ds, s, rs, h⟩ := h
  rcases ds with _ | ⟨d, _ | ⟨d2, ds⟩⟩
  · exact (show False from h).elim
  · obtain ⟨v, rfl, r⟩ := rs.one
    cases r <;> try exact (show False from h).elim
    all_goals rename_i ea
    case tup p xs ws eh =>
      have eu : us = [.ref p] := by
        cases rx with
        | cons r1 r2 => cases r1; cases r2; rfl
      by_cases hi : xs.any intQ = true
      · have e : bltD .sorted [.tup xs] = die := if_pos hi
        rw [e] at h
        exact h.elim
      · have e : bltD .sorted [.tup xs] = (match sortD xs with | some ys => alloc (.lst ys) | none => die) := if_neg hi
        rw [e] at h
        cases e2 : sortD xs with
        | none => rw [e2] at h; exact h.elim
        | some ys =>
          rw [e2] at h
          obtain ⟨ok, rfl⟩ := sortD_some e2
          have hk : ∃ fb, ∀ x ∈ xs, firstT x = some fb := by
            rcases ok.kind with ⟨ns, hn⟩ | hk
            · cases ns with
              | nil => exact ⟨true, fun x hx => by rw [hn] at hx; cases hx⟩
              | cons k ns => exact absurd (by rw [hn]; rfl) hi
            · exact hk
          obtain ⟨fb, hk⟩ := hk
          obtain ⟨its, rv, hl, hz⟩ := I.tuple (SqT.of eh)
          rw [eu]
          exact sort_drv I s (by omega) ok hk ea rv (by rw [← rv.length]; exact hz) (drv_tup hl (by rw [← rv.length]; exact hz)) fun ys p hr hn' => post_alloc s h hr p hn'
    rename_i l a
    obtain ⟨o, e0, hp⟩ := getL_bind h
    obtain ⟨ws, q, ra⟩ := s.sq_at e0 ea
    cases e : sortD (items o) with
    | none => rw [e] at hp; exact hp.elim
    | some ys =>
      rw [e] at hp
      obtain ⟨ok, rfl⟩ := sortD_some e
      have fin : ∀ {ws : List V}, Reps m H (srt ltD (items o)) ws → ∀ p, H p = none → Q (.ref p) (upd H p (.lst ws)) := fun {ws} r => post_alloc s hp r
      rcases ok.kind with ⟨ns, hn⟩ | ⟨fb, hk⟩
      · refine (CallR.imp cr_sortedI (fun vs H Q (h : rCD X.K (bltD .sorted) vs H Q ∧ ∃ (a : Addr) (ns : List Int), vs = [V.ref a] ∧ SqL X.K H a (ns.map V.int) ∧ ∀ (ns' : List Int) (p : Addr), ns'.Perm ns → ns'.Pairwise (· ≤ ·) → H p = none → Q (.ref p) (upd H p (.lst (ns'.map V.int)))) => h.2)) pins _ σ H _ us Q I rx ⟨⟨Ex, m, S, _, s, rs, h⟩, a, ns, rfl, ?_, fun ns' p hp1 hs hn' => ?_⟩
        · rw [hn] at ra
          have : ∀ {ns : List Int} {ws : List V}, Reps m H (ns.map D.int) ws → ws = ns.map V.int := fun {ns} => by
            induction ns with
            | nil => intro ws r; cases r; rfl
            | cons k ns ih =>
              intro ws r
              cases r with
              | cons r1 r2 => cases r1; rw [ih r2]; rfl
          rw [← this ra]; exact q
        · have e1 : srt ltD (items o) = ns'.map D.int := by
            refine perm_uniq (lt := ltD) ((srt_perm _).trans (by rw [hn]; exact (hp1.map D.int).symm)) (fun x hx y hy ne => ok.tt x ((srt_perm _).mem_iff.mp hx) y ((srt_perm _).mem_iff.mp hy) ne) ok.sorted ?_
            refine List.pairwise_map.mpr (hs.imp fun {x y} h => ?_)
            show (ordD .lt 12 (.int y) (.int x)).getD false = false
            have : ordD .lt 12 (.int y) (.int x) = some (decide (y < x)) := rfl
            rw [this]
            exact decide_eq_false (by omega)
          exact fin (by rw [e1]; exact Reps.ints ns') p hn'
      · obtain ⟨its, rv, hl, hz⟩ := I.list q
        have eu : us = [.ref a] := by
          cases rx with
          | cons r1 r2 => cases r1; cases r2; rfl
        rw [eu]
        exact sort_tup I s (by omega) ok hk ra rv hl.isList (by rw [← rv.length]; exact hz) fun ys p hr hn' => fin hr p hn'
  · cases d <;> exact (show False from h).elim
theorem call_bltD (hc : X.calm = true) (hu : X.A.units + 65 < cLine) : ∀ b : Blt, CallR X b.val (rCD X.K (bltD b))
  | .abs => by
    refine CallR.imp call_abs ?_
    intro vs H Q h
    obtain ⟨Ex, m, S, ds, s, rs, h⟩ := h
    rcases ds with _ | ⟨d, _ | ⟨d2, ds⟩⟩
    · exact (show False from h).elim
    · obtain ⟨v, rfl, r⟩ := rs.one
      cases r <;> try exact (show False from h).elim
      exact ⟨_, rfl, post_val s h (.int _)⟩
    · cases d <;> exact (show False from h).elim
  | .int => by
    refine CallR.imp call_int1 ?_
    intro vs H Q h
    obtain ⟨Ex, m, S, ds, s, rs, h⟩ := h
    rcases ds with _ | ⟨d, _ | ⟨d2, ds⟩⟩
    · exact (show False from h).elim
    · obtain ⟨v, rfl, r⟩ := rs.one
      cases r <;> try exact (show False from h).elim
      · exact .inr ⟨_, rfl, post_val s h (.int _)⟩
      · exact .inl ⟨_, rfl, post_val s h (.int _)⟩
    · cases d <;> exact (show False from h).elim
  | .len => by
    refine CallR.imp call_len_seq ?_
    intro vs H Q h
    obtain ⟨Ex, m, S, ds, s, rs, h⟩ := h
    rcases ds with _ | ⟨d, _ | ⟨d2, ds⟩⟩
    · exact (show False from h).elim
    · obtain ⟨v, rfl, r⟩ := rs.one
      cases r <;> try exact (show False from h).elim
      · rename_i a xs vs ea ra
        exact ⟨a, vs, rfl, .inr (SqT.of ea), by rw [← ra.length]; exact post_val s h (.int _)⟩
      · rename_i l a ea
        obtain ⟨o, e0, hp⟩ := getL_bind h
        obtain ⟨ws, q, ra⟩ := s.sq_at e0 ea
        exact ⟨a, ws, rfl, .inl q, by rw [← ra.length]; exact post_val s hp (.int _)⟩
    · cases d <;> exact (show False from h).elim
  | .min => CallR.imp (call_min hc (by omega)) fun _ _ _ h => h
  | .max => CallR.imp (call_max hc (by omega)) fun _ _ _ h => h
  | .list => by
    refine CallR.imp call_list_of ?_
    intro vs H Q h
    obtain ⟨Ex, m, S, ds, s, rs, h⟩ := h
    rcases ds with _ | ⟨d, _ | ⟨d2, ds⟩⟩
    · exact (show False from h).elim
    · obtain ⟨v, rfl, r⟩ := rs.one
      cases r <;> try exact (show False from h).elim
      · rename_i a xs vs ea ra
        exact ⟨a, vs, rfl, .inr (SqT.of ea), post_alloc s h ra⟩
      · rename_i l a ea
        obtain ⟨o, e0, hp⟩ := getL_bind h
        obtain ⟨ws, q, ra⟩ := s.sq_at e0 ea
        exact ⟨a, ws, rfl, .inl q, post_alloc s hp ra⟩
    · cases d <;> exact (show False from h).elim
  | .tuple => by
    refine CallR.imp call_tuple_of ?_
    intro vs H Q h
    obtain ⟨Ex, m, S, ds, s, rs, h⟩ := h
    rcases ds with _ | ⟨d, _ | ⟨d2, ds⟩⟩
    · exact (show False from h).elim
    · obtain ⟨v, rfl, r⟩ := rs.one
      cases r <;> try exact (show False from h).elim
      · rename_i a xs vs ea ra
        exact ⟨a, vs, rfl, .inr ⟨SqT.of ea, post_val s h (.tup ea ra)⟩⟩
      · rename_i l a ea
        obtain ⟨o, e0, hp⟩ := getL_bind h
        obtain ⟨ws, q, ra⟩ := s.sq_at e0 ea
        exact ⟨a, ws, rfl, .inl ⟨q, post_tup s hp ra⟩⟩
    · cases d <;> exact (show False from h).elim
  | .sum => by
    refine CallR.imp (cr_sum hc) ?_
    intro vs H Q h
    obtain ⟨Ex, m, S, ds, s, rs, h⟩ := h
    rcases ds with _ | ⟨d, _ | ⟨d2, ds⟩⟩
    · exact (show False from h).elim
    · obtain ⟨v, rfl, r⟩ := rs.one
      cases r <;> try exact (show False from h).elim
      rename_i l a ea
      obtain ⟨o, e0, hp⟩ := getL_bind h
      obtain ⟨ws, q, ra⟩ := s.sq_at e0 ea
      cases e : intsD (items o) with
      | none => rw [e] at hp; exact hp.elim
      | some ns =>
        rw [e] at hp
        have e2 := intsD_some e ra
        subst e2
        exact ⟨a, ns, rfl, q, post_val s hp (.int _)⟩
    · cases d <;> exact (show False from h).elim
  | .sorted => call_sorted hu
/-! ### places in a list, distinct things -/
/-- l.index(k) -/
def ndxM (a k : D) : M D := match a with
  | .ref l => fun S => match sqO S l with
    | some o => (match pd S 12 k, mapO (pd S 12) (items o) with
      | some p, some qs => (match qs.findIdx? fun q => PyData.eqv q p with
        | some j => .ok (.int (j : Nat)) S
        | none => .stuck)
      | _, _ => .stuck)
    | none => .stuck
  | _ => die
/-- l.count(k) -/
def cntM (a k : D) : M D := match a with
  | .ref l => fun S => match sqO S l with
    | some o => (match pd S 12 k, mapO (pd S 12) (items o) with
      | some p, some qs => .ok (.int ((qs.countP fun q => PyData.eqv q p : Nat) : Int)) S
      | _, _ => .stuck)
    | none => .stuck
  | _ => die
def flatD : D → Option (List Int)
  | .tup xs => intsD xs
  | _ => none
/-- each once -/
def dd {α : Type} [DecidableEq α] : List α → List α
  | [] => []
  | x :: xs => if x ∈ xs then dd xs else x :: dd xs
theorem dd_mem {α : Type} [DecidableEq α] {x : α} : ∀ {xs : List α}, x ∈ dd xs ↔ x ∈ xs
  | [] => by simp [dd]
  | y :: xs => by
    unfold dd
    have ih := dd_mem (x := x) (xs := xs)
    split
    · rename_i h
      rw [ih, List.mem_cons]
      refine ⟨.inr, fun z => ?_⟩
      rcases z with rfl | z
      · exact h
      · exact z
    · rw [List.mem_cons, List.mem_cons, ih]
theorem dd_nodup {α : Type} [DecidableEq α] : ∀ (xs : List α), (dd xs).Nodup
  | [] => by simp [dd]
  | y :: xs => by
    unfold dd
    split
    · exact dd_nodup xs
    · rename_i h
      exact List.nodup_cons.mpr ⟨fun z => h (dd_mem.mp z), dd_nodup xs⟩
theorem sub_len {α : Type} [DecidableEq α] : ∀ {xs ys : List α}, xs.Nodup → (∀ x ∈ xs, x ∈ ys) → xs.length ≤ ys.length
  | [], _, _, _ => Nat.zero_le _
  | x :: xs, ys, h, k => by
    obtain ⟨h1, h2⟩ := List.nodup_cons.mp h
    have hx := k x List.mem_cons_self
    have ih := sub_len (ys := ys.erase x) h2 fun y hy => (List.mem_erase_of_ne (by rintro rfl; exact h1 hy)).mpr (k y (List.mem_cons_of_mem _ hy))
    rw [List.length_erase_of_mem hx] at ih
    have := List.length_pos_of_mem hx
    rw [List.length_cons]; omega
/-- len(set(l)), tuples of whole numbers, fewer than 64 -/
def dstM (a : D) : M D := match a with
  | .ref l => getL l >>= fun xs => match mapO flatD xs with
    | some ks => if ks.length < 64 then pure (.int ((dd ks).length : Nat)) else die
    | none => die
  | _ => die
/-- it is a list -/
def isLs : D → M Unit
  | .ref l => fun S => match sqO S l with
    | some _ => .ok () S
    | none => .stuck
  | _ => die
/-! ### isinstance -/
/-- the name of a value's type -/
def tyD (S : Store) : D → Option String
  | .non => some "NoneType" | .bl _ => some "bool" | .int _ => some "int" | .str _ => some "str" | .tup _ => some "tuple"
  | .ref l => match sqO S l with
    | some _ => some "list"
    | none => none
inductive Ty where | int | bool | tuple | list | str
  deriving DecidableEq
def Ty.nm : Ty → String
  | .int => "int" | .bool => "bool" | .tuple => "tuple" | .list => "list" | .str => "str"
def Ty.name : Ty → Str
  | .int => "int" | .bool => "bool" | .tuple => "tuple" | .list => "list" | .str => "str"
def isiD (T : Ty) (d : D) : M D := fun S => match tyD S d with
  | some a => .ok (.bl (a == T.nm || (a == "bool" && T.nm == "int"))) S
  | none => .stuck
theorem kit_all : ∀ (T : Ty), (kitB "NoneType" T.nm = some (("NoneType" : String) == T.nm || (("NoneType" : String) == "bool" && T.nm == "int"))) ∧ (kitB "bool" T.nm = some (("bool" : String) == T.nm || (("bool" : String) == "bool" && T.nm == "int"))) ∧
    (kitB "int" T.nm = some (("int" : String) == T.nm || (("int" : String) == "bool" && T.nm == "int"))) ∧ (kitB "str" T.nm = some (("str" : String) == T.nm || (("str" : String) == "bool" && T.nm == "int"))) ∧
    (kitB "tuple" T.nm = some (("tuple" : String) == T.nm || (("tuple" : String) == "bool" && T.nm == "int"))) ∧ (kitB "list" T.nm = some (("list" : String) == T.nm || (("list" : String) == "bool" && T.nm == "int")))
  | .int => by decide +kernel
  | .bool => by decide +kernel
  | .tuple => by decide +kernel
  | .list => by decide +kernel
  | .str => by decide +kernel
theorem SqF.ty {K : PySem.W.Frag} {H : Hp} {a : Addr} {vs : List V} (h : SqF K H a vs) : TyX K H (.ref a) (.type "list") := by
  rcases h with ⟨o, h⟩ | ⟨o, its, n, h, hc, _⟩
  · exact .base (.frz h)
  · exact .kList h hc
/-- isinstance(x, T): what the call asks -/
theorem isi_of {Ex : Str → Option Nat → List Addr → Store → Hp → Prop} {K : PySem.W.Frag} {m : List Addr} {S : Store} {H : Hp} {Q : VK} {T : Ty} {d : D} {v : V} (s : SR K m S H) (r : Rep m H d v) (h : post K Ex m H (isiD T d S) (fun d m' _ H' => ∀ w, Rep m' H' d w → Q w H')) : rIsi K [v, .ty T.nm] H Q := by
  have fin : ∀ {a : String} {b : Bool}, tyD S d = some a → TyX K H v (.type a) → kitB a T.nm = some (a == T.nm || (a == "bool" && T.nm == "int")) → rIsi K [v, .ty T.nm] H Q := fun {a b} e ty hk => by
    unfold isiD at h
    rw [e] at h
    exact ⟨v, .ty T.nm, .type a, .type T.nm, _, rfl, .ty _, ty, kit_ty hk, post_val s h (.bl _)⟩
  obtain ⟨k1, k2, k3, k4, k5, k6⟩ := kit_all T
  cases r with
  | non => exact fin (b := true) rfl (.base .non) k1
  | bl b => exact fin (b := true) rfl (.base (.bl b)) k2
  | int i => exact fin (b := true) rfl (.base (.int i)) k3
  | str x => exact fin (b := true) rfl (.base (.str x)) k4
  | tup e _ => exact fin (b := true) rfl (.base (.tup e)) k5
  | ref e =>
    rename_i l a
    cases e0 : sqO S l with
    | none => unfold isiD tyD at h; dsimp only at h; rw [e0] at h; exact h.elim
    | some o =>
      have ty : TyX K H (.ref a) (.type "list") := by
        have q := s.ob l o a (sqO_some e0).1 e
        have sq := (sqO_some e0).2
        cases o with
        | lst xs => obtain ⟨vs, q, _⟩ := q; exact .base (.lst q)
        | frz xs => obtain ⟨vs, q, _⟩ := q; exact q.ty
        | dct lk kvs => cases sq
      exact fin (b := true) (by unfold tyD; dsimp only; rw [e0]) ty k6
/-! ### slices -/
def cutD (xs : List D) (lo hi : Option Int) : List D := (xs.drop (HT.sIx xs.length 0 lo)).take (HT.sIx xs.length xs.length hi - HT.sIx xs.length 0 lo)
def bndM : Bool → D → M (Option Int)
  | false, _ => pure none
  | true, .int i => pure (some i)
  | _, _ => die
def slcD : D → Option Int → Option Int → M D
  | .ref l, lo, hi => getL l >>= fun xs => alloc (.lst (cutD xs lo hi))
  | _, _, _ => die
theorem Reps.cut {m : List Addr} {H : Hp} {xs : List D} {vs : List V} (r : Reps m H xs vs) (lo hi : Option Int) : Reps m H (cutD xs lo hi) (cutV vs lo hi) := by
  unfold cutD cutV
  rw [r.length]
  exact (r.drop _).take _
end
end NL

/-! The small language: expressions, statements, what they answer; how the machine's text is read as them. -/
namespace NL
open PySem PySem.Spec PyProof.Rows L2
/-- a target: a name, or names that a tuple is parted to -/
inductive Tg where
  | nm (i : Nat) | tp (is : List Nat)
mutual
inductive E where
  | var (i : Nat) | con (d : D)
  | bin (o : Bop) (a b : E) | neg (a : E) | not (a : E)
  | cmp (o : Cop) (a b : E) | chn (o o' : Cop) (a b c : E)
  | and (a b : E) | or (a b : E) | ite (c a b : E)
  | tup (es : Es) | lst (es : Es)
  | idx (a i : E) | slc (p q : Bool) (a lo hi : E)
  | call (f : Nat) (es : Es) | blt (b : Blt) (es : Es) | isi (a : E) (T : Ty)
  | comp (own : List Nat) (tg : Tg) (it : It) (c e : E)
  | rev (e : E)
  | dnew | dgt (a k x : E) | ndx (a k : E) | dst (a : E) | srk (a : E) | cnt (a k : E) | done (i j : Nat)
inductive Es where
  | nil | cons (e : E) (es : Es)
inductive It where
  | val (e : E) | rng1 (b : E) | rng2 (a b : E) | enm (e : E) | zip (a b : E) | nam (i : Nat) | itm (i : Nat)
end
mutual
inductive St where
  | set (i : Nat) (e : E) | unp (is : List Nat) (e : E) | setIx (o i e : E) | aug (i : Nat) (e : E)
  | expr (e : E) | app (i : Nat) (e : E) | ret (e : E) | ret0 | ifs (c : E) (a b : Sts) | for_ (tg : Tg) (it : It) (b : Sts) | whl (c : E) (b : Sts)
  | brk | cnt | pass | dead
  | rse (c : Str) | try_ (b : Sts) (c : Str) (i : Nat) (h : Sts)
  | popx (t : Option Tg) (i : Nat) | dpop (t : Option Tg) (i : Nat) (k : E) | ext (i : Nat) (e : E) | clr (i : Nat)
inductive Sts where
  | nil | cons (s : St) (r : Sts)
end
abbrev Env := List (Option D)
inductive Flow where
  | nx (en : Env) | brk (en : Env) | cnt (en : Env) | ret (d : D) | exc (c : Str) (d : Option Nat) (en : Env)

/-! ### what they answer -/
/-- the lists are still the same -/
noncomputable def ckD (ps : List (Nat × Ob)) : M Unit := fun S => open Classical in if ∀ p ∈ ps, S[p.1]? = some p.2 then .ok () S else .stuck
def wipeD (en : Env) : List Nat → Env
  | [] => en
  | v :: vs => (wipeD en vs).set v none
def setAll (en : Env) : List Nat → List D → Env
  | i :: is, d :: ds => setAll (en.set i (some d)) is ds
  | _, _ => en
/-- the items of a thing that is parted into n -/
def unpD (n : Nat) : D → M (List D)
  | .tup xs => if xs.length = n then pure xs else die
  | .ref l => getL l >>= fun xs => if xs.length = n then pure xs else die
  | _ => die
def bindT : Tg → D → Env → M Env
  | .nm i, d, en => pure (en.set i (some d))
  | .tp is, d, en => unpD is.length d >>= fun ds => pure (setAll en is ds)
/-- l.append(d) -/
def pushD (l : Nat) (d : D) : M Unit := fun S => match S[l]? with
  | some (.lst xs) => if xs.length < sizeLine then .ok () (S.set l (.lst (xs ++ [d]))) else .stuck
  | _ => .stuck
noncomputable def cmpL (ck : M Unit) (bnd : D → M Env) (c : Env → M Bool) (e : Env → M D) (l : Nat) : List D → M Unit
  | [] => ck
  | x :: xs => ck >>= fun _ => bnd x >>= fun en => c en >>= fun t => if t = true then e en >>= fun d => pushD l d >>= fun _ => cmpL ck bnd c e l xs else cmpL ck bnd c e l xs
def noX {α : Type} (m : M α) : M α := fun S => match m S with
  | .ok a S => .ok a S
  | _ => .stuck
def rngD : D → D → M (List D)
  | .int a, .int b => if -(2 ^ 62) ≤ a ∧ a < 2 ^ 62 ∧ -(2 ^ 62) ≤ b ∧ b < 2 ^ 62 then pure ((List.range (b - a).toNat).map fun k => .int (a + (k : Nat))) else die
  | _, _ => die
def iterD : D → M (List D × List (Nat × Ob))
  | .tup xs => pure (xs, [])
  | .ref l => fun S => match sqO S l with
    | some o => .ok (items o, [(l, o)]) S
    | none => .stuck
  | _ => die
/-- .. of a name: a locked dict gives its keys -/
def iterN : D → M (List D × List (Nat × Ob))
  | .ref l => fun S => match S[l]? with
    | some (.dct true kvs) => .ok (kvs.map Prod.fst, [(l, .dct true kvs)]) S
    | _ => iterD (.ref l) S
  | d => iterD d
/-- d.items() -/
def itmM : D → M (List D × List (Nat × Ob))
  | .ref l => fun S => match S[l]? with
    | some (.dct true kvs) => .ok (kvs.map fun p => .tup [p.1, p.2], [(l, .dct true kvs)]) S
    | _ => .stuck
  | _ => die
def varM (en : Env) (i : Nat) : M D := match en[i]? with
  | some (some d) => pure d
  | _ => die
/-- the dict that a walk locks -/
def lkOf (it : Option Nat) (en : Env) (S : Store) : Option (Nat × List (D × D)) := match it with
  | some i => (match en[i]? with
    | some (some (.ref l)) => (match S[l]? with
      | some (.dct false kvs) => some (l, kvs)
      | _ => none)
    | _ => none)
  | none => none
/-- .. while it goes on -/
def lockM {α : Type} (ok : α → Bool) (it : Option Nat) (en : Env) (m : M α) : M α := fun S => match lkOf it en S with
  | some (l, kvs) => (match m (S.set l (.dct true kvs)) with
    | .ok a S' => (match S'[l]? with
      | some (.dct true _) => if ok a = true then .ok a (S'.set l (.dct false kvs)) else .stuck
      | _ => .stuck)
    | _ => .stuck)
  | none => m S
/-- numbered from i on -/
def numD : Nat → List D → List D
  | _, [] => []
  | i, x :: xs => .tup [.int (i : Nat), x] :: numD (i + 1) xs
def zipD : List D → List D → List D
  | x :: xs, y :: ys => .tup [x, y] :: zipD xs ys
  | _, _ => []
def enmM : D → M (List D × List (Nat × Ob))
  | .ref l => fun S => match sqO S l with
    | some o => .ok (numD 0 (items o), [(l, o)]) S
    | none => .stuck
  | _ => die
def zipM : D → D → M (List D × List (Nat × Ob))
  | .tup xs, .tup ys => pure (zipD xs ys, [])
  | .ref l, .ref k => fun S => match sqO S l, sqO S k with
    | some o, some p => .ok (zipD (items o) (items p), [(l, o), (k, p)]) S
    | _, _ => .stuck
  | _, _ => die
def revM : D → M D
  | .ref l => getL l >>= fun xs => alloc (.lst xs.reverse)
  | _ => die
def It.lk : It → Option Nat
  | .nam i => some i
  | .itm i => some i
  | _ => none
def isN : D → M Unit
  | .ref l => getN l >>= fun _ => pure ()
  | _ => die
/-- d.get(k, x) -/
def dgtM (a k x : D) : M D := match a with
  | .ref l => getN l >>= fun p => keyM k >>= fun q => pure ((findK p.2 q).getD x)
  | _ => die
/-- sorted(d.keys()) -/
noncomputable def srkM : D → M D
  | .ref l => getN l >>= fun p => match sortD (p.2.map Prod.fst) with | some ys => alloc (.lst ys) | none => die
  | _ => die
mutual
noncomputable def evE (C : Nat → List D → M D) : E → Env → M D
  | .var i, en => match en[i]? with
    | some (some d) => pure d
    | _ => die
  | .con d, _ => pure d
  | .bin o a b, en => evE C a en >>= fun x => evE C b en >>= fun y => binD o x y
  | .neg a, en => evE C a en >>= negD
  | .not a, en => evE C a en >>= truD >>= fun t => pure (.bl (!t))
  | .cmp o a b, en => evE C a en >>= fun x => evE C b en >>= fun y => cmpD o x y
  | .chn o o' a b c, en => evE C a en >>= fun x => evE C b en >>= fun y => cmpD o x y >>= truD >>= fun t => if t = true then evE C c en >>= fun z => cmpD o' y z else pure (.bl false)
  | .and a b, en => evE C a en >>= truD >>= fun t => if t = true then evE C b en else pure (.bl false)
  | .or a b, en => evE C a en >>= truD >>= fun t => if t = true then pure (.bl true) else evE C b en
  | .ite c a b, en => evE C c en >>= truD >>= fun t => if t = true then evE C a en else evE C b en
  | .tup es, en => evEs C es en >>= fun xs => if xs.length ≤ sizeLine then pure (.tup xs) else die
  | .lst es, en => evEs C es en >>= fun xs => if xs.length ≤ sizeLine then alloc (.lst xs) else die
  | .idx a i, en => evE C a en >>= fun x => evE C i en >>= fun y => ixD x y
  | .slc p q a lo hi, en => evE C a en >>= fun x => evE C lo en >>= bndM p >>= fun y => evE C hi en >>= bndM q >>= fun z => slcD x y z
  | .call f es, en => evEs C es en >>= fun xs => C f xs
  | .blt b es, en => evEs C es en >>= fun xs => bltD b xs
  | .isi a T, en => evE C a en >>= fun x => isiD T x
  | .comp own tg it c e, en => lockM (fun _ => true) it.lk en (evIt C it en >>= fun p => fun S =>
    noX (cmpL (ckD p.2) (fun d => bindT tg d (wipeD en own)) (fun en' => evE C c en' >>= truD) (fun en' => evE C e en') S.length p.1 >>= fun _ => pure (.ref S.length)) (S ++ [.lst []]))
  | .rev e, en => evE C e en >>= revM
  | .dnew, _ => alloc (.dct false [])
  | .dgt a k x, en => evE C a en >>= fun y => isN y >>= fun _ => evE C k en >>= fun q => evE C x en >>= fun z => dgtM y q z
  | .ndx a k, en => evE C a en >>= fun y => isLs y >>= fun _ => evE C k en >>= fun q => ndxM y q
  | .dst a, en => evE C a en >>= dstM
  | .srk a, en => evE C a en >>= srkM
  | .cnt a k, en => evE C a en >>= fun y => isLs y >>= fun _ => evE C k en >>= fun q => cntM y q
  | .done i j, en => varM en i >>= fun x => varM en j >>= fun y => keyM x >>= fun _ => alloc (.dct false [(x, y)])
noncomputable def evEs (C : Nat → List D → M D) : Es → Env → M (List D)
  | .nil, _ => pure []
  | .cons e es, en => evE C e en >>= fun x => evEs C es en >>= fun xs => pure (x :: xs)
noncomputable def evIt (C : Nat → List D → M D) : It → Env → M (List D × List (Nat × Ob))
  | .val e, en => evE C e en >>= iterD
  | .rng1 b, en => evE C b en >>= fun y => rngD (.int 0) y >>= fun xs => pure (xs, [])
  | .rng2 a b, en => evE C a en >>= fun x => evE C b en >>= fun y => rngD x y >>= fun xs => pure (xs, [])
  | .enm e, en => evE C e en >>= enmM
  | .zip a b, en => evE C a en >>= fun x => evE C b en >>= fun y => zipM x y
  | .nam i, en => varM en i >>= iterN
  | .itm i, en => varM en i >>= itmM
end
/-- what a statement asks of an expression: an exception ends the statement -/
def lift {α : Type} (en : Env) (m : M α) (k : α → M Flow) : M Flow := fun S => match m S with
  | .ok a S => k a S
  | .exc c d S => .ok (.exc c d en) S
  | .stuck => .stuck
/-- how often a while may turn -/
@[irreducible] def fuel : Nat := 2 ^ 100000
noncomputable def whlL (c : Env → M Bool) (b : Env → M Flow) : Nat → Env → M Flow
  | 0, _ => die
  | n + 1, en => lift en (c en) fun t => if t = true then b en >>= fun f => match f with
    | .nx en' => whlL c b n en'
    | .cnt en' => whlL c b n en'
    | .brk en' => pure (.nx en')
    | f => pure f else pure (.nx en)
noncomputable def forL (ck : M Unit) (bnd : D → Env → M Env) (b : Env → M Flow) : List D → Env → M Flow
  | [], en => lift en ck fun _ => pure (.nx en)
  | x :: xs, en => lift en (ck >>= fun _ => bnd x en) fun en1 => b en1 >>= fun f => match f with
    | .nx en' => forL ck bnd b xs en'
    | .cnt en' => forL ck bnd b xs en'
    | .brk en' => pure (.nx en')
    | f => pure f
/-- l.pop() -/
def popM (l : Nat) : M D := getM l >>= fun xs => match xs[xs.length - 1]? with
  | some d => fun S => .ok d (S.set l (.lst xs.dropLast))
  | none => die
def setM (l : Nat) (xs : List D) : M Unit := fun S => .ok () (S.set l (.lst xs))
/-- l.extend(k) -/
def extM (l : Nat) : D → M Unit
  | .ref k => getM l >>= fun xs => getM k >>= fun ys => if xs.length + ys.length ≤ sizeLine then setM l (xs ++ ys) else die
  | _ => die
def setN (l : Nat) (kvs : List (D × D)) : M Unit := fun S => .ok () (S.set l (.dct false kvs))
/-- d[k] = v -/
def dsetM (l : Nat) (x v : D) : M Unit := getN l >>= fun p => if p.1 = false ∧ p.2.length < sizeLine then keyM x >>= fun k => setN l (putD p.2 k x v) else die
/-- d.pop(k) -/
def dpopM (l : Nat) (x : D) : M D := getN l >>= fun p => if p.1 = false then keyM x >>= fun k => optM (findK p.2 k) >>= fun v => setN l (dropD p.2 k) >>= fun _ => pure v else die
/-- a walk that is ended well, whether it tells or not -/
def Flow.fine : Flow → Bool
  | .exc _ _ _ => false
  | _ => true
/-- l[i] = d -/
def setIxD : D → D → D → M Unit
  | .ref l, .tup ys, d => dsetM l (.tup ys) d
  | .ref l, .int i, d => getM l >>= fun xs => match ixN xs.length i with
    | some j => fun S => .ok () (S.set l (.lst (xs.set j d)))
    | none => die
  | _, _, _ => die
mutual
noncomputable def exS (C : Nat → List D → M D) : St → Env → M Flow
  | .set i e, en => lift en (evE C e en) fun d => pure (.nx (en.set i (some d)))
  | .unp is e, en => lift en (evE C e en >>= unpD is.length) fun ds => pure (.nx (setAll en is ds))
  | .setIx o i e, en => lift en (evE C e en >>= fun v => evE C o en >>= fun x => evE C i en >>= fun y => setIxD x y v) fun _ => pure (.nx en)
  | .aug i e, en => match en[i]? with
    | some (some (.int x)) => lift en (evE C e en) fun y => match y with
      | .int y => pure (.nx (en.set i (some (.int (x + y)))))
      | _ => die
    | _ => die
  | .expr e, en => lift en (evE C e en) fun _ => pure (.nx en)
  | .app i e, en => match en[i]? with
    | some (some (.ref l)) => lift en (getM l >>= fun _ => evE C e en) fun d => lift en (pushD l d) fun _ => pure (.nx en)
    | _ => die
  | .ret e, en => lift en (evE C e en) fun d => pure (.ret d)
  | .ret0, _ => pure (.ret .non)
  | .ifs c a b, en => lift en (evE C c en >>= truD) fun t => if t = true then exB C a en else exB C b en
  | .for_ tg it b, en => lockM Flow.fine it.lk en (lift en (evIt C it en) fun p => forL (ckD p.2) (fun d en' => bindT tg d en') (fun en' => exB C b en') p.1 en)
  | .whl c b, en => whlL (fun en' => evE C c en' >>= truD) (fun en' => exB C b en') fuel en
  | .brk, en => pure (.brk en)
  | .cnt, en => pure (.cnt en)
  | .pass, en => pure (.nx en)
  | .dead, _ => die
  | .rse c, en => pure (.exc c none en)
  | .try_ b c i h, en => exB C b en >>= fun f => match f with
    | .nx en' => pure (.nx en')
    | .exc c' d en' => if c' = c ∧ d = none ∧ i < en'.length then exB C h (en'.set i none) >>= fun f' => (match f' with
      | .nx en2 => pure (.nx (en2.set i none))
      | _ => die) else die
    | _ => die
  | .popx t i, en => match en[i]? with
    | some (some (.ref l)) => lift en (popM l) fun d => match t with
      | none => pure (.nx en)
      | some t => lift en (bindT t d en) fun en' => pure (.nx en')
    | _ => die
  | .dpop t i k, en => match en[i]? with
    | some (some (.ref l)) => lift en (getN l >>= fun _ => evE C k en >>= fun x => dpopM l x) fun d => match t with
      | none => pure (.nx en)
      | some t => lift en (bindT t d en) fun en' => pure (.nx en')
    | _ => die
  | .ext i e, en => match en[i]? with
    | some (some (.ref l)) => lift en (getM l >>= fun _ => evE C e en) fun d => lift en (extM l d) fun _ => pure (.nx en)
    | _ => die
  | .clr i, en => match en[i]? with
    | some (some (.ref l)) => lift en (getM l) fun _ => lift en (setM l []) fun _ => pure (.nx en)
    | _ => die
noncomputable def exB (C : Nat → List D → M D) : Sts → Env → M Flow
  | .nil, en => pure (.nx en)
  | .cons s r, en => exS C s en >>= fun f => match f with
    | .nx en' => exB C r en'
    | f => pure f
end
/-- a def: how many parameters, how many names, its body -/
structure Fn where
  np : Nat
  nv : Nat
  body : Sts
noncomputable def runF (C : Nat → List D → M D) (f : Fn) (ds : List D) : M D := fun S =>
  if ds.length = f.np then match exB C f.body (ds.map some ++ List.replicate (f.nv - f.np) none) S with
    | .ok (.nx _) S => .ok .non S
    | .ok (.ret d) S => .ok d S
    | .ok (.exc c d _) S => .exc c d S
    | _ => .stuck
  else .stuck
/-- a call, at most n deep -/
noncomputable def callT (T : Nat → Option Fn) : Nat → Nat → List D → M D
  | 0, _, _ => die
  | n + 1, f, ds => match T f with
    | some fn => runF (callT T n) fn ds
    | none => die
end NL

/-! How the machine's text is read in the small language. -/
namespace NL
open PySem PySem.Spec PyProof.Rows L2
def posOf (x : Str) : List Str → Option Nat
  | [] => none
  | y :: r => if y = x then some 0 else (posOf x r).map (· + 1)
def oddName (x : Str) : Bool := x == ("__debug__" : Str) || x == ("__classdict__" : Str)
/-- the place of a name that may be read, that may be stored -/
def visOf (sc : Scope) (N : List Str) (x : Str) : Option Nat := if oddName x = true then none else match sc.names.lookup x with
  | some .local => posOf x N
  | some .cell => posOf x N
  | some .free => posOf x N
  | _ => none
def locOf (sc : Scope) (N : List Str) (x : Str) : Option Nat := if oddName x = true then none else match sc.names.lookup x with
  | some .local => posOf x N
  | some .cell => posOf x N
  | _ => none
def isGl (sc : Scope) (x : Str) : Bool := !oddName x && decide (sc.names.lookup x = some .globalImplicit)
def conOf : Const → Option D
  | .none => some .non
  | .bool b => some (.bl b)
  | .int i => some (.int i)
  | .str x => some (.str x)
  | _ => none
def bopOf : Operator → Option Bop
  | .Add => some .add | .Sub => some .sub | .Mult => some .mul | .FloorDiv => some .fdiv | .Mod => some .mod | .Pow => some .pow
  | _ => none
def copOf : CmpOp → Cop
  | .Lt => .lt | .LtE => .le | .Gt => .gt | .GtE => .ge | .Eq => .eq | .NotEq => .ne | .In => .isIn | .NotIn => .notIn | .Is => .is_ | .IsNot => .isNot
def bltOf (x : Str) : Option Blt :=
  if x = Blt.abs.name then some .abs else if x = Blt.int.name then some .int else if x = Blt.len.name then some .len else if x = Blt.min.name then some .min else if x = Blt.max.name then some .max else
  if x = Blt.list.name then some .list else if x = Blt.tuple.name then some .tuple else if x = Blt.sum.name then some .sum else if x = Blt.sorted.name then some .sorted else none
def tyOf (x : Str) : Option Ty :=
  if x = Ty.int.name then some .int else if x = Ty.bool.name then some .bool else if x = Ty.tuple.name then some .tuple else if x = Ty.list.name then some .list else if x = Ty.str.name then some .str else none
def comL (f : Expr → Option E) : List Expr → Option Es
  | [] => some .nil
  | e :: r => match f e, comL f r with
    | some a, some b => some (.cons a b)
    | _, _ => none
def comBool (f : Expr → Option E) (op : BoolOp) : List Expr → Option E
  | [] => none
  | [e] => f e
  | e :: r => match f e, comBool f op r with
    | some a, some b => some (match op with | .And => .and a b | .Or => .or a b)
    | _, _ => none
def comO (f : Expr → Option E) : Option Expr → Option E
  | none => some (.con .non)
  | some e => f e
def namesOf (f : Str → Option Nat) : List Expr → Option (List Nat)
  | [] => some []
  | .Name x _ :: r => match f x, namesOf f r with
    | some i, some is => some (i :: is)
    | _, _ => none
  | _ => none
def comTg (f : Str → Option Nat) : Expr → Option Tg
  | .Name x _ => (f x).map .nm
  | .Tuple es _ _ => (namesOf f es).map .tp
  | _ => none
def isTupE : Expr → Bool
  | .Tuple .. => true
  | _ => false
def isSlice : Expr → Bool
  | .Slice .. => true
  | _ => false
def ownOf (N : List Str) (scope : Scope) : List (Str × Nat) := scope.names.filterMap fun y => match y.2 with
  | .local => (posOf y.1 N).map fun i => (y.1, i)
  | .cell => (posOf y.1 N).map fun i => (y.1, i)
  | _ => none
def Tg.ixs : Tg → List Nat
  | .nm i => [i]
  | .tp is => is
/-- the one exception that may be raised: its class, the names of classes that it is of, that it is not of -/
structure XI where
  cls : Str
  anc : List Str
  nin : List Str
/-- what is called: its number, how many parameters; what may be raised -/
structure FTab where
  fn : Str → Option (Nat × Nat)
  ex : Option XI
instance : CoeFun FTab fun _ => Str → Option (Nat × Nat) := ⟨FTab.fn⟩
def Es.len : Es → Nat
  | .nil => 0
  | .cons _ r => r.len + 1
/-- [reversed(..)] -/
def isSetC : List Expr → Bool
  | [.Call (.Name g _) [_] [] _] => decide (g = ("set" : Str))
  | _ => false
def isKeys : List Expr → Bool
  | [.Call (.Attribute (.Name _ _) g apos) [] [] cpos] => decide (g = ("keys" : Str) ∧ (apos.endLine == cpos.line) = true)
  | _ => false
def isRev : List Expr → Bool
  | [.Call (.Name g _) [_] [] _] => decide (g = ("reversed" : Str))
  | _ => false
def comE (ft : FTab) (N : List Str) : Nat → Scope → Expr → Option E
  | 0, _, _ => none
  | n + 1, sc, e => match e with
    | .Constant c _ _ => (conOf c).map .con
    | .Name x _ => (visOf sc N x).map .var
    | .BinOp a o b _ => match bopOf o, comE ft N n sc a, comE ft N n sc b with
      | some o, some a, some b => some (.bin o a b)
      | _, _, _ => none
    | .UnaryOp .USub a _ => (comE ft N n sc a).map .neg
    | .UnaryOp .Not a _ => (comE ft N n sc a).map .not
    | .Compare a [o] [b] _ => match comE ft N n sc a, comE ft N n sc b with
      | some a, some b => some (.cmp (copOf o) a b)
      | _, _ => none
    | .Compare a [o, o'] [b, c] _ => match comE ft N n sc a, comE ft N n sc b, comE ft N n sc c with
      | some a, some b, some c => some (.chn (copOf o) (copOf o') a b c)
      | _, _, _ => none
    | .BoolOp o es _ => comBool (comE ft N n sc) o es
    | .IfExp c a b _ => match comE ft N n sc c, comE ft N n sc a, comE ft N n sc b with
      | some c, some a, some b => some (.ite c a b)
      | _, _, _ => none
    | .Tuple es _ _ => (comL (comE ft N n sc) es).map .tup
    | .List es _ => (comL (comE ft N n sc) es).map .lst
    | .Subscript a (.Slice lo hi none _) _ => match comE ft N n sc a, comO (comE ft N n sc) lo, comO (comE ft N n sc) hi with
      | some a, some lo', some hi' => some (.slc lo.isSome hi.isSome a lo' hi')
      | _, _, _ => none
    | .Subscript a i _ => if isSlice i = true then none else match comE ft N n sc a, comE ft N n sc i with
      | some a, some i => some (.idx a i)
      | _, _ => none
    | .Call (.Name f _) es [] _ => if isGl sc f = true then
        (if f = ("isinstance" : Str) then match es with
          | [a, .Name t _] => if isGl sc t = true then (match comE ft N n sc a, tyOf t with
            | some a, some t => some (.isi a t)
            | _, _ => none) else none
          | _ => none
        else if f = ("list" : Str) ∧ isRev es = true then match es with
          | [.Call (.Name g _) [a] [] _] => if isGl sc g = true ∧ g = ("reversed" : Str) then (comE ft N n sc a).map .rev else none
          | _ => none
        else if f = ("len" : Str) ∧ isSetC es = true then match es with
          | [.Call (.Name g _) [a] [] _] => if isGl sc g = true ∧ g = ("set" : Str) then (comE ft N n sc a).map .dst else none
          | _ => none
        else if f = ("sorted" : Str) ∧ isKeys es = true then match es with
          | [.Call (.Attribute (.Name x p) g apos) [] [] cpos] => if g = ("keys" : Str) ∧ (apos.endLine == cpos.line) = true then (comE ft N n sc (.Name x p)).map .srk else none
          | _ => none
        else match bltOf f, comL (comE ft N n sc) es with
          | some b, some (.cons x xs) => some (.blt b (.cons x xs))
          | some _, _ => none
          | none, some (.cons x xs) => (match ft f with
            | some (id, ar) => if ar = xs.len + 1 then some (.call id (.cons x xs)) else none
            | none => none)
          | none, _ => none) else none
    | .Dict [] [] _ => some .dnew
    | .Dict [some (.Name x _)] [.Name y _] _ => (match visOf sc N x, visOf sc N y with
      | some i, some j => some (.done i j)
      | _, _ => none)
    | .Call (.Attribute (.Name x p) g apos) [k] [] cpos => if g = ("index" : Str) ∧ (apos.endLine == cpos.line) = true then (match comE ft N n sc (.Name x p), comE ft N n sc k with
      | some a, some k => some (.ndx a k)
      | _, _ => none) else if g = ("count" : Str) ∧ (apos.endLine == cpos.line) = true then (match comE ft N n sc (.Name x p), comE ft N n sc k with
      | some a, some k => some (.cnt a k)
      | _, _ => none) else none
    | .Call (.Attribute (.Name x p) g apos) [k, d] [] cpos => if g = ("get" : Str) ∧ (apos.endLine == cpos.line) = true then (match comE ft N n sc (.Name x p), comE ft N n sc k, comE ft N n sc d with
      | some a, some k, some d => some (.dgt a k d)
      | _, _, _ => none) else none
    | .ListComp elt [⟨tg, it, ifs, as⟩] scope _ => if as ≠ 0 then none else if blkC N sc scope (ownOf N scope) = true then
        (match (comTg (locOf scope N) tg).filter (fun t => t.ixs.all fun i => decide (i ∈ (ownOf N scope).map (·.2))), comIt tg (comE ft N n) sc it, (match ifs with | [] => some (E.con (.bl true)) | [c] => comE ft N n (relS scope sc) c | _ => none), comE ft N n (relS scope sc) elt with
          | some t, some it, some c, some e => some (.comp ((ownOf N scope).map (·.2)) t it c e)
          | _, _, _, _ => none) else none
    | _ => none
where
  comIt (tg : Expr) (f : Scope → Expr → Option E) (sc : Scope) (e : Expr) : Option It := match e with
    | .Call (.Name g _) [b] [] _ => if g = ("range" : Str) then (if isGl sc g = true then (f sc b).map .rng1 else none) else
        if g = ("enumerate" : Str) then (if isGl sc g = true ∧ isTupE tg = true then (f sc b).map .enm else none) else (f sc e).map .val
    | .Call (.Name g _) [a, b] [] _ => if g = ("range" : Str) then (if isGl sc g = true then match f sc a, f sc b with
        | some a, some b => some (.rng2 a b)
        | _, _ => none else none) else
        if g = ("zip" : Str) then (if isGl sc g = true ∧ isTupE tg = true then match f sc a, f sc b with
        | some a, some b => some (.zip a b)
        | _, _ => none else none) else (f sc e).map .val
    | .Name x p => (match f sc (.Name x p) with
      | some (.var i) => some (.nam i)
      | _ => none)
    | .Call (.Attribute (.Name x p) g apos) [] [] cpos => if g = ("items" : Str) ∧ (apos.endLine == cpos.line) = true ∧ isTupE tg = true then (match f sc (.Name x p) with
      | some (.var i) => some (.itm i)
      | _ => none) else (f sc e).map .val
    | e => (f sc e).map .val
def isStar : Expr → Bool
  | .Starred .. => true
  | _ => false
/-- a plain local on that line -/
def nmOf (sc : Scope) (line : Nat) : Expr → Option Str
  | .Name id pos => if (sc.names.lookup id == some .local && pos.line == line) = true then some id else none
  | _ => none
def lineOf (ts : List Expr) : Nat := (ts.head?.map (·.pos.line)).getD 0
/-- what the stores of «names = values» do: some none, one by one; some (some names), from the right -/
def swP (sc : Scope) (ts vs : List Expr) : Option (Option (List Str)) :=
  if (!(ts.length == 2 || ts.length == 3) || vs.length != ts.length) = true then some none else
  if vs.any isStar = true then some none else
  if ((ts.filterMap (nmOf sc (lineOf ts))).length != ts.length || (ts.filterMap (nmOf sc (lineOf ts))).eraseDups.length != (ts.filterMap (nmOf sc (lineOf ts))).length) = true then some none else
  if vs.all (foldedForSure 8) = true then some none else
  if vs.all (constantsAlone 8) = true then none else some (some (ts.filterMap (nmOf sc (lineOf ts))))
/-- whether the exception is of a class, as it is asked -/
def boolH (xi : XI) (sc : Scope) (nm : Str) : Expr → Option Bool
  | .Call (.Name f _) [.Name x _, .Name t _] [] _ => if f = ("isinstance" : Str) ∧ isGl sc f = true ∧ x = nm ∧ isGl sc t = true then (if t ∈ xi.anc then some true else if t ∈ xi.nin then some false else none) else none
  | .UnaryOp .Not (.Call (.Name f _) [.Name x _, .Name t _] [] _) _ => if f = ("isinstance" : Str) ∧ isGl sc f = true ∧ x = nm ∧ isGl sc t = true then (if t ∈ xi.anc then some false else if t ∈ xi.nin then some true else none) else none
  | _ => none
def boolsH (xi : XI) (sc : Scope) (nm : Str) : List Expr → Option (List Bool)
  | [] => some []
  | e :: r => match boolH xi sc nm e, boolsH xi sc nm r with
    | some b, some bs => some (b :: bs)
    | _, _ => none
def bolsE : List Bool → Es
  | [] => .nil
  | b :: bs => .cons (.con (.bl b)) (bolsE bs)
/-- a suite's statement: told = [..], told = others + [..] -/
def comH1 (xi : XI) (N : List Str) (sc : Scope) (nm : Str) : Stmt → Option St
  | .Assign [.Name o _] (.List es _) _ => (match locOf sc N o, boolsH xi sc nm es with
    | some j, some bs => if o = nm then none else some (.set j (.lst (bolsE bs)))
    | _, _ => none)
  | .Assign [.Name o _] (.BinOp (.Name y _) .Add (.List es _) _) _ => (match locOf sc N o, visOf sc N y, boolsH xi sc nm es with
    | some j, some k, some bs => if o = nm ∨ y = nm then none else some (.set j (.bin .add (.var k) (.lst (bolsE bs))))
    | _, _, _ => none)
  | _ => none
def comH (xi : XI) (N : List Str) (sc : Scope) (nm : Str) : List Stmt → Option Sts
  | [] => some .nil
  | s :: r => match comH1 xi N sc nm s, comH xi N sc nm r with
    | some a, some b => some (.cons a b)
    | _, _ => none
/-- raise C(text) -/
def comR (ft : FTab) (sc : Scope) : Stmt → St
  | .Raise (some (.Call (.Name x _) [.Constant (.str _) _ _] [] _)) none _ => (match ft.ex with
    | some xi => if x = xi.cls ∧ isGl sc x = true then .rse x else .dead
    | none => .dead)
  | _ => .dead
def isComp : Expr → Bool
  | .ListComp .. => true
  | _ => false
section
variable (ft : FTab) (N : List Str) (sc : Scope)
def comS : Nat → Stmt → Option St
  | 0, _ => none
  | n + 1, s => match s with
    | .Assign [.Name y _] (.Call (.Attribute (.Name x _) m apos) [] [] cpos) _ => (match locOf sc N y, visOf sc N x with
      | some j, some i => if m = ("pop" : Str) ∧ (apos.endLine == cpos.line) = true then some (.popx (some (.nm j)) i) else none
      | _, _ => none)
    | .Assign [.Name y _] (.Call (.Attribute (.Name x p) m apos) [k] [] cpos) _ => (match locOf sc N y, visOf sc N x, comE ft N n sc k with
      | some j, some i, some k => if m = ("pop" : Str) ∧ (apos.endLine == cpos.line) = true then some (.dpop (some (.nm j)) i k) else none
      | _, _, _ => none)
    | .Assign [.Name x _] e _ => match locOf sc N x, comE ft N n sc e with
      | some i, some e => some (.set i e)
      | _, _ => none
    | .Assign [.Tuple ts _ _] (.Tuple vs _ _) _ => (match swP sc ts vs, namesOf (locOf sc N) ts, comL (comE ft N n sc) vs with
      | some none, some is, some es => some (.unp is (.tup es))
      | some (some nm), some is, some es => if is.Nodup ∧ nm.length = is.length ∧ es.len = is.length then some (.unp is (.tup es)) else none
      | _, _, _ => none)
    | .Assign [.Tuple ts _ _] e _ => match namesOf (locOf sc N) ts, comE ft N n sc e with
      | some is, some e => some (.unp is e)
      | _, _ => none
    | .Assign [.Subscript o i _] e _ => if isSlice i = true then none else match comE ft N n sc o, comE ft N n sc i, comE ft N n sc e with
      | some o, some i, some e => some (.setIx o i e)
      | _, _, _ => none
    | .AugAssign (.Name x _) .Add e _ => match locOf sc N x, comE ft N n sc e with
      | some i, some e => some (.aug i e)
      | _, _ => none
    | .Expr (.Call (.Attribute (.Name x _) m apos) [e] [] cpos) _ => if (apos.endLine == cpos.line) = true then (match visOf sc N x, comE ft N n sc e with
      | some i, some e => if m = ("append" : Str) then some (.app i e) else if m = ("extend" : Str) then some (.ext i e) else none
      | _, _ => none) else none
    | .Expr (.Call (.Attribute (.Name x _) m apos) [] [] cpos) _ => (match visOf sc N x with
      | some i => if m = ("pop" : Str) ∧ (apos.endLine == cpos.line) = true then some (.popx none i) else if m = ("clear" : Str) ∧ (apos.endLine == cpos.line) = true then some (.clr i) else none
      | none => none)
    | .Expr (.Constant (.str _) _ _) _ => some .pass
    | .Expr e _ => if isComp e = true then none else (comE ft N n sc e).map .expr
    | .Return (some e) _ => (comE ft N n sc e).map .ret
    | .Return none _ => some .ret0
    | .If c a b _ => match comE ft N n sc c, comSs (comS n) a, comSs (comS n) b with
      | some c, some a, some b => some (.ifs c a b)
      | _, _, _ => none
    | .For tg it b [] _ => match comTg (locOf sc N) tg, comE.comIt tg (comE ft N n) sc it, comSs (comS n) b with
      | some t, some i, some b => some (.for_ t i b)
      | _, _, _ => none
    | .While c b [] _ => match comE ft N n sc c, comSs (comS n) b with
      | some c, some b => some (.whl c b)
      | _, _ => none
    | .Break _ => some .brk
    | .Continue _ => some .cnt
    | .Pass _ => some .pass
    | .Raise a b p => some (comR ft sc (.Raise a b p))
    | .Try body [.ExceptHandler (some (.Name x _)) (some nm) (b₀ :: suite) _] [] [] _ => (match ft.ex, locOf sc N nm, comSs (comS n) body with
      | some xi, some i, some b => if isGl sc x = true ∧ x ∈ xi.anc ∧ sc.names.lookup nm = some .local then (comH xi N sc nm (b₀ :: suite)).map fun h => .try_ b xi.cls i h else none
      | _, _, _ => none)
    | _ => none
where
  comSs (f : Stmt → Option St) : List Stmt → Option Sts
  | [] => some .nil
  | s :: r => match f s, comSs f r with
    | some a, some b => some (.cons a b)
    | _, _ => none
end
/-- a def, with its names in order (the parameters first) -/
def comF (ft : FTab) (N : List Str) (st : Stmt) : Option Fn :=
  match comS.comSs (comS ft N (defScope st) 60) (defBody st) with
  | some b => some ⟨(defArgs st).args.length, N.length, b⟩
  | none => none
end NL

/-! The machine answers as the small language does: expressions. -/
namespace NL
open PySem PySem.Spec PyProof.Rows L2
/-! ### states -/
structure ER (m : List Addr) (H : Hp) (en : NL.Env) (σ : L2.St) : Prop where
  len : en.length = σ.length
  get : ∀ (i : Nat) (d : D), en[i]? = some (some d) → ∃ v, σ[i]? = some (some v) ∧ Rep m H d v
theorem ER.mono {m m' : List Addr} {H H' : Hp} {en : NL.Env} {σ : L2.St} (g : Gr m m' H H') (r : ER m H en σ) : ER m' H' en σ := ⟨r.len, fun i d h => by
  obtain ⟨v, h1, h2⟩ := r.get i d h
  exact ⟨v, h1, Rep.mono g _ _ h2⟩⟩
theorem ER.set {m : List Addr} {H : Hp} {en : NL.Env} {σ : L2.St} {d : D} {v : V} (r : ER m H en σ) (h : Rep m H d v) (i : Nat) : ER m H (en.set i (some d)) (σ.set i (some v)) := ⟨by simp [r.len], fun j e q => by
  by_cases hij : i = j
  · subst hij
    by_cases hl : i < en.length
    · rw [List.getElem?_set_self hl] at q
      cases q
      exact ⟨v, List.getElem?_set_self (by rw [← r.len]; exact hl), h⟩
    · rw [List.getElem?_eq_none (by simpa using hl)] at q
      cases q
  · rw [List.getElem?_set_ne hij] at q ⊢
    exact r.get j e q⟩
theorem ER.wipe {m : List Addr} {H : Hp} {en : NL.Env} {σ : L2.St} (r : ER m H en σ) : ∀ vs : List Nat, ER m H (wipeD en vs) (L2.wipe σ vs)
  | [] => r
  | i :: vs => by
    have ih := ER.wipe r vs
    refine ⟨by show (List.set _ _ _).length = (List.set _ _ _).length; rw [List.length_set, List.length_set]; exact ih.len, fun j e q => ?_⟩
    show ∃ v, (List.set _ _ _)[j]? = _ ∧ _
    have q : ((wipeD en vs).set i none)[j]? = some (some e) := q
    by_cases hij : i = j
    · subst hij
      by_cases hl : i < (wipeD en vs).length
      · rw [List.getElem?_set_self hl] at q; cases q
      · rw [List.getElem?_eq_none (by simpa using hl)] at q; cases q
    · rw [List.getElem?_set_ne hij] at q ⊢
      exact ih.get j e q
/-- an exception: its class, its dict -/
def XR (mg : Str → Option Value) (c : Str) (d : Option Nat) (m : List Addr) (cls : Value) (dd : Option Addr) : Prop := mg c = some cls ∧ dd = d.bind fun l => m[l]?
def Wd (mg : Str → Option Value) (W : WX) (σ : L2.St) : Str → Option Nat → List Addr → Store → Hp → Prop := fun c d m _ H => ∀ cls dd, XR mg c d m cls dd → W cls dd σ H
/-- a reading by what is answered -/
def tG {α β : Type} (RG : List Addr → Hp → α → β → Prop) (K : PySem.W.Frag) (mg : Str → Option Value) (W : WX) (f : NL.Env → M α) : L2.St → Hp → (β → Hp → Prop) → Prop := fun σ H Q =>
  ∃ m en S, ER m H en σ ∧ SR K m S H ∧ post K (Wd mg W σ) m H (f en S) (fun a m' _ H' => ∀ b, RG m' H' a b → Q b H')
abbrev tE := @tG D V Rep
abbrev tT := @tG Bool Bool fun _ _ a b => b = a
abbrev tA := @tG (List D) (List V) Reps
theorem tG_use {α β : Type} {RG : List Addr → Hp → α → β → Prop} {K : PySem.W.Frag} {mg : Str → Option Value} {W : WX} {f : NL.Env → M α} {m : List Addr} {en : NL.Env} {S : Store} {H : Hp} {σ : L2.St} {Q : β → Hp → Prop} {F : α → List Addr → Store → Hp → Prop} (er : ER m H en σ) (sr : SR K m S H) (h : post K (Wd mg W σ) m H (f en S) F)
    (k : ∀ a m' S' H' b, Gr m m' H H' → ER m' H' en σ → SR K m' S' H' → F a m' S' H' → RG m' H' a b → Q b H') : tG RG K mg W f σ H Q :=
  ⟨m, en, S, er, sr, post_mono h fun a m' S' H' g s hf b r => k a m' S' H' b g (er.mono g) s hf r⟩
theorem PE.imp {X : Cx} {e : Expr} {t t' : TE} (h : PE X e t) (k : ∀ σ H Q, t' σ H Q → t σ H Q) : PE X e t' := ⟨fun pins s σ H Q I q => h.run pins s σ H Q I (k σ H Q q)⟩
theorem PT.imp {X : Cx} {e : Expr} {t t' : TT} (h : PT X e t) (k : ∀ σ H Q, t' σ H Q → t σ H Q) : PT X e t' := ⟨fun pins s σ H Q I q => h.run pins s σ H Q I (k σ H Q q)⟩
theorem PA.imp {X : Cx} {es : List Expr} {t t' : TA} (h : PA X es t) (k : ∀ σ H Q, t' σ H Q → t σ H Q) : PA X es t' := ⟨fun pos pins s σ H Q I q => h.run pos pins s σ H Q I (k σ H Q q)⟩
theorem PW.imp {X : Cx} {e : Expr} {t t' : TT} (h : PW X e t) (k : ∀ σ H Q, t' σ H Q → t σ H Q) : PW X e t' := ⟨fun wh pins s σ H Q I q => h.run wh pins s σ H Q I (k σ H Q q)⟩
/-! ### the context -/
/-- what a def of ours promises -/
def spM (K : PySem.W.Frag) (mg : Str → Option Value) (ar : Nat) (g : List D → M D) : Sp := fun vs H Q E => ∃ m S ds, SR K m S H ∧ Reps m H ds vs ∧ ds.length = ar ∧
  post K (fun c d m' _ H' => ∀ cls dd, XR mg c d m' cls dd → E cls dd H') m H (g ds S) (fun d m' _ H' => ∀ w, Rep m' H' d w → Q w H')
/-- a class by its name -/
def ClsAt (mg : Str → Option Value) (t : Str) (v : Value) : Prop := (mg t = some v ∧ ∃ a, v = .ref a) ∨ (mg t = none ∧ bootBuiltins t = some v ∧ t ≠ ("__name__" : Str) ∧ ∃ n, v = .type n)
/-- what is said of the exception's class -/
structure XFacts (K : PySem.W.Frag) (mg : Str → Option Value) (xi : XI) : Prop where
  cls : ∃ C : Addr, mg xi.cls = some (.ref C) ∧ PySem.W.excIn K C [.type "ValueError", .type "Exception", .type "BaseException", .type "object"] "ValueError.__new__" = true ∧ PySem.W.keepIn K (.ref C) = true ∧ PySem.W.typeIn K (.ref C) = some (.type "type") ∧ ExcC K C ∧
    (∀ t ∈ xi.anc, ∃ v, ClsAt mg t v ∧ PySem.W.kitOne K (.ref C) v = some true) ∧ (∀ t ∈ xi.nin, ∃ v, ClsAt mg t v ∧ PySem.W.kitOne K (.ref C) v = some false) ∧ ∀ t ∈ xi.anc, ∀ v, ClsAt mg t v → PySem.W.exmOne K (.ref C) v = some true
structure FOk (X : Cx) (C : Nat → List D → M D) (ft : FTab) : Prop where
  exc : ∀ xi, ft.ex = some xi → XFacts X.K X.mg xi
  own : ∀ f id ar, ft f = some (id, ar) → ∃ a fd ps k, FnOk X.prog X.w X.K X.mg X.base (L2.CX X.prog X.w) k a fd ps (spM X.K X.mg ar (C id)) ∧ Room k X.A ∧ X.mg f = some (.ref a) ∧ PySem.W.keepIn X.K (.ref a) = true ∧ Binds X.K fd ps []
  blt : ∀ b : Blt, X.mg b.name = none
  isi : X.mg "isinstance" = none
  rng : X.mg "range" = none
  enm : X.mg "enumerate" = none
  zip : X.mg "zip" = none
  rev : X.mg "reversed" = none
  st : X.mg "set" = none
  ty : ∀ t : Ty, X.mg t.name = none
structure XOk (X : Cx) (sc : Scope) (N : List Str) (C : Nat → List D → M D) (ft : FTab) (W : WX) : Prop where
  hN : X.N = N
  sc : X.env.scope = sc
  nd : N.Nodup
  calm : X.calm = true
  hu : X.A.units + 65 < cLine
  fo : FOk X C ft
  tk : Takes X W
/-! ### shapes -/
def plainE : Expr → Bool
  | .Dict .. | .Constant .. | .Name .. | .BinOp .. | .UnaryOp .. | .Compare .. | .BoolOp .. | .IfExp .. | .Tuple .. | .List .. | .Subscript .. | .Call .. | .ListComp .. => true
  | _ => false
theorem comE_plain {ft : FTab} {N : List Str} : ∀ {n : Nat} {sc : Scope} {e : Expr} {r : E}, comE ft N n sc e = some r → plainE e = true
  | 0, _, _, _, h => by unfold comE at h; cases h
  | n + 1, _, e, _, h => by
    unfold comE at h
    cases e <;> first | rfl | (dsimp only at h; cases h)
theorem star_plain {e : Expr} {es : List Expr} {env : PySem.Env} (h : plainE e = true) : starEach (e :: es) env = (false, eval e env) :: starEach es env := by
  cases e <;> first | rfl | cases h
theorem behind_plain {op : CmpOp} {e : Expr} (h : plainE e = true) : behindInMarks op e = false := by
  cases e <;> first | rfl | cases h
theorem folded_plain {e : Expr} {env : PySem.Env} {x : Value} (h : plainE e = true) : foldedSetIterable e env x = pure x := by
  cases e <;> first | rfl | cases h
theorem stars_none {pos : Pos} {env : PySem.Env} : ∀ {es : List Expr}, (∀ e ∈ es, plainE e = true) → (backTo pos (starEach es env)).any (·.1) = false
  | [], _ => rfl
  | e :: es, h => by
    rw [star_plain (h e List.mem_cons_self)]
    show (false || (backTo pos (starEach es env)).any (·.1)) = false
    rw [stars_none fun e he => h e (List.mem_cons_of_mem _ he)]
    rfl
theorem posOf_get {x : Str} : ∀ {N : List Str} {i : Nat}, posOf x N = some i → N[i]? = some x
  | [], _, h => by cases h
  | y :: r, i, h => by
    unfold posOf at h
    split at h
    · rename_i e; cases h; rw [e]; rfl
    · obtain ⟨j, hj, rfl⟩ := Option.map_eq_some_iff.mp h
      have z := posOf_get (N := r) hj
      simpa using z
theorem odd_no {x : Str} (h : ¬ oddName x = true) : (x == ("__debug__" : Str)) = false ∧ (x == ("__classdict__" : Str)) = false := by
  unfold oddName at h
  rw [Bool.or_eq_true, not_or] at h
  exact ⟨by simpa using h.1, by simpa using h.2⟩
theorem visOf_some {sc : Scope} {N : List Str} {x : Str} {i : Nat} (h : visOf sc N x = some i) : N[i]? = some x ∧ Vis sc x ∧ (x == ("__debug__" : Str)) = false ∧ (x == ("__classdict__" : Str)) = false := by
  unfold visOf at h
  split at h
  · cases h
  · rename_i ho
    obtain ⟨o1, o2⟩ := odd_no ho
    split at h
    · rename_i e; exact ⟨posOf_get h, .inl e, o1, o2⟩
    · rename_i e; exact ⟨posOf_get h, .inr (.inl e), o1, o2⟩
    · rename_i e; exact ⟨posOf_get h, .inr (.inr e), o1, o2⟩
    · cases h
theorem locOf_some {sc : Scope} {N : List Str} {x : Str} {i : Nat} (h : locOf sc N x = some i) : N[i]? = some x ∧ Loc sc x := by
  unfold locOf at h
  split at h
  · cases h
  · split at h
    · rename_i e; exact ⟨posOf_get h, .inl e⟩
    · rename_i e; exact ⟨posOf_get h, .inr e⟩
    · cases h
theorem isGl_some {sc : Scope} {x : Str} (h : isGl sc x = true) : sc.names.lookup x = some .globalImplicit ∧ (x == ("__debug__" : Str)) = false := by
  unfold isGl at h
  rw [Bool.and_eq_true] at h
  have ho : ¬ oddName x = true := by simpa using h.1
  exact ⟨of_decide_eq_true h.2, (odd_no ho).1⟩
theorem comL_all {f : Expr → Option E} : ∀ {es : List Expr} {r : Es}, comL f es = some r → ∀ e ∈ es, ∃ a, f e = some a
  | [], _, _, e, he => by cases he
  | x :: es, _, h, e, he => by
    unfold comL at h
    cases e1 : f x with
    | none => rw [e1] at h; cases h
    | some a =>
      cases e2 : comL f es with
      | none => rw [e1, e2] at h; cases h
      | some b =>
        rcases List.mem_cons.mp he with rfl | he
        · exact ⟨a, e1⟩
        · exact comL_all e2 e he
theorem bopOf_op {o : Operator} {b : Bop} (h : bopOf o = some b) : b.op = o := by
  cases o <;> simp [bopOf] at h <;> subst h <;> rfl
theorem copOf_op (o : CmpOp) : (copOf o).op = o := by cases o <;> rfl
theorem bltOf_some {x : Str} {b : Blt} (h : bltOf x = some b) : x = b.name := by
  unfold bltOf at h
  repeat' split at h
  all_goals first | cases h | skip
  all_goals assumption
theorem tyOf_some {x : Str} {t : Ty} (h : tyOf x = some t) : x = t.name := by
  unfold tyOf at h
  repeat' split at h
  all_goals first | cases h | skip
  all_goals assumption
theorem boot_blt : ∀ b : Blt, bootBuiltins b.name = some b.val ∧ b.name ≠ ("__name__" : Str)
  | .abs => by decide +kernel
  | .int => by decide +kernel
  | .len => by decide +kernel
  | .min => by decide +kernel
  | .max => by decide +kernel
  | .list => by decide +kernel
  | .tuple => by decide +kernel
  | .sum => by decide +kernel
  | .sorted => by decide +kernel
theorem boot_ty : ∀ t : Ty, bootBuiltins t.name = some (.type t.nm) ∧ t.name ≠ ("__name__" : Str)
  | .int => by decide +kernel
  | .bool => by decide +kernel
  | .tuple => by decide +kernel
  | .list => by decide +kernel
  | .str => by decide +kernel
end NL

namespace NL
open PySem PySem.Spec PyProof.Rows L2
section
variable {X : Cx} {sc : Scope} {N : List Str} {C : Nat → List D → M D} {ft : FTab} {W : WX}
/-! ### one construct at a time -/
theorem p_con {c : Const} {d : D} {k : Nat} {pos : Pos} (h : conOf c = some d) : PE X (.Constant c k pos) (tE X.K X.mg W (evE C (.con d))) := by
  have fin : ∀ {v : V}, (∀ m H, Rep m H d v) → PE X (.Constant c k pos) (tC v) → PE X (.Constant c k pos) (tE X.K X.mg W (evE C (.con d))) := fun {v} hr hp =>
    PE.imp hp fun σ H Q ⟨m, en, S, er, sr, q⟩ => post_now sr q v (hr m H)
  cases c <;> simp [conOf] at h <;> subst h
  · exact fin (fun _ _ => .non) pe_non
  · exact fin (fun _ _ => .bl _) pe_bl
  · exact fin (fun _ _ => .int _) pe_int
  · exact fin (fun _ _ => .str _) pe_str
theorem p_var {x : Str} {i : Nat} {pos : Pos} (o : XOk X sc N C ft W) (h : visOf sc N x = some i) : PE X (.Name x pos) (tE X.K X.mg W (evE C (.var i))) := by
  obtain ⟨h1, h2, h3, h4⟩ := visOf_some h
  refine PE.imp (pe_var (i := i) (by rw [o.hN]; exact h1) (by rw [o.sc]; exact h2) h3 h4) fun σ H Q ⟨m, en, S, er, sr, q⟩ => ?_
  unfold evE at q
  cases e : en[i]? with
  | none => rw [e] at q; exact q.elim
  | some od =>
    cases od with
    | none => rw [e] at q; exact q.elim
    | some d =>
      rw [e] at q
      obtain ⟨v, e1, r⟩ := er.get i d e
      exact ⟨v, e1, post_now sr q v r⟩
variable {a b c e : Expr} {a' b' c' e' : E} {pos : Pos}
theorem p_bin {o : Operator} {o' : Bop} (ho : bopOf o = some o') (ha : PE X a (tE X.K X.mg W (evE C a'))) (hb : PE X b (tE X.K X.mg W (evE C b'))) : PE X (.BinOp a o b pos) (tE X.K X.mg W (evE C (.bin o' a' b'))) := by
  have hop := bopOf_op ho
  subst hop
  refine PE.imp (pe_op (op_binD o') ha hb) fun σ H Q ⟨m, en, S, er, sr, q⟩ => ?_
  unfold evE at q
  refine tG_use er sr (post_bind q) fun x m1 S1 H1 v g er1 sr1 q1 rx => tG_use er1 sr1 (post_bind q1) fun y m2 S2 H2 u g2 er2 sr2 q2 ry => ?_
  exact ⟨_, m2, S2, x, y, sr2, Rep.mono g2 _ _ rx, ry, q2⟩
theorem p_neg (ha : PE X a (tE X.K X.mg W (evE C a'))) : PE X (.UnaryOp .USub a pos) (tE X.K X.mg W (evE C (.neg a'))) := by
  refine PE.imp (pe_un un_neg ha) fun σ H Q ⟨m, en, S, er, sr, q⟩ => ?_
  unfold evE at q
  refine tG_use er sr (post_bind q) fun x m1 S1 H1 v g er1 sr1 q1 rx => ?_
  cases rx <;> try exact (show False from q1).elim
  exact ⟨_, rfl, post_val sr1 q1 (.int _)⟩
/-- what a test asks of a value -/
theorem tru_bind {α : Type} {K : PySem.W.Frag} {Ex : Str → Option Nat → List Addr → Store → Hp → Prop} {m : List Addr} {H : Hp} {S : Store} {x : D} {f : Bool → M α} {F : α → List Addr → Store → Hp → Prop} (h : post K Ex m H ((truD x >>= f) S) F) : ∃ t, x = .bl t ∧ post K Ex m H (f t S) F := by
  cases x <;> first | exact (show False from h).elim | exact ⟨_, rfl, h⟩
theorem p_not (ha : PT X a (tT X.K X.mg W fun en => evE C a' en >>= truD)) (hv : PE X a (tE X.K X.mg W (evE C a'))) : PE X (.UnaryOp .Not a pos) (tE X.K X.mg W (evE C (.not a'))) := by
  refine PE.imp (pe_not hv) fun σ H Q ⟨m, en, S, er, sr, q⟩ => ?_
  unfold evE at q
  rw [bind_as] at q
  refine tG_use er sr (post_bind q) fun x m1 S1 H1 v g er1 sr1 q1 rx => ?_
  obtain ⟨t, rfl, q2⟩ := tru_bind q1
  cases rx
  exact ⟨t, rfl, post_val sr1 q2 (.bl _)⟩
theorem p_notT (ha : PT X a (tT X.K X.mg W fun en => evE C a' en >>= truD)) : PT X (.UnaryOp .Not a pos) (tT X.K X.mg W fun en => evE C (.not a') en >>= truD) := by
  refine PT.imp (pt_not ha) fun σ H Q ⟨m, en, S, er, sr, q⟩ => ?_
  unfold evE at q
  refine tG_use er sr (post_bind (post_bind q)) fun t m1 S1 H1 v g er1 sr1 q1 rx => ?_
  subst rx
  exact post_now sr1 (post_now sr1 q1) _ rfl
theorem p_cmp {o : CmpOp} (w : XOk X sc N C ft W) (hp : plainE b = true) (ha : PE X a (tE X.K X.mg W (evE C a'))) (hb : PE X b (tE X.K X.mg W (evE C b'))) : PE X (.Compare a [o] [b] pos) (tE X.K X.mg W (evE C (.cmp (copOf o) a' b'))) := by
  have ho : OpR X (compareOp o) (rD X.K (cmpD (copOf o))) := by
    have z := op_cmpD (X := X) w.hu (copOf o)
    rw [copOf_op] at z
    exact z
  refine PE.imp (pe_cmpR ho ha hb (behind_plain hp)) fun σ H Q ⟨m, en, S, er, sr, q⟩ => ?_
  unfold evE at q
  refine tG_use er sr (post_bind q) fun x m1 S1 H1 v g er1 sr1 q1 rx => tG_use er1 sr1 (post_bind q1) fun y m2 S2 H2 u g2 er2 sr2 q2 ry => ?_
  exact ⟨_, m2, S2, x, y, sr2, Rep.mono g2 _ _ rx, ry, q2⟩
/-- behind a value that is tested -/
theorem tst_end {K : PySem.W.Frag} {Ex : Str → Option Nat → List Addr → Store → Hp → Prop} {m : List Addr} {H : Hp} {r : R D} {Q : Bool → Hp → Prop} (h : post K Ex m H r (fun d m1 S1 H1 => post K Ex m1 H1 (truD d S1) (fun b m' _ H' => ∀ c, c = b → Q c H'))) :
    post K Ex m H r (fun d m' _ H' => ∀ w, Rep m' H' d w → ∃ k, w = .bl k ∧ Q k H') := by
  refine post_mono h fun d m1 S1 H1 g s q w rw' => ?_
  cases rw' <;> try exact (show False from q).elim
  exact ⟨_, rfl, post_now s q _ rfl⟩
theorem p_cmpT {o : CmpOp} (w : XOk X sc N C ft W) (hp : plainE b = true) (ha : PE X a (tE X.K X.mg W (evE C a'))) (hb : PE X b (tE X.K X.mg W (evE C b'))) : PT X (.Compare a [o] [b] pos) (tT X.K X.mg W fun en => evE C (.cmp (copOf o) a' b') en >>= truD) := by
  have ho : OpR X (compareOp o) (rD X.K (cmpD (copOf o))) := by
    have z := op_cmpD (X := X) w.hu (copOf o)
    rw [copOf_op] at z
    exact z
  refine PT.imp (pt_cmpR ho ha hb (behind_plain hp)) fun σ H Q ⟨m, en, S, er, sr, q⟩ => ?_
  have q := tst_end (post_bind q)
  unfold evE at q
  refine tG_use er sr (post_bind q) fun x m1 S1 H1 v g er1 sr1 q1 rx => tG_use er1 sr1 (post_bind q1) fun y m2 S2 H2 u g2 er2 sr2 q2 ry => ?_
  exact ⟨_, m2, S2, x, y, sr2, Rep.mono g2 _ _ rx, ry, q2⟩
/-- a test of a value whose test is plain -/
theorem p_valT (h : PE X e (tE X.K X.mg W (evE C e'))) (he : ∀ whole, isTrue e X.env whole = (do let v ← whole; standAt e.pos; holding [v] (truthy v))) : PT X e (tT X.K X.mg W fun en => evE C e' en >>= truD) := by
  refine PT.imp (pt_val h he) fun σ H Q ⟨m, en, S, er, sr, q⟩ => ?_
  exact ⟨m, en, S, er, sr, tst_end (post_bind q)⟩
theorem lastMarks_plain {o o' : CmpOp} (hc : plainE c = true) : lastMarks [o, o'] [b, c] = false := by
  show behindInMarks o' c = false
  exact behind_plain hc
/-- the second link of a chain -/
theorem chn_link {o o' : Cop} {K : PySem.W.Frag} {mg : Str → Option Value} {σ : L2.St} {m2 : List Addr} {en : NL.Env} {S2 : Store} {H2 : Hp} {Q : VK} {x y : D} {v u : V} (er2 : ER m2 H2 en σ) (sr2 : SR K m2 S2 H2) (rx : Rep m2 H2 x v) (ry : Rep m2 H2 y u)
    (q2 : post K (Wd mg W σ) m2 H2 ((cmpD o x y >>= truD >>= fun t => if t = true then evE C c' en >>= fun z => cmpD o' y z else pure (.bl false)) S2) (fun d m' _ H' => ∀ w, Rep m' H' d w → Q w H')) :
    rD K (cmpD o) v u H2 fun z H3 => ∃ k, z = .bl k ∧ (if k = true then tE K mg W (evE C c') σ H3 fun w' H4 => rD K (cmpD o') u w' H4 Q else Q (.bl false) H3) := by
  refine ⟨_, m2, S2, x, y, sr2, rx, ry, post_mono (post_bind (post_bind q2)) fun d m3 S3 H3 g3 sr3 q3 z rz => ?_⟩
  cases rz <;> try exact (show False from q3).elim
  rename_i t
  have q5 := post_now sr3 q3
  refine ⟨t, rfl, ?_⟩
  cases t with
  | false =>
    rw [if_neg Bool.false_ne_true] at q5 ⊢
    exact post_val sr3 q5 (.bl _)
  | true =>
    rw [if_pos rfl] at q5 ⊢
    refine tG_use (er2.mono g3) sr3 (post_bind q5) fun z m4 S4 H4 u4 g4 er4 sr4 q6 rz => ?_
    exact ⟨_, m4, S4, y, z, sr4, Rep.mono (g3.trans g4) _ _ ry, rz, q6⟩
theorem p_chn {o o' : CmpOp} (w : XOk X sc N C ft W) (hp : plainE c = true) (ha : PE X a (tE X.K X.mg W (evE C a'))) (hb : PE X b (tE X.K X.mg W (evE C b'))) (hc : PE X c (tE X.K X.mg W (evE C c'))) :
    PE X (.Compare a [o, o'] [b, c] pos) (tE X.K X.mg W (evE C (.chn (copOf o) (copOf o') a' b' c'))) := by
  have hop : ∀ o, OpR X (compareOp o) (rD X.K (cmpD (copOf o))) := fun o => by
    have z := op_cmpD (X := X) w.hu (copOf o)
    rw [copOf_op] at z
    exact z
  refine PE.imp (pe_chain (hop o) (hop o') ha hb hc (lastMarks_plain hp)) fun σ H Q ⟨m, en, S, er, sr, q⟩ => ?_
  unfold evE at q
  refine tG_use er sr (post_bind q) fun x m1 S1 H1 v g er1 sr1 q1 rx => tG_use er1 sr1 (post_bind q1) fun y m2 S2 H2 u g2 er2 sr2 q2 ry => ?_
  exact chn_link er2 sr2 (Rep.mono g2 _ _ rx) ry q2
theorem p_chnT {o o' : CmpOp} (w : XOk X sc N C ft W) (hp : plainE c = true) (ha : PE X a (tE X.K X.mg W (evE C a'))) (hb : PE X b (tE X.K X.mg W (evE C b'))) (hc : PE X c (tE X.K X.mg W (evE C c'))) :
    PT X (.Compare a [o, o'] [b, c] pos) (tT X.K X.mg W fun en => evE C (.chn (copOf o) (copOf o') a' b' c') en >>= truD) := by
  have hop : ∀ o, OpR X (compareOp o) (rD X.K (cmpD (copOf o))) := fun o => by
    have z := op_cmpD (X := X) w.hu (copOf o)
    rw [copOf_op] at z
    exact z
  refine PT.imp (pt_chain (hop o) (hop o') ha hb hc (lastMarks_plain hp)) fun σ H Q ⟨m, en, S, er, sr, q⟩ => ?_
  have q := tst_end (post_bind q)
  unfold evE at q
  refine tG_use er sr (post_bind q) fun x m1 S1 H1 v g er1 sr1 q1 rx => tG_use er1 sr1 (post_bind q1) fun y m2 S2 H2 u g2 er2 sr2 q2 ry => ?_
  exact chn_link er2 sr2 (Rep.mono g2 _ _ rx) ry q2
/-! and, or, if -/
theorem p_and {rest : List Expr} (ha : PE X a (tE X.K X.mg W (evE C a'))) (hb : PE X (.BoolOp .And (b :: rest) pos) (tE X.K X.mg W (evE C b'))) : PE X (.BoolOp .And (a :: b :: rest) pos) (tE X.K X.mg W (evE C (.and a' b'))) := by
  refine PE.imp (pe_and ha hb) fun σ H Q ⟨m, en, S, er, sr, q⟩ => ?_
  unfold evE at q
  refine tG_use er sr (post_bind (post_bind q)) fun x m1 S1 H1 v g er1 sr1 q1 rx => ?_
  cases rx <;> try exact (show False from q1).elim
  rename_i t
  have q2 := post_now sr1 q1
  refine ⟨t, rfl, ?_⟩
  cases t with
  | true => rw [if_pos rfl] at q2 ⊢; exact ⟨m1, en, S1, er1, sr1, q2⟩
  | false => rw [if_neg Bool.false_ne_true] at q2 ⊢; exact post_val sr1 q2 (.bl _)
theorem p_or {rest : List Expr} (ha : PE X a (tE X.K X.mg W (evE C a'))) (hb : PE X (.BoolOp .Or (b :: rest) pos) (tE X.K X.mg W (evE C b'))) : PE X (.BoolOp .Or (a :: b :: rest) pos) (tE X.K X.mg W (evE C (.or a' b'))) := by
  refine PE.imp (pe_or ha hb) fun σ H Q ⟨m, en, S, er, sr, q⟩ => ?_
  unfold evE at q
  refine tG_use er sr (post_bind (post_bind q)) fun x m1 S1 H1 v g er1 sr1 q1 rx => ?_
  cases rx <;> try exact (show False from q1).elim
  rename_i t
  have q2 := post_now sr1 q1
  refine ⟨t, rfl, ?_⟩
  cases t with
  | true => rw [if_pos rfl] at q2 ⊢; exact post_val sr1 q2 (.bl _)
  | false => rw [if_neg Bool.false_ne_true] at q2 ⊢; exact ⟨m1, en, S1, er1, sr1, q2⟩
theorem and_tru (en : NL.Env) : (evE C (.and a' b') en >>= truD) = (evE C a' en >>= truD) >>= fun t => if t = true then evE C b' en >>= truD else pure false := by
  simp only [evE, bind_as, ite_bi, pure_bi]
  rfl
theorem or_tru (en : NL.Env) : (evE C (.or a' b') en >>= truD) = (evE C a' en >>= truD) >>= fun t => if t = true then pure true else evE C b' en >>= truD := by
  simp only [evE, bind_as, ite_bi, pure_bi]
  rfl
theorem p_andW {rest : List Expr} (ha : PT X a (tT X.K X.mg W fun en => evE C a' en >>= truD)) (hb : PW X (.BoolOp .And (b :: rest) pos) (tT X.K X.mg W fun en => evE C b' en >>= truD)) :
    PW X (.BoolOp .And (a :: b :: rest) pos) (tT X.K X.mg W fun en => evE C (.and a' b') en >>= truD) := by
  refine PW.imp (pw_and ha hb) fun σ H Q ⟨m, en, S, er, sr, q⟩ => ?_
  dsimp only at q
  rw [and_tru] at q
  refine tG_use er sr (post_bind q) fun t m1 S1 H1 v g er1 sr1 q1 rx => ?_
  subst rx
  cases v with
  | true => rw [if_pos rfl] at q1 ⊢; exact ⟨m1, en, S1, er1, sr1, q1⟩
  | false => rw [if_neg Bool.false_ne_true] at q1 ⊢; exact post_now sr1 q1 _ rfl
theorem p_orW {rest : List Expr} (ha : PT X a (tT X.K X.mg W fun en => evE C a' en >>= truD)) (hb : PW X (.BoolOp .Or (b :: rest) pos) (tT X.K X.mg W fun en => evE C b' en >>= truD)) :
    PW X (.BoolOp .Or (a :: b :: rest) pos) (tT X.K X.mg W fun en => evE C (.or a' b') en >>= truD) := by
  refine PW.imp (pw_or ha hb) fun σ H Q ⟨m, en, S, er, sr, q⟩ => ?_
  dsimp only at q
  rw [or_tru] at q
  refine tG_use er sr (post_bind q) fun t m1 S1 H1 v g er1 sr1 q1 rx => ?_
  subst rx
  cases v with
  | true => rw [if_pos rfl] at q1 ⊢; exact post_now sr1 q1 _ rfl
  | false => rw [if_neg Bool.false_ne_true] at q1 ⊢; exact ⟨m1, en, S1, er1, sr1, q1⟩
theorem p_boolE {f : Expr → Option E} : ∀ {es : List Expr} {op : BoolOp} {r : E}, comBool f op es = some r → (∀ e ∈ es, ∀ r, f e = some r → PE X e (tE X.K X.mg W (evE C r))) → PE X (.BoolOp op es pos) (tE X.K X.mg W (evE C r))
  | [], _, _, h, _ => by cases h
  | [e], op, r, h, hp => pe_one (hp e List.mem_cons_self r h)
  | e :: e2 :: es, op, r, h, hp => by
    unfold comBool at h
    cases e1 : f e with
    | none => rw [e1] at h; cases h
    | some a' =>
      cases e3 : comBool f op (e2 :: es) with
      | none => rw [e1, e3] at h; cases h
      | some b' =>
        rw [e1, e3] at h
        have ih := p_boolE e3 fun x hx => hp x (List.mem_cons_of_mem _ hx)
        have ha := hp e List.mem_cons_self a' e1
        cases op <;> cases h
        · exact p_and ha ih
        · exact p_or ha ih
theorem p_boolW {f : Expr → Option E} : ∀ {es : List Expr} {op : BoolOp} {r : E}, comBool f op es = some r → (∀ e ∈ es, ∀ r, f e = some r → PT X e (tT X.K X.mg W fun en => evE C r en >>= truD)) → PW X (.BoolOp op es pos) (tT X.K X.mg W fun en => evE C r en >>= truD)
  | [], _, _, h, _ => by cases h
  | [e], op, r, h, hp => by
    cases op with
    | And => exact pw_and1 (hp e List.mem_cons_self r h)
    | Or => exact pw_or1 (hp e List.mem_cons_self r h)
  | e :: e2 :: es, op, r, h, hp => by
    unfold comBool at h
    cases e1 : f e with
    | none => rw [e1] at h; cases h
    | some a' =>
      cases e3 : comBool f op (e2 :: es) with
      | none => rw [e1, e3] at h; cases h
      | some b' =>
        rw [e1, e3] at h
        have ih := p_boolW e3 fun x hx => hp x (List.mem_cons_of_mem _ hx)
        have ha := hp e List.mem_cons_self a' e1
        cases op <;> cases h
        · exact p_andW ha ih
        · exact p_orW ha ih
theorem p_ite (hc : PT X c (tT X.K X.mg W fun en => evE C c' en >>= truD)) (ha : PE X a (tE X.K X.mg W (evE C a'))) (hb : PE X b (tE X.K X.mg W (evE C b'))) : PE X (.IfExp c a b pos) (tE X.K X.mg W (evE C (.ite c' a' b'))) := by
  refine PE.imp (pe_ifExp hc ha hb) fun σ H Q ⟨m, en, S, er, sr, q⟩ => ?_
  unfold evE at q
  refine tG_use er sr (post_bind q) fun t m1 S1 H1 v g er1 sr1 q1 rx => ?_
  subst rx
  cases v with
  | true => rw [if_pos rfl] at q1 ⊢; exact ⟨m1, en, S1, er1, sr1, q1⟩
  | false => rw [if_neg Bool.false_ne_true] at q1 ⊢; exact ⟨m1, en, S1, er1, sr1, q1⟩
/-- if as a test -/
theorem pt_ife {tc ta tb : TT} (hc : PT X c tc) (ha : PT X a ta) (hb : PT X b tb) : PT X (.IfExp c a b pos) (fun σ H Q => tc σ H fun t H1 => if t = true then ta σ H1 Q else tb σ H1 Q) := by
  refine ⟨fun pins s σ H Q I h => ?_⟩
  show wpAny _ _ (do if ← isTrue c X.env (eval c X.env) then isTrue a X.env (eval a X.env) else isTrue b X.env (eval b X.env)) _ _ _
  refine wpAny_bind (thn (hc.run pins s σ H _ I h) fun t s1 ⟨H1, I1, q1⟩ => ?_)
  cases t with
  | true => rw [if_pos rfl] at q1 ⊢; exact ha.run pins s1 σ H1 Q I1 q1
  | false => rw [if_neg Bool.false_ne_true] at q1 ⊢; exact hb.run pins s1 σ H1 Q I1 q1
theorem p_iteT (hc : PT X c (tT X.K X.mg W fun en => evE C c' en >>= truD)) (ha : PT X a (tT X.K X.mg W fun en => evE C a' en >>= truD)) (hb : PT X b (tT X.K X.mg W fun en => evE C b' en >>= truD)) :
    PT X (.IfExp c a b pos) (tT X.K X.mg W fun en => evE C (.ite c' a' b') en >>= truD) := by
  refine PT.imp (pt_ife hc ha hb) fun σ H Q ⟨m, en, S, er, sr, q⟩ => ?_
  have e : (evE C (.ite c' a' b') en >>= truD) = (evE C c' en >>= truD) >>= fun t => if t = true then evE C a' en >>= truD else evE C b' en >>= truD := by
    simp only [evE, bind_as, ite_bi]
  dsimp only at q
  rw [e] at q
  refine tG_use er sr (post_bind q) fun t m1 S1 H1 v g er1 sr1 q1 rx => ?_
  subst rx
  cases v with
  | true => rw [if_pos rfl] at q1 ⊢; exact ⟨m1, en, S1, er1, sr1, q1⟩
  | false => rw [if_neg Bool.false_ne_true] at q1 ⊢; exact ⟨m1, en, S1, er1, sr1, q1⟩
/-! displays, places, slices, calls -/
theorem p_list {f : Expr → Option E} : ∀ {es : List Expr} {r : Es}, comL f es = some r → (∀ e ∈ es, ∀ r, f e = some r → plainE e = true ∧ PE X e (tE X.K X.mg W (evE C r))) → PA X es (tA X.K X.mg W (evEs C r))
  | [], _, h, _ => by
    cases h
    refine PA.imp pa_nil fun σ H Q ⟨m, en, S, er, sr, q⟩ => ?_
    exact post_now sr (show post _ _ _ _ (R.ok [] S) _ from q) [] .nil
  | e :: es, _, h, hp => by
    unfold comL at h
    cases e1 : f e with
    | none => rw [e1] at h; cases h
    | some a' =>
      cases e2 : comL f es with
      | none => rw [e1, e2] at h; cases h
      | some b' =>
        rw [e1, e2] at h
        cases h
        obtain ⟨h1, h2⟩ := hp e List.mem_cons_self a' e1
        refine PA.imp (pa_cons h2 (p_list e2 fun x hx => hp x (List.mem_cons_of_mem _ hx)) (star_plain h1)) fun σ H Q ⟨m, en, S, er, sr, q⟩ => ?_
        unfold evEs at q
        refine tG_use er sr (post_bind q) fun x m1 S1 H1 v g er1 sr1 q1 rx => tG_use er1 sr1 (post_bind q1) fun y m2 S2 H2 u g2 er2 sr2 q2 ry => ?_
        exact post_now sr2 (show post _ _ _ _ (R.ok (x :: y) S2) _ from q2) _ (.cons (Rep.mono g2 _ _ rx) ry)
theorem p_tup {es : List Expr} {es' : Es} {k : Nat} (h : PA X es (tA X.K X.mg W (evEs C es'))) : PE X (.Tuple es k pos) (tE X.K X.mg W (evE C (.tup es'))) := by
  refine PE.imp (pe_tup h) fun σ H Q ⟨m, en, S, er, sr, q⟩ => ?_
  unfold evE at q
  refine tG_use er sr (post_bind q) fun x m1 S1 H1 v g er1 sr1 q1 rx => ?_
  obtain ⟨hc, q2⟩ := post_ite q1
  exact ⟨by rw [← rx.length]; exact hc, post_tup sr1 q2 rx⟩
theorem p_lst {es : List Expr} {es' : Es} (h : PA X es (tA X.K X.mg W (evEs C es'))) : PE X (.List es pos) (tE X.K X.mg W (evE C (.lst es'))) := by
  refine PE.imp (pe_lst h) fun σ H Q ⟨m, en, S, er, sr, q⟩ => ?_
  unfold evE at q
  refine tG_use er sr (post_bind q) fun x m1 S1 H1 v g er1 sr1 q1 rx => ?_
  obtain ⟨hc, q2⟩ := post_ite q1
  exact ⟨by rw [← rx.length]; exact hc, post_alloc sr1 q2 rx⟩
theorem p_idx (hu : X.A.units + 65 < cLine) (hs : isSlice b = false) (ha : PE X a (tE X.K X.mg W (evE C a'))) (hb : PE X b (tE X.K X.mg W (evE C b'))) : PE X (.Subscript a b pos) (tE X.K X.mg W (evE C (.idx a' b'))) := by
  have pl : PlainIx b := by
    intro o i
    cases b <;> first | rfl | cases hs
  refine PE.imp (pe_ix (ix_D (by omega)) ha hb pl) fun σ H Q ⟨m, en, S, er, sr, q⟩ => ?_
  unfold evE at q
  refine tG_use er sr (post_bind q) fun x m1 S1 H1 v g er1 sr1 q1 rx => tG_use er1 sr1 (post_bind q1) fun y m2 S2 H2 u g2 er2 sr2 q2 ry => ?_
  exact ⟨_, m2, S2, x, y, sr2, Rep.mono g2 _ _ rx, ry, q2⟩
end
end NL

namespace NL
open PySem PySem.Spec PyProof.Rows L2
section
variable {X : Cx} {sc : Scope} {N : List Str} {C : Nat → List D → M D} {ft : FTab} {W : WX} {a b c e : Expr} {a' b' c' e' : E} {pos : Pos}
/-! slices -/
theorem PO.imp {o : Option Expr} {t t' : TO} (h : PO X o t) (k : ∀ σ H Q, t' σ H Q → t σ H Q) : PO X o t' := ⟨fun pins s σ H Q I q => h.run pins s σ H Q I (k σ H Q q)⟩
/-- a bound: where it is there, an int -/
def tB1 (K : PySem.W.Frag) (mg : Str → Option Value) (W : WX) (f : NL.Env → M (Option Int)) : TO := @tG (Option Int) (Option Int) (fun _ _ a b => b = a) K mg W f
theorem p_bnd {f : Expr → Option E} {o : Option Expr} (h : comO f o = some e') (hp : ∀ e, o = some e → ∀ r, f e = some r → PE X e (tE X.K X.mg W (evE C r))) : PO X o (tB1 X.K X.mg W fun en => evE C e' en >>= bndM o.isSome) := by
  cases o with
  | none =>
    cases h
    refine PO.imp po_none fun σ H Q ⟨m, en, S, er, sr, q⟩ => ?_
    exact post_now sr (show post _ _ _ _ (R.ok none S) _ from q) none rfl
  | some e =>
    refine PO.imp (po_some (hp e rfl e' h)) fun σ H Q ⟨m, en, S, er, sr, q⟩ => ?_
    refine tG_use er sr (post_bind q) fun d m1 S1 H1 v g er1 sr1 q1 rv => ?_
    cases rv <;> try exact (show False from q1).elim
    exact ⟨_, rfl, post_now sr1 (show post _ _ _ _ (R.ok (some _) S1) _ from q1) _ rfl⟩
theorem p_slc {f : Expr → Option E} {lo hi : Option Expr} {lo' hi' : E} {p2 : Pos} (ha : PE X a (tE X.K X.mg W (evE C a'))) (h1 : comO f lo = some lo') (h2 : comO f hi = some hi')
    (hl : ∀ e, lo = some e → ∀ r, f e = some r → PE X e (tE X.K X.mg W (evE C r))) (hh : ∀ e, hi = some e → ∀ r, f e = some r → PE X e (tE X.K X.mg W (evE C r))) :
    PE X (.Subscript a (.Slice lo hi none p2) pos) (tE X.K X.mg W (evE C (.slc lo.isSome hi.isSome a' lo' hi'))) := by
  refine PE.imp (pe_slice sl_list ha (p_bnd (C := C) (W := W) h1 hl) (p_bnd (C := C) (W := W) h2 hh)) fun σ H Q ⟨m, en, S, er, sr, q⟩ => ?_
  unfold evE at q
  refine tG_use er sr (post_bind q) fun x m1 S1 H1 v g er1 sr1 q1 rx => tG_use er1 sr1 (post_bind q1) fun y m2 S2 H2 u g2 er2 sr2 q2 ry => tG_use er2 sr2 (post_bind q2) fun z m3 S3 H3 w g3 er3 sr3 q3 rz => ?_
  subst ry rz
  have rx3 := Rep.mono (g2.trans g3) _ _ rx
  cases rx3 <;> try exact (show False from q3).elim
  rename_i l a ea
  obtain ⟨o, e0, q4⟩ := getL_bind q3
  obtain ⟨vs, sq, rs⟩ := sr3.sq_at e0 ea
  exact ⟨a, vs, rfl, sq, post_alloc sr3 q4 (rs.cut _ _)⟩
/-! calls -/
theorem post_eq {α : Type} {K : PySem.W.Frag} {Ex : Str → Option Nat → List Addr → Store → Hp → Prop} {m : List Addr} {H : Hp} {r : R α} {F : α → List Addr → Store → Hp → Prop} (h : post K Ex m H r F) : post K Ex m H r (fun a m' S' H' => r = .ok a S' ∧ F a m' S' H') := by
  cases r with
  | ok a S => exact fun m' H' g s => ⟨rfl, h m' H' g s⟩
  | exc c d S => exact h
  | stuck => exact h
theorem evEs_len {en : NL.Env} : ∀ (es : Es) (S S' : Store) (xs : List D), evEs C es en S = .ok xs S' → xs.length = es.len
  | .nil, S, S', xs, h => by
    unfold evEs at h
    cases h
    rfl
  | .cons e es, S, S', xs, h => by
    unfold evEs at h
    rw [bind_eq] at h
    cases e1 : evE C e en S with
    | ok x S1 =>
      rw [e1] at h
      have h : (evEs C es en S1).bind (fun xs => (pure (x :: xs) : M (List D))) = .ok xs S' := h
      cases e2 : evEs C es en S1 with
      | ok ys S2 =>
        rw [e2] at h
        have h : (R.ok (x :: ys) S2 : R (List D)) = .ok xs S' := h
        cases h
        show ys.length + 1 = es.len + 1
        rw [evEs_len es S1 _ ys e2]
      | exc c d S2 => rw [e2] at h; cases h
      | stuck => rw [e2] at h; cases h
    | exc c d S1 => rw [e1] at h; cases h
    | stuck => rw [e1] at h; cases h
theorem p_call {n : Nat} {f : Str} {p : Pos} {es : List Expr} {id ar : Nat} {es' : Es} (w : XOk X sc N C ft W) (hg : isGl sc f = true) (hf : ft f = some (id, ar)) (hl : es'.len = ar) (hc : comL (comE ft N n sc) (e :: es) = some es')
    (h : PA X (e :: es) (tA X.K X.mg W (evEs C es'))) : PE X (.Call (.Name f p) (e :: es) [] pos) (tE X.K X.mg W (evE C (.call id es'))) := by
  obtain ⟨a, fd, ps, k, F, hr, hm, hk, hb⟩ := w.fo.own f id ar hf
  obtain ⟨g1, g2⟩ := isGl_some hg
  have gl : Gl X f := by show X.env.scope.names.lookup f = _; rw [w.sc]; exact g1
  have pl : ∀ x ∈ e :: es, plainE x = true := fun x hx => by
    obtain ⟨r, hr⟩ := comL_all hc x hx
    exact comE_plain hr
  refine PE.imp (pe_callS F hr gl hm hk hb (fun σ => passAt w.tk σ) h g2 (star_plain (pl e List.mem_cons_self)) (stars_none fun x hx => pl x (List.mem_cons_of_mem _ hx))) fun σ H Q ⟨m, en, S, er, sr, q⟩ => ?_
  unfold evE at q
  refine tG_use er sr (post_eq (post_bind q)) fun x m1 S1 H1 v g er1 sr1 ⟨qe, q1⟩ rx => ?_
  exact ⟨m1, S1, x, sr1, rx, (evEs_len es' S S1 x qe).trans hl, post_monoE q1 fun c d m' S' H' g s hw cls dd hx => hw cls dd hx⟩
theorem pe_blt {g : List V → Hp → VK → Prop} {es : List Expr} {t : TA} {p : Pos} (b : Blt) (hc : CallR X b.val g) (hg : Gl X b.name) (hm : X.mg b.name = none) (ha : PA X (e :: es) t) (hd : (b.name == ("__debug__" : Str)) = false)
    (he : starEach (e :: es) X.env = (false, eval e X.env) :: starEach es X.env) (hpl : (backTo pos (starEach es X.env)).any (·.1) = false) : PE X (.Call (.Name b.name p) (e :: es) [] pos) (tCB g t) := by
  obtain ⟨h1, h2⟩ := boot_blt b
  cases b
  · exact pe_callB hc hg hm h1 ha h2 hd he hpl
  · exact pe_callTy hc hg hm h1 ha h2 hd he hpl
  · exact pe_callB hc hg hm h1 ha h2 hd he hpl
  · exact pe_callB hc hg hm h1 ha h2 hd he hpl
  · exact pe_callB hc hg hm h1 ha h2 hd he hpl
  · exact pe_callTy hc hg hm h1 ha h2 hd he hpl
  · exact pe_callTy hc hg hm h1 ha h2 hd he hpl
  · exact pe_callB hc hg hm h1 ha h2 hd he hpl
  · exact pe_callB hc hg hm h1 ha h2 hd he hpl
theorem p_blt {n : Nat} {f : Str} {p : Pos} {es : List Expr} {b : Blt} {es' : Es} (w : XOk X sc N C ft W) (hg : isGl sc f = true) (hf : bltOf f = some b) (hc : comL (comE ft N n sc) (e :: es) = some es')
    (h : PA X (e :: es) (tA X.K X.mg W (evEs C es'))) : PE X (.Call (.Name f p) (e :: es) [] pos) (tE X.K X.mg W (evE C (.blt b es'))) := by
  have hn := bltOf_some hf
  subst hn
  obtain ⟨g1, g2⟩ := isGl_some hg
  have gl : Gl X b.name := by show X.env.scope.names.lookup b.name = _; rw [w.sc]; exact g1
  have pl : ∀ x ∈ e :: es, plainE x = true := fun x hx => by
    obtain ⟨r, hr⟩ := comL_all hc x hx
    exact comE_plain hr
  refine PE.imp (pe_blt b (call_bltD w.calm w.hu b) gl (w.fo.blt b) h g2 (star_plain (pl e List.mem_cons_self)) (stars_none fun x hx => pl x (List.mem_cons_of_mem _ hx))) fun σ H Q ⟨m, en, S, er, sr, q⟩ => ?_
  unfold evE at q
  refine tG_use er sr (post_bind q) fun x m1 S1 H1 v g er1 sr1 q1 rx => ?_
  exact ⟨_, m1, S1, x, sr1, rx, q1⟩
theorem p_isi {f t : Str} {p p2 : Pos} {T : Ty} (w : XOk X sc N C ft W) (hg : isGl sc f = true) (hf : f = ("isinstance" : Str)) (hg2 : isGl sc t = true) (ht : tyOf t = some T) (hp : plainE e = true) (h : PE X e (tE X.K X.mg W (evE C e'))) :
    PE X (.Call (.Name f p) [e, .Name t p2] [] pos) (tE X.K X.mg W (evE C (.isi e' T))) := by
  subst hf
  have hn := tyOf_some ht
  subst hn
  obtain ⟨g1, g2⟩ := isGl_some hg
  obtain ⟨g3, g4⟩ := isGl_some hg2
  have gl : Gl X "isinstance" := by show X.env.scope.names.lookup _ = _; rw [w.sc]; exact g1
  have gl2 : Gl X T.name := by show X.env.scope.names.lookup _ = _; rw [w.sc]; exact g3
  have pT : PE X (.Name T.name p2) (tC (.ty T.nm)) := pe_bltn gl2 (w.fo.ty T) (boot_ty T).1 rfl (boot_ty T).2 g4
  refine PE.imp (pe_callB call_isi gl w.fo.isi (by decide +kernel) (pa_cons h (pa_cons pT pa_nil) (star_plain hp)) (by decide) g2 (star_plain hp) rfl) fun σ H Q ⟨m, en, S, er, sr, q⟩ => ?_
  unfold evE at q
  refine tG_use er sr (post_bind q) fun x m1 S1 H1 v g er1 sr1 q1 rx => ?_
  exact isi_of sr1 rx q1
end
end NL

/-! list(reversed(x)), x a list. -/
namespace NL
open PySem PySem.Spec PyProof.Rows L2
section
variable {prog : Program} {w : World} {A : Around} {E : Value → Shared → Prop} {s : Shared}
theorem ext_rev {it l S : Addr} {items : Array Value} {res : Value} {c₀ : Nat} {R : Result → Shared → Prop} (hh : A.handled = none) (hit : s.heap.IsRevIter it l ((items.size : Int) - 1)) (hl : s.heap.IsList l items) (hne : l ≠ it) (hn : items.size ≤ sizeLine)
    (hSi : S ≠ it) (hSl : S ≠ l) (hS : s.heap.get? S = some { cls := .type "list", data := .seq #[] c₀ })
    (hR : ∀ h' tk acc' c', (∀ b o, b ≠ S → b ≠ it → s.heap.get? b = some o → h'.get? b = some o) → h'.get? S = some { cls := .type "list", dict := none, data := .seq acc' c', slots := #[] } → ItemsOf (fun i v => items[items.size - 1 - i]? = some v) acc' items.size → R (.ok (.ret res)) { s with heap := h', toks := tk }) :
    wpAny (model prog w) A.in1 (Builtin.List.listExtendWith (.ref S) (.ref it) res)
      (fun fin s' => match fin with | .done f => R (.ok f) s' | .again c' => c'.quiet = true ∧ codeAny (model prog w) A c' R s') (fun e s' => R (.error e) s') s := by
  have W := (Walks.listRev (prog := prog) (w := w) (A := A.in1) hh it l hne items).toS
  have hSf : S ∉ [it, l] := by simp only [List.mem_cons, List.not_mem_nil, or_false, not_or]; exact ⟨hSi, hSl⟩
  have hT : s.TypeIs (.ref it) "list_reverseiterator" := Heap.IsRevIter.typeIs hit
  have h1 : Builtin.List.listSameRef (.ref S) (.ref it) = false := by simp [Builtin.List.listSameRef, hSi]
  unfold Builtin.List.listExtendWith
  refine wpAny_bind (wpAny_typeOf hT ?_)
  rw [if_neg (by rw [h1]; decide)]
  refine wpAny_bind (wpAny_pyIter_revIter hit ?_)
  refine wpAny_bind (wpAny_holding ?_)
  unfold Builtin.List.listLengthHint
  refine wpAny_bind (wpAny_specialOf hT RT.nolen_lri ?_)
  show wpAny _ A.in1 (specialOf (Value.ref it) (Str.ofString "__length_hint__") >>= _) _ _ _
  refine wpAny_bind (wpAny_specialOf hT RT.hint_lri ?_)
  generalize hid : ("list_reverseiterator.__length_hint__" : String) = id0
  wp_delta
  rw [show splitId id0 = some ("list_reverseiterator", "__length_hint__") from by subst hid; decide +kernel]
  subst hid
  refine wpAny_bind (wpAny_isInstance (b := true) hT (by rw [isSubtype_type]; kernel_rfl) ?_)
  refine wpAny_pure ?_
  rw [if_neg (by decide)]
  have e0 : ((items.size : Nat) : Int) - 1 - ((0 : Nat) : Int) = (items.size : Int) - 1 := by omega
  refine wpAny_pure ⟨plainId_quiet F.plain_extend_loop _, codeAny_extend_loopS W hn _ hSf _ items.size 0 _ _ _ rfl (Nat.zero_le _) ⟨Nat.zero_le _, by rw [e0]; exact hit, hl⟩ hS (ItemsOf.nil _) fun s' acc' c' hm hS' hacc => ?_⟩
  rw [Moved.eq_with hm]
  refine hR s'.heap s'.toks acc' c' (fun b o hb hb2 e => hm.heap b o (fun hmem => ?_) e) hS' hacc
  rcases List.mem_cons.mp hmem with e' | hmem
  · exact hb e'
  · exact hb2 (List.mem_singleton.mp hmem)
theorem call_list_rev {it l : Addr} {items : Array Value} {Q : Value → Shared → Prop} (hh : A.handled = none) (hit : s.heap.IsRevIter it l ((items.size : Int) - 1)) (hl : s.heap.IsList l items) (hne : l ≠ it) (hn : items.size ≤ sizeLine)
    (hQ : ∀ h' tk acc' c', (∀ b o, b ≠ it → s.heap.get? b = some o → h'.get? b = some o) → h'.get? s.heap.objs.size = some { cls := .type "list", dict := none, data := .seq acc' c', slots := #[] } → ItemsOf (fun i v => items[items.size - 1 - i]? = some v) acc' items.size → Q (.ref s.heap.objs.size) { s with heap := h', toks := tk }) :
    wpAny (model prog w) A (call (.type "list") [.ref it]) Q E s := by
  refine callType_codes (Q₁ := fun obj s₁ => obj = .ref s.heap.objs.size ∧ s₁ = { s with heap := s.heap.push { cls := .type "list", data := .seq #[] } }) PySem.F.called_list (PySem.F.typeCall_list_1 _) PySem.F.entry_list_init
    (code_list_new _ ⟨rfl, rfl⟩) fun obj s₁ h₁ => ?_
  obtain ⟨rfl, rfl⟩ := h₁
  obtain ⟨oi, hoi, _⟩ := id hit
  obtain ⟨ol, hol, _⟩ := id hl
  have hSi : s.heap.objs.size ≠ it := Nat.ne_of_gt (Heap.lt_size hoi)
  have hSl : s.heap.objs.size ≠ l := Nat.ne_of_gt (Heap.lt_size hol)
  have hS : (s.heap.push { cls := .type "list", data := .seq #[] }).get? s.heap.objs.size = some { cls := .type "list", data := .seq #[] } := Heap.get?_push_size _ rfl
  refine ⟨⟨_, hS, rfl⟩, PySem.F.args_list_init_2 _ _, ?_⟩
  show wpAny _ _ (do let old ← Builtin.List.listItems (.ref s.heap.objs.size); Builtin.List.listUpdate (.ref s.heap.objs.size) (fun _ => #[]); letGo old.toList.reverse; Builtin.List.listExtendWith (.ref s.heap.objs.size) (.ref it) .none) _ _ _
  refine wpAny_bind ?_
  unfold Builtin.List.listItems
  refine wpAny_bind (wpAny_seqItems hS rfl (wpAny_pure ?_))
  show wpAny _ _ (updateSeq s.heap.objs.size (fun _ => #[]) >>= fun _ => letGo (#[] : Array Value).toList.reverse >>= fun _ => Builtin.List.listExtendWith (.ref s.heap.objs.size) (.ref it) .none) _ _ _
  refine wpAny_bind (wpAny_updateSeq hS rfl ?_)
  have hS₂ := Heap.get?_update_self (Obj.mapSeq (fun _ => (#[] : Array Value))) hS rfl
  have oth : ∀ b o, b ≠ s.heap.objs.size → s.heap.get? b = some o → ((s.heap.push { cls := .type "list", data := .seq #[] }).update s.heap.objs.size (Obj.mapSeq (fun _ => (#[] : Array Value)))).get? b = some o :=
    fun b o hb e => (Heap.get?_update_other _ _ (Ne.symm hb)).trans (Heap.get?_push_of_some _ e)
  refine wpAny_bind (wpAny_letGo ?_)
  refine ext_rev (A := A.in1) hh (hit.at fun o e => oth _ _ hSi.symm e) (hl.at fun o e => oth _ _ hSl.symm e) hne hn hSi hSl hS₂ (fun h' tk acc' c' hk hS' hacc => ?_)
  exact ⟨rfl, hQ h' tk acc' c' (fun b o hb e => hk b o (Nat.ne_of_lt (Heap.lt_size e)) hb (oth b o (Nat.ne_of_lt (Heap.lt_size e)) e)) hS' hacc⟩
end
def tLstRev (K : PySem.W.Frag) (te : TE) : TE := fun σ H Q => te σ H fun v H1 => ∃ (a : Addr) (xs : List V), v = .ref a ∧ SqL K H1 a xs ∧ ∀ q, H1 q = none → Q (.ref q) (upd H1 q (.lst xs.reverse))
theorem pe_listRev {X : Cx} {e : Expr} {te : TE} {p p2 pos pos2 : Pos} (hc : X.calm = true) (hg : Gl X "list") (hm : X.mg "list" = none) (hg2 : Gl X "reversed") (hm2 : X.mg "reversed" = none) (he : PE X e te)
    (hs : starEach [e] X.env = (false, eval e X.env) :: starEach [] X.env := by rfl)
    (hs2 : starEach [.Call (.Name "reversed" p2) [e] [] pos2] X.env = (false, eval (.Call (.Name "reversed" p2) [e] [] pos2) X.env) :: starEach [] X.env := by rfl) :
    PE X (.Call (.Name "list" p) [.Call (.Name "reversed" p2) [e] [] pos2] [] pos) (tLstRev X.K te) := by
  refine ⟨fun pins s σ H Q I h => ?_⟩
  refine Call_ (ld_blt I hg hm boot_list (PyProof.Rows.callWith_type1 (args_cons (Call_ (ld_blt I hg2 hm2 PyProof.Rows.boot_reversed (PyProof.Rows.callWith_type1 (args_cons (thn (he.run pins s σ H _ I h) fun u s1 ⟨v, H1, I1, r1, q1⟩ => args_nil ?_) hs) hs rfl))) hs2) hs2 rfl))
  obtain ⟨a, xs, ev, hq, q⟩ := q1
  subst ev
  obtain rfl : u = Value.ref a := r1
  obtain ⟨its, rv, p', hz⟩ := I1.list hq
  refine call_reversed_list p'.isList (args_nil ?_)
  have k0 : ∀ b o, s1.heap.get? b = some o → (s1.heap.push (revObj a ((its.toArray.size : Int) - 1))).get? b = some o := fun b o e => Heap.get?_push_of_some _ e
  have hl := p'.isList
  obtain ⟨ol, hol, _⟩ := id hl
  have hne : a ≠ s1.heap.objs.size := Nat.ne_of_lt (Heap.lt_size hol)
  have hn : its.toArray.size ≤ sizeLine := by rw [List.size_toArray, ← rv.length]; exact hz
  refine call_list_rev (s := { s1 with heap := s1.heap.push (revObj a ((its.toArray.size : Int) - 1)) }) (I1.ok.hd hc) ⟨_, Heap.get?_push_size _ rfl, rfl, rfl⟩ (hl.push _) hne hn fun h' tk acc c' hk hS hi => ?_
  have hk2 : ∀ b o, s1.heap.get? b = some o → h'.get? b = some o := fun b o e => hk b o (Nat.ne_of_lt (Heap.lt_size e)) (k0 b o e)
  refine ⟨.ref _, upd H1 _ (.lst xs.reverse), I1.laid (t' := tk) hk2 (Nat.le_trans (Nat.le_refl _) (by simp [Heap.push])) (show ObjOk X.prog X.w _ _ _ (.lst xs.reverse) from ⟨by rw [List.length_reverse]; exact hz, acc.toList, c', RT.vals_rev rv hi, ?_⟩), rfl, q _ (I1.hok.fresh (by simp [Heap.push]))⟩
  rw [Array.toArray_toList]
  exact hS
section
variable {X : Cx} {sc : Scope} {N : List Str} {C : Nat → List D → M D} {ft : FTab} {W : WX} {a : Expr} {a' : E} {pos : Pos}
theorem p_rev {p p2 pos2 : Pos} (w : XOk X sc N C ft W) (hg : isGl sc ("list" : Str) = true) (hg2 : isGl sc ("reversed" : Str) = true) (hp : plainE a = true) (h : PE X a (tE X.K X.mg W (evE C a'))) :
    PE X (.Call (.Name "list" p) [.Call (.Name "reversed" p2) [a] [] pos2] [] pos) (tE X.K X.mg W (evE C (.rev a'))) := by
  have gl : Gl X "list" := by show X.env.scope.names.lookup _ = _; rw [w.sc]; exact (isGl_some hg).1
  have gl2 : Gl X "reversed" := by show X.env.scope.names.lookup _ = _; rw [w.sc]; exact (isGl_some hg2).1
  refine PE.imp (pe_listRev w.calm gl (w.fo.blt .list) gl2 w.fo.rev h (star_plain hp)) fun σ H Q ⟨m, en, S, er, sr, q⟩ => ?_
  unfold evE at q
  refine tG_use er sr (post_bind q) fun d m1 S1 H1 v g er1 sr1 q1 rx => ?_
  cases rx <;> try exact (show False from q1).elim
  rename_i l ad ea
  obtain ⟨o, e0, q2⟩ := getL_bind (show post _ _ _ _ ((getL l >>= fun xs => alloc (.lst xs.reverse)) S1) _ from q1)
  obtain ⟨vs, sq, rs⟩ := sr1.sq_at e0 ea
  exact ⟨ad, vs, rfl, sq, post_alloc sr1 q2 rs.reverse⟩
end
end NL

/-! sorted(d.keys()). -/
namespace NL
open PySem PySem.Spec PyProof.Rows L2
theorem drv_keys {X : Cx} {s : Shared} (hh : X.A.handled = none) {r d : Addr} {es : Array DictEntry} {ep : Nat} {its : List Value} (hr : s.heap.objs.size = r + 1) (hv : PySem.W.KdlKeysView s.heap r d) (hd : s.heap.DictRaw d es ep) (hi : es.toList.map (·.key) = its) (hz : its.length ≤ sizeLine) :
    SortDrv X s its fun Q => wpAny (model X.prog X.w) X.A (call (.builtin "sorted") [.ref r]) Q X.xe s := by
  intro ltv Q O h1 h2
  refine Calls.call_function_entry kind_sorted plain_sorted entry_sorted (args_sorted1 _) ?_
  unfold Builtin.«sorted»
  refine wpAny_bind (m := checkCount "sorted" 1 1 _) (wpAny_pure ?_)
  have hs : es.size = its.length := by rw [← hi, List.length_map, Array.length_toList]
  refine wpAny_bind (PySem.W.kdu_collect (A := X.A.in1) (KdlSrc.rawKeys (es := es) (ep := ep)) hh ⟨hv, hd⟩ (by rw [hs]; exact hz) fun h' tk acc hk hacc => ?_)
  have e : acc.toList = its := by
    rw [← hi]
    apply List.ext_getElem?
    intro i
    rw [List.getElem?_map]
    by_cases hl : i < es.size
    · have h3 : i < acc.size := by rw [hacc.1]; exact hl
      obtain ⟨hx, e2⟩ := hacc.2 i acc[i] (Array.getElem?_eq_getElem h3)
      rw [Array.getElem?_toList, Array.getElem?_toList, Array.getElem?_eq_getElem h3, Array.getElem?_eq_getElem hl, e2]; rfl
    · rw [Array.getElem?_toList, Array.getElem?_toList, Array.getElem?_eq_none (by rw [hacc.1]; omega), Array.getElem?_eq_none (by omega)]; rfl
  rw [e]
  refine wpAny_bind (wpAny_newList ?_ hz)
  have hoL : (h'.push (seqObj "list" its.toArray 0)).get? h'.objs.size = some (seqObj "list" its.toArray 0) := Heap.get?_push_size _ rfl
  have keep : ∀ b o, s.heap.get? b = some o → b ≠ h'.objs.size ∧ (h'.push (seqObj "list" its.toArray 0)).get? b = some o := fun b o q =>
    ⟨Nat.ne_of_lt (Heap.lt_size (hk b o q)), Heap.get?_push_of_some _ (hk b o q)⟩
  refine wpAny_bind (wpAny_holding (wpAny_call_entry slot_list_sort ⟨_, hoL, rfl⟩ entry_list_sort (SrtO.list_sort_ord (s := { s with heap := h'.push (seqObj "list" its.toArray 0), toks := tk }) O hoL hz (fun hh2 => h1 hh2 _ _ _ hoL keep) fun out hs hb => ⟨_, rfl, ?_⟩) (args_list_sort _)))
  refine wpAny_pure ⟨_, rfl, h2 out _ tk _ hs hb (fun b o q => ?_) ?_ (sortedHeap_at hoL)⟩
  · have := keep b o q
    exact (sortedHeap_old this.1 (Heap.lt_size this.2)).trans this.2
  · obtain ⟨o, ho, _⟩ := hv
    have := Heap.lt_size (hk r o ho)
    refine get_none ?_
    show s.heap.objs.size ≤ h'.objs.size
    rw [hr]; exact this
def tSrk (X : Cx) (td : TE) : TE := fun σ H Q => td σ H fun x H1 => ∃ (d : Addr) (xs : List (NestedKey × Addr × Value)) (m : List Addr) (S : Store) (ks : List D) (fb : Bool), x = .ref d ∧ Rd H1 d (dctO d xs) ∧ SR X.K m S H1 ∧ OrdOk ks ∧ (∀ k ∈ ks, firstT k = some fb) ∧ Reps m H1 ks (xs.map fun x => V.ref x.2.1) ∧
  ∀ ys p, Reps m H1 (srt ltD ks) ys → H1 p = none → Q (.ref p) (upd H1 p (.lst ys))
theorem pe_srk {X : Cx} {e : Expr} {te : TE} {p pos apos cpos : Pos} (hc : X.calm = true) (hu : X.A.units + 60 < cLine) (hg : Gl X "sorted") (hm : X.mg "sorted" = none) (he : PE X e te) (hbase : attributeBase e "keys" X.env (eval e X.env) = eval e X.env := by rfl) (hline : (apos.endLine == cpos.line) = true := by rfl) 
    (hs : starEach [.Call (.Attribute e "keys" apos) [] [] cpos] X.env = (false, eval (.Call (.Attribute e "keys" apos) [] [] cpos) X.env) :: starEach [] X.env := by rfl) :
    PE X (.Call (.Name "sorted" p) [.Call (.Attribute e "keys" apos) [] [] cpos] [] pos) (tSrk X te) := by
  refine ⟨fun pins s σ H Q I h => ?_⟩
  refine PySem.wpAny_Call_Name_kw (ld_blt I hg hm (show bootBuiltins ("sorted" : Str) = some (.builtin "sorted") by decide +kernel) ?_)
  refine PyProof.Rows.callWith_builtin1 (args_cons ?_ hs) hs rfl
  refine wpAny_Call_method (T := "dict") (id := "dict.keys") hbase rfl hline F.plainAttrs_dict F.slot_dict_keys F.type_dict_keys (thn (he.run pins s σ H _ I h) fun u s1 ⟨x, H1, I1, rx, d, xs, m, S, ks, fb, ex, rd, sr, ok, hk, rk, q⟩ => ?_)
  subst ex
  obtain rfl : u = Value.ref d := rx
  obtain ⟨P', w', o, es, ep, g1, g2, g3, g4, g5, g6, g7, g8⟩ := DictX.of I1.hok rd
  have raw : s1.heap.DictRaw d es ep := ⟨o, g1, g2, g3⟩
  refine ⟨raw.typeIs, fun a ea => by cases ea; exact ⟨o, g1, g2.2.1⟩, ?_⟩
  have I2 : Inv X pins σ H1 { s1 with heap := s1.heap.push { cls := .type "dict_keys", data := .fields #[.ref d] } } := I1.kept (t' := s1.toks) fun b ob q => Heap.get?_push_of_some _ q
  show wpAny _ _ (callWith cpos (.builtin "dict.keys") [.ref d] [] []) _ X.xe s1
  refine method_meetsIn F.slot_dict_keys F.entry_dict_keys rfl (PySem.evalArgs_none ⟨rfl, raw.typeIs, F.args_dict_keys_1 _, _, meets_dict_keys_raw d g7, ⟨es, ep, raw⟩, ?_⟩)
  have rv : Vals (xs.map fun x => V.ref x.2.1) (es.toList.map (·.key)) := by
    rw [g4, List.map_map]
    clear g1 g2 g3 g4 g5 g6 g8 raw rd rk I2
    induction xs with
    | nil => exact .nil
    | cons x xs ih => exact .cons rfl ih
  refine args_nil ?_
  exact sort_drv I2 sr hu ok hk rk rv (by rw [← rv.length, List.length_map]; exact g8) (drv_keys (I2.ok.hd hc) (by simp [Heap.push]) ⟨_, Heap.get?_push_size _ rfl, rfl, rfl⟩ (raw.at fun o e => Heap.get?_push_of_some _ e) rfl (by rw [← rv.length, List.length_map]; exact g8)) q
end NL

namespace NL
open PySem PySem.Spec PyProof.Rows L2
/-! ### what is walked -/
def CkOk (ps : List (Nat × Ob)) (S : Store) : Prop := ∀ p ∈ ps, S[p.1]? = some p.2
def Gives (K : PySem.W.Frag) (m : List Addr) (H : Hp) (p : List D × List (Nat × Ob)) (J : L2.It) : Prop :=
  ∀ (i : Nat) (m' : List Addr) (S' : Store) (H' : Hp), Gr m m' H H' → SR K m' S' H' → CkOk p.2 S' → (i = p.1.length → J.stop i H') ∧
    ∀ d, p.1[i]? = some d → J.go i H' ∧ ∀ x H'', J.yld i H' x H'' → Gr m' m' H' H'' ∧ SR K m' S' H'' ∧ Rep m' H'' d x
def tI (K : PySem.W.Frag) (mg : Str → Option Value) (W : WX) (f : NL.Env → M (List D × List (Nat × Ob))) : TI := fun σ H R =>
  ∃ m en S, ER m H en σ ∧ SR K m S H ∧ post K (Wd mg W σ) m H (f en S) (fun p m' _ H' => ∀ J, Gives K m' H' p J → R J H')
theorem gives_tup {K : PySem.W.Frag} {m : List Addr} {H : Hp} {a : Addr} {xs : List D} {vs : List V} (ea : H a = some (.tup vs)) (ra : Reps m H xs vs) : Gives K m H (xs, []) (Itt K a) := by
  intro i m' S' H' g s _
  have ea' := g.tup _ _ ea
  have ra' := Reps.mono g _ _ ra
  refine ⟨fun h => ⟨vs, SqT.of ea', by rw [← ra.length, h]; exact Nat.le_refl _⟩, fun d hd => ?_⟩
  obtain ⟨v, h1, h2⟩ := ra'.get hd
  refine ⟨⟨vs, v, SqT.of ea', h1⟩, fun x H'' ⟨e, hy⟩ => ?_⟩
  subst e
  have := hy vs (SqT.of ea')
  rw [h1] at this
  cases this
  exact ⟨Gr.refl _ _, s, h2⟩
theorem gives_lst {K : PySem.W.Frag} {m : List Addr} {H : Hp} {a : Addr} {l : Nat} {o : Ob} (hq : o.sq = true) (ea : m[l]? = some a) : Gives K m H (items o, [(l, o)]) (Itl K a) := by
  intro i m' S' H' g s hc
  obtain ⟨vs, q, rs⟩ := s.sq_at (sqO_of (hc (l, o) List.mem_cons_self) hq) (g.pre _ _ ea)
  refine ⟨fun h => ⟨vs, q, by rw [← rs.length, h]; exact Nat.le_refl _⟩, fun d hd => ?_⟩
  obtain ⟨v, h1, h2⟩ := rs.get hd
  refine ⟨⟨vs, v, q, h1⟩, fun x H'' ⟨e, hy⟩ => ?_⟩
  subst e
  have := hy vs q
  rw [h1] at this
  cases this
  exact ⟨Gr.refl _ _, s, h2⟩
theorem gives_rng {K : PySem.W.Frag} {m : List Addr} {H : Hp} {lo : Int} {n : Nat} : Gives K m H ((List.range n).map fun k => D.int (lo + (k : Nat)), []) (Itr lo n) := by
  intro i m' S' H' g s _
  refine ⟨fun h => ?_, fun d hd => ?_⟩
  · show n ≤ i
    rw [h]; simp
  · rw [List.getElem?_map] at hd
    obtain ⟨j, hj, rfl⟩ := Option.map_eq_some_iff.mp hd
    obtain ⟨hlt, hj⟩ := List.getElem?_eq_some_iff.mp hj
    have hlt : i < n := by simpa using hlt
    have hj : i = j := by simpa using hj
    subst hj
    refine ⟨hlt, fun x H'' ⟨e, hy⟩ => ?_⟩
    subst e hy
    exact ⟨Gr.refl _ _, s, .int _⟩
theorem numD_len : ∀ (k : Nat) (xs : List D), (numD k xs).length = xs.length
  | _, [] => rfl
  | k, x :: xs => by rw [numD, List.length_cons, List.length_cons, numD_len]
theorem numD_get : ∀ {k i : Nat} {xs : List D} {d : D}, (numD k xs)[i]? = some d → ∃ x, xs[i]? = some x ∧ d = .tup [.int ((k + i : Nat) : Int), x]
  | k, i, [], d, h => by simp [numD] at h
  | k, 0, x :: xs, d, h => by
    rw [numD] at h
    cases h
    exact ⟨x, rfl, rfl⟩
  | k, i + 1, x :: xs, d, h => by
    rw [numD] at h
    obtain ⟨y, h1, h2⟩ := numD_get (k := k + 1) (i := i) (xs := xs) (by simpa using h)
    exact ⟨y, by simpa using h1, by rw [h2, show k + 1 + i = k + (i + 1) by omega]⟩
theorem zipD_len : ∀ (xs ys : List D), (zipD xs ys).length = min xs.length ys.length
  | [], _ => by simp [zipD]
  | _ :: _, [] => by simp [zipD]
  | x :: xs, y :: ys => by rw [zipD, List.length_cons, List.length_cons, List.length_cons, zipD_len]; omega
theorem zipD_get : ∀ {i : Nat} {xs ys : List D} {d : D}, (zipD xs ys)[i]? = some d → ∃ x y, xs[i]? = some x ∧ ys[i]? = some y ∧ d = .tup [x, y]
  | i, [], ys, d, h => by simp [zipD] at h
  | i, _ :: _, [], d, h => by simp [zipD] at h
  | 0, x :: xs, y :: ys, d, h => by
    rw [zipD] at h
    cases h
    exact ⟨x, y, rfl, rfl, rfl⟩
  | i + 1, x :: xs, y :: ys, d, h => by
    rw [zipD] at h
    obtain ⟨u, v, h1, h2, h3⟩ := zipD_get (i := i) (xs := xs) (ys := ys) (by simpa using h)
    exact ⟨u, v, by simpa using h1, by simpa using h2, h3⟩
theorem gives_enm {K : PySem.W.Frag} {m : List Addr} {H : Hp} {a : Addr} {l : Nat} {o : Ob} (hq : o.sq = true) (ea : m[l]? = some a) : Gives K m H (numD 0 (items o), [(l, o)]) (Ite K a) := by
  intro i m' S' H' g s hc
  obtain ⟨vs, q, rs⟩ := s.sq_at (sqO_of (hc (l, o) List.mem_cons_self) hq) (g.pre _ _ ea)
  refine ⟨fun h => ⟨vs, q, by rw [← rs.length, h, numD_len]; exact Nat.le_refl _⟩, fun d hd => ?_⟩
  obtain ⟨x, hx, rfl⟩ := numD_get hd
  obtain ⟨v, h1, h2⟩ := rs.get hx
  refine ⟨⟨vs, v, q, h1⟩, fun y H'' ⟨T, w, e, hT, hH, hy⟩ => ?_⟩
  subst e hH
  have := hy vs q
  rw [h1] at this
  cases this
  refine ⟨Gr.upd_new hT, s.new hT, .tup upd_same (.cons ?_ (.cons (Rep.mono (Gr.upd_new hT) _ _ h2) .nil))⟩
  rw [Nat.zero_add]
  exact .int _
theorem gives_zipL {K : PySem.W.Frag} {m : List Addr} {H : Hp} {a b : Addr} {l k : Nat} {o p : Ob} (hqo : o.sq = true) (hqp : p.sq = true) (ea : m[l]? = some a) (eb : m[k]? = some b) : Gives K m H (zipD (items o) (items p), [(l, o), (k, p)]) (Itz K a b) := by
  intro i m' S' H' g s hc
  obtain ⟨vs, q, rs⟩ := s.sq_at (sqO_of (hc (l, o) List.mem_cons_self) hqo) (g.pre _ _ ea)
  obtain ⟨ws, q2, rs2⟩ := s.sq_at (sqO_of (hc (k, p) (List.mem_cons_of_mem _ List.mem_cons_self)) hqp) (g.pre _ _ eb)
  refine ⟨fun h => ⟨vs, ws, q, q2, by have e1 := rs.length; have e2 := rs2.length; have e3 : i = min _ _ := h.trans (zipD_len ..); (try dsimp only at e1 e2); omega⟩, fun d hd => ?_⟩
  obtain ⟨x, y, hx, hy, rfl⟩ := zipD_get hd
  obtain ⟨v, h1, h2⟩ := rs.get hx
  obtain ⟨w, h3, h4⟩ := rs2.get hy
  refine ⟨⟨vs, ws, v, w, q, q2, h1, h3⟩, fun z H'' ⟨T, v', w', e, hT, hH, hv, hw⟩ => ?_⟩
  subst e hH
  have := hv vs q
  rw [h1] at this
  cases this
  have := hw ws q2
  rw [h3] at this
  cases this
  exact ⟨Gr.upd_new hT, s.new hT, .tup upd_same (.cons (Rep.mono (Gr.upd_new hT) _ _ h2) (.cons (Rep.mono (Gr.upd_new hT) _ _ h4) .nil))⟩
theorem gives_zipT {K : PySem.W.Frag} {m : List Addr} {H : Hp} {a b : Addr} {xs ys : List D} {vs ws : List V} (ea : H a = some (.tup vs)) (ra : Reps m H xs vs) (eb : H b = some (.tup ws)) (rb : Reps m H ys ws) : Gives K m H (zipD xs ys, []) (RZ.ItzT K a b) := by
  intro i m' S' H' g s _
  have q := SqT.of (K := K) (g.tup _ _ ea)
  have q2 := SqT.of (K := K) (g.tup _ _ eb)
  have rs := Reps.mono g _ _ ra
  have rs2 := Reps.mono g _ _ rb
  refine ⟨fun h => ⟨vs, ws, q, q2, by have e1 := rs.length; have e2 := rs2.length; have e3 : i = min _ _ := h.trans (zipD_len ..); (try dsimp only at e1 e2); omega⟩, fun d hd => ?_⟩
  obtain ⟨x, y, hx, hy, rfl⟩ := zipD_get hd
  obtain ⟨v, h1, h2⟩ := rs.get hx
  obtain ⟨w, h3, h4⟩ := rs2.get hy
  refine ⟨⟨vs, ws, v, w, q, q2, h1, h3⟩, fun z H'' ⟨T, v', w', e, hT, hH, hv, hw⟩ => ?_⟩
  subst e hH
  have := hv vs q
  rw [h1] at this
  cases this
  have := hw ws q2
  rw [h3] at this
  cases this
  exact ⟨Gr.upd_new hT, s.new hT, .tup upd_same (.cons (Rep.mono (Gr.upd_new hT) _ _ h2) (.cons (Rep.mono (Gr.upd_new hT) _ _ h4) .nil))⟩
section
variable {X : Cx} {sc : Scope} {N : List Str} {C : Nat → List D → M D} {ft : FTab} {W : WX} {a b c e tg : Expr} {a' b' c' e' : E} {pos : Pos}
theorem PI.imp {t t' : TI} (h : PI X tg e t) (k : ∀ σ H Q, t' σ H Q → t σ H Q) : PI X tg e t' := ⟨fun pins s σ H Q I q => h.run pins s σ H Q I (k σ H Q q)⟩
theorem iter_of {pins : List (Addr × Obj)} {σ : L2.St} {H1 : Hp} {s1 : Shared} {m1 : List Addr} {S1 : Store} {d : D} {v : V} {u : Value} {R : L2.It → Hp → Prop} (I1 : Inv X pins σ H1 s1) (r1 : RelV v u) (sr1 : SR X.K m1 S1 H1) (rx : Rep m1 H1 d v)
    (q1 : post X.K (Wd X.mg W σ) m1 H1 (iterD d S1) (fun p m' _ H' => ∀ J, Gives X.K m' H' p J → R J H')) : wpAny (model X.prog X.w) X.A (pyIter u) (PIE X pins σ tg R) X.xe s1 := by
  cases rx <;> try exact (show False from q1).elim
  · rename_i a xs vs ea ra
    cases r1
    have k := post_now sr1 q1 (Itt X.K a) (gives_tup ea ra)
    obtain ⟨its, rv, p, hz⟩ := I1.tuple (SqT.of ea)
    refine wpAny_pyIter_tuple (show s1.heap.IsTuple a its.toArray from p) ?_
    refine ⟨s1.heap.objs.size, [s1.heap.objs.size], _, _, H1, rfl, I1.kept (t' := s1.toks) fun b o e => Heap.get?_push_of_some _ e, turn_tuple a _, ⟨_, Heap.get?_push_size _ rfl, rfl, rfl⟩, fun b hb => ?_, k⟩
    rw [List.mem_singleton.mp hb]
    exact I1.fpOk (Nat.le_refl _) (I1.hok.fresh (Nat.le_refl _))
  · rename_i l a ea
    cases r1
    unfold iterD at q1
    cases e0 : sqO S1 l with
    | none => dsimp only at q1; rw [e0] at q1; exact q1.elim
    | some o =>
      dsimp only at q1
      rw [e0] at q1
      have k := post_now sr1 q1 (Itl X.K a) (gives_lst (sqO_some e0).2 ea)
      obtain ⟨vs, sq, rs⟩ := sr1.sq_at e0 ea
      obtain ⟨its, rv, p, hz⟩ := I1.list sq
      refine wpAny_pyIter_list p.isList ?_
      refine ⟨s1.heap.objs.size, [s1.heap.objs.size], _, _, H1, rfl, I1.kept (t' := s1.toks) fun b o e => Heap.get?_push_of_some _ e, turn_list a _, ⟨_, Heap.get?_push_size _ rfl, rfl, rfl⟩, fun b hb => ?_, k⟩
      rw [List.mem_singleton.mp hb]
      exact I1.fpOk (Nat.le_refl _) (I1.hok.fresh (Nat.le_refl _))
theorem i_val (h : PE X e (tE X.K X.mg W (evE C e'))) : PI X tg e (tI X.K X.mg W (evIt C (.val e'))) := by
  refine ⟨fun pins s σ H R I ⟨m, en, S, er, sr, q⟩ => ?_⟩
  unfold evIt at q
  refine thn (h.run pins s σ H (fun v H1 => ∃ d m1 S1, SR X.K m1 S1 H1 ∧ Rep m1 H1 d v ∧ post X.K (Wd X.mg W σ) m1 H1 (iterD d S1) (fun p m' _ H' => ∀ J, Gives X.K m' H' p J → R J H')) I
    (tG_use er sr (post_bind q) fun d m1 S1 H1 v g er1 sr1 q1 rx => ⟨d, m1, S1, sr1, rx, q1⟩)) fun u s1 ⟨v, H1, I1, r1, d, m1, S1, sr1, rx, q1⟩ => ?_
  exact iter_of I1 r1 sr1 rx q1
theorem gives_keys {K : PySem.W.Frag} {m : List Addr} {H : Hp} {a : Addr} {l : Nat} {kvs : List (D × D)} {o : Obj} {xs : List (NestedKey × Addr × Value)} (e : H a = some (.frz o (dctO a xs))) (dr : DR m H kvs xs) : Gives K m H (kvs.map Prod.fst, [(l, .dct true kvs)]) (Itkn a o xs) := by
  intro i m' S' H' g s hc
  have e' := g.frz _ _ _ e
  have dr' := dr.mono g
  refine ⟨fun h => ⟨e', by rw [← dr.len, h, List.length_map]; exact Nat.le_refl _⟩, fun d hd => ?_⟩
  rw [List.getElem?_map] at hd
  obtain ⟨p, hp, rfl⟩ := Option.map_eq_some_iff.mp hd
  obtain ⟨k, b, u, v, h1, h2, h3, h4⟩ := dr'.get hp
  refine ⟨⟨e', (List.getElem?_eq_some_iff.mp h1).1⟩, fun x H'' ⟨eH, k2, b2, u2, h5, ex⟩ => ?_⟩
  subst eH ex
  rw [h1] at h5
  cases h5
  exact ⟨Gr.refl _ _, s, h2⟩
theorem i_nam {i : Nat} (h : PE X e (tE X.K X.mg W (evE C (.var i)))) : PI X tg e (tI X.K X.mg W (evIt C (.nam i))) := by
  refine ⟨fun pins s σ H R I ⟨m, en, S, er, sr, q⟩ => ?_⟩
  unfold evIt at q
  have q : post X.K (Wd X.mg W σ) m H ((evE C (.var i) en >>= iterN) S) (fun p m' _ H' => ∀ J, Gives X.K m' H' p J → R J H') := by
    unfold evE; exact q
  refine thn (h.run pins s σ H (fun v H1 => ∃ d m1 S1, SR X.K m1 S1 H1 ∧ Rep m1 H1 d v ∧ post X.K (Wd X.mg W σ) m1 H1 (iterN d S1) (fun p m' _ H' => ∀ J, Gives X.K m' H' p J → R J H')) I
    (tG_use er sr (post_bind q) fun d m1 S1 H1 v g er1 sr1 q1 rx => ⟨d, m1, S1, sr1, rx, q1⟩)) fun u s1 ⟨v, H1, I1, r1, d, m1, S1, sr1, rx, q1⟩ => ?_
  cases d with
  | ref l =>
    unfold iterN at q1
    dsimp only at q1
    split at q1
    · rename_i kvs e0
      cases rx with
      | ref ea =>
        rename_i a
        cases r1
        obtain ⟨xs, dr, da⟩ := sr1.dct_at e0 ea
        unfold DictAt at da
        rw [if_pos rfl] at da
        obtain ⟨od, da⟩ := da
        exact pi_keysN I1 da (post_now sr1 q1 _ (gives_keys da dr))
    · exact iter_of I1 r1 sr1 rx q1
  | non => exact iter_of I1 r1 sr1 rx q1
  | bl b => exact iter_of I1 r1 sr1 rx q1
  | int b => exact iter_of I1 r1 sr1 rx q1
  | str b => exact iter_of I1 r1 sr1 rx q1
  | tup b => exact iter_of I1 r1 sr1 rx q1
theorem dr_vals {m : List Addr} {H : Hp} : ∀ {kvs : List (D × D)} {xs : List (NestedKey × Addr × Value)}, DR m H kvs xs → ∃ vs, Reps m H (kvs.map Prod.snd) vs ∧ ∀ (i : Nat) (k : NestedKey) (b : Addr) (u : Value), xs[i]? = some (k, b, u) → ∃ v, vs[i]? = some v ∧ RelV v u
  | _, _, .nil => ⟨[], .nil, fun i k b u h => by simp at h⟩
  | _, _, .cons a e b c r => by
    obtain ⟨vs, h1, h2⟩ := dr_vals r
    refine ⟨_ :: vs, .cons b h1, fun i k b u h => ?_⟩
    cases i with
    | zero => simp at h; obtain ⟨_, _, rfl⟩ := h; exact ⟨_, rfl, c⟩
    | succ i => exact h2 i k b u (by simpa using h)
theorem gives_items {K : PySem.W.Frag} {m : List Addr} {H : Hp} {a : Addr} {l : Nat} {kvs : List (D × D)} {o : Obj} {xs : List (NestedKey × Addr × Value)} {vs : List V} (e : H a = some (.frz o (dctO a xs))) (dr : DR m H kvs xs) (rv : Reps m H (kvs.map Prod.snd) vs) : Gives K m H (kvs.map fun p => .tup [p.1, p.2], [(l, .dct true kvs)]) (Itin a o xs vs) := by
  intro i m' S' H' g s hc
  have e' := g.frz _ _ _ e
  have dr' := dr.mono g
  have rv' := Reps.mono g _ _ rv
  refine ⟨fun h => ⟨e', by rw [← dr.len, h, List.length_map]; exact Nat.le_refl _⟩, fun d hd => ?_⟩
  rw [List.getElem?_map] at hd
  obtain ⟨p, hp, rfl⟩ := Option.map_eq_some_iff.mp hd
  obtain ⟨k, b, u, v, h1, h2, h3, h4⟩ := dr'.get hp
  refine ⟨⟨e', (List.getElem?_eq_some_iff.mp h1).1⟩, fun x H'' ⟨T, k2, b2, u2, v2, h5, h6, ex, hT, eH⟩ => ?_⟩
  subst eH ex
  rw [h1] at h5
  cases h5
  obtain ⟨v3, h7, h8⟩ := rv'.get (i := i) (d := p.2) (by rw [List.getElem?_map, hp]; rfl)
  rw [h6] at h7
  cases h7
  have gw : Gr m' m' H' (upd H' T (.tup [.ref b, v2])) := Gr.upd_new hT
  exact ⟨gw, s.new hT, .tup upd_same (.cons (Rep.mono gw _ _ h2) (.cons (Rep.mono gw _ _ h8) .nil))⟩
theorem rngD_some {K : PySem.W.Frag} {Ex : Str → Option Nat → List Addr → Store → Hp → Prop} {m : List Addr} {H : Hp} {S : Store} {x y : D} {α : Type} {f : List D → M α} {F : α → List Addr → Store → Hp → Prop} (h : post K Ex m H ((rngD x y >>= f) S) F) :
    ∃ i j, x = .int i ∧ y = .int j ∧ (-(2 ^ 62) ≤ i ∧ i < 2 ^ 62 ∧ -(2 ^ 62) ≤ j ∧ j < 2 ^ 62) ∧ post K Ex m H (f ((List.range (j - i).toNat).map fun k => .int (i + (k : Nat))) S) F := by
  cases x <;> cases y <;> try exact (show False from h).elim
  rename_i i j
  by_cases hc : -(2 ^ 62) ≤ i ∧ i < 2 ^ 62 ∧ -(2 ^ 62) ≤ j ∧ j < 2 ^ 62
  · refine ⟨i, j, rfl, rfl, hc, ?_⟩
    have e : rngD (.int i) (.int j) = pure ((List.range (j - i).toNat).map fun k => .int (i + (k : Nat))) := if_pos hc
    rw [e] at h
    exact h
  · have e : rngD (.int i) (.int j) = die := if_neg hc
    rw [e] at h
    exact (show False from h).elim
theorem i_rng1 {g : Str} {p : Pos} (w : XOk X sc N C ft W) (hg : isGl sc g = true) (hn : g = ("range" : Str)) (hp : plainE b = true) (hb : PE X b (tE X.K X.mg W (evE C b'))) : PI X tg (.Call (.Name g p) [b] [] pos) (tI X.K X.mg W (evIt C (.rng1 b'))) := by
  subst hn
  have gl : Gl X "range" := by show X.env.scope.names.lookup _ = _; rw [w.sc]; exact (isGl_some hg).1
  refine PI.imp (pi_range1 gl w.fo.rng (pa_cons hb pa_nil (star_plain hp)) (star_plain hp)) fun σ H R ⟨m, en, S, er, sr, q⟩ => ?_
  unfold evIt at q
  refine tG_use er sr (post_bind q) fun d m1 S1 H1 v g er1 sr1 q1 rx => ?_
  obtain ⟨i, j, ei, ej, ⟨_, _, h3, h4⟩, q2⟩ := rngD_some q1
  cases ei
  subst ej
  cases rx
  refine ⟨j, rfl, h3, h4, ?_⟩
  have z := post_now sr1 q2 (Itr 0 (j - 0).toNat) gives_rng
  rw [Int.sub_zero] at z
  exact z
theorem i_rng2 {g : Str} {p : Pos} (w : XOk X sc N C ft W) (hg : isGl sc g = true) (hn : g = ("range" : Str)) (hpa : plainE a = true) (hpb : plainE b = true) (ha : PE X a (tE X.K X.mg W (evE C a'))) (hb : PE X b (tE X.K X.mg W (evE C b'))) :
    PI X tg (.Call (.Name g p) [a, b] [] pos) (tI X.K X.mg W (evIt C (.rng2 a' b'))) := by
  subst hn
  have gl : Gl X "range" := by show X.env.scope.names.lookup _ = _; rw [w.sc]; exact (isGl_some hg).1
  refine PI.imp (pi_range2 gl w.fo.rng (pa_cons ha (pa_cons hb pa_nil (star_plain hpb)) (star_plain hpa)) (by rw [star_plain hpa, star_plain hpb]; rfl) (star_plain hpb)) fun σ H R ⟨m, en, S, er, sr, q⟩ => ?_
  unfold evIt at q
  refine tG_use er sr (post_bind q) fun d m1 S1 H1 v g er1 sr1 q1 rx => tG_use er1 sr1 (post_bind q1) fun d2 m2 S2 H2 v2 g2 er2 sr2 q2 rx2 => ?_
  obtain ⟨i, j, ei, ej, hc, q3⟩ := rngD_some q2
  subst ei
  subst ej
  cases rx
  cases rx2
  exact ⟨i, j, rfl, hc, post_now sr2 q3 _ gives_rng⟩
theorem i_enm {g : Str} {p tpos : Pos} {elts : List Expr} {kk : Nat} (w : XOk X sc N C ft W) (hg : isGl sc g = true) (hn : g = ("enumerate" : Str)) (hp : plainE b = true) (hb : PE X b (tE X.K X.mg W (evE C b'))) : PI X (.Tuple elts kk tpos) (.Call (.Name g p) [b] [] pos) (tI X.K X.mg W (evIt C (.enm b'))) := by
  subst hn
  have gl : Gl X "enumerate" := by show X.env.scope.names.lookup _ = _; rw [w.sc]; exact (isGl_some hg).1
  refine PI.imp (pi_enum gl w.fo.enm (pa_cons hb pa_nil (star_plain hp)) (star_plain hp)) fun σ H R ⟨m, en, S, er, sr, q⟩ => ?_
  unfold evIt at q
  refine tG_use er sr (post_bind q) fun d m1 S1 H1 v g er1 sr1 q1 rx => ?_
  cases rx <;> try exact (show False from q1).elim
  rename_i l a ea
  unfold enmM at q1
  cases e0 : sqO S1 l with
  | none => dsimp only at q1; rw [e0] at q1; exact q1.elim
  | some o =>
    dsimp only at q1
    rw [e0] at q1
    obtain ⟨vs, sq, rs⟩ := sr1.sq_at e0 ea
    exact ⟨a, vs, rfl, sq, post_now sr1 q1 (Ite X.K a) (gives_enm (sqO_some e0).2 ea)⟩
theorem i_zip {g : Str} {p tpos : Pos} {elts : List Expr} {kk : Nat} (w : XOk X sc N C ft W) (hg : isGl sc g = true) (hn : g = ("zip" : Str)) (hpa : plainE a = true) (hpb : plainE b = true) (ha : PE X a (tE X.K X.mg W (evE C a'))) (hb : PE X b (tE X.K X.mg W (evE C b'))) :
    PI X (.Tuple elts kk tpos) (.Call (.Name g p) [a, b] [] pos) (tI X.K X.mg W (evIt C (.zip a' b'))) := by
  subst hn
  have gl : Gl X "zip" := by show X.env.scope.names.lookup _ = _; rw [w.sc]; exact (isGl_some hg).1
  refine PI.imp (RZ.pi_zipA gl w.fo.zip (pa_cons ha (pa_cons hb pa_nil (star_plain hpb)) (star_plain hpa)) (star_plain hpa) (by rw [star_plain hpb]; rfl)) fun σ H R ⟨m, en, S, er, sr, q⟩ => ?_
  unfold evIt at q
  refine tG_use er sr (post_bind q) fun d m1 S1 H1 v g er1 sr1 q1 rx => tG_use er1 sr1 (post_bind q1) fun d2 m2 S2 H2 v2 g2 er2 sr2 q2 rx2 => ?_
  have rx := Rep.mono g2 _ _ rx
  cases rx <;> cases rx2 <;> try exact (show False from q2).elim
  · rename_i xs a vs ea ra ys b ws eb rb
    exact ⟨_, _, _, _, rfl, .inr ⟨SqT.of ea, SqT.of eb, post_now sr2 q2 _ (gives_zipT ea ra eb rb)⟩⟩
  · rename_i l a ea k b eb
    unfold zipM at q2
    cases e0 : sqO S2 l with
    | none => dsimp only at q2; rw [e0] at q2; exact q2.elim
    | some o =>
      cases e1 : sqO S2 k with
      | none => dsimp only at q2; rw [e0, e1] at q2; exact q2.elim
      | some o2 =>
        dsimp only at q2
        rw [e0, e1] at q2
        obtain ⟨vs, sq, rs⟩ := sr2.sq_at e0 ea
        obtain ⟨ws, sq2, rs2⟩ := sr2.sq_at e1 eb
        exact ⟨_, _, _, _, rfl, .inl ⟨sq, sq2, post_now sr2 q2 _ (gives_zipL (sqO_some e0).2 (sqO_some e1).2 ea eb)⟩⟩
theorem i_itm {i : Nat} {elts : List Expr} {kk : Nat} {tpos apos cpos p : Pos} {x : Str} (hl : (apos.endLine == cpos.line) = true) (h : PE X (.Name x p) (tE X.K X.mg W (evE C (.var i)))) :
    PI X (.Tuple elts kk tpos) (.Call (.Attribute (.Name x p) "items" apos) [] [] cpos) (tI X.K X.mg W (evIt C (.itm i))) := by
  refine PI.imp (pi_itemsN h rfl hl) fun σ H R ⟨m, en, S, er, sr, q⟩ => ?_
  unfold evIt at q
  have q : post X.K (Wd X.mg W σ) m H ((evE C (.var i) en >>= itmM) S) (fun p m' _ H' => ∀ J, Gives X.K m' H' p J → R J H') := by
    unfold evE; exact q
  refine tG_use er sr (post_bind q) fun d m1 S1 H1 v g er1 sr1 q1 rx => ?_
  cases d with
  | ref l =>
    unfold itmM at q1
    dsimp only at q1
    split at q1
    · rename_i kvs e0
      cases rx with
      | ref ea =>
        rename_i a
        obtain ⟨xs, dr, da⟩ := sr1.dct_at e0 ea
        unfold DictAt at da
        rw [if_pos rfl] at da
        obtain ⟨od, da⟩ := da
        obtain ⟨vs, rv, hv⟩ := dr_vals dr
        exact ⟨a, od, xs, vs, rfl, da, hv, post_now sr1 q1 _ (gives_items da dr rv)⟩
    · exact (show False from q1).elim
  | non => exact (show False from q1).elim
  | bl b => exact (show False from q1).elim
  | int b => exact (show False from q1).elim
  | str b => exact (show False from q1).elim
  | tup b => exact (show False from q1).elim
theorem i_of {f : Scope → Expr → Option E} {it : NL.It} (w : XOk X sc N C ft W) (h : comE.comIt tg f sc e = some it) (hp : ∀ e r, f sc e = some r → plainE e = true ∧ PE X e (tE X.K X.mg W (evE C r))) : PI X tg e (tI X.K X.mg W (evIt C it)) ∧ plainE e = true := by
  have dflt : (f sc e).map NL.It.val = some it → PI X tg e (tI X.K X.mg W (evIt C it)) ∧ plainE e = true := fun h => by
    obtain ⟨r, hr, rfl⟩ := Option.map_eq_some_iff.mp h
    obtain ⟨h1, h2⟩ := hp e r hr
    exact ⟨i_val h2, h1⟩
  unfold comE.comIt at h
  split at h
  · rename_i g p b pos
    split at h
    · rename_i hn
      split at h
      · rename_i hg
        obtain ⟨r, hr, rfl⟩ := Option.map_eq_some_iff.mp h
        obtain ⟨h1, h2⟩ := hp b r hr
        exact ⟨i_rng1 w hg hn h1 h2, rfl⟩
      · cases h
    · split at h
      · rename_i hn
        split at h
        · rename_i hg
          obtain ⟨r, hr, rfl⟩ := Option.map_eq_some_iff.mp h
          obtain ⟨h1, h2⟩ := hp b r hr
          obtain ⟨hg, ht⟩ := hg
          cases tg <;> first | (cases ht; done) | exact ⟨i_enm w hg hn h1 h2, rfl⟩
        · cases h
      · exact dflt h
  · rename_i g p a b pos
    split at h
    · rename_i hn
      split at h
      · rename_i hg
        cases e1 : f sc a with
        | none => rw [e1] at h; cases h
        | some a' =>
          cases e2 : f sc b with
          | none => rw [e1, e2] at h; cases h
          | some b' =>
            rw [e1, e2] at h
            cases h
            obtain ⟨h1, h2⟩ := hp a a' e1
            obtain ⟨h3, h4⟩ := hp b b' e2
            exact ⟨i_rng2 w hg hn h1 h3 h2 h4, rfl⟩
      · cases h
    · split at h
      · rename_i hn
        split at h
        · rename_i hg
          obtain ⟨hg, ht⟩ := hg
          cases e1 : f sc a with
          | none => rw [e1] at h; cases h
          | some a' =>
            cases e2 : f sc b with
            | none => rw [e1, e2] at h; cases h
            | some b' =>
              rw [e1, e2] at h
              cases h
              obtain ⟨h1, h2⟩ := hp a a' e1
              obtain ⟨h3, h4⟩ := hp b b' e2
              cases tg <;> first | (cases ht; done) | exact ⟨i_zip w hg hn h1 h3 h2 h4, rfl⟩
        · cases h
      · exact dflt h
  · rename_i x p
    split at h
    · rename_i j e1
      cases h
      obtain ⟨h1, h2⟩ := hp _ _ e1
      exact ⟨i_nam h2, h1⟩
    · cases h
  · rename_i x p g apos cpos
    split at h
    · rename_i hg
      obtain ⟨hg, hl, ht⟩ := hg
      subst hg
      split at h
      · rename_i j e1
        cases h
        obtain ⟨h1, h2⟩ := hp _ _ e1
        cases tg <;> first | (cases ht; done) | exact ⟨i_itm hl h2, rfl⟩
      · cases h
    · exact dflt h
  · exact dflt h
/-! ### targets -/
def setV (σ : L2.St) : List Nat → List V → L2.St
  | i :: is, v :: vs => setV (σ.set i (some v)) is vs
  | _, _ => σ
theorem wipe_set {σ : L2.St} {i : Nat} {v : Option V} : ∀ {vs : List Nat}, i ∈ vs → L2.wipe (σ.set i v) vs = L2.wipe σ vs
  | [], h => by cases h
  | j :: vs, h => by
    show (L2.wipe (σ.set i v) vs).set j none = (L2.wipe σ vs).set j none
    by_cases hm : i ∈ vs
    · rw [wipe_set hm]
    · have e : i = j := by
        rcases List.mem_cons.mp h with h | h
        · exact h
        · exact absurd h hm
      subst e
      have key : ∀ {vs : List Nat}, i ∉ vs → L2.wipe (σ.set i v) vs = (L2.wipe σ vs).set i v := fun {vs} => by
        induction vs with
        | nil => intro _; rfl
        | cons k vs ih =>
          intro hn
          show (L2.wipe (σ.set i v) vs).set k none = ((L2.wipe σ vs).set k none).set i v
          rw [ih fun z => hn (List.mem_cons_of_mem _ z)]
          exact List.set_comm _ _ fun z => hn (by rw [z]; exact List.mem_cons_self)
      rw [key hm, List.set_set]
theorem wipe_setV : ∀ {is : List Nat} {xs : List V} {σ : L2.St} {vs : List Nat}, (∀ i ∈ is, i ∈ vs) → L2.wipe (NL.setV σ is xs) vs = L2.wipe σ vs
  | [], _, _, _, _ => rfl
  | _ :: _, [], _, _, _ => rfl
  | i :: is, x :: xs, σ, vs, h => by
    show L2.wipe (NL.setV (σ.set i (some x)) is xs) vs = _
    rw [wipe_setV fun j hj => h j (List.mem_cons_of_mem _ hj), wipe_set (h i List.mem_cons_self)]
def tTg (K : PySem.W.Frag) (t : Tg) : TG := fun v σ H Q => ∃ Ex m en S d, ER m H en σ ∧ SR K m S H ∧ Rep m H d v ∧ post K Ex m H (bindT t d en S) (fun en' m' _ H' => ∀ σ', ER m' H' en' σ' → (∀ vs, (∀ i ∈ t.ixs, i ∈ vs) → L2.wipe σ' vs = L2.wipe σ vs) → Q σ' H')
theorem PG.imp {t t' : TG} (h : PG X tg t) (k : ∀ v σ H Q, t' v σ H Q → t v σ H Q) : PG X tg t' := ⟨fun pins s σ H v u Q I r q => h.run pins s σ H v u Q I r (k v σ H Q q)⟩
theorem PG.or {t t' : TG} (h : PG X tg t) (h' : PG X tg t') : PG X tg (fun v σ H Q => t v σ H Q ∨ t' v σ H Q) := ⟨fun pins s σ H v u Q I r q => q.elim (h.run pins s σ H v u Q I r) (h'.run pins s σ H v u Q I r)⟩
/-- where names may be stored -/
def Put (X : Cx) (f : Str → Option Nat) : Prop := ∀ x i, f x = some i → X.N[i]? = some x ∧ Loc X.env.scope x ∧ (X.fn x = true ∨ X.env.scope.names.lookup x = some .local)
theorem ER.setAll {m : List Addr} {H : Hp} : ∀ {is : List Nat} {ds : List D} {vs : List V} {en : NL.Env} {σ : L2.St}, ER m H en σ → Reps m H ds vs → ER m H (setAll en is ds) (setV σ is vs)
  | [], _, _, _, _, r, _ => r
  | _ :: _, [], _, _, _, r, h => by cases h; exact r
  | i :: is, d :: ds, _, en, σ, r, h => by
    cases h with
    | cons h1 h2 =>
      rename_i v vs
      exact ER.setAll (is := is) (ds := ds) (vs := vs) (en := en.set i (some d)) (σ := σ.set i (some v)) (r.set h1 i) h2
theorem names_pgs (nd : X.N.Nodup) {f : Str → Option Nat} (hf : Put X f) : ∀ {es : List Expr} {is : List Nat}, namesOf f es = some is → PGs X es (fun vs σ H Q => vs.length = is.length ∧ Q (setV σ is vs) H) ∧ (assignEach es X.env).length = is.length ∧ (assignEach es X.env).findIdx? (·.1) = none
  | [], _, h => by
    cases h
    refine ⟨⟨fun pins s σ H vs us Q I r ⟨hl, q⟩ => ?_⟩, rfl, rfl⟩
    have e : vs = [] := List.eq_nil_of_length_eq_zero hl
    subst e
    exact pgs_nil.run pins s σ H [] us Q I r ⟨rfl, q⟩
  | e :: es, is, h => by
    cases e <;> simp only [namesOf] at h <;> try cases h
    rename_i x p
    cases e1 : f x with
    | none => rw [e1] at h; cases h
    | some i =>
      cases e2 : namesOf f es with
      | none => rw [e1, e2] at h; cases h
      | some is' =>
        rw [e1, e2] at h
        cases h
        obtain ⟨h1, h2, h3⟩ := hf x i e1
        obtain ⟨k1, k2, k3⟩ := names_pgs nd hf e2
        refine ⟨⟨fun pins s σ H vs us Q I r ⟨hl, q⟩ => ?_⟩, by show _ + 1 = _; rw [k2]; rfl, ?_⟩
        · cases vs with
          | nil => cases hl
          | cons v vs => exact (pgs_cons (pg_name nd h1 h2 h3) k1 rfl).run pins s σ H (v :: vs) us Q I r ⟨v, vs, rfl, Nat.succ.inj hl, q⟩
        · show List.findIdx? (·.1) ((false, _) :: _) = none
          rw [List.findIdx?_cons]
          simp [k3]
theorem post_iteP {α : Type} {K : PySem.W.Frag} {Ex : Str → Option Nat → List Addr → Store → Hp → Prop} {m : List Addr} {H : Hp} {S : Store} {d : D} {n : Nat} {f : List D → M α} {F : α → List Addr → Store → Hp → Prop} (h : post K Ex m H ((unpD n d >>= f) S) F) :
    ∃ xs, xs.length = n ∧ post K Ex m H (f xs S) F ∧ (d = .tup xs ∨ ∃ l o, d = .ref l ∧ sqO S l = some o ∧ items o = xs) := by
  cases d <;> try exact (show False from h).elim
  · rename_i xs
    by_cases hc : xs.length = n
    · have e : unpD n (.tup xs) = pure xs := if_pos hc
      rw [e] at h
      exact ⟨xs, hc, h, .inl rfl⟩
    · have e : unpD n (.tup xs) = die := if_neg hc
      rw [e] at h
      exact (show False from h).elim
  · rename_i l
    have e : (unpD n (.ref l) >>= f) = getL l >>= fun xs => (if xs.length = n then pure xs else die) >>= f := bind_as _ _ _
    rw [e] at h
    obtain ⟨o, e0, h⟩ := getL_bind h
    by_cases hc : (items o).length = n
    · rw [if_pos hc] at h
      exact ⟨items o, hc, h, .inr ⟨l, o, rfl, e0, rfl⟩⟩
    · rw [if_neg hc] at h
      exact (show False from h).elim
theorem g_of (hc : X.calm = true) (nd : X.N.Nodup) {f : Str → Option Nat} (hf : Put X f) {t : Tg} (h : comTg f tg = some t) : PG X tg (tTg X.K t) := by
  cases tg <;> simp only [comTg] at h <;> try cases h
  · rename_i x p
    obtain ⟨i, hi, rfl⟩ := Option.map_eq_some_iff.mp h
    obtain ⟨h1, h2, h3⟩ := hf x i hi
    refine PG.imp (pg_name nd h1 h2 h3) fun v σ H Q ⟨Ex, m, en, S, d, er, sr, rd, q⟩ => ?_
    exact post_now sr (show post _ _ _ _ (R.ok (en.set i (some d)) S) _ from q) _ (er.set rd i) fun vs hv => wipe_set (hv i List.mem_cons_self)
  · rename_i es k p
    obtain ⟨is, hi, rfl⟩ := Option.map_eq_some_iff.mp h
    obtain ⟨k1, k2, k3⟩ := names_pgs nd hf hi
    refine PG.imp (PG.or (pg_tup hc k1 k2 k3) (pg_lst hc k1 k2 k3)) fun v σ H Q ⟨Ex, m, en, S, d, er, sr, rd, q⟩ => ?_
    obtain ⟨xs, hl, q2, hx⟩ := post_iteP (show post _ _ _ _ ((unpD is.length d >>= fun ds => pure (NL.setAll en is ds)) S) _ from q)
    have q3 := post_now sr (show post _ _ _ _ (R.ok (NL.setAll en is xs) S) _ from q2)
    rcases hx with rfl | ⟨l, o, rfl, e0, rfl⟩
    · cases rd with
      | tup ea ra => exact .inl ⟨_, _, rfl, SqT.of ea, by rw [← ra.length]; exact hl, by rw [← ra.length]; exact hl, q3 _ (er.setAll ra) fun vs hv => wipe_setV hv⟩
    · cases rd with
      | ref ea =>
        obtain ⟨vs, sq, rs⟩ := sr.sq_at e0 ea
        exact .inr ⟨_, vs, rfl, sq, by rw [← rs.length]; exact hl, by rw [← rs.length]; exact hl, q3 _ (er.setAll rs) fun vs hv => wipe_setV hv⟩
end
end NL

namespace NL
open PySem PySem.Spec PyProof.Rows L2
/-! ### comprehensions -/
theorem ok_bind {α β : Type} {m : M α} {f : α → M β} {S S2 : Store} {b : β} (h : (m >>= f) S = .ok b S2) : ∃ a S1, m S = .ok a S1 ∧ f a S1 = .ok b S2 := by
  rw [bind_eq] at h
  cases e : m S with
  | ok a S1 => rw [e] at h; exact ⟨a, S1, rfl, h⟩
  | exc c d S1 => rw [e] at h; cases h
  | stuck => rw [e] at h; cases h
theorem post_of {α : Type} {K : PySem.W.Frag} {Ex : Str → Option Nat → List Addr → Store → Hp → Prop} {m : List Addr} {H : Hp} {r : R α} {a : α} {S : Store} {F : α → List Addr → Store → Hp → Prop} (h : r = .ok a S) (k : ∀ m' H', Gr m m' H H' → SR K m' S H' → F a m' S H') : post K Ex m H r F := by
  rw [h]; exact k
theorem ckD_ok {p : List (Nat × Ob)} {S S' : Store} {u : Unit} (h : ckD p S = .ok u S') : CkOk p S ∧ S' = S := by
  simp only [ckD] at h
  split at h
  · rename_i e; cases h; exact ⟨e, rfl⟩
  · cases h
theorem bindT_same {t : Tg} {d : D} {en en1 : NL.Env} {S S1 : Store} (h : bindT t d en S = .ok en1 S1) : S1 = S := by
  cases t with
  | nm i => cases h; rfl
  | tp is =>
    obtain ⟨xs, S2, h1, h2⟩ := ok_bind (show (unpD is.length d >>= fun ds => pure (NL.setAll en is ds)) S = .ok en1 S1 from h)
    cases h2
    cases d <;> try cases h1
    · simp only [unpD] at h1
      split at h1
      · cases h1; rfl
      · cases h1
    · obtain ⟨ys, S3, h3, h4⟩ := ok_bind (show (getL _ >>= fun xs => if xs.length = is.length then pure xs else die) S = .ok xs S1 from h1)
      unfold getL at h3
      split at h3
      · cases h3
        split at h4
        · cases h4; rfl
        · cases h4
      · cases h3
theorem wipe_wipe {σ : L2.St} {vs : List Nat} : ∀ {ws : List Nat}, (∀ i ∈ ws, i ∈ vs) → L2.wipe (L2.wipe σ ws) vs = L2.wipe σ vs
  | [], _ => rfl
  | i :: ws, h => by
    show L2.wipe ((L2.wipe σ ws).set i none) vs = _
    rw [wipe_set (h i List.mem_cons_self), wipe_wipe fun j hj => h j (List.mem_cons_of_mem _ hj)]
theorem pushD_ok {l : Nat} {d : D} {S S' : Store} {u : Unit} (h : pushD l d S = .ok u S') : ∃ xs, S[l]? = some (.lst xs) ∧ xs.length < sizeLine ∧ S' = S.set l (.lst (xs ++ [d])) := by
  unfold pushD at h
  split at h
  · rename_i xs e
    split at h
    · rename_i hl; cases h; exact ⟨xs, e, hl, rfl⟩
    · cases h
  · cases h
/-! ### a dict is locked while something goes on -/
theorem lkOf_some {it : Option Nat} {en : NL.Env} {S : Store} {l : Nat} {kvs : List (D × D)} (h : lkOf it en S = some (l, kvs)) : S[l]? = some (.dct false kvs) := by
  unfold lkOf at h
  split at h
  · split at h
    · split at h
      · rename_i e; cases h; exact e
      · cases h
    · cases h
  · cases h
theorem lockM_none {α : Type} {ok : α → Bool} {it : Option Nat} {en : NL.Env} {m : M α} {S : Store} (h : lkOf it en S = none) : lockM ok it en m S = m S := by
  unfold lockM; rw [h]
theorem lockM_some {α : Type} {ok : α → Bool} {it : Option Nat} {en : NL.Env} {m : M α} {S : Store} {l : Nat} {kvs : List (D × D)} (h : lkOf it en S = some (l, kvs)) : lockM ok it en m S = (match m (S.set l (.dct true kvs)) with
    | .ok a S' => (match S'[l]? with
      | some (.dct true _) => if ok a = true then .ok a (S'.set l (.dct false kvs)) else .stuck
      | _ => .stuck)
    | _ => .stuck) := by
  have : lockM ok it en m S = (match (some (l, kvs) : Option (Nat × List (D × D))) with
    | some (l, kvs) => (match m (S.set l (.dct true kvs)) with
      | .ok a S' => (match S'[l]? with
        | some (.dct true _) => if ok a = true then .ok a (S'.set l (.dct false kvs)) else .stuck
        | _ => .stuck)
      | _ => .stuck)
    | none => m S) := by rw [← h]; rfl
  exact this
section
variable {K : PySem.W.Frag} {m m' : List Addr} {S S' : Store} {H H' : Hp} {l : Nat} {d : Addr} {kvs : List (D × D)} {xs : List (NestedKey × Addr × Value)}
theorem lock_tup {u : HO} (hd : H d = some (dctO d xs)) : ∀ a ys, H a = some (.tup ys) → upd H d u a = some (.tup ys) := fun a ys h => by
  rw [upd_ne (ne_of h hd (by intro z; cases z))]; exact h
theorem lock_in (sr : SR K m S H) (h : S[l]? = some (.dct false kvs)) (e : m[l]? = some d) : ∃ xs, DR m H kvs xs ∧ H d = some (dctO d xs) ∧ ∀ od, SR K m (S.set l (.dct true kvs)) (upd H d (.frz od (dctO d xs))) := by
  obtain ⟨xs, dr, da⟩ := sr.dct_at h e
  rw [dictAt_f] at da
  refine ⟨xs, dr, da, fun od => sr.writeG h rfl rfl e (fun vs z => by rw [da] at z; cases z) (fun q vs z => by rw [da] at z; cases z) ⟨xs, dr.keepT (lock_tup da), ?_⟩⟩
  unfold DictAt
  rw [if_pos rfl]
  exact ⟨od, upd_same⟩
theorem lock_gr {od : Obj} (hd : H d = some (dctO d xs)) (g : Gr m m' (upd H d (.frz od (dctO d xs))) H') : H' d = some (.frz od (dctO d xs)) ∧ Gr m m' H (upd H' d (dctO d xs)) := by
  have hf := g.frz d od _ upd_same
  refine ⟨hf, g.pre, fun a ys h => ?_, fun a o u h => ?_⟩
  · have h1 := g.tup a ys (lock_tup hd a ys h)
    rw [upd_ne (ne_of h1 hf (by intro z; cases z))]
    exact h1
  · have hne : a ≠ d := ne_of h hd (by intro z; cases z)
    have h1 : upd H d (.frz od (dctO d xs)) a = some (.frz o u) := by rw [upd_ne hne]; exact h
    rw [upd_ne hne]
    exact g.frz a o u h1
theorem lock_out {od : Obj} {kvs' : List (D × D)} (hd : H d = some (dctO d xs)) (dr : DR m H kvs xs) (g : Gr m m' (upd H d (.frz od (dctO d xs))) H') (s : SR K m' S' H') (h : S'[l]? = some (.dct true kvs')) (e : m[l]? = some d) :
    SR K m' (S'.set l (.dct false kvs)) (upd H' d (dctO d xs)) := by
  obtain ⟨hf, gr⟩ := lock_gr hd g
  exact s.writeG h rfl rfl (g.pre _ _ e) (fun vs z => by rw [hf] at z; cases z) (fun q vs z => by rw [hf] at z; cases z) ⟨xs, dr.mono gr, dictAt_f.mpr upd_same⟩
theorem unlock_rep {od : Obj} (hf : H' d = some (.frz od (dctO d xs))) : ∀ a ys, H' a = some (.tup ys) → upd H' d (dctO d xs) a = some (.tup ys) := fun a ys h => by
  rw [upd_ne (ne_of h hf (by intro z; cases z))]; exact h
theorem ER.keepT {en : NL.Env} {σ : L2.St} (g : ∀ a xs, H a = some (.tup xs) → H' a = some (.tup xs)) (r : ER m H en σ) : ER m H' en σ := ⟨r.len, fun i d h => by
  obtain ⟨v, h1, h2⟩ := r.get i d h
  exact ⟨v, h1, Rep.keepT g _ _ h2⟩⟩
end
theorem PE.or {X : Cx} {e : Expr} {t t' : TE} (h : PE X e t) (h' : PE X e t') : PE X e (fun σ H Q => t σ H Q ∨ t' σ H Q) := ⟨fun pins s σ H Q I q => q.elim (h.run pins s σ H Q I) (h'.run pins s σ H Q I)⟩
/-- what is read goes on behind a lock too -/
theorem p_lock {X : Cx} {W : WX} {e : Expr} {f : NL.Env → M D} {i : Option Nat} (h : PE X e (tE X.K X.mg W f)) : PE X e (tE X.K X.mg W fun en => lockM (fun _ => true) i en (f en)) := by
  refine PE.imp (PE.or h (pe_lock h)) fun σ H Q ⟨m, en, S, er, sr, q⟩ => ?_
  cases hl : lkOf i en S with
  | none => exact .inl ⟨m, en, S, er, sr, by
      have q : post X.K (Wd X.mg W σ) m H (lockM (fun _ => true) i en (f en) S) _ := q
      rw [lockM_none hl] at q
      exact q⟩
  | some p =>
    obtain ⟨l, kvs⟩ := p
    have h0 := lkOf_some hl
    obtain ⟨d, hd, _⟩ := sr.at_ h0
    obtain ⟨xs, dr, da, srl⟩ := lock_in sr h0 hd
    refine .inr ⟨d, _, da, trivial, fun od => ⟨m, en, _, er.keepT (lock_tup da), srl od, ?_⟩⟩
    have q : post X.K (Wd X.mg W σ) m H (lockM (fun _ => true) i en (f en) S) _ := q
    rw [lockM_some hl] at q
    cases hf : f en (S.set l (.dct true kvs)) with
    | exc _ _ _ => rw [hf] at q; exact q.elim
    | stuck => rw [hf] at q; exact q.elim
    | ok a S' =>
      rw [hf] at q
      dsimp only at q
      split at q
      · rename_i kvs' e1
        intro m' H' g s w rw_
        obtain ⟨hfz, gr⟩ := lock_gr da g
        refine ⟨hfz, post_gr q gr (lock_out da dr g s e1 hd) w (Rep.keepT (unlock_rep hfz) _ _ rw_)⟩
      · exact q.elim
section
variable {X : Cx} {sc : Scope} {N : List Str} {C : Nat → List D → M D} {ft : FTab} {W : WX} {tg iter elt : Expr} {c' e' : E} {pos : Pos}
noncomputable def compI (C : Nat → List D → M D) (own : List Nat) (tg : Tg) (it : NL.It) (c e : E) : NL.Env → M D := fun en => evIt C it en >>= fun p => fun S =>
    noX (cmpL (ckD p.2) (fun d => bindT tg d (wipeD en own)) (fun en' => evE C c en' >>= truD) (fun en' => evE C e en') S.length p.1 >>= fun _ => pure (.ref S.length)) (S ++ [.lst []])
theorem evE_comp {C : Nat → List D → M D} {own : List Nat} {tg : Tg} {it : NL.It} {c e : E} : evE C (.comp own tg it c e) = fun en => lockM (fun _ => true) it.lk en (compI C own tg it c e en) := by
  funext en
  unfold evE compI
  rfl
abbrev W0 : WX := fun _ _ _ _ => False
def CompOk (X : Cx) (W : WX) (f : NL.Env → M D) (tg iter : Expr) (ifs : List Expr) (elt : Expr) (scope : Scope) : Prop := ∃ (own : List (Str × Nat)) (wi : TI) (g : TG) (tt : TT) (te : TE), PI X tg iter wi ∧ BlkOk X.N X.env.scope scope own ∧
  (∀ (s : Shared) (H : Hp) (Ca : Addr) (cl : List (Str × Addr)) (fp : List Addr), PG (X.blk s H scope (compEnvC scope cl Ca X.env) fp) tg g) ∧ (∀ (s : Shared) (H : Hp) (Ca : Addr) (cl : List (Str × Addr)) (fp : List Addr), PTs (X.blk s H scope (compEnvC scope cl Ca X.env) fp) ifs tt) ∧
  (∀ (s : Shared) (H : Hp) (Ca : Addr) (cl : List (Str × Addr)) (fp : List Addr), PE (X.blk s H scope (compEnvC scope cl Ca X.env) fp) elt te) ∧ (∀ x, foldedSetIterable iter X.env x = pure x) ∧ ∀ σ H Q, tE X.K X.mg W f σ H Q → tLc wi g tt te (own.map (·.2)) σ H Q
theorem p_compC {scope : Scope} {own : List (Str × Nat)} {t : Tg} {it' : NL.It} {ifs : List Expr} (w : XOk X sc N C ft W) (hb : blkC N sc scope own = true) (hp : plainE iter = true) (hi : PI X tg iter (tI X.K X.mg W (evIt C it'))) (hix : ∀ i ∈ t.ixs, i ∈ own.map (·.2))
    (hg : ∀ (s : Shared) (H : Hp) (Ca : Addr) (cl : List (Str × Addr)) (fp : List Addr), PG (X.blk s H scope (compEnvC scope cl Ca X.env) fp) tg (tTg X.K t))
    (ht : ∀ (s : Shared) (H : Hp) (Ca : Addr) (cl : List (Str × Addr)) (fp : List Addr), PTs (X.blk s H scope (compEnvC scope cl Ca X.env) fp) ifs (tT X.K X.mg W0 fun en => evE C c' en >>= truD))
    (he : ∀ (s : Shared) (H : Hp) (Ca : Addr) (cl : List (Str × Addr)) (fp : List Addr), PE (X.blk s H scope (compEnvC scope cl Ca X.env) fp) elt (tE X.K X.mg W0 (evE C e'))) :
    CompOk X W (compI C (own.map (·.2)) t it' c' e') tg iter ifs elt scope := by
  refine ⟨own, _, _, _, _, hi, (blkOk_by (by rw [w.hN, w.sc]; exact hb)), hg, ht, he, (fun x => folded_plain hp), fun σ H Q ⟨m, en, S, er, sr, q⟩ => ?_⟩
  unfold compI at q
  refine ⟨m, en, S, er, sr, post_mono (post_bind q) fun p m1 S1 H1 g1 sr1 q1 J gv D hD => ?_⟩
  -- the block answers
  have er1 := er.mono g1
  have q2 : post X.K (Wd X.mg W σ) m1 H1 (noX (cmpL (ckD p.2) (fun d => bindT t d (wipeD en (own.map (·.2)))) (fun en' => evE C c' en' >>= truD) (fun en' => evE C e' en') S1.length p.1 >>= fun _ => pure (.ref S1.length)) (S1 ++ [.lst []])) (fun d m' _ H' => ∀ w, Rep m' H' d w → Q w H') := q1
  have g2 : Gr m1 (m1 ++ [D]) H1 (upd H1 D (.lst [])) := Gr.push_new hD
  have sr2 : SR X.K (m1 ++ [D]) (S1 ++ [.lst []]) (upd H1 D (.lst [])) := sr1.alloc hD .nil
  have hl2 : (m1 ++ [D])[S1.length]? = some D := by rw [← sr1.len]; simp
  unfold noX at q2
  cases er2 : (cmpL (ckD p.2) (fun d => bindT t d (wipeD en (own.map (·.2)))) (fun en' => evE C c' en' >>= truD) (fun en' => evE C e' en') S1.length p.1 >>= fun _ => (pure (.ref S1.length) : M NL.D)) (S1 ++ [.lst []]) with
  | exc _ _ _ => rw [er2] at q2; exact q2.elim
  | stuck => rw [er2] at q2; exact q2.elim
  | ok r Sf =>
    rw [er2] at q2
    obtain ⟨u, Sf', hrun, hret⟩ := ok_bind er2
    cases hret
    have fin : ∀ m' H', Gr m1 m' H1 H' → SR X.K m' Sf H' → m'[S1.length]? = some D → Q (.ref D) H' := fun m' H' g s e => q2 m' H' g s _ (.ref e)
    let Wi : Nat → Nat → Hp → Prop := fun i k Hh => ∃ mm Sh, Gr m1 mm H1 Hh ∧ SR X.K mm Sh Hh ∧ i ≤ p.1.length ∧ k = p.1.length - i ∧ mm[S1.length]? = some D ∧
      cmpL (ckD p.2) (fun d => bindT t d (wipeD en (own.map (·.2)))) (fun en' => evE C c' en' >>= truD) (fun en' => evE C e' en') S1.length (p.1.drop i) Sh = .ok () Sf
    refine ⟨Wi, ⟨_, m1 ++ [D], _, g2, sr2, Nat.zero_le _, rfl, hl2, hrun⟩, ?_⟩
    rintro i k Hh ⟨mm, Sh, gm, sm, hi1, rfl, hD1, hr⟩
    by_cases hlt : i < p.1.length
    · right
      have hx : p.1[i]? = some p.1[i] := List.getElem?_eq_getElem hlt
      rw [List.drop_eq_getElem_cons hlt] at hr
      unfold cmpL at hr
      obtain ⟨u1, Sa, k1, hr1⟩ := ok_bind hr
      obtain ⟨ck, e1⟩ := ckD_ok k1
      rw [e1] at hr1
      obtain ⟨en1, Sb, k2, hr2⟩ := ok_bind hr1
      rw [bindT_same k2] at hr2 k2
      obtain ⟨tb, Sc, k3, hr3⟩ := ok_bind hr2
      have gi := (gv i mm Sh Hh gm sm ck).2 _ hx
      refine ⟨gi.1, fun H' => ∃ k', Wi (i + 1) k' H' ∧ k' = p.1.length - (i + 1), fun H' ⟨k', hw, hk⟩ => ⟨k', by omega, hw⟩, fun x H' hy => ?_⟩
      obtain ⟨ga, sa, ra⟩ := gi.2 x H' hy
      refine ⟨E0x, mm, wipeD en (own.map (·.2)), Sh, _, (er1.mono (gm.trans ga)).wipe _, sa, ra, post_of k2 fun mb Hb gb sb σ2 erb hsame => ⟨(hsame _ hix).trans (wipe_wipe fun i hi => hi), ?_⟩⟩
      refine ⟨mb, en1, Sh, erb, sb, post_of k3 fun mc Hc gc sc' b eb => ?_⟩
      subst eb
      have gall : Gr m1 mc H1 Hc := gm.trans (ga.trans (gb.trans gc))
      cases b with
      | false =>
        rw [if_neg Bool.false_ne_true] at hr3 ⊢
        exact ⟨_, ⟨mc, Sc, gall, sc', hlt, rfl, (ga.trans (gb.trans gc)).pre _ _ hD1, hr3⟩, rfl⟩
      | true =>
        rw [if_pos rfl] at hr3 ⊢
        obtain ⟨d, Sd, k4, hr4⟩ := ok_bind hr3
        obtain ⟨u2, Se, k5, hr5⟩ := ok_bind hr4
        obtain ⟨xs, p1, p2, rfl⟩ := pushD_ok k5
        refine ⟨mc, en1, Sc, erb.mono gc, sc', post_of k4 fun md Hd gd sd y ry => ?_⟩
        have hDd := (ga.trans (gb.trans (gc.trans gd))).pre _ _ hD1
        obtain ⟨vs, hv, rs⟩ := sd.lst_at p1 hDd
        refine ⟨vs, hv, by rw [← rs.length]; exact p2, _, ⟨md, _, (gall.trans gd).trans (Gr.write hv), sd.write p1 hDd hv (rs.append (.cons ry .nil)), hlt, rfl, hDd, hr5⟩, rfl⟩
    · left
      have e : i = p.1.length := by omega
      subst e
      rw [List.drop_length] at hr
      unfold cmpL at hr
      obtain ⟨ck, e1⟩ := ckD_ok hr
      subst e1
      exact ⟨(gv _ mm _ Hh gm sm ck).1 rfl, fin mm Hh gm sm hD1⟩
theorem p_compE {scope : Scope} {ifs : List Expr} {f : NL.Env → M D} (w : XOk X sc N C ft W) (h : CompOk X W f tg iter ifs elt scope) : PE X (.ListComp elt [⟨tg, iter, ifs, 0⟩] scope pos) (tE X.K X.mg W f) := by
  obtain ⟨own, wi, g, tt, te, hi, hb, hg, ht, he, hs, k⟩ := h
  exact PE.imp (pe_lc w.calm (by rw [w.hN]; exact w.nd) hi hb hg ht he hs) k
end
end NL

namespace NL
open PySem PySem.Spec PyProof.Rows L2
/-! ### methods of a dict -/
def tBMN (r : V → List V → Hp → VK → Prop) (to : TE) (t : TA) : TE := fun σ H Q => to σ H fun x H1 => (∃ a xs, x = .ref a ∧ Rd H1 a (dctO a xs)) ∧ t σ H1 fun xs H2 => r x xs H2 Q
theorem pe_bmN {X : Cx} {o e : Expr} {es : List Expr} {to : TE} {t : TA} {name : Str} {apos cpos : Pos} {id : String} {r : V → List V → Hp → VK → Prop} (slot : Slot "dict" name id) (hty : typeOf (.builtin id) = pure (.type "method_descriptor")) (hm : MtR X id r) (ho : PE X o to) (ha : PA X (e :: es) t)
    (hbase : attributeBase o name X.env (eval o X.env) = eval o X.env)
    (hfew : ((backTo cpos (starEach (e :: es) X.env)).all (fun x => !x.1) && (backToKw cpos (keywordEach [] X.env)).all (fun x => x.1.isSome)
      && decide ((e :: es).length + ([] : List Keyword).length + (if ([] : List Keyword).isEmpty then 0 else 1) < 30)) = true)
    (hline : (apos.endLine == cpos.line) = true) (hs : starEach (e :: es) X.env = (false, eval e X.env) :: starEach es X.env) (hplain : (backTo cpos (starEach es X.env)).any (·.1) = false) :
    PE X (.Call (.Attribute o name apos) (e :: es) [] cpos) (tBMN r to t) := by
  refine ⟨fun pins s σ H Q I h => ?_⟩
  refine wpAny_Call_method_late hbase hfew hline rfl (thn (ho.run pins s σ H _ I h) fun v s1 ⟨x, H1, I1, r1, ⟨a, xs, ex, rd⟩, q1⟩ => ?_)
  subst ex
  obtain rfl : v = Value.ref a := r1
  obtain ⟨h1, h2⟩ := n_typeIs I1 rd
  refine ⟨"dict", id, PySem.F.plainAttrs_dict, slot, hty, h1, h2, ?_⟩
  have hA := ha.run cpos pins s1 σ H1 _ I1 q1
  rw [hs] at hA ⊢
  refine Calls.callWith_builtin (by show (false || (backTo cpos (starEach es X.env)).any (·.1)) = false; rw [hplain] <;> rfl) (Calls.evalArgs_plain ?_)
  exact thn hA fun us s2 ⟨vs, H2, I2, r2, q2⟩ => hm pins s2 σ H2 (.ref a) vs _ us Q I2 rfl r2 q2
section
variable {X : Cx} {sc : Scope} {N : List Str} {C : Nat → List D → M D} {ft : FTab} {W : WX} {k d : Expr} {k' d' : E}
theorem p_dnew {pos : Pos} : PE X (.Dict [] [] pos) (tE X.K X.mg W (evE C .dnew)) := by
  refine PE.imp pe_nnew fun σ H Q ⟨m, en, S, er, sr, q⟩ => ?_
  unfold evE at q
  intro p hp
  refine post_gr q (m' := m ++ [p]) (Gr.push_new hp) (sr.newD hp) _ (.ref ?_)
  rw [← sr.len]; simp
/-- {a: c} -/
def tDict1 (ta tc : TE) : TE := fun σ H Q => ∀ p, H p = none → ta σ (upd H p (dctO p [])) fun kv H1 => tc σ H1 fun vv H2 => ∃ (b : Addr) (kk : NestedKey), kv = .ref b ∧ H2 p = some (dctO p []) ∧ NKv H2 kk (.ref b) ∧ kk.depth ≤ 8 ∧ ∀ u, RelV vv u → Q (.ref p) (upd H2 p (dctO p [(kk, b, u)]))
theorem pe_dict1 {X : Cx} {a c : Expr} {ta tc : TE} {pos : Pos} (hu : X.A.units + 9 < cLine) (ha : PE X a ta) (hc : PE X c tc) : PE X (.Dict [some a] [c] pos) (tDict1 ta tc) := by
  refine ⟨fun pins s σ H Q I h => ?_⟩
  have I0 : Inv X pins σ (upd H s.heap.objs.size (dctO s.heap.objs.size [])) { s with heap := s.heap.push { cls := .type "dict", data := .dict #[] } } :=
    I.laid (a := s.heap.objs.size) (o := dctO s.heap.objs.size []) (t' := s.toks) (fun _ _ q => Heap.get?_push_of_some _ q) (Nat.le_refl _)
      (dictX_ok (DictX.back (P := X.prog) (w := X.w) (Heap.DictOfH.new s.heap) (fun x hx => nomatch hx) (beq_eq_false_iff_ne.mpr (Ne.symm (Nat.ne_of_lt I.big))) (Nat.zero_le _)))
  have hp := I.hok.fresh (Nat.le_refl s.heap.objs.size)
  have hx := h _ hp
  rw [arm_eval_Dict, show (evalEachOpt [some a] X.env).zip ((evalEach [c] X.env).map fun v => do let x ← v; standAt pos; pure x) = [((eval a X.env), (do let x ← eval c X.env; standAt pos; pure x : Sem Value))].map fun p => (some p.1, p.2) from rfl, dictDisplay_pairs _ (by simp) (by simp)]
  refine wpAny_bind (wpAny_standAt (wpAny_bind (wpAny_subDictH (knd := nestedKind X.prog X.w) (show X.A.units + 8 < cLine by omega) (by simp) (evalPairs_cons (thn (ha.run pins _ σ _ _ I0 hx) fun kv s1 ⟨ka, H1, I1, r1, q1⟩ => wpAny_bind (thn (hc.run pins s1 σ H1 _ I1 q1) fun vv s2 ⟨va, H2, I2, r2, q2⟩ => wpAny_bind (wpAny_standAt (wpAny_pure (evalPairs_nil ?_)))))))))
  obtain ⟨b, kk, rfl, e2, hk, hd, q⟩ := q2
  obtain rfl : kv = Value.ref b := r1
  have x := DictX.of I2.hok (.inl e2)
  have kis : (nestedKind X.prog X.w).is s2.heap kk b := ⟨hk.is I2.hok rfl, hd⟩
  refine ⟨[(kk, b, vv)], ⟨rfl, rfl, kis, trivial⟩, x.hh I2.hok (fun y hy => nomatch hy), fun h' tk hm hs => wpAny_pure ⟨.ref s.heap.objs.size, _, n_write (ys := [(kk, b, vv)]) I2 e2 hs (DictX.back hm (fun y hy => ?_) x.sys (by show 1 ≤ sizeLine; rw [sizeLine_eq]; omega)), rfl, q vv r2⟩⟩
  rw [List.mem_singleton.mp hy]
  exact hk.int_
theorem p_done {x y : Str} {px py pos : Pos} {i j : Nat} (w : XOk X sc N C ft W) (hx : visOf sc N x = some i) (hy : visOf sc N y = some j) : PE X (.Dict [some (.Name x px)] [.Name y py] pos) (tE X.K X.mg W (evE C (.done i j))) := by
  obtain ⟨x1, x2, x3, x4⟩ := visOf_some hx
  obtain ⟨y1, y2, y3, y4⟩ := visOf_some hy
  have px' : PE X (.Name x px) (tVar i) := pe_var (by rw [w.hN]; exact x1) (by rw [w.sc]; exact x2) x3 x4
  have py' : PE X (.Name y py) (tVar j) := pe_var (by rw [w.hN]; exact y1) (by rw [w.sc]; exact y2) y3 y4
  refine PE.imp (pe_dict1 (by have := w.hu; omega) px' py') fun σ H Q ⟨m, en, S, er, sr, q⟩ => ?_
  intro p hp
  unfold evE at q
  have va : ∀ {k : Nat} {f : D → M D}, post X.K (Wd X.mg W σ) m H ((varM en k >>= f) S) (fun a m' _ H' => ∀ b, Rep m' H' a b → Q b H') → ∃ d v, σ[k]? = some (some v) ∧ Rep m H d v ∧ post X.K (Wd X.mg W σ) m H (f d S) (fun a m' _ H' => ∀ b, Rep m' H' a b → Q b H') := fun {k f} h => by
    unfold varM at h
    split at h
    · rename_i d e
      obtain ⟨v, h1, h2⟩ := er.get k d e
      exact ⟨d, v, h1, h2, h⟩
    · exact h.elim
  obtain ⟨dx, vx, s1, r1, q1⟩ := va q
  obtain ⟨dy, vy, s2, r2, q2⟩ := va q1
  obtain ⟨kk, e3, q3⟩ := keyM_bind q2
  have g0 : Gr m m H (upd H p (dctO p [])) := Gr.upd_new hp
  obtain ⟨b, rfl, e5, e6⟩ := key_v e3 (Rep.mono g0 _ _ r1)
  refine ⟨_, s1, _, s2, b, kk, rfl, upd_same, e5, e6, fun u ru => ?_⟩
  have e7 : upd (upd H p (dctO p [])) p (dctO p [(kk, b, u)]) = upd H p (dctO p [(kk, b, u)]) := by
    funext a
    by_cases ha : a = p
    · rw [ha, upd_same, upd_same]
    · rw [upd_ne ha, upd_ne ha, upd_ne ha]
  rw [e7]
  have g1 : Gr m (m ++ [p]) H (upd H p (dctO p [(kk, b, u)])) := Gr.push_new hp
  have sr1 : SR X.K (m ++ [p]) (S ++ [.dct false [(dx, dy)]]) (upd H p (dctO p [(kk, b, u)])) := sr.allocG hp ⟨[(kk, b, u)], .cons (Rep.mono g1 _ _ r1) e3 (Rep.mono g1 _ _ r2) ru .nil, dictAt_f.mpr upd_same⟩
  refine post_gr (show post _ _ _ _ (R.ok (D.ref S.length) (S ++ [.dct false [(dx, dy)]])) _ from q3) g1 sr1 _ (.ref ?_)
  rw [← sr.len]; simp
theorem NAt.of {m : List Addr} {H : Hp} {S : Store} {K : PySem.W.Frag} (sr : SR K m S H) {l : Nat} {a : Addr} {lk : Bool} {kvs : List (D × D)} {y : D} {kk : NestedKey} {v : V} (h : S[l]? = some (.dct lk kvs)) (e : m[l]? = some a) (hk : keyD y = some kk) (ry : Rep m H y v) :
    ∃ b xs, v = .ref b ∧ DR m H kvs xs ∧ DictAt H a lk xs ∧ NAt H a b xs kk := by
  obtain ⟨xs, dr, da⟩ := sr.dct_at h e
  obtain ⟨b, rfl, h1, h2⟩ := key_v hk ry
  exact ⟨b, xs, rfl, dr, da, ⟨da.rd, dr.dv, h1, h2⟩⟩
theorem p_dget {x : Str} {p apos cpos : Pos} {i : Nat} (w : XOk X sc N C ft W) (hx : visOf sc N x = some i) (hl : (apos.endLine == cpos.line) = true) (hpk : plainE k = true) (hpd : plainE d = true) (hk : PE X k (tE X.K X.mg W (evE C k'))) (hd : PE X d (tE X.K X.mg W (evE C d'))) :
    PE X (.Call (.Attribute (.Name x p) "get" apos) [k, d] [] cpos) (tE X.K X.mg W (evE C (.dgt (.var i) k' d'))) := by
  have pv : PE X (.Name x p) (tE X.K X.mg W (evE C (.var i))) := p_var w hx
  refine PE.imp (pe_bmN PySem.F.slot_dict_get PySem.F.type_dict_get (mt_getN (by have := w.hu; omega)) pv (pa_cons hk (pa_cons hd pa_nil (star_plain hpd)) (star_plain hpk)) rfl (by rw [star_plain hpk, star_plain hpd]; rfl) hl (star_plain hpk) (by rw [star_plain hpd]; rfl)) fun σ H Q ⟨m, en, S, er, sr, q⟩ => ?_
  rw [evE] at q
  refine tG_use er sr (post_bind q) fun y m1 S1 H1 v g er1 sr1 q1 ry => ?_
  cases ry <;> try exact (show False from q1).elim
  rename_i l a ea
  have q1 : post X.K (Wd X.mg W σ) m1 H1 (((getN l >>= fun _ => (pure () : M Unit)) >>= fun _ => evE C k' en >>= fun q => evE C d' en >>= fun z => dgtM (.ref l) q z) S1) _ := q1
  rw [bind_as] at q1
  obtain ⟨lk, kvs, e1, q2⟩ := getN_bind q1
  obtain ⟨xs, dr, da⟩ := sr1.dct_at e1 ea
  refine ⟨⟨a, xs, rfl, da.rd⟩, tG_use er1 sr1 (post_bind (show post _ _ _ _ ((evE C k' en >>= fun q => evE C d' en >>= fun z => dgtM (.ref l) q z) S1) _ from q2)) fun yk m2 S2 H2 u g2 er2 sr2 q3 ru => tG_use er2 sr2 (post_bind q3) fun yd m3 S3 H3 t g3 er3 sr3 q4 rt => ?_⟩
  obtain ⟨lk2, kvs2, e2, q5⟩ := getN_bind (show post _ _ _ _ ((getN l >>= fun p => keyM yk >>= fun q => pure ((findK p.2 q).getD yd)) S3) _ from q4)
  obtain ⟨kk, e3, q6⟩ := keyM_bind q5
  have q7 := post_now sr3 (show post _ _ _ _ (R.ok ((findK kvs2 kk).getD yd) S3) _ from q6)
  obtain ⟨b, xs2, rfl, dr2, da2, n⟩ := NAt.of sr3 e2 (g3.pre _ _ (g2.pre _ _ ea)) e3 (Rep.mono g3 _ _ ru)
  refine ⟨a, b, xs2, kk, t, rfl, rfl, n, ?_⟩
  rcases dr2.find kk with ⟨z1, z2⟩ | ⟨dv, pp, w', z1, z2, z3, z4⟩
  · rw [z1] at q7
    exact .inr ⟨z2, q7 _ rt⟩
  · rw [z1] at q7
    exact .inl ⟨pp, w', z2, z4, q7 _ z3⟩
theorem isLs_bind {K : PySem.W.Frag} {Ex : Str → Option Nat → List Addr → Store → Hp → Prop} {m : List Addr} {H : Hp} {l : Nat} {α : Type} {f : Unit → M α} {S : Store} {F : α → List Addr → Store → Hp → Prop} (h : post K Ex m H ((isLs (.ref l) >>= f) S) F) : ∃ o, sqO S l = some o ∧ post K Ex m H (f () S) F := by
  rw [bind_eq] at h
  unfold isLs at h
  dsimp only at h
  cases e : sqO S l with
  | none => rw [e] at h; exact h.elim
  | some o => rw [e] at h; exact ⟨o, rfl, h⟩
/-- l.count(x) -/
def rCountD (K : PySem.W.Frag) : V → List V → Hp → VK → Prop := fun x xs H Q => ∃ (a : Addr) (y : V) (d : PyData) (ds : List PyData), x = V.ref a ∧ xs = [y] ∧ Dp K H (V.ref a) (.list ds) ∧ Dp K H y d ∧
  SeqAt.shaped (.list ds) = true ∧ SeqAt.shaped d = true ∧ Q (.int ((ds.countP fun z => PyData.eqv z d : Nat) : Int)) H
theorem mt_countD {X : Cx} (hu : X.A.units + 65 < cLine) : MtR X "list.count" (rCountD X.K) := by
  intro pins s σ H x xs v us Q I rx rxs h
  obtain ⟨a, y, d, ds, rfl, rfl, hl, hy, sl, sd, q⟩ := h
  cases rx
  cases rxs with
  | cons ry rt =>
    rename_i uy ut
    cases rt
    obtain ⟨bs, r1⟩ := Dp.reads I d y uy hy ry
    have hxs : PyData.canLayAll0 ds = true := SeqAt.canLay_of_shaped sl
    have hroom : X.A.units + 1 + min (PyData.depthAll ds) d.depth < cLine := room_in_shaped sd hu
    cases hl with
    | lst hs ha =>
      obtain ⟨its, rv, ⟨⟨cls, dd, data, sls⟩, n, ho, hc, hdn, hdt⟩, hlen⟩ := I.list hs
      simp only at hc hdt
      subst hc hdt
      obtain ⟨as, h4⟩ := Dp.readsAll I ds _ its ha rv
      have hmap : its.map (SeqAt.readOf s.heap) = ds := SeqAt.readsAll_map ds its as hxs h4
      refine call_meets PySem.F.slot_list_count ⟨_, ho, rfl⟩ PySem.F.entry_list_count (PySem.F.args_list_count_2 _ _)
        (SeqAt.list_countAt a its.toArray n dd sls uy (fun u => PyData.eqv (SeqAt.readOf s.heap u) d)) ⟨ho, SeqAt.items_eqAt (vs := its.toArray) (show ReadsAll s.heap its.toArray.toList ds as from h4) r1 hxs (SeqAt.canLay_of_shaped sd) hroom, ?_⟩
      have ec : its.toArray.toList.countP (fun u => PyData.eqv (SeqAt.readOf s.heap u) d) = ds.countP fun z => PyData.eqv z d := by
        rw [← hmap, List.countP_map]; rfl
      refine ⟨.int ((ds.countP fun z => PyData.eqv z d : Nat) : Int), H, I.tok _, ⟨s.toks, ?_⟩, q⟩
      show Value.int ((its.toArray.toList.countP (fun u => PyData.eqv (SeqAt.readOf s.heap u) d) : Nat) : Int) s.toks = _
      rw [ec]
theorem p_cnt {x : Str} {p apos cpos : Pos} {i : Nat} (w : XOk X sc N C ft W) (hx : visOf sc N x = some i) (hl : (apos.endLine == cpos.line) = true) (hpk : plainE k = true) (hk : PE X k (tE X.K X.mg W (evE C k'))) :
    PE X (.Call (.Attribute (.Name x p) "count" apos) [k] [] cpos) (tE X.K X.mg W (evE C (.cnt (.var i) k'))) := by
  have pv : PE X (.Name x p) (tE X.K X.mg W (evE C (.var i))) := p_var w hx
  refine PE.imp (pe_bm PySem.F.plainAttrs_list PySem.F.slot_list_count PySem.F.type_list_count (mt_countD (by have := w.hu; omega)) pv (pa_cons hk pa_nil (star_plain hpk)) rfl (by rw [star_plain hpk]; rfl) hl (star_plain hpk) rfl) fun σ H Q ⟨m, en, S, er, sr, q⟩ => ?_
  rw [evE] at q
  refine tG_use er sr (post_bind q) fun y m1 S1 H1 v g er1 sr1 q1 ry => ?_
  cases ry <;> try exact (show False from q1).elim
  rename_i l a ea
  obtain ⟨o, e0, q2⟩ := isLs_bind q1
  obtain ⟨vs, sq, rs⟩ := sr1.sq_at e0 ea
  refine ⟨.inl ⟨rfl, vs, sq⟩, tG_use er1 sr1 (post_bind q2) fun yk m2 S2 H2 u g2 er2 sr2 q3 ru => ?_⟩
  unfold cntM at q3
  dsimp only at q3
  cases e1 : sqO S2 l with
  | none => rw [e1] at q3; exact q3.elim
  | some o2 =>
    rw [e1] at q3
    dsimp only at q3
    cases e2 : pd S2 12 yk with
    | none => rw [e2] at q3; exact q3.elim
    | some d =>
      cases e3 : mapO (pd S2 12) (items o2) with
      | none => rw [e2, e3] at q3; exact q3.elim
      | some ds =>
        rw [e2, e3] at q3
        have q4 := post_now sr2 (show post _ _ _ _ (R.ok (D.int ((ds.countP fun q => PyData.eqv q d : Nat) : Int)) S2) _ from q3)
        obtain ⟨ws, sq2, rs2⟩ := sr2.sq_at e1 (g2.pre _ _ ea)
        exact ⟨a, u, d, ds, rfl, rfl, .lst sq2 (dpAll_of (dp_of sr2 12) rs2 e3), dp_of sr2 12 yk u d ru e2, list_shaped e3, pd_shaped e2 (by decide), q4 _ (.int _)⟩
theorem p_ndx {x : Str} {p apos cpos : Pos} {i : Nat} (w : XOk X sc N C ft W) (hx : visOf sc N x = some i) (hl : (apos.endLine == cpos.line) = true) (hpk : plainE k = true) (hk : PE X k (tE X.K X.mg W (evE C k'))) :
    PE X (.Call (.Attribute (.Name x p) "index" apos) [k] [] cpos) (tE X.K X.mg W (evE C (.ndx (.var i) k'))) := by
  have pv : PE X (.Name x p) (tE X.K X.mg W (evE C (.var i))) := p_var w hx
  refine PE.imp (pe_bm PySem.F.plainAttrs_list PySem.F.slot_list_index PySem.F.type_list_index (mt_indexD (by have := w.hu; omega)) pv (pa_cons hk pa_nil (star_plain hpk)) rfl (by rw [star_plain hpk]; rfl) hl (star_plain hpk) rfl) fun σ H Q ⟨m, en, S, er, sr, q⟩ => ?_
  rw [evE] at q
  refine tG_use er sr (post_bind q) fun y m1 S1 H1 v g er1 sr1 q1 ry => ?_
  cases ry <;> try exact (show False from q1).elim
  rename_i l a ea
  obtain ⟨o, e0, q2⟩ := isLs_bind q1
  obtain ⟨vs, sq, rs⟩ := sr1.sq_at e0 ea
  refine ⟨.inl ⟨rfl, vs, sq⟩, tG_use er1 sr1 (post_bind q2) fun yk m2 S2 H2 u g2 er2 sr2 q3 ru => ?_⟩
  unfold ndxM at q3
  dsimp only at q3
  cases e1 : sqO S2 l with
  | none => rw [e1] at q3; exact q3.elim
  | some o2 =>
    rw [e1] at q3
    dsimp only at q3
    cases e2 : pd S2 12 yk with
    | none => rw [e2] at q3; exact q3.elim
    | some d =>
      cases e3 : mapO (pd S2 12) (items o2) with
      | none => rw [e2, e3] at q3; exact q3.elim
      | some ds =>
        rw [e2, e3] at q3
        dsimp only at q3
        cases e4 : ds.findIdx? fun q => PyData.eqv q d with
        | none => rw [e4] at q3; exact q3.elim
        | some j =>
          rw [e4] at q3
          have q4 := post_now sr2 (show post _ _ _ _ (R.ok (D.int (j : Nat)) S2) _ from q3)
          obtain ⟨ws, sq2, rs2⟩ := sr2.sq_at e1 (g2.pre _ _ ea)
          obtain ⟨hj, z1, z2⟩ := List.findIdx?_eq_some_iff_getElem.mp e4
          exact ⟨a, u, d, ds, j, ds[j], rfl, rfl, .lst sq2 (dpAll_of (dp_of sr2 12) rs2 e3), dp_of sr2 12 yk u d ru e2, list_shaped e3, pd_shaped e2 (by decide), List.getElem?_eq_getElem hj, z1, fun m' z' hm hz => by
            obtain ⟨hm', hz'⟩ := List.getElem?_eq_some_iff.mp hz
            have := z2 m' hm
            rw [hz'] at this
            simpa using this, q4 _ (.int _)⟩
theorem p_srk {x : Str} {i : Nat} {p p2 pos apos cpos : Pos} (w : XOk X sc N C ft W) (hg : isGl sc ("sorted" : Str) = true) (hx : visOf sc N x = some i) (hl : (apos.endLine == cpos.line) = true) :
    PE X (.Call (.Name "sorted" p) [.Call (.Attribute (.Name x p2) "keys" apos) [] [] cpos] [] pos) (tE X.K X.mg W (evE C (.srk (.var i)))) := by
  have gl : Gl X "sorted" := by show X.env.scope.names.lookup _ = _; rw [w.sc]; exact (isGl_some hg).1
  have pv : PE X (.Name x p2) (tE X.K X.mg W (evE C (.var i))) := p_var w hx
  refine PE.imp (pe_srk w.calm (by have := w.hu; omega) gl (w.fo.blt .sorted) pv rfl hl rfl) fun σ H Q ⟨m, en, S, er, sr, q⟩ => ?_
  rw [evE] at q
  refine tG_use er sr (post_bind q) fun y m1 S1 H1 v g er1 sr1 q1 ry => ?_
  cases ry <;> try exact (show False from q1).elim
  rename_i l a ea
  obtain ⟨lk, kvs, e1, q2⟩ := getN_bind (show post _ _ _ _ ((getN l >>= fun p => match sortD (p.2.map Prod.fst) with | some ys => NL.alloc (.lst ys) | none => die) S1) _ from q1)
  obtain ⟨xs, dr, da⟩ := sr1.dct_at e1 ea
  cases e : sortD (kvs.map Prod.fst) with
  | none => rw [e] at q2; exact q2.elim
  | some ys =>
    rw [e] at q2
    obtain ⟨ok, rfl⟩ := sortD_some e
    have rk : Reps m1 H1 (kvs.map Prod.fst) (xs.map fun x => V.ref x.2.1) := by
      clear q2 e ok e1 da
      induction dr with
      | nil => exact .nil
      | cons h1 h2 h3 h4 h5 ih => exact .cons h1 ih
    have kind : ∃ fb, ∀ k ∈ kvs.map Prod.fst, firstT k = some fb := by
      rcases ok.kind with ⟨ns, hn⟩ | ⟨fb, hk⟩
      · refine ⟨true, fun k hk => ?_⟩
        exfalso
        rw [hn] at rk
        cases ns with
        | nil => rw [hn] at hk; cases hk
        | cons n ns =>
          cases xs with
          | nil => cases rk
          | cons x xs => cases rk with | cons r1 r2 => cases r1
      · exact ⟨fb, hk⟩
    obtain ⟨fb, hk⟩ := kind
    exact ⟨a, xs, m1, S1, _, fb, rfl, da.rd, sr1, ok, hk, rk, fun zs p hr hn' => post_alloc sr1 q2 hr p hn'⟩
/-- how many things a set has -/
def rLenT (P : Program) (w : World) : List V → Hp → VK → Prop := fun vs H Q => ∃ (a : Addr) (L : List (Addr × List Int)), vs = [V.ref a] ∧ H a = some (SetTO P w a L) ∧ ((L.map (·.2)).Nodup → Q (.int (L.length : Nat)) H)
theorem cr_lenT : CallR X (.builtin "len") (rLenT X.prog X.w) := by
  intro pins s σ H vs us Q I rv hq
  obtain ⟨a, L, rfl, hset, hq⟩ := hq
  obtain ⟨es, ep, t, ⟨o, o1, o2, o3⟩, rows, tab, nodup, _, _, room, few⟩ := (I.hok a _ hset).1.ex
  have len : es.size = L.length := by
    have := congrArg List.length rows
    unfold rowsOf at this
    simpa using this
  have fit : t.fits es.size = true := by
    have h1 := tab.sz
    have h2 := tab.dm
    rw [List.length_map] at h1
    unfold SetTable.fits SetTable.fill
    rw [h2, h1, len]
    simp
    omega
  rw [Vals.ref1 rv]
  exact call_len_set o1 o2 o3 fit (by rw [len]; omega) ⟨.int (L.length : Nat), H, I.tok _, ⟨_, by rw [len]⟩, hq nodup⟩
theorem intsD_back {m : List Addr} {H : Hp} : ∀ {xs : List D} {vs : List V} {ns : List Int}, Reps m H xs vs → intsD xs = some ns → vs = ns.map V.int
  | [], _, _, r, h => by cases r; unfold intsD at h; cases h; rfl
  | x :: xs, _, _, r, h => by
    cases r with
    | cons r1 r2 =>
      cases r1 <;> unfold intsD at h <;> try cases h
      obtain ⟨ns', h1, rfl⟩ := Option.map_eq_some_iff.mp h
      rw [intsD_back r2 h1]; rfl
theorem flats_back {K : PySem.W.Frag} {m : List Addr} {H : Hp} : ∀ {xs : List D} {vs : List V} {ks : List (List Int)}, Reps m H xs vs → mapO flatD xs = some ks → ∃ ps : List (Addr × List Int), vs = ps.map (fun p => V.ref p.1) ∧ ps.map (·.2) = ks ∧ ∀ p ∈ ps, SqT K H p.1 (p.2.map V.int)
  | [], _, _, r, h => by cases r; unfold mapO at h; cases h; exact ⟨[], rfl, rfl, by simp⟩
  | x :: xs, _, _, r, h => by
    cases r with
    | cons r1 r2 =>
      unfold mapO at h
      cases e1 : flatD x with
      | none => rw [e1] at h; cases h
      | some ns =>
        cases e2 : mapO flatD xs with
        | none => rw [e1, e2] at h; cases h
        | some ks' =>
          rw [e1, e2] at h
          cases h
          obtain ⟨ps, h1, h2, h3⟩ := flats_back (K := K) r2 e2
          cases r1 <;> unfold flatD at e1 <;> try cases e1
          rename_i a ds ws ea ra
          rw [intsD_back ra e1] at ea
          refine ⟨(a, ns) :: ps, by rw [h1]; rfl, by rw [List.map_cons, h2], fun p hp => ?_⟩
          rcases List.mem_cons.mp hp with rfl | hp
          · exact SqT.of ea
          · exact h3 p hp
theorem p_dst {a : Expr} {a' : E} {p p2 pos2 pos : Pos} (w : XOk X sc N C ft W) (hg : isGl sc ("len" : Str) = true) (hg2 : isGl sc ("set" : Str) = true) (hp : plainE a = true) (h : PE X a (tE X.K X.mg W (evE C a'))) :
    PE X (.Call (.Name "len" p) [.Call (.Name "set" p2) [a] [] pos2] [] pos) (tE X.K X.mg W (evE C (.dst a'))) := by
  have gl : Gl X "len" := by show X.env.scope.names.lookup _ = _; rw [w.sc]; exact (isGl_some hg).1
  have gl2 : Gl X "set" := by show X.env.scope.names.lookup _ = _; rw [w.sc]; exact (isGl_some hg2).1
  have hset : PE X (.Call (.Name "set" p2) [a] [] pos2) _ := pe_callTy (cr_setOfT w.calm (by have := w.hu; omega)) gl2 w.fo.st (by decide +kernel) (pa_cons h pa_nil (star_plain hp)) (by decide) (isGl_some hg2).2 (star_plain hp) rfl
  refine PE.imp (pe_callB cr_lenT gl (w.fo.blt .len) (by decide +kernel) (pa_cons hset pa_nil rfl) (by decide) (isGl_some hg).2 rfl rfl) fun σ H Q ⟨m, en, S, er, sr, q⟩ => ?_
  unfold evE at q
  refine tG_use er sr (post_bind q) fun d m1 S1 H1 v g er1 sr1 q1 rx => ?_
  cases rx <;> try exact (show False from q1).elim
  rename_i l ad ea
  obtain ⟨o, e0, q2⟩ := getL_bind (show post _ _ _ _ ((getL l >>= fun xs => match mapO flatD xs with
    | some ks => if ks.length < 64 then (pure (D.int ((dd ks).length : Nat)) : M D) else die
    | none => die) S1) _ from q1)
  obtain ⟨vs, sq, rs⟩ := sr1.sq_at e0 ea
  cases e1 : mapO flatD (items o) with
  | none => rw [e1] at q2; exact q2.elim
  | some ks =>
    rw [e1] at q2
    obtain ⟨hlt, q3⟩ := post_ite q2
    obtain ⟨ps, h1, h2, h3⟩ := flats_back (K := X.K) rs e1
    subst h1 h2
    rw [List.length_map] at hlt
    refine ⟨ad, ps, rfl, sq, h3, hlt, fun b L hb s1 s2 => ⟨b, L, rfl, upd_same, fun nd => ?_⟩⟩
    have e : L.length = (dd (ps.map (·.2))).length := by
      rw [← List.length_map (f := fun p : Addr × List Int => p.2)]
      refine Nat.le_antisymm (sub_len nd fun k hk => ?_) (sub_len (dd_nodup _) fun k hk => ?_)
      · obtain ⟨p, hp, rfl⟩ := List.mem_map.mp hk
        exact dd_mem.mpr (List.mem_map.mpr ⟨p, s1 p hp, rfl⟩)
      · obtain ⟨p, hp, rfl⟩ := List.mem_map.mp (dd_mem.mp hk)
        exact s2 p hp
    rw [e]
    exact post_gr (show post _ _ _ _ (R.ok (D.int ((dd (ps.map (·.2))).length : Nat)) S1) _ from q3) (Gr.upd_new hb) (sr1.new hb) _ (.int _)
end
section
variable {N : List Str} {C : Nat → List D → M D} {ft : FTab}
theorem FOk.blk {X : Cx} (h : FOk X C ft) (s : Shared) (H : Hp) (scope : Scope) (ce : PySem.Env) (fp : List Addr) : FOk (X.blk s H scope ce fp) C ft := ⟨h.exc, h.own, h.blt, h.isi, h.rng, h.enm, h.zip, h.rev, h.st, h.ty⟩
theorem XOk.blk {X : Cx} {sc : Scope} {W : WX} (w : XOk X sc N C ft W) (s : Shared) (H : Hp) (scope : Scope) (cl : List (Str × Addr)) (Ca : Addr) (fp : List Addr) : XOk (X.blk s H scope (compEnvC scope cl Ca X.env) fp) (relS scope sc) N C ft W0 :=
  ⟨w.hN, by rw [← w.sc]; rfl, w.nd, w.calm, w.hu, w.fo.blk s H scope _ fp, takes0⟩
theorem put_blk {X : Cx} {sc : Scope} {W : WX} (w : XOk X sc N C ft W) (s : Shared) (H : Hp) (scope : Scope) (cl : List (Str × Addr)) (Ca : Addr) (fp : List Addr) : Put (X.blk s H scope (compEnvC scope cl Ca X.env) fp) (locOf scope N) := fun x i h => by
  obtain ⟨h1, h2⟩ := locOf_some h
  have e : (X.blk s H scope (compEnvC scope cl Ca X.env) fp).env.scope = relS scope X.env.scope := rfl
  refine ⟨by rw [← w.hN] at h1; exact h1, ?_, ?_⟩
  · rw [e]
    rcases h2 with h2 | h2
    · exact .inl (lookup_relS_keep (by decide) h2)
    · exact .inr (lookup_relS_keep (by decide) h2)
  · rcases h2 with h2 | h2
    · exact .inr (by rw [e]; exact lookup_relS_keep (by decide) h2)
    · exact .inl (by show (scope.names.lookup x == some .cell) = true; rw [h2]; rfl)
def valE : Expr → Bool
  | .Dict .. | .Constant .. | .Name .. | .BinOp .. | .Tuple .. | .List .. | .Subscript .. | .Call .. | .ListComp .. => true
  | .UnaryOp .USub .. => true
  | _ => false
theorem val_plain {e : Expr} (h : valE e = true) (env : PySem.Env) : ∀ whole, isTrue e env whole = (do let v ← whole; standAt e.pos; holding [v] (truthy v)) := by
  intro whole
  cases e <;> first | rfl | (rename_i o a p; cases o <;> first | rfl | exact absurd h Bool.false_ne_true) | exact absurd h Bool.false_ne_true
abbrev Both (X : Cx) (C : Nat → List D → M D) (W : WX) (e : Expr) (e' : E) : Prop := PE X e (tE X.K X.mg W (evE C e')) ∧ PT X e (tT X.K X.mg W fun en => evE C e' en >>= truD)
theorem both_val {X : Cx} {W : WX} {e : Expr} {e' : E} (hp : PE X e (tE X.K X.mg W (evE C e'))) (h : valE e = true) : Both X C W e e' := ⟨hp, p_valT hp (val_plain h X.env)⟩
theorem comE_ok : ∀ (n : Nat) (X : Cx) (sc : Scope) (W : WX) (e : Expr) (e' : E), XOk X sc N C ft W → comE ft N n sc e = some e' → Both X C W e e' := by
  intro n
  induction n with
  | zero => intro X sc W e e' w h; unfold comE at h; cases h
  | succ n ih =>
    intro X sc W e e' w h
    have hpl := comE_plain h
    have many : ∀ {es : List Expr} {r : Es}, comL (comE ft N n sc) es = some r → PA X es (tA X.K X.mg W (evEs C r)) := fun {es r} hc => p_list hc fun x _ r hr => ⟨comE_plain hr, (ih X sc W x r w hr).1⟩
    cases e with
    | Constant c k pos =>
      simp only [comE] at h
      obtain ⟨d, hd, rfl⟩ := Option.map_eq_some_iff.mp h
      exact both_val (p_con hd) rfl
    | Name x pos =>
      simp only [comE] at h
      obtain ⟨i, hi, rfl⟩ := Option.map_eq_some_iff.mp h
      exact both_val (p_var w hi) rfl
    | BinOp a o b pos =>
      simp only [comE] at h
      split at h
      · rename_i o' a' b' e1 e2 e3
        cases h
        exact both_val (p_bin e1 (ih X sc W a a' w e2).1 (ih X sc W b b' w e3).1) rfl
      · cases h
    | UnaryOp o a pos =>
      cases o <;> simp only [comE] at h <;> try cases h
      · obtain ⟨a', ha, rfl⟩ := Option.map_eq_some_iff.mp h
        obtain ⟨k1, k2⟩ := ih X sc W a a' w ha
        exact ⟨p_not k2 k1, p_notT k2⟩
      · obtain ⟨a', ha, rfl⟩ := Option.map_eq_some_iff.mp h
        exact both_val (p_neg (ih X sc W a a' w ha).1) rfl
    | Compare a os bs pos =>
      rcases os with _ | ⟨o, _ | ⟨o2, _ | ⟨o3, os⟩⟩⟩ <;> rcases bs with _ | ⟨b, _ | ⟨b2, _ | ⟨b3, bs⟩⟩⟩ <;> simp only [comE] at h <;> try cases h
      · split at h
        · rename_i a' b' e1 e2
          cases h
          have k1 := (ih X sc W a a' w e1).1
          have k2 := (ih X sc W b b' w e2).1
          exact ⟨p_cmp w (comE_plain e2) k1 k2, p_cmpT w (comE_plain e2) k1 k2⟩
        · cases h
      · split at h
        · rename_i a' b' c' e1 e2 e3
          cases h
          have k1 := (ih X sc W a a' w e1).1
          have k2 := (ih X sc W b b' w e2).1
          have k3 := (ih X sc W b2 c' w e3).1
          exact ⟨p_chn w (comE_plain e3) k1 k2 k3, p_chnT w (comE_plain e3) k1 k2 k3⟩
        · cases h
    | BoolOp o es pos =>
      simp only [comE] at h
      exact ⟨p_boolE h fun x _ r hr => (ih X sc W x r w hr).1, (p_boolW h fun x _ r hr => (ih X sc W x r w hr).2).pt⟩
    | IfExp c a b pos =>
      simp only [comE] at h
      split at h
      · rename_i c' a' b' e1 e2 e3
        cases h
        obtain ⟨c1, c2⟩ := ih X sc W c c' w e1
        obtain ⟨a1, a2⟩ := ih X sc W a a' w e2
        obtain ⟨b1, b2⟩ := ih X sc W b b' w e3
        exact ⟨p_ite c2 a1 b1, p_iteT c2 a2 b2⟩
      · cases h
    | Tuple es k pos =>
      simp only [comE] at h
      obtain ⟨r, hr, rfl⟩ := Option.map_eq_some_iff.mp h
      exact both_val (p_tup (many hr)) rfl
    | List es pos =>
      simp only [comE] at h
      obtain ⟨r, hr, rfl⟩ := Option.map_eq_some_iff.mp h
      exact both_val (p_lst (many hr)) rfl
    | Subscript a i pos =>
      have idx : (if isSlice i = true then none else match comE ft N n sc a, comE ft N n sc i with
          | some a, some i => some (E.idx a i)
          | _, _ => none) = some e' → Both X C W (.Subscript a i pos) e' := fun h => by
        split at h
        · cases h
        · rename_i hs
          split at h
          · rename_i a' i' e1 e2
            cases h
            exact both_val (p_idx w.hu (by simpa using hs) (ih X sc W a a' w e1).1 (ih X sc W i i' w e2).1) rfl
          · cases h
      cases i with
      | Slice lo hi st p2 =>
        cases st with
        | none =>
          simp only [comE] at h
          split at h
          · rename_i a' l' h' e1 e2 e3
            cases h
            exact both_val (p_slc (ih X sc W a a' w e1).1 e2 e3 (fun x _ r hr => (ih X sc W x r w hr).1) (fun x _ r hr => (ih X sc W x r w hr).1)) rfl
          · cases h
        | some st => simp only [comE] at h; exact idx h
      | _ => simp only [comE] at h; exact idx h
    | Dict ks vs pos =>
      unfold comE at h
      split at h <;> try (exfalso; cases ‹Expr.Dict ks vs pos = _›; done)
      · have hs := ‹Expr.Dict ks vs pos = _›
        injection hs with h1 h2 h3
        subst h1 h2 h3
        cases h
        exact both_val p_dnew rfl
      · have hs := ‹Expr.Dict ks vs pos = _›
        injection hs with h1 h2 h3
        subst h1 h2 h3
        split at h
        · rename_i i j e1 e2
          cases h
          exact both_val (p_done w e1 e2) rfl
        · cases h
      · cases h
    | Call f es kw pos =>
      have hkw : kw = [] := by
        cases kw with
        | nil => rfl
        | cons k kw =>
          exfalso
          cases f <;> first
            | (simp only [comE] at h; cases h; done)
            | skip
      subst hkw
      cases f with
      | Attribute o g apos =>
        rcases es with _ | ⟨k, _ | ⟨d, _ | ⟨c, es⟩⟩⟩ <;> cases o <;> simp only [comE] at h <;> try (cases h; done)
        · rename_i x p
          split at h
          · rename_i hm
            obtain ⟨hm1, hm2⟩ := hm
            subst hm1
            split at h
            · rename_i a' k' e1 e2
              cases h
              cases n with
              | zero => unfold comE at e1; cases e1
              | succ n =>
                simp only [comE] at e1
                obtain ⟨i, hi, rfl⟩ := Option.map_eq_some_iff.mp e1
                exact both_val (p_ndx w hi hm2 (comE_plain e2) (ih X sc W k k' w e2).1) rfl
            · cases h
          · split at h
            · rename_i hm
              obtain ⟨hm1, hm2⟩ := hm
              subst hm1
              split at h
              · rename_i a' k' e1 e2
                cases h
                cases n with
                | zero => unfold comE at e1; cases e1
                | succ n =>
                  simp only [comE] at e1
                  obtain ⟨i, hi, rfl⟩ := Option.map_eq_some_iff.mp e1
                  exact both_val (p_cnt w hi hm2 (comE_plain e2) (ih X sc W k k' w e2).1) rfl
              · cases h
            · cases h
        rename_i x p
        split at h
        · rename_i hm
          obtain ⟨hm1, hm2⟩ := hm
          subst hm1
          split at h
          · rename_i a' k' d' e1 e2 e3
            cases h
            cases n with
            | zero => unfold comE at e1; cases e1
            | succ n =>
              simp only [comE] at e1
              obtain ⟨i, hi, rfl⟩ := Option.map_eq_some_iff.mp e1
              exact both_val (p_dget w hi hm2 (comE_plain e2) (comE_plain e3) (ih X sc W k k' w e2).1 (ih X sc W d d' w e3).1) rfl
          · cases h
        · cases h
      | Name f p =>
        simp only [comE] at h
        split at h
        · rename_i hg
          split at h
          · rename_i hf
            rcases es with _ | ⟨a, _ | ⟨b, _ | ⟨c, es⟩⟩⟩ <;> (try simp only at h) <;> try cases h
            cases b <;> (try simp only at h) <;> try cases h
            rename_i t p2
            split at h
            · rename_i hg2
              split at h
              · rename_i a' T e1 e2
                cases h
                exact both_val (p_isi w hg hf hg2 e2 (comE_plain e1) (ih X sc W a a' w e1).1) rfl
              · cases h
            · cases h
          · split at h
            · rename_i hl
              obtain ⟨hl, _⟩ := hl
              subst hl
              split at h
              · rename_i g _ a _ _
                split at h
                · rename_i hg2
                  obtain ⟨hg2, hgn⟩ := hg2
                  subst hgn
                  obtain ⟨a', ha, rfl⟩ := Option.map_eq_some_iff.mp h
                  exact both_val (p_rev w hg hg2 (comE_plain ha) (ih X sc W a a' w ha).1) rfl
                · cases h
              · cases h
            split at h
            · rename_i hl
              obtain ⟨hl, _⟩ := hl
              subst hl
              split at h
              · rename_i g _ a _ _ _
                split at h
                · rename_i hg2
                  obtain ⟨hg2, hgn⟩ := hg2
                  subst hgn
                  obtain ⟨a', ha, rfl⟩ := Option.map_eq_some_iff.mp h
                  exact both_val (p_dst w hg hg2 (comE_plain ha) (ih X sc W a a' w ha).1) rfl
                · cases h
              · cases h
            split at h
            · rename_i hl
              obtain ⟨hl, _⟩ := hl
              subst hl
              split at h
              · rename_i x p2 g apos cpos _ _ _ _
                split at h
                · rename_i hg2
                  obtain ⟨hgn, hl2⟩ := hg2
                  subst hgn
                  obtain ⟨a', ha, rfl⟩ := Option.map_eq_some_iff.mp h
                  cases n with
                  | zero => unfold comE at ha; cases ha
                  | succ n =>
                    simp only [comE] at ha
                    obtain ⟨i, hi, rfl⟩ := Option.map_eq_some_iff.mp ha
                    exact both_val (p_srk w hg hi hl2) rfl
                · cases h
              · cases h
            split at h
            · rename_i b x xs e1 e2
              cases h
              cases es with
              | nil => cases e2
              | cons e0 es => exact both_val (p_blt w hg e1 e2 (many e2)) rfl
            · cases h
            · rename_i x xs e1 e2
              split at h
              · rename_i id ar e3
                split at h
                · rename_i har
                  cases h
                  cases es with
                  | nil => cases e2
                  | cons e0 es => exact both_val (p_call w hg e3 har.symm e2 (many e2)) rfl
                · cases h
              · cases h
            · cases h
        · cases h
      | _ => simp only [comE] at h; cases h
    | ListComp elt gens scope pos =>
      rcases gens with _ | ⟨⟨tg, it, ifs, as⟩, _ | ⟨g2, gens⟩⟩ <;> simp only [comE] at h <;> try cases h
      split at h
      · cases h
      · rename_i has
        have has : as = 0 := Decidable.not_not.mp has
        subst has
        split at h
        · rename_i hb
          split at h
          · rename_i t it' c' el' e1 e2 e3 e4
            cases h
            obtain ⟨e1a, e1b⟩ := Option.filter_eq_some_iff.mp e1
            obtain ⟨hi, hpi⟩ := i_of (tg := tg) w e2 fun x r hr => ⟨comE_plain hr, (ih X sc W x r w hr).1⟩
            refine both_val (evE_comp (C := C) ▸ p_lock (p_compE w (p_compC w hb hpi hi ?_ ?_ ?_ ?_))) rfl
            · intro i hm
              rw [List.all_eq_true] at e1b
              exact of_decide_eq_true (e1b i hm)
            · intro s H Ca cl fp
              exact g_of (X := X.blk s H scope (compEnvC scope cl Ca X.env) fp) w.calm (by show X.N.Nodup; rw [w.hN]; exact w.nd) (put_blk w s H scope cl Ca fp) e1a
            · intro s H Ca cl fp
              have w2 := w.blk s H scope cl Ca fp
              rcases ifs with _ | ⟨c, _ | ⟨c2, ifs⟩⟩
              · cases e3
                exact ⟨fun pins s1 σ H1 Q I ⟨m, en, S, er, sr, q⟩ => pts_nil.run pins s1 σ H1 Q I (post_now sr (show post _ _ _ _ (R.ok true S) _ from q) true rfl)⟩
              · exact pts_one (ih _ _ W0 c c' w2 e3).2
              · cases e3
            · intro s H Ca cl fp
              exact (ih _ _ W0 elt el' (w.blk s H scope cl Ca fp) e4).1
          · cases h
        · cases h
    | _ => cases hpl
theorem comE_comp {n : Nat} {X : Cx} {sc : Scope} {W : WX} {elt : Expr} {gens : List Comprehension} {scope : Scope} {pos : Pos} {e' : E} (w : XOk X sc N C ft W) (h : comE ft N (n + 1) sc (.ListComp elt gens scope pos) = some e') :
    ∃ tg it ifs own t it' c' e1, gens = [⟨tg, it, ifs, 0⟩] ∧ e' = .comp own t it' c' e1 ∧ CompOk X W (compI C own t it' c' e1) tg it ifs elt scope := by
  rcases gens with _ | ⟨⟨tg, it, ifs, as⟩, _ | ⟨g2, gens⟩⟩ <;> simp only [comE] at h <;> try cases h
  split at h
  · cases h
  · rename_i has
    have has : as = 0 := Decidable.not_not.mp has
    subst has
    split at h
    · rename_i hb
      split at h
      · rename_i t it' c' el' e1 e2 e3 e4
        cases h
        obtain ⟨e1a, e1b⟩ := Option.filter_eq_some_iff.mp e1
        obtain ⟨hi, hpi⟩ := i_of (tg := tg) w e2 fun x r hr => ⟨comE_plain hr, (comE_ok n X sc W x r w hr).1⟩
        refine ⟨_, _, _, _, _, _, _, _, rfl, rfl, p_compC w hb hpi hi ?_ ?_ ?_ ?_⟩
        · intro i hm
          rw [List.all_eq_true] at e1b
          exact of_decide_eq_true (e1b i hm)
        · intro s H Ca cl fp
          exact g_of (X := X.blk s H scope (compEnvC scope cl Ca X.env) fp) w.calm (by show X.N.Nodup; rw [w.hN]; exact w.nd) (put_blk w s H scope cl Ca fp) e1a
        · intro s H Ca cl fp
          have w2 := w.blk s H scope cl Ca fp
          rcases ifs with _ | ⟨c, _ | ⟨c2, ifs⟩⟩
          · cases e3
            exact ⟨fun pins s1 σ H1 Q I ⟨m, en, S, er, sr, q⟩ => pts_nil.run pins s1 σ H1 Q I (post_now sr (show post _ _ _ _ (R.ok true S) _ from q) true rfl)⟩
          · exact pts_one (comE_ok n _ _ W0 c c' w2 e3).2
          · cases e3
        · intro s H Ca cl fp
          exact (comE_ok n _ _ W0 elt el' (w.blk s H scope cl Ca fp) e4).1
      · cases h
    · cases h
end
end NL

/-! Statements. -/
namespace NL
open PySem PySem.Spec PyProof.Rows L2
def flowP (mg : Str → Option Value) (W : WX) (Dn : Ends) : Flow → List Addr → Store → Hp → Prop
  | .nx en, m, _, H => ∀ σ, ER m H en σ → Dn.nx σ H
  | .brk en, m, _, H => ∀ σ, ER m H en σ → Dn.bk σ H
  | .cnt en, m, _, H => ∀ σ, ER m H en σ → Dn.ct σ H
  | .ret d, m, _, H => ∀ v, Rep m H d v → Dn.rt v H
  | .exc c d en, m, _, H => ∀ σ cls dd, ER m H en σ → XR mg c d m cls dd → W cls dd σ H
def tS (K : PySem.W.Frag) (mg : Str → Option Value) (W : WX) (f : NL.Env → M Flow) : TS := fun Dn σ H => ∃ m en S, ER m H en σ ∧ SR K m S H ∧ post K E0x m H (f en S) (flowP mg W Dn)
theorem PS.imp {X : Cx} {s : Stmt} {t t' : TS} (h : PS X s t) (k : ∀ D σ H, t' D σ H → t D σ H) : PS X s t' := ⟨fun pins s σ H D I q => h.run pins s σ H D I (k D σ H q)⟩
theorem PSs.imp {X : Cx} {s : List Stmt} {t t' : TS} (h : PSs X s t) (k : ∀ D σ H, t' D σ H → t D σ H) : PSs X s t' := ⟨fun pins s σ H D I q => h.run pins s σ H D I (k D σ H q)⟩
theorem lift_post {α : Type} {K : PySem.W.Frag} {mg : Str → Option Value} {W : WX} {Dn : Ends} {m : List Addr} {H : Hp} {en : NL.Env} {f : M α} {k : α → M Flow} {S : Store} (h : post K E0x m H (lift en f k S) (flowP mg W Dn)) {σ : L2.St} (er : ER m H en σ) :
    post K (Wd mg W σ) m H (f S) (fun a m1 S1 H1 => post K E0x m1 H1 (k a S1) (flowP mg W Dn)) := by
  unfold lift at h
  cases e : f S with
  | ok a S1 =>
    rw [e] at h
    exact fun m' H' g s => post_later g (show post K E0x m H (k a S1) (flowP mg W Dn) from h)
  | exc c d S1 =>
    rw [e] at h
    exact fun m' H' g s cls dd hx => h m' H' g s σ cls dd (er.mono g) hx
  | stuck => rw [e] at h; exact h
theorem flow_nx {K : PySem.W.Frag} {mg : Str → Option Value} {W : WX} {Dn : Ends} {m : List Addr} {H : Hp} {en : NL.Env} {S : Store} {σ : L2.St} (s : SR K m S H) (h : post K E0x m H ((pure (.nx en) : M Flow) S) (flowP mg W Dn)) (er : ER m H en σ) : Dn.nx σ H :=
  post_now s (show post K E0x m H (.ok (Flow.nx en) S) _ from h) σ er
structure SOk (X : Cx) (sco : Scope) (N : List Str) (C : Nat → List D → M D) (ft : FTab) (W : WX) : Prop extends XOk X sco N C ft W where
  put : Put X (locOf sco N)
  pass : PassesOwn (model X.prog X.w) X.A X.env X.xe
  kind : sco.kind = ScopeKind.function
  stk : X.stack = X.env :: X.outer
  frm : X.env.frame = some X.env.locals
section
variable {X : Cx} {sc : Scope} {N : List Str} {C : Nat → List D → M D} {ft : FTab} {W : WX} {a b c e : Expr} {a' b' c' e' : E} {pos : Pos}
theorem SOk.nd' (w : SOk X sc N C ft W) : X.N.Nodup := by rw [w.hN]; exact w.nd
theorem swaps_plain {env : PySem.Env} {tg : Option Expr} {l : Nat} (h : plainE e = true) (hc : isComp e = false) : swapsWith e tg l env = pure false := by
  cases e <;> first | rfl | exact absurd h Bool.false_ne_true | exact absurd hc (by intro z; cases z)
theorem swaps_tup {env : PySem.Env} {ts : List Expr} {k : Nat} {p : Pos} {l : Nat} (h : plainE e = true) : swapsWith e (some (.Tuple ts k p)) l env = pure false := by
  cases e <;> first | rfl | exact absurd h Bool.false_ne_true
theorem swaps_sub {env : PySem.Env} {o i : Expr} {p : Pos} {l : Nat} (h : plainE e = true) : swapsWith e (some (.Subscript o i p)) l env = pure false := by
  cases e <;> first | rfl | exact absurd h Bool.false_ne_true
/-- x = e -/
theorem s_set {x : Str} {px : Pos} {i : Nat} (w : SOk X sc N C ft W) (hx : locOf sc N x = some i) (hp : plainE e = true) (hs : isComp e = false) (he : PE X e (tE X.K X.mg W (evE C e'))) : PS X (.Assign [.Name x px] e pos) (tS X.K X.mg W (exS C (.set i e'))) := by
  obtain ⟨h1, h2, h3⟩ := w.put x i hx
  refine PS.imp (ps_set w.nd' h1 h2 he (swaps_plain hp hs) h3) fun Dn σ H ⟨m, en, S, er, sr, q⟩ => ?_
  unfold exS at q
  refine tG_use er sr (lift_post q er) fun d m1 S1 H1 v g er1 sr1 q1 rx => ?_
  exact flow_nx sr1 q1 (er1.set rx i)
theorem s_expr (hp : plainE e = true) (hs : isComp e = false) (he : PE X e (tE X.K X.mg W (evE C e'))) : PS X (.Expr e pos) (tS X.K X.mg W (exS C (.expr e'))) := by
  refine PS.imp (ps_expr he (swaps_plain hp hs)) fun Dn σ H ⟨m, en, S, er, sr, q⟩ => ?_
  unfold exS at q
  refine tG_use er sr (lift_post q er) fun d m1 S1 H1 v g er1 sr1 q1 rx => ?_
  exact flow_nx sr1 q1 er1
theorem s_ret (he : PE X e (tE X.K X.mg W (evE C e'))) : PS X (.Return (some e) pos) (tS X.K X.mg W (exS C (.ret e'))) := by
  refine PS.imp (ps_ret he) fun Dn σ H ⟨m, en, S, er, sr, q⟩ => ?_
  unfold exS at q
  refine tG_use er sr (lift_post q er) fun d m1 S1 H1 v g er1 sr1 q1 rx => ?_
  exact post_now sr1 (show post _ _ _ _ (R.ok (Flow.ret d) S1) _ from q1) v rx
theorem s_ret0 : PS X (.Return none pos) (tS X.K X.mg W (exS C .ret0)) := by
  refine PS.imp ps_retN fun Dn σ H ⟨m, en, S, er, sr, q⟩ => ?_
  unfold exS at q
  exact post_now sr (show post _ _ _ _ (R.ok (Flow.ret .non) S) _ from q) _ .non
theorem s_pass : PS X (.Pass pos) (tS X.K X.mg W (exS C .pass)) := by
  refine PS.imp ps_pass fun Dn σ H ⟨m, en, S, er, sr, q⟩ => ?_
  unfold exS at q
  exact flow_nx sr q er
theorem s_doc {x : Str} {j : Nat} {p : Pos} : PS X (.Expr (.Constant (.str x) j p) pos) (tS X.K X.mg W (exS C .pass)) := by
  refine PS.imp ps_doc fun Dn σ H ⟨m, en, S, er, sr, q⟩ => ?_
  unfold exS at q
  exact flow_nx sr q er
theorem s_brk : PS X (.Break pos) (tS X.K X.mg W (exS C .brk)) := by
  refine PS.imp ps_break fun Dn σ H ⟨m, en, S, er, sr, q⟩ => ?_
  unfold exS at q
  exact post_now sr (show post _ _ _ _ (R.ok (Flow.brk en) S) _ from q) σ er
theorem s_cnt : PS X (.Continue pos) (tS X.K X.mg W (exS C .cnt)) := by
  refine PS.imp ps_continue fun Dn σ H ⟨m, en, S, er, sr, q⟩ => ?_
  unfold exS at q
  exact post_now sr (show post _ _ _ _ (R.ok (Flow.cnt en) S) _ from q) σ er
theorem s_if {sa sb : List Stmt} {ba bb : Sts} (hc : PT X c (tT X.K X.mg W fun en => evE C c' en >>= truD)) (ha : PSs X sa (tS X.K X.mg W (exB C ba))) (hb : PSs X sb (tS X.K X.mg W (exB C bb))) : PS X (.If c sa sb pos) (tS X.K X.mg W (exS C (.ifs c' ba bb))) := by
  refine PS.imp (ps_if hc ha hb) fun Dn σ H ⟨m, en, S, er, sr, q⟩ => ?_
  unfold exS at q
  refine tG_use er sr (lift_post q er) fun t m1 S1 H1 v g er1 sr1 q1 rx => ?_
  subst rx
  cases v with
  | true => rw [if_pos rfl] at q1 ⊢; exact ⟨m1, en, S1, er1, sr1, q1⟩
  | false => rw [if_neg Bool.false_ne_true] at q1 ⊢; exact ⟨m1, en, S1, er1, sr1, q1⟩
/-- a block -/
theorem seq_post {K : PySem.W.Frag} {mg : Str → Option Value} {W : WX} {Dn : Ends} {m : List Addr} {H : Hp} {S : Store} {f : M Flow} {k : NL.Env → M Flow} (h : post K E0x m H ((f >>= fun fl => match fl with
    | .nx en' => k en'
    | f => pure f) S) (flowP mg W Dn)) : post K E0x m H (f S) (flowP mg W { Dn with nx := fun σ H => ∃ m en S, ER m H en σ ∧ SR K m S H ∧ post K E0x m H (k en S) (flowP mg W Dn) }) := by
  rw [bind_eq] at h
  cases e : f S with
  | ok fl S =>
    rw [e] at h
    intro m' H' g s
    cases fl with
    | nx en => exact fun σ er => ⟨m', en, S, er, s, post_later g (show post K E0x m H (k en S) _ from h)⟩
    | brk en => exact (show post K E0x m H (.ok (Flow.brk en) S) (flowP mg W Dn) from h) m' H' g s
    | cnt en => exact (show post K E0x m H (.ok (Flow.cnt en) S) (flowP mg W Dn) from h) m' H' g s
    | ret d => exact (show post K E0x m H (.ok (Flow.ret d) S) (flowP mg W Dn) from h) m' H' g s
    | exc c d en => exact (show post K E0x m H (.ok (Flow.exc c d en) S) (flowP mg W Dn) from h) m' H' g s
  | exc c d S => rw [e] at h; exact h
  | stuck => rw [e] at h; exact h
theorem s_nil : PSs X [] (tS X.K X.mg W (exB C .nil)) := by
  refine PSs.imp pss_nil fun Dn σ H ⟨m, en, S, er, sr, q⟩ => ?_
  unfold exB at q
  exact flow_nx sr q er
theorem s_cons {s : Stmt} {r : List Stmt} {s' : NL.St} {r' : Sts} (h1 : PS X s (tS X.K X.mg W (exS C s'))) (h2 : PSs X r (tS X.K X.mg W (exB C r'))) : PSs X (s :: r) (tS X.K X.mg W (exB C (.cons s' r'))) := by
  refine PSs.imp (pss_cons h1 h2) fun Dn σ H ⟨m, en, S, er, sr, q⟩ => ?_
  unfold exB at q
  exact ⟨m, en, S, er, sr, seq_post q⟩
/-- x += e, ints -/
theorem s_aug {x : Str} {px : Pos} {i : Nat} (w : SOk X sc N C ft W) (hx : locOf sc N x = some i) (he : PE X e (tE X.K X.mg W (evE C e'))) : PS X (.AugAssign (.Name x px) .Add e pos) (tS X.K X.mg W (exS C (.aug i e'))) := by
  obtain ⟨h1, h2, h3⟩ := w.put x i hx
  refine PS.imp (ps_aug w.nd' h1 h2 he ip_add h3) fun Dn σ H ⟨m, en, S, er, sr, q⟩ => ?_
  unfold exS at q
  cases e0 : en[i]? with
  | none => rw [e0] at q; exact q.elim
  | some od =>
    rw [e0] at q
    cases od with
    | none => exact q.elim
    | some d =>
      cases d <;> try exact q.elim
      rename_i n
      obtain ⟨v, hv, rv⟩ := er.get i _ e0
      cases rv
      refine ⟨_, hv, tG_use er sr (lift_post q er) fun d m1 S1 H1 v g er1 sr1 q1 rx => ?_⟩
      cases rx <;> try exact (show False from q1).elim
      exact ⟨n, _, rfl, rfl, flow_nx sr1 q1 (er1.set (.int _) i)⟩
/-- x.append(e) -/
theorem s_app {x : Str} {px apos cpos : Pos} {i : Nat} (w : SOk X sc N C ft W) (hx : visOf sc N x = some i) (hl : (apos.endLine == cpos.line) = true) (hp : plainE e = true) (he : PE X e (tE X.K X.mg W (evE C e'))) :
    PS X (.Expr (.Call (.Attribute (.Name x px) "append" apos) [e] [] cpos) pos) (tS X.K X.mg W (exS C (.app i e'))) := by
  obtain ⟨h1, h2, h3, h4⟩ := visOf_some hx
  have pv : PE X (.Name x px) (tVar i) := pe_var (by rw [w.hN]; exact h1) (by rw [w.sc]; exact h2) h3 h4
  refine PS.imp (ps_expr (pe_bm PySem.F.plainAttrs_list PySem.F.slot_list_append PySem.F.type_list_append mt_append pv (pa_cons he pa_nil (star_plain hp)) rfl (by rw [star_plain hp]; rfl) hl (star_plain hp) rfl)) fun Dn σ H ⟨m, en, S, er, sr, q⟩ => ?_
  unfold exS at q
  cases e0 : en[i]? with
  | none => rw [e0] at q; exact q.elim
  | some od =>
    rw [e0] at q
    cases od with
    | none => exact q.elim
    | some d =>
      cases d <;> try exact q.elim
      rename_i l
      obtain ⟨v, hv, rv⟩ := er.get i _ e0
      cases rv with
      | ref ea =>
        rename_i ad
        obtain ⟨xs, e1, q1⟩ := getM_bind (lift_post q er)
        obtain ⟨ws, h5, _⟩ := sr.lst_at e1 ea
        refine ⟨_, hv, .inl ⟨rfl, ws, SqL.of h5⟩, tG_use er sr q1 fun d m1 S1 H1 v g er1 sr1 q2 rx => ?_⟩
        have q3 := lift_post q2 er1
        unfold pushD at q3
        cases e2 : S1[l]? with
        | none => rw [e2] at q3; exact q3.elim
        | some o =>
          rw [e2] at q3
          cases o with
          | frz _ => exact q3.elim
          | dct _ _ => exact q3.elim
          | lst ys =>
            dsimp only at q3
            split at q3
            · rename_i hlen
              obtain ⟨us, h6, rs⟩ := sr1.lst_at e2 (g.pre _ _ ea)
              refine ⟨ad, us, v, rfl, rfl, h6, by rw [← rs.length]; exact hlen, ?_⟩
              have gw : Gr m1 m1 H1 (upd H1 ad (.lst (us ++ [v]))) := Gr.write h6
              have sw := sr1.write e2 (g.pre _ _ ea) h6 (rs.append (.cons rx .nil))
              exact flow_nx sw (post_gr q3 gw sw) (er1.mono gw)
            · exact q3.elim
/-- x.extend(e) -/
theorem s_ext {x : Str} {px apos cpos : Pos} {i : Nat} (w : SOk X sc N C ft W) (hx : visOf sc N x = some i) (hl : (apos.endLine == cpos.line) = true) (hp : plainE e = true) (he : PE X e (tE X.K X.mg W (evE C e'))) :
    PS X (.Expr (.Call (.Attribute (.Name x px) "extend" apos) [e] [] cpos) pos) (tS X.K X.mg W (exS C (.ext i e'))) := by
  obtain ⟨h1, h2, h3, h4⟩ := visOf_some hx
  have pv : PE X (.Name x px) (tVar i) := pe_var (by rw [w.hN]; exact h1) (by rw [w.sc]; exact h2) h3 h4
  refine PS.imp (ps_expr (pe_bm PySem.F.plainAttrs_list PySem.F.slot_list_extend PySem.F.type_list_extend mt_extend pv (pa_cons he pa_nil (star_plain hp)) rfl (by rw [star_plain hp]; rfl) hl (star_plain hp) rfl)) fun Dn σ H ⟨m, en, S, er, sr, q⟩ => ?_
  unfold exS at q
  cases e0 : en[i]? with
  | none => rw [e0] at q; exact q.elim
  | some od =>
    rw [e0] at q
    cases od with
    | none => exact q.elim
    | some d =>
      cases d <;> try exact q.elim
      rename_i l
      obtain ⟨v, hv, rv⟩ := er.get i _ e0
      cases rv with
      | ref ea =>
        rename_i ad
        obtain ⟨xs, e1, q1⟩ := getM_bind (lift_post q er)
        obtain ⟨ws, h5, _⟩ := sr.lst_at e1 ea
        refine ⟨_, hv, .inl ⟨rfl, ws, SqL.of h5⟩, tG_use er sr q1 fun d m1 S1 H1 v g er1 sr1 q2 rx => ?_⟩
        have q3 := lift_post q2 er1
        cases rx <;> try exact (show False from q3).elim
        rename_i k bd eb
        obtain ⟨ys, e2, q4⟩ := getM_bind (show post _ _ _ _ ((getM l >>= fun xs => getM k >>= fun ys => if xs.length + ys.length ≤ sizeLine then setM l (xs ++ ys) else die) S1) _ from q3)
        obtain ⟨zs, e3, q5⟩ := getM_bind q4
        obtain ⟨us, h6, rs⟩ := sr1.lst_at e2 (g.pre _ _ ea)
        obtain ⟨ts, h7, rt⟩ := sr1.lst_at e3 eb
        by_cases hlen : ys.length + zs.length ≤ sizeLine
        · rw [if_pos hlen] at q5
          refine ⟨ad, bd, us, ts, rfl, rfl, h6, h7, by rw [← rs.length, ← rt.length]; exact hlen, ?_⟩
          have gw : Gr m1 m1 H1 (upd H1 ad (.lst (us ++ ts))) := Gr.write h6
          have sw := sr1.write e2 (g.pre _ _ ea) h6 (rs.append rt)
          exact flow_nx sw (post_gr (show post _ _ _ _ (R.ok () (S1.set l (.lst (ys ++ zs)))) _ from q5) gw sw) (er1.mono gw)
        · rw [if_neg hlen] at q5; exact q5.elim
/-- x.clear() -/
theorem s_clr {x : Str} {px apos cpos : Pos} {i : Nat} (w : SOk X sc N C ft W) (hx : visOf sc N x = some i) (hl : (apos.endLine == cpos.line) = true) :
    PS X (.Expr (.Call (.Attribute (.Name x px) "clear" apos) [] [] cpos) pos) (tS X.K X.mg W (exS C (.clr i))) := by
  obtain ⟨h1, h2, h3, h4⟩ := visOf_some hx
  have pv : PE X (.Name x px) (tVar i) := pe_var (by rw [w.hN]; exact h1) (by rw [w.sc]; exact h2) h3 h4
  refine PS.imp (ps_expr (pe_bm0 PySem.F.plainAttrs_list PySem.F.slot_list_clear PySem.F.type_list_clear mt_clear pv rfl hl) rfl) fun Dn σ H ⟨m, en, S, er, sr, q⟩ => ?_
  unfold exS at q
  cases e0 : en[i]? with
  | none => rw [e0] at q; exact q.elim
  | some od =>
    rw [e0] at q
    cases od with
    | none => exact q.elim
    | some d =>
      cases d <;> try exact q.elim
      rename_i l
      obtain ⟨v, hv, rv⟩ := er.get i _ e0
      cases rv with
      | ref ea =>
        rename_i ad
        obtain ⟨xs, e1, q1⟩ := getM_bind (f := fun xs => pure xs) (show post _ _ _ _ ((getM l >>= fun xs => (pure xs : M (List D))) S) _ from (by
          have : (getM l >>= fun xs => (pure xs : M (List D))) S = getM l S := by
            rw [bind_eq]
            cases getM l S <;> rfl
          rw [this]
          exact lift_post q er))
        obtain ⟨ws, h5, _⟩ := sr.lst_at e1 ea
        refine ⟨_, hv, .inl ⟨rfl, ws, SqL.of h5⟩, ad, ws, rfl, rfl, h5, ?_⟩
        have q2 := post_now sr (show post _ _ _ _ (R.ok xs S) _ from q1)
        have q3 := lift_post q2 er
        have gw : Gr m m H (upd H ad (.lst [])) := Gr.write h5
        have sw := sr.write e1 ea h5 .nil
        exact flow_nx sw (post_gr (show post _ _ _ _ (R.ok () (S.set l (.lst []))) _ from q3) gw sw) (er.mono gw)
/-- what x.pop() does -/
theorem pop_post {K : PySem.W.Frag} {mg : Str → Option Value} {m : List Addr} {en : NL.Env} {S : Store} {σ : L2.St} {H : Hp} {i : Nat} {k : D → M Flow} {Dn : Ends} (er : ER m H en σ) (sr : SR K m S H)
    (q : post K E0x m H ((match en[i]? with | some (some (.ref l)) => lift en (popM l) k | _ => die) S) (flowP mg W Dn)) :
    ∃ v, σ[i]? = some (some v) ∧ tyV K "list" v H ∧ rPop v [] H fun y H1 => ∃ S1 d, SR K m S1 H1 ∧ ER m H1 en σ ∧ Rep m H1 d y ∧ post K E0x m H1 (k d S1) (flowP mg W Dn) := by
  cases e0 : en[i]? with
  | none => rw [e0] at q; exact q.elim
  | some od =>
    rw [e0] at q
    cases od with
    | none => exact q.elim
    | some d =>
      cases d <;> try exact q.elim
      rename_i l
      obtain ⟨v, hv, rv⟩ := er.get i _ e0
      cases rv with
      | ref ea =>
        rename_i ad
        obtain ⟨xs, e1, q1⟩ := getM_bind (show post _ _ _ _ ((getM l >>= fun xs => match xs[xs.length - 1]? with
          | some d => fun S => .ok d (S.set l (.lst xs.dropLast))
          | none => die) S) _ from lift_post q er)
        obtain ⟨ws, h5, rs⟩ := sr.lst_at e1 ea
        cases e2 : xs[xs.length - 1]? with
        | none => rw [e2] at q1; exact q1.elim
        | some d =>
          rw [e2] at q1
          obtain ⟨y, h6, ry⟩ := rs.get e2
          have gw : Gr m m H (upd H ad (.lst ws.dropLast)) := Gr.write h5
          have rd : Reps m H xs.dropLast ws.dropLast := by
            have := rs.take (xs.length - 1)
            rw [← List.dropLast_eq_take, rs.length, ← List.dropLast_eq_take] at this
            exact this
          have sw := sr.write e1 ea h5 rd
          refine ⟨_, hv, .inl ⟨rfl, ws, SqL.of h5⟩, ad, ws, y, rfl, rfl, h5, by rw [← rs.length]; exact h6, _, d, sw, er.mono gw, Rep.mono gw _ _ ry, post_gr (show post _ _ _ _ (R.ok d (S.set l (.lst xs.dropLast))) _ from q1) gw sw⟩
theorem s_pop0 {x : Str} {px apos cpos : Pos} {i : Nat} (w : SOk X sc N C ft W) (hx : visOf sc N x = some i) (hl : (apos.endLine == cpos.line) = true) :
    PS X (.Expr (.Call (.Attribute (.Name x px) "pop" apos) [] [] cpos) pos) (tS X.K X.mg W (exS C (.popx none i))) := by
  obtain ⟨h1, h2, h3, h4⟩ := visOf_some hx
  have pv : PE X (.Name x px) (tVar i) := pe_var (by rw [w.hN]; exact h1) (by rw [w.sc]; exact h2) h3 h4
  refine PS.imp (ps_expr (pe_bm0 PySem.F.plainAttrs_list PySem.F.slot_list_pop PySem.F.type_list_pop mt_pop pv rfl hl) rfl) fun Dn σ H ⟨m, en, S, er, sr, q⟩ => ?_
  unfold exS at q
  obtain ⟨v, hv, ty, l, xs, y, e1, e2, e3, e4, S1, d, sr1, er1, ry, q1⟩ := pop_post er sr q
  exact ⟨v, hv, ty, l, xs, y, e1, e2, e3, e4, flow_nx sr1 q1 er1⟩
theorem s_pop1 {x y : Str} {px py apos cpos : Pos} {i j : Nat} (w : SOk X sc N C ft W) (hx : visOf sc N x = some i) (hy : locOf sc N y = some j) (hl : (apos.endLine == cpos.line) = true) :
    PS X (.Assign [.Name y py] (.Call (.Attribute (.Name x px) "pop" apos) [] [] cpos) pos) (tS X.K X.mg W (exS C (.popx (some (.nm j)) i))) := by
  obtain ⟨h1, h2, h3, h4⟩ := visOf_some hx
  obtain ⟨k1, k2, k3⟩ := w.put y j hy
  have pv : PE X (.Name x px) (tVar i) := pe_var (by rw [w.hN]; exact h1) (by rw [w.sc]; exact h2) h3 h4
  refine PS.imp (ps_set w.nd' k1 k2 (pe_bm0 PySem.F.plainAttrs_list PySem.F.slot_list_pop PySem.F.type_list_pop mt_pop pv rfl hl) rfl k3) fun Dn σ H ⟨m, en, S, er, sr, q⟩ => ?_
  unfold exS at q
  obtain ⟨v, hv, ty, l, xs, z, e1, e2, e3, e4, S1, d, sr1, er1, ry, q1⟩ := pop_post er sr q
  refine ⟨v, hv, ty, l, xs, z, e1, e2, e3, e4, ?_⟩
  have q2 := lift_post q1 er1
  have q3 := post_now sr1 (show post _ _ _ _ (R.ok (en.set j (some d)) S1) _ from q2)
  exact flow_nx sr1 q3 (er1.set ry j)
theorem PS.or {st : Stmt} {t t' : TS} (h : PS X st t) (h' : PS X st t') : PS X st (fun D σ H => t D σ H ∨ t' D σ H) := ⟨fun pins s σ H D I q => q.elim (h.run pins s σ H D I) (h'.run pins s σ H D I)⟩
/-- a statement goes on behind a lock too -/
theorem s_lock {st : Stmt} {f : NL.Env → M Flow} {i : Option Nat} (h : PS X st (tS X.K X.mg W f)) : PS X st (tS X.K X.mg W fun en => lockM Flow.fine i en (f en)) := by
  refine PS.imp (PS.or h (ps_lock h)) fun Dn σ H ⟨m, en, S, er, sr, q⟩ => ?_
  have q : post X.K E0x m H (lockM Flow.fine i en (f en) S) (flowP X.mg W Dn) := q
  cases hl : lkOf i en S with
  | none => rw [lockM_none hl] at q; exact .inl ⟨m, en, S, er, sr, q⟩
  | some p =>
    obtain ⟨l, kvs⟩ := p
    have h0 := lkOf_some hl
    obtain ⟨d, hd, _⟩ := sr.at_ h0
    obtain ⟨xs, dr, da, srl⟩ := lock_in sr h0 hd
    refine .inr ⟨d, _, da, trivial, fun od => ⟨m, en, _, er.keepT (lock_tup da), srl od, ?_⟩⟩
    rw [lockM_some hl] at q
    cases hf : f en (S.set l (.dct true kvs)) with
    | exc _ _ _ => rw [hf] at q; exact q.elim
    | stuck => rw [hf] at q; exact q.elim
    | ok fl S' =>
      rw [hf] at q
      dsimp only at q
      split at q
      · rename_i kvs' e1
        split at q
        · rename_i hfine
          intro m' H' g s
          obtain ⟨hfz, gr⟩ := lock_gr da g
          have q2 := post_gr q gr (lock_out da dr g s e1 hd)
          cases fl with
          | nx en' => exact fun σ' er' => ⟨hfz, q2 σ' (er'.keepT (unlock_rep hfz))⟩
          | brk en' => exact fun σ' er' => ⟨hfz, q2 σ' (er'.keepT (unlock_rep hfz))⟩
          | cnt en' => exact fun σ' er' => ⟨hfz, q2 σ' (er'.keepT (unlock_rep hfz))⟩
          | ret a => exact fun v rv => ⟨hfz, q2 v (Rep.keepT (unlock_rep hfz) _ _ rv)⟩
          | exc c d en' => cases hfine
        · exact q.elim
      · exact q.elim
/-- y = x.pop(e), x a dict -/
theorem s_dpop {x y : Str} {px py apos cpos : Pos} {i j : Nat} (w : SOk X sc N C ft W) (hx : visOf sc N x = some i) (hy : locOf sc N y = some j) (hl : (apos.endLine == cpos.line) = true) (hp : plainE e = true) (he : PE X e (tE X.K X.mg W (evE C e'))) :
    PS X (.Assign [.Name y py] (.Call (.Attribute (.Name x px) "pop" apos) [e] [] cpos) pos) (tS X.K X.mg W (exS C (.dpop (some (.nm j)) i e'))) := by
  obtain ⟨h1, h2, h3, h4⟩ := visOf_some hx
  obtain ⟨k1, k2, k3⟩ := w.put y j hy
  have pv : PE X (.Name x px) (tVar i) := pe_var (by rw [w.hN]; exact h1) (by rw [w.sc]; exact h2) h3 h4
  refine PS.imp (ps_set w.nd' k1 k2 (pe_bmN PySem.F.slot_dict_pop PySem.F.type_dict_pop (mt_popN (by have := w.hu; omega)) pv (pa_cons he pa_nil (star_plain hp)) rfl (by rw [star_plain hp]; rfl) hl (star_plain hp) rfl) rfl k3) fun Dn σ H ⟨m, en, S, er, sr, q⟩ => ?_
  unfold exS at q
  cases e0 : en[i]? with
  | none => rw [e0] at q; exact q.elim
  | some od =>
    rw [e0] at q
    cases od with
    | none => exact q.elim
    | some d =>
      cases d <;> try exact q.elim
      rename_i l
      obtain ⟨v, hv, rv⟩ := er.get i _ e0
      cases rv with
      | ref ea =>
        rename_i ad
        obtain ⟨lk, kvs, e1, q1⟩ := getN_bind (lift_post q er)
        obtain ⟨xs, dr, da⟩ := sr.dct_at e1 ea
        refine ⟨_, hv, ⟨ad, xs, rfl, da.rd⟩, tG_use er sr (post_bind q1) fun yk m1 S1 H1 u g er1 sr1 q2 ru => ?_⟩
        obtain ⟨lk2, kvs2, e2, q3⟩ := getN_bind (show post _ _ _ _ ((getN l >>= fun p => if p.1 = false then keyM yk >>= fun k => optM (findK p.2 k) >>= fun v => setN l (dropD p.2 k) >>= fun _ => pure v else die) S1) _ from q2)
        obtain ⟨hlk, q4⟩ := post_ite q3
        dsimp only at hlk q4
        subst hlk
        obtain ⟨kk, e3, q5⟩ := keyM_bind q4
        obtain ⟨dv, e4, q6⟩ := optM_bind q5
        obtain ⟨b, xs2, rfl, dr2, da2, n⟩ := NAt.of sr1 e2 (g.pre _ _ ea) e3 ru
        rw [dictAt_f] at da2
        rcases dr2.find kk with ⟨z1, z2⟩ | ⟨dv', pp, w', z1, z2, z3, z4⟩
        · rw [z1] at e4; cases e4
        · rw [z1] at e4
          cases e4
          refine ⟨ad, b, xs2, kk, pp, w', rfl, rfl, da2, n, z2, z4, ?_⟩
          have gw : Gr m1 m1 H1 (upd H1 ad (dctO ad (withoutH xs2 kk))) := Gr.writeD da2
          have sw := sr1.writeD e2 (g.pre _ _ ea) da2 (dr2.drop kk)
          have q7 := post_gr (show post _ _ _ _ (R.ok dv (S1.set l (.dct false (dropD kvs2 kk)))) _ from q6) gw sw
          have q8 := lift_post q7 (er1.mono gw)
          have q9 := post_now sw (show post _ _ _ _ (R.ok (en.set j (some dv)) _) _ from q8)
          exact flow_nx sw q9 ((er1.mono gw).set (Rep.mono gw _ _ z3) j)
end
end NL

namespace NL
open PySem PySem.Spec PyProof.Rows L2
theorem anyS (vs : List Expr) (f : Expr → Bool) (h : ∀ e, f e = isStar e) : vs.any f = vs.any isStar := by rw [show f = isStar from funext h]
theorem fmS (ts : List Expr) (sc : Scope) (l : Nat) (f : Expr → Option Str) (h : ∀ e, f e = nmOf sc l e) : ts.filterMap f = ts.filterMap (nmOf sc l) := by rw [show f = nmOf sc l from funext h]
theorem swapped_eq {sc : Scope} {ts vs : List Expr} {r : Option (List Str)} {k k2 : Nat} {p p2 : Pos} {env : PySem.Env} (h : swP sc ts vs = some r) (hs : env.scope = sc) (hk : sc.kind = ScopeKind.function) :
    swappedStores [.Tuple ts k p] (.Tuple vs k2 p2) env = pure r := by
  have hb : env.blockKind = ScopeKind.function := by
    unfold Env.blockKind
    rw [hs, hk]
    rfl
  have hn : ∀ x, env.kindOf x = sc.names.lookup x := fun x => by unfold Env.kindOf; rw [hs]
  unfold swappedStores
  unfold swP at h
  simp only [hb, hn]
  rw [anyS vs _ (by intro e; cases e <;> rfl), fmS ts sc (lineOf ts) _ (by intro e; cases e <;> rfl)]
  split at h
  · rename_i c1
    cases h
    have : (!(ts.length == 2 || ts.length == 3) || vs.length != ts.length || (ScopeKind.function != ScopeKind.function)) = true := by rw [c1]; rfl
    rw [if_pos this]
  · rename_i c1
    have : ¬ (!(ts.length == 2 || ts.length == 3) || vs.length != ts.length || (ScopeKind.function != ScopeKind.function)) = true := by
      rw [Bool.or_eq_true]
      rintro (z | z)
      · exact c1 z
      · cases z
    rw [if_neg this]
    split at h
    · rename_i c2
      cases h
      rw [if_pos c2]
    · rename_i c2
      rw [if_neg c2]
      split at h
      · rename_i c3
        cases h
        rw [if_pos c3]
      · rename_i c3
        rw [if_neg c3]
        split at h
        · rename_i c4
          cases h
          rw [if_pos c4]
        · rename_i c4
          rw [if_neg c4]
          split at h
          · cases h
          · rename_i c5
            cases h
            rw [if_neg c5]
/-! ### stores -/
section
variable {X : Cx} {sc : Scope} {N : List Str} {C : Nat → List D → M D} {ft : FTab} {W : WX} {a b c e : Expr} {a' b' c' e' : E} {pos : Pos}
theorem unpD_ok {K : PySem.W.Frag} {Ex : Str → Option Nat → List Addr → Store → Hp → Prop} {m : List Addr} {H : Hp} {S : Store} {d : D} {n : Nat} {F : List D → List Addr → Store → Hp → Prop} (h : post K Ex m H (unpD n d S) F) : ∃ xs, unpD n d S = .ok xs S := by
  cases d <;> try exact (show False from h).elim
  · rename_i xs
    by_cases hc : xs.length = n
    · have e : unpD n (.tup xs) = pure xs := if_pos hc
      exact ⟨xs, by rw [e]; rfl⟩
    · have e : unpD n (.tup xs) = die := if_neg hc
      rw [e] at h
      exact (show False from h).elim
  · rename_i l
    have e : unpD n (.ref l) = getL l >>= fun xs => if xs.length = n then pure xs else die := rfl
    rw [e] at h ⊢
    obtain ⟨o, e0, h⟩ := getL_bind h
    have e2 : (getL l >>= fun xs => if xs.length = n then (pure xs : M (List D)) else die) S = (if (items o).length = n then (pure (items o) : M (List D)) else die) S := by
      rw [bind_eq]
      unfold getL
      rw [e0]
      rfl
    by_cases hc : (items o).length = n
    · rw [e2, if_pos hc]
      exact ⟨_, rfl⟩
    · rw [if_neg hc] at h
      exact (show False from h).elim
theorem bindT_tp {is : List Nat} {d : D} {en : NL.Env} {S : Store} {xs : List D} (h : unpD is.length d S = .ok xs S) : bindT (.tp is) d en S = .ok (NL.setAll en is xs) S := by
  show (unpD is.length d >>= fun ds => (pure (NL.setAll en is ds) : M NL.Env)) S = _
  rw [bind_eq, h]
  rfl
/-- a, b = e -/
theorem s_unpG {ts : List Expr} {is : List Nat} {k : Nat} {p : Pos} (w : SOk X sc N C ft W) (hn : namesOf (locOf sc N) ts = some is) (he : PE X e (tE X.K X.mg W (evE C e')))
    (hs : swapsWithSole [.Tuple ts k p] e pos.line X.env = pure false) (hw : swappedStores [.Tuple ts k p] e X.env = pure none) : PS X (.Assign [.Tuple ts k p] e pos) (tS X.K X.mg W (exS C (.unp is e'))) := by
  refine PS.imp (ps_asg he (g_of (t := .tp is) w.calm w.nd' w.put (by simp only [comTg]; rw [hn]; rfl)) hs hw rfl) fun Dn σ H ⟨m, en, S, er, sr, q⟩ => ?_
  unfold exS at q
  refine tG_use er sr (post_bind (lift_post q er)) fun d m1 S1 H1 v g er1 sr1 q1 rx => ?_
  obtain ⟨xs, hx⟩ := unpD_ok q1
  have hx' : unpD (List.length is) d S1 = .ok xs S1 := hx
  rw [show unpD is.length d S1 = .ok xs S1 from hx] at q1
  have q2 := post_now sr1 q1
  refine ⟨E0x, m1, en, S1, d, er1, sr1, rx, ?_⟩
  rw [bindT_tp hx']
  exact fun m' H' g' s' σ' er' _ => (post_gr (show post _ _ _ _ (R.ok (Flow.nx (NL.setAll en is xs)) S1) _ from q2) g' s') σ' er'
theorem PSet.or {X : Cx} {t t' : TSet} (h : PSet X t) (h' : PSet X t') : PSet X (fun o i v H Q => t o i v H Q ∨ t' o i v H Q) := fun pins s σ H o i v ov iv u Q I ro ri rv q => q.elim (h pins s σ H o i v ov iv u Q I ro ri rv) (h' pins s σ H o i v ov iv u Q I ro ri rv)
/-- o[i] = e -/
theorem s_setIx {o i : Expr} {o' i' : E} {p : Pos} (w : SOk X sc N C ft W) (hsl : isSlice i = false) (hp : plainE e = true) (ho : PE X o (tE X.K X.mg W (evE C o'))) (hi : PE X i (tE X.K X.mg W (evE C i'))) (he : PE X e (tE X.K X.mg W (evE C e'))) :
    PS X (.Assign [.Subscript o i p] e pos) (tS X.K X.mg W (exS C (.setIx o' i' e'))) := by
  have ha : ∀ v, assign (.Subscript o i p) X.env v = (do
      let ov ← holding [v] (eval o X.env)
      let iv ← holding [v, ov] (eval i X.env)
      standAt p
      holding [v, ov, iv] (setItem ov iv v)
      release [v, ov, iv] []) := by
    intro v
    cases i <;> first | rfl | exact absurd hsl (by intro z; cases z)
  refine PS.imp (ps_asg he (pg_sub ho hi (PSet.or set_list (NL.set_dict (by have := w.hu; omega))) ha) (show swapsWith e (some (.Subscript o i p)) pos.line X.env = pure false from swaps_sub hp) rfl rfl) fun Dn σ H ⟨m, en, S, er, sr, q⟩ => ?_
  unfold exS at q
  refine tG_use er sr (post_bind (lift_post q er)) fun d m1 S1 H1 v g er1 sr1 q1 rx => ?_
  refine tG_use er1 sr1 (post_bind q1) fun x m2 S2 H2 u g2 er2 sr2 q2 ru => ?_
  refine tG_use er2 sr2 (post_bind q2) fun y m3 S3 H3 t g3 er3 sr3 q3 rt => ?_
  have q3 : post X.K (Wd X.mg W σ) m3 H3 (setIxD x y d S3) _ := q3
  have ru := Rep.mono g3 _ _ ru
  have rx := Rep.mono (g2.trans g3) _ _ rx
  cases ru <;> try exact (show False from q3).elim
  rename_i l ad ea _
  cases rt <;> try exact (show False from q3).elim
  · rename_i n _
    obtain ⟨xs, e1, q4⟩ := getM_bind (show post _ _ _ _ ((getM _ >>= fun xs => match ixN xs.length n with
      | some j => fun S => .ok () (S.set _ (.lst (xs.set j d)))
      | none => die) S3) _ from q3)
    obtain ⟨vs, h5, rs⟩ := sr3.lst_at e1 ea
    cases e2 : ixN xs.length n with
    | none => rw [e2] at q4; exact q4.elim
    | some j =>
      rw [e2] at q4
      refine .inl ⟨ad, vs, n, j, rfl, rfl, h5, by rw [← rs.length]; exact e2, ?_⟩
      have gw : Gr m3 m3 H3 (upd H3 ad (.lst (vs.set j v))) := Gr.write h5
      have sw := sr3.write e1 ea h5 (rs.set rx j)
      have q5 := post_gr (show post _ _ _ _ (R.ok () (S3.set l (.lst (xs.set j d)))) _ from q4) gw sw
      exact flow_nx sw q5 (er3.mono gw)
  · rename_i b ys ws eb rb _
    obtain ⟨lk, kvs, e1, q4⟩ := getN_bind (show post _ _ _ _ ((getN l >>= fun p => if p.1 = false ∧ p.2.length < sizeLine then keyM (.tup ys) >>= fun k => setN l (putD p.2 k (.tup ys) d) else die) S3) _ from q3)
    obtain ⟨⟨hlk, hlen⟩, q5⟩ := post_ite q4
    dsimp only at hlk hlen q5
    subst hlk
    obtain ⟨kk, e3, q6⟩ := keyM_bind q5
    have rk : Rep m3 H3 (.tup ys) (.ref b) := .tup eb rb
    obtain ⟨b', xs2, hb', dr2, da2, nn⟩ := NAt.of sr3 e1 ea e3 rk
    cases hb'
    rw [dictAt_f] at da2
    refine .inr ⟨ad, b, xs2, kk, rfl, rfl, da2, nn, by rw [← dr2.len]; exact hlen, fun u ru => ?_⟩
    have gw : Gr m3 m3 H3 (upd H3 ad (dctO ad (storedH xs2 kk b u))) := Gr.writeD da2
    have sw := sr3.writeD e1 ea da2 (dr2.put rk e3 rx ru)
    have q7 := post_gr (show post _ _ _ _ (R.ok () (S3.set l (.dct false (putD kvs kk (.tup ys) d)))) _ from q6) gw sw
    exact flow_nx sw q7 (er3.mono gw)
/-! ### loops -/
theorem loop_post {K : PySem.W.Frag} {mg : Str → Option Value} {W : WX} {Dn : Ends} {m : List Addr} {H : Hp} {S : Store} {f : M Flow} {k : NL.Env → M Flow} {Nn : L2.St → Hp → Prop} (h : post K E0x m H ((f >>= fun fl => match fl with
    | .nx en' => k en'
    | .cnt en' => k en'
    | .brk en' => pure (.nx en')
    | f => pure f) S) (flowP mg W Dn)) (hN : ∀ m' H' en S' σ, Gr m m' H H' → ER m' H' en σ → SR K m' S' H' → post K E0x m' H' (k en S') (flowP mg W Dn) → Nn σ H') :
    post K E0x m H (f S) (flowP mg W { Dn with nx := Nn, ct := Nn, bk := Dn.nx }) := by
  rw [bind_eq] at h
  cases e : f S with
  | ok fl S =>
    rw [e] at h
    intro m' H' g s
    cases fl with
    | nx en => exact fun σ er => hN m' H' en S σ g er s (post_later g (show post K E0x m H (k en S) _ from h))
    | cnt en => exact fun σ er => hN m' H' en S σ g er s (post_later g (show post K E0x m H (k en S) _ from h))
    | brk en => exact (show post K E0x m H (.ok (Flow.nx en) S) (flowP mg W Dn) from h) m' H' g s
    | ret d => exact (show post K E0x m H (.ok (Flow.ret d) S) (flowP mg W Dn) from h) m' H' g s
    | exc c d en => exact (show post K E0x m H (.ok (Flow.exc c d en) S) (flowP mg W Dn) from h) m' H' g s
  | exc c d S => rw [e] at h; exact h
  | stuck => rw [e] at h; exact h
theorem s_whl {sb : List Stmt} {b' : Sts} (w : SOk X sc N C ft W) (hc : PT X c (tT X.K X.mg W fun en => evE C c' en >>= truD)) (hb : PSs X sb (tS X.K X.mg W (exB C b'))) : PS X (.While c sb [] pos) (tS X.K X.mg W (exS C (.whl c' b'))) := by
  refine PS.imp (ps_while w.pass hc hb) fun Dn σ H ⟨m, en, S, er, sr, q⟩ => ?_
  unfold exS at q
  refine ⟨fun n σ H => ∃ m en S, ER m H en σ ∧ SR X.K m S H ∧ post X.K E0x m H (whlL (fun en' => evE C c' en' >>= truD) (fun en' => exB C b' en') n en S) (flowP X.mg W Dn), ⟨_, m, en, S, er, sr, q⟩, ?_⟩
  rintro n σ H ⟨m, en, S, er, sr, q⟩
  cases n with
  | zero => exact (show False from q).elim
  | succ n =>
    unfold whlL at q
    refine tG_use er sr (lift_post q er) fun t m1 S1 H1 v g er1 sr1 q1 rx => ?_
    subst rx
    cases v with
    | true =>
      rw [if_pos rfl] at q1 ⊢
      refine ⟨fun σ H => ∃ m en S, ER m H en σ ∧ SR X.K m S H ∧ post X.K E0x m H (whlL (fun en' => evE C c' en' >>= truD) (fun en' => exB C b' en') n en S) (flowP X.mg W Dn), fun σ' H' h => ⟨n, Nat.lt_succ_self n, h⟩, m1, en, S1, er1, sr1, ?_⟩
      exact loop_post q1 fun m' H' en S' σ g er s p => ⟨m', en, S', er, s, p⟩
    | false =>
      rw [if_neg Bool.false_ne_true] at q1 ⊢
      exact flow_nx sr1 q1 er1
theorem ckD_post {α : Type} {K : PySem.W.Frag} {Ex : Str → Option Nat → List Addr → Store → Hp → Prop} {m : List Addr} {H : Hp} {p : List (Nat × Ob)} {f : Unit → M α} {S : Store} {F : α → List Addr → Store → Hp → Prop} (h : post K Ex m H ((ckD p >>= f) S) F) : CkOk p S ∧ post K Ex m H (f () S) F := by
  rw [bind_eq] at h
  simp only [ckD] at h
  by_cases e : ∀ q ∈ p, S[q.1]? = some q.2
  · rw [if_pos e] at h; exact ⟨e, h⟩
  · rw [if_neg e] at h; exact h.elim
noncomputable def forI (C : Nat → List D → M D) (tg : Tg) (it : NL.It) (b : Sts) : NL.Env → M Flow := fun en => lift en (evIt C it en) fun p => forL (ckD p.2) (fun d en' => bindT tg d en') (fun en' => exB C b en') p.1 en
theorem s_for {tg it : Expr} {t : Tg} {i' : NL.It} {sb : List Stmt} {b' : Sts} (w : SOk X sc N C ft W) (hp : plainE it = true) (ht : comTg (locOf sc N) tg = some t) (hi : PI X tg it (tI X.K X.mg W (evIt C i'))) (hb : PSs X sb (tS X.K X.mg W (exB C b'))) :
    PS X (.For tg it sb [] pos) (tS X.K X.mg W (exS C (.for_ t i' b'))) := by
  suffices h0 : PS X (.For tg it sb [] pos) (tS X.K X.mg W (forI C t i' b')) by
    have e0 : exS C (.for_ t i' b') = fun en => lockM Flow.fine i'.lk en (forI C t i' b' en) := by
      funext en
      unfold exS forI
      rfl
    rw [e0]
    exact s_lock h0
  refine PS.imp (ps_for w.pass w.calm hi (g_of w.calm w.nd' w.put ht) hb (fun x => folded_plain hp)) fun Dn σ H ⟨m, en, S, er, sr, q⟩ => ?_
  unfold forI at q
  refine ⟨m, en, S, er, sr, post_mono (lift_post q er) fun p m1 S1 H1 g1 sr1 q1 J gv => ?_⟩
  have er1 := er.mono g1
  refine ⟨fun i k σ H => ∃ mm en S, Gr m1 mm H1 H ∧ ER mm H en σ ∧ SR X.K mm S H ∧ i ≤ p.1.length ∧ k = p.1.length - i ∧ post X.K E0x mm H (forL (ckD p.2) (fun d en' => bindT t d en') (fun en' => exB C b' en') (p.1.drop i) en S) (flowP X.mg W Dn),
    ⟨_, m1, en, S1, Gr.refl _ _, er1, sr1, Nat.zero_le _, rfl, q1⟩, ?_⟩
  rintro i k σ2 H2 ⟨mm, en2, S2, gm, er2, sr2, hil, rfl, q2⟩
  by_cases hlt : i < p.1.length
  · right
    have hx : p.1[i]? = some p.1[i] := List.getElem?_eq_getElem hlt
    rw [List.drop_eq_getElem_cons hlt] at q2
    unfold forL at q2
    obtain ⟨ck, q3⟩ := ckD_post (lift_post q2 er2)
    have gi := (gv i mm S2 H2 gm sr2 ck).2 _ hx
    refine ⟨gi.1, fun σ H => ∃ mm en S, Gr m1 mm H1 H ∧ ER mm H en σ ∧ SR X.K mm S H ∧ post X.K E0x mm H (forL (ckD p.2) (fun d en' => bindT t d en') (fun en' => exB C b' en') (p.1.drop (i + 1)) en S) (flowP X.mg W Dn),
      fun σ' H' ⟨mm, en, S, h1, h2, h3, h4⟩ => ⟨p.1.length - (i + 1), by omega, mm, en, S, h1, h2, h3, hlt, rfl, h4⟩, fun x H' hy => ?_⟩
    obtain ⟨ga, sa, ra⟩ := gi.2 x H' hy
    refine ⟨_, mm, en2, S2, _, er2.mono ga, sa, ra, post_mono (post_later ga q3) fun en' m3 S3 H3 g3 s3 q4 σ' er' _ => ?_⟩
    refine ⟨m3, en', S3, er', s3, loop_post q4 fun m' H' en S' σ g er s pp => ⟨m', en, S', gm.trans (ga.trans (g3.trans g)), er, s, pp⟩⟩
  · left
    have e : i = p.1.length := by omega
    subst e
    rw [List.drop_length] at q2
    unfold forL at q2
    have q3 := lift_post q2 er2
    have ck : CkOk p.2 S2 := by
      simp only [ckD] at q3
      split at q3
      · rename_i e; exact e
      · exact q3.elim
    have q4 : post X.K E0x mm H2 ((pure (Flow.nx en2) : M Flow) S2) (flowP X.mg W Dn) := by
      simp only [ckD] at q3
      split at q3
      · exact post_now sr2 q3
      · exact q3.elim
    exact ⟨(gv _ mm S2 H2 gm sr2 ck).1 rfl, flow_nx sr2 q4 er2⟩
end
end NL

/-! raise C(text); try: .. except C as e: .. -/
namespace NL
open PySem PySem.Spec PyProof.Rows L2
section
variable {N : List Str} {C : Nat → List D → M D} {ft : FTab} {X : Cx} {sc : Scope} {W : WX}
theorem s_dead' {s : Stmt} : PS X s (tS X.K X.mg W (exS C .dead)) := ⟨fun pins s σ H Dn I ⟨m, en, S, er, sr, q⟩ => by
  unfold exS at q
  exact q.elim⟩
theorem s_rse {x msg : Str} {j : Nat} {p p2 pos pos' : Pos} (w : SOk X sc N C ft W) {xi : XI} (hx : ft.ex = some xi) (e : x = xi.cls) (hg : isGl sc x = true) :
    PS X (.Raise (some (.Call (.Name x p) [.Constant (.str msg) j p2] [] pos)) none pos') (tS X.K X.mg W (exS C (.rse x))) := by
  obtain ⟨B, h1, h2, h3, h4, h5, _⟩ := (w.fo.exc xi hx).cls
  obtain ⟨g1, g2⟩ := isGl_some hg
  have gl : Gl X x := by show X.env.scope.names.lookup _ = _; rw [w.sc]; exact g1
  rw [← e] at h1
  refine PS.imp (ps_raise w.calm w.tk (pmk_own PySem.F.excBase_ValueError h2 h1 h3 (raises_own h5.hs h4) gl g2)) fun Dn σ H ⟨m, en, S, er, sr, q⟩ => ?_
  unfold exS at q
  exact post_now sr (show post X.K E0x m H (.ok (Flow.exc x none en) S) (flowP X.mg W Dn) from q) σ (.ref B) none er ⟨h1, rfl⟩
theorem s_raise {a b : Option Expr} {pos : Pos} (w : SOk X sc N C ft W) : PS X (.Raise a b pos) (tS X.K X.mg W (exS C (comR ft sc (.Raise a b pos)))) := by
  unfold comR
  split
  · rename_i h
    injection h with h1 h2 h3
    subst h1 h2
    split
    · rename_i xi hx
      split
      · rename_i hc
        exact s_rse w hx hc.1 hc.2
      · exact s_dead'
    · exact s_dead'
  · exact s_dead'
/-! ### the suite -/
/-- slot i holds the exception -/
abbrev At (i : Nat) (a : Addr) (σ : L2.St) : Prop := σ[i]? = some (some (.ref a))
section
variable {a B : Addr} {oe : Obj} {pn : List (Addr × Obj)} {i : Nat} {nm : Str} {xi : XI}
theorem pe_isE {t : Str} {p p1 p2 pos : Pos} {b : Bool} (hz : Zc (.ref B) none oe) (hf : ∃ vs, oe.data = .fields vs) (hC : ExcC X.K B) (w : SOk X sc N C ft W) (hi : N[i]? = some nm) (hn : sc.names.lookup nm = some .local) (ho : ¬ oddName nm = true)
    (hg : isGl sc ("isinstance" : Str) = true) (ht : isGl sc t = true) {v : Value} (hv : ClsAt X.mg t v) (hk : PySem.W.kitOne X.K (.ref B) v = some b) :
    PE (X.suite a ((a, oe) :: pn)) (.Call (.Name "isinstance" p) [.Name nm p1, .Name t p2] [] pos) (fun σ H Q => At i a σ ∧ Q (.bl b) H) := by
  obtain ⟨g1, g2⟩ := isGl_some hg
  obtain ⟨g3, g4⟩ := isGl_some ht
  obtain ⟨o1, o2⟩ := odd_no ho
  have gl : Gl (X.suite a ((a, oe) :: pn)) "isinstance" := by show X.env.scope.names.lookup _ = _; rw [w.sc]; exact g1
  have gl2 : Gl (X.suite a ((a, oe) :: pn)) t := by show X.env.scope.names.lookup _ = _; rw [w.sc]; exact g3
  have pv : PE (X.suite a ((a, oe) :: pn)) (.Name nm p1) _ := pe_var (i := i) (by show X.N[i]? = _; rw [w.hN]; exact hi) (.inl (by show X.env.scope.names.lookup _ = _; rw [w.sc]; exact hn)) o1 o2
  rcases hv with ⟨q1, a', rfl⟩ | ⟨q1, q2, q3, n, rfl⟩
  · have pT : PE (X.suite a ((a, oe) :: pn)) (.Name t p2) (tC (.ref a')) := pe_glob gl2 q1 rfl g4
    exact PE.imp (pe_callB (call_isE (X := X) (a := a) (pn := pn) hC hz hf) gl w.fo.isi (by decide +kernel) (pa_cons pv (pa_cons pT pa_nil) rfl) (by decide) g2 rfl rfl) fun σ H Q ⟨h1, h2⟩ => ⟨_, h1, _, _, b, rfl, fun u r => r, hk, h2⟩
  · have pT : PE (X.suite a ((a, oe) :: pn)) (.Name t p2) (tC (.ty n)) := pe_bltn gl2 q1 q2 rfl q3 g4
    exact PE.imp (pe_callB (call_isE (X := X) (a := a) (pn := pn) hC hz hf) gl w.fo.isi (by decide +kernel) (pa_cons pv (pa_cons pT pa_nil) rfl) (by decide) g2 rfl rfl) fun σ H Q ⟨h1, h2⟩ => ⟨_, h1, _, _, b, rfl, fun u r => r, hk, h2⟩
theorem pe_boolH {e : Expr} {b : Bool} (hz : Zc (.ref B) none oe) (hf : ∃ vs, oe.data = .fields vs) (hC : ExcC X.K B) (w : SOk X sc N C ft W) (hi : N[i]? = some nm) (hn : sc.names.lookup nm = some .local) (ho : ¬ oddName nm = true)
    (ha : ∀ t ∈ xi.anc, ∃ v, ClsAt X.mg t v ∧ PySem.W.kitOne X.K (.ref B) v = some true) (hb : ∀ t ∈ xi.nin, ∃ v, ClsAt X.mg t v ∧ PySem.W.kitOne X.K (.ref B) v = some false) (h : boolH xi sc nm e = some b) :
    PE (X.suite a ((a, oe) :: pn)) e (fun σ H Q => At i a σ ∧ Q (.bl b) H) ∧ plainE e = true := by
  unfold boolH at h
  split at h
  · split at h
    · rename_i hc
      obtain ⟨rfl, h2, rfl, h4⟩ := hc
      split at h
      · rename_i ht
        cases h
        obtain ⟨v, v1, v2⟩ := ha _ ht
        exact ⟨pe_isE hz hf hC w hi hn ho h2 h4 v1 v2, rfl⟩
      · split at h
        · rename_i ht
          cases h
          obtain ⟨v, v1, v2⟩ := hb _ ht
          exact ⟨pe_isE hz hf hC w hi hn ho h2 h4 v1 v2, rfl⟩
        · cases h
    · cases h
  · split at h
    · rename_i hc
      obtain ⟨rfl, h2, rfl, h4⟩ := hc
      split at h
      · rename_i ht
        cases h
        obtain ⟨v, v1, v2⟩ := ha _ ht
        exact ⟨PE.imp (pe_not (pe_isE (a := a) (pn := pn) hz hf hC w hi hn ho h2 h4 v1 v2)) fun σ H Q ⟨z1, z2⟩ => ⟨z1, true, rfl, z2⟩, rfl⟩
      · split at h
        · rename_i ht
          cases h
          obtain ⟨v, v1, v2⟩ := hb _ ht
          exact ⟨PE.imp (pe_not (pe_isE (a := a) (pn := pn) hz hf hC w hi hn ho h2 h4 v1 v2)) fun σ H Q ⟨z1, z2⟩ => ⟨z1, false, rfl, z2⟩, rfl⟩
        · cases h
    · cases h
  · cases h
theorem pa_boolsH (hz : Zc (.ref B) none oe) (hf : ∃ vs, oe.data = .fields vs) (hC : ExcC X.K B) (w : SOk X sc N C ft W) (hi : N[i]? = some nm) (hn : sc.names.lookup nm = some .local) (ho : ¬ oddName nm = true)
    (ha : ∀ t ∈ xi.anc, ∃ v, ClsAt X.mg t v ∧ PySem.W.kitOne X.K (.ref B) v = some true) (hb : ∀ t ∈ xi.nin, ∃ v, ClsAt X.mg t v ∧ PySem.W.kitOne X.K (.ref B) v = some false) :
    ∀ {es : List Expr} {bs : List Bool}, boolsH xi sc nm es = some bs → PA (X.suite a ((a, oe) :: pn)) es (fun σ H Q => At i a σ ∧ Q (bs.map V.bl) H)
  | [], bs, h => by
    cases h
    exact PA.imp pa_nil fun σ H Q ⟨_, h2⟩ => h2
  | e :: es, bs, h => by
    unfold boolsH at h
    split at h
    · rename_i b bs' e1 e2
      cases h
      obtain ⟨p1, p2⟩ := pe_boolH (a := a) (pn := pn) hz hf hC w hi hn ho ha hb e1
      exact PA.imp (pa_cons p1 (pa_boolsH hz hf hC w hi hn ho ha hb e2) (star_plain p2)) fun σ H Q ⟨h1, h2⟩ => ⟨h1, h1, h2⟩
    · cases h
theorem bols_ev {en : NL.Env} {S : Store} : ∀ {bs : List Bool}, evEs C (bolsE bs) en S = .ok (bs.map D.bl) S
  | [] => by unfold bolsE evEs; rfl
  | b :: bs => by
    unfold bolsE evEs
    rw [bind_eq]
    unfold evE
    show (evEs C (bolsE bs) en >>= fun xs => pure (D.bl b :: xs)) S = _
    rw [bind_eq, bols_ev]
    rfl
theorem bols_rep {m : List Addr} {H : Hp} : ∀ {bs : List Bool}, Reps m H (bs.map D.bl) (bs.map V.bl)
  | [] => .nil
  | b :: _ => .cons (.bl b) bols_rep
/-- .. and what it tells -/
abbrev tEi (i : Nat) (a : Addr) (K : PySem.W.Frag) (mg : Str → Option Value) (W : WX) (f : NL.Env → M D) : TE := fun σ H Q => At i a σ ∧ tE K mg W f σ H Q
theorem pe_lstH {es : List Expr} {bs : List Bool} {pos : Pos} (h : PA (X.suite a ((a, oe) :: pn)) es (fun σ H Q => At i a σ ∧ Q (bs.map V.bl) H)) : PE (X.suite a ((a, oe) :: pn)) (.List es pos) (tEi i a X.K X.mg W (evE C (.lst (bolsE bs)))) := by
  refine PE.imp (pe_lst h) fun σ H Q ⟨h1, m, en, S, er, sr, q⟩ => ⟨h1, ?_⟩
  unfold evE at q
  rw [bind_eq, bols_ev] at q
  obtain ⟨hc, q2⟩ := post_ite q
  exact ⟨by rw [List.length_map] at hc ⊢; exact hc, post_alloc sr q2 bols_rep⟩
theorem pe_varH {x : Str} {k : Nat} {pos : Pos} (w : SOk X sc N C ft W) (h : visOf sc N x = some k) : PE (X.suite a ((a, oe) :: pn)) (.Name x pos) (tEi i a X.K X.mg W (evE C (.var k))) := by
  obtain ⟨h1, h2, h3, h4⟩ := visOf_some h
  refine PE.imp (pe_var (i := k) (by show X.N[k]? = _; rw [w.hN]; exact h1) (by show Vis X.env.scope x; rw [w.sc]; exact h2) h3 h4) fun σ H Q ⟨_, m, en, S, er, sr, q⟩ => ?_
  unfold evE at q
  cases e : en[k]? with
  | none => rw [e] at q; exact q.elim
  | some od =>
    cases od with
    | none => rw [e] at q; exact q.elim
    | some d =>
      rw [e] at q
      obtain ⟨v, e1, r⟩ := er.get k d e
      exact ⟨v, e1, post_now sr q v r⟩
theorem pe_addH {ea eb : Expr} {a' b' : E} {pos : Pos} (ha : PE (X.suite a ((a, oe) :: pn)) ea (tEi i a X.K X.mg W (evE C a'))) (hb : PE (X.suite a ((a, oe) :: pn)) eb (tEi i a X.K X.mg W (evE C b'))) : PE (X.suite a ((a, oe) :: pn)) (.BinOp ea .Add eb pos) (tEi i a X.K X.mg W (evE C (.bin .add a' b'))) := by
  refine PE.imp (pe_op (op_binD (X := X.suite a ((a, oe) :: pn)) .add) ha hb) fun σ H Q ⟨h1, m, en, S, er, sr, q⟩ => ?_
  unfold evE at q
  refine ⟨h1, tG_use er sr (post_bind q) fun x m1 S1 H1 v g er1 sr1 q1 rx => ⟨h1, tG_use er1 sr1 (post_bind q1) fun y m2 S2 H2 u g2 er2 sr2 q2 ry => ?_⟩⟩
  exact ⟨_, m2, S2, x, y, sr2, Rep.mono g2 _ _ rx, ry, q2⟩
/-- a suite's statement -/
abbrev tSi (i : Nat) (a : Addr) (K : PySem.W.Frag) (mg : Str → Option Value) (W : WX) (f : NL.Env → M Flow) : TS := fun Dn σ H => At i a σ ∧ tS K mg W f { Dn with nx := fun σ' H' => At i a σ' → Dn.nx σ' H' } σ H
theorem s_setH {x : Str} {px pos : Pos} {j : Nat} {e : Expr} {e' : E} (w : SOk X sc N C ft W) (hx : locOf sc N x = some j) (hi : N[i]? = some nm) (ne : x ≠ nm) (hp : plainE e = true) (hs : isComp e = false) (he : PE (X.suite a ((a, oe) :: pn)) e (tEi i a X.K X.mg W (evE C e'))) :
    PS (X.suite a ((a, oe) :: pn)) (.Assign [.Name x px] e pos) (tSi i a X.K X.mg W (exS C (.set j e'))) := by
  obtain ⟨h1, h2, h3⟩ := w.put x j hx
  have hj : j ≠ i := fun z => by
    subst z
    have := (locOf_some hx).1
    rw [hi] at this
    exact ne (Option.some.inj this).symm
  refine PS.imp (ps_set (X := X.suite a ((a, oe) :: pn)) w.nd' h1 h2 he (swaps_plain hp hs) h3) fun Dn σ H ⟨h1, m, en, S, er, sr, q⟩ => ⟨h1, ?_⟩
  unfold exS at q
  refine tG_use er sr (lift_post q er) fun d m1 S1 H1 v g er1 sr1 q1 rx => ?_
  exact flow_nx sr1 q1 (er1.set rx j) (by show (σ.set j (some v))[i]? = _; rw [List.getElem?_set_ne hj]; exact h1)
theorem comH_ok (hz : Zc (.ref B) none oe) (hf : ∃ vs, oe.data = .fields vs) (hC : ExcC X.K B) (w : SOk X sc N C ft W) (hi : N[i]? = some nm) (hn : sc.names.lookup nm = some .local) (ho : ¬ oddName nm = true)
    (ha : ∀ t ∈ xi.anc, ∃ v, ClsAt X.mg t v ∧ PySem.W.kitOne X.K (.ref B) v = some true) (hb : ∀ t ∈ xi.nin, ∃ v, ClsAt X.mg t v ∧ PySem.W.kitOne X.K (.ref B) v = some false) :
    ∀ {ss : List Stmt} {h : Sts}, comH xi N sc nm ss = some h → PSs (X.suite a ((a, oe) :: pn)) ss (tSi i a X.K X.mg W (exB C h))
  | [], h, e => by
    cases e
    refine PSs.imp pss_nil fun Dn σ H ⟨h1, m, en, S, er, sr, q⟩ => ?_
    unfold exB at q
    exact flow_nx sr q er h1
  | s :: ss, h, e => by
    unfold comH at e
    split at e
    · rename_i s' r' e1 e2
      cases e
      have p1 : PS (X.suite a ((a, oe) :: pn)) s (tSi i a X.K X.mg W (exS C s')) := by
        unfold comH1 at e1
        split at e1
        · split at e1
          · rename_i j bs q1 q2
            split at e1
            · cases e1
            · rename_i ne
              cases e1
              exact s_setH (C := C) w q1 hi ne rfl rfl (pe_lstH (C := C) (W := W) (pa_boolsH hz hf hC w hi hn ho ha hb q2))
          · cases e1
        · split at e1
          · rename_i j k bs q1 q2 q3
            split at e1
            · cases e1
            · rename_i ne
              cases e1
              exact s_setH (C := C) w q1 hi (fun z => ne (.inl z)) rfl rfl (pe_addH (C := C) (W := W) (pe_varH (C := C) w q2) (pe_lstH (C := C) (W := W) (pa_boolsH hz hf hC w hi hn ho ha hb q3)))
          · cases e1
        · cases e1
      refine PSs.imp (pss_cons p1 (comH_ok hz hf hC w hi hn ho ha hb e2)) fun Dn σ H ⟨h1, m, en, S, er, sr, q⟩ => ?_
      unfold exB at q
      exact ⟨h1, m, en, S, er, sr, post_mono (seq_post q) fun fl m' S' H' g s k => by
        cases fl with
        | nx en' => exact fun σ' er' h1' => ⟨h1', k σ' er'⟩
        | brk en' => exact k
        | cnt en' => exact k
        | ret d => exact k
        | exc c d en' => exact k⟩
    · cases e
end
theorem ER.gone {m : List Addr} {H : Hp} {en : NL.Env} {σ : L2.St} (r : ER m H en σ) (i : Nat) (o : Option V) : ER m H (en.set i none) (σ.set i o) := ⟨by simp [r.len], fun j e q => by
  by_cases hij : i = j
  · subst hij
    by_cases hl : i < en.length
    · rw [List.getElem?_set_self hl] at q; cases q
    · rw [List.getElem?_eq_none (by simpa using hl)] at q; cases q
  · rw [List.getElem?_set_ne hij] at q ⊢
    exact r.get j e q⟩
theorem SOk.tr {pn : List (Addr × Obj)} {xe : Value → Shared → Prop} {W' : WX} (w : SOk X sc N C ft W) (tk : Takes (X.tr pn xe) W') (pa : PassesOwn (model X.prog X.w) X.A X.env xe) : SOk (X.tr pn xe) sc N C ft W' :=
  { hN := w.hN, sc := w.sc, nd := w.nd, calm := w.calm, hu := w.hu, fo := ⟨w.fo.exc, w.fo.own, w.fo.blt, w.fo.isi, w.fo.rng, w.fo.enm, w.fo.zip, w.fo.rev, w.fo.st, w.fo.ty⟩, tk := tk, put := fun x j h => w.put x j h, pass := pa, kind := w.kind, stk := w.stk, frm := w.frm }
theorem s_try {x nm : Str} {np pos pos' : Pos} {body suite : List Stmt} {b₀ : Stmt} {i : Nat} {b h : Sts} {xi : XI} (w : SOk X sc N C ft W) (hx : ft.ex = some xi) (hi : locOf sc N nm = some i) (hg : isGl sc x = true) (hxa : x ∈ xi.anc) (hl : sc.names.lookup nm = some .local)
    (hh : comH xi N sc nm (b₀ :: suite) = some h) (hb : ∀ (pn : List (Addr × Obj)) (xe : Value → Shared → Prop) (W' : WX), SOk (X.tr pn xe) sc N C ft W' → PSs (X.tr pn xe) body (tS X.K X.mg W' (exB C b))) :
    PS X (.Try body [.ExceptHandler (some (.Name x np)) (some nm) (b₀ :: suite) pos'] [] [] pos) (tS X.K X.mg W (exS C (.try_ b xi.cls i h))) := by
  obtain ⟨B, f1, f2, f3, f4, f5, f6, f7, f8⟩ := (w.fo.exc xi hx).cls
  obtain ⟨g1, g2⟩ := isGl_some hg
  have gl : Gl X x := by show X.env.scope.names.lookup _ = _; rw [w.sc]; exact g1
  have hiN := (locOf_some hi).1
  have ho : ¬ oddName nm = true := fun z => by unfold locOf at hi; rw [if_pos z] at hi; cases hi
  obtain ⟨v, v1, v2⟩ := f6 x hxa
  have hc : Names X x v := ⟨gl, g2, by
    rcases v1 with ⟨q, _⟩ | ⟨q1, q2, q3, _⟩
    · exact .inl q
    · exact .inr ⟨q1, q2, q3⟩⟩
  refine PS.imp (ps_try_as (i := i) (c := v) (tb := fun W' => tS X.K X.mg W' (exB C b)) (ts := fun a cls d Dn σ H => cls = .ref B ∧ d = none ∧ tSi i a X.K X.mg W (exB C h) Dn σ H) (Wout := W) w.stk w.frm w.nd' (by rw [w.hN]; exact hiN) (by show X.env.scope.names.lookup nm = _; rw [w.sc]; exact hl) hc w.tk
    (fun W' pn xe tk pa => hb pn xe W' (w.tr tk pa)) (fun a oe cls d pn hz hf => ⟨fun pins s σ H Dn I ⟨e1, e2, q⟩ => by
      subst e1 e2
      exact (comH_ok hz hf f5 w hiN hl ho f6 f7 hh).run pins s σ H Dn I q⟩)) fun Dn σ H ⟨m, en, S, er, sr, q⟩ => ⟨m, en, S, er, sr, ?_⟩
  unfold exS at q
  rw [bind_eq] at q
  cases e : exB C b en S with
  | stuck => rw [e] at q; exact q.elim
  | exc c d S1 => rw [e] at q; exact q
  | ok fl S1 =>
    rw [e] at q
    intro m' H' g s
    cases fl with
    | nx en' => exact (show post X.K E0x m H (.ok (Flow.nx en') S1) (flowP X.mg W Dn) from q) m' H' g s
    | brk en' => exact (show False from q).elim
    | cnt en' => exact (show False from q).elim
    | ret d => exact (show False from q).elim
    | exc c d en' =>
      have q9 : post X.K E0x m H ((if c = xi.cls ∧ d = none ∧ i < en'.length then exB C h (en'.set i none) >>= fun f' => (match f' with
        | .nx en2 => pure (.nx (en2.set i none))
        | _ => die) else die) S1) (flowP X.mg W Dn) := q
      by_cases hcc : c = xi.cls ∧ d = none ∧ i < en'.length
      · rw [if_pos hcc] at q9
        clear q
        obtain ⟨rfl, rfl, hlt⟩ := hcc
        rintro σ' cls dd er' ⟨x1, x2⟩
        rw [f1] at x1
        cases x1
        refine ⟨true, f8 x hxa v v1, fun _ a ha => ⟨rfl, x2, ?_, m', en'.set i none, S1, er'.gone i _, s, ?_⟩, fun z => nomatch z⟩
        · show (σ'.set i (some (.ref a)))[i]? = _
          exact List.getElem?_set_self (by rw [← er'.len]; exact hlt)
        · have q := post_later g q9
          rw [bind_eq] at q
          cases e2 : exB C h (en'.set i none) S1 with
          | stuck => rw [e2] at q; exact q.elim
          | exc c d S2 => rw [e2] at q; exact q
          | ok fl S2 =>
            rw [e2] at q
            intro m2 H2 g2 s2
            cases fl with
            | nx en2 => exact fun σ2 er2 _ => (show post X.K E0x m' H' (.ok (Flow.nx (en2.set i none)) S2) (flowP X.mg W Dn) from q) m2 H2 g2 s2 _ (er2.gone i _)
            | brk en2 => exact (show False from q).elim
            | cnt en2 => exact (show False from q).elim
            | ret d => exact (show False from q).elim
            | exc c d en2 => exact (show False from q).elim
      · rw [if_neg hcc] at q9
        exact q9.elim
end
end NL
namespace NL
open PySem PySem.Spec PyProof.Rows L2
/-- what is said of a class by its name: an own one, a built-in one -/
inductive ClsF (K : PySem.W.Frag) (C : Addr) (mg : Str → Option Value) (t : Str) (b : Bool) : Prop
  | own {A : Addr} : mg t = some (.ref A) → PySem.W.isClsIn K A = true → PySem.W.typeIn K (.ref A) = some (.type "type") → PySem.W.subIn K (.ref C) (.ref A) = some b → PySem.W.subIn K (.ref A) (.type "BaseException") = some true → PySem.W.subIn K (.ref C) (.ref C) = some true → ClsF K C mg t b
  | blt {n : String} : mg t = none → bootBuiltins t = some (.type n) → t ≠ ("__name__" : Str) → PySem.W.kitMeta n = true → PySem.W.subIn K (.ref C) (.type n) = some b → PySem.W.subIn K (.type n) (.type "BaseException") = some true → ClsF K C mg t b
theorem ClsF.at {K : PySem.W.Frag} {C : Addr} {mg : Str → Option Value} {t : Str} {b : Bool} (h : ClsF K C mg t b) : ∃ v, ClsAt mg t v ∧ PySem.W.kitOne K (.ref C) v = some b ∧ PySem.W.exmOne K (.ref C) v = some b := by
  cases h with
  | @own A h1 h2 h3 h4 h5 h6 =>
    have e2 : ((PySem.W.clsIn K A).isSome && PySem.W.typeIn K (.ref A) == some (.type "type")) = true := by
      rw [show (PySem.W.clsIn K A).isSome = true from h2, h3] <;> rfl
    have kc : PySem.W.kitCls K (.ref C) (.ref A) = some b := by
      show (if ((PySem.W.clsIn K A).isSome && PySem.W.typeIn K (.ref A) == some (.type "type")) = true then PySem.W.subIn K (.ref C) (.ref A) else none) = some b
      rw [if_pos e2]; exact h4
    refine ⟨_, .inl ⟨h1, _, rfl⟩, ?_, ?_⟩
    · unfold PySem.W.kitOne
      split
      · rename_i z
        have e : C = A := Value.ref.inj (beq_iff_eq.mp z)
        subst e
        rw [h6] at h4; exact h4
      · exact kc
    · unfold PySem.W.exmOne
      rw [if_pos (by rw [h5] <;> rfl)]; exact kc
  | @blt n h1 h2 h3 h4 h5 h6 =>
    have kc : PySem.W.kitCls K (.ref C) (.type n) = some b := by
      show (if PySem.W.kitMeta n = true then PySem.W.subIn K (.ref C) (.type n) else none) = some b
      rw [if_pos h4]; exact h5
    refine ⟨_, .inr ⟨h1, h2, h3, n, rfl⟩, ?_, ?_⟩
    · unfold PySem.W.kitOne
      split
      · rename_i z
        cases beq_iff_eq.mp z
      · exact kc
    · unfold PySem.W.exmOne
      rw [if_pos (by rw [h6] <;> rfl)]; exact kc
theorem sub_ve {K : PySem.W.Frag} : PySem.W.subIn K (.type "ValueError") (.type "BaseException") = some true := by
  have z : (fastBuiltinMro "ValueError").map (fun l => l.contains (Value.type "BaseException")) = some true := by decide +kernel
  exact z
theorem ClsAt.uniq {mg : Str → Option Value} {t : Str} {v w : Value} (h : ClsAt mg t v) (g : ClsAt mg t w) : v = w := by
  rcases h with ⟨h1, _⟩ | ⟨h1, h2, _⟩ <;> rcases g with ⟨g1, _⟩ | ⟨g1, g2, _⟩
  · exact Option.some.inj (h1.symm.trans g1)
  · rw [h1] at g1; cases g1
  · rw [g1] at h1; cases h1
  · exact Option.some.inj (h2.symm.trans g2)
theorem xfacts_of {K : PySem.W.Frag} {mg : Str → Option Value} {xi : XI} {C : Addr} (h1 : mg xi.cls = some (.ref C)) (h2 : PySem.W.excIn K C [.type "ValueError", .type "Exception", .type "BaseException", .type "object"] "ValueError.__new__" = true) (h3 : PySem.W.keepIn K (.ref C) = true) (h4 : PySem.W.typeIn K (.ref C) = some (.type "type")) (h5 : ExcC K C)
    (h6 : ∀ t ∈ xi.anc, ClsF K C mg t true) (h7 : ∀ t ∈ xi.nin, ClsF K C mg t false) : XFacts K mg xi :=
  ⟨C, h1, h2, h3, h4, h5, fun t ht => (h6 t ht).at.imp fun v h => ⟨h.1, h.2.1⟩, fun t ht => (h7 t ht).at.imp fun v h => ⟨h.1, h.2.1⟩, fun t ht v hv => by
    obtain ⟨w, w1, _, w3⟩ := (h6 t ht).at
    rw [hv.uniq w1]; exact w3⟩
end NL

/-! Statements: what is read answers as the machine does. -/
namespace NL
open PySem PySem.Spec PyProof.Rows L2
section
variable {N : List Str} {C : Nat → List D → M D} {ft : FTab} {X : Cx} {sc : Scope} {W : WX}
theorem names_len {f : Str → Option Nat} : ∀ {es : List Expr} {is : List Nat}, namesOf f es = some is → es.length = is.length
  | [], _, h => by cases h; rfl
  | e :: es, is, h => by
    cases e <;> simp only [namesOf] at h <;> try cases h
    rename_i x p
    cases e1 : f x with
    | none => rw [e1] at h; cases h
    | some i =>
      cases e2 : namesOf f es with
      | none => rw [e1, e2] at h; cases h
      | some is' =>
        rw [e1, e2] at h
        cases h
        show _ + 1 = _ + 1
        rw [names_len e2]
theorem fm_len {α β : Type} (f : α → Option β) : ∀ ts : List α, (ts.filterMap f).length = ts.length → ∀ t ∈ ts, ∃ y, f t = some y
  | [], _, _, h => by cases h
  | t :: ts, hl, u, hu => by
    rw [List.filterMap_cons] at hl
    cases e : f t with
    | none =>
      rw [e] at hl
      have := List.length_filterMap_le f ts
      simp only [List.length_cons] at hl
      omega
    | some y =>
      rw [e] at hl
      rcases List.mem_cons.mp hu with rfl | hu
      · exact ⟨y, e⟩
      · exact fm_len f ts (by simpa using hl) u hu
theorem nmOf_some {l : Nat} {e : Expr} {x : Str} (h : nmOf sc l e = some x) : ∃ p, e = .Name x p ∧ sc.names.lookup x = some .local := by
  cases e <;> simp only [nmOf] at h <;> try cases h
  rename_i y p
  split at h
  · rename_i c
    cases h
    have key : ∀ o : Option NameKind, (o == some .local) = true → o = some .local := fun o h => by
      cases o with
      | none => cases h
      | some k => cases k <;> first | rfl | cases h
    exact ⟨p, rfl, key _ (Bool.and_eq_true_iff.mp c).1⟩
  · cases h
/-- what the right-to-left stores read -/
theorem swP_some {ts vs : List Expr} {nm : List Str} (h : swP sc ts vs = some (some nm)) : (ts.length = 2 ∨ ts.length = 3) ∧ vs.length = ts.length ∧ nm = ts.filterMap (nmOf sc (lineOf ts)) ∧ nm.length = ts.length := by
  unfold swP at h
  split at h
  · cases h
  · rename_i c1
    split at h
    · cases h
    · split at h
      · cases h
      · rename_i c3
        split at h
        · cases h
        · split at h
          · cases h
          · cases h
            simp only [Bool.or_eq_true, not_or, Bool.not_eq_true', bne_iff_ne, ne_eq, Decidable.not_not, beq_iff_eq, Bool.or_eq_false_iff, beq_eq_false_iff_ne, not_and] at c1 c3
            refine ⟨?_, c1.2, rfl, c3.1⟩
            have := c1.1
            omega
theorem s_unpV {s : Stmt} {is : List Nat} {es : Es} (h : PS X s (fun Dn σ H => tA X.K X.mg W (evEs C es) σ H fun vs H1 => vs.length = is.length ∧ Dn.nx (NL.setV σ is vs) H1)) : PS X s (tS X.K X.mg W (exS C (.unp is (.tup es)))) := by
  refine PS.imp h fun Dn σ H ⟨m, en, S, er, sr, q⟩ => ?_
  unfold exS evE at q
  have q0 := lift_post q er
  rw [bind_as] at q0
  refine tG_use er sr (post_bind q0) fun xs m1 S1 H1 vs g er1 sr1 q1 rx => ?_
  by_cases hz : xs.length ≤ sizeLine
  · rw [if_pos hz] at q1
    have q1 : post X.K (Wd X.mg W σ) m1 H1 (unpD is.length (.tup xs) S1) _ := q1
    by_cases hc : xs.length = is.length
    · have e : unpD is.length (.tup xs) = pure xs := if_pos hc
      rw [e] at q1
      exact ⟨by rw [← rx.length]; exact hc, flow_nx sr1 (post_now sr1 q1) (ER.setAll er1 rx)⟩
    · have e : unpD is.length (.tup xs) = die := if_neg hc
      rw [e] at q1
      exact q1.elim
  · rw [if_neg hz] at q1
    exact q1.elim
theorem two_of {α : Type} {xs : List α} (h : xs.length = 2) : ∃ a b, xs = [a, b] := by
  rcases xs with _ | ⟨a, _ | ⟨b, _ | ⟨c, xs⟩⟩⟩
  · cases h
  · cases h
  · exact ⟨a, b, rfl⟩
  · simp at h
theorem three_of {α : Type} {xs : List α} (h : xs.length = 3) : ∃ a b c, xs = [a, b, c] := by
  rcases xs with _ | ⟨a, _ | ⟨b, _ | ⟨c, _ | ⟨d, xs⟩⟩⟩⟩
  · cases h
  · cases h
  · cases h
  · exact ⟨a, b, c, rfl⟩
  · simp at h
theorem s_par {ts vs : List Expr} {nm : List Str} {is : List Nat} {es : Es} {k k2 : Nat} {p p2 pos : Pos} (w : SOk X sc N C ft W) (h : swP sc ts vs = some (some nm)) (hn : namesOf (locOf sc N) ts = some is) (nd : is.Nodup) (ha : PA X vs (tA X.K X.mg W (evEs C es))) :
    PS X (.Assign [.Tuple ts k p] (.Tuple vs k2 p2) pos) (tS X.K X.mg W (exS C (.unp is (.tup es)))) := by
  have hw := swapped_eq (k := k) (k2 := k2) (p := p) (p2 := p2) h w.sc w.kind
  obtain ⟨h1, h2, h3, h4⟩ := swP_some h
  have hlen := names_len hn
  have all := fm_len _ ts (by rw [← h3]; exact h4)
  have nmx : ∀ x i, locOf sc N x = some i → X.N[i]? = some x := fun x i hx => (w.put x i hx).1
  rcases h1 with h1 | h1
  · obtain ⟨t1, t2, rfl⟩ := two_of h1
    obtain ⟨a, b, rfl⟩ := two_of (h2.trans h1)
    obtain ⟨i, j, rfl⟩ := two_of (hlen.symm.trans h1)
    obtain ⟨x, ex⟩ := all t1 (by simp)
    obtain ⟨y, ey⟩ := all t2 (by simp)
    rw [List.filterMap_cons, ex, List.filterMap_cons, ey] at h3
    subst h3
    obtain ⟨px, rfl, lx⟩ := nmOf_some ex
    obtain ⟨py, rfl, ly⟩ := nmOf_some ey
    simp only [namesOf] at hn
    cases e1 : locOf sc N x with
    | none => rw [e1] at hn; cases hn
    | some i' =>
      cases e2 : locOf sc N y with
      | none => rw [e1, e2] at hn; cases hn
      | some j' =>
        rw [e1, e2] at hn
        cases hn
        have hij : i ≠ j := by simpa using nd
        refine s_unpV (PS.imp (ps_par w.calm w.nd' (nmx x i e1) (nmx y j e2) hij (by rw [w.sc]; exact lx) (by rw [w.sc]; exact ly) ha hw rfl) fun Dn σ H ⟨m, en, S, er, sr, q⟩ => ?_)
        refine ⟨m, en, S, er, sr, post_mono q fun xs m1 S1 H1 g s q1 vs rv => ?_⟩
        obtain ⟨hl, q2⟩ := q1 vs rv
        obtain ⟨u, v, rfl⟩ := two_of hl
        exact ⟨u, v, rfl, q2⟩
  · obtain ⟨t1, t2, t3, rfl⟩ := three_of h1
    obtain ⟨a, b, c, rfl⟩ := three_of (h2.trans h1)
    obtain ⟨i, j, l, rfl⟩ := three_of (hlen.symm.trans h1)
    obtain ⟨x, ex⟩ := all t1 (by simp)
    obtain ⟨y, ey⟩ := all t2 (by simp)
    obtain ⟨z, ez⟩ := all t3 (by simp)
    rw [List.filterMap_cons, ex, List.filterMap_cons, ey, List.filterMap_cons, ez] at h3
    subst h3
    obtain ⟨px, rfl, lx⟩ := nmOf_some ex
    obtain ⟨py, rfl, ly⟩ := nmOf_some ey
    obtain ⟨pz, rfl, lz⟩ := nmOf_some ez
    simp only [namesOf] at hn
    cases e1 : locOf sc N x with
    | none => rw [e1] at hn; cases hn
    | some i' =>
      cases e2 : locOf sc N y with
      | none => rw [e1, e2] at hn; cases hn
      | some j' =>
        cases e3 : locOf sc N z with
        | none => rw [e1, e2, e3] at hn; cases hn
        | some l' =>
          rw [e1, e2, e3] at hn
          cases hn
          have hne : i ≠ j ∧ i ≠ l ∧ j ≠ l := by
            simp only [List.nodup_cons, List.mem_cons, List.not_mem_nil, or_false, not_or] at nd
            exact ⟨nd.1.1, nd.1.2, nd.2.1⟩
          refine s_unpV (PS.imp (ps_par3 w.calm w.nd' (nmx x i e1) (nmx y j e2) (nmx z l e3) hne.1 hne.2.1 hne.2.2 (by rw [w.sc]; exact lx) (by rw [w.sc]; exact ly) (by rw [w.sc]; exact lz) ha hw rfl) fun Dn σ H ⟨m, en, S, er, sr, q⟩ => ?_)
          refine ⟨m, en, S, er, sr, post_mono q fun xs m1 S1 H1 g s q1 vs rv => ?_⟩
          obtain ⟨hl, q2⟩ := q1 vs rv
          obtain ⟨u, v, t, rfl⟩ := three_of hl
          exact ⟨u, v, t, rfl, q2⟩
theorem swapped_none {ts : List Expr} {e : Expr} {k : Nat} {p : Pos} {env : PySem.Env} (h : ∀ vs k2 p2, e ≠ .Tuple vs k2 p2) : swappedStores [.Tuple ts k p] e env = pure none := by
  cases e <;> first | rfl | exact absurd rfl (h _ _ _)
theorem sole_tup {ts : List Expr} {e : Expr} {k l : Nat} {p : Pos} {env : PySem.Env} (hp : plainE e = true) : swapsWithSole [.Tuple ts k p] e l env = pure false :=
  (show swapsWith e (some (.Tuple ts k p)) l env = pure false from swaps_tup hp)
theorem lift_lock {K : PySem.W.Frag} {Ex : Str → Option Nat → List Addr → Store → Hp → Prop} {m : List Addr} {H : Hp} {S : Store} {en : NL.Env} {f : M D} {i : Option Nat} {g : D → NL.Env} {F : Flow → List Addr → Store → Hp → Prop}
    (q : post K Ex m H (lift en (lockM (fun _ => true) i en f) (fun d => pure (.nx (g d))) S) F) : post K Ex m H (lockM Flow.fine i en (lift en f fun d => pure (.nx (g d))) S) F := by
  cases hl : lkOf i en S with
  | none =>
    rw [lockM_none hl]
    unfold lift at q ⊢
    rw [lockM_none hl] at q
    exact q
  | some p =>
    obtain ⟨l, kvs⟩ := p
    rw [lockM_some hl]
    unfold lift at q ⊢
    rw [lockM_some hl] at q
    cases hf : f (S.set l (.dct true kvs)) with
    | exc _ _ _ => rw [hf] at q; exact q.elim
    | stuck => rw [hf] at q; exact q.elim
    | ok a S' =>
      rw [hf] at q
      dsimp only [pure_eq] at q ⊢
      cases h1 : S'[l]? with
      | none => rw [h1] at q; exact q.elim
      | some o =>
        rw [h1] at q
        cases o with
        | lst _ => exact q.elim
        | frz _ => exact q.elim
        | dct b kvs' =>
          cases b with
          | false => exact q.elim
          | true => exact q
theorem s_setA {x : Str} {px pos : Pos} {i n : Nat} {e : Expr} {e' : E} (w : SOk X sc N C ft W) (hx : locOf sc N x = some i) (hp : plainE e = true) (h : comE ft N n sc e = some e') : PS X (.Assign [.Name x px] e pos) (tS X.K X.mg W (exS C (.set i e'))) := by
  have he := (comE_ok n X sc W e e' w.toXOk h).1
  by_cases hc : isComp e = true
  · cases e <;> try cases hc
    rename_i elt gens scope p
    cases n with
    | zero => unfold comE at h; cases h
    | succ n =>
    obtain ⟨tg, it, ifs, own', t', it', c', e1', rfl, rfl, own, wi, g, tt, te, hi, hb, hg, ht, hel, hs, k⟩ := comE_comp w.toXOk h
    obtain ⟨h1, h2, h3⟩ := w.put x i hx
    have fin0 : ∀ {t : TE}, PS X (.Assign [.Name x px] (.ListComp elt [⟨tg, it, ifs, 0⟩] scope p) pos) (tAsg t (gName i)) → (∀ σ H Q, tE X.K X.mg W (compI C own' t' it' c' e1') σ H Q → t σ H Q) → PS X (.Assign [.Name x px] (.ListComp elt [⟨tg, it, ifs, 0⟩] scope p) pos) (tS X.K X.mg W (exS C (.set i (.comp own' t' it' c' e1')))) := fun {t} h hk => by
      have h0 : PS X (.Assign [.Name x px] (.ListComp elt [⟨tg, it, ifs, 0⟩] scope p) pos) (tS X.K X.mg W fun en => lift en (compI C own' t' it' c' e1' en) fun d => pure (.nx (en.set i (some d)))) := by
        refine PS.imp h fun Dn σ H ⟨m, en, S, er, sr, q⟩ => ?_
        refine hk σ H _ (tG_use er sr (lift_post q er) fun d m1 S1 H1 v g er1 sr1 q1 rx => ?_)
        exact flow_nx sr1 q1 (er1.set rx i)
      refine PS.imp (s_lock (i := it'.lk) h0) fun Dn σ H ⟨m, en, S, er, sr, q⟩ => ⟨m, en, S, er, sr, ?_⟩
      unfold exS at q
      rw [evE_comp] at q
      exact lift_lock q
    have fin : ∀ {t : TE}, PS X (.Assign [.Name x px] (.ListComp elt [⟨tg, it, ifs, 0⟩] scope p) pos) (tAsg t (gName i)) → (∀ σ H Q, tE X.K X.mg W (evE C (.comp own' t' it' c' e1')) σ H Q → t σ H Q) → PS X (.Assign [.Name x px] (.ListComp elt [⟨tg, it, ifs, 0⟩] scope p) pos) (tS X.K X.mg W (exS C (.set i (.comp own' t' it' c' e1')))) := fun {t} h hk => by
      refine PS.imp h fun Dn σ H ⟨m, en, S, er, sr, q⟩ => ?_
      unfold exS at q
      refine hk σ H _ (tG_use er sr (lift_post q er) fun d m1 S1 H1 v g er1 sr1 q1 rx => ?_)
      exact flow_nx sr1 q1 (er1.set rx i)
    obtain ⟨b, hb2⟩ : ∃ b, swapsWith (.ListComp elt [⟨tg, it, ifs, 0⟩] scope p) (some (.Name x px)) pos.line X.env = pure b := ⟨_, rfl⟩
    cases b with
    | false => exact fin (ps_set w.nd' h1 h2 he hb2 h3) fun _ _ _ q => q
    | true =>
      by_cases hl : X.env.scope.names.lookup x = some .local
      · exact fin0 (ps_setLc w.calm w.nd' h1 hl hb2 hi hb hg ht hel hs) k
      · have : swapsWith (.ListComp elt [⟨tg, it, ifs, 0⟩] scope p) (some (.Name x px)) pos.line X.env = pure false := by
          have key : ∀ o : Option NameKind, ¬ o = some .local → (o == some .local) = false := fun o h => by
            cases o with
            | none => rfl
            | some k => cases k <;> first | rfl | exact absurd rfl h
          unfold swapsWith
          have e : (X.env.kindOf x == some .local) = false := key _ hl
          simp only [e]
          rw [Bool.and_false, Bool.false_and, Bool.false_and]
        exact fin (ps_set w.nd' h1 h2 he this h3) fun _ _ _ q => q
  · exact s_set w hx hp (by simpa using hc) he
theorem comSs_ok {f : Stmt → Option NL.St} : ∀ {ss : List Stmt} {r : Sts}, comS.comSs f ss = some r → (∀ s r, f s = some r → PS X s (tS X.K X.mg W (exS C r))) → PSs X ss (tS X.K X.mg W (exB C r))
  | [], _, h, _ => by cases h; exact s_nil
  | s :: ss, r, h, hf => by
    simp only [comS.comSs] at h
    cases e1 : f s with
    | none => rw [e1] at h; cases h
    | some a =>
      cases e2 : comS.comSs f ss with
      | none => rw [e1, e2] at h; cases h
      | some b =>
        rw [e1, e2] at h
        cases h
        exact s_cons (hf s a e1) (comSs_ok e2 hf)
theorem comS_okG : ∀ (n : Nat) (X : Cx) (W : WX), SOk X sc N C ft W → ∀ (s : Stmt) (s' : NL.St), comS ft N sc n s = some s' → PS X s (tS X.K X.mg W (exS C s')) := by
  intro n
  induction n with
  | zero => intro X W w s s' h; unfold comS at h; cases h
  | succ n ihG =>
    intro X W w s s' h
    have ih := ihG X W w
    have ex : ∀ {e : Expr} {e' : E}, comE ft N n sc e = some e' → PE X e (tE X.K X.mg W (evE C e')) ∧ PT X e (tT X.K X.mg W fun en => evE C e' en >>= truD) ∧ plainE e = true := fun {e e'} h => ⟨(comE_ok n X sc W e e' w.toXOk h).1, (comE_ok n X sc W e e' w.toXOk h).2, comE_plain h⟩
    have many : ∀ {es : List Expr} {r : Es}, comL (comE ft N n sc) es = some r → PA X es (tA X.K X.mg W (evEs C r)) := fun {es r} hc => p_list hc fun x _ r hr => ⟨comE_plain hr, (ex hr).1⟩
    cases s with
    | Return v pos =>
      cases v with
      | none => simp only [comS] at h; cases h; exact s_ret0
      | some e =>
        simp only [comS] at h
        obtain ⟨e', he, rfl⟩ := Option.map_eq_some_iff.mp h
        exact s_ret (ex he).1
    | If c a b pos =>
      simp only [comS] at h
      split at h
      · rename_i c' a' b' e1 e2 e3
        cases h
        exact s_if (ex e1).2.1 (comSs_ok e2 ih) (comSs_ok e3 ih)
      · cases h
    | For tg it b orelse pos =>
      cases orelse with
      | cons _ _ => simp only [comS] at h; cases h
      | nil =>
        simp only [comS] at h
        split at h
        · rename_i t i b' e1 e2 e3
          cases h
          obtain ⟨hi, hp⟩ := i_of (tg := tg) w.toXOk e2 fun x r hr => ⟨(ex hr).2.2, (ex hr).1⟩
          exact s_for w hp e1 hi (comSs_ok e3 ih)
        · cases h
    | While c b orelse pos =>
      cases orelse with
      | cons _ _ => simp only [comS] at h; cases h
      | nil =>
        simp only [comS] at h
        split at h
        · rename_i c' b' e1 e2
          cases h
          exact s_whl w (ex e1).2.1 (comSs_ok e2 ih)
        · cases h
    | Break pos => simp only [comS] at h; cases h; exact s_brk
    | Continue pos => simp only [comS] at h; cases h; exact s_cnt
    | Pass pos => simp only [comS] at h; cases h; exact s_pass
    | Raise a b pos => simp only [comS] at h; cases h; exact s_raise w
    | Try body hds orelse fin pos =>
      unfold comS at h
      split at h
      all_goals try (cases h; done)
      all_goals try (exfalso; cases ‹Stmt.Try body hds orelse fin pos = _›; done)
      have hs := ‹Stmt.Try body hds orelse fin pos = _›
      injection hs with h1 h2 h3 h4 h5
      subst h1 h2 h3 h4
      split at h
      · rename_i xi i b e1 e2 e3
        split at h
        · rename_i hc
          obtain ⟨hh, e4, rfl⟩ := Option.map_eq_some_iff.mp h
          exact s_try w e1 e2 hc.1 hc.2.1 hc.2.2 e4 fun pn xe W' w' => comSs_ok e3 fun s r hr => ihG _ W' w' s r hr
        · cases h
      · cases h
    | AugAssign tg op e pos =>
      cases tg <;> cases op <;> simp only [comS] at h <;> try cases h
      split at h
      · rename_i i e' e1 e2
        cases h
        exact s_aug w e1 (ex e2).1
      · cases h
    | Expr e pos =>
      have dflt : (if isComp e = true then none else (comE ft N n sc e).map NL.St.expr) = some s' → PS X (.Expr e pos) (tS X.K X.mg W (exS C s')) := fun h => by
        split at h
        · cases h
        · rename_i hc
          obtain ⟨e', he, rfl⟩ := Option.map_eq_some_iff.mp h
          exact s_expr (ex he).2.2 (by simpa using hc) (ex he).1
      unfold comS at h
      split at h
      all_goals try (cases h; done)
      all_goals try (exfalso; cases ‹Stmt.Expr e pos = _›; done)
      all_goals
        have hs := ‹Stmt.Expr e pos = _›
        injection hs with h1 h2
        subst h1
        subst h2
      · split at h
        · rename_i hm
          split at h
          · rename_i i e' e1 e2
            split at h
            · rename_i hm1
              cases h
              subst hm1
              exact s_app w e1 hm (ex e2).2.2 (ex e2).1
            · split at h
              · rename_i hm1
                cases h
                subst hm1
                exact s_ext w e1 hm (ex e2).2.2 (ex e2).1
              · cases h
          · cases h
        · cases h
      · split at h
        · rename_i i e1
          split at h
          · rename_i hm
            cases h
            obtain ⟨hm1, hm2⟩ := hm
            subst hm1
            exact s_pop0 w e1 hm2
          · split at h
            · rename_i hm
              cases h
              obtain ⟨hm1, hm2⟩ := hm
              subst hm1
              exact s_clr w e1 hm2
            · cases h
        · cases h
      · cases h; exact s_doc
      · exact dflt h
    | Assign ts e pos =>
      unfold comS at h
      split at h
      all_goals try (cases h; done)
      all_goals try (exfalso; cases ‹Stmt.Assign ts e pos = _›; done)
      all_goals
        have hs := ‹Stmt.Assign ts e pos = _›
        injection hs with h1 h2 h3
        subst h1
        subst h2
        subst h3
      · split at h
        · rename_i j i e1 e2
          split at h
          · rename_i hm
            cases h
            obtain ⟨hm1, hm2⟩ := hm
            subst hm1
            exact s_pop1 w e2 e1 hm2
          · cases h
        · cases h
      · split at h
        · rename_i j i k' e1 e2 e3
          split at h
          · rename_i hm
            cases h
            obtain ⟨hm1, hm2⟩ := hm
            subst hm1
            exact s_dpop w e2 e1 hm2 (ex e3).2.2 (ex e3).1
          · cases h
        · cases h
      · split at h
        · rename_i i e' e1 e2
          cases h
          have hpl := (ex e2).2.2
          exact s_setA w e1 hpl e2
        · cases h
      · split at h
        · rename_i is es e1 e2 e3
          cases h
          have hE : ∀ k p, comE ft N (n + 1) sc (.Tuple _ k p) = some (.tup es) := fun k p => by simp only [comE]; rw [e3]; rfl
          exact s_unpG w e2 (comE_ok (n + 1) X sc W _ _ w.toXOk (hE _ _)).1 (sole_tup rfl) (swapped_eq e1 w.sc w.kind)
        · rename_i nm is es e1 e2 e3
          split at h
          · rename_i hc
            cases h
            exact s_par w e1 e2 hc.1 (many e3)
          · cases h
        · cases h
      · split at h
        · rename_i is e' e1 e2
          cases h
          have hpl := (ex e2).2.2
          refine s_unpG w e1 (ex e2).1 (sole_tup hpl) (swapped_none fun vs k2 p2 z => ?_)
          subst z
          rename_i hx _
          exact hx _ _ _ rfl
        · cases h
      · split at h
        · cases h
        · rename_i hc
          split at h
          · rename_i o' i' e' e1 e2 e3
            cases h
            exact s_setIx w (by simpa using hc) (ex e3).2.2 (ex e1).1 (ex e2).1 (ex e3).1
          · cases h
    | _ => simp only [comS] at h; cases h
theorem comS_ok (w : SOk X sc N C ft W) (n : Nat) (s : Stmt) (s' : NL.St) (h : comS ft N sc n s = some s') : PS X s (tS X.K X.mg W (exS C s')) := comS_okG n X W w s s' h
end
end NL

/-! Defs, calls, the end of a law. -/
namespace NL
open PySem PySem.Spec PyProof.Rows L2
/-- a def of the program: its name, its text, its names (the parameters first), how it is read -/
structure Ent where
  name : Str
  st : Stmt
  N : List Str
  ps : List Str
  fn : Fn
def idxOf (x : Str) : List Ent → Option (Nat × Nat)
  | [] => none
  | e :: r => if e.name = x then some (0, e.ps.length) else (idxOf x r).map fun p => (p.1 + 1, p.2)
abbrev ftOf (tab : List Ent) (xi : Option XI := none) : FTab := ⟨fun x => idxOf x tab, xi⟩
abbrev tabT (tab : List Ent) : Nat → Option Fn := fun i => (tab[i]?).map (·.fn)
theorem idxOf_some {x : Str} : ∀ {tab : List Ent} {i ar : Nat}, idxOf x tab = some (i, ar) → ∃ e, tab[i]? = some e ∧ e.name = x ∧ e.ps.length = ar
  | [], _, _, h => by cases h
  | e :: r, i, ar, h => by
    unfold idxOf at h
    split at h
    · rename_i hx
      cases h
      exact ⟨e, rfl, hx, rfl⟩
    · obtain ⟨⟨j, a⟩, hj, he⟩ := Option.map_eq_some_iff.mp h
      cases he
      obtain ⟨e', h1, h2, h3⟩ := idxOf_some hj
      exact ⟨e', by simpa using h1, h2, h3⟩
/-- the text reads so -/
structure EOk (ft : FTab) (e : Ent) : Prop where
  com : comF ft e.N e.st = some e.fn
  sc : FnScope e.N e.ps (defScope e.st)
  np : e.fn.np = e.ps.length
  nv : e.fn.nv = e.N.length
/-- it stands there -/
structure DAt (K : PySem.W.Frag) (mg : Str → Option Value) (e : Ent) (f : Addr) (fd : FuncData) : Prop where
  fn : Fun K e.name e.name e.st f fd
  mgf : mg e.name = some (.ref f)
  bind : ∀ us : List Value, us.length = e.ps.length → bindArgs fd ⟨us, []⟩ = pure (e.ps.zip us)
def DIn (K : PySem.W.Frag) (mg : Str → Option Value) (e : Ent) : Prop := ∃ f fd, DAt K mg e f fd
structure Blts (mg : Str → Option Value) : Prop where
  blt : ∀ b : Blt, mg b.name = none
  isi : mg "isinstance" = none
  rng : mg "range" = none
  enm : mg "enumerate" = none
  zip : mg "zip" = none
  rev : mg "reversed" = none
  st : mg "set" = none
  ty : ∀ t : Ty, mg t.name = none
section
variable {P : Program} {w : World} {K : PySem.W.Frag} {mg : Str → Option Value} {base : Heap}
theorem ER.start {m : List Addr} {H : Hp} {ds : List D} {vs : List V} {N : List Str} {k : Nat} (r : Reps m H ds vs) (hl : ds.length = k) : ER m H (ds.map some ++ List.replicate (N.length - k) none) (L2.start N vs) := by
  subst hl
  refine ⟨by unfold L2.start; simp [r.length], fun i d h => ?_⟩
  unfold L2.start
  by_cases hi : i < ds.length
  · rw [List.getElem?_append_left (by simpa using hi), List.getElem?_map] at h
    rw [List.getElem?_append_left (by rw [List.length_map, ← r.length]; exact hi), List.getElem?_map]
    cases e : ds[i]? with
    | none => rw [e] at h; cases h
    | some d' =>
      rw [e] at h
      have h : some (some d') = some (some d) := h
      cases h
      obtain ⟨v, h1, h2⟩ := r.get e
      exact ⟨v, by rw [h1]; rfl, h2⟩
  · rw [List.getElem?_append_right (by simpa using Nat.le_of_not_lt hi), List.getElem?_replicate] at h
    split at h
    · cases h
    · cases h
theorem fn_ok {tab : List Ent} {xi : Option XI} (hX : ∀ x, xi = some x → XFacts K mg x) (hE : ∀ (i : Nat) (e : Ent), tab[i]? = some e → EOk (ftOf tab xi) e) (hD : ∀ (i : Nat) (e : Ent), tab[i]? = some e → DIn K mg e) (hb : Blts mg) :
    ∀ (n i : Nat) (e : Ent) (f : Addr) (fd : FuncData), tab[i]? = some e → DAt K mg e f fd → FnOk P w K mg base (L2.CX P w) n f fd e.ps (spM K mg e.ps.length (callT (tabT tab) n i)) := by
  intro n
  induction n with
  | zero =>
    intro i e f fd he dat
    have no : ∀ vs H Q E, ¬ spM K mg e.ps.length (callT (tabT tab) 0 i) vs H Q E := fun vs H Q E ⟨m, S, ds, h1, h2, h3, h4⟩ => h4
    exact ⟨fun vs H Q E h => absurd h (no vs H Q E), fun A outer s H args us vs Q E _ _ _ _ h => absurd h (no vs H Q E)⟩
  | succ n ih =>
    intro i e f fd he dat
    have ok := hE i e he
    refine dat.fn.okX ok.sc (fun vs H Q E ⟨m, S, ds, h1, h2, h3, h4⟩ => by rw [← h2.length, h3]) (fun cdv A outer s H vs Q E hr ⟨m, S, ds, h1, h2, h3, h4⟩ => ?_)
    have fo : FOk (cxOf (L2.CX P w) P w K mg base e.N e.name (defScope e.st) f cdv A outer s H E) (callT (tabT tab) n) (ftOf tab xi) := by
      refine ⟨hX, fun g id ar hg => ?_, hb.blt, hb.isi, hb.rng, hb.enm, hb.zip, hb.rev, hb.st, hb.ty⟩
      obtain ⟨e', q1, q2, q3⟩ := idxOf_some hg
      obtain ⟨a, fd', D'⟩ := hD id e' q1
      subst q2 q3
      exact ⟨a, fd', e'.ps, n, ih id e' a fd' q1 D', hr, D'.mgf, D'.fn.kp, .all D'.bind⟩
    have hcom := ok.com
    unfold comF at hcom
    split at hcom
    · rename_i b hb2
      have hfn : e.fn = ⟨(defArgs e.st).args.length, e.N.length, b⟩ := (Option.some.inj hcom).symm
      have hbody : e.fn.body = b := by rw [hfn]
      have w2 : SOk (cxOf (L2.CX P w) P w K mg base e.N e.name (defScope e.st) f cdv A outer s H E) (defScope e.st) e.N (callT (tabT tab) n) (ftOf tab xi) (fun cls d _ H => E cls d H) :=
        { hN := rfl, sc := rfl, nd := ok.sc.nd, calm := rfl, hu := (by
            have h := hr.un
            have e2 : (cxOf (L2.CX P w) P w K mg base e.N e.name (defScope e.st) f cdv A outer s H E).A = A.deeper (envOfC e.name (defScope e.st) s.heap.objs.size f cdv) := rfl
            rw [e2]
            omega),
          fo := fo, tk := takes_of rfl rfl rfl rfl, put := fun x j hx => ⟨(locOf_some hx).1, (locOf_some hx).2, .inl rfl⟩, pass := passes_of rfl, kind := ok.sc.kind, stk := rfl, frm := rfl }
      refine ⟨_, comSs_ok hb2 fun s0 r hr0 => comS_ok w2 _ s0 r hr0, m, _, S, ER.start h2 h3, h1, ?_⟩
      rw [show callT (tabT tab) (n + 1) i ds = runF (callT (tabT tab) n) e.fn ds by unfold callT; rw [show tabT tab i = some e.fn by unfold tabT; rw [he]; rfl]] at h4
      unfold runF at h4
      rw [if_pos (by rw [h3, ok.np])] at h4
      rw [ok.nv, ok.np, hbody] at h4
      cases er : exB (callT (tabT tab) n) b (ds.map some ++ List.replicate (e.N.length - e.ps.length) none) S with
      | stuck => rw [er] at h4; exact h4.elim
      | exc c d S1 => rw [er] at h4; exact h4.elim
      | ok fl S1 =>
        rw [er] at h4
        cases fl with
        | nx en => exact fun m' H' g sr σ er' => (show post K _ m H (.ok D.non S1) _ from h4) m' H' g sr _ .non
        | brk en => exact h4.elim
        | cnt en => exact h4.elim
        | ret d => exact fun m' H' g sr v rv => (show post K _ m H (.ok d S1) _ from h4) m' H' g sr v rv
        | exc c d en => exact fun m' H' g sr σ cls dd er' hx => (show post K _ m H (.exc c d S1) _ from h4) m' H' g sr cls dd hx
    · cases hcom
/-- THE END: the law's def answers True -/
theorem walk_nl {l : PySem.W.OpenLaw} {q : Program} {loose : List Str} {XP : (Str → Option Value) → Heap → Prop} {YP : World → Heap → Prop} {d : DefRec} {K : Params → PySem.W.Frag} {tab : List Ent} {xi : Option XI} {n i : Nat} {e : Ent}
    (hn : l.most = some 63) (hdf : d.params.defaults = []) (hr : Room n callerA) (hY : ∀ (w : World) (h : Heap), YP w h → (K w.params).In h)
    (hi : tab[i]? = some e) (hnm : e.name = d.name) (hps : e.ps = [("_law_script" : Str)]) (hE : ∀ (i : Nat) (e : Ent), tab[i]? = some e → EOk (ftOf tab xi) e)
    (F : ∀ (w : World) (mg : Str → Option Value) (h : Heap), (K w.params).In h → h.Ns mainGlobals mg → (∀ x, xi = some x → XFacts (K w.params) mg x) ∧ Blts mg ∧ ∀ (i : Nat) (e : Ent), tab[i]? = some e → DIn (K w.params) mg e)
    (law : ∀ ns : List Int, ns.length ≤ 63 → (∀ z ∈ ns, Builtin.Int.intBits z ≤ 1048576) → ∃ S', callT (tabT tab) n i [.ref 0] [.frz (ns.map D.int)] = .ok (.bl true) S') :
    PySem.W.WalkO q loose XP YP l.row.toRowW d [] (fun f vs => PySem.call f vs) := by
  refine L2.walk_ofB (n := 63) (k := n) (x := "_law_script") (CX := fun w => L2.CX l.prog w) (sp := fun w vs H Q E => ∀ mg, spM (K w.params) mg 1 (callT (tabT tab) n i) vs H Q E) hn (by decide) hdf hr hY ?_ ?_ ?_
  · intro w mg fa h KX G hmg
    obtain ⟨hX, hb, hD⟩ := F w mg h KX G
    obtain ⟨f0, fd0, D0⟩ := hD i e hi
    have hm0 := D0.mgf
    rw [hnm, hmg] at hm0
    cases hm0
    refine ⟨fd0, fun s u => ?_, fun base hK hN => ?_⟩
    · have hb1 := D0.bind [u] (by rw [hps]; rfl)
      rw [hps] at hb1
      exact .of_eq hb1
    · have G := fn_ok (P := l.prog) (w := w) (base := base) hX hE hD hb n i e _ _ hi D0
      rw [hps] at G
      exact G.imp fun vs H Q E h => h mg
  · intro w H a ns hlen hbits hO hS
    refine fun mg => ⟨[a], [.frz (ns.map D.int)], [.ref 0], ?_, .cons (.ref rfl) .nil, rfl, ?_⟩
    · refine ⟨rfl, fun l o b h1 h2 => ?_, fun l l' b o o' h1 h2 h3 h4 h5 h6 => ?_⟩
      · cases l with
        | succ l => simp at h1
        | zero =>
          cases h1
          cases h2
          refine ⟨ns.map V.int, ?_, Reps.ints ns⟩
          rcases hS with hS | hS
          · rcases hS with hS | ⟨ob, hS⟩
            · rcases hO a with h | ⟨o, xs, h⟩
              · rw [hS] at h; cases h
              · rw [hS] at h; cases h
            · exact .inl ⟨ob, hS⟩
          · exact .inr hS
      · cases l with
        | succ l => simp at h1
        | zero => cases h3; cases h5
    · obtain ⟨S', e⟩ := law ns hlen hbits
      rw [e]
      intro m' H' g s w hw
      cases hw
      rfl
  · intro w H s e s' h
    obtain ⟨_, _, _, _, _, _, _, _, _, _, _, _, z⟩ := h
    exact z.elim
end
end NL

/-! Values as trees, lists by value: a second reading above the store. -/
namespace VL
open PySem PySem.Spec PyProof.Rows L2 NL
/-- a value, all of it -/
inductive U where
  | non | bl (b : Bool) | int (i : Int) | str (x : Str) | tup (xs : List U) | lst (xs : List U) | frz (xs : List U) | dct (ps : List U)
  deriving Inhabited
inductive VR (α : Type) where
  | ok (a : α) | exc (c : Str) (u : U) | stuck
def VR.bind {α β : Type} (r : VR α) (f : α → VR β) : VR β := match r with
  | .ok a => f a
  | .exc c u => .exc c u
  | .stuck => .stuck
theorem VR.bind_ok {α β : Type} {r : VR α} {f : α → VR β} {b : β} (h : r.bind f = .ok b) : ∃ a, r = .ok a ∧ f a = .ok b := by
  cases r with
  | ok a => exact ⟨a, rfl, h⟩
  | exc c u => cases h
  | stuck => cases h
/-! ### a tree is read at a place of the store, past the places of B -/
/-- a key with what stands there -/
def prD (p : D × D) : D := .tup [p.1, p.2]
mutual
inductive Rd (B : Nat → Prop) (S : Store) : D → U → Prop
  | non : Rd B S .non .non
  | bl (b : Bool) : Rd B S (.bl b) (.bl b)
  | int (i : Int) : Rd B S (.int i) (.int i)
  | str (x : Str) : Rd B S (.str x) (.str x)
  | tup {ds : List D} {us : List U} : Rds B S ds us → Rd B S (.tup ds) (.tup us)
  | lst {l : Nat} {xs : List D} {us : List U} : ¬ B l → S[l]? = some (.lst xs) → Rds B S xs us → Rd B S (.ref l) (.lst us)
  | frz {l : Nat} {xs : List D} {us : List U} : ¬ B l → S[l]? = some (.frz xs) → Rds B S xs us → Rd B S (.ref l) (.frz us)
  | dct {l : Nat} {lk : Bool} {kvs : List (D × D)} {us : List U} : ¬ B l → S[l]? = some (.dct lk kvs) → Rds B S (kvs.map prD) us → Rd B S (.ref l) (.dct us)
inductive Rds (B : Nat → Prop) (S : Store) : List D → List U → Prop
  | nil : Rds B S [] []
  | cons {d : D} {u : U} {ds : List D} {us : List U} : Rd B S d u → Rds B S ds us → Rds B S (d :: ds) (u :: us)
end
mutual
theorem Rd.mono {B B' : Nat → Prop} {S S' : Store} (g : ∀ l o, ¬ B l → S[l]? = some o → ¬ B' l ∧ S'[l]? = some o) : ∀ {d : D} {u : U}, Rd B S d u → Rd B' S' d u
  | _, _, .non => .non
  | _, _, .bl b => .bl b
  | _, _, .int i => .int i
  | _, _, .str x => .str x
  | _, _, .tup r => .tup (Rds.mono g r)
  | _, _, .lst h1 h2 r => .lst (g _ _ h1 h2).1 (g _ _ h1 h2).2 (Rds.mono g r)
  | _, _, .frz h1 h2 r => .frz (g _ _ h1 h2).1 (g _ _ h1 h2).2 (Rds.mono g r)
  | _, _, .dct h1 h2 r => .dct (g _ _ h1 h2).1 (g _ _ h1 h2).2 (Rds.mono g r)
theorem Rds.mono {B B' : Nat → Prop} {S S' : Store} (g : ∀ l o, ¬ B l → S[l]? = some o → ¬ B' l ∧ S'[l]? = some o) : ∀ {ds : List D} {us : List U}, Rds B S ds us → Rds B' S' ds us
  | _, _, .nil => .nil
  | _, _, .cons a r => .cons (Rd.mono g a) (Rds.mono g r)
end
/-- growing -/
def Gw (S S' : Store) : Prop := ∃ U, S' = S ++ U
theorem Gw.refl (S : Store) : Gw S S := ⟨[], by simp⟩
theorem Gw.trans {S S1 S2 : Store} (a : Gw S S1) (b : Gw S1 S2) : Gw S S2 := by
  obtain ⟨U, rfl⟩ := a
  obtain ⟨V, rfl⟩ := b
  exact ⟨U ++ V, by simp⟩
theorem Gw.get {S S' : Store} (g : Gw S S') {l : Nat} {o : Ob} (h : S[l]? = some o) : S'[l]? = some o := by
  obtain ⟨U, rfl⟩ := g
  rw [List.getElem?_append_left (List.getElem?_eq_some_iff.mp h).1]
  exact h
theorem Gw.len {S S' : Store} (g : Gw S S') : S.length ≤ S'.length := by
  obtain ⟨U, rfl⟩ := g
  simp
theorem Gw.app {S U : Store} : Gw S (S ++ U) := ⟨U, rfl⟩
theorem lt_of_get {S : Store} {l : Nat} {o : Ob} (h : S[l]? = some o) : l < S.length := (List.getElem?_eq_some_iff.mp h).1
section
variable {B : Nat → Prop} {S S' : Store}
theorem Rd.gw (g : Gw S S') {d : D} {u : U} (r : Rd B S d u) : Rd B S' d u := r.mono fun l o h1 h2 => ⟨h1, g.get h2⟩
theorem Rds.gw (g : Gw S S') {ds : List D} {us : List U} (r : Rds B S ds us) : Rds B S' ds us := r.mono fun l o h1 h2 => ⟨h1, g.get h2⟩
theorem Rds.length : ∀ {ds : List D} {us : List U}, Rds B S ds us → ds.length = us.length
  | _, _, .nil => rfl
  | _, _, .cons _ t => by rw [List.length_cons, List.length_cons, Rds.length t]
theorem Rds.get : ∀ {ds : List D} {us : List U} {i : Nat} {u : U}, Rds B S ds us → us[i]? = some u → ∃ d, ds[i]? = some d ∧ Rd B S d u
  | _, _, i, u, .nil, e => by simp at e
  | _, _, 0, u, .cons r _, e => by simp at e; subst e; exact ⟨_, rfl, r⟩
  | _, _, i + 1, u, .cons _ t, e => by
    obtain ⟨v, h1, h2⟩ := Rds.get (i := i) t (by simpa using e)
    exact ⟨v, by simpa using h1, h2⟩
theorem Rds.append : ∀ {ds es : List D} {us vs : List U}, Rds B S ds us → Rds B S es vs → Rds B S (ds ++ es) (us ++ vs)
  | _, _, _, _, .nil, s => s
  | _, _, _, _, .cons r t, s => .cons r (Rds.append t s)
theorem Rds.take : ∀ {ds : List D} {us : List U} (n : Nat), Rds B S ds us → Rds B S (ds.take n) (us.take n)
  | _, _, 0, _ => by rw [List.take_zero, List.take_zero]; exact .nil
  | _, _, _ + 1, .nil => by rw [List.take_nil, List.take_nil]; exact .nil
  | _, _, n + 1, .cons r t => by rw [List.take_succ_cons, List.take_succ_cons]; exact .cons r (Rds.take n t)
theorem Rds.drop : ∀ {ds : List D} {us : List U} (n : Nat), Rds B S ds us → Rds B S (ds.drop n) (us.drop n)
  | _, _, 0, r => r
  | _, _, _ + 1, .nil => by rw [List.drop_nil, List.drop_nil]; exact .nil
  | _, _, n + 1, .cons _ t => by rw [List.drop_succ_cons, List.drop_succ_cons]; exact Rds.drop n t
theorem Rds.reverse : ∀ {ds : List D} {us : List U}, Rds B S ds us → Rds B S ds.reverse us.reverse
  | _, _, .nil => .nil
  | _, _, .cons r t => by rw [List.reverse_cons, List.reverse_cons]; exact Rds.append (Rds.reverse t) (.cons r .nil)
theorem Rds.set {d : D} {u : U} (r : Rd B S d u) : ∀ {ds : List D} {us : List U} (i : Nat), Rds B S ds us → Rds B S (ds.set i d) (us.set i u)
  | _, _, _, .nil => .nil
  | _, _, 0, .cons _ t => .cons r t
  | _, _, i + 1, .cons q t => .cons q (Rds.set r i t)
theorem Rds.flat_rep {ds : List D} {us : List U} (r : Rds B S ds us) : ∀ n : Nat, Rds B S (List.replicate n ds).flatten (List.replicate n us).flatten
  | 0 => .nil
  | n + 1 => by
    rw [List.replicate_succ, List.replicate_succ, List.flatten_cons, List.flatten_cons]
    exact r.append (Rds.flat_rep r n)
end
/-! ### no list within -/
mutual
def noL : U → Bool
  | .lst _ => false
  | .frz _ => false
  | .dct _ => false
  | .tup xs => noLs xs
  | _ => true
def noLs : List U → Bool
  | [] => true
  | x :: r => noL x && noLs r
end
mutual
theorem Rd.of_noL {B B' : Nat → Prop} {S S' : Store} : ∀ {d : D} {u : U}, Rd B S d u → noL u = true → Rd B' S' d u
  | _, _, .non, _ => .non
  | _, _, .bl b, _ => .bl b
  | _, _, .int i, _ => .int i
  | _, _, .str x, _ => .str x
  | _, _, .tup r, h => .tup (Rds.of_noL r (by unfold noL at h; exact h))
  | _, _, .lst _ _ _, h => by unfold noL at h; exact absurd h Bool.false_ne_true
  | _, _, .frz _ _ _, h => by unfold noL at h; exact absurd h Bool.false_ne_true
  | _, _, .dct _ _ _, h => by unfold noL at h; exact absurd h Bool.false_ne_true
theorem Rds.of_noL {B B' : Nat → Prop} {S S' : Store} : ∀ {ds : List D} {us : List U}, Rds B S ds us → noLs us = true → Rds B' S' ds us
  | _, _, .nil, _ => .nil
  | _, _, .cons a r, h => by
    unfold noLs at h
    rw [Bool.and_eq_true] at h
    exact .cons (Rd.of_noL a h.1) (Rds.of_noL r h.2)
end
/-! ### as plain data, in order -/
def pdU : Nat → U → Option PyData
  | _, .non => some .none
  | _, .bl b => some (.bool b)
  | _, .int i => some (.int i)
  | _, .str x => if PyData.strOk x = true then some (.str x) else none
  | 0, .tup _ => none
  | 0, .lst _ => none
  | 0, .frz _ => none
  | _, .dct _ => none
  | k + 1, .tup xs => (mapO (pdU k) xs).map .tuple
  | k + 1, .lst xs => (mapO (pdU k) xs).map .list
  | k + 1, .frz xs => (mapO (pdU k) xs).map .list
theorem Rds.mapO {B : Nat → Prop} {S : Store} {α : Type} {f : D → Option α} {g : U → Option α} (h : ∀ d u, Rd B S d u → f d = g u) : ∀ {ds : List D} {us : List U}, Rds B S ds us → NL.mapO f ds = NL.mapO g us
  | _, _, .nil => rfl
  | _, _, .cons a r => by
    unfold NL.mapO
    rw [h _ _ a, Rds.mapO h r]
theorem pd_rd {B : Nat → Prop} {S : Store} : ∀ (k : Nat) (d : D) (u : U), Rd B S d u → pd S k d = pdU k u
  | 0, d, u, h => by cases h <;> first | rfl | (unfold pdU; rfl)
  | k + 1, d, u, h => by
    cases h with
    | tup r => unfold pd pdU; rw [Rds.mapO (pd_rd k) r]
    | lst h1 h2 r =>
      unfold pd pdU
      rw [sqO_lst h2]
      show (NL.mapO (pd S k) _).map _ = _
      rw [← Rds.mapO (pd_rd k) r]; rfl
    | dct h1 h2 r =>
      unfold pd pdU sqO
      rw [h2]; rfl
    | frz h1 h2 r =>
      unfold pd pdU
      rw [sqO_frz h2]
      show (NL.mapO (pd S k) _).map _ = _
      rw [← Rds.mapO (pd_rd k) r]; rfl
    | _ => rfl
/-- .. without lists -/
def pdT : Nat → U → Option PyData
  | _, .non => some .none
  | _, .bl b => some (.bool b)
  | _, .int i => some (.int i)
  | _, .str x => if PyData.strOk x = true then some (.str x) else none
  | 0, .tup _ => none
  | _, .lst _ => none
  | _, .frz _ => none
  | _, .dct _ => none
  | k + 1, .tup xs => (mapO (pdT k) xs).map .tuple
theorem pd_rdT {B : Nat → Prop} {S : Store} : ∀ (k : Nat) (d : D) (u : U), Rd B S d u → pd [] k d = pdT k u
  | 0, d, u, h => by cases h <;> first | rfl | (unfold pdT; rfl)
  | k + 1, d, u, h => by
    cases h with
    | tup r => unfold pd pdT; rw [Rds.mapO (pd_rdT k) r]
    | lst h1 h2 r => unfold pd pdT sqO; simp
    | frz h1 h2 r => unfold pd pdT sqO; simp
    | dct h1 h2 r => unfold pd pdT sqO; simp
    | _ => rfl
def eqU (x y : U) : Option Bool := match pdU 12 x, pdU 12 y with
  | some p, some q => some (PyData.eqv p q)
  | _, _ => none
def eqT (x y : U) : Option Bool := match pdT 12 x, pdT 12 y with
  | some p, some q => some (PyData.eqv p q)
  | _, _ => none
section
variable {B : Nat → Prop} {S : Store} {d e : D} {x y : U}
theorem eq_rd (r : Rd B S d x) (q : Rd B S e y) : eqD S d e = eqU x y := by
  unfold eqD eqU
  rw [pd_rd 12 d x r, pd_rd 12 e y q] <;> rfl
theorem eq_rdT (r : Rd B S d x) (q : Rd B S e y) : eqD [] d e = eqT x y := by
  unfold eqD eqT
  rw [pd_rdT 12 d x r, pd_rdT 12 e y q] <;> rfl
def lexU (o : Cop) (f : U → U → Option Bool) : List U → List U → Option Bool
  | [], [] => some (ord4 o 0 0)
  | [], _ :: _ => some (ord4 o 0 1)
  | _ :: _, [] => some (ord4 o 1 0)
  | x :: xs, y :: ys => match eqT x y with
    | some true => lexU o f xs ys
    | some false => f x y
    | none => none
def ordC (f : U → U → Option Bool) (p : U × U) : Bool := match eqT p.1 p.2 with
  | some true => true
  | some false => (f p.1 p.2).isSome
  | none => false
def ordU (o : Cop) : Nat → U → U → Option Bool
  | _, .int i, .int j => some (ord4 o i j)
  | k + 1, .tup xs, .tup ys => if (xs.zip ys).all (ordC (ordU o k)) = true then lexU o (ordU o k) xs ys else none
  | _, _, _ => none
theorem lex_rd {o : Cop} {f : D → D → Option Bool} {g : U → U → Option Bool} (h : ∀ d e x y, Rd B S d x → Rd B S e y → f d e = g x y) : ∀ {ds es : List D} {xs ys : List U}, Rds B S ds xs → Rds B S es ys → lexO o f ds es = lexU o g xs ys
  | _, _, _, _, .nil, .nil => rfl
  | _, _, _, _, .nil, .cons _ _ => rfl
  | _, _, _, _, .cons _ _, .nil => rfl
  | _, _, _, _, .cons a r, .cons b s => by
    unfold lexO lexU
    rw [eq_rdT a b, lex_rd h r s, h _ _ _ _ a b] <;> rfl
theorem all_rd {f : D × D → Bool} {g : U × U → Bool} (h : ∀ d e x y, Rd B S d x → Rd B S e y → f (d, e) = g (x, y)) : ∀ {ds es : List D} {xs ys : List U}, Rds B S ds xs → Rds B S es ys → (ds.zip es).all f = (xs.zip ys).all g
  | _, _, _, _, .nil, _ => by simp
  | _, _, _, _, .cons _ _, .nil => by simp
  | _, _, _, _, .cons a r, .cons b s => by
    rw [List.zip_cons_cons, List.zip_cons_cons, List.all_cons, List.all_cons, h _ _ _ _ a b, all_rd h r s]
theorem ite2 {a b : Bool} {x y : Option Bool} (h : a = b) (k : x = y) : (if a = true then x else none) = if b = true then y else none := by rw [h, k]
theorem ord_rd (o : Cop) : ∀ (k : Nat) (d e : D) (x y : U), Rd B S d x → Rd B S e y → ordD o k d e = ordU o k x y
  | 0, d, e, x, y, r, q => by cases r <;> cases q <;> first | rfl | (unfold ordD ordU; rfl)
  | k + 1, d, e, x, y, r, q => by
    cases r with
    | tup r =>
      cases q with
      | tup q =>
        have e1 := all_rd (f := fun p => match eqD [] p.1 p.2 with | some true => true | some false => (ordD o k p.1 p.2).isSome | none => false) (g := ordC (ordU o k)) (fun d e x y a b => by
          show (match eqD [] d e with | some true => true | some false => (ordD o k d e).isSome | none => false) = (match eqT x y with | some true => true | some false => (ordU o k x y).isSome | none => false)
          rw [eq_rdT a b, ord_rd o k d e x y a b]) r q
        have e2 := lex_rd (o := o) (fun d e x y a b => ord_rd o k d e x y a b) r q
        unfold ordD ordU
        exact ite2 e1 e2
      | _ => unfold ordD ordU; rfl
    | int i =>
      cases q <;> first | rfl | (unfold ordD ordU; rfl)
    | _ => cases q <;> first | rfl | (unfold ordD ordU; rfl)
end
end VL

/-! Operations on trees. -/
namespace VL
open PySem PySem.Spec PyProof.Rows L2 NL
def Bnd (B : Nat → Prop) (S : Store) : Prop := ∀ l, B l → l < S.length
theorem Bnd.gw {B : Nat → Prop} {S S' : Store} (b : Bnd B S) (g : Gw S S') : Bnd B S' := fun l h => Nat.lt_of_lt_of_le (b l h) g.len
/-- an answer is read so -/
def Ok1 (B : Nat → Prop) (S : Store) (r : R D) (u : U) : Prop := ∃ d S1, r = .ok d S1 ∧ Gw S S1 ∧ Rd B S1 d u
/-- what may be one's own: a list, a dict -/
def isL : U → Bool
  | .lst _ => true
  | .dct _ => true
  | _ => false
def inL : U → List U
  | .lst us => us
  | .dct us => us
  | _ => []
/-- a list, a dict stands at a place of its own -/
inductive OwnU (P : Nat → Prop) (S : Store) (l : Nat) : U → Prop
  | lst {xs : List D} {us : List U} : S[l]? = some (.lst xs) → Rds P S xs us → OwnU P S l (.lst us)
  | dct {kvs : List (D × D)} {us : List U} : S[l]? = some (.dct false kvs) → Rds P S (kvs.map prD) us → OwnU P S l (.dct us)
theorem OwnU.lst_ {P : Nat → Prop} {S : Store} {l : Nat} {us : List U} (h : OwnU P S l (.lst us)) : ∃ xs, S[l]? = some (.lst xs) ∧ Rds P S xs us := by
  cases h with
  | lst h1 h2 => exact ⟨_, h1, h2⟩
theorem OwnU.dct_ {P : Nat → Prop} {S : Store} {l : Nat} {us : List U} (h : OwnU P S l (.dct us)) : ∃ kvs, S[l]? = some (.dct false kvs) ∧ Rds P S (kvs.map prD) us := by
  cases h with
  | dct h1 h2 => exact ⟨_, h1, h2⟩
theorem OwnU.isL {P : Nat → Prop} {S : Store} {l : Nat} {u : U} (h : OwnU P S l u) : VL.isL u = true := by cases h <;> rfl
theorem OwnU.mono {P P' : Nat → Prop} {S S' : Store} {l : Nat} {u : U} (h : OwnU P S l u) (e : ∀ o, S[l]? = some o → S'[l]? = some o) (g : ∀ l o, ¬ P l → S[l]? = some o → ¬ P' l ∧ S'[l]? = some o) : OwnU P' S' l u := by
  cases h with
  | lst h1 h2 => exact .lst (e _ h1) (h2.mono g)
  | dct h1 h2 => exact .dct (e _ h1) (h2.mono g)
theorem OwnU.gw {P : Nat → Prop} {S S' : Store} {l : Nat} {u : U} (h : OwnU P S l u) (g : Gw S S') : OwnU P S' l u := h.mono (fun o e => g.get e) fun l o h1 h2 => ⟨h1, g.get h2⟩
theorem OwnU.lt {P : Nat → Prop} {S : Store} {l : Nat} {u : U} (h : OwnU P S l u) : l < S.length := by
  cases h with
  | lst h1 _ => exact lt_of_get h1
  | dct h1 _ => exact lt_of_get h1
theorem OwnU.of_noL {P P' : Nat → Prop} {S : Store} {l : Nat} {u : U} (h : OwnU P S l u) (n : noLs (inL u) = true) : OwnU P' S l u := by
  cases h with
  | lst h1 h2 => exact .lst h1 (h2.of_noL n)
  | dct h1 h2 => exact .dct h1 (h2.of_noL n)
theorem OwnU.rd {P B : Nat → Prop} {S : Store} {l : Nat} {u : U} (h : OwnU P S l u) (n : ¬ B l) (g : ∀ l o, ¬ P l → S[l]? = some o → ¬ B l ∧ S[l]? = some o) : Rd B S (.ref l) u := by
  cases h with
  | lst h1 h2 => exact .lst n h1 (h2.mono g)
  | dct h1 h2 => exact .dct n h1 (h2.mono g)
/-- a new list, a new dict -/
def FrD (B : Nat → Prop) (b : Nat) (S1 : Store) (d : D) (u : U) : Prop := ∃ l, d = .ref l ∧ b ≤ l ∧ OwnU (fun k => B k ∨ k = l) S1 l u
/-- .. which is new where it is a list -/
def OkF (B : Nat → Prop) (S : Store) (r : R D) (u : U) : Prop := ∃ d S1, r = .ok d S1 ∧ Gw S S1 ∧ Rd B S1 d u ∧ (isL u = true → FrD B S.length S1 d u)
section
variable {B : Nat → Prop} {S : Store}
theorem OkF.ok1 {r : R D} {u : U} (h : OkF B S r u) : Ok1 B S r u := by
  obtain ⟨d, S1, h1, h2, h3, _⟩ := h
  exact ⟨d, S1, h1, h2, h3⟩
theorem OkF.now {d : D} {u : U} (r : Rd B S d u) (h : isL u = false) : OkF B S (.ok d S) u := ⟨d, S, rfl, .refl S, r, fun e => by rw [h] at e; cases e⟩
theorem OkF.new (b : Bnd B S) {ds : List D} {us : List U} (r : Rds B S ds us) : OkF B S (NL.alloc (.lst ds) S) (.lst us) := by
  have nb : ¬ B S.length := fun h => Nat.lt_irrefl _ (b _ h)
  have e : (S ++ [Ob.lst ds])[S.length]? = some (.lst ds) := by simp
  refine ⟨.ref S.length, S ++ [.lst ds], rfl, .app, .lst nb e (r.gw .app), fun _ => ⟨S.length, rfl, Nat.le_refl _, .lst e ?_⟩⟩
  refine r.mono fun l o h1 h2 => ⟨?_, Gw.get .app h2⟩
  rintro (h | h)
  · exact h1 h
  · have := lt_of_get h2; omega
theorem FrD.gw {b : Nat} {S1 S2 : Store} {d : D} {u : U} (h : FrD B b S1 d u) (g : Gw S1 S2) : FrD B b S2 d u := by
  obtain ⟨l, h1, h2, h3⟩ := h
  exact ⟨l, h1, h2, h3.gw g⟩
theorem FrD.le {b b' : Nat} {S1 : Store} {d : D} {u : U} (h : FrD B b S1 d u) (g : b' ≤ b) : FrD B b' S1 d u := by
  obtain ⟨l, h1, h2, h3⟩ := h
  exact ⟨l, h1, Nat.le_trans g h2, h3⟩
theorem OkF.gw {S1 : Store} {r : R D} {u : U} (g : Gw S S1) (h : OkF B S1 r u) : OkF B S r u := by
  obtain ⟨d, S2, h1, h2, h3, h4⟩ := h
  exact ⟨d, S2, h1, g.trans h2, h3, fun e => (h4 e).le g.len⟩
theorem Ok1.gw {S1 : Store} {r : R D} {u : U} (g : Gw S S1) (h : Ok1 B S1 r u) : Ok1 B S r u := by
  obtain ⟨d, S2, h1, h2, h3⟩ := h
  exact ⟨d, S2, h1, g.trans h2, h3⟩
theorem getL_rd {l : Nat} {us : List U} (r : Rd B S (.ref l) (.lst us)) : ∃ ds, getL l S = .ok ds S ∧ Rds B S ds us := by
  cases r with
  | lst h1 h2 h3 => exact ⟨_, by unfold getL; rw [sqO_lst h2]; rfl, h3⟩
theorem getL_fz {l : Nat} {us : List U} (r : Rd B S (.ref l) (.frz us)) : ∃ ds, getL l S = .ok ds S ∧ Rds B S ds us := by
  cases r with
  | frz h1 h2 h3 => exact ⟨_, by unfold getL; rw [sqO_frz h2]; rfl, h3⟩
/-- the items of a list or of a tuple -/
def sqU : U → Option (List U)
  | .lst xs => some xs
  | .frz xs => some xs
  | _ => none
theorem sq_rd {d : D} {u : U} {us : List U} (r : Rd B S d u) (h : sqU u = some us) : ∃ l ds, d = .ref l ∧ getL l S = .ok ds S ∧ Rds B S ds us := by
  cases r <;> first | (cases h; done) | skip
  · rename_i l xs vs h1 h2 h3
    cases h
    obtain ⟨ds, g1, g2⟩ := getL_rd (Rd.lst h1 h2 h3)
    exact ⟨l, ds, rfl, g1, g2⟩
  · rename_i l xs vs h1 h2 h3
    cases h
    obtain ⟨ds, g1, g2⟩ := getL_fz (Rd.frz h1 h2 h3)
    exact ⟨l, ds, rfl, g1, g2⟩
end
/-! ### keys -/
mutual
def nkU : U → Option NestedKey
  | .int i => some (.num i)
  | .tup xs => (nkUs xs).map .tup
  | _ => none
def nkUs : List U → Option (List NestedKey)
  | [] => some []
  | x :: xs => match nkU x, nkUs xs with
    | some k, some ks => some (k :: ks)
    | _, _ => none
end
def keyU : U → Option NestedKey
  | .tup xs => (nkU (.tup xs)).filter fun k => decide (k.depth ≤ 8)
  | _ => none
mutual
theorem nk_rd {B : Nat → Prop} {S : Store} : ∀ {d : D} {u : U}, Rd B S d u → nkD d = nkU u
  | _, _, .non => by unfold nkD nkU; rfl
  | _, _, .bl b => by unfold nkD nkU; rfl
  | _, _, .int i => by unfold nkD nkU; rfl
  | _, _, .str x => by unfold nkD nkU; rfl
  | _, _, .tup r => by unfold nkD nkU; rw [nks_rd r]
  | _, _, .lst _ _ _ => by unfold nkD nkU; rfl
  | _, _, .frz _ _ _ => by unfold nkD nkU; rfl
  | _, _, .dct _ _ _ => by unfold nkD nkU; rfl
theorem nks_rd {B : Nat → Prop} {S : Store} : ∀ {ds : List D} {us : List U}, Rds B S ds us → nkDs ds = nkUs us
  | _, _, .nil => by unfold nkDs nkUs; rfl
  | _, _, .cons a r => by unfold nkDs nkUs; rw [nk_rd a, nks_rd r] <;> try rfl
end
theorem key_rd {B : Nat → Prop} {S : Store} {d : D} {u : U} (r : Rd B S d u) : keyD d = keyU u := by
  have e := nk_rd r
  cases r <;> first | rfl | skip
  show Option.filter _ (nkD _) = Option.filter _ (nkU _)
  rw [e]
def atV (k : NestedKey) : U → Bool
  | .tup [x, _] => decide (keyU x = some k)
  | _ => false
def valV : U → U
  | .tup [_, y] => y
  | u => u
def setV (k : NestedKey) (y : U) : U → U
  | .tup [x, z] => if keyU x = some k then .tup [x, y] else .tup [x, z]
  | u => u
/-- what a dict has at a key -/
def findV (us : List U) (k : NestedKey) : Option U := (us.find? (atV k)).map valV
def putV (us : List U) (k : NestedKey) (x y : U) : List U := if (findV us k).isSome = true then us.map (setV k y) else us ++ [.tup [x, y]]
def dropV (us : List U) (k : NestedKey) : List U := us.filter fun u => !atV k u
section
variable {B : Nat → Prop} {S : Store}
theorem pr_rd {p : D × D} {u : U} (r : Rd B S (prD p) u) : ∃ x y, u = .tup [x, y] ∧ Rd B S p.1 x ∧ Rd B S p.2 y := by
  cases r with
  | tup r =>
    rcases r with _ | ⟨a, _ | ⟨b, _ | ⟨_, _⟩⟩⟩
    exact ⟨_, _, rfl, a, b⟩
theorem find_rd (k : NestedKey) : ∀ {kvs : List (D × D)} {us : List U}, Rds B S (kvs.map prD) us → (findK kvs k = none ∧ findV us k = none) ∨ ∃ d u, findK kvs k = some d ∧ findV us k = some u ∧ Rd B S d u
  | [], us, r => by
    cases r
    exact .inl ⟨rfl, rfl⟩
  | p :: kvs, us, r => by
    rw [List.map_cons] at r
    cases r with
    | cons a r =>
      obtain ⟨x, y, rfl, rx, ry⟩ := pr_rd a
      have ih := find_rd k r
      have e := key_rd rx
      unfold findK findV at ih ⊢
      rw [List.find?_cons, List.find?_cons]
      by_cases h : keyU x = some k
      · rw [show atV k (.tup [x, y]) = true from decide_eq_true h, show decide (keyD p.1 = some k) = true from decide_eq_true (e.trans h)]
        exact .inr ⟨_, _, rfl, rfl, ry⟩
      · rw [show atV k (.tup [x, y]) = false from decide_eq_false h, show decide (keyD p.1 = some k) = false from decide_eq_false (by rw [e]; exact h)]
        exact ih
theorem set_rd {k : NestedKey} {d : D} {y : U} (ry : Rd B S d y) : ∀ {kvs : List (D × D)} {us : List U}, Rds B S (kvs.map prD) us → Rds B S ((kvs.map fun p => if keyD p.1 = some k then (p.1, d) else p).map prD) (us.map (setV k y))
  | [], us, r => by
    cases r
    exact .nil
  | p :: kvs, us, r => by
    rw [List.map_cons] at r
    cases r with
    | cons a r =>
      obtain ⟨x, z, rfl, rx, rz⟩ := pr_rd a
      have e := key_rd rx
      rw [List.map_cons, List.map_cons, List.map_cons]
      refine .cons ?_ (set_rd ry r)
      show Rd B S _ (if keyU x = some k then .tup [x, y] else .tup [x, z])
      rw [e]
      by_cases h : keyU x = some k
      · rw [if_pos h, if_pos h]
        exact .tup (.cons rx (.cons ry .nil))
      · rw [if_neg h, if_neg h]
        exact a
theorem put_rd {k : NestedKey} {dk d : D} {x y : U} (rx : Rd B S dk x) (ry : Rd B S d y) {kvs : List (D × D)} {us : List U} (r : Rds B S (kvs.map prD) us) : Rds B S ((putD kvs k dk d).map prD) (putV us k x y) := by
  unfold putD putV
  rcases find_rd k r with ⟨e1, e2⟩ | ⟨d', u', e1, e2, _⟩
  · rw [e1, e2, if_neg (by decide), if_neg (by decide), List.map_append]
    exact r.append (.cons (.tup (.cons rx (.cons ry .nil))) .nil)
  · rw [e1, e2]
    simp only [Option.isSome_some, if_true]
    exact set_rd ry r
theorem drop_rd (k : NestedKey) : ∀ {kvs : List (D × D)} {us : List U}, Rds B S (kvs.map prD) us → Rds B S ((dropD kvs k).map prD) (dropV us k)
  | [], us, r => by
    cases r
    exact .nil
  | p :: kvs, us, r => by
    rw [List.map_cons] at r
    cases r with
    | cons a r =>
      obtain ⟨x, z, rfl, rx, rz⟩ := pr_rd a
      have e := key_rd rx
      have ih := drop_rd k r
      unfold dropD dropV at ih ⊢
      rw [List.filter_cons, List.filter_cons]
      by_cases h : keyU x = some k
      · rw [show atV k (.tup [x, z]) = true from decide_eq_true h, if_neg (by simp [e, h]), if_neg (by decide)]
        exact ih
      · rw [show atV k (.tup [x, z]) = false from decide_eq_false h, if_pos (by simp [e, h]), if_pos (by decide)]
        exact .cons a ih
end
open Classical in
noncomputable def binU : Bop → U → U → VR U
  | .add, .int i, .int j => .ok (.int (i + j))
  | .add, .lst xs, .lst ys => if xs.length + ys.length ≤ sizeLine then .ok (.lst (xs ++ ys)) else .stuck
  | .sub, .int i, .int j => .ok (.int (i - j))
  | .mul, .int i, .int j => if MulOk i j then .ok (.int (i * j)) else .stuck
  | .mul, .lst xs, .int n => if -(2 ^ 63) ≤ n ∧ n < 2 ^ 63 ∧ xs.length * n.toNat ≤ sizeLine then .ok (.lst (List.replicate n.toNat xs).flatten) else .stuck
  | .fdiv, .int i, .int j => if j ≠ 0 ∧ j.natAbs.log2 < 9000 then .ok (.int (i.fdiv j)) else .stuck
  | .mod, .int i, .int j => if j ≠ 0 then .ok (.int (i.fmod j)) else .stuck
  | .pow, .int i, .int j => if 0 ≤ j ∧ (Builtin.Int.intBits i : Int) * j ≤ 2 ^ 27 then .ok (.int (i ^ j.toNat)) else .stuck
  | _, _, _ => .stuck
def negU : U → VR U
  | .int i => .ok (.int (-i))
  | _ => .stuck
def isU : U → U → Option Bool
  | x, .non => some (match x with | .non => true | _ => false)
  | x, .bl b => some (match x with | .bl c => b == c | _ => false)
  | _, _ => none
def inU (x y : U) : Option Bool :=
  match y with
  | .tup ys => (match pdU 12 x, mapO (pdU 12) ys with
    | some p, some qs => some (qs.any fun q => PyData.eqv q p)
    | _, _ => none)
  | .dct us => (keyU x).map fun k => (findV us k).isSome
  | y => (match sqU y with
    | some ys => (match pdU 12 x, mapO (pdU 12) ys with
      | some p, some qs => some (qs.any fun q => PyData.eqv q p)
      | _, _ => none)
    | none => none)
def ofU (b : Option Bool) : VR U := match b with
  | some b => .ok (.bl b)
  | none => .stuck
def cmpU : Cop → U → U → VR U
  | .lt, .lst xs, .lst ys => ofU (ltQ (pdU 12 (.lst xs)) (pdU 12 (.lst ys)))
  | .gt, .lst xs, .lst ys => ofU (ltQ (pdU 12 (.lst ys)) (pdU 12 (.lst xs)))
  | .eq, x, y => ofU (eqU x y)
  | .ne, x, y => ofU ((eqU x y).map (!·))
  | .isIn, x, y => ofU (inU x y)
  | .notIn, x, y => ofU ((inU x y).map (!·))
  | .is_, x, y => ofU (isU x y)
  | .isNot, x, y => ofU ((isU x y).map (!·))
  | o, x, y => ofU (ordU o 12 x y)
def optV (o : Option U) : VR U := match o with
  | some u => .ok u
  | none => .stuck
def dgetU (us : List U) (y : U) : VR U := match keyU y with
  | some k => optV (findV us k)
  | none => .stuck
def dgtU (x k z : U) : VR U := match x with
  | .dct us => (match keyU k with
    | some k => .ok ((findV us k).getD z)
    | none => .stuck)
  | _ => .stuck
def ixU : U → U → VR U
  | .dct us, .tup ys => dgetU us (.tup ys)
  | .tup xs, .int i => match atI xs i with | some d => .ok d | none => .stuck
  | x, .int i => match sqU x with
    | some xs => (match atI xs i with | some d => .ok d | none => .stuck)
    | none => .stuck
  | _, _ => .stuck
def truU : U → VR Bool
  | .bl b => .ok b
  | _ => .stuck
def bndU : Bool → U → VR (Option Int)
  | false, _ => .ok none
  | true, .int i => .ok (some i)
  | _, _ => .stuck
def cutU (xs : List U) (lo hi : Option Int) : List U := (xs.drop (HT.sIx xs.length 0 lo)).take (HT.sIx xs.length xs.length hi - HT.sIx xs.length 0 lo)
def slcU (x : U) (lo hi : Option Int) : VR U := match sqU x with
  | some xs => .ok (.lst (cutU xs lo hi))
  | none => .stuck
def intsU : List U → Option (List Int)
  | [] => some []
  | .int i :: r => (intsU r).map (i :: ·)
  | _ => none
def bestU (o : Cop) (xs : List U) : Option U :=
  if (xs.all fun x => xs.all fun y => (ordU o 12 x y).isSome) = true then xs[argBest (fun i j => (ordU o 12 (xs.getD i .non) (xs.getD j .non)).getD false) (xs.length - 1)]? else none
def optU (u : Option U) : VR U := match u with
  | some u => .ok u
  | none => .stuck
def mnU (o : Cop) : List U → VR U
  | [.tup xs] => optU (bestU o xs)
  | [x] => match sqU x with
    | some xs => optU (bestU o xs)
    | none => .stuck
  | [a, b] => optU (bestU o [a, b])
  | [a, b, c] => optU (bestU o [a, b, c])
  | [a, b, c, d] => optU (bestU o [a, b, c, d])
  | _ => .stuck
mutual
def toD : U → D
  | .non => .non | .bl b => .bl b | .int i => .int i | .str x => .str x
  | .tup xs => .tup (toDs xs)
  | _ => .non
def toDs : List U → List D
  | [] => []
  | x :: r => toD x :: toDs r
end
mutual
def bkD : D → U
  | .non => .non | .bl b => .bl b | .int i => .int i | .str x => .str x
  | .tup xs => .tup (bkDs xs)
  | _ => .non
def bkDs : List D → List U
  | [] => []
  | x :: r => bkD x :: bkDs r
end
mutual
theorem of_to : ∀ {u : U}, noL u = true → bkD (toD u) = u
  | .non, _ => by unfold toD bkD; rfl
  | .bl _, _ => by unfold toD bkD; rfl
  | .int _, _ => by unfold toD bkD; rfl
  | .str _, _ => by unfold toD bkD; rfl
  | .tup xs, h => by
    unfold noL at h
    unfold toD bkD
    rw [ofs_tos h]
  | .lst _, h => by unfold noL at h; cases h
  | .frz _, h => by unfold noL at h; cases h
  | .dct _, h => by unfold noL at h; cases h
theorem ofs_tos : ∀ {us : List U}, noLs us = true → bkDs (toDs us) = us
  | [], _ => by unfold toDs bkDs; rfl
  | u :: us, h => by
    unfold noLs at h
    rw [Bool.and_eq_true] at h
    unfold toDs bkDs
    rw [of_to h.1, ofs_tos h.2]
end
mutual
theorem rd_to {B : Nat → Prop} {S : Store} : ∀ {u : U}, noL u = true → Rd B S (toD u) u
  | .non, _ => by unfold toD; exact .non
  | .bl _, _ => by unfold toD; exact .bl _
  | .int _, _ => by unfold toD; exact .int _
  | .str _, _ => by unfold toD; exact .str _
  | .tup xs, h => by
    unfold noL at h
    unfold toD
    exact .tup (rds_to h)
  | .lst _, h => by unfold noL at h; cases h
  | .frz _, h => by unfold noL at h; cases h
  | .dct _, h => by unfold noL at h; cases h
theorem rds_to {B : Nat → Prop} {S : Store} : ∀ {us : List U}, noLs us = true → Rds B S (toDs us) us
  | [], _ => by unfold toDs; exact .nil
  | u :: us, h => by
    unfold noLs at h
    rw [Bool.and_eq_true] at h
    unfold toDs
    exact .cons (rd_to h.1) (rds_to h.2)
end
mutual
theorem rd_is {B : Nat → Prop} {S : Store} : ∀ {d : D} {u : U}, Rd B S d u → noL u = true → d = toD u
  | _, _, .non, _ => by unfold toD; rfl
  | _, _, .bl _, _ => by unfold toD; rfl
  | _, _, .int _, _ => by unfold toD; rfl
  | _, _, .str _, _ => by unfold toD; rfl
  | _, _, .tup r, h => by
    unfold noL at h
    unfold toD
    rw [rds_is r h]
  | _, _, .lst _ _ _, h => by unfold noL at h; cases h
  | _, _, .frz _ _ _, h => by unfold noL at h; cases h
  | _, _, .dct _ _ _, h => by unfold noL at h; cases h
theorem rds_is {B : Nat → Prop} {S : Store} : ∀ {ds : List D} {us : List U}, Rds B S ds us → noLs us = true → ds = toDs us
  | _, _, .nil, _ => by unfold toDs; rfl
  | _, _, .cons a r, h => by
    unfold noLs at h
    rw [Bool.and_eq_true] at h
    unfold toDs
    rw [← rd_is a h.1, ← rds_is r h.2]
end
theorem toDs_map : ∀ us : List U, toDs us = us.map toD
  | [] => by unfold toDs; rfl
  | u :: us => by unfold toDs; rw [toDs_map us]; rfl
/-- sorted -/
noncomputable def sortU (us : List U) : VR U := if noLs us = true then (match sortD (us.map toD) with | some ds => .ok (.lst (ds.map bkD)) | none => .stuck) else .stuck
def intQU : U → Bool
  | .int _ => true
  | _ => false
noncomputable def bltU : Blt → List U → VR U
  | .abs, [.int i] => .ok (.int (if i < 0 then -i else i))
  | .int, [.int i] => .ok (.int i)
  | .int, [.bl b] => .ok (.int (if b = true then 1 else 0))
  | .len, [.tup xs] => .ok (.int xs.length)
  | .len, [x] => match sqU x with | some xs => .ok (.int xs.length) | none => .stuck
  | .min, ds => mnU .lt ds
  | .max, ds => mnU .gt ds
  | .list, [.tup xs] => .ok (.lst xs)
  | .list, [x] => match sqU x with | some xs => .ok (.lst xs) | none => .stuck
  | .tuple, [.tup xs] => .ok (.tup xs)
  | .tuple, [x] => match sqU x with | some xs => .ok (.tup xs) | none => .stuck
  | .sorted, [.tup us] => if us.any intQU = true then .stuck else sortU us
  | .sorted, [x] => match sqU x with | some xs => sortU xs | none => .stuck
  | .sum, [x] => match sqU x with | some xs => (match intsU xs with | some ns => .ok (.int ns.sum) | none => .stuck) | none => .stuck
  | _, _ => .stuck
def tyU : U → String
  | .non => "NoneType" | .bl _ => "bool" | .int _ => "int" | .str _ => "str" | .tup _ => "tuple" | .lst _ => "list" | .frz _ => "list" | .dct _ => "dict"
def isD_ : U → Bool
  | .dct _ => true
  | _ => false
def isiU (T : Ty) (u : U) : VR U := if isD_ u = true then .stuck else .ok (.bl (tyU u == T.nm || (tyU u == "bool" && T.nm == "int")))
/-- the items, and whether it is a list -/
def iterU : U → VR (List U × Bool)
  | .tup xs => .ok (xs, false)
  | x => match sqU x with | some xs => .ok (xs, true) | none => .stuck
/-- numbered from i on -/
def numU : Nat → List U → List U
  | _, [] => []
  | i, x :: xs => .tup [.int (i : Nat), x] :: numU (i + 1) xs
def zpU : List U → List U → List U
  | x :: xs, y :: ys => .tup [x, y] :: zpU xs ys
  | _, _ => []
def enmU (u : U) : VR (List U) := match sqU u with
  | some xs => .ok (numU 0 xs)
  | none => .stuck
def zipU : U → U → VR (List U)
  | .tup xs, .tup ys => .ok (zpU xs ys)
  | x, y => match sqU x, sqU y with
    | some xs, some ys => .ok (zpU xs ys)
    | _, _ => .stuck
def revU (u : U) : VR U := match sqU u with
  | some xs => .ok (.lst xs.reverse)
  | none => .stuck
def lstU : U → VR (List U)
  | .lst xs => .ok xs
  | _ => .stuck
def ndxU (x k : U) : VR U := match sqU x with
  | some xs => (match pdU 12 k, mapO (pdU 12) xs with
    | some p, some qs => (match qs.findIdx? fun q => PyData.eqv q p with
      | some j => .ok (.int (j : Nat))
      | none => .stuck)
    | _, _ => .stuck)
  | none => .stuck
def cntU (x k : U) : VR U := match sqU x with
  | some xs => (match pdU 12 k, mapO (pdU 12) xs with
    | some p, some qs => .ok (.int ((qs.countP fun q => PyData.eqv q p : Nat) : Int))
    | _, _ => .stuck)
  | none => .stuck
def flatU : U → Option (List Int)
  | .tup xs => intsU xs
  | _ => none
/-- the key of a pair -/
def fst2 : U → U
  | .tup [x, _] => x
  | u => u
noncomputable def srkU (x : U) : VR U := match x with
  | .dct us => sortU (us.map fst2)
  | _ => .stuck
def dstU (x : U) : VR U := match sqU x with
  | some xs => (match mapO flatU xs with
    | some ks => if ks.length < 64 then .ok (.int ((dd ks).length : Nat)) else .stuck
    | none => .stuck)
  | none => .stuck
def isLsU (x : U) : VR Unit := match sqU x with
  | some _ => .ok ()
  | none => .stuck
def rngU : U → U → VR (List U)
  | .int a, .int b => if -(2 ^ 62) ≤ a ∧ a < 2 ^ 62 ∧ -(2 ^ 62) ≤ b ∧ b < 2 ^ 62 then .ok ((List.range (b - a).toNat).map fun k => .int (a + (k : Nat))) else .stuck
  | _, _ => .stuck
def unpU (n : Nat) : U → VR (List U)
  | .tup xs => if xs.length = n then .ok xs else .stuck
  | x => match sqU x with
    | some xs => if xs.length = n then .ok xs else .stuck
    | none => .stuck
section
variable {B : Nat → Prop} {S : Store} {d e : D} {x y u : U}
theorem getM_rd {l : Nat} {us : List U} (r : Rd B S (.ref l) (.lst us)) : ∃ ds, getM l S = .ok ds S ∧ Rds B S ds us := by
  cases r with
  | lst h1 h2 h3 => exact ⟨_, by unfold getM; rw [h2], h3⟩
theorem bin_ok (b : Bnd B S) {o : Bop} (r : Rd B S d x) (q : Rd B S e y) (h : binU o x y = .ok u) : OkF B S (binD o d e S) u := by
  unfold binU at h
  split at h
  · cases r; cases q; cases h
    exact .now (.int _) rfl
  · rename_i us1 us2
    split at h
    · rename_i hc
      cases h
      obtain ⟨l1, rfl⟩ : ∃ l, d = .ref l := by cases r; exact ⟨_, rfl⟩
      obtain ⟨l2, rfl⟩ : ∃ l, e = .ref l := by cases q; exact ⟨_, rfl⟩
      obtain ⟨ds1, g1, r1⟩ := getM_rd r
      obtain ⟨ds2, g2, r2⟩ := getM_rd q
      show OkF B S ((getM l1 >>= fun xs => getM l2 >>= fun ys => if xs.length + ys.length ≤ sizeLine then NL.alloc (.lst (xs ++ ys)) else die) S) _
      rw [bind_eq, g1]
      show OkF B S ((getM l2 >>= fun ys => if ds1.length + ys.length ≤ sizeLine then NL.alloc (.lst (ds1 ++ ys)) else die) S) _
      rw [bind_eq, g2]
      show OkF B S ((if ds1.length + ds2.length ≤ sizeLine then NL.alloc (.lst (ds1 ++ ds2)) else die) S) _
      rw [if_pos (by rw [r1.length, r2.length]; exact hc)]
      exact .new b (r1.append r2)
    · cases h
  · cases r; cases q; cases h
    exact .now (.int _) rfl
  · rename_i i j
    split at h
    · rename_i hc
      cases r; cases q; cases h
      have e : binD .mul (.int i) (.int j) = pure (.int (i * j)) := by unfold binD; exact if_pos hc
      rw [e]
      exact .now (.int _) rfl
    · cases h
  · rename_i us1 n
    split at h
    · rename_i hc
      cases h
      obtain ⟨l1, rfl⟩ : ∃ l, d = .ref l := by cases r; exact ⟨_, rfl⟩
      cases q
      obtain ⟨ds1, g1, r1⟩ := getM_rd r
      show OkF B S ((getM l1 >>= fun xs => if -(2 ^ 63) ≤ n ∧ n < 2 ^ 63 ∧ xs.length * n.toNat ≤ sizeLine then NL.alloc (.lst (List.replicate n.toNat xs).flatten) else die) S) _
      rw [bind_eq, g1]
      show OkF B S ((if -(2 ^ 63) ≤ n ∧ n < 2 ^ 63 ∧ ds1.length * n.toNat ≤ sizeLine then NL.alloc (.lst (List.replicate n.toNat ds1).flatten) else die) S) _
      rw [if_pos (by rw [r1.length]; exact hc)]
      exact .new b (r1.flat_rep _)
    · cases h
  · rename_i i j
    split at h
    · rename_i hc
      cases r; cases q; cases h
      have e : binD .fdiv (.int i) (.int j) = pure (.int (i.fdiv j)) := by unfold binD; exact if_pos hc
      rw [e]
      exact .now (.int _) rfl
    · cases h
  · rename_i i j
    split at h
    · rename_i hc
      cases r; cases q; cases h
      have e : binD .mod (.int i) (.int j) = pure (.int (i.fmod j)) := by unfold binD; exact if_pos hc
      rw [e]
      exact .now (.int _) rfl
    · cases h
  · rename_i i j
    split at h
    · rename_i hc
      cases r; cases q; cases h
      have e : binD .pow (.int i) (.int j) = pure (.int (i ^ j.toNat)) := by unfold binD; exact if_pos hc
      rw [e]
      exact .now (.int _) rfl
    · cases h
  · cases h
theorem neg_ok (r : Rd B S d x) (h : negU x = .ok u) : OkF B S (negD d S) u := by
  cases r <;> first | (unfold negU at h; cases h; done) | skip
  all_goals (unfold negU at h; cases h; exact .now (.int _) rfl)
theorem ofU_ok {b : Option Bool} (h : ofU b = .ok u) : ∃ t, b = some t ∧ u = .bl t := by
  cases b with
  | none => cases h
  | some t => cases h; exact ⟨t, rfl, rfl⟩
theorem ofB_ok {b : Option Bool} (h : ofU b = .ok u) : OkF B S (ofB b S) u := by
  obtain ⟨t, rfl, rfl⟩ := ofU_ok h
  exact .now (.bl t) rfl
theorem is_rd (r : Rd B S d x) (q : Rd B S e y) : isD d e = isU x y := by
  cases q <;> cases r <;> rfl
theorem in_rd {t : Bool} (r : Rd B S d x) (q : Rd B S e y) (h : inU x y = some t) : inD S d e = some t := by
  unfold inU at h
  split at h
  · cases q
    rename_i q
    unfold inD
    rw [← pd_rd 12 d x r, ← q.mapO (pd_rd 12)] at h
    exact h
  · cases q with
    | dct h1 h2 q =>
      unfold inD
      dsimp only
      rw [show sqO S _ = none by unfold sqO; rw [h2]; rfl]
      dsimp only
      rw [h2]
      dsimp only
      rw [key_rd r]
      obtain ⟨k, e1, e2⟩ := Option.map_eq_some_iff.mp h
      rw [e1]
      show some (findK _ k).isSome = some t
      rcases find_rd k q with ⟨z1, z2⟩ | ⟨_, _, z1, z2, _⟩
      · rw [z1]; rw [z2] at e2; rw [← e2]; rfl
      · rw [z1]; rw [z2] at e2; rw [← e2]; rfl
  · split at h
    · rename_i ys hy
      obtain ⟨l, ds, rfl, g1, g2⟩ := sq_rd q hy
      rw [← pd_rd 12 d x r, ← g2.mapO (pd_rd 12)] at h
      unfold inD
      unfold getL at g1
      dsimp only
      cases e : sqO S l with
      | none => rw [e] at g1; cases g1
      | some o =>
        rw [e] at g1
        cases g1
        exact h
    · cases h
theorem cmp_ok {o : Cop} (r : Rd B S d x) (q : Rd B S e y) (h : cmpU o x y = .ok u) : OkF B S (cmpD o d e S) u := by
  cases o
  case eq => exact ofB_ok (by rw [eq_rd r q]; exact h)
  case ne => exact ofB_ok (by rw [eq_rd r q]; exact h)
  case isIn =>
    obtain ⟨t, h1, rfl⟩ := ofU_ok h
    refine ofB_ok (b := inD S d e) ?_
    rw [in_rd r q h1]; rfl
  case notIn =>
    obtain ⟨t, h1, rfl⟩ := ofU_ok h
    obtain ⟨t', h2, rfl⟩ := Option.map_eq_some_iff.mp h1
    refine ofB_ok (b := (inD S d e).map (!·)) ?_
    rw [in_rd r q h2]; rfl
  case is_ => exact ofB_ok (by rw [is_rd r q]; exact h)
  case isNot => exact ofB_ok (by rw [is_rd r q]; exact h)
  case lt =>
    by_cases hc : ∃ us vs, x = .lst us ∧ y = .lst vs
    · obtain ⟨us, vs, rfl, rfl⟩ := hc
      have h : ofU (ltQ (pdU 12 (.lst us)) (pdU 12 (.lst vs))) = .ok u := h
      rw [← pd_rd 12 d _ r, ← pd_rd 12 e _ q] at h
      cases r with
      | lst h1 h2 h3 => cases q with
        | lst g1 g2 g3 => exact ofB_ok h
    · have h : ofU (ordU .lt 12 x y) = .ok u := by
        rw [← h]
        cases x <;> cases y <;> first | rfl | exact absurd ⟨_, _, rfl, rfl⟩ hc
      have hd : cmpD .lt d e S = ofB (ordD .lt 12 d e) S := by
        rw [← ord_rd _ 12 d e x y r q] at h
        cases d <;> cases e <;> first | rfl | exact absurd h (by simp [ordD, ofU])
      rw [hd]
      exact ofB_ok (by rw [ord_rd _ 12 d e x y r q]; exact h)
  case gt =>
    by_cases hc : ∃ us vs, x = .lst us ∧ y = .lst vs
    · obtain ⟨us, vs, rfl, rfl⟩ := hc
      have h : ofU (ltQ (pdU 12 (.lst vs)) (pdU 12 (.lst us))) = .ok u := h
      rw [← pd_rd 12 d _ r, ← pd_rd 12 e _ q] at h
      cases r with
      | lst h1 h2 h3 => cases q with
        | lst g1 g2 g3 => exact ofB_ok h
    · have h : ofU (ordU .gt 12 x y) = .ok u := by
        rw [← h]
        cases x <;> cases y <;> first | rfl | exact absurd ⟨_, _, rfl, rfl⟩ hc
      have hd : cmpD .gt d e S = ofB (ordD .gt 12 d e) S := by
        rw [← ord_rd _ 12 d e x y r q] at h
        cases d <;> cases e <;> first | rfl | exact absurd h (by simp [ordD, ofU])
      rw [hd]
      exact ofB_ok (by rw [ord_rd _ 12 d e x y r q]; exact h)
  case le =>
    have hd : cmpD .le d e = ofB (ordD .le 12 d e) := by cases d <;> cases e <;> rfl
    have h : ofU (ordU .le 12 x y) = .ok u := by rw [← h]; cases x <;> cases y <;> rfl
    rw [hd]
    exact ofB_ok (by rw [ord_rd _ 12 d e x y r q]; exact h)
  case ge =>
    have hd : cmpD .ge d e = ofB (ordD .ge 12 d e) := by cases d <;> cases e <;> rfl
    have h : ofU (ordU .ge 12 x y) = .ok u := by rw [← h]; cases x <;> cases y <;> rfl
    rw [hd]
    exact ofB_ok (by rw [ord_rd _ 12 d e x y r q]; exact h)
theorem Rds.atI {ds : List D} {us : List U} {i : Int} (r : Rds B S ds us) (h : atI us i = some u) : ∃ d, L2.atI ds i = some d ∧ Rd B S d u := by
  unfold L2.atI at h ⊢
  rw [r.length]
  obtain ⟨j, h1, h2⟩ := Option.bind_eq_some_iff.mp h
  obtain ⟨d, h3, h4⟩ := r.get h2
  exact ⟨d, by rw [h1]; exact h3, h4⟩
theorem getN_rd {l : Nat} {us : List U} (r : Rd B S (.ref l) (.dct us)) : ∃ lk kvs, getN l S = .ok (lk, kvs) S ∧ Rds B S (kvs.map prD) us := by
  cases r with
  | dct h1 h2 h3 => exact ⟨_, _, by unfold getN; rw [h2], h3⟩
theorem keyM_rd {k : NestedKey} (r : Rd B S d x) (h : keyU x = some k) : keyM d = pure k := by
  unfold keyM; rw [key_rd r, h]
theorem ix_ok (r : Rd B S d x) (q : Rd B S e y) (h : ixU x y = .ok u) : Ok1 B S (ixD d e S) u := by
  unfold ixU at h
  split at h
  · rename_i us ys
    obtain ⟨l, rfl⟩ : ∃ l, d = .ref l := by cases r; exact ⟨_, rfl⟩
    obtain ⟨ds, rfl⟩ : ∃ ds, e = .tup ds := by cases q; exact ⟨_, rfl⟩
    unfold dgetU at h
    split at h
    · rename_i k hk
      obtain ⟨lk, kvs, g1, g2⟩ := getN_rd r
      rcases find_rd k g2 with ⟨z1, z2⟩ | ⟨dv, uv, z1, z2, z3⟩
      · rw [z2] at h; cases h
      · rw [z2] at h
        cases h
        refine ⟨dv, S, ?_, .refl S, z3⟩
        show (getN l >>= fun p => keyM (.tup ds) >>= fun k => optM (findK p.2 k)) S = _
        rw [bind_eq, g1]
        show (keyM (.tup ds) >>= fun k => optM (findK kvs k)) S = _
        rw [keyM_rd q hk]
        show optM (findK kvs k) S = _
        rw [z1]; rfl
    · cases h
  · cases r; cases q
    rename_i i _ r
    split at h
    · rename_i u' hu
      cases h
      obtain ⟨d', h1, h2⟩ := r.atI hu
      refine ⟨d', S, ?_, .refl S, h2⟩
      unfold ixD
      dsimp only
      rw [h1]
      rfl
    · cases h
  · cases q
    rename_i i _
    split at h
    · rename_i xs hx
      obtain ⟨l, ds, rfl, g1, g2⟩ := sq_rd r hx
      split at h
      · rename_i u' hu
        cases h
        obtain ⟨d', h1, h2⟩ := g2.atI hu
        refine ⟨d', S, ?_, .refl S, h2⟩
        show (getL l >>= fun xs => match L2.atI xs i with | some d => (pure d : M D) | none => die) S = _
        rw [bind_eq, g1]
        show (match L2.atI ds i with | some d => (pure d : M D) | none => die) S = _
        rw [h1]
        rfl
      · cases h
    · cases h
  · cases h
theorem tru_ok {t : Bool} (r : Rd B S d x) (h : truU x = .ok t) : truD d S = .ok t S := by
  cases r <;> first | (cases h; done) | skip
  cases h
  rfl
theorem bnd_ok {p : Bool} {t : Option Int} (r : Rd B S d x) (h : bndU p x = .ok t) : bndM p d S = .ok t S := by
  cases p
  · cases r <;> (cases h; rfl)
  · cases r <;> first | (cases h; done) | skip
    cases h
    rfl
theorem slc_ok (b : Bnd B S) {lo hi : Option Int} (r : Rd B S d x) (h : slcU x lo hi = .ok u) : OkF B S (slcD d lo hi S) u := by
  unfold slcU at h
  split at h
  · rename_i xs hx
    obtain ⟨l, ds, rfl, g1, g2⟩ := sq_rd r hx
    cases h
    show OkF B S ((getL l >>= fun xs => NL.alloc (.lst (NL.cutD xs lo hi))) S) _
    rw [bind_eq, g1]
    show OkF B S (NL.alloc (.lst (NL.cutD ds lo hi)) S) _
    refine .new b ?_
    unfold NL.cutD cutU
    rw [g2.length]
    exact (g2.drop _).take _
  · cases h
theorem ints_rd : ∀ {ds : List D} {us : List U}, Rds B S ds us → intsD ds = intsU us
  | _, _, .nil => rfl
  | _, _, .cons a r => by
    cases a <;> first | rfl | skip
    unfold intsD intsU
    rw [ints_rd r]
theorem all1 {f : D → Bool} {g : U → Bool} (h : ∀ d u, Rd B S d u → f d = g u) : ∀ {ds : List D} {us : List U}, Rds B S ds us → ds.all f = us.all g
  | _, _, .nil => rfl
  | _, _, .cons a r => by rw [List.all_cons, List.all_cons, h _ _ a, all1 h r]
theorem Rds.getD {ds : List D} {us : List U} (r : Rds B S ds us) (i : Nat) : Rd B S (ds.getD i .non) (us.getD i .non) := by
  rw [List.getD_eq_getElem?_getD, List.getD_eq_getElem?_getD]
  cases hu : us[i]? with
  | none =>
    have : ds[i]? = none := by
      rw [List.getElem?_eq_none_iff, r.length]
      exact List.getElem?_eq_none_iff.mp hu
    rw [this]; exact .non
  | some u =>
    obtain ⟨d, h1, h2⟩ := r.get hu
    rw [h1]; exact h2
theorem best_rd {o : Cop} {ds : List D} {us : List U} (r : Rds B S ds us) (h : bestU o us = some u) : ∃ d, bestD o ds = some d ∧ Rd B S d u := by
  unfold bestU at h
  split at h
  · rename_i hc
    have e1 : (ds.all fun x => ds.all fun y => (ordD o 12 x y).isSome) = (us.all fun x => us.all fun y => (ordU o 12 x y).isSome) :=
      all1 (fun d u a => all1 (fun d' u' a' => by rw [ord_rd o 12 _ _ _ _ a a']) r) r
    have e2 : (fun i j => (ordD o 12 (ds.getD i .non) (ds.getD j .non)).getD false) = fun i j => (ordU o 12 (us.getD i .non) (us.getD j .non)).getD false := by
      funext i j
      rw [ord_rd o 12 _ _ _ _ (r.getD i) (r.getD j)]
    obtain ⟨d, h1, h2⟩ := r.get h
    refine ⟨d, ?_, h2⟩
    unfold bestD
    rw [e1, if_pos hc, e2, r.length]
    exact h1
  · cases h
theorem opt_ok {o : Cop} {ds : List D} {us : List U} (r : Rds B S ds us) (h : optU (bestU o us) = .ok u) : Ok1 B S (ofD (bestD o ds) S) u := by
  cases e : bestU o us with
  | none => rw [e] at h; cases h
  | some v =>
    rw [e] at h
    cases h
    obtain ⟨d, h1, h2⟩ := best_rd r e
    refine ⟨d, S, ?_, .refl S, h2⟩
    rw [h1]; rfl
theorem mn2 {o : Cop} {a b : D} : mnD o [a, b] = ofD (bestD o [a, b]) := by cases a <;> rfl
theorem mn3 {o : Cop} {a b c : D} : mnD o [a, b, c] = ofD (bestD o [a, b, c]) := by cases a <;> rfl
theorem mn4 {o : Cop} {a b c d : D} : mnD o [a, b, c, d] = ofD (bestD o [a, b, c, d]) := by cases a <;> rfl
theorem mn_ok {o : Cop} {ds : List D} {us : List U} (r : Rds B S ds us) (h : mnU o us = .ok u) : Ok1 B S (mnD o ds S) u := by
  unfold mnU at h
  split at h
  · rcases r with _ | ⟨a, _ | ⟨_, _⟩⟩
    cases a
    rename_i a
    exact opt_ok a h
  · rcases r with _ | ⟨a, _ | ⟨_, _⟩⟩
    split at h
    · rename_i hx
      obtain ⟨l, ds, rfl, g1, g2⟩ := sq_rd a hx
      show Ok1 B S ((getL l >>= fun xs => ofD (bestD o xs)) S) u
      rw [bind_eq, g1]
      exact opt_ok g2 h
    · cases h
  · have q := r
    rcases r with _ | ⟨a, _ | ⟨b, _ | ⟨_, _⟩⟩⟩
    rw [mn2]
    exact opt_ok q h
  · have q := r
    rcases r with _ | ⟨a, _ | ⟨b, _ | ⟨c, _ | ⟨_, _⟩⟩⟩⟩
    rw [mn3]
    exact opt_ok q h
  · have q := r
    rcases r with _ | ⟨a, _ | ⟨b, _ | ⟨c, _ | ⟨d, _ | ⟨_, _⟩⟩⟩⟩⟩
    rw [mn4]
    exact opt_ok q h
  · cases h
/-- what stands sorted -/
theorem sort_al {ds : List D} {us : List U} (g2 : Rds B S ds us) (h : sortU us = .ok u) : ∃ ys, sortD ds = some ys ∧ (Bnd B S → OkF B S (NL.alloc (.lst ys) S) u) := by
  unfold sortU at h
  split at h
  · rename_i hn
    split at h
    · rename_i ys hs
      cases h
      have ed : ds = us.map toD := by rw [rds_is g2 hn, toDs_map]
      have hy : ∀ y ∈ ys, ∃ u, noL u = true ∧ y = toD u := fun y hy => by
        obtain ⟨ok, e⟩ := sortD_some hs
        have := (srt_perm (lt := ltD) (us.map toD)).mem_iff.mp (by rw [← e]; exact hy)
        obtain ⟨u, hu, rfl⟩ := List.mem_map.mp this
        have : ∀ {us : List U}, noLs us = true → ∀ u ∈ us, noL u = true := fun {us} => by
          induction us with
          | nil => intro _ u hu; cases hu
          | cons x us ih =>
            intro h u hu
            unfold noLs at h
            rw [Bool.and_eq_true] at h
            rcases List.mem_cons.mp hu with rfl | hu
            · exact h.1
            · exact ih h.2 u hu
        exact ⟨u, this hn u hu, rfl⟩
      have rr : Rds B S ys (ys.map bkD) := by
        clear hs
        induction ys with
        | nil => exact .nil
        | cons y ys ih =>
          obtain ⟨u, hu, rfl⟩ := hy y List.mem_cons_self
          refine .cons ?_ (ih fun z hz => hy z (List.mem_cons_of_mem _ hz))
          rw [of_to hu]; exact rd_to hu
      exact ⟨ys, by rw [ed]; exact hs, fun b => .new b rr⟩
    · cases h
  · cases h
theorem fst2_rd : ∀ {kvs : List (D × D)} {us : List U}, Rds B S (kvs.map prD) us → Rds B S (kvs.map Prod.fst) (us.map fst2)
  | [], _, r => by cases r; exact .nil
  | (k, v) :: kvs, _, r => by
    cases r with
    | cons r1 r2 =>
      cases r1 with
      | tup r3 =>
        cases r3 with
        | cons a r4 =>
          cases r4 with
          | cons b r5 => cases r5; exact .cons a (fst2_rd r2)
theorem srk_ok (b : Bnd B S) (r : Rd B S d x) (h : srkU x = .ok u) : OkF B S (srkM d S) u := by
  unfold srkU at h
  split at h
  · rename_i us
    obtain ⟨l, rfl⟩ : ∃ l, d = .ref l := by cases r; exact ⟨_, rfl⟩
    obtain ⟨lk, kvs, g1, g2⟩ := getN_rd r
    obtain ⟨ys, hs, hy⟩ := sort_al (fst2_rd g2) h
    have e2 : srkM (.ref l) S = NL.alloc (.lst ys) S := by
      show (getN l >>= fun p => match sortD (p.2.map Prod.fst) with | some ys => NL.alloc (.lst ys) | none => die) S = _
      rw [bind_eq, g1]
      show (match sortD (kvs.map Prod.fst) with | some ys => NL.alloc (.lst ys) | none => die) S = _
      rw [hs]
    rw [e2]
    exact hy b
  · cases h
theorem intQ_rd : ∀ {ds : List D} {us : List U}, Rds B S ds us → ds.any intQ = us.any intQU
  | _, _, .nil => rfl
  | _, _, .cons a r => by
    rw [List.any_cons, List.any_cons, intQ_rd r]
    congr 1
    cases a <;> rfl
/-- a list told by a builtin is new -/
def newB : Blt → Bool
  | .list => true
  | .sorted => true
  | _ => false
theorem blt_ok (b : Bnd B S) {t : Blt} {ds : List D} {us : List U} (r : Rds B S ds us) (h : bltU t us = .ok u) : Ok1 B S (bltD t ds S) u ∧ (newB t = true → OkF B S (bltD t ds S) u) := by
  have nw : ∀ {z : D} {v : U}, Rd B S z v → isL v = false → Ok1 B S (.ok z S) v ∧ (newB t = true → OkF B S (.ok z S) v) := fun hz hv => ⟨(OkF.now hz hv).ok1, fun _ => .now hz hv⟩
  have one : ∀ {v : U} {vs : List D}, Rds B S vs [v] → ∃ d, vs = [d] ∧ Rd B S d v := fun r => by
    rcases r with _ | ⟨a, _ | ⟨_, _⟩⟩
    exact ⟨_, rfl, a⟩
  unfold bltU at h
  split at h
  · obtain ⟨d, rfl, a⟩ := one r
    cases a; cases h; exact nw (.int _) rfl
  · obtain ⟨d, rfl, a⟩ := one r
    cases a; cases h; exact nw (.int _) rfl
  · obtain ⟨d, rfl, a⟩ := one r
    cases a; cases h; exact nw (.int _) rfl
  · obtain ⟨d, rfl, a⟩ := one r
    cases a
    rename_i a
    cases h
    rw [← a.length]
    exact nw (.int _) rfl
  · obtain ⟨d, rfl, a⟩ := one r
    split at h
    · rename_i hx
      obtain ⟨l, ds, rfl, g1, g2⟩ := sq_rd a hx
      cases h
      have e2 : bltD .len [.ref l] S = .ok (.int ds.length) S := by
        show (getL l >>= fun xs => (pure (.int xs.length) : M D)) S = _
        rw [bind_eq, g1]; rfl
      rw [e2, ← g2.length]
      exact nw (.int _) rfl
    · cases h
  · exact ⟨mn_ok r h, fun z => by cases z⟩
  · exact ⟨mn_ok r h, fun z => by cases z⟩
  · obtain ⟨d, rfl, a⟩ := one r
    cases a
    rename_i a
    cases h
    have q : OkF B S (NL.alloc (.lst _) S) _ := .new b a
    exact ⟨q.ok1, fun _ => q⟩
  · obtain ⟨d, rfl, a⟩ := one r
    split at h
    · rename_i hx
      obtain ⟨l, ds, rfl, g1, g2⟩ := sq_rd a hx
      cases h
      have e2 : bltD .list [.ref l] S = NL.alloc (.lst ds) S := by
        show (getL l >>= fun xs => NL.alloc (.lst xs)) S = _
        rw [bind_eq, g1]; rfl
      rw [e2]
      have q : OkF B S (NL.alloc (.lst _) S) _ := .new b g2
      exact ⟨q.ok1, fun _ => q⟩
    · cases h
  · obtain ⟨d, rfl, a⟩ := one r
    cases a
    rename_i a
    cases h
    exact nw (.tup a) rfl
  · obtain ⟨d, rfl, a⟩ := one r
    split at h
    · rename_i hx
      obtain ⟨l, ds, rfl, g1, g2⟩ := sq_rd a hx
      cases h
      have e2 : bltD .tuple [.ref l] S = .ok (.tup ds) S := by
        show (getL l >>= fun xs => (pure (.tup xs) : M D)) S = _
        rw [bind_eq, g1]; rfl
      rw [e2]
      exact nw (.tup g2) rfl
    · cases h
  · obtain ⟨d, rfl, a⟩ := one r
    split at h
    · cases h
    · rename_i hi
      cases a
      rename_i ds a
      obtain ⟨ys, hs, hy⟩ := sort_al a h
      have e2 : bltD .sorted [.tup ds] S = NL.alloc (.lst ys) S := by
        have e3 : bltD .sorted [.tup ds] = (match sortD ds with | some ys => NL.alloc (.lst ys) | none => die) := if_neg (by rw [intQ_rd a]; exact hi)
        rw [e3, hs]
      rw [e2]
      have q : OkF B S (NL.alloc (.lst ys) S) _ := hy b
      exact ⟨q.ok1, fun _ => q⟩
  · obtain ⟨d, rfl, a⟩ := one r
    split at h
    · rename_i xs hx
      obtain ⟨l, ds, rfl, g1, g2⟩ := sq_rd a hx
      obtain ⟨ys, hs, hy⟩ := sort_al g2 h
      have e2 : bltD .sorted [.ref l] S = NL.alloc (.lst ys) S := by
        show (getL l >>= fun xs => match sortD xs with | some ys => NL.alloc (.lst ys) | none => die) S = _
        rw [bind_eq, g1]
        show (match sortD ds with | some ys => NL.alloc (.lst ys) | none => die) S = _
        rw [hs]
      rw [e2]
      have q : OkF B S (NL.alloc (.lst ys) S) _ := hy b
      exact ⟨q.ok1, fun _ => q⟩
    · cases h
  · obtain ⟨d, rfl, a⟩ := one r
    split at h
    · rename_i hx
      obtain ⟨l, ds, rfl, g1, g2⟩ := sq_rd a hx
      split at h
      · rename_i ns hn
        cases h
        have e2 : bltD .sum [.ref l] S = .ok (.int ns.sum) S := by
          show (getL l >>= fun xs => match intsD xs with | some ns => (pure (.int ns.sum) : M D) | none => die) S = _
          rw [bind_eq, g1]
          show (match intsD ds with | some ns => (pure (.int ns.sum) : M D) | none => die) S = _
          rw [ints_rd g2, hn]; rfl
        rw [e2]
        exact nw (.int _) rfl
      · cases h
    · cases h
  · cases h
theorem isi_ok {T : Ty} (r : Rd B S d x) (h : isiU T x = .ok u) : OkF B S (isiD T d S) u := by
  unfold isiU at h
  cases hx : isD_ x with
  | true => rw [hx] at h; cases h
  | false =>
  rw [hx] at h
  cases h
  have e : tyD S d = some (tyU x) := by
    cases r <;> first | rfl | skip
    · rename_i h1 h2 h3
      unfold tyD
      dsimp only
      rw [sqO_lst h2]; rfl
    · rename_i h1 h2 h3
      unfold tyD
      dsimp only
      rw [sqO_frz h2]; rfl
    · rename_i h1 h2 h3
      cases hx
  unfold isiD
  rw [e]
  exact .now (.bl _) rfl
theorem unp_ok {n : Nat} {us : List U} (r : Rd B S d x) (h : unpU n x = .ok us) : ∃ ds, unpD n d S = .ok ds S ∧ Rds B S ds us := by
  unfold unpU at h
  split at h
  · cases r
    rename_i a
    split at h
    · rename_i hc
      cases h
      refine ⟨_, ?_, a⟩
      have e : unpD n (.tup _) = pure _ := if_pos (show List.length _ = n by rw [a.length]; exact hc)
      rw [e]; rfl
    · cases h
  · split at h
    · rename_i hx
      obtain ⟨l, ds, rfl, g1, g2⟩ := sq_rd r hx
      split at h
      · rename_i hc
        cases h
        refine ⟨ds, ?_, g2⟩
        show (getL l >>= fun xs => if xs.length = n then (pure xs : M (List D)) else die) S = _
        rw [bind_eq, g1]
        show (if ds.length = n then (pure ds : M (List D)) else die) S = _
        rw [if_pos (by rw [g2.length]; exact hc)]; rfl
      · cases h
    · cases h
theorem rng_ok {us : List U} (r : Rd B S d x) (q : Rd B S e y) (h : rngU x y = .ok us) : ∃ ds, rngD d e S = .ok ds S ∧ ∀ B' S', Rds B' S' ds us := by
  unfold rngU at h
  split at h
  · cases r; cases q
    rename_i a b
    split at h
    · rename_i hc
      cases h
      have e : rngD (.int a) (.int b) = pure _ := if_pos hc
      refine ⟨_, by rw [e]; rfl, fun B' S' => ?_⟩
      generalize List.range (b - a).toNat = ks
      induction ks with
      | nil => exact .nil
      | cons k ks ih => exact .cons (.int _) ih
    · cases h
  · cases h
theorem dgt_ok {f : D} {z : U} (r : Rd B S d x) (q : Rd B S e y) (p : Rd B S f z) (h : dgtU x y z = .ok u) : Ok1 B S (dgtM d e f S) u := by
  unfold dgtU at h
  split at h
  · rename_i us
    obtain ⟨l, rfl⟩ : ∃ l, d = .ref l := by cases r; exact ⟨_, rfl⟩
    split at h
    · rename_i k hk
      cases h
      obtain ⟨lk, kvs, g1, g2⟩ := getN_rd r
      have e0 : dgtM (.ref l) e f S = .ok ((findK kvs k).getD f) S := by
        show (getN l >>= fun p => keyM e >>= fun q => (pure ((findK p.2 q).getD f) : M D)) S = _
        rw [bind_eq, g1]
        show (keyM e >>= fun q => (pure ((findK kvs q).getD f) : M D)) S = _
        rw [keyM_rd q hk]; rfl
      refine ⟨_, S, e0, .refl S, ?_⟩
      rcases find_rd k g2 with ⟨z1, z2⟩ | ⟨dv, uv, z1, z2, z3⟩
      · rw [z1, z2]; exact p
      · rw [z1, z2]; exact z3
    · cases h
  · cases h
theorem isLs_ok {v : Unit} (r : Rd B S d x) (h : isLsU x = .ok v) : isLs d S = .ok () S := by
  unfold isLsU at h
  split at h
  · rename_i us hx
    obtain ⟨l, ds, rfl, g1, g2⟩ := sq_rd r hx
    unfold getL at g1
    unfold isLs
    dsimp only
    cases e : sqO S l with
    | none => rw [e] at g1; cases g1
    | some o => rfl
  · cases h
theorem ndx_ok (r : Rd B S d x) (q : Rd B S e y) (h : ndxU x y = .ok u) : Ok1 B S (ndxM d e S) u := by
  unfold ndxU at h
  split at h
  · rename_i us hx
    obtain ⟨l, ds, rfl, g1, g2⟩ := sq_rd r hx
    rw [← pd_rd 12 e y q, ← g2.mapO (pd_rd 12)] at h
    unfold getL at g1
    unfold ndxM
    dsimp only
    cases e0 : sqO S l with
    | none => rw [e0] at g1; cases g1
    | some o =>
      rw [e0] at g1
      cases g1
      dsimp only
      cases e1 : pd S 12 e with
      | none => rw [e1] at h; cases h
      | some p =>
        cases e2 : mapO (pd S 12) (items o) with
        | none => rw [e1, e2] at h; cases h
        | some qs =>
          rw [e1, e2] at h
          dsimp only at h ⊢
          cases e3 : qs.findIdx? fun q => PyData.eqv q p with
          | none => rw [e3] at h; cases h
          | some j =>
            rw [e3] at h
            cases h
            exact ⟨_, S, rfl, .refl S, .int _⟩
  · cases h
theorem cnt_ok (r : Rd B S d x) (q : Rd B S e y) (h : cntU x y = .ok u) : Ok1 B S (cntM d e S) u := by
  unfold cntU at h
  split at h
  · rename_i us hx
    obtain ⟨l, ds, rfl, g1, g2⟩ := sq_rd r hx
    rw [← pd_rd 12 e y q, ← g2.mapO (pd_rd 12)] at h
    unfold getL at g1
    unfold cntM
    dsimp only
    cases e0 : sqO S l with
    | none => rw [e0] at g1; cases g1
    | some o =>
      rw [e0] at g1
      cases g1
      dsimp only
      cases e1 : pd S 12 e with
      | none => rw [e1] at h; cases h
      | some p =>
        cases e2 : mapO (pd S 12) (items o) with
        | none => rw [e1, e2] at h; cases h
        | some qs =>
          rw [e1, e2] at h
          cases h
          exact ⟨_, S, rfl, .refl S, .int _⟩
  · cases h
theorem flat_rd {d : D} {u : U} (r : Rd B S d u) : flatD d = flatU u := by
  cases r <;> first | rfl | skip
  rename_i r
  exact ints_rd r
theorem dst_ok (r : Rd B S d x) (h : dstU x = .ok u) : Ok1 B S (dstM d S) u := by
  unfold dstU at h
  split at h
  · rename_i us hx
    obtain ⟨l, ds, rfl, g1, g2⟩ := sq_rd r hx
    rw [← g2.mapO fun d u => flat_rd] at h
    show Ok1 B S ((getL l >>= fun xs => match mapO flatD xs with
      | some ks => if ks.length < 64 then (pure (D.int ((dd ks).length : Nat)) : M D) else die
      | none => die) S) u
    rw [bind_eq, g1]
    show Ok1 B S ((match mapO flatD ds with
      | some ks => if ks.length < 64 then (pure (D.int ((dd ks).length : Nat)) : M D) else die
      | none => die) S) u
    cases e : mapO flatD ds with
    | none => rw [e] at h; cases h
    | some ks =>
      rw [e] at h
      dsimp only at h ⊢
      by_cases c : ks.length < 64
      · rw [if_pos c] at h ⊢
        cases h
        exact ⟨_, S, rfl, .refl S, .int _⟩
      · rw [if_neg c] at h; cases h
  · cases h
theorem isN_ok {us : List U} (r : Rd B S d (.dct us)) : isN d S = .ok () S := by
  obtain ⟨l, rfl⟩ : ∃ l, d = .ref l := by cases r; exact ⟨_, rfl⟩
  obtain ⟨lk, kvs, g1, g2⟩ := getN_rd r
  show (getN l >>= fun _ => (pure () : M Unit)) S = _
  rw [bind_eq, g1]; rfl
theorem OkF.newN (b : Bnd B S) : OkF B S (NL.alloc (.dct false []) S) (.dct []) := by
  have nb : ¬ B S.length := fun h => Nat.lt_irrefl _ (b _ h)
  have e : (S ++ [Ob.dct false []])[S.length]? = some (.dct false []) := by simp
  exact ⟨.ref S.length, S ++ [.dct false []], rfl, .app, .dct nb e .nil, fun _ => ⟨S.length, rfl, Nat.le_refl _, .dct e .nil⟩⟩
/-- {x: y} -/
theorem OkF.new1 (b : Bnd B S) {k : NestedKey} (r : Rd B S d x) (q : Rd B S e y) (hk : keyU x = some k) : OkF B S ((keyM d >>= fun _ => NL.alloc (.dct false [(d, e)])) S) (.dct [.tup [x, y]]) := by
  have nb : ¬ B S.length := fun h => Nat.lt_irrefl _ (b _ h)
  have g : Gw S (S ++ [Ob.dct false [(d, e)]]) := .app
  have g1 : (S ++ [Ob.dct false [(d, e)]])[S.length]? = some (.dct false [(d, e)]) := by simp
  have rs : Rds B (S ++ [Ob.dct false [(d, e)]]) ([(d, e)].map prD) [.tup [x, y]] := .cons (.tup (.cons (r.gw g) (.cons (q.gw g) .nil))) .nil
  have hkd : keyM d = pure k := by unfold keyM; rw [key_rd r, hk]
  rw [hkd]
  refine ⟨.ref S.length, S ++ [.dct false [(d, e)]], rfl, .app, .dct nb g1 rs, fun _ => ⟨S.length, rfl, Nat.le_refl _, .dct g1 ?_⟩⟩
  refine Rds.mono (fun l o h1 h2 => ?_) (.cons (.tup (.cons r (.cons q .nil))) .nil : Rds B S ([(d, e)].map prD) [.tup [x, y]])
  refine ⟨fun z => ?_, g.get h2⟩
  rcases z with z | z
  · exact h1 z
  · have := lt_of_get h2; omega
end
end VL

/-! Expressions answer trees. -/
namespace VL
open PySem PySem.Spec PyProof.Rows L2 NL
/-- a name: whether its list is its own, its value -/
abbrev VEnv := List (Option (Bool × U))
def getV (en : VEnv) (i : Nat) : VR U := match en[i]? with
  | some (some p) => .ok p.2
  | _ => .stuck
def wipeV (en : VEnv) : List Nat → VEnv
  | [] => en
  | v :: vs => (wipeV en vs).set v none
def setAllV (en : VEnv) : List Nat → List U → VEnv
  | i :: is, u :: us => setAllV (en.set i (some (false, u))) is us
  | _, _ => en
def bindV : Tg → U → VEnv → VR VEnv
  | .nm i, u, en => .ok (en.set i (some (false, u)))
  | .tp is, u, en => (unpU is.length u).bind fun us => .ok (setAllV en is us)
def compV (bnd : U → VR VEnv) (c : VEnv → VR Bool) (e : VEnv → VR U) : List U → VR (List U)
  | [] => .ok []
  | x :: xs => (bnd x).bind fun en => (c en).bind fun t => if t = true then (e en).bind fun u => (compV bnd c e xs).bind fun r => .ok (u :: r) else compV bnd c e xs
def noXV {α : Type} (r : VR α) : VR α := match r with
  | .ok a => .ok a
  | _ => .stuck
def isNU : U → VR Unit
  | .dct _ => .ok ()
  | _ => .stuck
def fstU : U → U
  | .tup [x, _] => x
  | u => u
/-- the items of a name: of a dict the keys -/
def itnU : U → VR (List U × Bool)
  | .dct us => .ok (us.map fstU, true)
  | u => iterU u
def itmU : U → VR (List U × Bool)
  | .dct us => .ok (us, true)
  | _ => .stuck
mutual
noncomputable def evV (C : Nat → List U → VR U) : E → VEnv → VR U
  | .var i, en => getV en i
  | .con .non, _ => .ok .non
  | .con (.bl b), _ => .ok (.bl b)
  | .con (.int i), _ => .ok (.int i)
  | .con (.str x), _ => .ok (.str x)
  | .con _, _ => .stuck
  | .bin o a b, en => (evV C a en).bind fun x => (evV C b en).bind fun y => binU o x y
  | .neg a, en => (evV C a en).bind negU
  | .not a, en => (evV C a en).bind fun x => (truU x).bind fun t => .ok (.bl (!t))
  | .cmp o a b, en => (evV C a en).bind fun x => (evV C b en).bind fun y => cmpU o x y
  | .chn o o' a b c, en => (evV C a en).bind fun x => (evV C b en).bind fun y => (cmpU o x y).bind fun z => (truU z).bind fun t => if t = true then (evV C c en).bind fun z => cmpU o' y z else .ok (.bl false)
  | .and a b, en => (evV C a en).bind fun x => (truU x).bind fun t => if t = true then evV C b en else .ok (.bl false)
  | .or a b, en => (evV C a en).bind fun x => (truU x).bind fun t => if t = true then .ok (.bl true) else evV C b en
  | .ite c a b, en => (evV C c en).bind fun x => (truU x).bind fun t => if t = true then evV C a en else evV C b en
  | .tup es, en => (evVs C es en).bind fun xs => if xs.length ≤ sizeLine then .ok (.tup xs) else .stuck
  | .lst es, en => (evVs C es en).bind fun xs => if xs.length ≤ sizeLine then .ok (.lst xs) else .stuck
  | .idx a i, en => (evV C a en).bind fun x => (evV C i en).bind fun y => ixU x y
  | .slc p q a lo hi, en => (evV C a en).bind fun x => (evV C lo en).bind fun y => (bndU p y).bind fun y' => (evV C hi en).bind fun z => (bndU q z).bind fun z' => slcU x y' z'
  | .call f es, en => (evVs C es en).bind fun xs => C f xs
  | .blt b es, en => (evVs C es en).bind fun xs => bltU b xs
  | .isi a T, en => (evV C a en).bind fun x => isiU T x
  | .rev e, en => (evV C e en).bind revU
  | .comp own tg it c e, en => (evVt C it en).bind fun p => if p.1.length ≤ sizeLine then
      noXV ((compV (fun d => bindV tg d (wipeV en own)) (fun en' => (evV C c en').bind truU) (fun en' => evV C e en') p.1).bind fun us => .ok (.lst us)) else .stuck
  | .dnew, _ => .ok (.dct [])
  | .dgt a k x, en => (evV C a en).bind fun y => (isNU y).bind fun _ => (evV C k en).bind fun q => (evV C x en).bind fun z => dgtU y q z
  | .ndx a k, en => (evV C a en).bind fun y => (isLsU y).bind fun _ => (evV C k en).bind fun q => ndxU y q
  | .dst a, en => (evV C a en).bind dstU
  | .srk a, en => (evV C a en).bind srkU
  | .cnt a k, en => (evV C a en).bind fun y => (isLsU y).bind fun _ => (evV C k en).bind fun q => cntU y q
  | .done i j, en => (getV en i).bind fun x => (getV en j).bind fun y => match keyU x with
    | some _ => .ok (.dct [.tup [x, y]])
    | none => .stuck
noncomputable def evVs (C : Nat → List U → VR U) : Es → VEnv → VR (List U)
  | .nil, _ => .ok []
  | .cons e es, en => (evV C e en).bind fun x => (evVs C es en).bind fun xs => .ok (x :: xs)
noncomputable def evVt (C : Nat → List U → VR U) : NL.It → VEnv → VR (List U × Bool)
  | .val e, en => (evV C e en).bind iterU
  | .rng1 b, en => (evV C b en).bind fun y => (rngU (.int 0) y).bind fun xs => .ok (xs, false)
  | .rng2 a b, en => (evV C a en).bind fun x => (evV C b en).bind fun y => (rngU x y).bind fun xs => .ok (xs, false)
  | .enm e, en => (evV C e en).bind fun x => (enmU x).bind fun xs => .ok (xs, true)
  | .zip a b, en => (evV C a en).bind fun x => (evV C b en).bind fun y => (zipU x y).bind fun xs => .ok (xs, true)
  | .nam i, en => (getV en i).bind itnU
  | .itm i, en => (getV en i).bind itmU
end
mutual
def fvE : E → List Nat
  | .var i => [i]
  | .con _ => []
  | .bin _ a b => fvE a ++ fvE b
  | .neg a => fvE a
  | .not a => fvE a
  | .cmp _ a b => fvE a ++ fvE b
  | .chn _ _ a b c => fvE a ++ (fvE b ++ fvE c)
  | .and a b => fvE a ++ fvE b
  | .or a b => fvE a ++ fvE b
  | .ite c a b => fvE c ++ (fvE a ++ fvE b)
  | .tup es => fvEs es
  | .lst es => fvEs es
  | .idx a i => fvE a ++ fvE i
  | .slc _ _ a lo hi => fvE a ++ (fvE lo ++ fvE hi)
  | .call _ es => fvEs es
  | .blt _ es => fvEs es
  | .isi a _ => fvE a
  | .comp _ _ it c e => fvI it ++ (fvE c ++ fvE e)
  | .rev a => fvE a
  | .dnew => []
  | .dgt a k x => fvE a ++ (fvE k ++ fvE x)
  | .ndx a k => fvE a ++ fvE k
  | .dst a => fvE a
  | .srk a => fvE a
  | .cnt a k => fvE a ++ fvE k
  | .done i j => [i] ++ [j]
def fvEs : Es → List Nat
  | .nil => []
  | .cons e es => fvE e ++ fvEs es
def fvI : NL.It → List Nat
  | .val e => fvE e
  | .rng1 b => fvE b
  | .rng2 a b => fvE a ++ fvE b
  | .enm e => fvE e
  | .zip a b => fvE a ++ fvE b
  | .nam i => [i]
  | .itm i => [i]
end
def freshE (fr : Nat → Bool) : E → Bool
  | .lst _ => true
  | .dnew => true
  | .srk _ => true
  | .done _ _ => true
  | .comp _ _ _ _ _ => true
  | .rev _ => true
  | .slc _ _ _ _ _ => true
  | .blt b _ => newB b
  | .bin _ _ _ => true
  | .call f _ => fr f
  | .ite _ a b => freshE fr a && freshE fr b
  | _ => false
/-- an answer is read so; where fl, a list is new -/
def OkB (fl : Bool) (B : Nat → Prop) (S : Store) (r : R D) (u : U) : Prop := ∃ d S1, r = .ok d S1 ∧ Gw S S1 ∧ Rd B S1 d u ∧ (fl = true → isL u = true → FrD B S.length S1 d u)
theorem OkF.b {fl : Bool} {B : Nat → Prop} {S : Store} {r : R D} {u : U} (h : OkF B S r u) : OkB fl B S r u := by
  obtain ⟨d, S1, h1, h2, h3, h4⟩ := h
  exact ⟨d, S1, h1, h2, h3, fun _ => h4⟩
theorem Ok1.b {B : Nat → Prop} {S : Store} {r : R D} {u : U} (h : Ok1 B S r u) : OkB false B S r u := by
  obtain ⟨d, S1, h1, h2, h3⟩ := h
  exact ⟨d, S1, h1, h2, h3, fun e => by cases e⟩
theorem OkB.ok1 {fl : Bool} {B : Nat → Prop} {S : Store} {r : R D} {u : U} (h : OkB fl B S r u) : Ok1 B S r u := by
  obtain ⟨d, S1, h1, h2, h3, _⟩ := h
  exact ⟨d, S1, h1, h2, h3⟩
theorem OkB.gw {fl : Bool} {B : Nat → Prop} {S S1 : Store} {r : R D} {u : U} (g : Gw S S1) (h : OkB fl B S1 r u) : OkB fl B S r u := by
  obtain ⟨d, S2, h1, h2, h3, h4⟩ := h
  exact ⟨d, S2, h1, g.trans h2, h3, fun f e => (h4 f e).le g.len⟩
structure EnvR (is : List Nat) (B : Nat → Prop) (S : Store) (ven : VEnv) (en : NL.Env) : Prop where
  len : ven.length = en.length
  get : ∀ i ∈ is, ∀ w u, ven[i]? = some (some (w, u)) → ∃ d, en[i]? = some (some d) ∧ Rd B S d u
/-- what no place of a store is read as -/
def mk : U := .dct [.non]
theorem mk_no {B : Nat → Prop} {S : Store} {d : D} (r : Rd B S d mk) : False := by
  unfold mk at r
  generalize hu : U.dct [.non] = u at r
  cases r with
  | dct n g r =>
    rename_i kvs us
    injection hu with hu
    subst hu
    cases kvs with
    | nil => cases r
    | cons p kvs => cases r with | cons r1 _ => cases r1
  | _ => cases hu
@[irreducible] def mks : List U := List.replicate 1000 mk
theorem mks_len : mks.length = 1000 := by unfold mks; simp
theorem mks_drop (vs : List U) : (mks ++ vs).drop 999 = mk :: vs := by
  unfold mks
  rw [List.drop_append_of_le_length (by simp), List.drop_replicate]; rfl
/-- a call that changes its first argument, an own dict of flat things -/
def MutOk (C : Nat → List D → M D) (CV : Nat → List U → VR U) : Prop :=
  ∀ f us vs us' r, CV f (mks ++ .dct us :: vs) = .ok (.tup [.dct us', r]) → noLs us = true → noLs vs = true → ∀ S l ds, OwnU (fun _ => False) S l (.dct us) → Rds (fun _ => False) S ds vs →
    ∃ d S', C f (.ref l :: ds) S = .ok d S' ∧ S.length ≤ S'.length ∧ (∀ k o, k ≠ l → S[k]? = some o → S'[k]? = some o) ∧ OwnU (fun _ => False) S' l (.dct us') ∧ noLs us' = true ∧ noL r = true ∧ Rd (fun _ => False) S' d r
/-- a call whose exception is asked for -/
def mkx : U := .dct [.bl true]
theorem mkx_no {B : Nat → Prop} {S : Store} {d : D} (r : Rd B S d mkx) : False := by
  unfold mkx at r
  generalize hu : U.dct [.bl true] = u at r
  cases r with
  | dct n g r =>
    rename_i kvs us
    injection hu with hu
    subst hu
    cases kvs with
    | nil => cases r
    | cons p kvs => cases r with | cons r1 _ => cases r1
  | _ => cases hu
@[irreducible] def xks : List U := List.replicate 1000 mkx
theorem xks_len : xks.length = 1000 := by unfold xks; simp
theorem xks_drop (vs : List U) : (xks ++ vs).drop 999 = mkx :: vs := by
  unfold xks
  rw [List.drop_append_of_le_length (by simp), List.drop_replicate]; rfl
/-- a call that raises -/
def XcOk (C : Nat → List D → M D) (CV : Nat → List U → VR U) : Prop :=
  ∀ f us c, CV f (xks ++ .str c :: us) = .ok (.bl true) → ∀ B S ds, Bnd B S → Rds B S ds us → ∃ S1, C f ds S = .exc c none S1 ∧ Gw S S1
def CallOk (fr : Nat → Bool) (C : Nat → List D → M D) (CV : Nat → List U → VR U) : Prop :=
  (∀ f us u, CV f us = .ok u → ∀ B S ds, Bnd B S → Rds B S ds us → OkB (fr f) B S (C f ds S) u) ∧ MutOk C CV ∧ XcOk C CV
section
variable {B B' : Nat → Prop} {S S' : Store} {ven : VEnv} {en : NL.Env} {is js : List Nat}
theorem EnvR.sub (h : EnvR is B S ven en) (k : ∀ i ∈ js, i ∈ is) : EnvR js B S ven en := ⟨h.len, fun i hi => h.get i (k i hi)⟩
theorem EnvR.l (h : EnvR (is ++ js) B S ven en) : EnvR is B S ven en := h.sub fun i hi => List.mem_append_left _ hi
theorem EnvR.r (h : EnvR (is ++ js) B S ven en) : EnvR js B S ven en := h.sub fun i hi => List.mem_append_right _ hi
theorem EnvR.mono (h : EnvR is B S ven en) (g : ∀ l o, ¬ B l → S[l]? = some o → ¬ B' l ∧ S'[l]? = some o) : EnvR is B' S' ven en := ⟨h.len, fun i hi w u e => by
  obtain ⟨d, h1, h2⟩ := h.get i hi w u e
  exact ⟨d, h1, h2.mono g⟩⟩
theorem EnvR.gw (h : EnvR is B S ven en) (g : Gw S S') : EnvR is B S' ven en := h.mono fun l o h1 h2 => ⟨h1, g.get h2⟩
theorem EnvR.set (h : EnvR is B S ven en) {d : D} {u : U} {w : Bool} (r : Rd B S d u) (i : Nat) : EnvR is B S (ven.set i (some (w, u))) (en.set i (some d)) := ⟨by simp [h.len], fun j hj w' u' e => by
  by_cases hij : i = j
  · subst hij
    by_cases hl : i < ven.length
    · rw [List.getElem?_set_self hl] at e
      cases e
      exact ⟨d, List.getElem?_set_self (by rw [← h.len]; exact hl), r⟩
    · rw [List.getElem?_eq_none (by simpa using hl)] at e; cases e
  · rw [List.getElem?_set_ne hij] at e ⊢
    exact h.get j hj w' u' e⟩
theorem EnvR.wipe (h : EnvR is B S ven en) : ∀ vs : List Nat, EnvR is B S (wipeV ven vs) (NL.wipeD en vs)
  | [] => h
  | v :: vs => by
    have ih := EnvR.wipe h vs
    refine ⟨by show (List.set _ _ _).length = (List.set _ _ _).length; rw [List.length_set, List.length_set]; exact ih.len, fun j hj w u e => ?_⟩
    show ∃ d, (List.set _ _ _)[j]? = _ ∧ _
    have e : ((wipeV ven vs).set v none)[j]? = some (some (w, u)) := e
    by_cases hij : v = j
    · subst hij
      by_cases hl : v < (wipeV ven vs).length
      · rw [List.getElem?_set_self hl] at e; cases e
      · rw [List.getElem?_eq_none (by simpa using hl)] at e; cases e
    · rw [List.getElem?_set_ne hij] at e ⊢
      exact ih.get j hj w u e
theorem EnvR.setAll : ∀ {ks : List Nat} {ds : List D} {us : List U} {ven : VEnv} {en : NL.Env}, EnvR is B S ven en → Rds B S ds us → EnvR is B S (setAllV ven ks us) (NL.setAll en ks ds)
  | [], _, _, _, _, h, _ => by unfold setAllV NL.setAll; exact h
  | k :: ks, _, _, _, _, h, .nil => by unfold setAllV NL.setAll; exact h
  | k :: ks, _, _, _, _, h, .cons a r => by
    unfold setAllV NL.setAll
    exact EnvR.setAll (h.set a k) r
theorem bind_ok {tg : Tg} {d : D} {u : U} {ven' : VEnv} (h : EnvR is B S ven en) (r : Rd B S d u) (hb : bindV tg u ven = .ok ven') : ∃ en', NL.bindT tg d en S = .ok en' S ∧ EnvR is B S ven' en' := by
  cases tg with
  | nm i => cases hb; exact ⟨_, rfl, h.set r i⟩
  | tp ks =>
    obtain ⟨us, h1, h2⟩ := VR.bind_ok hb
    cases h2
    obtain ⟨ds, h3, h4⟩ := unp_ok r h1
    refine ⟨NL.setAll en ks ds, ?_, h.setAll h4⟩
    show (unpD ks.length d >>= fun ds => (pure (NL.setAll en ks ds) : M NL.Env)) S = _
    rw [bind_eq, h3]; rfl
theorem Gw_of {S S' : Store} (h : ∀ k, k < S.length → S'[k]? = S[k]?) (hl : S.length ≤ S'.length) : Gw S S' := by
  refine ⟨S'.drop S.length, ?_⟩
  apply List.ext_getElem?
  intro k
  by_cases hk : k < S.length
  · rw [h k hk, List.getElem?_append_left hk]
  · rw [List.getElem?_append_right (by omega), List.getElem?_drop]
    congr 1
    omega
/-- all but l stays -/
structure Ext (l : Nat) (S S' : Store) : Prop where
  len : S.length ≤ S'.length
  get : ∀ k o, k ≠ l → S[k]? = some o → S'[k]? = some o
theorem Ext.refl {l : Nat} : Ext l S S := ⟨Nat.le_refl _, fun _ _ _ h => h⟩
theorem Ext.trans {l : Nat} {S1 S2 S3 : Store} (a : Ext l S1 S2) (b : Ext l S2 S3) : Ext l S1 S3 := ⟨Nat.le_trans a.len b.len, fun k o n h => b.get k o n (a.get k o n h)⟩
theorem Ext.gw {l : Nat} (g : Gw S S') : Ext l S S' := ⟨g.len, fun _ _ _ h => g.get h⟩
theorem Ext.set {l : Nat} {o : Ob} : Ext l S (S.set l o) := ⟨by simp, fun k o n h => by rw [List.getElem?_set_ne (fun e => n e.symm)]; exact h⟩
theorem Ext.mono {l : Nat} (g : Ext l S S') (hB : B l) : ∀ k o, ¬ B k → S[k]? = some o → ¬ B k ∧ S'[k]? = some o := fun k o h1 h2 => ⟨h1, g.get k o (fun e => h1 (by rw [e]; exact hB)) h2⟩
end
theorem at_sq {B : Nat → Prop} {S : Store} {d : D} {u : U} {us : List U} (r : Rd B S d u) (h : sqU u = some us) : ∃ l o, d = .ref l ∧ sqO S l = some o ∧ ¬ B l ∧ Rds B S (items o) us := by
  cases r with
  | lst n g r => cases h; exact ⟨_, _, rfl, sqO_lst g, n, r⟩
  | frz n g r => cases h; exact ⟨_, _, rfl, sqO_frz g, n, r⟩
  | _ => cases h
def CkOkV (B : Nat → Prop) (ps : List (Nat × Ob)) (S : Store) : Prop := ∀ p ∈ ps, S[p.1]? = some p.2 ∧ ¬ B p.1
theorem ck_run {B : Nat → Prop} {p : List (Nat × Ob)} {S : Store} (h : CkOkV B p S) : ckD p S = .ok () S := by
  show (open Classical in if ∀ q ∈ p, S[q.1]? = some q.2 then (R.ok () S : R Unit) else .stuck) = _
  exact if_pos fun q hq => (h q hq).1
theorem ck_nil {B : Nat → Prop} {S : Store} : CkOkV B [] S := fun _ h => by cases h
theorem num_rd {B : Nat → Prop} {S : Store} : ∀ {ds : List D} {us : List U} (k : Nat), Rds B S ds us → Rds B S (numD k ds) (numU k us)
  | _, _, _, .nil => .nil
  | _, _, k, .cons a r => by
    rw [numD, numU]
    exact .cons (.tup (.cons (.int _) (.cons a .nil))) (num_rd (k + 1) r)
theorem zp_rd {B : Nat → Prop} {S : Store} : ∀ {ds es : List D} {us vs : List U}, Rds B S ds us → Rds B S es vs → Rds B S (zipD ds es) (zpU us vs)
  | _, _, _, _, .nil, _ => .nil
  | _, _, _, _, .cons _ _, .nil => .nil
  | _, _, _, _, .cons a r, .cons b s => .cons (.tup (.cons a (.cons b .nil))) (zp_rd r s)
theorem rev_ok {B : Nat → Prop} {S : Store} {d : D} {x u : U} (b : Bnd B S) (r : Rd B S d x) (h : revU x = .ok u) : OkF B S (revM d S) u := by
  unfold revU at h
  split at h
  · rename_i xs hx
    cases h
    obtain ⟨l, ds, rfl, g, rs⟩ := sq_rd r hx
    show OkF B S ((getL l >>= fun xs => NL.alloc (.lst xs.reverse)) S) _
    rw [bind_eq, g]
    exact OkF.new b rs.reverse
  · cases h
theorem enm_rd {B : Nat → Prop} {S : Store} {d : D} {x : U} {xs : List U} (r : Rd B S d x) (h : enmU x = .ok xs) : ∃ ds ck, enmM d S = .ok (ds, ck) S ∧ Rds B S ds xs ∧ CkOkV B ck S := by
  unfold enmU at h
  split at h
  · rename_i us hx
    cases h
    obtain ⟨l, o, rfl, g1, n1, r1⟩ := at_sq r hx
    refine ⟨numD 0 (items o), [(l, o)], ?_, num_rd 0 r1, fun p hp => ?_⟩
    · show (match sqO S l with | some o => R.ok (numD 0 (items o), [(l, o)]) S | none => .stuck) = _
      rw [g1]
    · rw [List.mem_singleton.mp hp]
      exact ⟨(sqO_some g1).1, n1⟩
  · cases h
theorem zip_rd {B : Nat → Prop} {S : Store} {d e : D} {x y : U} {xs : List U} (r : Rd B S d x) (q : Rd B S e y) (h : zipU x y = .ok xs) : ∃ ds ck, zipM d e S = .ok (ds, ck) S ∧ Rds B S ds xs ∧ CkOkV B ck S := by
  unfold zipU at h
  split at h
  · cases h
    cases r with
    | tup r => cases q with
      | tup q => exact ⟨_, [], rfl, zp_rd r q, ck_nil⟩
  · split at h
    · rename_i us vs hx hy
      cases h
      obtain ⟨l, o, rfl, g1, n1, r1⟩ := at_sq r hx
      obtain ⟨k, p, rfl, g2, n2, r2⟩ := at_sq q hy
      refine ⟨zipD (items o) (items p), [(l, o), (k, p)], ?_, zp_rd r1 r2, fun c hc => ?_⟩
      · show (match sqO S l, sqO S k with | some o, some p => R.ok (zipD (items o) (items p), [(l, o), (k, p)]) S | _, _ => .stuck) = _
        rw [g1, g2]
      · rcases List.mem_cons.mp hc with rfl | hc
        · exact ⟨(sqO_some g1).1, n1⟩
        · rw [List.mem_singleton.mp hc]
          exact ⟨(sqO_some g2).1, n2⟩
    · cases h
/-! ### locked or not: it is read alike -/
mutual
theorem Rd.lk {B : Nat → Prop} {S : Store} {l : Nat} {lk lk' : Bool} {kvs : List (D × D)} (h : S[l]? = some (.dct lk kvs)) : ∀ {d : D} {u : U}, Rd B S d u → Rd B (S.set l (.dct lk' kvs)) d u
  | _, _, .non => .non
  | _, _, .bl b => .bl b
  | _, _, .int i => .int i
  | _, _, .str x => .str x
  | _, _, .tup r => .tup (Rds.lk h r)
  | _, _, .lst (l := k) h1 h2 r => .lst h1 (by rw [List.getElem?_set_ne (fun e => by subst e; rw [h] at h2; cases h2)]; exact h2) (Rds.lk h r)
  | _, _, .frz (l := k) h1 h2 r => .frz h1 (by rw [List.getElem?_set_ne (fun e => by subst e; rw [h] at h2; cases h2)]; exact h2) (Rds.lk h r)
  | _, _, .dct (l := k) (lk := lk2) (kvs := kvs2) h1 h2 r =>
    if e : l = k then .dct (lk := lk') h1 (by
      subst e
      rw [h] at h2
      cases h2
      exact List.getElem?_set_self (lt_of_get h)) (Rds.lk h r)
    else .dct (lk := lk2) h1 (by rw [List.getElem?_set_ne e]; exact h2) (Rds.lk h r)
theorem Rds.lk {B : Nat → Prop} {S : Store} {l : Nat} {lk lk' : Bool} {kvs : List (D × D)} (h : S[l]? = some (.dct lk kvs)) : ∀ {ds : List D} {us : List U}, Rds B S ds us → Rds B (S.set l (.dct lk' kvs)) ds us
  | _, _, .nil => .nil
  | _, _, .cons a r => .cons (Rd.lk h a) (Rds.lk h r)
end
theorem OwnU.lk {P : Nat → Prop} {S : Store} {l k : Nat} {lk lk' : Bool} {kvs : List (D × D)} {u : U} (h : S[l]? = some (.dct lk kvs)) (ne : l ≠ k) (o : OwnU P S k u) : OwnU P (S.set l (.dct lk' kvs)) k u := by
  cases o with
  | lst h1 h2 => exact .lst (by rw [List.getElem?_set_ne ne]; exact h1) (h2.lk h)
  | dct h1 h2 => exact .dct (by rw [List.getElem?_set_ne ne]; exact h1) (h2.lk h)
theorem EnvR.lk {is : List Nat} {B : Nat → Prop} {S : Store} {ven : VEnv} {en : NL.Env} {l : Nat} {lk lk' : Bool} {kvs : List (D × D)} (h : S[l]? = some (.dct lk kvs)) (r : EnvR is B S ven en) : EnvR is B (S.set l (.dct lk' kvs)) ven en := ⟨r.len, fun i hi w u e => by
  obtain ⟨d, h1, h2⟩ := r.get i hi w u e
  exact ⟨d, h1, h2.lk h⟩⟩
theorem Gw.unlk {S S2 : Store} {l : Nat} {kvs : List (D × D)} (h : S[l]? = some (.dct false kvs)) (g : Gw (S.set l (.dct true kvs)) S2) : S2[l]? = some (.dct true kvs) ∧ Gw S (S2.set l (.dct false kvs)) := by
  have hl := lt_of_get h
  refine ⟨g.get (List.getElem?_set_self hl), ?_⟩
  obtain ⟨U, rfl⟩ := g
  refine ⟨U, ?_⟩
  apply List.ext_getElem?
  intro k
  by_cases hk : l = k
  · subst hk
    rw [List.getElem?_set_self (by rw [List.length_append, List.length_set]; omega), List.getElem?_append_left hl, h]
  · rw [List.getElem?_set_ne hk]
    by_cases hk2 : k < S.length
    · rw [List.getElem?_append_left (by rw [List.length_set]; exact hk2), List.getElem?_append_left hk2, List.getElem?_set_ne hk]
    · rw [List.getElem?_append_right (by rw [List.length_set]; omega), List.getElem?_append_right (by omega), List.length_set]
theorem lkOf_at {i l : Nat} {en : NL.Env} {S : Store} {kvs : List (D × D)} (h : lkOf (some i) en S = some (l, kvs)) : en[i]? = some (some (.ref l)) ∧ S[l]? = some (.dct false kvs) := by
  unfold lkOf at h
  dsimp only at h
  split at h
  · rename_i l' e
    split at h
    · rename_i kvs' e2; cases h; exact ⟨e, e2⟩
    · cases h
  · cases h
theorem lkOf_set {it : Option Nat} {l : Nat} {en : NL.Env} {S : Store} {kvs : List (D × D)} (h : lkOf it en S = some (l, kvs)) : lkOf it en (S.set l (.dct true kvs)) = none := by
  cases it with
  | none => cases h
  | some i =>
    obtain ⟨h1, h2⟩ := lkOf_at h
    unfold lkOf
    dsimp only
    rw [h1]
    dsimp only
    rw [List.getElem?_set_self (lt_of_get h2)]
theorem lkOf_dct {i l : Nat} {en : NL.Env} {S : Store} {lk : Bool} {kvs : List (D × D)} (h : lkOf (some i) en S = none) (h1 : en[i]? = some (some (.ref l))) (h2 : S[l]? = some (.dct lk kvs)) : lk = true := by
  cases lk with
  | true => rfl
  | false =>
    unfold lkOf at h
    dsimp only at h
    rw [h1] at h
    dsimp only at h
    rw [h2] at h
    cases h
theorem lock_okB {fl : Bool} {B : Nat → Prop} {is : List Nat} {S : Store} {ven : VEnv} {en : NL.Env} {it : Option Nat} {m : M D} {u : U} (k : ∀ S, lkOf it en S = none → Bnd B S → EnvR is B S ven en → OkB fl B S (m S) u) (b : Bnd B S) (r : EnvR is B S ven en) : OkB fl B S (lockM (fun _ => true) it en m S) u := by
  cases h : lkOf it en S with
  | none => rw [lockM_none h]; exact k S h b r
  | some p =>
    obtain ⟨l, kvs⟩ := p
    have h0 := lkOf_some h
    have bs : Bnd B (S.set l (.dct true kvs)) := fun x z => by rw [List.length_set]; exact b x z
    obtain ⟨d, S2, q1, w, r1, k1⟩ := k _ (lkOf_set h) bs (r.lk h0)
    obtain ⟨e1, w2⟩ := Gw.unlk h0 w
    rw [lockM_some h, q1]
    refine ⟨d, S2.set l (.dct false kvs), ?_, w2, r1.lk e1, fun z1 z2 => ?_⟩
    · dsimp only
      rw [e1]
      rfl
    · obtain ⟨l2, y1, y2, y3⟩ := k1 z1 z2
      rw [List.length_set] at y2
      have := lt_of_get h0
      exact ⟨l2, y1, y2, y3.lk e1 (by omega)⟩
theorem fst_rd {B : Nat → Prop} {S : Store} : ∀ {kvs : List (D × D)} {us : List U}, Rds B S (kvs.map prD) us → Rds B S (kvs.map Prod.fst) (us.map fstU)
  | [], us, r => by cases r; exact .nil
  | p :: kvs, us, r => by
    rw [List.map_cons] at r
    cases r with
    | cons a r =>
      obtain ⟨x, y, rfl, rx, ry⟩ := pr_rd a
      exact .cons rx (fst_rd r)
theorem itn_ok {B : Nat → Prop} {S : Store} {d : D} {u : U} {p : List U × Bool} (r : Rd B S d u) (hd : ∀ l lk kvs, d = .ref l → S[l]? = some (.dct lk kvs) → lk = true) (h : itnU u = .ok p) : ∃ ds ck, iterN d S = .ok (ds, ck) S ∧ Rds B S ds p.1 ∧ CkOkV B ck S ∧ (∀ q ∈ ck, d = .ref q.1) := by
  cases r with
  | dct n g r =>
    rename_i l lk kvs us
    cases h
    have := hd l lk kvs rfl g
    subst this
    refine ⟨kvs.map Prod.fst, [(l, .dct true kvs)], ?_, fst_rd r, fun q hq => ?_, fun q hq => ?_⟩
    · unfold iterN
      dsimp only
      rw [g]
    · rw [List.mem_singleton.mp hq]; exact ⟨g, n⟩
    · rw [List.mem_singleton.mp hq]
  | tup r =>
    cases h
    exact ⟨_, [], rfl, r, ck_nil, fun q hq => by cases hq⟩
  | lst n g r =>
    rename_i l xs us
    cases h
    refine ⟨xs, [(l, .lst xs)], ?_, r, fun q hq => ?_, fun q hq => ?_⟩
    · unfold iterN
      dsimp only
      rw [g]
      show (match sqO S l with | some o => R.ok (items o, [(l, o)]) S | none => .stuck) = _
      rw [sqO_lst g]; rfl
    · rw [List.mem_singleton.mp hq]; exact ⟨g, n⟩
    · rw [List.mem_singleton.mp hq]
  | frz n g r =>
    rename_i l xs us
    cases h
    refine ⟨xs, [(l, .frz xs)], ?_, r, fun q hq => ?_, fun q hq => ?_⟩
    · unfold iterN
      dsimp only
      rw [g]
      show (match sqO S l with | some o => R.ok (items o, [(l, o)]) S | none => .stuck) = _
      rw [sqO_frz g]; rfl
    · rw [List.mem_singleton.mp hq]; exact ⟨g, n⟩
    · rw [List.mem_singleton.mp hq]
  | _ => cases h
theorem itm_ok {B : Nat → Prop} {S : Store} {d : D} {u : U} {p : List U × Bool} (r : Rd B S d u) (hd : ∀ l lk kvs, d = .ref l → S[l]? = some (.dct lk kvs) → lk = true) (h : itmU u = .ok p) : ∃ ds ck, itmM d S = .ok (ds, ck) S ∧ Rds B S ds p.1 ∧ CkOkV B ck S ∧ (∀ q ∈ ck, d = .ref q.1) := by
  cases r with
  | dct n g r =>
    rename_i l lk kvs us
    cases h
    have := hd l lk kvs rfl g
    subst this
    refine ⟨kvs.map prD, [(l, .dct true kvs)], ?_, r, fun q hq => ?_, fun q hq => ?_⟩
    · unfold itmM
      dsimp only
      rw [g]
      rfl
    · rw [List.mem_singleton.mp hq]; exact ⟨g, n⟩
    · rw [List.mem_singleton.mp hq]
  | _ => cases h
theorem getV_at {is : List Nat} {B : Nat → Prop} {S : Store} {ven : VEnv} {en : NL.Env} {i : Nat} {u : U} (r : EnvR is B S ven en) (hi : i ∈ is) (h : getV ven i = .ok u) : ∃ d, en[i]? = some (some d) ∧ varM en i S = .ok d S ∧ Rd B S d u := by
  unfold getV at h
  split at h
  · rename_i p hp
    cases h
    obtain ⟨d, h1, h2⟩ := r.get i hi p.1 p.2 hp
    exact ⟨d, h1, by unfold varM; rw [h1]; rfl, h2⟩
  · cases h
theorem comp_ok {B : Nat → Prop} {l : Nat} {ck : List (Nat × Ob)} {bnd : D → M NL.Env} {bndV : U → VR VEnv} {c : NL.Env → M Bool} {cV : VEnv → VR Bool} {e : NL.Env → M D} {eV : VEnv → VR U} {S0 : Store} {is : List Nat}
    (hB : B l)
    (hb : ∀ S d u ven', Ext l S0 S → Bnd B S → Rd B S d u → bndV u = .ok ven' → ∃ en', bnd d S = .ok en' S ∧ EnvR is B S ven' en')
    (hc : ∀ S ven en t, Bnd B S → EnvR is B S ven en → cV ven = .ok t → ∃ S1, c en S = .ok t S1 ∧ Gw S S1)
    (he : ∀ S ven en u, Bnd B S → EnvR is B S ven en → eV ven = .ok u → Ok1 B S (e en S) u) :
    ∀ {ds : List D} {us rs : List U} {S : Store} {acc : List D} {ua : List U}, Ext l S0 S → Bnd B S → CkOkV B ck S → Rds B S ds us → S[l]? = some (.lst acc) → Rds B S acc ua → acc.length + ds.length ≤ sizeLine → compV bndV cV eV us = .ok rs →
    ∃ S1 acc1, cmpL (ckD ck) bnd c e l ds S = .ok () S1 ∧ Ext l S0 S1 ∧ S1[l]? = some (.lst acc1) ∧ Rds B S1 acc1 (ua ++ rs)
  | _, _, rs, S, acc, ua, x0, b, k, .nil, h1, h2, _, h => by
    cases h
    refine ⟨S, acc, ?_, x0, h1, by rw [List.append_nil]; exact h2⟩
    show ckD ck S = _
    exact ck_run k
  | d :: ds, u :: us, rs, S, acc, ua, x0, b, k, .cons a r, h1, h2, hl, h => by
    unfold compV at h
    obtain ⟨ven1, g1, h⟩ := VR.bind_ok h
    obtain ⟨t, g2, h⟩ := VR.bind_ok h
    obtain ⟨en1, q1, er⟩ := hb S d u ven1 x0 b a g1
    obtain ⟨S1, q2, w2⟩ := hc S ven1 en1 t b er g2
    have step : cmpL (ckD ck) bnd c e l (d :: ds) S = (if t = true then e en1 >>= fun d => pushD l d >>= fun _ => cmpL (ckD ck) bnd c e l ds else cmpL (ckD ck) bnd c e l ds) S1 := by
      show (ckD ck >>= fun _ => bnd d >>= fun en => c en >>= fun t => if t = true then e en >>= fun d => pushD l d >>= fun _ => cmpL (ckD ck) bnd c e l ds else cmpL (ckD ck) bnd c e l ds) S = _
      rw [bind_eq, ck_run k]
      show (bnd d >>= fun en => c en >>= fun t => if t = true then e en >>= fun d => pushD l d >>= fun _ => cmpL (ckD ck) bnd c e l ds else cmpL (ckD ck) bnd c e l ds) S = _
      rw [bind_eq, q1]
      show (c en1 >>= fun t => if t = true then e en1 >>= fun d => pushD l d >>= fun _ => cmpL (ckD ck) bnd c e l ds else cmpL (ckD ck) bnd c e l ds) S = _
      rw [bind_eq, q2]
      rfl
    rw [step]
    have ckl : ∀ {S S' : Store}, Ext l S S' → CkOkV B ck S → CkOkV B ck S' := fun {S S'} g h => by
      exact fun q hq => ⟨g.get _ _ (fun e => (h q hq).2 (by rw [e]; exact hB)) (h q hq).1, (h q hq).2⟩
    have ll : l < S.length := lt_of_get h1
    by_cases ht : t = true
    · rw [if_pos ht] at h ⊢
      obtain ⟨v, g3, h⟩ := VR.bind_ok h
      obtain ⟨rs', g4, h⟩ := VR.bind_ok h
      cases h
      obtain ⟨dv, S2, q3, w3, rv⟩ := he S1 ven1 en1 v (b.gw w2) (er.gw w2) g3
      have w := w2.trans w3
      have e2 : S2[l]? = some (.lst acc) := w.get h1
      have hlen : acc.length < sizeLine := by rw [List.length_cons] at hl; omega
      have push : pushD l dv S2 = .ok () (S2.set l (.lst (acc ++ [dv]))) := by
        unfold pushD
        rw [e2]
        exact if_pos hlen
      have ll2 : l < S2.length := lt_of_get e2
      have x1 : Ext l S (S2.set l (.lst (acc ++ [dv]))) := (Ext.gw w).trans .set
      obtain ⟨S3, acc1, q5, x2, q6, q7⟩ := comp_ok hB hb hc he (ds := ds) (us := us) (rs := rs') (S := S2.set l (.lst (acc ++ [dv]))) (acc := acc ++ [dv]) (ua := ua ++ [v]) (x0.trans x1)
        (fun k hk => by rw [List.length_set]; exact Nat.lt_of_lt_of_le (b k hk) w.len) (ckl x1 k) (r.mono (x1.mono hB)) (List.getElem?_set_self ll2)
        ((h2.mono (x1.mono hB)).append (.cons (rv.mono (Ext.set.mono hB)) .nil)) (by rw [List.length_append, List.length_singleton]; rw [List.length_cons] at hl; omega) g4
      refine ⟨S3, acc1, ?_, x2, q6, by rw [List.append_assoc] at q7; exact q7⟩
      rw [bind_eq, q3]
      show (pushD l dv >>= fun _ => cmpL (ckD ck) bnd c e l ds) S2 = _
      rw [bind_eq, push]
      exact q5
    · rw [if_neg ht] at h ⊢
      exact comp_ok hB hb hc he (x0.trans (Ext.gw w2)) (b.gw w2) (ckl (Ext.gw w2) k) (r.gw w2) (w2.get h1) (h2.gw w2) (by rw [List.length_cons] at hl; omega) h
theorem Ext.rd {B : Nat → Prop} {l : Nat} {S S' : Store} (g : Ext l S S') (hB : B l) {d : D} {u : U} (r : Rd B S d u) : Rd B S' d u := r.mono (g.mono hB)
section
variable {fr : Nat → Bool} {C : Nat → List D → M D} {CV : Nat → List U → VR U}
mutual
theorem ev_ok (hC : CallOk fr C CV) : ∀ (e : E) {B : Nat → Prop} {S : Store} {ven : VEnv} {en : NL.Env} {u : U}, Bnd B S → EnvR (fvE e) B S ven en → evV CV e ven = .ok u → OkB (freshE fr e) B S (evE C e en S) u
  | .var i, B, S, ven, en, u, b, r, h => by
    unfold evV getV at h
    split at h
    · rename_i p hp
      cases h
      obtain ⟨d, h1, h2⟩ := r.get i (by unfold fvE; exact List.mem_singleton.mpr rfl) p.1 p.2 hp
      refine ⟨d, S, ?_, .refl S, h2, fun e => by cases e⟩
      unfold evE
      rw [h1]; rfl
    · cases h
  | .con c, B, S, ven, en, u, b, r, h => by
    cases c <;> unfold evV at h <;> first | (cases h; done) | skip
    · cases h; exact ⟨.non, S, by unfold evE; rfl, .refl S, .non, fun e => by cases e⟩
    · cases h; exact ⟨.bl _, S, by unfold evE; rfl, .refl S, .bl _, fun e => by cases e⟩
    · cases h; exact ⟨.int _, S, by unfold evE; rfl, .refl S, .int _, fun e => by cases e⟩
    · cases h; exact ⟨.str _, S, by unfold evE; rfl, .refl S, .str _, fun e => by cases e⟩
  | .bin o a b', B, S, ven, en, u, b, r, h => by
    unfold evV at h
    obtain ⟨x, h1, h⟩ := VR.bind_ok h
    obtain ⟨y, h2, h⟩ := VR.bind_ok h
    unfold fvE at r
    obtain ⟨d1, S1, q1, w1, r1, _⟩ := ev_ok hC a b r.l h1
    obtain ⟨d2, S2, q2, w2, r2, _⟩ := ev_ok hC b' (b.gw w1) (r.r.gw w1) h2
    unfold evE
    rw [bind_eq, q1]
    show OkB _ B S ((evE C b' en >>= fun y => binD o d1 y) S1) u
    rw [bind_eq, q2]
    exact .gw (w1.trans w2) (bin_ok ((b.gw w1).gw w2) (r1.gw w2) r2 h).b
  | .neg a, B, S, ven, en, u, b, r, h => by
    unfold evV at h
    obtain ⟨x, h1, h⟩ := VR.bind_ok h
    unfold fvE at r
    obtain ⟨d1, S1, q1, w1, r1, _⟩ := ev_ok hC a b r h1
    unfold evE
    rw [bind_eq, q1]
    exact .gw w1 (neg_ok r1 h).b
  | .not a, B, S, ven, en, u, b, r, h => by
    unfold evV at h
    obtain ⟨x, h1, h⟩ := VR.bind_ok h
    obtain ⟨t, h2, h⟩ := VR.bind_ok h
    cases h
    unfold fvE at r
    obtain ⟨d1, S1, q1, w1, r1, _⟩ := ev_ok hC a b r h1
    unfold evE
    rw [bind_eq, bind_eq, q1]
    show OkB _ B S (((truD d1) S1).bind fun t => (pure (.bl (!t)) : M D)) _
    rw [tru_ok r1 h2]
    exact ⟨.bl (!t), S1, rfl, w1, .bl _, fun e => by cases e⟩
  | .cmp o a b', B, S, ven, en, u, b, r, h => by
    unfold evV at h
    obtain ⟨x, h1, h⟩ := VR.bind_ok h
    obtain ⟨y, h2, h⟩ := VR.bind_ok h
    unfold fvE at r
    obtain ⟨d1, S1, q1, w1, r1, _⟩ := ev_ok hC a b r.l h1
    obtain ⟨d2, S2, q2, w2, r2, _⟩ := ev_ok hC b' (b.gw w1) (r.r.gw w1) h2
    unfold evE
    rw [bind_eq, q1]
    show OkB _ B S ((evE C b' en >>= fun y => cmpD o d1 y) S1) u
    rw [bind_eq, q2]
    exact .gw (w1.trans w2) (cmp_ok (r1.gw w2) r2 h).b
  | .chn o o' a b' c, B, S, ven, en, u, b, r, h => by
    unfold evV at h
    obtain ⟨x, h1, h⟩ := VR.bind_ok h
    obtain ⟨y, h2, h⟩ := VR.bind_ok h
    obtain ⟨z, h3, h⟩ := VR.bind_ok h
    obtain ⟨t, h4, h⟩ := VR.bind_ok h
    unfold fvE at r
    obtain ⟨d1, S1, q1, w1, r1, _⟩ := ev_ok hC a b r.l h1
    obtain ⟨d2, S2, q2, w2, r2, _⟩ := ev_ok hC b' (b.gw w1) (r.r.l.gw w1) h2
    obtain ⟨d3, S3, q3, w3, r3, _⟩ := cmp_ok (r1.gw w2) r2 h3
    unfold evE
    rw [bind_eq, q1]
    show OkB _ B S ((evE C b' en >>= fun y => cmpD o d1 y >>= truD >>= fun t => if t = true then evE C c en >>= fun z => cmpD o' y z else (pure (.bl false) : M D)) S1) u
    rw [bind_eq, q2]
    show OkB _ B S ((cmpD o d1 d2 >>= truD >>= fun t => if t = true then evE C c en >>= fun z => cmpD o' d2 z else (pure (.bl false) : M D)) S2) u
    rw [bind_eq, bind_eq, q3]
    show OkB _ B S ((truD d3 S3).bind fun t => if t = true then evE C c en >>= fun z => cmpD o' d2 z else (pure (.bl false) : M D)) u
    rw [tru_ok r3 h4]
    show OkB _ B S ((if t = true then evE C c en >>= fun z => cmpD o' d2 z else (pure (.bl false) : M D)) S3) u
    by_cases ht : t = true
    · rw [if_pos ht] at h ⊢
      obtain ⟨v, h5, h⟩ := VR.bind_ok h
      obtain ⟨d4, S4, q4, w4, r4, _⟩ := ev_ok hC c (((b.gw w1).gw w2).gw w3) (((r.r.r.gw w1).gw w2).gw w3) h5
      rw [bind_eq, q4]
      exact .gw (((w1.trans w2).trans w3).trans w4) (cmp_ok ((r2.gw w3).gw w4) r4 h).b
    · rw [if_neg ht] at h ⊢
      cases h
      exact ⟨.bl false, S3, rfl, (w1.trans w2).trans w3, .bl _, fun e => by cases e⟩
  | .and a b', B, S, ven, en, u, b, r, h => by
    unfold evV at h
    obtain ⟨x, h1, h⟩ := VR.bind_ok h
    obtain ⟨t, h2, h⟩ := VR.bind_ok h
    unfold fvE at r
    obtain ⟨d1, S1, q1, w1, r1, _⟩ := ev_ok hC a b r.l h1
    unfold evE
    rw [bind_eq, bind_eq, q1]
    show OkB _ B S ((truD d1 S1).bind fun t => if t = true then evE C b' en else (pure (.bl false) : M D)) u
    rw [tru_ok r1 h2]
    show OkB _ B S ((if t = true then evE C b' en else (pure (.bl false) : M D)) S1) u
    by_cases ht : t = true
    · rw [if_pos ht] at h ⊢
      exact .gw w1 (ev_ok hC b' (b.gw w1) (r.r.gw w1) h).ok1.b
    · rw [if_neg ht] at h ⊢
      cases h
      exact ⟨.bl false, S1, rfl, w1, .bl _, fun e => by cases e⟩
  | .or a b', B, S, ven, en, u, b, r, h => by
    unfold evV at h
    obtain ⟨x, h1, h⟩ := VR.bind_ok h
    obtain ⟨t, h2, h⟩ := VR.bind_ok h
    unfold fvE at r
    obtain ⟨d1, S1, q1, w1, r1, _⟩ := ev_ok hC a b r.l h1
    unfold evE
    rw [bind_eq, bind_eq, q1]
    show OkB _ B S ((truD d1 S1).bind fun t => if t = true then (pure (.bl true) : M D) else evE C b' en) u
    rw [tru_ok r1 h2]
    show OkB _ B S ((if t = true then (pure (.bl true) : M D) else evE C b' en) S1) u
    by_cases ht : t = true
    · rw [if_pos ht] at h ⊢
      cases h
      exact ⟨.bl true, S1, rfl, w1, .bl _, fun e => by cases e⟩
    · rw [if_neg ht] at h ⊢
      exact .gw w1 (ev_ok hC b' (b.gw w1) (r.r.gw w1) h).ok1.b
  | .ite c a b', B, S, ven, en, u, b, r, h => by
    unfold evV at h
    obtain ⟨x, h1, h⟩ := VR.bind_ok h
    obtain ⟨t, h2, h⟩ := VR.bind_ok h
    unfold fvE at r
    obtain ⟨d1, S1, q1, w1, r1, _⟩ := ev_ok hC c b r.l h1
    unfold evE
    rw [bind_eq, bind_eq, q1]
    show OkB _ B S ((truD d1 S1).bind fun t => if t = true then evE C a en else evE C b' en) u
    rw [tru_ok r1 h2]
    show OkB _ B S ((if t = true then evE C a en else evE C b' en) S1) u
    have wk : ∀ {f f' : Bool} {r : R D}, (f' = true → f = true) → OkB f B S r u → OkB f' B S r u := fun k ⟨d, S1, h1, h2, h3, h4⟩ => ⟨d, S1, h1, h2, h3, fun z => h4 (k z)⟩
    by_cases ht : t = true
    · rw [if_pos ht] at h ⊢
      refine wk (fun z => ?_) (.gw w1 (ev_ok hC a (b.gw w1) (r.r.l.gw w1) h))
      unfold freshE at z
      rw [Bool.and_eq_true] at z
      exact z.1
    · rw [if_neg ht] at h ⊢
      refine wk (fun z => ?_) (.gw w1 (ev_ok hC b' (b.gw w1) (r.r.r.gw w1) h))
      unfold freshE at z
      rw [Bool.and_eq_true] at z
      exact z.2
  | .tup es, B, S, ven, en, u, b, r, h => by
    unfold evV at h
    obtain ⟨us, h1, h⟩ := VR.bind_ok h
    unfold fvE at r
    obtain ⟨ds, S1, q1, w1, r1⟩ := evs_ok hC es b r h1
    split at h
    · rename_i hc
      cases h
      unfold evE
      rw [bind_eq, q1]
      show OkB _ B S ((if ds.length ≤ sizeLine then (pure (.tup ds) : M D) else die) S1) _
      rw [if_pos (by rw [r1.length]; exact hc)]
      exact ⟨.tup ds, S1, rfl, w1, .tup r1, fun e => by cases e⟩
    · cases h
  | .lst es, B, S, ven, en, u, b, r, h => by
    unfold evV at h
    obtain ⟨us, h1, h⟩ := VR.bind_ok h
    unfold fvE at r
    obtain ⟨ds, S1, q1, w1, r1⟩ := evs_ok hC es b r h1
    split at h
    · rename_i hc
      cases h
      unfold evE
      rw [bind_eq, q1]
      show OkB _ B S ((if ds.length ≤ sizeLine then NL.alloc (.lst ds) else die) S1) _
      rw [if_pos (by rw [r1.length]; exact hc)]
      exact .gw w1 (OkF.new (b.gw w1) r1).b
    · cases h
  | .idx a i, B, S, ven, en, u, b, r, h => by
    unfold evV at h
    obtain ⟨x, h1, h⟩ := VR.bind_ok h
    obtain ⟨y, h2, h⟩ := VR.bind_ok h
    unfold fvE at r
    obtain ⟨d1, S1, q1, w1, r1, _⟩ := ev_ok hC a b r.l h1
    obtain ⟨d2, S2, q2, w2, r2, _⟩ := ev_ok hC i (b.gw w1) (r.r.gw w1) h2
    unfold evE
    rw [bind_eq, q1]
    show OkB _ B S ((evE C i en >>= fun y => ixD d1 y) S1) u
    rw [bind_eq, q2]
    exact .gw (w1.trans w2) (ix_ok (r1.gw w2) r2 h).b
  | .slc p q a lo hi, B, S, ven, en, u, b, r, h => by
    unfold evV at h
    obtain ⟨x, h1, h⟩ := VR.bind_ok h
    obtain ⟨y, h2, h⟩ := VR.bind_ok h
    obtain ⟨y', h3, h⟩ := VR.bind_ok h
    obtain ⟨z, h4, h⟩ := VR.bind_ok h
    obtain ⟨z', h5, h⟩ := VR.bind_ok h
    unfold fvE at r
    obtain ⟨d1, S1, q1, w1, r1, _⟩ := ev_ok hC a b r.l h1
    obtain ⟨d2, S2, q2, w2, r2, _⟩ := ev_ok hC lo (b.gw w1) (r.r.l.gw w1) h2
    obtain ⟨d3, S3, q3, w3, r3, _⟩ := ev_ok hC hi ((b.gw w1).gw w2) ((r.r.r.gw w1).gw w2) h4
    unfold evE
    rw [bind_eq, q1]
    show OkB _ B S ((evE C lo en >>= bndM p >>= fun y => evE C hi en >>= bndM q >>= fun z => slcD d1 y z) S1) u
    rw [bind_eq, bind_eq, q2]
    show OkB _ B S ((bndM p d2 S2).bind fun y => evE C hi en >>= bndM q >>= fun z => slcD d1 y z) u
    rw [bnd_ok r2 h3]
    show OkB _ B S ((evE C hi en >>= bndM q >>= fun z => slcD d1 y' z) S2) u
    rw [bind_eq, bind_eq, q3]
    show OkB _ B S ((bndM q d3 S3).bind fun z => slcD d1 y' z) u
    rw [bnd_ok r3 h5]
    exact .gw ((w1.trans w2).trans w3) (slc_ok (((b.gw w1).gw w2).gw w3) ((r1.gw w2).gw w3) h).b
  | .call f es, B, S, ven, en, u, b, r, h => by
    unfold evV at h
    obtain ⟨us, h1, h⟩ := VR.bind_ok h
    unfold fvE at r
    obtain ⟨ds, S1, q1, w1, r1⟩ := evs_ok hC es b r h1
    unfold evE
    rw [bind_eq, q1]
    exact .gw w1 (hC.1 f us u h B S1 ds (b.gw w1) r1)
  | .blt t es, B, S, ven, en, u, b, r, h => by
    unfold evV at h
    obtain ⟨us, h1, h⟩ := VR.bind_ok h
    unfold fvE at r
    obtain ⟨ds, S1, q1, w1, r1⟩ := evs_ok hC es b r h1
    unfold evE
    rw [bind_eq, q1]
    obtain ⟨k1, k2⟩ := blt_ok (b.gw w1) r1 h
    refine .gw w1 ?_
    cases hn : newB t with
    | true => exact (k2 hn).b
    | false =>
      have : freshE fr (.blt t es) = false := by unfold freshE; exact hn
      rw [this]
      exact k1.b
  | .isi a T, B, S, ven, en, u, b, r, h => by
    unfold evV at h
    obtain ⟨x, h1, h⟩ := VR.bind_ok h
    unfold fvE at r
    obtain ⟨d1, S1, q1, w1, r1, _⟩ := ev_ok hC a b r h1
    unfold evE
    rw [bind_eq, q1]
    exact .gw w1 (isi_ok r1 h).b
  | .rev a, B, S, ven, en, u, b, r, h => by
    unfold evV at h
    obtain ⟨x, h1, h⟩ := VR.bind_ok h
    unfold fvE at r
    obtain ⟨d1, S1, q1, w1, r1, _⟩ := ev_ok hC a b r h1
    unfold evE
    rw [bind_eq, q1]
    exact .gw w1 (rev_ok (b.gw w1) r1 h).b
  | .dnew, B, S, ven, en, u, b, r, h => by
    unfold evV at h
    cases h
    unfold evE
    exact (OkF.newN b).b
  | .dgt a k x, B, S, ven, en, u, b, r, h => by
    unfold evV at h
    obtain ⟨y, h1, h⟩ := VR.bind_ok h
    obtain ⟨_, h2, h⟩ := VR.bind_ok h
    obtain ⟨q, h3, h⟩ := VR.bind_ok h
    obtain ⟨z, h4, h⟩ := VR.bind_ok h
    unfold fvE at r
    obtain ⟨d1, S1, q1, w1, r1, _⟩ := ev_ok hC a b r.l h1
    have hy : ∃ us, y = .dct us := by
      unfold isNU at h2
      split at h2
      · exact ⟨_, rfl⟩
      · cases h2
    obtain ⟨us, rfl⟩ := hy
    obtain ⟨d2, S2, q2, w2, r2, _⟩ := ev_ok hC k (b.gw w1) (r.r.l.gw w1) h3
    obtain ⟨d3, S3, q3, w3, r3, _⟩ := ev_ok hC x ((b.gw w1).gw w2) ((r.r.r.gw w1).gw w2) h4
    unfold evE
    rw [bind_eq, q1]
    show OkB _ B S ((isN d1 >>= fun _ => evE C k en >>= fun q => evE C x en >>= fun z => dgtM d1 q z) S1) u
    rw [bind_eq, isN_ok r1]
    show OkB _ B S ((evE C k en >>= fun q => evE C x en >>= fun z => dgtM d1 q z) S1) u
    rw [bind_eq, q2]
    show OkB _ B S ((evE C x en >>= fun z => dgtM d1 d2 z) S2) u
    rw [bind_eq, q3]
    exact .gw ((w1.trans w2).trans w3) (dgt_ok ((r1.gw w2).gw w3) (r2.gw w3) r3 h).b
  | .ndx a k, B, S, ven, en, u, b, r, h => by
    unfold evV at h
    obtain ⟨y, h1, h⟩ := VR.bind_ok h
    obtain ⟨v, h2, h⟩ := VR.bind_ok h
    obtain ⟨q, h3, h⟩ := VR.bind_ok h
    unfold fvE at r
    obtain ⟨d1, S1, q1, w1, r1, _⟩ := ev_ok hC a b r.l h1
    obtain ⟨d2, S2, q2, w2, r2, _⟩ := ev_ok hC k (b.gw w1) (r.r.gw w1) h3
    unfold evE
    rw [bind_eq, q1]
    show OkB _ B S ((isLs d1 >>= fun _ => evE C k en >>= fun q => ndxM d1 q) S1) u
    rw [bind_eq, isLs_ok r1 h2]
    show OkB _ B S ((evE C k en >>= fun q => ndxM d1 q) S1) u
    rw [bind_eq, q2]
    exact .gw (w1.trans w2) (ndx_ok (r1.gw w2) r2 h).b
  | .dst a, B, S, ven, en, u, b, r, h => by
    unfold evV at h
    obtain ⟨x, h1, h⟩ := VR.bind_ok h
    unfold fvE at r
    obtain ⟨d, S1, q1, w1, r1, _⟩ := ev_ok hC a b r h1
    unfold evE
    rw [bind_eq, q1]
    exact .gw w1 (dst_ok r1 h).b
  | .cnt a k, B, S, ven, en, u, b, r, h => by
    unfold evV at h
    obtain ⟨y, h1, h⟩ := VR.bind_ok h
    obtain ⟨v, h2, h⟩ := VR.bind_ok h
    obtain ⟨q, h3, h⟩ := VR.bind_ok h
    unfold fvE at r
    obtain ⟨d1, S1, q1, w1, r1, _⟩ := ev_ok hC a b r.l h1
    obtain ⟨d2, S2, q2, w2, r2, _⟩ := ev_ok hC k (b.gw w1) (r.r.gw w1) h3
    unfold evE
    rw [bind_eq, q1]
    show OkB _ B S ((isLs d1 >>= fun _ => evE C k en >>= fun q => cntM d1 q) S1) u
    rw [bind_eq, isLs_ok r1 h2]
    show OkB _ B S ((evE C k en >>= fun q => cntM d1 q) S1) u
    rw [bind_eq, q2]
    exact .gw (w1.trans w2) (cnt_ok (r1.gw w2) r2 h).b
  | .done i j, B, S, ven, en, u, b, r, h => by
    unfold evV at h
    obtain ⟨x, h1, h⟩ := VR.bind_ok h
    obtain ⟨y, h2, h⟩ := VR.bind_ok h
    unfold fvE at r
    obtain ⟨d, e1, e2, rd⟩ := getV_at r (List.mem_append_left _ (List.mem_singleton.mpr rfl)) h1
    obtain ⟨d', e3, e4, rd'⟩ := getV_at r (List.mem_append_right _ (List.mem_singleton.mpr rfl)) h2
    split at h
    · rename_i k hk
      cases h
      unfold evE
      rw [bind_eq, e2]
      show OkB _ B S ((varM en j >>= fun y => keyM d >>= fun _ => NL.alloc (.dct false [(d, y)])) S) _
      rw [bind_eq, e4]
      exact (OkF.new1 b rd rd' hk).b
    · cases h
  | .srk a, B, S, ven, en, u, b, r, h => by
    unfold evV at h
    obtain ⟨x, h1, h⟩ := VR.bind_ok h
    unfold fvE at r
    obtain ⟨d, S1, q1, w1, r1, _⟩ := ev_ok hC a b r h1
    unfold evE
    rw [bind_eq, q1]
    exact .gw w1 (srk_ok (b.gw w1) r1 h).b
  | .comp own tg it c e, B, S, ven, en, u, b, r, h => by
    unfold evV at h
    obtain ⟨p, h1, h⟩ := VR.bind_ok h
    unfold fvE at r
    rw [evE_comp]
    refine lock_okB (is := fvI it ++ (fvE c ++ fvE e)) (fun S hlk b r => ?_) b r
    obtain ⟨ds, ck, S1, q1, w1, r1, k1⟩ := evt_ok hC it b r.l hlk h1
    split at h
    · rename_i hlen
      cases hv : (compV (fun d => bindV tg d (wipeV ven own)) (fun en' => (evV CV c en').bind truU) (fun en' => evV CV e en') p.1).bind fun us => VR.ok (U.lst us) with
      | exc _ _ => rw [hv] at h; cases h
      | stuck => rw [hv] at h; cases h
      | ok u' =>
        rw [hv] at h
        cases h
        obtain ⟨us, h2, h3⟩ := VR.bind_ok hv
        cases h3
        have nB : ¬ B S1.length := fun z => Nat.lt_irrefl _ ((b.gw w1) _ z)
        have b1 : Bnd (fun k => B k ∨ k = S1.length) (S1 ++ [Ob.lst []]) := fun k hk => by
          rw [List.length_append, List.length_singleton]
          rcases hk with hk | hk
          · have := (b.gw w1) k hk; omega
          · omega
        have toB : ∀ l o, ¬ B l → S1[l]? = some o → ¬ (B l ∨ l = S1.length) ∧ (S1 ++ [Ob.lst []])[l]? = some o := fun l o n g => ⟨fun z => by
          rcases z with z | z
          · exact n z
          · have := lt_of_get g; omega, Gw.get .app g⟩
        have er : EnvR (fvE c ++ fvE e) (fun k => B k ∨ k = S1.length) (S1 ++ [Ob.lst []]) ven en := (r.r.gw w1).mono toB
        obtain ⟨S2, acc, q2, x2, q3, q4⟩ := comp_ok (B := fun k => B k ∨ k = S1.length) (l := S1.length) (ck := ck) (is := fvE c ++ fvE e) (S0 := S1 ++ [Ob.lst []])
          (bnd := fun d => bindT tg d (NL.wipeD en own)) (bndV := fun d => bindV tg d (wipeV ven own)) (c := fun en' => evE C c en' >>= truD) (cV := fun en' => (evV CV c en').bind truU) (e := fun en' => evE C e en') (eV := fun en' => evV CV e en')
          (.inr rfl) (fun S d u ven' x bS rd hb => bind_ok ((er.mono (x.mono (.inr rfl))).wipe own) rd hb)
          (fun S ven en t bS er hc => by
            obtain ⟨x, g1, g2⟩ := VR.bind_ok hc
            obtain ⟨d1, S1', z1, z2, z3, _⟩ := ev_ok hC c bS er.l g1
            refine ⟨S1', ?_, z2⟩
            show (evE C c en >>= truD) S = _
            rw [bind_eq, z1]
            exact tru_ok z3 g2)
          (fun S ven en u bS er he => (ev_ok hC e bS er.r he).ok1)
          (ds := ds) (us := p.1) (rs := us) (S := S1 ++ [Ob.lst []]) (acc := []) (ua := []) .refl b1
          (fun q hq => ⟨Gw.get .app (k1 q hq).1, fun z => by
                rcases z with z | z
                · exact (k1 q hq).2 z
                · have := lt_of_get (k1 q hq).1; omega⟩)
          (r1.mono toB) (by simp) .nil (by rw [r1.length]; simpa using hlen) h2
        have g12 : Gw S1 S2 := Gw_of (fun k hk => by
          have e0 : (S1 ++ [Ob.lst []])[k]? = some S1[k] := by rw [List.getElem?_append_left hk, List.getElem?_eq_getElem hk]
          rw [x2.get k _ (by omega) e0, List.getElem?_eq_getElem hk]) (by have := x2.len; rw [List.length_append] at this; omega)
        unfold compI
        show OkB _ B S (R.bind (evIt C it en S) fun p S => noX (cmpL (ckD p.2) (fun d => bindT tg d (NL.wipeD en own)) (fun en' => evE C c en' >>= truD) (fun en' => evE C e en') S.length p.1 >>= fun _ => (pure (.ref S.length) : M D)) (S ++ [Ob.lst []])) _
        rw [q1]
        show OkB _ B S (noX (cmpL (ckD ck) (fun d => bindT tg d (NL.wipeD en own)) (fun en' => evE C c en' >>= truD) (fun en' => evE C e en') S1.length ds >>= fun _ => (pure (.ref S1.length) : M D)) (S1 ++ [Ob.lst []])) _
        have q2' : (cmpL (ckD ck) (fun d => bindT tg d (NL.wipeD en own)) (fun en' => evE C c en' >>= truD) (fun en' => evE C e en') S1.length ds >>= fun _ => (pure (.ref S1.length) : M D)) (S1 ++ [Ob.lst []]) = .ok (.ref S1.length) S2 := by
          rw [bind_eq, q2]; rfl
        unfold noX
        rw [q2']
        have q4' : Rds (fun k => B k ∨ k = S1.length) S2 acc us := by simpa using q4
        exact ⟨.ref S1.length, S2, rfl, w1.trans g12, .lst nB q3 (q4'.mono fun l o n g => ⟨fun z => n (.inl z), g⟩), fun _ _ => ⟨S1.length, rfl, w1.len, .lst q3 q4'⟩⟩
    · cases h
theorem evs_ok (hC : CallOk fr C CV) : ∀ (es : Es) {B : Nat → Prop} {S : Store} {ven : VEnv} {en : NL.Env} {us : List U}, Bnd B S → EnvR (fvEs es) B S ven en → evVs CV es ven = .ok us → ∃ ds S1, evEs C es en S = .ok ds S1 ∧ Gw S S1 ∧ Rds B S1 ds us
  | .nil, B, S, ven, en, us, b, r, h => by
    unfold evVs at h
    cases h
    exact ⟨[], S, by unfold evEs; rfl, .refl S, .nil⟩
  | .cons e es, B, S, ven, en, us, b, r, h => by
    unfold evVs at h
    obtain ⟨x, h1, h⟩ := VR.bind_ok h
    obtain ⟨xs, h2, h⟩ := VR.bind_ok h
    cases h
    unfold fvEs at r
    obtain ⟨d1, S1, q1, w1, r1, _⟩ := ev_ok hC e b r.l h1
    obtain ⟨ds, S2, q2, w2, r2⟩ := evs_ok hC es (b.gw w1) (r.r.gw w1) h2
    refine ⟨d1 :: ds, S2, ?_, w1.trans w2, .cons (r1.gw w2) r2⟩
    unfold evEs
    rw [bind_eq, q1]
    show (evEs C es en >>= fun xs => (pure (d1 :: xs) : M (List D))) S1 = _
    rw [bind_eq, q2]; rfl
theorem evt_ok (hC : CallOk fr C CV) : ∀ (it : NL.It) {B : Nat → Prop} {S : Store} {ven : VEnv} {en : NL.Env} {p : List U × Bool}, Bnd B S → EnvR (fvI it) B S ven en → lkOf it.lk en S = none → evVt CV it ven = .ok p → ∃ ds ck S1, evIt C it en S = .ok (ds, ck) S1 ∧ Gw S S1 ∧ Rds B S1 ds p.1 ∧ CkOkV B ck S1
  | .val e, B, S, ven, en, p, b, r, hlk, h => by
    unfold evVt at h
    obtain ⟨x, h1, h⟩ := VR.bind_ok h
    unfold fvI at r
    obtain ⟨d1, S1, q1, w1, r1, _⟩ := ev_ok hC e b r h1
    unfold evIt
    rw [bind_eq, q1]
    unfold iterU at h
    split at h
    · cases r1
      rename_i r1
      cases h
      exact ⟨_, [], S1, rfl, w1, r1, ck_nil⟩
    · split at h
      · rename_i hx
        cases h
        obtain ⟨l, o, rfl, g1, n1, r1⟩ := at_sq r1 hx
        refine ⟨items o, [(l, o)], S1, ?_, w1, r1, fun p hp => by rw [List.mem_singleton.mp hp]; exact ⟨(sqO_some g1).1, n1⟩⟩
        show (match sqO S1 l with | some o => R.ok (items o, [(l, o)]) S1 | none => .stuck) = _
        rw [g1]
      · cases h
  | .rng1 b', B, S, ven, en, p, b, r, hlk, h => by
    unfold evVt at h
    obtain ⟨y, h1, h⟩ := VR.bind_ok h
    obtain ⟨xs, h2, h⟩ := VR.bind_ok h
    cases h
    unfold fvI at r
    obtain ⟨d1, S1, q1, w1, r1, _⟩ := ev_ok hC b' b r h1
    obtain ⟨ds, q2, r2⟩ := rng_ok (.int 0) r1 h2
    refine ⟨ds, [], S1, ?_, w1, r2 _ _, ck_nil⟩
    unfold evIt
    rw [bind_eq, q1]
    show (rngD (.int 0) d1 >>= fun xs => (pure (xs, []) : M (List D × List (Nat × Ob)))) S1 = _
    rw [bind_eq, q2]; rfl
  | .rng2 a b', B, S, ven, en, p, b, r, hlk, h => by
    unfold evVt at h
    obtain ⟨x, h0, h⟩ := VR.bind_ok h
    obtain ⟨y, h1, h⟩ := VR.bind_ok h
    obtain ⟨xs, h2, h⟩ := VR.bind_ok h
    cases h
    unfold fvI at r
    obtain ⟨d0, S0, q0, w0, r0, _⟩ := ev_ok hC a b r.l h0
    obtain ⟨d1, S1, q1, w1, r1, _⟩ := ev_ok hC b' (b.gw w0) (r.r.gw w0) h1
    obtain ⟨ds, q2, r2⟩ := rng_ok (r0.gw w1) r1 h2
    refine ⟨ds, [], S1, ?_, w0.trans w1, r2 _ _, ck_nil⟩
    unfold evIt
    rw [bind_eq, q0]
    show (evE C b' en >>= fun y => rngD d0 y >>= fun xs => (pure (xs, []) : M (List D × List (Nat × Ob)))) S0 = _
    rw [bind_eq, q1]
    show (rngD d0 d1 >>= fun xs => (pure (xs, []) : M (List D × List (Nat × Ob)))) S1 = _
    rw [bind_eq, q2]; rfl
  | .enm e, B, S, ven, en, p, b, r, hlk, h => by
    unfold evVt at h
    obtain ⟨x, h1, h⟩ := VR.bind_ok h
    obtain ⟨xs, h2, h⟩ := VR.bind_ok h
    cases h
    unfold fvI at r
    obtain ⟨d1, S1, q1, w1, r1, _⟩ := ev_ok hC e b r h1
    obtain ⟨ds, ck, q2, r2, k2⟩ := enm_rd r1 h2
    refine ⟨ds, ck, S1, ?_, w1, r2, k2⟩
    unfold evIt
    rw [bind_eq, q1]
    exact q2
  | .zip a b', B, S, ven, en, p, b, r, hlk, h => by
    unfold evVt at h
    obtain ⟨x, h0, h⟩ := VR.bind_ok h
    obtain ⟨y, h1, h⟩ := VR.bind_ok h
    obtain ⟨xs, h2, h⟩ := VR.bind_ok h
    cases h
    unfold fvI at r
    obtain ⟨d0, S0, q0, w0, r0, _⟩ := ev_ok hC a b r.l h0
    obtain ⟨d1, S1, q1, w1, r1, _⟩ := ev_ok hC b' (b.gw w0) (r.r.gw w0) h1
    obtain ⟨ds, ck, q2, r2, k2⟩ := zip_rd (r0.gw w1) r1 h2
    refine ⟨ds, ck, S1, ?_, w0.trans w1, r2, k2⟩
    unfold evIt
    rw [bind_eq, q0]
    show (evE C b' en >>= fun y => zipM d0 y) S0 = _
    rw [bind_eq, q1]
    exact q2
  | .nam i, B, S, ven, en, p, b, r, hlk, h => by
    unfold evVt at h
    obtain ⟨u, h1, h⟩ := VR.bind_ok h
    unfold fvI at r
    obtain ⟨d, e1, e2, rd⟩ := getV_at r (List.mem_singleton.mpr rfl) h1
    obtain ⟨ds, ck, g1, g2, g3, _⟩ := itn_ok rd (fun l lk kvs ed es => by subst ed; exact lkOf_dct hlk e1 es) h
    refine ⟨ds, ck, S, ?_, .refl S, g2, g3⟩
    unfold evIt
    rw [bind_eq, e2]
    exact g1
  | .itm i, B, S, ven, en, p, b, r, hlk, h => by
    unfold evVt at h
    obtain ⟨u, h1, h⟩ := VR.bind_ok h
    unfold fvI at r
    obtain ⟨d, e1, e2, rd⟩ := getV_at r (List.mem_singleton.mpr rfl) h1
    obtain ⟨ds, ck, g1, g2, g3, _⟩ := itm_ok rd (fun l lk kvs ed es => by subst ed; exact lkOf_dct hlk e1 es) h
    refine ⟨ds, ck, S, ?_, .refl S, g2, g3⟩
    unfold evIt
    rw [bind_eq, e2]
    exact g1
end
end
end VL

/-! Statements over trees. -/
namespace VL
open PySem PySem.Spec PyProof.Rows L2 NL
inductive VF where
  | nx (en : VEnv) | brk (en : VEnv) | cnt (en : VEnv) | ret (w : Bool) (u : U)
def low (en : VEnv) (i : Nat) : VEnv := match en[i]? with
  | some (some p) => en.set i (some (false, p.2))
  | _ => en
/-- their lists are no longer their own -/
def unown (en : VEnv) : List Nat → VEnv
  | [] => en
  | i :: is => unown (low en i) is
/-- nothing of what stood may lie within -/
def keeps (w : Bool) (u : U) : Bool := noL u || (w && match u with | .lst us => noLs us | .dct us => noLs us | _ => false)
def leak (w : Bool) (u : U) (is : List Nat) (en : VEnv) : VEnv := if keeps w u = true then en else unown en is
def leaks (us : List U) (is : List Nat) (en : VEnv) : VEnv := if noLs us = true then en else unown en is
/-- an own list -/
def ownV (en : VEnv) (i : Nat) : VR (List U) := match en[i]? with
  | some (some (true, .lst us)) => .ok us
  | _ => .stuck
/-- an own dict -/
def ownNV (en : VEnv) (i : Nat) : VR (List U) := match en[i]? with
  | some (some (true, .dct us)) => .ok us
  | _ => .stuck
def keyV (u : U) : VR NestedKey := match keyU u with
  | some k => .ok k
  | none => .stuck
def dsetV (en : VEnv) (j : Nat) (y v : U) : VR VEnv := (ownNV en j).bind fun us => (keyV y).bind fun k => if us.length < sizeLine then .ok (en.set j (some (true, .dct (putV us k y v)))) else .stuck
/-- o[i] = e, o an own list or an own dict -/
def setIxV (en : VEnv) (j : Nat) : U → U → VR VEnv
  | .int k, v => (ownV en j).bind fun us => match ixN us.length k with
    | some n => .ok (en.set j (some (true, .lst (us.set n v))))
    | none => .stuck
  | .tup ys, v => dsetV en j (.tup ys) v
  | _, _ => .stuck
def intV (en : VEnv) (i : Nat) : VR Int := match en[i]? with
  | some (some (_, .int x)) => .ok x
  | _ => .stuck
def toI : U → VR Int
  | .int x => .ok x
  | _ => .stuck
def ownR (en : VEnv) : E → Bool
  | .var i => (match en[i]? with | some (some p) => p.1 | _ => false)
  | _ => false
def forV (bnd : U → VEnv → VR VEnv) (b : VEnv → VR VF) : List U → VEnv → VR VF
  | [], en => .ok (.nx en)
  | x :: xs, en => (bnd x en).bind fun en1 => (b en1).bind fun f => match f with
    | .nx en' => forV bnd b xs en'
    | .cnt en' => forV bnd b xs en'
    | .brk en' => .ok (.nx en')
    | f => .ok f
def whlV (c : VEnv → VR Bool) (b : VEnv → VR VF) : Nat → VEnv → VR VF
  | 0, _ => .stuck
  | n + 1, en => (c en).bind fun t => if t = true then (b en).bind fun f => match f with
    | .nx en' => whlV c b n en'
    | .cnt en' => whlV c b n en'
    | .brk en' => .ok (.nx en')
    | f => .ok f else .ok (.nx en)
/-- f(x, ..), x an own dict -/
def mutE (en : VEnv) : E → Option (Nat × Nat × List U × Es)
  | .call f (.cons (.var i) es) => match en[i]? with
    | some (some (true, .dct us)) => some (f, i, us, es)
    | _ => none
  | _ => none
/-- (e, f(x, ..)), x an own dict -/
def mutA (en : VEnv) : E → Option (E × Nat × Nat × List U × Es)
  | .tup (.cons e (.cons (.call f (.cons (.var i) es)) .nil)) => match en[i]? with
    | some (some (true, .dct us)) => some (e, f, i, us, es)
    | _ => none
  | _ => none
/-- such a call: what it tells, and what stands then -/
noncomputable def mutC (C : Nat → List U → VR U) (en : VEnv) (f i : Nat) (us : List U) (es : Es) : VR (U × VEnv) := (evVs C es en).bind fun vs => if (noLs us && noLs vs) = true then (C f (mks ++ .dct us :: vs)).bind fun r => match r with
  | .tup [.dct us', x] => .ok (x, en.set i (some (true, .dct us')))
  | _ => .stuck else .stuck
/-- a body and what it tells at its end -/
def unret : Sts → Option (Sts × E)
  | .cons (.ret e) .nil => some (.nil, e)
  | .cons s r => (unret r).map fun p => (.cons s p.1, p.2)
  | .nil => none
/-- statements that leave the first name to what it stands for -/
def strS : NL.St → Bool
  | .set i _ => i != 0
  | .unp is _ => !decide (0 ∈ is)
  | .setIx _ _ _ => true
  | .dpop (some t) _ _ => !decide (0 ∈ t.ixs)
  | .dpop none _ _ => true
  | _ => false
def strB : Sts → Bool
  | .nil => true
  | .cons s r => strS s && strB r
/-- a call raises c -/
noncomputable def rawX (C : Nat → List U → VR U) (c : Str) : E → VEnv → VR Unit
  | .call f es, en => (evVs C es en).bind fun vs => (C f (xks ++ .str c :: vs)).bind fun u => match u with
    | .bl true => .ok ()
    | _ => .stuck
  | _, _ => .stuck
section
variable (fr : Nat → Bool) (C : Nat → List U → VR U)
mutual
noncomputable def exV : NL.St → VEnv → VR VF
  | .set i e, en => (evV C e en).bind fun u => .ok (.nx ((leak (freshE fr e && isL u) u (fvE e) en).set i (some (freshE fr e && isL u, u))))
  | .unp is e, en => (evV C e en).bind fun u => (unpU is.length u).bind fun us => .ok (.nx (setAllV (leaks us (fvE e) en) is us))
  | .setIx (.var j) i e, en => (evV C e en).bind fun v => (evV C i en).bind fun y => (setIxV (leak false v (fvE e) en) j y v).bind fun en' => .ok (.nx en')
  | .setIx _ _ _, _ => .stuck
  | .aug i e, en => (intV en i).bind fun x => (evV C e en).bind fun y => (toI y).bind fun y => .ok (.nx (en.set i (some (false, .int (x + y)))))
  | .expr e, en => match mutE en e with
    | some (f, i, us, es) => (mutC C en f i us es).bind fun p => .ok (.nx p.2)
    | none => (evV C e en).bind fun _ => .ok (.nx en)
  | .app i e, en => match mutA en e with
    | some (e1, f, k, us, es) => (ownV en i).bind fun _ => (evV C e1 en).bind fun u => if noL u = true then (mutC C en f k us es).bind fun p => (ownV p.2 i).bind fun ws => if ws.length < sizeLine then .ok (.nx (p.2.set i (some (true, .lst (ws ++ [.tup [u, p.1]]))))) else .stuck else .stuck
    | none => (ownV en i).bind fun _ => (evV C e en).bind fun u => (ownV (leak false u (fvE e) en) i).bind fun us => if us.length < sizeLine then .ok (.nx ((leak false u (fvE e) en).set i (some (true, .lst (us ++ [u]))))) else .stuck
  | .ret e, en => (evV C e en).bind fun u => .ok (.ret ((freshE fr e && isL u) || ownR en e) u)
  | .ret0, _ => .ok (.ret false .non)
  | .ifs c a b, en => (evV C c en).bind fun x => (truU x).bind fun t => if t = true then exVB a en else exVB b en
  | .for_ tg (.val e) b, en => (evV C e en).bind fun u => (iterU u).bind fun p => forV (bindV tg) (fun en' => exVB b en') p.1 (if ((!p.2 || (freshE fr e && isL u)) && noLs p.1) = true then en else unown en (fvE e))
  | .for_ tg (.enm e) b, en => (evV C e en).bind fun u => (enmU u).bind fun us => forV (bindV tg) (fun en' => exVB b en') us (unown en (fvE e))
  | .for_ tg (.zip e e') b, en => (evV C e en).bind fun u => (evV C e' en).bind fun v => (zipU u v).bind fun us => forV (bindV tg) (fun en' => exVB b en') us (unown en (fvE e ++ fvE e'))
  | .for_ tg (.nam i) b, en => (getV en i).bind fun u => (itnU u).bind fun p => forV (bindV tg) (fun en' => exVB b en') p.1 (if (!p.2 && noLs p.1) = true then en else unown en [i])
  | .for_ tg (.itm i) b, en => (getV en i).bind fun u => (itmU u).bind fun p => forV (bindV tg) (fun en' => exVB b en') p.1 (unown en [i])
  | .for_ tg it b, en => (evVt C it en).bind fun p => forV (bindV tg) (fun en' => exVB b en') p.1 en
  | .whl c b, en => whlV (fun en' => (evV C c en').bind truU) (fun en' => exVB b en') fuel en
  | .brk, en => .ok (.brk en)
  | .cnt, en => .ok (.cnt en)
  | .pass, en => .ok (.nx en)
  | .dead, _ => .stuck
  | .rse _, _ => .stuck
  | .try_ (.cons (.expr e) .nil) c i h, en => (rawX C c e en).bind fun _ => if i < en.length then (exVB h (en.set i none)).bind fun f => (match f with
    | .nx en2 => .ok (.nx (en2.set i none))
    | _ => .stuck) else .stuck
  | .try_ _ _ _ _, _ => .stuck
  | .popx t i, en => (ownV en i).bind fun us => match us[us.length - 1]? with
    | some u => (match t with
      | none => .ok (.nx (en.set i (some (true, .lst us.dropLast))))
      | some t => (bindV t u (en.set i (some (true, .lst us.dropLast)))).bind fun en2 => .ok (.nx en2))
    | none => .stuck
  | .dpop t i k, en => (ownNV en i).bind fun _ => (evV C k en).bind fun y => (keyV y).bind fun kk => (ownNV en i).bind fun us => (optV (findV us kk)).bind fun u => (match t with
      | none => .ok (.nx (en.set i (some (true, .dct (dropV us kk)))))
      | some t => (bindV t u (en.set i (some (true, .dct (dropV us kk))))).bind fun en2 => .ok (.nx en2))
  | .ext i e, en => (ownV en i).bind fun _ => (evV C e en).bind fun u => (lstU u).bind fun vs => (ownV (leaks vs (fvE e) en) i).bind fun us => if us.length + vs.length ≤ sizeLine then .ok (.nx ((leaks vs (fvE e) en).set i (some (true, .lst (us ++ vs))))) else .stuck
  | .clr i, en => (ownV en i).bind fun _ => .ok (.nx (en.set i (some (true, .lst []))))
noncomputable def exVB : Sts → VEnv → VR VF
  | .nil, en => .ok (.nx en)
  | .cons s r, en => (exV s en).bind fun f => match f with
    | .nx en' => exVB r en'
    | f => .ok f
end
end
/-- a block raises c -/
inductive XcB (fr : Nat → Bool) (C : Nat → List U → VR U) (c : Str) : Sts → VEnv → Prop
  | rse {r : Sts} {en : VEnv} : XcB fr C c (.cons (.rse c) r) en
  | ifT {e : E} {a b r : Sts} {en : VEnv} : evV C e en = .ok (.bl true) → XcB fr C c a en → XcB fr C c (.cons (.ifs e a b) r) en
  | ifF {e : E} {a b r : Sts} {en : VEnv} : evV C e en = .ok (.bl false) → XcB fr C c b en → XcB fr C c (.cons (.ifs e a b) r) en
  | exp {e : E} {r : Sts} {en : VEnv} : rawX C c e en = .ok () → XcB fr C c (.cons (.expr e) r) en
  | set {e : E} {i : Nat} {r : Sts} {en : VEnv} : rawX C c e en = .ok () → XcB fr C c (.cons (.set i e) r) en
  | step {s : NL.St} {r : Sts} {en en' : VEnv} : exV fr C s en = .ok (.nx en') → XcB fr C c r en' → XcB fr C c (.cons s r) en
open Classical in
noncomputable def runX (fr : Nat → Bool) (C : Nat → List U → VR U) (f : Fn) (c : Str) (us : List U) : VR U :=
  if us.length = f.np ∧ XcB fr C c f.body (us.map (fun u => some (false, u)) ++ List.replicate (f.nv - f.np) none) then .ok (.bl true) else .stuck
/-- a body that changes its first argument -/
noncomputable def runM (fr : Nat → Bool) (C : Nat → List U → VR U) (f : Fn) (us vs : List U) : VR U := match unret f.body with
  | some (b, e) => if (decide (vs.length + 1 = f.np) && strB b) = true then match exVB fr C b (some (true, .dct us) :: (vs.map (fun u => some (false, u)) ++ List.replicate (f.nv - f.np) none)) with
    | .ok (.nx en) => (ownNV en 0).bind fun us' => (evV C e en).bind fun r => if (noLs us' && noL r) = true then .ok (.tup [.dct us', r]) else .stuck
    | .exc c u => .exc c u
    | _ => .stuck
    else .stuck
  | none => .stuck
noncomputable def runV (fr : Nat → Bool) (C : Nat → List U → VR U) (w : Bool) (f : Fn) (us : List U) : VR U :=
  if us.length = f.np then match exVB fr C f.body (us.map (fun u => some (false, u)) ++ List.replicate (f.nv - f.np) none) with
    | .ok (.nx _) => .ok .non
    | .ok (.ret o u) => if (w && isL u && !o) = true then .stuck else .ok u
    | .exc c u => .exc c u
    | _ => .stuck
  else .stuck
/-- a call, at most n deep; fr: whose lists are new -/
noncomputable def callV (T : Nat → Option Fn) (fr : Nat → Bool) : Nat → Nat → List U → VR U
  | 0, _, _ => .stuck
  | n + 1, f, us => match T f with
    | some fn => if 1000 ≤ us.length then (match us.drop 999 with
      | .dct [.non] :: .dct own :: vs => runM fr (callV T fr n) fn own vs
      | .dct [.bl true] :: .str c :: vs => runX fr (callV T fr n) fn c vs
      | _ => .stuck) else runV fr (callV T fr n) (fr f) fn us
    | none => .stuck

/-! ### they are the store's -/
structure EnvOk (A0 A : Nat → Prop) (b : Nat) (S : Store) (ven : VEnv) (en : NL.Env) : Prop where
  len : ven.length = en.length
  own : ∀ (i : Nat) (u : U), ven[i]? = some (some (true, u)) → ∃ (l : Nat), en[i]? = some (some (D.ref l)) ∧ A l ∧ OwnU (fun k => A0 k ∨ A k) S l u
  get : ∀ (i : Nat) (u : U), ven[i]? = some (some (false, u)) → ∃ (d : D), en[i]? = some (some d) ∧ Rd (fun k => A0 k ∨ A k) S d u
  inj : ∀ (i j : Nat) (u v : U) (l : Nat), ven[i]? = some (some (true, u)) → ven[j]? = some (some (true, v)) → en[i]? = some (some (D.ref l)) → en[j]? = some (some (D.ref l)) → i = j
  bA : ∀ l, A l → b ≤ l ∧ l < S.length
  b0 : ∀ l, A0 l → l < b
  bS : b ≤ S.length
structure Fra (A : Nat → Prop) (S : Store) (A' : Nat → Prop) (S' : Store) : Prop where
  len : S.length ≤ S'.length
  get : ∀ (l : Nat) (o : Ob), ¬ A l → S[l]? = some o → S'[l]? = some o
  sub : ∀ l, A' l → A l ∨ S.length ≤ l
section
variable {A0 A A' A1 A2 : Nat → Prop} {b : Nat} {S S' S1 S2 : Store} {ven : VEnv} {en : NL.Env}
theorem Fra.refl : Fra A S A S := ⟨Nat.le_refl _, fun _ _ _ h => h, fun _ h => .inl h⟩
theorem Fra.trans (a : Fra A S A1 S1) (c : Fra A1 S1 A2 S2) : Fra A S A2 S2 := by
  refine ⟨Nat.le_trans a.len c.len, fun l o n h => c.get l o (fun z => ?_) (a.get l o n h), fun l z => ?_⟩
  · rcases a.sub l z with y | y
    · exact n y
    · have := lt_of_get h; omega
  · rcases c.sub l z with y | y
    · exact a.sub l y
    · have := a.len; exact .inr (by omega)
theorem Fra.gw (g : Gw S S') : Fra A S A S' := ⟨g.len, fun l o _ h => g.get h, fun _ h => .inl h⟩
theorem Fra.mono (f : Fra A S A' S') (b0 : ∀ l, A0 l → l < S.length) : ∀ l o, ¬ (A0 l ∨ A l) → S[l]? = some o → ¬ (A0 l ∨ A' l) ∧ S'[l]? = some o := fun l o n h => ⟨fun z => by
  rcases z with z | z
  · exact n (.inl z)
  · rcases f.sub l z with y | y
    · exact n (.inr y)
    · have := lt_of_get h; omega, f.get l o (fun z => n (.inr z)) h⟩
theorem EnvOk.b0S (h : EnvOk A0 A b S ven en) : ∀ l, A0 l → l < S.length := fun l z => Nat.lt_of_lt_of_le (h.b0 l z) h.bS
theorem EnvOk.gw (h : EnvOk A0 A b S ven en) (g : Gw S S') : EnvOk A0 A b S' ven en := by
  refine ⟨h.len, fun i u e => ?_, fun i u e => ?_, h.inj, fun l z => ?_, h.b0, Nat.le_trans h.bS g.len⟩
  · obtain ⟨l, h1, h2, h3⟩ := h.own i u e
    exact ⟨l, h1, h2, h3.gw g⟩
  · obtain ⟨d, h1, h2⟩ := h.get i u e
    exact ⟨d, h1, h2.gw g⟩
  · have := h.bA l z; have := g.len; omega
/-- the places that the own lists of these names are not -/
def Oth (A0 A : Nat → Prop) (is : List Nat) (ven : VEnv) (en : NL.Env) : Nat → Prop := fun k => A k ∧ ¬ ∃ i ∈ is, ∃ u, ven[i]? = some (some (true, u)) ∧ en[i]? = some (some (D.ref k))
theorem EnvOk.envR (h : EnvOk A0 A b S ven en) (is : List Nat) : EnvR is (fun k => A0 k ∨ Oth A0 A is ven en k) S ven en := by
  refine ⟨h.len, fun i hi w u e => ?_⟩
  have m : ∀ l o, ¬ (A0 l ∨ A l) → S[l]? = some o → ¬ (A0 l ∨ Oth A0 A is ven en l) ∧ S[l]? = some o := fun l o n g => ⟨fun z => n (z.imp id (fun z => z.1)), g⟩
  cases w with
  | false =>
    obtain ⟨d, h1, h2⟩ := h.get i u e
    exact ⟨d, h1, h2.mono m⟩
  | true =>
    obtain ⟨l, h1, h3, h4⟩ := h.own i u e
    refine ⟨_, h1, h4.rd ?_ m⟩
    rintro (z | z)
    · have := h.b0 l z; have := (h.bA l h3).1; omega
    · exact z.2 ⟨i, hi, _, e, h1⟩
theorem EnvOk.bnd (h : EnvOk A0 A b S ven en) (is : List Nat) : Bnd (fun k => A0 k ∨ Oth A0 A is ven en k) S := fun l z => by
  rcases z with z | z
  · exact h.b0S l z
  · exact (h.bA l z.1).2
theorem low_len {i : Nat} : (low ven i).length = ven.length := by
  unfold low
  split
  · rw [List.length_set]
  · rfl
theorem low_back {i j : Nat} {w : Bool} {u : U} (e : (low ven i)[j]? = some (some (w, u))) : ∃ w', ven[j]? = some (some (w', u)) ∧ (w = true → w' = true ∧ i ≠ j) := by
  unfold low at e
  split at e
  · rename_i p hp
    by_cases hij : i = j
    · subst hij
      rw [List.getElem?_set_self (List.getElem?_eq_some_iff.mp hp).1] at e
      cases e
      exact ⟨p.1, hp, fun z => by cases z⟩
    · rw [List.getElem?_set_ne hij] at e
      exact ⟨w, e, fun z => ⟨z, hij⟩⟩
  · rename_i hn
    refine ⟨w, e, fun z => ⟨z, fun hij => ?_⟩⟩
    subst hij
    exact hn _ e
theorem unown_len : ∀ {is : List Nat} {ven : VEnv}, (unown ven is).length = ven.length
  | [], _ => rfl
  | i :: is, ven => by
    unfold unown
    rw [unown_len, low_len]
theorem unown_back : ∀ {is : List Nat} {ven : VEnv} {j : Nat} {w : Bool} {u : U}, (unown ven is)[j]? = some (some (w, u)) → ∃ w', ven[j]? = some (some (w', u)) ∧ (w = true → w' = true ∧ j ∉ is)
  | [], ven, j, w, u, e => ⟨w, e, fun z => ⟨z, by simp⟩⟩
  | i :: is, ven, j, w, u, e => by
    unfold unown at e
    obtain ⟨w1, e1, k1⟩ := unown_back (is := is) e
    obtain ⟨w2, e2, k2⟩ := low_back e1
    refine ⟨w2, e2, fun z => ?_⟩
    obtain ⟨z1, z2⟩ := k1 z
    obtain ⟨z3, z4⟩ := k2 z1
    refine ⟨z3, fun hm => ?_⟩
    rcases List.mem_cons.mp hm with e | hm
    · exact z4 e.symm
    · exact z2 hm
/-- names that give up their own lists -/
theorem EnvOk.unown (h : EnvOk A0 A b S ven en) (is : List Nat) : EnvOk A0 (Oth A0 A is ven en) b S (VL.unown ven is) en := by
  have m : ∀ l o, ¬ (A0 l ∨ A l) → S[l]? = some o → ¬ (A0 l ∨ Oth A0 A is ven en l) ∧ S[l]? = some o := fun l o n g => ⟨fun z => n (z.imp id (fun z => z.1)), g⟩
  refine ⟨by rw [unown_len]; exact h.len, fun i u e => ?_, fun i u e => ?_, fun i j u v l e1 e2 g1 g2 => ?_, fun l z => h.bA l z.1, h.b0, h.bS⟩
  · obtain ⟨w', e', k⟩ := unown_back e
    obtain ⟨rfl, hi⟩ := k rfl
    obtain ⟨l, h1, h3, h4⟩ := h.own i u e'
    refine ⟨l, h1, ⟨h3, ?_⟩, h4.mono (fun o e => e) m⟩
    rintro ⟨j, hj, v, q1, q2⟩
    have := h.inj i j u v l e' q1 h1 q2
    subst this
    exact hi hj
  · obtain ⟨w', e', k⟩ := unown_back e
    by_cases hi : i ∈ is
    · obtain ⟨d, h1, h2⟩ := (h.envR is).get i hi w' u e'
      exact ⟨d, h1, h2⟩
    · cases w' with
      | false =>
        obtain ⟨d, h1, h2⟩ := h.get i u e'
        exact ⟨d, h1, h2.mono m⟩
      | true =>
        -- only names of is lose theirs
        exfalso
        clear k
        have key : ∀ {is : List Nat} {ven : VEnv}, i ∉ is → ven[i]? = some (some (true, u)) → (VL.unown ven is)[i]? = some (some (true, u)) := by
          intro is
          induction is with
          | nil => intro ven _ e; exact e
          | cons j is ih =>
            intro ven hn e
            unfold VL.unown
            refine ih (fun z => hn (List.mem_cons_of_mem _ z)) ?_
            have hji : j ≠ i := fun z => hn (by rw [z]; exact List.mem_cons_self)
            unfold low
            split
            · rw [List.getElem?_set_ne hji]; exact e
            · exact e
        have := key hi e'
        rw [e] at this
        cases this
  · obtain ⟨w1, f1, k1⟩ := unown_back e1
    obtain ⟨w2, f2, k2⟩ := unown_back e2
    obtain ⟨rfl, _⟩ := k1 rfl
    obtain ⟨rfl, _⟩ := k2 rfl
    exact h.inj i j u v l f1 f2 g1 g2
theorem Fra.oth {is : List Nat} : Fra A S (Oth A0 A is ven en) S := ⟨Nat.le_refl _, fun _ _ _ h => h, fun _ h => .inl h.1⟩
/-- a name takes a shared value -/
theorem EnvOk.set (h : EnvOk A0 A b S ven en) {d : D} {u : U} (r : Rd (fun k => A0 k ∨ A k) S d u) (i : Nat) : EnvOk A0 A b S (ven.set i (some (false, u))) (en.set i (some d)) := by
  have ne : ∀ {j : Nat} {w : Bool} {v : U}, (ven.set i (some (false, u)))[j]? = some (some (w, v)) → (i = j ∧ w = false ∧ v = u ∧ (en.set i (some d))[j]? = some (some d)) ∨ (i ≠ j ∧ ven[j]? = some (some (w, v)) ∧ (en.set i (some d))[j]? = en[j]?) := fun {j w v} e => by
    by_cases hij : i = j
    · subst hij
      by_cases hl : i < ven.length
      · rw [List.getElem?_set_self hl] at e
        cases e
        exact .inl ⟨rfl, rfl, rfl, List.getElem?_set_self (by rw [← h.len]; exact hl)⟩
      · rw [List.getElem?_eq_none (by simpa using hl)] at e; cases e
    · rw [List.getElem?_set_ne hij] at e
      exact .inr ⟨hij, e, List.getElem?_set_ne hij⟩
  refine ⟨by simp [h.len], fun j v e => ?_, fun j v e => ?_, fun j k v w l e1 e2 g1 g2 => ?_, h.bA, h.b0, h.bS⟩
  · rcases ne e with ⟨_, z, _⟩ | ⟨_, e', q⟩
    · cases z
    · rw [q]; exact h.own j v e'
  · rcases ne e with ⟨_, _, rfl, q⟩ | ⟨_, e', q⟩
    · exact ⟨d, q, r⟩
    · rw [q]; exact h.get j v e'
  · rcases ne e1 with ⟨_, z, _⟩ | ⟨_, f1, q1⟩
    · cases z
    · rcases ne e2 with ⟨_, z, _⟩ | ⟨_, f2, q2⟩
      · cases z
      · rw [q1] at g1; rw [q2] at g2
        exact h.inj j k v w l f1 f2 g1 g2
end
end VL

/-! Statements over trees are the store's. -/
namespace VL
open PySem PySem.Spec PyProof.Rows L2 NL
section
variable {A0 A A' A1 A2 : Nat → Prop} {b : Nat} {S S' S1 S2 : Store} {ven : VEnv} {en : NL.Env}
/-- what is asked of an answer that is kept -/
structure Kept (A0 A1 B : Nat → Prop) (w : Bool) (u : U) : Prop where
  sh : w = false → ∀ {S1 : Store} {d : D}, Rd B S1 d u → Rd (fun k => A0 k ∨ A1 k) S1 d u
  ow : w = true → ∀ {b' : Nat} {S1 : Store} {d : D}, FrD B b' S1 d u → ∃ l, d = .ref l ∧ b' ≤ l ∧ OwnU (fun k => A0 k ∨ (A1 k ∨ k = l)) S1 l u
theorem leak_ok (h : EnvOk A0 A b S ven en) (w : Bool) (u : U) (is : List Nat) : ∃ A1, EnvOk A0 A1 b S (leak w u is ven) en ∧ Fra A S A1 S ∧ Kept A0 A1 (fun k => A0 k ∨ Oth A0 A is ven en k) w u := by
  unfold leak
  by_cases hk : keeps w u = true
  · rw [if_pos hk]
    refine ⟨A, h, .refl, fun e => ?_, fun e => ?_⟩
    · subst e
      have : noL u = true := by unfold keeps at hk; simpa using hk
      intro S1 d r
      exact r.of_noL this
    · subst e
      intro b' S1 d ⟨l, h1, h2, h3⟩
      have : noLs (inL u) = true := by
        unfold keeps at hk
        cases h3 with
        | lst _ _ =>
          rw [show noL (.lst _) = false by unfold noL; rfl] at hk
          simpa [inL] using hk
        | dct _ _ =>
          rw [show noL (.dct _) = false by unfold noL; rfl] at hk
          simpa [inL] using hk
      exact ⟨l, h1, h2, h3.of_noL this⟩
  · rw [if_neg hk]
    refine ⟨Oth A0 A is ven en, h.unown is, .oth, fun _ => ?_, fun _ => ?_⟩
    · intro S1 d r; exact r
    · intro b' S1 d ⟨l, h1, h2, h3⟩
      refine ⟨l, h1, h2, h3.mono (fun o e => e) fun k o n g => ⟨fun z => n ?_, g⟩⟩
      rcases z with z | z | z
      · exact .inl (.inl z)
      · exact .inl (.inr z)
      · exact .inr z
theorem leaks_ok (h : EnvOk A0 A b S ven en) (us : List U) (is : List Nat) : ∃ A1, EnvOk A0 A1 b S (leaks us is ven) en ∧ Fra A S A1 S ∧ ∀ {S1 : Store} {ds : List D}, Rds (fun k => A0 k ∨ Oth A0 A is ven en k) S1 ds us → Rds (fun k => A0 k ∨ A1 k) S1 ds us := by
  unfold leaks
  by_cases hk : noLs us = true
  · rw [if_pos hk]
    exact ⟨A, h, .refl, fun r => r.of_noL hk⟩
  · rw [if_neg hk]
    exact ⟨Oth A0 A is ven en, h.unown is, .oth, fun r => r⟩
theorem set_ev (h : EnvOk A0 A b S ven en) {is : List Nat} {fl : Bool} {r : R D} {u : U} (q : OkB fl (fun k => A0 k ∨ Oth A0 A is ven en k) S r u) (i : Nat) :
    ∃ d S1 A1, r = .ok d S1 ∧ EnvOk A0 A1 b S1 ((leak (fl && isL u) u is ven).set i (some (fl && isL u, u))) (en.set i (some d)) ∧ Fra A S A1 S1 := by
  obtain ⟨d, S1, h1, h2, h3, h4⟩ := q
  obtain ⟨A1, e1, f1, k1⟩ := leak_ok h (fl && isL u) u is
  cases hw : fl && isL u with
  | false =>
    rw [hw] at e1 k1
    exact ⟨d, S1, A1, h1, (e1.gw h2).set (k1.sh rfl h3) i, f1.trans (.gw h2)⟩
  | true =>
    rw [hw] at e1 k1
    rw [Bool.and_eq_true] at hw
    obtain ⟨l, g1, g2, g4⟩ := k1.ow rfl (h4 hw.1 hw.2)
    subst g1
    have mv : ∀ l' o, ¬ (A0 l' ∨ A1 l') → S[l']? = some o → ¬ (A0 l' ∨ (A1 l' ∨ l' = l)) ∧ S1[l']? = some o := fun l' o n g => ⟨fun z => by
      rcases z with z | z | z
      · exact n (.inl z)
      · exact n (.inr z)
      · have := lt_of_get g; omega, h2.get g⟩
    refine ⟨_, S1, fun k => A1 k ∨ k = l, h1, ?_, ?_⟩
    · -- the reads of before avoid the new place
      refine ⟨by simp [e1.len], fun j v e => ?_, fun j v e => ?_, fun j k v w l' x1 x2 y1 y2 => ?_, fun k z => ?_, h.b0, Nat.le_trans h.bS h2.len⟩
      · by_cases hij : i = j
        · subst hij
          have hl : i < (leak true u is ven).length := by
            have := (List.getElem?_eq_some_iff.mp e).1; simpa using this
          rw [List.getElem?_set_self hl] at e
          cases e
          exact ⟨l, List.getElem?_set_self (by rw [← e1.len]; exact hl), .inr rfl, g4⟩
        · rw [List.getElem?_set_ne hij] at e
          obtain ⟨l', q1, q3, q4⟩ := e1.own j v e
          exact ⟨l', by rw [List.getElem?_set_ne hij]; exact q1, .inl q3, q4.mono (fun o e => h2.get e) mv⟩
      · by_cases hij : i = j
        · subst hij
          have hl : i < (leak true u is ven).length := by
            have := (List.getElem?_eq_some_iff.mp e).1; simpa using this
          rw [List.getElem?_set_self hl] at e
          cases e
        · rw [List.getElem?_set_ne hij] at e
          obtain ⟨d', q1, q2⟩ := e1.get j v e
          exact ⟨d', by rw [List.getElem?_set_ne hij]; exact q1, q2.mono mv⟩
      · have at_ : ∀ {j : Nat} {v : U} {l' : Nat}, ((leak true u is ven).set i (some (true, u)))[j]? = some (some (true, v)) → (en.set i (some (D.ref l)))[j]? = some (some (D.ref l')) → (i = j ∧ l' = l) ∨ (i ≠ j ∧ l' < S.length ∧ (leak true u is ven)[j]? = some (some (true, v)) ∧ en[j]? = some (some (D.ref l'))) := fun {j v l'} x y => by
          by_cases hij : i = j
          · subst hij
            have hl : i < en.length := by
              have := (List.getElem?_eq_some_iff.mp y).1; simpa using this
            rw [List.getElem?_set_self hl] at y
            cases y
            exact .inl ⟨rfl, rfl⟩
          · rw [List.getElem?_set_ne hij] at x y
            obtain ⟨l2, q1, q3, q4⟩ := e1.own j v x
            rw [q1] at y
            cases y
            exact .inr ⟨hij, q4.lt, x, q1⟩
        rcases at_ x1 y1 with ⟨i1, i2⟩ | ⟨i1, i2, i3, i4⟩
        · rcases at_ x2 y2 with ⟨j1, j2⟩ | ⟨j1, j2, j3, j4⟩
          · exact i1.symm.trans j1
          · omega
        · rcases at_ x2 y2 with ⟨j1, j2⟩ | ⟨j1, j2, j3, j4⟩
          · omega
          · exact e1.inj j k v w l' i3 j3 i4 j4
      · rcases z with z | z
        · have := e1.bA k z; have := h2.len; omega
        · subst z
          have := g4.lt
          have := h.bS
          omega
    · refine f1.trans ⟨h2.len, fun l' o _ g => h2.get g, fun k z => ?_⟩
      rcases z with z | z
      · exact .inl z
      · subst z; exact .inr g2
theorem EnvOk.setAll : ∀ {ks : List Nat} {ds : List D} {us : List U} {ven : VEnv} {en : NL.Env}, EnvOk A0 A b S ven en → Rds (fun k => A0 k ∨ A k) S ds us → EnvOk A0 A b S (setAllV ven ks us) (NL.setAll en ks ds)
  | [], _, _, _, _, h, _ => by unfold setAllV NL.setAll; exact h
  | k :: ks, _, _, _, _, h, .nil => by unfold setAllV NL.setAll; exact h
  | k :: ks, _, _, _, _, h, .cons a r => by
    unfold setAllV NL.setAll
    exact EnvOk.setAll (h.set a k) r
theorem bindE_ok {tg : Tg} {d : D} {u : U} {ven' : VEnv} (h : EnvOk A0 A b S ven en) (r : Rd (fun k => A0 k ∨ A k) S d u) (hb : bindV tg u ven = .ok ven') : ∃ en', NL.bindT tg d en S = .ok en' S ∧ EnvOk A0 A b S ven' en' := by
  cases tg with
  | nm i => cases hb; exact ⟨_, rfl, h.set r i⟩
  | tp ks =>
    obtain ⟨us, h1, h2⟩ := VR.bind_ok hb
    cases h2
    obtain ⟨ds, h3, h4⟩ := unp_ok r h1
    refine ⟨NL.setAll en ks ds, ?_, h.setAll h4⟩
    show (unpD ks.length d >>= fun ds => (pure (NL.setAll en ks ds) : M NL.Env)) S = _
    rw [bind_eq, h3]; rfl
/-- an own thing is written -/
theorem EnvOk.mutU (h : EnvOk A0 A b S ven en) {i : Nat} {u u' : U} (hi : ven[i]? = some (some (true, u))) {l : Nat} (hl : en[i]? = some (some (D.ref l))) (hA : A l) {o' : Ob} (r : OwnU (fun k => A0 k ∨ A k) (S.set l o') l u') :
    EnvOk A0 A b (S.set l o') (ven.set i (some (true, u'))) en := by
  have mv : ∀ l' o, ¬ (A0 l' ∨ A l') → S[l']? = some o → ¬ (A0 l' ∨ A l') ∧ (S.set l o')[l']? = some o := fun l' o n g => ⟨n, by
    rw [List.getElem?_set_ne (fun e => n (.inr (by rw [← e]; exact hA)))]; exact g⟩
  have iv : i < ven.length := (List.getElem?_eq_some_iff.mp hi).1
  refine ⟨by simp [h.len], fun j v e => ?_, fun j v e => ?_, fun j k v w l' x1 x2 y1 y2 => ?_, fun k z => ?_, h.b0, by simp [h.bS]⟩
  · by_cases hij : i = j
    · subst hij
      rw [List.getElem?_set_self iv] at e
      cases e
      exact ⟨l, hl, hA, r⟩
    · rw [List.getElem?_set_ne hij] at e
      obtain ⟨l', q1, q3, q4⟩ := h.own j v e
      have hne : l ≠ l' := fun z => hij (by subst z; exact h.inj i j _ _ l hi e hl q1)
      exact ⟨l', q1, q3, q4.mono (fun o e => by rw [List.getElem?_set_ne hne]; exact e) mv⟩
  · by_cases hij : i = j
    · subst hij
      rw [List.getElem?_set_self iv] at e
      cases e
    · rw [List.getElem?_set_ne hij] at e
      obtain ⟨d, q1, q2⟩ := h.get j v e
      exact ⟨d, q1, q2.mono mv⟩
  · have back : ∀ {j : Nat} {v : U}, (ven.set i (some (true, u')))[j]? = some (some (true, v)) → ∃ v', ven[j]? = some (some (true, v')) := fun {j v} x => by
      by_cases hij : i = j
      · subst hij; exact ⟨_, hi⟩
      · rw [List.getElem?_set_ne hij] at x; exact ⟨v, x⟩
    obtain ⟨v', x1'⟩ := back x1
    obtain ⟨w', x2'⟩ := back x2
    exact h.inj j k v' w' l' x1' x2' y1 y2
  · have := h.bA k z; simpa using this
theorem mut_mv {l : Nat} {o' : Ob} (hA : A l) : ∀ l' o, ¬ (A0 l' ∨ A l') → S[l']? = some o → ¬ (A0 l' ∨ A l') ∧ (S.set l o')[l']? = some o := fun l' o n g => ⟨n, by
    rw [List.getElem?_set_ne (fun e => n (.inr (by rw [← e]; exact hA)))]; exact g⟩
theorem EnvOk.mut (h : EnvOk A0 A b S ven en) {i : Nat} {us us' : List U} (hi : ven[i]? = some (some (true, U.lst us))) {l : Nat} (hl : en[i]? = some (some (D.ref l))) (hA : A l) (hlt : l < S.length) {xs' : List D} (r : Rds (fun k => A0 k ∨ A k) S xs' us') :
    EnvOk A0 A b (S.set l (.lst xs')) (ven.set i (some (true, .lst us'))) en := h.mutU hi hl hA (.lst (List.getElem?_set_self hlt) (r.mono (mut_mv hA)))
theorem EnvOk.mutN (h : EnvOk A0 A b S ven en) {i : Nat} {us us' : List U} (hi : ven[i]? = some (some (true, U.dct us))) {l : Nat} (hl : en[i]? = some (some (D.ref l))) (hA : A l) (hlt : l < S.length) {kvs : List (D × D)} (r : Rds (fun k => A0 k ∨ A k) S (kvs.map prD) us') :
    EnvOk A0 A b (S.set l (.dct false kvs)) (ven.set i (some (true, .dct us'))) en := h.mutU hi hl hA (.dct (List.getElem?_set_self hlt) (r.mono (mut_mv hA)))
/-- locked or not -/
theorem EnvOk.lk (h : EnvOk A0 A b S ven en) {l : Nat} {lk lk' : Bool} {kvs : List (D × D)} (e : S[l]? = some (.dct lk kvs)) (hA : ¬ A l) : EnvOk A0 A b (S.set l (.dct lk' kvs)) ven en := by
  refine ⟨h.len, fun i u z => ?_, fun i u z => ?_, h.inj, fun k z => by rw [List.length_set]; exact h.bA k z, h.b0, by rw [List.length_set]; exact h.bS⟩
  · obtain ⟨k, h1, h2, h3⟩ := h.own i u z
    exact ⟨k, h1, h2, h3.lk e (fun z => hA (by rw [z]; exact h2))⟩
  · obtain ⟨d, h1, h2⟩ := h.get i u z
    exact ⟨d, h1, h2.lk e⟩
theorem Fra.mut {l : Nat} {o : Ob} (hA : A l) : Fra A S A (S.set l o) := ⟨by simp, fun l' o' n g => by rw [List.getElem?_set_ne (fun e => n (by rw [← e]; exact hA))]; exact g, fun _ h => .inl h⟩
theorem ownV_ok {i : Nat} {us : List U} (e : ownV ven i = .ok us) : ven[i]? = some (some (true, U.lst us)) := by
  unfold ownV at e
  split at e
  · rename_i hu; cases e; exact hu
  · cases e
theorem ownNV_ok {i : Nat} {us : List U} (e : ownNV ven i = .ok us) : ven[i]? = some (some (true, U.dct us)) := by
  unfold ownNV at e
  split at e
  · rename_i hu; cases e; exact hu
  · cases e
theorem keyV_ok {u : U} {k : NestedKey} (e : keyV u = .ok k) : keyU u = some k := by
  unfold keyV at e
  split at e
  · rename_i h; cases e; exact h
  · cases e
mutual
theorem nk_noL : ∀ {u : U} {k : NestedKey}, nkU u = some k → noL u = true
  | .int i, _, _ => by unfold noL; rfl
  | .tup xs, k, h => by
    unfold nkU at h
    obtain ⟨ks, h1, _⟩ := Option.map_eq_some_iff.mp h
    unfold noL
    exact nks_noL h1
  | .non, _, h => by unfold nkU at h; cases h
  | .bl _, _, h => by unfold nkU at h; cases h
  | .str _, _, h => by unfold nkU at h; cases h
  | .lst _, _, h => by unfold nkU at h; cases h
  | .frz _, _, h => by unfold nkU at h; cases h
  | .dct _, _, h => by unfold nkU at h; cases h
theorem nks_noL : ∀ {us : List U} {ks : List NestedKey}, nkUs us = some ks → noLs us = true
  | [], _, _ => by unfold noLs; rfl
  | u :: us, ks, h => by
    unfold nkUs at h
    split at h
    · rename_i k ks' h1 h2
      unfold noLs
      rw [nk_noL h1, nks_noL h2]; rfl
    · cases h
end
theorem key_noL {u : U} {k : NestedKey} (h : keyU u = some k) : noL u = true := by
  cases u with
  | tup xs => exact nk_noL (Option.filter_eq_some_iff.mp h).1
  | _ => cases h
/-- a name that stands for nothing any more -/
theorem EnvOk.drop {A0 A : Nat → Prop} {b : Nat} {S : Store} {ven : VEnv} {en : NL.Env} (h : EnvOk A0 A b S ven en) (i : Nat) : EnvOk A0 A b S (ven.set i none) (en.set i none) := by
  have at_ : ∀ {j : Nat} {w : Bool} {v : U}, (ven.set i none)[j]? = some (some (w, v)) → i ≠ j ∧ ven[j]? = some (some (w, v)) := fun {j w v} e => by
    by_cases hij : i = j
    · subst hij
      by_cases hl : i < ven.length
      · rw [List.getElem?_set_self hl] at e; cases e
      · rw [List.getElem?_eq_none (by simpa using hl)] at e; cases e
    · rw [List.getElem?_set_ne hij] at e; exact ⟨hij, e⟩
  refine ⟨by simp [h.len], fun j v e => ?_, fun j v e => ?_, fun j k v w l e1 e2 g1 g2 => ?_, h.bA, h.b0, h.bS⟩
  · obtain ⟨n, e'⟩ := at_ e
    rw [List.getElem?_set_ne n]; exact h.own j v e'
  · obtain ⟨n, e'⟩ := at_ e
    rw [List.getElem?_set_ne n]; exact h.get j v e'
  · obtain ⟨n1, f1⟩ := at_ e1
    obtain ⟨n2, f2⟩ := at_ e2
    rw [List.getElem?_set_ne n1] at g1
    rw [List.getElem?_set_ne n2] at g2
    exact h.inj j k v w l f1 f2 g1 g2
theorem toI_ok {B : Nat → Prop} {d : D} {u : U} {x : Int} (r : Rd B S d u) (e : toI u = .ok x) : d = .int x := by
  cases r <;> first | (cases e; done) | skip
  cases e; rfl
def FlowOk (A0 A : Nat → Prop) (b : Nat) (S : Store) : VF → NL.Flow → Store → Prop
  | .nx v, .nx e, S' => ∃ A', EnvOk A0 A' b S' v e ∧ Fra A S A' S'
  | .brk v, .brk e, S' => ∃ A', EnvOk A0 A' b S' v e ∧ Fra A S A' S'
  | .cnt v, .cnt e, S' => ∃ A', EnvOk A0 A' b S' v e ∧ Fra A S A' S'
  | .ret w u, .ret d, S' => (∃ A', Fra A S A' S') ∧ Rd A0 S' d u ∧ (w = true → FrD A0 b S' d u)
  | _, _, _ => False
theorem FlowOk.trans {f : VF} {g : NL.Flow} (a : Fra A S A1 S1) (h : FlowOk A0 A1 b S1 f g S2) : FlowOk A0 A b S f g S2 := by
  cases f <;> cases g <;> first | (exact h.elim) | skip
  · obtain ⟨A', h1, h2⟩ := h; exact ⟨A', h1, a.trans h2⟩
  · obtain ⟨A', h1, h2⟩ := h; exact ⟨A', h1, a.trans h2⟩
  · obtain ⟨A', h1, h2⟩ := h; exact ⟨A', h1, a.trans h2⟩
  · obtain ⟨⟨A', h1⟩, h2⟩ := h; exact ⟨⟨A', a.trans h1⟩, h2⟩
end
theorem lift_ok {α : Type} {en : NL.Env} {m : M α} {k : α → M NL.Flow} {S S1 : Store} {a : α} (h : m S = .ok a S1) : lift en m k S = k a S1 := by
  unfold lift; rw [h]
theorem FlowOk.unlk {A0 A A' : Nat → Prop} {b : Nat} {S S2 : Store} {f : VF} {fl : NL.Flow} {l : Nat} {kvs : List (D × D)} (e : S[l]? = some (.dct false kvs)) (hs : ∀ k, A' k → A k) (hA : ¬ A' l) (o : FlowOk A0 A' b (S.set l (.dct true kvs)) f fl S2) :
    S2[l]? = some (.dct true kvs) ∧ NL.Flow.fine fl = true ∧ FlowOk A0 A b S f fl (S2.set l (.dct false kvs)) := by
  have hl := lt_of_get e
  have e1 : (S.set l (.dct true kvs))[l]? = some (.dct true kvs) := List.getElem?_set_self hl
  have fra : ∀ {A2 : Nat → Prop}, Fra A' (S.set l (.dct true kvs)) A2 S2 → S2[l]? = some (.dct true kvs) ∧ ¬ A2 l ∧ Fra A S A2 (S2.set l (.dct false kvs)) := fun {A2} fa => by
    have e2 := fa.get l _ hA e1
    have n2 : ¬ A2 l := fun z => by
      rcases fa.sub l z with y | y
      · exact hA y
      · rw [List.length_set] at y; omega
    refine ⟨e2, n2, ⟨?_, fun k o n g => ?_, fun k z => ?_⟩⟩
    · have := fa.len; rw [List.length_set] at this; rw [List.length_set]; exact this
    · by_cases hk : l = k
      · subst hk
        rw [e] at g
        cases g
        exact List.getElem?_set_self (lt_of_get e2)
      · rw [List.getElem?_set_ne hk]
        exact fa.get k o (fun z => n (hs k z)) (by rw [List.getElem?_set_ne hk]; exact g)
    · rcases fa.sub k z with y | y
      · exact .inl (hs k y)
      · rw [List.length_set] at y; exact .inr y
  cases f <;> cases fl <;> first | (exact o.elim) | skip
  · obtain ⟨A2, h2, fa⟩ := o
    obtain ⟨e2, n2, f2⟩ := fra fa
    exact ⟨e2, rfl, A2, h2.lk e2 n2, f2⟩
  · obtain ⟨A2, h2, fa⟩ := o
    obtain ⟨e2, n2, f2⟩ := fra fa
    exact ⟨e2, rfl, A2, h2.lk e2 n2, f2⟩
  · obtain ⟨A2, h2, fa⟩ := o
    obtain ⟨e2, n2, f2⟩ := fra fa
    exact ⟨e2, rfl, A2, h2.lk e2 n2, f2⟩
  · obtain ⟨⟨A2, fa⟩, h1, h2⟩ := o
    obtain ⟨e2, n2, f2⟩ := fra fa
    refine ⟨e2, rfl, ⟨A2, f2⟩, h1.lk e2, fun hw => ?_⟩
    obtain ⟨k, y1, y2, y3⟩ := h2 hw
    refine ⟨k, y1, y2, y3.lk e2 fun z => ?_⟩
    subst z
    cases y3 with
    | lst g _ => rw [e2] at g; cases g
    | dct g _ => rw [e2] at g; cases g
section
variable {fr : Nat → Bool} {C : Nat → List D → M D} {CV : Nat → List U → VR U}
abbrev ExOk (A0 : Nat → Prop) (b : Nat) (g : VEnv → VR VF) (m : NL.Env → M NL.Flow) : Prop := ∀ {A : Nat → Prop} {S : Store} {ven : VEnv} {en : NL.Env} {f : VF}, EnvOk A0 A b S ven en → g ven = .ok f → ∃ fl S', m en S = .ok fl S' ∧ FlowOk A0 A b S f fl S'
theorem for_ok {A0 : Nat → Prop} {b : Nat} {tg : Tg} {g : VEnv → VR VF} {m : NL.Env → M NL.Flow} (hb : ExOk A0 b g m) {ck : List (Nat × Ob)} : ∀ {us : List U} {ds : List D} {A : Nat → Prop} {S : Store} {ven : VEnv} {en : NL.Env} {f : VF}, EnvOk A0 A b S ven en → Rds (fun k => A0 k ∨ A k) S ds us → CkOkV (fun k => A0 k ∨ A k) ck S → forV (bindV tg) g us ven = .ok f →
    ∃ fl S', forL (ckD ck) (fun d en' => bindT tg d en') m ds en S = .ok fl S' ∧ FlowOk A0 A b S f fl S'
  | [], _, A, S, ven, en, f, h, .nil, k, e => by
    cases e
    refine ⟨.nx en, S, ?_, A, h, .refl⟩
    unfold forL
    exact lift_ok (ck_run k)
  | u :: us, d :: ds, A, S, ven, en, f, h, .cons a r, k, e => by
    unfold forV at e
    obtain ⟨ven1, e1, e⟩ := VR.bind_ok e
    obtain ⟨f1, e2, e⟩ := VR.bind_ok e
    obtain ⟨en1, q1, h1⟩ := bindE_ok h a e1
    obtain ⟨fl1, S1, q2, o1⟩ := hb h1 e2
    have step : forL (ckD ck) (fun d en' => bindT tg d en') m (d :: ds) en S = (m en1 >>= fun f => match f with
        | .nx en' => forL (ckD ck) (fun d en' => bindT tg d en') m ds en'
        | .cnt en' => forL (ckD ck) (fun d en' => bindT tg d en') m ds en'
        | .brk en' => pure (.nx en')
        | f => pure f) S := by
      rw [forL]
      exact lift_ok (by rw [bind_eq, ck_run k]; exact q1)
    rw [step, bind_eq, q2]
    have go : ∀ {A1 : Nat → Prop} {v : VEnv} {en2 : NL.Env}, EnvOk A0 A1 b S1 v en2 → Fra A S A1 S1 → forV (bindV tg) g us v = .ok f → ∃ fl S', forL (ckD ck) (fun d en' => bindT tg d en') m ds en2 S1 = .ok fl S' ∧ FlowOk A0 A b S f fl S' := fun {A1 v en2} h2 fa e => by
      have mv := fa.mono h.b0S
      have ck2 : CkOkV (fun k => A0 k ∨ A1 k) ck S1 := by
        clear step
        exact fun p hp => ⟨(mv _ _ (k p hp).2 (k p hp).1).2, (mv _ _ (k p hp).2 (k p hp).1).1⟩
      obtain ⟨fl, S', q, o⟩ := for_ok hb (us := us) h2 (r.mono mv) ck2 e
      exact ⟨fl, S', q, .trans fa o⟩
    cases f1 <;> cases fl1 <;> first | (exact o1.elim) | skip
    · obtain ⟨A1, h2, fa⟩ := o1
      exact go h2 fa e
    · obtain ⟨A1, h2, fa⟩ := o1
      cases e
      exact ⟨_, S1, rfl, A1, h2, fa⟩
    · obtain ⟨A1, h2, fa⟩ := o1
      exact go h2 fa e
    · cases e
      exact ⟨_, S1, rfl, o1⟩
theorem whl_ok {A0 : Nat → Prop} {b : Nat} {cV : VEnv → VR Bool} {c : NL.Env → M Bool} {g : VEnv → VR VF} {m : NL.Env → M NL.Flow}
    (hc : ∀ {A : Nat → Prop} {S : Store} {ven : VEnv} {en : NL.Env} {t : Bool}, EnvOk A0 A b S ven en → cV ven = .ok t → ∃ S1, c en S = .ok t S1 ∧ Gw S S1) (hb : ExOk A0 b g m) :
    ∀ {n : Nat} {A : Nat → Prop} {S : Store} {ven : VEnv} {en : NL.Env} {f : VF}, EnvOk A0 A b S ven en → whlV cV g n ven = .ok f → ∃ fl S', whlL c m n en S = .ok fl S' ∧ FlowOk A0 A b S f fl S'
  | 0, A, S, ven, en, f, h, e => by cases e
  | n + 1, A, S, ven, en, f, h, e => by
    unfold whlV at e
    obtain ⟨t, e1, e⟩ := VR.bind_ok e
    obtain ⟨S1, q1, w1⟩ := hc h e1
    rw [whlL, lift_ok q1]
    have h1 := h.gw w1
    by_cases ht : t = true
    · rw [if_pos ht] at e ⊢
      obtain ⟨f1, e2, e⟩ := VR.bind_ok e
      obtain ⟨fl1, S2, q2, o1⟩ := hb h1 e2
      rw [bind_eq, q2]
      cases f1 <;> cases fl1 <;> first | (exact o1.elim) | skip
      · obtain ⟨A1, h2, fa⟩ := o1
        obtain ⟨fl, S', q, o⟩ := whl_ok hc hb h2 e
        exact ⟨fl, S', q, .trans ((Fra.gw w1).trans fa) o⟩
      · obtain ⟨A1, h2, fa⟩ := o1
        cases e
        exact ⟨_, S2, rfl, A1, h2, (Fra.gw w1).trans fa⟩
      · obtain ⟨A1, h2, fa⟩ := o1
        obtain ⟨fl, S', q, o⟩ := whl_ok hc hb h2 e
        exact ⟨fl, S', q, .trans ((Fra.gw w1).trans fa) o⟩
      · cases e
        exact ⟨_, S2, rfl, .trans (.gw w1) o1⟩
    · rw [if_neg ht] at e ⊢
      cases e
      exact ⟨_, S1, rfl, A, h1, .gw w1⟩
theorem evE_at (hC : CallOk fr C CV) {A0 A : Nat → Prop} {b : Nat} {S : Store} {ven : VEnv} {en : NL.Env} (h : EnvOk A0 A b S ven en) {e : E} {u : U} (q : evV CV e ven = .ok u) : OkB (freshE fr e) (fun k => A0 k ∨ Oth A0 A (fvE e) ven en k) S (evE C e en S) u :=
  ev_ok hC e (h.bnd _) (h.envR _) q
/-- a call that changes its first argument -/
theorem mutC_ok (hC : CallOk fr C CV) {A0 A : Nat → Prop} {b : Nat} {S : Store} {ven ven' : VEnv} {en : NL.Env} {f i : Nat} {us : List U} {es : Es} {x : U} (h : EnvOk A0 A b S ven en) (hi : ven[i]? = some (some (true, U.dct us))) (q : mutC CV ven f i us es = .ok (x, ven')) :
    ∃ d S', evE C (.call f (.cons (.var i) es)) en S = .ok d S' ∧ EnvOk A0 A b S' ven' en ∧ Fra A S A S' ∧ noL x = true ∧ Rd (fun _ => False) S' d x := by
  unfold mutC at q
  obtain ⟨vs, q1, q⟩ := VR.bind_ok q
  split at q
  · rename_i hn
    rw [Bool.and_eq_true] at hn
    obtain ⟨r, q2, q⟩ := VR.bind_ok q
    split at q
    · rename_i us' y
      injection q with q
      injection q with q3 q4
      subst q3 q4
      obtain ⟨l, p1, p2, p3⟩ := h.own i _ hi
      obtain ⟨ds, S1, g1, w1, r1⟩ := evs_ok hC es (h.bnd (fvEs es)) (h.envR (fvEs es)) q1
      obtain ⟨d, S2, g2, l2, k2, o2, n1, n2, r2⟩ := hC.2.1 f us vs us' y q2 hn.1 hn.2 S1 l ds ((p3.gw w1).of_noL hn.1) (r1.of_noL hn.2)
      obtain ⟨kvs, z1, z2⟩ := o2.dct_
      have hlt : l < S1.length := Nat.lt_of_lt_of_le (h.bA l p2).2 w1.len
      have gw : Gw (S1.set l (.dct false kvs)) S2 := Gw_of (fun k hk => by
        rw [List.length_set] at hk
        by_cases e : k = l
        · subst e; rw [z1, List.getElem?_set_self hk]
        · rw [List.getElem?_set_ne (fun z => e z.symm), List.getElem?_eq_getElem hk]
          exact k2 k _ e (List.getElem?_eq_getElem hk)) (by rw [List.length_set]; exact l2)
      refine ⟨d, S2, ?_, ((h.gw w1).mutU hi p1 p2 (u' := .dct us') (.dct (List.getElem?_set_self hlt) (z2.of_noL n1))).gw gw, ((Fra.gw w1).trans (.mut p2)).trans (.gw gw), n2, r2⟩
      unfold evE evEs
      rw [bind_eq]
      have e1 : evE C (.var i) en S = .ok (.ref l) S := by unfold evE; rw [p1]; rfl
      rw [bind_eq, e1]
      show ((evEs C es en >>= fun xs => (pure (D.ref l :: xs) : M (List D))) S).bind (fun xs => C f xs) = _
      rw [bind_eq, g1]
      exact g2
    · cases q
  · cases q
theorem mutE_some {ven : VEnv} {e : E} {f i : Nat} {us : List U} {es : Es} (h : mutE ven e = some (f, i, us, es)) : e = .call f (.cons (.var i) es) ∧ ven[i]? = some (some (true, U.dct us)) := by
  unfold mutE at h
  split at h
  · split at h
    · rename_i e; cases h; exact ⟨rfl, e⟩
    · cases h
  · cases h
theorem mutA_some {ven : VEnv} {e e1 : E} {f i : Nat} {us : List U} {es : Es} (h : mutA ven e = some (e1, f, i, us, es)) : e = .tup (.cons e1 (.cons (.call f (.cons (.var i) es)) .nil)) ∧ ven[i]? = some (some (true, U.dct us)) := by
  unfold mutA at h
  split at h
  · split at h
    · rename_i e; cases h; exact ⟨rfl, e⟩
    · cases h
  · cases h
theorem exS_for {tg : Tg} {it : NL.It} {b' : Sts} {en : NL.Env} : exS C (.for_ tg it b') en = lockM NL.Flow.fine it.lk en (lift en (evIt C it en) fun p => forL (ckD p.2) (fun d en' => bindT tg d en') (fun en' => exB C b' en') p.1 en) := by unfold exS; rfl
/-- a walk over a name -/
theorem nam_ok {A0 A : Nat → Prop} {b : Nat} {tg : Tg} {it : NL.It} {b' : Sts} {i : Nat} {S : Store} {ven : VEnv} {en : NL.Env} {u : U} {p : List U × Bool} {f : VF} (hb : ExOk A0 b (exVB fr CV b') (exB C b')) (hlk : it.lk = some i)
    (hI : ∀ (B : Nat → Prop) (S : Store) (d : D), en[i]? = some (some d) → Rd B S d u → (∀ l lk kvs, d = .ref l → S[l]? = some (.dct lk kvs) → lk = true) → ∃ ds ck, evIt C it en S = .ok (ds, ck) S ∧ Rds B S ds p.1 ∧ CkOkV B ck S ∧ (p.2 = false → ck = []))
    (hp : (∃ us, u = .dct us) → p.2 = true) (h : EnvOk A0 A b S ven en) (q1 : getV ven i = .ok u) (q : forV (bindV tg) (fun en' => exVB fr CV b' en') p.1 (if (!p.2 && noLs p.1) = true then ven else unown ven [i]) = .ok f) :
    ∃ fl S', exS C (.for_ tg it b') en S = .ok fl S' ∧ FlowOk A0 A b S f fl S' := by
  obtain ⟨d, e1, _, rd⟩ := getV_at (h.envR [i]) (List.mem_singleton.mpr rfl) q1
  rw [exS_for, hlk]
  cases hk : lkOf (some i) en S with
  | none =>
    rw [lockM_none hk]
    obtain ⟨ds, ck, g1, g2, g3, g4⟩ := hI _ S d e1 rd (fun l lk kvs ed es => by subst ed; exact lkOf_dct hk e1 es)
    rw [lift_ok g1]
    by_cases hc : (!p.2 && noLs p.1) = true
    · rw [if_pos hc] at q
      rw [Bool.and_eq_true] at hc
      rw [g4 (by simpa using hc.1)] at g3 ⊢
      exact for_ok (fun {A S ven en f} => hb) h (g2.of_noL hc.2) ck_nil q
    · rw [if_neg hc] at q
      obtain ⟨fl, S', p1, p2⟩ := for_ok (fun {A S ven en f} => hb) (h.unown [i]) g2 g3 q
      exact ⟨fl, S', p1, .trans Fra.oth p2⟩
  | some pp =>
    obtain ⟨l, kvs⟩ := pp
    obtain ⟨h1, h2⟩ := lkOf_at hk
    rw [e1] at h1
    cases h1
    have hdu : ∃ us, u = .dct us := by
      cases rd with
      | lst n g r => rw [h2] at g; cases g
      | frz n g r => rw [h2] at g; cases g
      | dct n g r => exact ⟨_, rfl⟩
    have hn : ¬ (A0 l ∨ Oth A0 A [i] ven en l) := by
      cases rd with
      | lst n g r => exact n
      | frz n g r => exact n
      | dct n g r => exact n
    rw [if_neg (by rw [hp hdu]; simp)] at q
    rw [lockM_some hk]
    obtain ⟨ds, ck, g1, g2, g3, g4⟩ := hI _ (S.set l (.dct true kvs)) (.ref l) e1 (rd.lk h2) (fun l' lk kvs' ed es => by
      cases ed
      rw [List.getElem?_set_self (lt_of_get h2)] at es
      cases es; rfl)
    rw [lift_ok g1]
    obtain ⟨fl, S', p1, p2⟩ := for_ok (fun {A S ven en f} => hb) ((h.unown [i]).lk h2 fun z => hn (.inr z)) g2 g3 q
    obtain ⟨z1, z2, z3⟩ := p2.unlk (A := A) h2 (fun k z => z.1) fun z => hn (.inr z)
    refine ⟨fl, S'.set l (.dct false kvs), ?_, z3⟩
    dsimp only
    rw [p1]
    dsimp only
    rw [z1]
    dsimp only
    rw [if_pos z2]
theorem raw_ok (hC : CallOk fr C CV) {A0 A : Nat → Prop} {b : Nat} {S : Store} {ven : VEnv} {en : NL.Env} (h : EnvOk A0 A b S ven en) {e : E} {c : Str} (q : rawX CV c e ven = .ok ()) : ∃ S1, evE C e en S = .exc c none S1 ∧ Gw S S1 := by
  unfold rawX at q
  split at q
  · rename_i f es
    obtain ⟨vs, q1, q⟩ := VR.bind_ok q
    obtain ⟨u, q2, q⟩ := VR.bind_ok q
    split at q
    · obtain ⟨ds, S1, g1, w1, r1⟩ := evs_ok hC es (h.bnd (fvEs es)) (h.envR (fvEs es)) q1
      obtain ⟨S2, g2, w2⟩ := hC.2.2 f vs _ q2 _ S1 ds ((h.bnd (fvEs es)).gw w1) r1
      refine ⟨S2, ?_, w1.trans w2⟩
      unfold evE
      rw [bind_eq, g1]
      exact g2
    · cases q
  · cases q
theorem lift_exc {α : Type} {en : NL.Env} {m : M α} {k : α → M NL.Flow} {S S1 : Store} {c : Str} (h : m S = .exc c none S1) : lift en m k S = .ok (.exc c none en) S1 := by
  unfold lift; rw [h]
theorem try1_ok (hC : CallOk fr C CV) {A0 : Nat → Prop} {b : Nat} {e : E} {c : Str} {i : Nat} {hd : Sts} (hh : ExOk A0 b (exVB fr CV hd) (exB C hd)) : ExOk A0 b (exV fr CV (.try_ (.cons (.expr e) .nil) c i hd)) (exS C (.try_ (.cons (.expr e) .nil) c i hd)) := fun {A S ven en f} h q => by
  unfold exV at q
  obtain ⟨_, q1, q2⟩ := VR.bind_ok q
  clear q
  obtain ⟨S1, g1, w1⟩ := raw_ok hC h q1
  by_cases hi : i < ven.length
  · rw [if_pos hi] at q2
    obtain ⟨f1, q3, q4⟩ := VR.bind_ok q2
    obtain ⟨fl1, S2, g2, o1⟩ := hh ((h.gw w1).drop i) q3
    cases f1 <;> first | (cases q4; done) | skip
    cases fl1 <;> first | (exact o1.elim) | skip
    rename_i v2 e2
    cases q4
    obtain ⟨A1, h2, fa⟩ := o1
    refine ⟨.nx (e2.set i none), S2, ?_, A1, h2.drop i, (Fra.gw w1).trans fa⟩
    have x1 : exB C (.cons (.expr e) .nil) en S = .ok (.exc c none en) S1 := by
      unfold exB
      rw [bind_eq]
      unfold exS
      rw [lift_exc g1]; rfl
    unfold exS
    rw [bind_eq, x1]
    show (if c = c ∧ (none : Option Nat) = none ∧ i < en.length then exB C hd (en.set i none) >>= fun f' => (match f' with
      | .nx en2 => pure (.nx (en2.set i none))
      | _ => die) else die : M NL.Flow) S1 = _
    rw [if_pos ⟨rfl, rfl, by rw [← h.len]; exact hi⟩, bind_eq, g2]; rfl
  · rw [if_neg hi] at q2; cases q2
theorem try_ok (hC : CallOk fr C CV) {A0 : Nat → Prop} {b : Nat} {c : Str} {i : Nat} {hd : Sts} (hh : ExOk A0 b (exVB fr CV hd) (exB C hd)) : ∀ bd : Sts, ExOk A0 b (exV fr CV (.try_ bd c i hd)) (exS C (.try_ bd c i hd))
  | .cons (.expr e) .nil => try1_ok hC hh
  | .nil => fun h q => by unfold exV at q; cases q
  | .cons s (.cons _ _) => fun h q => by cases s <;> (unfold exV at q; cases q)
  | .cons (.set _ _) .nil | .cons (.unp _ _) .nil | .cons (.setIx _ _ _) .nil | .cons (.aug _ _) .nil | .cons (.app _ _) .nil | .cons (.ret _) .nil | .cons .ret0 .nil | .cons (.ifs _ _ _) .nil | .cons (.for_ _ _ _) .nil | .cons (.whl _ _) .nil
  | .cons .brk .nil | .cons .cnt .nil | .cons .pass .nil | .cons .dead .nil | .cons (.rse _) .nil | .cons (.try_ _ _ _ _) .nil | .cons (.popx _ _) .nil | .cons (.dpop _ _ _) .nil | .cons (.ext _ _) .nil | .cons (.clr _) .nil => fun h q => by unfold exV at q; cases q
mutual
theorem ex_ok (hC : CallOk fr C CV) {A0 : Nat → Prop} {b : Nat} : ∀ (s : NL.St), ExOk A0 b (exV fr CV s) (exS C s)
  | .set i e, A, S, ven, en, f, h, q => by
    unfold exV at q
    obtain ⟨u, q1, q⟩ := VR.bind_ok q
    cases q
    obtain ⟨d, S1, A1, g1, g2, g3⟩ := set_ev h (evE_at hC h q1) i
    refine ⟨.nx (en.set i (some d)), S1, ?_, A1, g2, g3⟩
    unfold exS
    exact lift_ok g1
  | .unp is e, A, S, ven, en, f, h, q => by
    unfold exV at q
    obtain ⟨u, q1, q⟩ := VR.bind_ok q
    obtain ⟨us, q2, q⟩ := VR.bind_ok q
    cases q
    obtain ⟨d, S1, g1, w1, r1, _⟩ := evE_at hC h q1
    obtain ⟨ds, g2, r2⟩ := unp_ok r1 q2
    obtain ⟨A1, e1, f1, k1⟩ := leaks_ok h us (fvE e)
    refine ⟨.nx (NL.setAll en is ds), S1, ?_, A1, (e1.gw w1).setAll (k1 r2), f1.trans (.gw w1)⟩
    unfold exS
    exact lift_ok (by rw [bind_eq, g1]; exact g2)
  | .setIx o i e, A, S, ven, en, f, h, q => by
    cases o <;> unfold exV at q <;> first | (cases q; done) | skip
    rename_i j
    obtain ⟨v, q1, q⟩ := VR.bind_ok q
    obtain ⟨y, q2, q⟩ := VR.bind_ok q
    obtain ⟨ven2, q3, q⟩ := VR.bind_ok q
    cases q
    obtain ⟨dv, S1, g1, w1, r1, _⟩ := evE_at hC h q1
    obtain ⟨dy, S2, g2, w2, r2, kz⟩ := evE_at hC (h.gw w1) q2
    clear kz
    obtain ⟨A1, e1, f1, k1⟩ := leak_ok h false v (fvE e)
    have e2 := (e1.gw w1).gw w2
    have rv := (k1.sh rfl r1).gw w2
    have fin : ∀ {l : Nat} {S' : Store}, en[j]? = some (some (D.ref l)) → setIxD (.ref l) dy dv S2 = .ok () S' → exS C (.setIx (.var j) i e) en S = .ok (.nx en) S' := fun {l S'} p1 hs => by
      unfold exS
      refine lift_ok (a := ()) ?_
      rw [bind_eq, g1]
      show (evE C (.var j) en >>= fun x => evE C i en >>= fun y => setIxD x y dv) S1 = _
      have ev : evE C (.var j) en = pure (.ref l) := by unfold evE; rw [p1]
      rw [ev]
      show (evE C i en >>= fun y => setIxD (.ref l) y dv) S1 = _
      rw [bind_eq, g2]
      exact hs
    unfold setIxV at q3
    split at q3
    · rename_i k
      obtain ⟨us, q4, q3⟩ := VR.bind_ok q3
      have hk : dy = .int k := by cases r2; rfl
      subst hk
      split at q3
      · rename_i n hn
        cases q3
        have hi := ownV_ok q4
        obtain ⟨l, p1, p3, p4⟩ := e2.own j _ hi
        obtain ⟨xs, p4, p5⟩ := p4.lst_
        refine ⟨.nx en, S2.set l (.lst (xs.set n dv)), fin p1 ?_, A1, e2.mut hi p1 p3 (lt_of_get p4) (p5.set rv n), (f1.trans ((Fra.gw w1).trans (.gw w2))).trans (.mut p3)⟩
        show (getM l >>= fun xs => match ixN xs.length k with | some j => (fun S => R.ok () (S.set l (.lst (xs.set j dv))) : M Unit) | none => die) S2 = _
        have gm : getM l S2 = .ok xs S2 := by unfold getM; rw [p4]
        rw [bind_eq, gm]
        show (match ixN xs.length k with | some j => (fun S => R.ok () (S.set l (.lst (xs.set j dv))) : M Unit) | none => die) S2 = _
        rw [p5.length, hn]
      · cases q3
    · rename_i ys
      unfold dsetV at q3
      obtain ⟨us, q4, q3⟩ := VR.bind_ok q3
      obtain ⟨kk, q5, q3⟩ := VR.bind_ok q3
      have hkk := keyV_ok q5
      split at q3
      · rename_i hlen
        cases q3
        have hi := ownNV_ok q4
        obtain ⟨l, p1, p3, p4⟩ := e2.own j _ hi
        obtain ⟨kvs, p4, p5⟩ := p4.dct_
        obtain ⟨ds, rfl⟩ : ∃ ds, dy = .tup ds := by cases r2; exact ⟨_, rfl⟩
        have rk : Rd (fun k => A0 k ∨ A1 k) S2 (.tup ds) (.tup ys) := r2.of_noL (key_noL hkk)
        refine ⟨.nx en, S2.set l (.dct false (putD kvs kk (.tup ds) dv)), fin p1 ?_, A1, e2.mutN hi p1 p3 (lt_of_get p4) (put_rd rk rv p5), (f1.trans ((Fra.gw w1).trans (.gw w2))).trans (.mut p3)⟩
        show (getN l >>= fun p => if p.1 = false ∧ p.2.length < sizeLine then keyM (.tup ds) >>= fun k => setN l (putD p.2 k (.tup ds) dv) else die) S2 = _
        have gm : getN l S2 = .ok (false, kvs) S2 := by unfold getN; rw [p4]
        rw [bind_eq, gm]
        have hle : kvs.length < sizeLine := by
          have := p5.length
          rw [List.length_map] at this
          omega
        show (if (false : Bool) = false ∧ kvs.length < sizeLine then keyM (.tup ds) >>= fun k => setN l (putD kvs k (.tup ds) dv) else die) S2 = _
        rw [if_pos ⟨rfl, hle⟩, keyM_rd r2 hkk]
        rfl
      · cases q3
    · cases q3
  | .aug i e, A, S, ven, en, f, h, q => by
    unfold exV at q
    obtain ⟨x, q1, q⟩ := VR.bind_ok q
    obtain ⟨y, q2, q⟩ := VR.bind_ok q
    obtain ⟨z, q3, q⟩ := VR.bind_ok q
    cases q
    have hx : ∃ w, ven[i]? = some (some (w, U.int x)) := by
      unfold intV at q1
      split at q1
      · rename_i w _ hx; cases q1; exact ⟨w, hx⟩
      · cases q1
    obtain ⟨w, hx⟩ := hx
    have ex : en[i]? = some (some (D.int x)) := by
      cases w with
      | true => obtain ⟨l, _, _, p2⟩ := h.own i _ hx; cases p2
      | false =>
        obtain ⟨d, p1, p2⟩ := h.get i _ hx
        cases p2
        exact p1
    obtain ⟨d, S1, g1, w1, r1, _⟩ := evE_at hC h q2
    have hz := toI_ok r1 q3
    subst hz
    refine ⟨.nx (en.set i (some (.int (x + z)))), S1, ?_, A, (h.gw w1).set (.int _) i, .gw w1⟩
    unfold exS
    rw [ex]
    exact lift_ok g1
  | .expr e, A, S, ven, en, f, h, q => by
    unfold exV at q
    split at q
    · rename_i f' i us es hm
      obtain ⟨rfl, hi⟩ := mutE_some hm
      obtain ⟨p, q1, q⟩ := VR.bind_ok q
      cases q
      obtain ⟨d, S1, g1, h1, f1, _, _⟩ := mutC_ok hC h hi (x := p.1) (ven' := p.2) q1
      refine ⟨.nx en, S1, ?_, A, h1, f1⟩
      unfold exS
      exact lift_ok g1
    · obtain ⟨u, q1, q⟩ := VR.bind_ok q
      cases q
      obtain ⟨d, S1, g1, w1, r1, _⟩ := evE_at hC h q1
      refine ⟨.nx en, S1, ?_, A, h.gw w1, .gw w1⟩
      unfold exS
      exact lift_ok g1
  | .app i e, A, S, ven, en, f, h, q => by
    unfold exV at q
    split at q
    · rename_i e1 f' k us es hm
      obtain ⟨rfl, hk⟩ := mutA_some hm
      obtain ⟨us0, q0, q⟩ := VR.bind_ok q
      obtain ⟨u, q1, q⟩ := VR.bind_ok q
      split at q
      · rename_i hu
        obtain ⟨p, q2, q⟩ := VR.bind_ok q
        obtain ⟨ws, q3, q⟩ := VR.bind_ok q
        split at q
        · rename_i hlen
          cases q
          obtain ⟨l0, p1, _, p4⟩ := h.own i _ (ownV_ok q0)
          obtain ⟨xs0, p4, _⟩ := p4.lst_
          obtain ⟨d1, S1, g1, w1, r1, _⟩ := evE_at hC h q1
          obtain ⟨d2, S2, g2, h2, f2, n2, r2⟩ := mutC_ok hC (h.gw w1) hk (x := p.1) (ven' := p.2) q2
          obtain ⟨l, z1, z3, z4⟩ := h2.own i _ (ownV_ok q3)
          obtain ⟨xs, z4, z5⟩ := z4.lst_
          rw [p1] at z1
          cases z1
          refine ⟨.nx en, S2.set l0 (.lst (xs ++ [.tup [d1, d2]])), ?_, A, h2.mut (ownV_ok q3) p1 z3 (lt_of_get z4) (z5.append (.cons (.tup (.cons (r1.of_noL hu) (.cons (r2.of_noL n2) .nil))) .nil)), ((Fra.gw w1).trans f2).trans (.mut z3)⟩
          unfold exS
          rw [p1]
          have gm : getM l0 S = .ok xs0 S := by unfold getM; rw [p4]
          have pu : pushD l0 (.tup [d1, d2]) S2 = .ok () (S2.set l0 (.lst (xs ++ [.tup [d1, d2]]))) := by
            unfold pushD
            rw [z4]
            exact if_pos (by rw [z5.length]; exact hlen)
          have ge : evE C (.tup (.cons e1 (.cons (.call f' (.cons (.var k) es)) .nil))) en S = .ok (.tup [d1, d2]) S2 := by
            rw [evE, bind_eq, evEs, bind_eq, g1]
            show ((evEs C (.cons (.call f' (.cons (.var k) es)) .nil) en >>= fun xs => (pure (d1 :: xs) : M (List D))) S1).bind (fun xs => if xs.length ≤ sizeLine then (pure (.tup xs) : M D) else die) = _
            rw [bind_eq, evEs, bind_eq, g2]
            show (((evEs C .nil en >>= fun xs => (pure (d2 :: xs) : M (List D))) S2).bind fun xs => (pure (d1 :: xs) : M (List D))).bind (fun xs => if xs.length ≤ sizeLine then (pure (.tup xs) : M D) else die) = _
            rw [evEs]
            show (if 2 ≤ sizeLine then (pure (.tup [d1, d2]) : M D) else die) S2 = _
            rw [if_pos (by decide)]; rfl
          show lift en (getM l0 >>= fun _ => evE C _ en) _ S = _
          rw [lift_ok (m := getM l0 >>= fun _ => evE C _ en) (by rw [bind_eq, gm]; exact ge)]
          exact lift_ok pu
        · cases q
      · cases q
    · obtain ⟨us0, q0, q⟩ := VR.bind_ok q
      obtain ⟨u, q1, q⟩ := VR.bind_ok q
      obtain ⟨us, q2, q⟩ := VR.bind_ok q
      split at q
      · rename_i hlen
        cases q
        have hi0 := ownV_ok q0
        obtain ⟨l0, p1, _, p4⟩ := h.own i _ hi0
        obtain ⟨xs0, p4, _⟩ := p4.lst_
        obtain ⟨d, S1, g1, w1, r1, _⟩ := evE_at hC h q1
        obtain ⟨A1, e1, f1, k1⟩ := leak_ok h false u (fvE e)
        have e2 := e1.gw w1
        have hi := ownV_ok q2
        obtain ⟨l, z1, z3, z4⟩ := e2.own i _ hi
        obtain ⟨xs, z4, z5⟩ := z4.lst_
        rw [p1] at z1
        cases z1
        refine ⟨.nx en, S1.set l0 (.lst (xs ++ [d])), ?_, A1, e2.mut hi p1 z3 (lt_of_get z4) (z5.append (.cons (k1.sh rfl r1) .nil)), (f1.trans (.gw w1)).trans (.mut z3)⟩
        unfold exS
        rw [p1]
        have gm : getM l0 S = .ok xs0 S := by unfold getM; rw [p4]
        have pu : pushD l0 d S1 = .ok () (S1.set l0 (.lst (xs ++ [d]))) := by
          unfold pushD
          rw [z4]
          exact if_pos (by rw [z5.length]; exact hlen)
        show lift en (getM l0 >>= fun _ => evE C e en) _ S = _
        rw [lift_ok (m := getM l0 >>= fun _ => evE C e en) (by rw [bind_eq, gm]; exact g1)]
        exact lift_ok pu
      · cases q
  | .ret e, A, S, ven, en, f, h, q => by
    unfold exV at q
    obtain ⟨u, q1, q⟩ := VR.bind_ok q
    cases q
    obtain ⟨d, S1, g1, w1, r1, k1⟩ := evE_at hC h q1
    refine ⟨.ret d, S1, ?_, ⟨A, .gw w1⟩, r1.mono (fun l o n g => ⟨fun z => n (.inl z), g⟩), fun hw => ?_⟩
    · unfold exS
      exact lift_ok g1
    · rw [Bool.or_eq_true, Bool.and_eq_true] at hw
      rcases hw with ⟨hf, hl⟩ | ho
      · obtain ⟨l, y1, y2, y3⟩ := k1 hf hl
        refine ⟨l, y1, Nat.le_trans h.bS y2, y3.mono (fun o e => e) fun k o n g => ⟨fun z => n ?_, g⟩⟩
        rcases z with z | z
        · exact .inl (.inl z)
        · exact .inr z
      · cases e <;> first | (exact absurd ho Bool.false_ne_true) | skip
        rename_i i
        have ho' : ∃ v, ven[i]? = some (some (true, v)) := by
          unfold ownR at ho
          dsimp only at ho
          cases hp : ven[i]? with
          | none => rw [hp] at ho; exact absurd ho Bool.false_ne_true
          | some p =>
            cases p with
            | none => rw [hp] at ho; exact absurd ho Bool.false_ne_true
            | some p =>
              rw [hp] at ho
              obtain ⟨w, v⟩ := p
              have ho : w = true := ho
              subst ho
              exact ⟨v, rfl⟩
        obtain ⟨v, hp⟩ := ho'
        · skip
          obtain ⟨l, y1, y3, y4⟩ := h.own i _ hp
          have hv : evV CV (.var i) ven = .ok v := by unfold evV getV; rw [hp]
          rw [hv] at q1
          cases q1
          have hd : evE C (.var i) en S = .ok (.ref l) S := by unfold evE; rw [y1]; rfl
          rw [hd] at g1
          cases g1
          refine ⟨l, rfl, (h.bA l y3).1, y4.mono (fun o e => e) fun k o n g => ⟨fun z => n ?_, g⟩⟩
          rcases z with z | z
          · exact .inl z
          · subst z; exact .inr y3
  | .ret0, A, S, ven, en, f, h, q => by
    unfold exV at q
    cases q
    exact ⟨.ret .non, S, by unfold exS; rfl, ⟨A, .refl⟩, .non, fun z => by cases z⟩
  | .ifs c a b', A, S, ven, en, f, h, q => by
    unfold exV at q
    obtain ⟨x, q1, q⟩ := VR.bind_ok q
    obtain ⟨t, q2, q⟩ := VR.bind_ok q
    obtain ⟨d, S1, g1, w1, r1, _⟩ := evE_at hC h q1
    have lc : lift en (evE C c en >>= truD) (fun t => if t = true then exB C a en else exB C b' en) S = (if t = true then exB C a en else exB C b' en) S1 := lift_ok (by rw [bind_eq, g1]; exact tru_ok r1 q2)
    unfold exS
    rw [lc]
    by_cases ht : t = true
    · rw [if_pos ht] at q ⊢
      obtain ⟨fl, S', p1, p2⟩ := exs_ok hC a (h.gw w1) q
      exact ⟨fl, S', p1, .trans (.gw w1) p2⟩
    · rw [if_neg ht] at q ⊢
      obtain ⟨fl, S', p1, p2⟩ := exs_ok hC b' (h.gw w1) q
      exact ⟨fl, S', p1, .trans (.gw w1) p2⟩
  | .for_ tg (.val e) b', A, S, ven, en, f, h, q => by
    unfold exV at q
    obtain ⟨u, q1, q⟩ := VR.bind_ok q
    obtain ⟨p, q2, q⟩ := VR.bind_ok q
    obtain ⟨d, S1, g1, w1, r1, k1⟩ := evE_at hC h q1
    have hit : ∃ ds ck, iterD d S1 = .ok (ds, ck) S1 ∧ Rds (fun k => A0 k ∨ Oth A0 A (fvE e) ven en k) S1 ds p.1 ∧ CkOkV (fun k => A0 k ∨ Oth A0 A (fvE e) ven en k) ck S1 ∧ (p.2 = false → ck = []) ∧ (∀ q ∈ ck, d = .ref q.1) := by
      unfold iterU at q2
      split at q2
      · cases r1
        rename_i r1
        cases q2
        exact ⟨_, [], rfl, r1, ck_nil, fun _ => rfl, fun q z => by cases z⟩
      · split at q2
        · rename_i hx
          cases q2
          obtain ⟨l, o, rfl, y1, y2, y3⟩ := at_sq r1 hx
          refine ⟨items o, [(l, o)], ?_, y3, fun q hq => (by rw [List.mem_singleton.mp hq]; exact ⟨(sqO_some y1).1, y2⟩), fun z => (by cases z), fun q hq => (by rw [List.mem_singleton.mp hq])⟩
          show (match sqO S1 l with | some o => R.ok (items o, [(l, o)]) S1 | none => .stuck) = _
          rw [y1]
        · cases q2
    obtain ⟨ds, ck, i1, i2, i3, i4, i5⟩ := hit
    have li : ∀ k : List D × List (Nat × Ob) → M NL.Flow, lift en (evIt C (.val e) en) k S = k (ds, ck) S1 := fun k => lift_ok (by unfold evIt; rw [bind_eq, g1]; exact i1)
    rw [exS_for, lockM_none rfl, li]
    by_cases hk : ((!p.2 || (freshE fr e && isL u)) && noLs p.1) = true
    · rw [if_pos hk] at q
      rw [Bool.and_eq_true, Bool.or_eq_true] at hk
      have hck : CkOkV (fun k => A0 k ∨ A k) ck S1 := by
        rcases hk.1 with hp | hf
        · rw [i4 (by simpa using hp)]; exact ck_nil
        · rw [Bool.and_eq_true] at hf
          intro c hc
          obtain ⟨l, y1, y2, y3⟩ := k1 hf.1 hf.2
          have := i5 c hc
          rw [y1] at this
          cases this
          refine ⟨(i3 c hc).1, ?_⟩
          rintro (z | z)
          · have := h.b0S _ z; omega
          · have := (h.bA _ z).2; omega
      obtain ⟨fl, S', p1, p2⟩ := for_ok (fun {A S ven en f} => exs_ok hC b') (h.gw w1) (i2.of_noL hk.2) hck q
      exact ⟨fl, S', p1, .trans (.gw w1) p2⟩
    · rw [if_neg hk] at q
      obtain ⟨fl, S', p1, p2⟩ := for_ok (fun {A S ven en f} => exs_ok hC b') ((h.unown (fvE e)).gw w1) i2 i3 q
      exact ⟨fl, S', p1, .trans (Fra.oth.trans (.gw w1)) p2⟩
  | .for_ tg (.rng1 c) b', A, S, ven, en, f, h, q => by
    unfold exV at q
    obtain ⟨p, q1, q⟩ := VR.bind_ok q
    unfold evVt at q1
    obtain ⟨y, q2, q1⟩ := VR.bind_ok q1
    obtain ⟨xs, q3, q1⟩ := VR.bind_ok q1
    cases q1
    obtain ⟨d, S1, g1, w1, r1, k1⟩ := evE_at hC h q2
    obtain ⟨ds, i1, i2⟩ := rng_ok (.int 0) r1 q3
    have li : ∀ k : List D × List (Nat × Ob) → M NL.Flow, lift en (evIt C (.rng1 c) en) k S = k (ds, []) S1 := fun k => lift_ok (by
      unfold evIt
      rw [bind_eq, g1]
      show (rngD (.int 0) d >>= fun xs => (pure (xs, []) : M (List D × List (Nat × Ob)))) S1 = _
      rw [bind_eq, i1]; rfl)
    rw [exS_for, lockM_none rfl, li]
    obtain ⟨fl, S', p1, p2⟩ := for_ok (fun {A S ven en f} => exs_ok hC b') (h.gw w1) (ck := []) (i2 _ _) ck_nil q
    exact ⟨fl, S', p1, .trans (.gw w1) p2⟩
  | .for_ tg (.rng2 c c') b', A, S, ven, en, f, h, q => by
    unfold exV at q
    obtain ⟨p, q1, q⟩ := VR.bind_ok q
    unfold evVt at q1
    obtain ⟨x, q0, q1⟩ := VR.bind_ok q1
    obtain ⟨y, q2, q1⟩ := VR.bind_ok q1
    obtain ⟨xs, q3, q1⟩ := VR.bind_ok q1
    cases q1
    obtain ⟨d0, S0, g0, w0, r0, _⟩ := evE_at hC h q0
    obtain ⟨d, S1, g1, w1, r1, _⟩ := evE_at hC (h.gw w0) q2
    obtain ⟨ds, i1, i2⟩ : ∃ ds, rngD d0 d S1 = .ok ds S1 ∧ ∀ B' S', Rds B' S' ds xs := by
      unfold rngU at q3
      split at q3
      · cases r0; cases r1
        exact rng_ok (B := fun _ => False) (.int _) (.int _) (show rngU _ _ = _ from q3)
      · cases q3
    have li : ∀ k : List D × List (Nat × Ob) → M NL.Flow, lift en (evIt C (.rng2 c c') en) k S = k (ds, []) S1 := fun k => lift_ok (by
      unfold evIt
      rw [bind_eq, g0]
      show (evE C c' en >>= fun y => rngD d0 y >>= fun xs => (pure (xs, []) : M (List D × List (Nat × Ob)))) S0 = _
      rw [bind_eq, g1]
      show (rngD d0 d >>= fun xs => (pure (xs, []) : M (List D × List (Nat × Ob)))) S1 = _
      rw [bind_eq, i1]; rfl)
    rw [exS_for, lockM_none rfl, li]
    obtain ⟨fl, S', p1, p2⟩ := for_ok (fun {A S ven en f} => exs_ok hC b') ((h.gw w0).gw w1) (ck := []) (i2 _ _) ck_nil q
    exact ⟨fl, S', p1, .trans ((Fra.gw w0).trans (.gw w1)) p2⟩
  | .whl c b', A, S, ven, en, f, h, q => by
    unfold exV at q
    unfold exS
    refine whl_ok (fun {A S ven en t} h q => ?_) (fun {A S ven en f} => exs_ok hC b') h q
    obtain ⟨x, q1, q⟩ := VR.bind_ok q
    obtain ⟨d, S1, g1, w1, r1, _⟩ := evE_at hC h q1
    exact ⟨S1, by rw [bind_eq, g1]; exact tru_ok r1 q, w1⟩
  | .brk, A, S, ven, en, f, h, q => by
    unfold exV at q; cases q
    exact ⟨.brk en, S, by unfold exS; rfl, A, h, .refl⟩
  | .cnt, A, S, ven, en, f, h, q => by
    unfold exV at q; cases q
    exact ⟨.cnt en, S, by unfold exS; rfl, A, h, .refl⟩
  | .pass, A, S, ven, en, f, h, q => by
    unfold exV at q; cases q
    exact ⟨.nx en, S, by unfold exS; rfl, A, h, .refl⟩
  | .dead, A, S, ven, en, f, h, q => by unfold exV at q; cases q
  | .rse _, A, S, ven, en, f, h, q => by unfold exV at q; cases q
  | .try_ bd c i hd, A, S, ven, en, f, h, q => try_ok hC (exs_ok hC hd) bd h q
  | .for_ tg (.enm e) b', A, S, ven, en, f, h, q => by
    unfold exV at q
    obtain ⟨u, q1, q⟩ := VR.bind_ok q
    obtain ⟨us, q2, q⟩ := VR.bind_ok q
    obtain ⟨d, S1, g1, w1, r1, k1⟩ := evE_at hC h q1
    obtain ⟨ds, ck, i1, i2, i3⟩ := enm_rd r1 q2
    have li : ∀ k : List D × List (Nat × Ob) → M NL.Flow, lift en (evIt C (.enm e) en) k S = k (ds, ck) S1 := fun k => lift_ok (by unfold evIt; rw [bind_eq, g1]; exact i1)
    rw [exS_for, lockM_none rfl, li]
    obtain ⟨fl, S', p1, p2⟩ := for_ok (fun {A S ven en f} => exs_ok hC b') ((h.unown (fvE e)).gw w1) i2 i3 q
    exact ⟨fl, S', p1, .trans (Fra.oth.trans (.gw w1)) p2⟩
  | .for_ tg (.zip e e') b', A, S, ven, en, f, h, q => by
    unfold exV at q
    obtain ⟨u, q1, q⟩ := VR.bind_ok q
    obtain ⟨v, q2, q⟩ := VR.bind_ok q
    obtain ⟨us, q3, q⟩ := VR.bind_ok q
    have er := h.envR (fvE e ++ fvE e')
    have bd := h.bnd (fvE e ++ fvE e')
    obtain ⟨d0, S0, g0, w0, r0, _⟩ := ev_ok hC e bd er.l q1
    obtain ⟨d, S1, g1, w1, r1, _⟩ := ev_ok hC e' (bd.gw w0) (er.r.gw w0) q2
    obtain ⟨ds, ck, i1, i2, i3⟩ := zip_rd (r0.gw w1) r1 q3
    have li : ∀ k : List D × List (Nat × Ob) → M NL.Flow, lift en (evIt C (.zip e e') en) k S = k (ds, ck) S1 := fun k => lift_ok (by
      unfold evIt
      rw [bind_eq, g0]
      show (evE C e' en >>= fun y => zipM d0 y) S0 = _
      rw [bind_eq, g1]
      exact i1)
    rw [exS_for, lockM_none rfl, li]
    obtain ⟨fl, S', p1, p2⟩ := for_ok (fun {A S ven en f} => exs_ok hC b') ((h.unown (fvE e ++ fvE e')).gw (w0.trans w1)) i2 i3 q
    exact ⟨fl, S', p1, .trans (Fra.oth.trans (.gw (w0.trans w1))) p2⟩
  | .popx t i, A, S, ven, en, f, h, q => by
    unfold exV at q
    obtain ⟨us, q0, q⟩ := VR.bind_ok q
    have hi := ownV_ok q0
    obtain ⟨l, p1, p3, p4⟩ := h.own i _ hi
    obtain ⟨xs, p4, p5⟩ := p4.lst_
    cases e1 : us[us.length - 1]? with
    | none => rw [e1] at q; cases q
    | some u =>
      rw [e1] at q
      obtain ⟨d, e2, r2⟩ := p5.get e1
      have e3 : xs[xs.length - 1]? = some d := by rw [p5.length]; exact e2
      have rt : Rds (fun k => A0 k ∨ A k) S xs.dropLast us.dropLast := by
        have := p5.take (xs.length - 1)
        rw [← List.dropLast_eq_take, p5.length, ← List.dropLast_eq_take] at this
        exact this
      have pop : popM l S = .ok d (S.set l (.lst xs.dropLast)) := by
        unfold popM
        rw [bind_eq, show getM l S = .ok xs S by unfold getM; rw [p4]]
        show (match xs[xs.length - 1]? with | some d => (fun S => R.ok d (S.set l (.lst xs.dropLast)) : M D) | none => die) S = _
        rw [e3]
      have hm := h.mut hi p1 p3 (lt_of_get p4) rt
      have r3 : Rd (fun k => A0 k ∨ A k) (S.set l (.lst xs.dropLast)) d u := r2.mono fun l' o n g => ⟨n, by
        rw [List.getElem?_set_ne (fun e => n (.inr (by rw [← e]; exact p3)))]; exact g⟩
      unfold exS
      rw [p1]
      show ∃ fl S', lift en (popM l) _ S = .ok fl S' ∧ _
      rw [lift_ok pop]
      cases t with
      | none =>
        cases q
        exact ⟨.nx en, _, rfl, A, hm, .mut p3⟩
      | some t =>
        obtain ⟨ven2, q1, q⟩ := VR.bind_ok q
        cases q
        obtain ⟨en2, q2, h2⟩ := bindE_ok hm r3 q1
        exact ⟨.nx en2, _, lift_ok q2, A, h2, .mut p3⟩
  | .dpop t i k, A, S, ven, en, f, h, q => by
    unfold exV at q
    obtain ⟨us0, q0, q⟩ := VR.bind_ok q
    obtain ⟨y, q1, q⟩ := VR.bind_ok q
    obtain ⟨kk, q2, q⟩ := VR.bind_ok q
    obtain ⟨us, q3, q⟩ := VR.bind_ok q
    obtain ⟨u, q4, q⟩ := VR.bind_ok q
    have hi0 := ownNV_ok q0
    obtain ⟨l0, p1, _, p4⟩ := h.own i _ hi0
    obtain ⟨kvs0, p4, _⟩ := p4.dct_
    obtain ⟨d, S1, g1, w1, r1, _⟩ := evE_at hC h q1
    have e2 := h.gw w1
    have hi := ownNV_ok q3
    obtain ⟨l, z1, z3, z4⟩ := e2.own i _ hi
    obtain ⟨kvs, z4, z5⟩ := z4.dct_
    rw [p1] at z1
    cases z1
    have hkk := keyV_ok q2
    have hm := e2.mutN hi p1 z3 (lt_of_get z4) (drop_rd kk z5)
    rcases find_rd kk z5 with ⟨x1, x2⟩ | ⟨dv, uv, x1, x2, x3⟩
    · rw [x2] at q4; cases q4
    · rw [x2] at q4
      cases q4
      have r3 : Rd (fun k => A0 k ∨ A k) (S1.set l0 (.dct false (dropD kvs kk))) dv u := x3.mono (mut_mv z3)
      have hd : dpopM l0 d S1 = .ok dv (S1.set l0 (.dct false (dropD kvs kk))) := by
        show (getN l0 >>= fun p => if p.1 = false then keyM d >>= fun k => optM (findK p.2 k) >>= fun v => setN l0 (dropD p.2 k) >>= fun _ => (pure v : M D) else die) S1 = _
        have gm : getN l0 S1 = .ok (false, kvs) S1 := by unfold getN; rw [z4]
        rw [bind_eq, gm]
        show (if (false : Bool) = false then keyM d >>= fun k => optM (findK kvs k) >>= fun v => setN l0 (dropD kvs k) >>= fun _ => (pure v : M D) else die) S1 = _
        rw [if_pos rfl, keyM_rd r1 hkk]
        show (optM (findK kvs kk) >>= fun v => setN l0 (dropD kvs kk) >>= fun _ => (pure v : M D)) S1 = _
        rw [x1]
        rfl
      have lf : ∀ kf : D → M NL.Flow, lift en (getN l0 >>= fun _ => evE C k en >>= fun x => dpopM l0 x) kf S = kf dv (S1.set l0 (.dct false (dropD kvs kk))) := fun kf => lift_ok (by
        have gm : getN l0 S = .ok (false, kvs0) S := by unfold getN; rw [p4]
        rw [bind_eq, gm]
        show (evE C k en >>= fun x => dpopM l0 x) S = _
        rw [bind_eq, g1]
        exact hd)
      unfold exS
      rw [p1]
      show ∃ fl S', lift en (getN l0 >>= fun _ => evE C k en >>= fun x => dpopM l0 x) _ S = .ok fl S' ∧ _
      rw [lf]
      cases t with
      | none =>
        cases q
        exact ⟨.nx en, _, rfl, A, hm, (Fra.gw w1).trans (.mut z3)⟩
      | some t =>
        obtain ⟨ven2, q5, q⟩ := VR.bind_ok q
        cases q
        obtain ⟨en2, q6, h2⟩ := bindE_ok hm r3 q5
        exact ⟨.nx en2, _, lift_ok q6, A, h2, (Fra.gw w1).trans (.mut z3)⟩
  | .for_ tg (.nam i) b', A, S, ven, en, f, h, q => by
    unfold exV at q
    obtain ⟨u, q1, q⟩ := VR.bind_ok q
    obtain ⟨p, q2, q⟩ := VR.bind_ok q
    refine nam_ok (it := .nam i) (fun {A S ven en f} => exs_ok hC b') rfl (fun B S d e1 rd hd => ?_) (fun ⟨us, hu⟩ => by subst hu; cases q2; rfl) h q1 q
    obtain ⟨ds, ck, x1, x2, x3, x4⟩ := itn_ok rd hd q2
    refine ⟨ds, ck, ?_, x2, x3, fun hp => ?_⟩
    · unfold evIt
      rw [bind_eq, show varM en i S = .ok d S by unfold varM; rw [e1]; rfl]
      exact x1
    · cases rd with
      | tup r => cases q2; cases x1; rfl
      | lst _ _ _ => cases q2; cases hp
      | frz _ _ _ => cases q2; cases hp
      | dct _ _ _ => cases q2; cases hp
      | _ => cases q2
  | .for_ tg (.itm i) b', A, S, ven, en, f, h, q => by
    unfold exV at q
    obtain ⟨u, q1, q⟩ := VR.bind_ok q
    obtain ⟨p, q2, q⟩ := VR.bind_ok q
    have hu : ∃ us, u = .dct us := by
      unfold itmU at q2
      split at q2
      · exact ⟨_, rfl⟩
      · cases q2
    obtain ⟨us, rfl⟩ := hu
    cases q2
    refine nam_ok (it := .itm i) (p := (us, true)) (fun {A S ven en f} => exs_ok hC b') rfl (fun B S d e1 rd hd => ?_) (fun _ => rfl) h q1 q
    obtain ⟨ds, ck, x1, x2, x3, x4⟩ := itm_ok (p := (us, true)) rd hd rfl
    refine ⟨ds, ck, ?_, x2, x3, fun hp => by cases hp⟩
    unfold evIt
    rw [bind_eq, show varM en i S = .ok d S by unfold varM; rw [e1]; rfl]
    exact x1
  | .ext i e, A, S, ven, en, f, h, q => by
    unfold exV at q
    obtain ⟨us0, q0, q⟩ := VR.bind_ok q
    obtain ⟨u, q1, q⟩ := VR.bind_ok q
    obtain ⟨vs, q3, q⟩ := VR.bind_ok q
    obtain ⟨us, q2, q⟩ := VR.bind_ok q
    split at q
    · rename_i hlen
      cases q
      have hi0 := ownV_ok q0
      obtain ⟨l0, p1, _, p4⟩ := h.own i _ hi0
      obtain ⟨xs0, p4, _⟩ := p4.lst_
      obtain ⟨d, S1, g1, w1, r1, _⟩ := evE_at hC h q1
      obtain ⟨A1, e1, f1, k1⟩ := leaks_ok h vs (fvE e)
      have e2 := e1.gw w1
      have hi := ownV_ok q2
      obtain ⟨l, z1, z3, z4⟩ := e2.own i _ hi
      obtain ⟨xs, z4, z5⟩ := z4.lst_
      rw [p1] at z1
      cases z1
      have hu : u = .lst vs := by
        unfold lstU at q3
        split at q3
        · cases q3; rfl
        · cases q3
      subst hu
      cases r1 with
      | lst y1 y2 y3 =>
      rename_i k zs _hh
      refine ⟨.nx en, S1.set l0 (.lst (xs ++ zs)), ?_, A1, e2.mut hi p1 z3 (lt_of_get z4) (z5.append (k1 y3)), (f1.trans (.gw w1)).trans (.mut z3)⟩
      unfold exS
      rw [p1]
      have gm : getM l0 S = .ok xs0 S := by unfold getM; rw [p4]
      have gm1 : getM l0 S1 = .ok xs S1 := by unfold getM; rw [z4]
      have gm2 : getM k S1 = .ok zs S1 := by unfold getM; rw [y2]
      have ex : extM l0 (.ref k) S1 = .ok () (S1.set l0 (.lst (xs ++ zs))) := by
        show (getM l0 >>= fun xs => getM k >>= fun ys => if xs.length + ys.length ≤ sizeLine then setM l0 (xs ++ ys) else die) S1 = _
        rw [bind_eq, gm1]
        show (getM k >>= fun ys => if xs.length + ys.length ≤ sizeLine then setM l0 (xs ++ ys) else die) S1 = _
        rw [bind_eq, gm2]
        show (if xs.length + zs.length ≤ sizeLine then setM l0 (xs ++ zs) else die) S1 = _
        rw [if_pos (by rw [z5.length, y3.length]; exact hlen)]
        rfl
      show lift en (getM l0 >>= fun _ => evE C e en) _ S = _
      rw [lift_ok (m := getM l0 >>= fun _ => evE C e en) (by rw [bind_eq, gm]; exact g1)]
      exact lift_ok ex
    · cases q
  | .clr i, A, S, ven, en, f, h, q => by
    unfold exV at q
    obtain ⟨us, q0, q⟩ := VR.bind_ok q
    cases q
    have hi := ownV_ok q0
    obtain ⟨l, p1, p3, p4⟩ := h.own i _ hi
    obtain ⟨xs, p4, p5⟩ := p4.lst_
    refine ⟨.nx en, S.set l (.lst []), ?_, A, h.mut hi p1 p3 (lt_of_get p4) .nil, .mut p3⟩
    unfold exS
    rw [p1]
    show lift en (getM l) _ S = _
    rw [lift_ok (show getM l S = .ok xs S by unfold getM; rw [p4])]
    exact lift_ok rfl
theorem exs_ok (hC : CallOk fr C CV) {A0 : Nat → Prop} {b : Nat} : ∀ (s : Sts), ExOk A0 b (exVB fr CV s) (exB C s)
  | .nil, A, S, ven, en, f, h, q => by
    unfold exVB at q; cases q
    exact ⟨.nx en, S, by unfold exB; rfl, A, h, .refl⟩
  | .cons s r, A, S, ven, en, f, h, q => by
    unfold exVB at q
    obtain ⟨f1, q1, q⟩ := VR.bind_ok q
    obtain ⟨fl1, S1, g1, o1⟩ := ex_ok hC s h q1
    unfold exB
    rw [bind_eq, g1]
    cases f1 <;> cases fl1 <;> first | (exact o1.elim) | skip
    · obtain ⟨A1, h2, fa⟩ := o1
      obtain ⟨fl, S', p1, p2⟩ := exs_ok hC r h2 q
      exact ⟨fl, S', p1, .trans fa p2⟩
    · cases q; exact ⟨_, S1, rfl, o1⟩
    · cases q; exact ⟨_, S1, rfl, o1⟩
    · cases q; exact ⟨_, S1, rfl, o1⟩
end
theorem xcs_ok (hC : CallOk fr C CV) {A0 : Nat → Prop} {b : Nat} {c : Str} {s : Sts} {ven : VEnv} (q : XcB fr CV c s ven) : ∀ {A : Nat → Prop} {S : Store} {en : NL.Env}, EnvOk A0 A b S ven en → ∃ e' S' A', exB C s en S = .ok (.exc c none e') S' ∧ Fra A S A' S' := by
  have bad : ∀ {x : NL.St} {r : Sts} {en e' : NL.Env} {S S' : Store}, exS C x en S = .ok (.exc c none e') S' → exB C (.cons x r) en S = .ok (.exc c none e') S' := fun e => by unfold exB; rw [bind_eq, e]; rfl
  have tst : ∀ {e : E} {t : Bool} {a b' : Sts} {A : Nat → Prop} {S : Store} {ven : VEnv} {en : NL.Env}, EnvOk A0 A b S ven en → evV CV e ven = .ok (.bl t) → ∃ S1, Gw S S1 ∧ exS C (.ifs e a b') en S = (if t = true then exB C a en else exB C b' en) S1 := fun {e t a b' A S ven en} h q => by
    obtain ⟨d, S1, g1, w1, r1, _⟩ := evE_at hC h q
    have ht : d = .bl t := by cases r1; rfl
    subst ht
    exact ⟨S1, w1, by unfold exS; exact lift_ok (by rw [bind_eq, g1]; rfl)⟩
  induction q with
  | rse => intro A S en h; exact ⟨en, S, A, bad (by unfold exS; rfl), .refl⟩
  | ifT q1 _ ih =>
    intro A S en h
    obtain ⟨S1, w1, g1⟩ := tst h q1
    obtain ⟨e', S', A', z1, z2⟩ := ih (h.gw w1)
    exact ⟨e', S', A', bad (by rw [g1, if_pos rfl]; exact z1), (Fra.gw w1).trans z2⟩
  | ifF q1 _ ih =>
    intro A S en h
    obtain ⟨S1, w1, g1⟩ := tst h q1
    obtain ⟨e', S', A', z1, z2⟩ := ih (h.gw w1)
    exact ⟨e', S', A', bad (by rw [g1, if_neg (by decide)]; exact z1), (Fra.gw w1).trans z2⟩
  | exp q1 =>
    intro A S en h
    obtain ⟨S1, g1, w1⟩ := raw_ok hC h q1
    exact ⟨en, S1, A, bad (by unfold exS; exact lift_exc g1), .gw w1⟩
  | set q1 =>
    intro A S en h
    obtain ⟨S1, g1, w1⟩ := raw_ok hC h q1
    exact ⟨en, S1, A, bad (by unfold exS; exact lift_exc g1), .gw w1⟩
  | step q1 _ ih =>
    intro A S en h
    obtain ⟨fl, S1, g1, o1⟩ := ex_ok hC _ h q1
    cases fl <;> first | (exact o1.elim) | skip
    obtain ⟨A1, h1, fa⟩ := o1
    obtain ⟨e', S', A', z1, z2⟩ := ih h1
    exact ⟨e', S', A', by unfold exB; rw [bind_eq, g1]; exact z1, fa.trans z2⟩
theorem env_start {fn : Fn} {us : List U} (hlen : us.length = fn.np) {B : Nat → Prop} {S : Store} {ds : List D} (hB : Bnd B S) (r : Rds B S ds us) : EnvOk B (fun _ => False) S.length S (us.map (fun u => some (false, u)) ++ List.replicate (fn.nv - fn.np) none) (ds.map some ++ List.replicate (fn.nv - fn.np) none) := by
  have at_ : ∀ {i : Nat} {w : Bool} {v : U}, (us.map (fun u => some (false, u)) ++ List.replicate (fn.nv - fn.np) none)[i]? = some (some (w, v)) → w = false ∧ us[i]? = some v := fun {i w v} e => by
    by_cases hi : i < us.length
    · rw [List.getElem?_append_left (by simpa using hi), List.getElem?_map] at e
      cases hu : us[i]? with
      | none => rw [hu] at e; cases e
      | some x => rw [hu] at e; cases e; exact ⟨rfl, rfl⟩
    · rw [List.getElem?_append_right (by simpa using Nat.le_of_not_lt hi), List.getElem?_replicate] at e
      split at e <;> cases e
  refine ⟨by simp [r.length], fun i v e => ?_, fun i v e => ?_, fun i j v v' l e _ _ _ => ?_, fun l z => z.elim, hB, Nat.le_refl _⟩
  · obtain ⟨z, _⟩ := at_ e; cases z
  · obtain ⟨_, e'⟩ := at_ e
    obtain ⟨d, h1, h2⟩ := r.get e'
    refine ⟨d, ?_, h2.mono fun l o n g => ⟨fun z => z.elim n id, g⟩⟩
    rw [List.getElem?_append_left (by simpa using (List.getElem?_eq_some_iff.mp h1).1), List.getElem?_map, h1]; rfl
  · obtain ⟨z, _⟩ := at_ e; cases z
theorem run_x (hC : CallOk fr C CV) {fn : Fn} {us : List U} {c : Str} (q : runX fr CV fn c us = .ok (.bl true)) {B : Nat → Prop} {S : Store} {ds : List D} (hB : Bnd B S) (r : Rds B S ds us) : ∃ S1, runF C fn ds S = .exc c none S1 ∧ Gw S S1 := by
  unfold runX at q
  split at q
  · rename_i hc
    obtain ⟨hlen, q1⟩ := hc
    obtain ⟨e', S', A', z1, z2⟩ := xcs_ok hC q1 (env_start hlen hB r)
    have hd : ds.length = fn.np := by rw [r.length]; exact hlen
    refine ⟨S', ?_, Gw_of (fun k hk => by rw [z2.get k _ (fun z => z) (List.getElem?_eq_getElem hk), List.getElem?_eq_getElem hk]) z2.len⟩
    unfold runF
    rw [if_pos hd, z1]
  · cases q
theorem run_ok (hC : CallOk fr C CV) {w : Bool} {fn : Fn} {us : List U} {u : U} (q : runV fr CV w fn us = .ok u) {B : Nat → Prop} {S : Store} {ds : List D} (hB : Bnd B S) (r : Rds B S ds us) : OkB w B S (runF C fn ds S) u := by
  unfold runV at q
  split at q
  · rename_i hlen
    have h : EnvOk B (fun _ => False) S.length S (us.map (fun u => some (false, u)) ++ List.replicate (fn.nv - fn.np) none) (ds.map some ++ List.replicate (fn.nv - fn.np) none) := by
      have at_ : ∀ {i : Nat} {w : Bool} {v : U}, (us.map (fun u => some (false, u)) ++ List.replicate (fn.nv - fn.np) none)[i]? = some (some (w, v)) → w = false ∧ us[i]? = some v := fun {i w v} e => by
        by_cases hi : i < us.length
        · rw [List.getElem?_append_left (by simpa using hi), List.getElem?_map] at e
          cases hu : us[i]? with
          | none => rw [hu] at e; cases e
          | some x => rw [hu] at e; cases e; exact ⟨rfl, rfl⟩
        · rw [List.getElem?_append_right (by simpa using Nat.le_of_not_lt hi), List.getElem?_replicate] at e
          split at e <;> cases e
      refine ⟨by simp [r.length], fun i v e => ?_, fun i v e => ?_, fun i j v v' l e _ _ _ => ?_, fun l z => z.elim, hB, Nat.le_refl _⟩
      · obtain ⟨z, _⟩ := at_ e; cases z
      · obtain ⟨_, e'⟩ := at_ e
        obtain ⟨d, h1, h2⟩ := r.get e'
        refine ⟨d, ?_, h2.mono fun l o n g => ⟨fun z => z.elim n id, g⟩⟩
        rw [List.getElem?_append_left (by simpa using (List.getElem?_eq_some_iff.mp h1).1), List.getElem?_map, h1]; rfl
      · obtain ⟨z, _⟩ := at_ e; cases z
    have toGw : ∀ {A' : Nat → Prop} {S' : Store}, Fra (fun _ => False) S A' S' → Gw S S' := fun f => Gw_of (fun k hk => by
      rw [f.get k _ (fun z => z) (List.getElem?_eq_getElem hk), List.getElem?_eq_getElem hk]) f.len
    have hd : ds.length = fn.np := by rw [r.length]; exact hlen
    have un : ∀ {g : NL.Flow} {S' : Store}, exB C fn.body (ds.map some ++ List.replicate (fn.nv - fn.np) none) S = .ok g S' → runF C fn ds S = (match (R.ok g S' : R NL.Flow) with
        | .ok (.nx _) S => .ok .non S
        | .ok (.ret d) S => .ok d S
        | .ok (.exc c d _) S => .exc c d S
        | _ => .stuck) := fun e => by
      unfold runF
      rw [if_pos hd, e] <;> rfl
    split at q
    · rename_i v hv
      cases q
      obtain ⟨fl, S', g1, o1⟩ := exs_ok hC fn.body h hv
      cases fl <;> first | (exact o1.elim) | skip
      obtain ⟨A', h1, f1⟩ := o1
      rw [un g1]
      exact ⟨.non, S', rfl, toGw f1, .non, fun _ z => by cases z⟩
    · rename_i o v hv
      split at q
      · cases q
      · rename_i hw
        cases q
        obtain ⟨fl, S', g1, o1⟩ := exs_ok hC fn.body h hv
        cases fl <;> first | (exact o1.elim) | skip
        obtain ⟨⟨A', f1⟩, h1, h2⟩ := o1
        rw [un g1]
        refine ⟨_, S', rfl, toGw f1, h1, fun hw2 hu => h2 ?_⟩
        subst hw2
        cases o with
        | true => rfl
        | false => exact absurd (by rw [hu]; rfl) hw
    · cases q
    · cases q
  · cases q
/-- the first name stands -/
theorem str_s {C : Nat → List D → M D} {s : NL.St} (hs : strS s = true) {en en' : NL.Env} {S S' : Store} (h : exS C s en S = .ok (.nx en') S') : en'[0]? = en[0]? := by
  have li : ∀ {α : Type} {m : M α} {k : α → M NL.Flow}, lift en m k S = .ok (.nx en') S' → ∃ a S1, k a S1 = .ok (.nx en') S' := fun {α m k} z => by
    unfold lift at z
    split at z
    · exact ⟨_, _, z⟩
    · cases z
    · cases z
  have sa : ∀ (is : List Nat) (ds : List D) (en : NL.Env), 0 ∉ is → (NL.setAll en is ds)[0]? = en[0]? := fun is => by
    induction is with
    | nil => intro ds en _; unfold NL.setAll; rfl
    | cons i is ih =>
      intro ds en hn
      have h0 : i ≠ 0 := fun z => hn (by rw [z]; exact List.mem_cons_self)
      cases ds with
      | nil => unfold NL.setAll; rfl
      | cons d ds => unfold NL.setAll; rw [ih ds _ fun z => hn (List.mem_cons_of_mem _ z), List.getElem?_set_ne h0]
  cases s with
  | set i e =>
    have hi : i ≠ 0 := by simpa [strS] using hs
    unfold exS at h
    obtain ⟨a, S1, z⟩ := li h
    cases z
    exact List.getElem?_set_ne hi
  | unp is e =>
    have hi : 0 ∉ is := by simpa [strS] using hs
    unfold exS at h
    obtain ⟨a, S1, z⟩ := li h
    cases z
    exact sa _ _ _ hi
  | setIx o i e =>
    unfold exS at h
    obtain ⟨a, S1, z⟩ := li h
    cases z; rfl
  | dpop t i k =>
    cases t with
    | none =>
      rw [exS] at h
      obtain ⟨l, hv⟩ : ∃ l, en[i]? = some (some (D.ref l)) := by
        cases hv : en[i]? with
        | none => rw [hv] at h; cases h
        | some o =>
          cases o with
          | none => rw [hv] at h; cases h
          | some d =>
            cases d with
            | ref l => exact ⟨l, rfl⟩
            | _ => rw [hv] at h; cases h
      rw [hv] at h
      obtain ⟨a, S1, z⟩ := li h
      cases z; rfl
    | some t =>
    have hi : 0 ∉ t.ixs := by simpa [strS] using hs
    rw [exS] at h
    obtain ⟨l, hv⟩ : ∃ l, en[i]? = some (some (D.ref l)) := by
      cases hv : en[i]? with
      | none => rw [hv] at h; cases h
      | some o =>
        cases o with
        | none => rw [hv] at h; cases h
        | some d =>
          cases d with
          | ref l => exact ⟨l, rfl⟩
          | _ => rw [hv] at h; cases h
    rw [hv] at h
    · obtain ⟨a, S1, z⟩ := li h
      obtain ⟨b, S2, z1, z2⟩ : ∃ b S2, bindT t a en S1 = .ok b S2 ∧ (R.ok (NL.Flow.nx b) S2 : R NL.Flow) = .ok (.nx en') S' := by
        have z : lift en (bindT t a en) (fun en' => pure (.nx en')) S1 = .ok (.nx en') S' := z
        unfold lift at z
        split at z
        · rename_i b S2 hb; exact ⟨b, S2, hb, z⟩
        · cases z
        · cases z
      injection z2 with z2 z3
      injection z2 with z2
      subst z2 z3
      cases t with
      | nm i =>
        cases z1
        exact List.getElem?_set_ne fun z => hi (by rw [z]; exact List.mem_singleton.mpr rfl)
      | tp is =>
        have z1 : (unpD is.length a >>= fun ds => (pure (NL.setAll en is ds) : M NL.Env)) S1 = .ok _ _ := z1
        rw [bind_eq] at z1
        cases hu : unpD is.length a S1 with
        | ok ds S3 =>
          rw [hu] at z1
          cases z1
          exact sa _ _ _ hi
        | exc c d S3 => rw [hu] at z1; cases z1
        | stuck => rw [hu] at z1; cases z1
  | _ => unfold strS at hs; cases hs
theorem str_b {C : Nat → List D → M D} : ∀ {b : Sts} (hs : strB b = true) {en en' : NL.Env} {S S' : Store} (h : exB C b en S = .ok (.nx en') S'), en'[0]? = en[0]?
  | .nil, _, en, en', S, S', h => by unfold exB at h; cases h; rfl
  | .cons s r, hs, en, en', S, S', h => by
    unfold strB at hs
    rw [Bool.and_eq_true] at hs
    unfold exB at h
    rw [bind_eq] at h
    cases e : exS C s en S with
    | ok f S1 =>
      rw [e] at h
      cases f with
      | nx en1 => exact (str_b hs.2 (show exB C r en1 S1 = .ok (.nx en') S' from h)).trans (str_s hs.1 e)
      | _ => cases h
    | exc c d S1 => rw [e] at h; cases h
    | stuck => rw [e] at h; cases h
theorem unret_ex {C : Nat → List D → M D} : ∀ {b b' : Sts} {e : E} (h : unret b = some (b', e)) {en en' : NL.Env} {S S1 S2 : Store} {d : D} (h1 : exB C b' en S = .ok (.nx en') S1) (h2 : evE C e en' S1 = .ok d S2), exB C b en S = .ok (.ret d) S2
  | .nil, _, _, h, _, _, _, _, _, _, _, _ => by cases h
  | .cons s r, b', e, h, en, en', S, S1, S2, d, h1, h2 => by
    unfold unret at h
    split at h
    · rename_i e' hz
      cases hz
      cases h
      unfold exB at h1
      cases h1
      unfold exB
      rw [bind_eq]
      have e2 : exS C (.ret e) en = lift en (evE C e en) fun d => pure (.ret d) := by unfold exS; rfl
      rw [e2, lift_ok h2]; rfl
    · rename_i z
      cases z
      obtain ⟨p, hp, hq⟩ := Option.map_eq_some_iff.mp h
      cases hq
      unfold exB at h1
      rw [bind_eq] at h1
      unfold exB
      rw [bind_eq]
      cases q : exS C s en S with
      | ok f S3 =>
        rw [q] at h1
        cases f with
        | nx en1 => exact unret_ex (b := r) hp (show exB C p.1 en1 S3 = .ok (.nx en') S1 from h1) h2
        | _ => cases h1
      | exc c d S3 => rw [q] at h1; cases h1
      | stuck => rw [q] at h1; cases h1
    · rename_i z; cases z
theorem run_mut (hC : CallOk fr C CV) {fn : Fn} {us vs us' : List U} {r : U} (q : runM fr CV fn us vs = .ok (.tup [.dct us', r])) (n1 : noLs us = true) (n2 : noLs vs = true) {S : Store} {l : Nat} {ds : List D} (ho : OwnU (fun _ => False) S l (.dct us)) (hr : Rds (fun _ => False) S ds vs) :
    ∃ d S', runF C fn (.ref l :: ds) S = .ok d S' ∧ S.length ≤ S'.length ∧ (∀ k o, k ≠ l → S[k]? = some o → S'[k]? = some o) ∧ OwnU (fun _ => False) S' l (.dct us') ∧ noLs us' = true ∧ noL r = true ∧ Rd (fun _ => False) S' d r := by
  unfold runM at q
  split at q
  · rename_i b e hu
    split at q
    · rename_i hc
      rw [Bool.and_eq_true] at hc
      obtain ⟨hlen, hst⟩ := hc
      have hlen := of_decide_eq_true hlen
      split at q
      · rename_i ven hv
        obtain ⟨us2, q1, q⟩ := VR.bind_ok q
        obtain ⟨r2, q2, q⟩ := VR.bind_ok q
        split at q
        · rename_i hn
          rw [Bool.and_eq_true] at hn
          injection q with q
          injection q with q
          injection q with q3 q4
          injection q3 with q3
          injection q4 with q4
          subst q3 q4
          have nl : ∀ {vs : List U}, noLs vs = true → ∀ v ∈ vs, noL v = true := fun {vs} => by
            induction vs with
            | nil => intro _ v hv; cases hv
            | cons x vs ih =>
              intro h v hv
              unfold noLs at h
              rw [Bool.and_eq_true] at h
              rcases List.mem_cons.mp hv with rfl | hv
              · exact h.1
              · exact ih h.2 v hv
          have hd : ds.length = vs.length := hr.length
          have h : EnvOk (fun _ => False) (fun k => k = l) 0 S (some (true, U.dct us) :: (vs.map (fun u => some (false, u)) ++ List.replicate (fn.nv - fn.np) none)) ((D.ref l :: ds).map some ++ List.replicate (fn.nv - fn.np) none) := by
            have at_ : ∀ {i : Nat} {w : Bool} {v : U}, (some (true, U.dct us) :: (vs.map (fun u => some (false, u)) ++ List.replicate (fn.nv - fn.np) none))[i]? = some (some (w, v)) → (i = 0 ∧ w = true ∧ v = .dct us) ∨ (∃ j, i = j + 1 ∧ w = false ∧ vs[j]? = some v) := fun {i w v} e => by
              cases i with
              | zero => cases e; exact .inl ⟨rfl, rfl, rfl⟩
              | succ j =>
                refine .inr ⟨j, rfl, ?_⟩
                rw [List.getElem?_cons_succ] at e
                by_cases hi : j < vs.length
                · rw [List.getElem?_append_left (by simpa using hi), List.getElem?_map] at e
                  cases hu : vs[j]? with
                  | none => rw [hu] at e; cases e
                  | some x => rw [hu] at e; cases e; exact ⟨rfl, rfl⟩
                · rw [List.getElem?_append_right (by simpa using Nat.le_of_not_lt hi), List.getElem?_replicate] at e
                  split at e <;> cases e
            refine ⟨by simp [hd], fun i v e => ?_, fun i v e => ?_, fun i j v v' l' e1 e2 _ _ => ?_, fun k z => ⟨Nat.zero_le _, ?_⟩, fun k z => z.elim, Nat.zero_le _⟩
            · rcases at_ e with ⟨rfl, _, rfl⟩ | ⟨j, _, z, _⟩
              · exact ⟨l, rfl, rfl, ho.of_noL n1⟩
              · cases z
            · rcases at_ e with ⟨_, z, _⟩ | ⟨j, rfl, _, hj⟩
              · cases z
              · obtain ⟨d, h1, h2⟩ := hr.get hj
                refine ⟨d, ?_, h2.of_noL (nl n2 v (List.mem_of_getElem? hj))⟩
                show (some (D.ref l) :: (ds.map some ++ _))[j + 1]? = _
                rw [List.getElem?_cons_succ, List.getElem?_append_left (by simpa using (List.getElem?_eq_some_iff.mp h1).1), List.getElem?_map, h1]; rfl
            · rcases at_ e1 with ⟨rfl, _, _⟩ | ⟨j, _, z, _⟩
              · rcases at_ e2 with ⟨rfl, _, _⟩ | ⟨j, _, z, _⟩
                · rfl
                · cases z
              · cases z
            · rw [z]; exact ho.lt
          obtain ⟨fl, S1, g1, o1⟩ := exs_ok hC b h hv
          cases fl <;> first | (exact o1.elim) | skip
          rename_i en1
          obtain ⟨A', h1, f1⟩ := o1
          obtain ⟨l2, z1, z2, z3⟩ := h1.own 0 _ (ownNV_ok q1)
          have z0 := str_b hst g1
          rw [z1] at z0
          have z0 : some (some (D.ref l2)) = some (some (D.ref l)) := z0
          injection z0 with z0
          injection z0 with z0
          injection z0 with z0
          subst z0
          obtain ⟨d, S2, g2, w2, r3, _⟩ := evE_at hC h1 q2
          refine ⟨d, S2, ?_, Nat.le_trans f1.len w2.len, fun k o hk e => w2.get (f1.get k o hk e), (z3.gw w2).of_noL hn.1, hn.1, hn.2, r3.of_noL hn.2⟩
          unfold runF
          rw [if_pos (by rw [List.length_cons, hd]; exact hlen), unret_ex hu g1 g2]
        · cases q
      · cases q
      · cases q
    · cases q
  · cases q
theorem call_ok {T : Nat → Option Fn} : ∀ (n : Nat), CallOk fr (callT T n) (callV T fr n)
  | 0 => ⟨fun f us u h => (by unfold callV at h; cases h), fun f us vs us' r h => (by unfold callV at h; cases h), fun f us c h => (by unfold callV at h; cases h)⟩
  | n + 1 => by
    refine ⟨fun f us u h B S ds hB r => ?_, fun f us vs us' r h n1 n2 S l ds ho hr => ?_, fun f us c h B S ds hB r => ?_⟩
    · unfold callV at h
      unfold callT
      cases hT : T f with
      | none => rw [hT] at h; cases h
      | some fn =>
        rw [hT] at h
        have h : (if 1000 ≤ us.length then (match us.drop 999 with
          | .dct [.non] :: .dct own :: vs => runM fr (callV T fr n) fn own vs
          | .dct [.bl true] :: .str c :: vs => runX fr (callV T fr n) fn c vs
          | _ => .stuck) else runV fr (callV T fr n) (fr f) fn us) = .ok u := h
        by_cases hl : 1000 ≤ us.length
        · exfalso
          rw [if_pos hl] at h
          split at h
          · rename_i own vs e
            have e1 : us[999]? = some mk := by
              have := congrArg (fun l => l[0]?) e
              rw [List.getElem?_drop] at this
              exact this
            obtain ⟨d, _, h2⟩ := r.get e1
            exact mk_no h2
          · rename_i c vs e
            have e1 : us[999]? = some mkx := by
              have := congrArg (fun l => l[0]?) e
              rw [List.getElem?_drop] at this
              exact this
            obtain ⟨d, _, h2⟩ := r.get e1
            exact mkx_no h2
          · cases h
        · rw [if_neg hl] at h
          exact run_ok (call_ok n) h hB r
    · unfold callV at h
      unfold callT
      cases hT : T f with
      | none => rw [hT] at h; cases h
      | some fn =>
        rw [hT] at h
        have h : (if 1000 ≤ (mks ++ .dct us :: vs).length then (match (mks ++ .dct us :: vs).drop 999 with
          | .dct [.non] :: .dct own :: vs => runM fr (callV T fr n) fn own vs
          | .dct [.bl true] :: .str c :: vs => runX fr (callV T fr n) fn c vs
          | _ => .stuck) else runV fr (callV T fr n) (fr f) fn (mks ++ .dct us :: vs)) = .ok (.tup [.dct us', r]) := h
        rw [if_pos (by rw [List.length_append, mks_len]; omega), mks_drop] at h
        exact run_mut (call_ok n) h n1 n2 ho hr
    · unfold callV at h
      unfold callT
      cases hT : T f with
      | none => rw [hT] at h; cases h
      | some fn =>
        rw [hT] at h
        have h : (if 1000 ≤ (xks ++ .str c :: us).length then (match (xks ++ .str c :: us).drop 999 with
          | .dct [.non] :: .dct own :: vs => runM fr (callV T fr n) fn own vs
          | .dct [.bl true] :: .str c :: vs => runX fr (callV T fr n) fn c vs
          | _ => .stuck) else runV fr (callV T fr n) (fr f) fn (xks ++ .str c :: us)) = .ok (.bl true) := h
        rw [if_pos (by rw [List.length_append, xks_len]; omega), xks_drop] at h
        exact run_x (call_ok n) h hB r
end
/-- THE END, over trees -/
theorem law_of {T : Nat → Option Fn} {fr : Nat → Bool} {n i : Nat} {ns : List Int} (h : callV T fr n i [.frz (ns.map U.int)] = .ok (.bl true)) : ∃ S', callT T n i [.ref 0] [.frz (ns.map D.int)] = .ok (.bl true) S' := by
  have ri : ∀ ks : List Int, Rds (fun _ => False) [Ob.frz (ns.map D.int)] (ks.map D.int) (ks.map U.int) := fun ks => by
    induction ks with
    | nil => exact .nil
    | cons k ks ih => exact .cons (.int k) ih
  obtain ⟨d, S', h1, h2, h3, _⟩ := (call_ok n).1 i _ _ h (fun _ => False) [Ob.frz (ns.map D.int)] [.ref 0] (fun l z => z.elim) (.cons (.frz (fun z => z) rfl (ri ns)) .nil)
  cases h3
  exact ⟨S', h1⟩
end VL

/-! Rules by which a text is run on symbols, over trees. -/
namespace VL
open PySem PySem.Spec PyProof.Rows L2 NL
theorem nrf {α : Sort _} {a b : α} (h : a = b) : a = b := h
theorem bind_as {α β γ : Type} (r : VR α) (f : α → VR β) (g : β → VR γ) : (r.bind f).bind g = r.bind fun x => (f x).bind g := by cases r <;> rfl
theorem bind_id {α : Type} (r : VR α) : r.bind VR.ok = r := by cases r <;> rfl
theorem ok_bi {α β : Type} {a : α} {k : α → VR β} : (VR.ok a).bind k = k a := nrf rfl
def setK {β : Type} (en : VEnv) (i : Nat) (w : Bool) (u : U) (k : VEnv → VR β) : VR β := k (en.set i (some (w, u)))
def ownK {β : Type} (en : VEnv) (i : Nat) (k : List U → VR β) : VR β := (ownV en i).bind k
class NoL (u : U) : Prop where
  no : noL u = true
class NoLs (us : List U) : Prop where
  no : noLs us = true
instance nl_non : NoL .non := ⟨by unfold noL; rfl⟩
instance nl_bl {b : Bool} : NoL (.bl b) := ⟨by unfold noL; rfl⟩
instance nl_int {i : Int} : NoL (.int i) := ⟨by unfold noL; rfl⟩
instance nl_str {x : Str} : NoL (.str x) := ⟨by unfold noL; rfl⟩
instance nl_tup {us : List U} [h : NoLs us] : NoL (.tup us) := ⟨by unfold noL; exact h.no⟩
instance nls_nil : NoLs [] := ⟨by unfold noLs; rfl⟩
instance nls_cons {u : U} {us : List U} [h : NoL u] [k : NoLs us] : NoLs (u :: us) := ⟨by unfold noLs; rw [h.no, k.no]; rfl⟩
theorem noLs_all {us : List U} : noLs us = true ↔ ∀ u ∈ us, noL u = true := by
  induction us with
  | nil => exact ⟨fun _ _ h => (by cases h), fun _ => by unfold noLs; rfl⟩
  | cons x us ih =>
    unfold noLs
    rw [Bool.and_eq_true, ih]
    constructor
    · rintro ⟨h1, h2⟩ u hu
      rcases List.mem_cons.mp hu with rfl | hu
      · exact h1
      · exact h2 u hu
    · exact fun h => ⟨h x List.mem_cons_self, fun u hu => h u (List.mem_cons_of_mem _ hu)⟩
instance nls_map {α : Type} {f : α → U} {xs : List α} [h : ∀ x, NoL (f x)] : NoLs (xs.map f) := ⟨noLs_all.mpr fun u hu => by
  obtain ⟨x, _, rfl⟩ := List.mem_map.mp hu
  exact (h x).no⟩
instance nls_app {xs ys : List U} [h : NoLs xs] [k : NoLs ys] : NoLs (xs ++ ys) := ⟨noLs_all.mpr fun u hu => by
  rcases List.mem_append.mp hu with hu | hu
  · exact noLs_all.mp h.no u hu
  · exact noLs_all.mp k.no u hu⟩
section
variable {β : Type} {C : Nat → List U → VR U} {fr : Nat → Bool} {en : VEnv}
section
variable {k : U → VR β}
theorem ite_bi {α : Type} {t : Bool} {m n : VR α} {k : α → VR β} : (if t = true then m else n).bind k = if t = true then m.bind k else n.bind k := by cases t <;> rfl
/-! operations -/
theorem at_0 {α : Type} {a : α} {r : List α} : atI (a :: r) 0 = some a := by unfold atI ixN; simp
theorem at_1 {α : Type} {a b : α} {r : List α} : atI (a :: b :: r) 1 = some b := by
  unfold atI ixN
  rw [if_pos (by decide), if_pos (by simp only [List.length_cons]; omega)]; rfl
end
/-! wiping -/
/-! statements -/
section
variable {k : VF → VR β}
/-! loops -/
end
/-! ### defs -/
def retK (w : Bool) : VF → VR U
  | .nx _ => .ok .non
  | .ret o u => if (w && isL u && !o) = true then .stuck else .ok u
  | _ => .stuck
theorem run_eq {w : Bool} {f : Fn} {us : List U} (h : us.length = f.np) : runV fr C w f us = (exVB fr C f.body (us.map (fun u => some (false, u)) ++ List.replicate (f.nv - f.np) none)).bind (retK w) := by
  unfold runV
  rw [if_pos h]
  cases exVB fr C f.body (us.map (fun u => some (false, u)) ++ List.replicate (f.nv - f.np) none) with
  | ok fl => cases fl <;> rfl
  | exc c u => rfl
  | stuck => rfl
theorem fe_lst {es : Es} : freshE fr (.lst es) = true := by unfold freshE; rfl
theorem fe_comp {own : List Nat} {tg : Tg} {it : NL.It} {c e : E} : freshE fr (.comp own tg it c e) = true := by unfold freshE; rfl
theorem fe_slc {p q : Bool} {a b c : E} : freshE fr (.slc p q a b c) = true := by unfold freshE; rfl
theorem fe_bin {o : Bop} {a b : E} : freshE fr (.bin o a b) = true := by unfold freshE; rfl
theorem fe_list {es : Es} : freshE fr (.blt .list es) = true := by unfold freshE newB; rfl
theorem fe_call {f : Nat} {es : Es} : freshE fr (.call f es) = fr f := by unfold freshE; rfl
end
/-! ### sizes -/
class Sz (n : outParam Nat) (i : Int) : Prop where
  lt : i.natAbs < 2 ^ n
theorem Sz.up {n m : Nat} {i : Int} (h : Sz n i) (l : n ≤ m) : Sz m i := ⟨Nat.lt_of_lt_of_le h.lt (Nat.pow_le_pow_right (by decide) l)⟩
theorem natAbs_add_lt {a b : Int} {n m : Nat} (h1 : a.natAbs < 2 ^ n) (h2 : b.natAbs < 2 ^ m) : (a + b).natAbs < 2 ^ (n + m + 1) := by
  have e : (a + b).natAbs ≤ a.natAbs + b.natAbs := Int.natAbs_add_le a b
  have p : 2 ^ (n + m + 1) = 2 * (2 ^ n * 2 ^ m) := by rw [Nat.pow_succ, Nat.pow_add]; omega
  have q1 : 2 ^ n ≤ 2 ^ n * 2 ^ m := Nat.le_mul_of_pos_right _ (Nat.pow_pos (by decide))
  have q2 : 2 ^ m ≤ 2 ^ n * 2 ^ m := Nat.le_mul_of_pos_left _ (Nat.pow_pos (by decide))
  omega
instance sz_add {n m : Nat} {i j : Int} [a : Sz n i] [b : Sz m j] : Sz (n + m + 1) (i + j) := ⟨natAbs_add_lt a.lt b.lt⟩
instance sz_sub {n m : Nat} {i j : Int} [a : Sz n i] [b : Sz m j] : Sz (n + m + 1) (i - j) := ⟨by rw [Int.sub_eq_add_neg]; exact natAbs_add_lt a.lt (by rw [Int.natAbs_neg]; exact b.lt)⟩
instance sz_neg {n : Nat} {i : Int} [a : Sz n i] : Sz n (-i) := ⟨by rw [Int.natAbs_neg]; exact a.lt⟩
instance sz_mul {n m : Nat} {i j : Int} [a : Sz n i] [b : Sz m j] : Sz (n + m) (i * j) := ⟨by
  rw [Int.natAbs_mul, Nat.pow_add]
  exact Nat.mul_lt_mul_of_lt_of_lt a.lt b.lt⟩
instance sz_0 : Sz 1 0 := ⟨by decide⟩
instance sz_1 : Sz 1 1 := ⟨by decide⟩
instance sz_2 : Sz 2 2 := ⟨by decide⟩
theorem fuel_ge {n m : Nat} (h : m < 2 ^ n) (hn : n ≤ 99999) : m + 1 ≤ fuel := by
  have e : fuel = 2 ^ 100000 := by unfold fuel; rfl
  rw [e]
  have := Nat.pow_le_pow_right (show 0 < 2 by decide) (show n ≤ 99999 from hn)
  have q : 2 ^ 99999 ≤ 2 ^ 100000 := Nat.pow_le_pow_right (by decide) (by decide)
  exact Nat.le_trans (Nat.succ_le_of_lt h) (Nat.le_trans this q)
/-! ### equal, in order -/
theorem ieq (i j : Int) : (i == j) = decide (i = j) := by rw [Bool.eq_iff_iff]; simp
theorem eqv_int {i j : Int} : PyData.eqv (.int i) (.int j) = decide (i = j) := by simp only [PyData.eqv]; exact ieq i j
/-- how a thing of ours is told: as plain data, equal where it is equal -/
class Tl (α : Type) [DecidableEq α] (f : α → U) (d : outParam Nat) (p : outParam (α → PyData)) : Prop where
  pu : ∀ (k : Nat) (x : α), d ≤ k → pdU k (f x) = some (p x)
  pt : ∀ (k : Nat) (x : α), d ≤ k → pdT k (f x) = some (p x)
  eqv : ∀ x y, PyData.eqv (p x) (p y) = decide (x = y)
instance tl_int : Tl Int U.int 0 PyData.int := ⟨fun k x _ => by cases k <;> rfl, fun k x _ => by cases k <;> rfl, fun x y => eqv_int⟩
abbrev pr {α β : Type} (f : α → U) (g : β → U) : α × β → U := fun x => .tup [f x.1, g x.2]
abbrev tr {α β γ : Type} (f : α → U) (g : β → U) (h : γ → U) : α × β × γ → U := fun x => .tup [f x.1, g x.2.1, h x.2.2]
instance tl_pr {α β : Type} [DecidableEq α] [DecidableEq β] {f : α → U} {g : β → U} {d e : Nat} {p : α → PyData} {q : β → PyData} [a : Tl α f d p] [b : Tl β g e q] : Tl (α × β) (pr f g) (max d e + 1) (fun x => .tuple [p x.1, q x.2]) := by
  refine ⟨fun k x h => ?_, fun k x h => ?_, fun x y => ?_⟩
  · obtain ⟨k, rfl⟩ : ∃ j, k = j + 1 := ⟨k - 1, by omega⟩
    show (NL.mapO (pdU k) [f x.1, g x.2]).map _ = _
    unfold NL.mapO NL.mapO NL.mapO
    rw [a.pu k x.1 (by omega), b.pu k x.2 (by omega)]; rfl
  · obtain ⟨k, rfl⟩ : ∃ j, k = j + 1 := ⟨k - 1, by omega⟩
    show (NL.mapO (pdT k) [f x.1, g x.2]).map _ = _
    unfold NL.mapO NL.mapO NL.mapO
    rw [a.pt k x.1 (by omega), b.pt k x.2 (by omega)]; rfl
  · simp only [PyData.eqv, PyData.eqvAll, Bool.and_true, a.eqv, b.eqv]
    rw [← Bool.decide_and]
    exact decide_eq_decide.mpr Prod.ext_iff.symm
instance tl_tr {α β γ : Type} [DecidableEq α] [DecidableEq β] [DecidableEq γ] {f : α → U} {g : β → U} {h : γ → U} {d e c : Nat} {p : α → PyData} {q : β → PyData} {r : γ → PyData} [a : Tl α f d p] [b : Tl β g e q] [t : Tl γ h c r] : Tl (α × β × γ) (tr f g h) (max d (max e c) + 1) (fun x => .tuple [p x.1, q x.2.1, r x.2.2]) := by
  refine ⟨fun k x hk => ?_, fun k x hk => ?_, fun x y => ?_⟩
  · obtain ⟨k, rfl⟩ : ∃ j, k = j + 1 := ⟨k - 1, by omega⟩
    show (NL.mapO (pdU k) [f x.1, g x.2.1, h x.2.2]).map _ = _
    unfold NL.mapO NL.mapO NL.mapO NL.mapO
    rw [a.pu k x.1 (by omega), b.pu k x.2.1 (by omega), t.pu k x.2.2 (by omega)]; rfl
  · obtain ⟨k, rfl⟩ : ∃ j, k = j + 1 := ⟨k - 1, by omega⟩
    show (NL.mapO (pdT k) [f x.1, g x.2.1, h x.2.2]).map _ = _
    unfold NL.mapO NL.mapO NL.mapO NL.mapO
    rw [a.pt k x.1 (by omega), b.pt k x.2.1 (by omega), t.pt k x.2.2 (by omega)]; rfl
  · simp only [PyData.eqv, PyData.eqvAll, Bool.and_true, a.eqv, b.eqv, t.eqv]
    rw [← Bool.decide_and, ← Bool.decide_and]
    exact decide_eq_decide.mpr (by rw [Prod.ext_iff, Prod.ext_iff])
theorem mapO_tl {α : Type} {f : α → U} {g : U → Option PyData} {p : α → PyData} (h : ∀ x, g (f x) = some (p x)) : ∀ xs : List α, NL.mapO g (xs.map f) = some (xs.map p)
  | [] => rfl
  | x :: xs => by
    rw [List.map_cons, List.map_cons]
    unfold NL.mapO
    rw [h x, mapO_tl h xs]
theorem eqvAll_tl {α : Type} [DecidableEq α] {p : α → PyData} (h : ∀ x y, PyData.eqv (p x) (p y) = decide (x = y)) : ∀ xs ys : List α, PyData.eqvAll (xs.map p) (ys.map p) = decide (xs = ys)
  | [], [] => by simp [PyData.eqvAll]
  | [], y :: ys => by simp [PyData.eqvAll]
  | x :: xs, [] => by simp [PyData.eqvAll]
  | x :: xs, y :: ys => by
    rw [List.map_cons, List.map_cons]
    simp only [PyData.eqvAll]
    rw [h, eqvAll_tl h xs ys, ← Bool.decide_and]
    exact decide_eq_decide.mpr (by simp)
end VL

/-! Numerals, rests, powers (printed by gen22.py). -/
namespace VL
open PySem PySem.Spec PyProof.Rows L2 NL
class Pz (j : Int) : Prop where
  pos : 0 < j
instance sz_emod {n : Nat} {i j : Int} [a : Sz n j] [p : Pz j] : Sz n (i % j) := ⟨by
  have h1 := Int.emod_nonneg i (Int.ne_of_gt p.pos)
  have h2 := Int.emod_lt_of_pos i p.pos
  have h3 := a.lt
  omega⟩
instance pz_tp {j : Int} [p : Pz j] : Pz (2 * j + 1) := ⟨by have := p.pos; omega⟩
instance pz_tm {j : Int} [p : Pz j] : Pz (2 * j - 1) := ⟨by have := p.pos; omega⟩
theorem sl {n : Nat} (h : n ≤ 1000) : (n ≤ sizeLine) = True := eq_true (Nat.le_of_lt (small1000 h))
instance pz_n1 : Pz 1 := ⟨by decide⟩
instance pz_n2 : Pz 2 := ⟨by decide⟩
instance pz_n3 : Pz 3 := ⟨by decide⟩
instance pz_n4 : Pz 4 := ⟨by decide⟩
instance pz_n5 : Pz 5 := ⟨by decide⟩
instance pz_n6 : Pz 6 := ⟨by decide⟩
instance pz_n7 : Pz 7 := ⟨by decide⟩
instance pz_n8 : Pz 8 := ⟨by decide⟩
instance pz_n9 : Pz 9 := ⟨by decide⟩
instance pz_n10 : Pz 10 := ⟨by decide⟩
instance pz_n11 : Pz 11 := ⟨by decide⟩
instance pz_n12 : Pz 12 := ⟨by decide⟩
instance pz_n13 : Pz 13 := ⟨by decide⟩
instance pz_n14 : Pz 14 := ⟨by decide⟩
instance pz_n15 : Pz 15 := ⟨by decide⟩
instance pz_n16 : Pz 16 := ⟨by decide⟩
instance pz_n17 : Pz 17 := ⟨by decide⟩
instance pz_n18 : Pz 18 := ⟨by decide⟩
instance pz_n19 : Pz 19 := ⟨by decide⟩
instance pz_n20 : Pz 20 := ⟨by decide⟩
instance pz_n21 : Pz 21 := ⟨by decide⟩
instance pz_n22 : Pz 22 := ⟨by decide⟩
instance pz_n23 : Pz 23 := ⟨by decide⟩
instance pz_n24 : Pz 24 := ⟨by decide⟩
instance pz_n25 : Pz 25 := ⟨by decide⟩
instance pz_n26 : Pz 26 := ⟨by decide⟩
instance pz_n27 : Pz 27 := ⟨by decide⟩
instance pz_n28 : Pz 28 := ⟨by decide⟩
instance pz_n29 : Pz 29 := ⟨by decide⟩
instance pz_n30 : Pz 30 := ⟨by decide⟩
instance pz_n31 : Pz 31 := ⟨by decide⟩
instance pz_n32 : Pz 32 := ⟨by decide⟩
instance pz_n33 : Pz 33 := ⟨by decide⟩
instance pz_n34 : Pz 34 := ⟨by decide⟩
instance pz_n35 : Pz 35 := ⟨by decide⟩
instance pz_n36 : Pz 36 := ⟨by decide⟩
instance pz_n37 : Pz 37 := ⟨by decide⟩
instance pz_n38 : Pz 38 := ⟨by decide⟩
instance pz_n39 : Pz 39 := ⟨by decide⟩
instance pz_n40 : Pz 40 := ⟨by decide⟩
instance pz_n41 : Pz 41 := ⟨by decide⟩
instance pz_n42 : Pz 42 := ⟨by decide⟩
instance pz_n43 : Pz 43 := ⟨by decide⟩
instance pz_n44 : Pz 44 := ⟨by decide⟩
instance pz_n45 : Pz 45 := ⟨by decide⟩
instance pz_n46 : Pz 46 := ⟨by decide⟩
instance pz_n47 : Pz 47 := ⟨by decide⟩
instance pz_n48 : Pz 48 := ⟨by decide⟩
instance pz_n49 : Pz 49 := ⟨by decide⟩
instance pz_n50 : Pz 50 := ⟨by decide⟩
instance pz_n51 : Pz 51 := ⟨by decide⟩
instance pz_n52 : Pz 52 := ⟨by decide⟩
instance pz_n53 : Pz 53 := ⟨by decide⟩
instance pz_n54 : Pz 54 := ⟨by decide⟩
instance pz_n55 : Pz 55 := ⟨by decide⟩
instance pz_n56 : Pz 56 := ⟨by decide⟩
instance pz_n57 : Pz 57 := ⟨by decide⟩
instance pz_n58 : Pz 58 := ⟨by decide⟩
instance pz_n59 : Pz 59 := ⟨by decide⟩
instance pz_n60 : Pz 60 := ⟨by decide⟩
instance pz_n61 : Pz 61 := ⟨by decide⟩
instance pz_n62 : Pz 62 := ⟨by decide⟩
instance pz_n63 : Pz 63 := ⟨by decide⟩
instance pz_n64 : Pz 64 := ⟨by decide⟩
instance pz_n72 : Pz 72 := ⟨by decide⟩
instance pz_n78 : Pz 78 := ⟨by decide⟩
instance pz_n83 : Pz 83 := ⟨by decide⟩
instance pz_n95 : Pz 95 := ⟨by decide⟩
instance pz_n100 : Pz 100 := ⟨by decide⟩
instance pz_n201 : Pz 201 := ⟨by decide⟩
instance pz_n285 : Pz 285 := ⟨by decide⟩
instance pz_n384 : Pz 384 := ⟨by decide⟩
instance pz_n512 : Pz 512 := ⟨by decide⟩
instance pz_n748 : Pz 748 := ⟨by decide⟩
instance pz_n999 : Pz 999 := ⟨by decide⟩
instance pz_n1000 : Pz 1000 := ⟨by decide⟩
instance pz_n1001 : Pz 1001 := ⟨by decide⟩
instance pz_n1009 : Pz 1009 := ⟨by decide⟩
instance pz_n1013 : Pz 1013 := ⟨by decide⟩
instance pz_n1999 : Pz 1999 := ⟨by decide⟩
instance pz_n2001 : Pz 2001 := ⟨by decide⟩
instance pz_n2003 : Pz 2003 := ⟨by decide⟩
instance pz_n7919 : Pz 7919 := ⟨by decide⟩
instance pz_n8000 : Pz 8000 := ⟨by decide⟩
instance pz_n12345 : Pz 12345 := ⟨by decide⟩
instance pz_n16807 : Pz 16807 := ⟨by decide⟩
instance pz_n39373 : Pz 39373 := ⟨by decide⟩
instance pz_n48271 : Pz 48271 := ⟨by decide⟩
instance pz_n54321 : Pz 54321 := ⟨by decide⟩
instance pz_n69621 : Pz 69621 := ⟨by decide⟩
instance pz_n69623 : Pz 69623 := ⟨by decide⟩
instance pz_n100000 : Pz 100000 := ⟨by decide⟩
instance pz_n1000003 : Pz 1000003 := ⟨by decide⟩
instance pz_n2147483563 : Pz 2147483563 := ⟨by decide⟩
instance pz_n2147483587 : Pz 2147483587 := ⟨by decide⟩
instance pz_n2147483629 : Pz 2147483629 := ⟨by decide⟩
instance pz_n2147483647 : Pz 2147483647 := ⟨by decide⟩
instance sz_n3 : Sz 6 3 := ⟨by decide⟩
instance sz_n4 : Sz 6 4 := ⟨by decide⟩
instance sz_n5 : Sz 6 5 := ⟨by decide⟩
instance sz_n6 : Sz 6 6 := ⟨by decide⟩
instance sz_n7 : Sz 6 7 := ⟨by decide⟩
instance sz_n8 : Sz 6 8 := ⟨by decide⟩
instance sz_n9 : Sz 6 9 := ⟨by decide⟩
instance sz_n10 : Sz 6 10 := ⟨by decide⟩
instance sz_n11 : Sz 6 11 := ⟨by decide⟩
instance sz_n12 : Sz 6 12 := ⟨by decide⟩
instance sz_n13 : Sz 6 13 := ⟨by decide⟩
instance sz_n14 : Sz 6 14 := ⟨by decide⟩
instance sz_n15 : Sz 6 15 := ⟨by decide⟩
instance sz_n16 : Sz 6 16 := ⟨by decide⟩
instance sz_n17 : Sz 6 17 := ⟨by decide⟩
instance sz_n18 : Sz 6 18 := ⟨by decide⟩
instance sz_n19 : Sz 6 19 := ⟨by decide⟩
instance sz_n20 : Sz 6 20 := ⟨by decide⟩
instance sz_n21 : Sz 6 21 := ⟨by decide⟩
instance sz_n22 : Sz 6 22 := ⟨by decide⟩
instance sz_n23 : Sz 6 23 := ⟨by decide⟩
instance sz_n24 : Sz 6 24 := ⟨by decide⟩
instance sz_n25 : Sz 6 25 := ⟨by decide⟩
instance sz_n26 : Sz 6 26 := ⟨by decide⟩
instance sz_n27 : Sz 6 27 := ⟨by decide⟩
instance sz_n28 : Sz 6 28 := ⟨by decide⟩
instance sz_n29 : Sz 6 29 := ⟨by decide⟩
instance sz_n30 : Sz 6 30 := ⟨by decide⟩
instance sz_n31 : Sz 6 31 := ⟨by decide⟩
instance sz_n32 : Sz 6 32 := ⟨by decide⟩
instance sz_n33 : Sz 6 33 := ⟨by decide⟩
instance sz_n34 : Sz 6 34 := ⟨by decide⟩
instance sz_n35 : Sz 6 35 := ⟨by decide⟩
instance sz_n36 : Sz 6 36 := ⟨by decide⟩
instance sz_n37 : Sz 6 37 := ⟨by decide⟩
instance sz_n38 : Sz 6 38 := ⟨by decide⟩
instance sz_n39 : Sz 6 39 := ⟨by decide⟩
instance sz_n40 : Sz 6 40 := ⟨by decide⟩
instance sz_n41 : Sz 6 41 := ⟨by decide⟩
instance sz_n42 : Sz 6 42 := ⟨by decide⟩
instance sz_n43 : Sz 6 43 := ⟨by decide⟩
instance sz_n44 : Sz 6 44 := ⟨by decide⟩
instance sz_n45 : Sz 6 45 := ⟨by decide⟩
instance sz_n46 : Sz 6 46 := ⟨by decide⟩
instance sz_n47 : Sz 6 47 := ⟨by decide⟩
instance sz_n48 : Sz 6 48 := ⟨by decide⟩
instance sz_n49 : Sz 6 49 := ⟨by decide⟩
instance sz_n50 : Sz 6 50 := ⟨by decide⟩
instance sz_n51 : Sz 6 51 := ⟨by decide⟩
instance sz_n52 : Sz 6 52 := ⟨by decide⟩
instance sz_n53 : Sz 6 53 := ⟨by decide⟩
instance sz_n54 : Sz 6 54 := ⟨by decide⟩
instance sz_n55 : Sz 6 55 := ⟨by decide⟩
instance sz_n56 : Sz 6 56 := ⟨by decide⟩
instance sz_n57 : Sz 6 57 := ⟨by decide⟩
instance sz_n58 : Sz 6 58 := ⟨by decide⟩
instance sz_n59 : Sz 6 59 := ⟨by decide⟩
instance sz_n60 : Sz 6 60 := ⟨by decide⟩
instance sz_n61 : Sz 6 61 := ⟨by decide⟩
instance sz_n62 : Sz 6 62 := ⟨by decide⟩
instance sz_n63 : Sz 6 63 := ⟨by decide⟩
instance sz_n64 : Sz 7 64 := ⟨by decide⟩
instance sz_n72 : Sz 7 72 := ⟨by decide⟩
instance sz_n78 : Sz 7 78 := ⟨by decide⟩
instance sz_n83 : Sz 7 83 := ⟨by decide⟩
instance sz_n95 : Sz 7 95 := ⟨by decide⟩
instance sz_n100 : Sz 7 100 := ⟨by decide⟩
instance sz_n201 : Sz 8 201 := ⟨by decide⟩
instance sz_n285 : Sz 9 285 := ⟨by decide⟩
instance sz_n384 : Sz 9 384 := ⟨by decide⟩
instance sz_n512 : Sz 10 512 := ⟨by decide⟩
instance sz_n748 : Sz 10 748 := ⟨by decide⟩
instance sz_n999 : Sz 10 999 := ⟨by decide⟩
instance sz_n1000 : Sz 10 1000 := ⟨by decide⟩
instance sz_n1001 : Sz 10 1001 := ⟨by decide⟩
instance sz_n1009 : Sz 10 1009 := ⟨by decide⟩
instance sz_n1013 : Sz 10 1013 := ⟨by decide⟩
instance sz_n1999 : Sz 11 1999 := ⟨by decide⟩
instance sz_n2001 : Sz 11 2001 := ⟨by decide⟩
instance sz_n2003 : Sz 11 2003 := ⟨by decide⟩
instance sz_n7919 : Sz 13 7919 := ⟨by decide⟩
instance sz_n8000 : Sz 13 8000 := ⟨by decide⟩
instance sz_n12345 : Sz 14 12345 := ⟨by decide⟩
instance sz_n16807 : Sz 15 16807 := ⟨by decide⟩
instance sz_n39373 : Sz 16 39373 := ⟨by decide⟩
instance sz_n48271 : Sz 16 48271 := ⟨by decide⟩
instance sz_n54321 : Sz 16 54321 := ⟨by decide⟩
instance sz_n69621 : Sz 17 69621 := ⟨by decide⟩
instance sz_n69623 : Sz 17 69623 := ⟨by decide⟩
instance sz_n100000 : Sz 17 100000 := ⟨by decide⟩
instance sz_n1000003 : Sz 20 1000003 := ⟨by decide⟩
instance sz_n2147483563 : Sz 31 2147483563 := ⟨by decide⟩
instance sz_n2147483587 : Sz 31 2147483587 := ⟨by decide⟩
instance sz_n2147483629 : Sz 31 2147483629 := ⟨by decide⟩
instance sz_n2147483647 : Sz 31 2147483647 := ⟨by decide⟩
@[irreducible] def P10 : Int := 10000000000
theorem P10_eq : P10 = 10000000000 := by unfold P10; rfl
instance pz_p10 : Pz P10 := ⟨by rw [P10_eq]; decide⟩
instance sz_p10 : Sz 34 P10 := ⟨by rw [P10_eq]; decide⟩
@[irreducible] def P20 : Int := 100000000000000000000
theorem P20_eq : P20 = 100000000000000000000 := by unfold P20; rfl
instance pz_p20 : Pz P20 := ⟨by rw [P20_eq]; decide⟩
instance sz_p20 : Sz 67 P20 := ⟨by rw [P20_eq]; decide⟩
@[irreducible] def P30 : Int := 1000000000000000000000000000000
theorem P30_eq : P30 = 1000000000000000000000000000000 := by unfold P30; rfl
instance pz_p30 : Pz P30 := ⟨by rw [P30_eq]; decide⟩
instance sz_p30 : Sz 100 P30 := ⟨by rw [P30_eq]; decide⟩
@[irreducible] def P38 : Int := 100000000000000000000000000000000000000
theorem P38_eq : P38 = 100000000000000000000000000000000000000 := by unfold P38; rfl
instance pz_p38 : Pz P38 := ⟨by rw [P38_eq]; decide⟩
instance sz_p38 : Sz 127 P38 := ⟨by rw [P38_eq]; decide⟩
@[irreducible] def P39 : Int := 1000000000000000000000000000000000000000
theorem P39_eq : P39 = 1000000000000000000000000000000000000000 := by unfold P39; rfl
instance pz_p39 : Pz P39 := ⟨by rw [P39_eq]; decide⟩
instance sz_p39 : Sz 130 P39 := ⟨by rw [P39_eq]; decide⟩
@[irreducible] def P40 : Int := 10000000000000000000000000000000000000000
theorem P40_eq : P40 = 10000000000000000000000000000000000000000 := by unfold P40; rfl
instance pz_p40 : Pz P40 := ⟨by rw [P40_eq]; decide⟩
instance sz_p40 : Sz 133 P40 := ⟨by rw [P40_eq]; decide⟩
@[irreducible] def P59 : Int := 100000000000000000000000000000000000000000000000000000000000
theorem P59_eq : P59 = 100000000000000000000000000000000000000000000000000000000000 := by unfold P59; rfl
instance pz_p59 : Pz P59 := ⟨by rw [P59_eq]; decide⟩
instance sz_p59 : Sz 196 P59 := ⟨by rw [P59_eq]; decide⟩
@[irreducible] def P60 : Int := 1000000000000000000000000000000000000000000000000000000000000
theorem P60_eq : P60 = 1000000000000000000000000000000000000000000000000000000000000 := by unfold P60; rfl
instance pz_p60 : Pz P60 := ⟨by rw [P60_eq]; decide⟩
instance sz_p60 : Sz 200 P60 := ⟨by rw [P60_eq]; decide⟩
@[irreducible] def P64 : Int := 10000000000000000000000000000000000000000000000000000000000000000
theorem P64_eq : P64 = 10000000000000000000000000000000000000000000000000000000000000000 := by unfold P64; rfl
instance pz_p64 : Pz P64 := ⟨by rw [P64_eq]; decide⟩
instance sz_p64 : Sz 213 P64 := ⟨by rw [P64_eq]; decide⟩
@[irreducible] def P240 : Int := 1000000000000000000000000000000000000000000000000000000000000000000000000000000000000000000000000000000000000000000000000000000000000000000000000000000000000000000000000000000000000000000000000000000000000000000000000000000000000000000000000
theorem P240_eq : P240 = 1000000000000000000000000000000000000000000000000000000000000000000000000000000000000000000000000000000000000000000000000000000000000000000000000000000000000000000000000000000000000000000000000000000000000000000000000000000000000000000000000 := by unfold P240; rfl
instance pz_p240 : Pz P240 := ⟨by rw [P240_eq]; decide +kernel⟩
instance sz_p240 : Sz 798 P240 := ⟨by rw [P240_eq]; decide +kernel⟩
instance pz_1 {i j : Int} [p : Pz j] : Pz (1 + i % j) := ⟨by have := Int.emod_nonneg i (Int.ne_of_gt p.pos); omega⟩
instance pz_add {i j : Int} [p : Pz i] [q : Pz j] : Pz (i + j) := ⟨by have := p.pos; have := q.pos; omega⟩
instance pz_mul {i j : Int} [p : Pz i] [q : Pz j] : Pz (i * j) := ⟨Int.mul_pos p.pos q.pos⟩
section
variable {β : Type} {k : U → VR β}
end
open GM
instance sz_sg {x : Int} : Sz 1 (sg x) := ⟨by unfold sg; split; decide; split <;> decide⟩
instance sz_div {m : Nat} {x y : Int} [s : Sz m x] : Sz m (x / y) := ⟨Nat.lt_of_le_of_lt (Int.natAbs_ediv_le_natAbs x y) s.lt⟩
end VL

/-! Orders, loops, comprehensions over lists of ours. -/
namespace VL
open PySem PySem.Spec PyProof.Rows L2 NL GM
/-! ### order -/
/-- how two things are ordered: lt says it -/
structure Od {α : Type} (f : α → U) (d : Nat) (lt : α → α → Bool) : Prop where
  od : ∀ (k : Nat) (x y : α), d ≤ k → ordU .lt k (f x) (f y) = some (lt x y)
def ltI (i j : Int) : Bool := decide (i < j)
def ltPr {α β : Type} [DecidableEq α] (l : α → α → Bool) (m : β → β → Bool) (x y : α × β) : Bool := if x.1 = y.1 then m x.2 y.2 else l x.1 y.1
theorem lexU_last {o : Cop} {f : U → U → Option Bool} {x y : U} {b : Bool} (h : eqT x y = some b) : lexU o f [x] [y] = if b = true then some (ord4 o 0 0) else f x y := by
  unfold lexU
  rw [h]
  cases b
  · rfl
  · unfold lexU; rfl
theorem lexU_cons {o : Cop} {f : U → U → Option Bool} {x y : U} {xs ys : List U} {b : Bool} (h : eqT x y = some b) : lexU o f (x :: xs) (y :: ys) = if b = true then lexU o f xs ys else f x y := by
  rw [lexU, h]
  cases b <;> rfl
/-- an order that is one -/
structure Tot {α : Type} (lt : α → α → Bool) : Prop where
  ir : ∀ x, lt x x = false
  tr : ∀ x y z, lt x y = true → lt y z = true → lt x z = true
  tt : ∀ x y, x ≠ y → lt x y = true ∨ lt y x = true
theorem Tot.as {α : Type} {lt : α → α → Bool} (t : Tot lt) {x y : α} (h : lt x y = true) : lt y x = false := by
  cases e : lt y x with
  | false => rfl
  | true => have := t.tr x y x h e; rw [t.ir] at this; cases this
theorem Tot.le_tr {α : Type} [DecidableEq α] {lt : α → α → Bool} (t : Tot lt) {x y z : α} (h : lt y x = false) (h2 : lt z y = false) : lt z x = false := by
  cases e : lt z x with
  | false => rfl
  | true =>
    by_cases xy : x = y
    · subst xy; rw [e] at h2; cases h2
    · rcases t.tt x y xy with k | k
      · have := t.tr z x y e k; rw [this] at h2; cases h2
      · rw [k] at h; cases h
theorem tot_int : Tot ltI := ⟨fun x => by simp [ltI], fun x y z h k => by simp [ltI] at *; omega, fun x y h => by simp [ltI]; omega⟩
theorem tot_pr {α β : Type} [DecidableEq α] {l : α → α → Bool} {m : β → β → Bool} (a : Tot l) (b : Tot m) : Tot (ltPr l m) := by
  refine ⟨fun x => by unfold ltPr; rw [if_pos rfl]; exact b.ir _, fun x y z h k => ?_, fun x y h => ?_⟩
  · unfold ltPr at *
    by_cases h1 : x.1 = y.1
    · rw [if_pos h1] at h
      by_cases h2 : y.1 = z.1
      · rw [if_pos h2] at k
        rw [if_pos (h1.trans h2)]; exact b.tr _ _ _ h k
      · rw [if_neg h2] at k
        rw [if_neg (by rw [h1]; exact h2), h1]; exact k
    · rw [if_neg h1] at h
      by_cases h2 : y.1 = z.1
      · rw [if_pos h2] at k
        rw [if_neg (by rw [← h2]; exact h1), ← h2]; exact h
      · rw [if_neg h2] at k
        have q := a.tr _ _ _ h k
        by_cases h3 : x.1 = z.1
        · rw [h3, a.ir] at q; cases q
        · rw [if_neg h3]; exact q
  · unfold ltPr
    by_cases h1 : x.1 = y.1
    · rw [if_pos h1, if_pos h1.symm]
      exact b.tt _ _ (fun e => h (Prod.ext h1 e))
    · rw [if_neg h1, if_neg (fun e => h1 e.symm)]
      exact a.tt _ _ h1
abbrev Sd := Pt × Pt
section
variable {β : Type}
end
/-! ### the best of a list -/
/-! ### loops -/
section
variable {α σ : Type} {f : α → U} {bnd : U → VEnv → VR VEnv} {b : VEnv → VR VF}
end
end VL

/-! Rules on symbols, heads first: whose lists, leaks. -/
namespace VL
open PySem PySem.Spec PyProof.Rows L2 NL GM
class FrT (fr : Nat → Bool) (f : Nat) : Prop where
  t : fr f = true
class FrF (fr : Nat → Bool) (f : Nat) : Prop where
  t : fr f = false
class FrE (fr : Nat → Bool) (e : E) : Prop where
  t : freshE fr e = true
class NfE (fr : Nat → Bool) (e : E) : Prop where
  t : freshE fr e = false
section
variable {fr : Nat → Bool}
instance fre_lst {es : Es} : FrE fr (.lst es) := ⟨fe_lst⟩
instance fre_comp {own : List Nat} {tg : Tg} {it : NL.It} {c e : E} : FrE fr (.comp own tg it c e) := ⟨fe_comp⟩
instance fre_slc {p q : Bool} {a b c : E} : FrE fr (.slc p q a b c) := ⟨fe_slc⟩
instance fre_bin {o : Bop} {a b : E} : FrE fr (.bin o a b) := ⟨fe_bin⟩
instance fre_list {es : Es} : FrE fr (.blt .list es) := ⟨fe_list⟩
instance fre_call {f : Nat} {es : Es} [h : FrT fr f] : FrE fr (.call f es) := ⟨by rw [fe_call]; exact h.t⟩
instance fre_ite {c a b : E} [h : FrE fr a] [k : FrE fr b] : FrE fr (.ite c a b) := ⟨by unfold freshE; rw [h.t, k.t]; rfl⟩
instance nfe_call {f : Nat} {es : Es} [h : FrF fr f] : NfE fr (.call f es) := ⟨by rw [fe_call]; exact h.t⟩
instance nfe_var {i : Nat} : NfE fr (.var i) := ⟨by unfold freshE; rfl⟩
instance nfe_idx {a b : E} : NfE fr (.idx a b) := ⟨by unfold freshE; rfl⟩
end
section
variable {β : Type} {C : Nat → List U → VR U} {fr : Nat → Bool} {en : VEnv} {k : VEnv → VR β}
/-! a name takes a value -/
/-! parting -/
/-! append -/
/-! walks -/
/-! return -/
end
/-! comprehensions -/
section
variable {β : Type} {C : Nat → List U → VR U} {fr : Nat → Bool} {en : VEnv}
/-! loops by their text -/
section
variable {k : VF → VR β} {tg : Tg} {b : Sts} {x : U} {xs : List U}
end
/-! named continuations: nothing runs before its value stands -/
section
variable {k : VF → VR β} {q : U → VR β}
end
section
variable {α : Type} {f : α → U} {tg : Tg} {b : Sts}
end
end
end VL

/-! Least of places. -/
namespace VL
open PySem PySem.Spec PyProof.Rows L2 NL GM
end VL

/-! More rules: slices, membership, least of two numbers. -/
namespace VL
open PySem PySem.Spec PyProof.Rows L2 NL GM
section
variable {β : Type} {k : U → VR β}
end
end VL

/-! sorted, on symbols. -/
namespace VL
open PySem PySem.Spec PyProof.Rows L2 NL GM
mutual
theorem noRef_to : ∀ {u : U}, noL u = true → NL.noRef (toD u) = true
  | .non, _ => by unfold toD NL.noRef; rfl
  | .bl _, _ => by unfold toD NL.noRef; rfl
  | .int _, _ => by unfold toD NL.noRef; rfl
  | .str _, _ => by unfold toD NL.noRef; rfl
  | .tup xs, h => by
    unfold noL at h
    unfold toD NL.noRef
    exact noRefs_to h
  | .lst _, h => by unfold noL at h; cases h
  | .frz _, h => by unfold noL at h; cases h
theorem noRefs_to : ∀ {us : List U}, noLs us = true → NL.noRefs (toDs us) = true
  | [], _ => by unfold toDs NL.noRefs; rfl
  | u :: us, h => by
    unfold noLs at h
    rw [Bool.and_eq_true] at h
    unfold toDs NL.noRefs
    rw [noRef_to h.1, noRefs_to h.2]; rfl
end
section
variable {β : Type} {k : U → VR β}
end
instance fre_sorted {fr : Nat → Bool} {es : Es} : FrE fr (.blt .sorted es) := ⟨by unfold freshE newB; rfl⟩
end VL

/-! Two places: not behind, the lesser, the greater; sides alike; big numbers. -/
namespace VL
open PySem PySem.Spec PyProof.Rows L2 NL GM
section
variable {β : Type} {k : U → VR β}
end
/-! big numbers of the laws -/
@[irreducible] def K8 : Int := 29477480947986319589215679678287935361
theorem K8_eq : K8 = 48271 ^ 8 := by unfold K8; decide +kernel
@[irreducible] def K7 : Int := 7928331467292760530673834318599741
theorem K7_eq : K7 = 69621 ^ 7 := by unfold K7; decide +kernel
instance sz_k8 : Sz 125 K8 := ⟨by rw [K8_eq]; decide +kernel⟩
instance sz_k7 : Sz 113 K7 := ⟨by rw [K7_eq]; decide +kernel⟩
section
variable {β : Type} {k : U → VR β}
end
instance pz_m1 : Pz 170141183460469231731687303715884105727 := ⟨by decide⟩
instance pz_m2 : Pz 162259276829213363391578010288127 := ⟨by decide⟩
instance sz_m1 : Sz 127 170141183460469231731687303715884105727 := ⟨by decide +kernel⟩
instance sz_m2 : Sz 107 162259276829213363391578010288127 := ⟨by decide +kernel⟩
end VL

/-! Rules: enumerate, zip, list(reversed), pop, extend, clear. -/
namespace VL
open PySem PySem.Spec PyProof.Rows L2 NL
section
variable {β : Type} {C : Nat → List U → VR U} {fr : Nat → Bool} {en : VEnv}
instance fre_rev {e : E} : FrE fr (.rev e) := ⟨by unfold freshE; rfl⟩
variable {k : VF → VR β} {tg : Tg} {b : Sts}
/-- what x.extend(e) does -/
def exS {β : Type} (e : E) (i : Nat) (u : U) (en : VEnv) (k : VF → VR β) : VR β := (lstU u).bind fun vs => ownK (leaks vs (fvE e) en) i fun us => if us.length + vs.length ≤ sizeLine then setK (leaks vs (fvE e) en) i true (.lst (us ++ vs)) fun en => k (.nx en) else .stuck
instance nls_num {us : List U} {k : Nat} [h : NoLs us] : NoLs (numU k us) := ⟨by
  have := h.no
  clear h
  induction us generalizing k with
  | nil => unfold numU noLs; rfl
  | cons u us ih =>
    unfold noLs at this
    rw [Bool.and_eq_true] at this
    rw [numU]
    unfold noLs
    rw [ih this.2, Bool.and_true]
    simp [noL, noLs, this.1]⟩
end
end VL

/-! A typed reading above the trees: what a value of a type looks like, how its things are alike, ordered. -/
namespace TL
open PySem PySem.Spec PyProof.Rows L2 NL GM VL
class Ty (α : Type) where
  ec : α → U
open Ty (ec)
/-- a place: two whole numbers of at most a thousand bits -/
structure P where
  x : Int
  y : Int
  hx : Sz 1000 x
  hy : Sz 1000 y
/-- a fraction as it stands, of at most m bits -/
structure Fr (m : Nat) where
  n : Int
  d : Int
  hn : Sz m n
  hd : Sz m d
structure T3 (α β γ : Type) where
  a : α
  b : β
  c : γ
  deriving DecidableEq
structure T4 (α β γ δ : Type) where
  a : α
  b : β
  c : γ
  d : δ
  deriving DecidableEq
/-- the script -/
structure Scr where
  ns : List Int
theorem P.ext_ {a b : P} (h : a.x = b.x) (k : a.y = b.y) : a = b := by
  cases a; cases b; cases h; cases k; rfl
theorem P.ext_iff_ {a b : P} : a = b ↔ a.x = b.x ∧ a.y = b.y := ⟨fun h => by cases h; exact ⟨rfl, rfl⟩, fun h => P.ext_ h.1 h.2⟩
instance : DecidableEq P := fun a b => if h : a.x = b.x ∧ a.y = b.y then isTrue (P.ext_ h.1 h.2) else isFalse fun e => h (by cases e; exact ⟨rfl, rfl⟩)
theorem Fr.ext_ {m : Nat} {a b : Fr m} (h : a.n = b.n) (k : a.d = b.d) : a = b := by
  cases a; cases b; cases h; cases k; rfl
instance {m : Nat} : DecidableEq (Fr m) := fun a b => if h : a.n = b.n ∧ a.d = b.d then isTrue (Fr.ext_ h.1 h.2) else isFalse fun e => h (by cases e; exact ⟨rfl, rfl⟩)
instance (a : P) : Sz 1000 a.x := a.hx
instance (a : P) : Sz 1000 a.y := a.hy
instance {m : Nat} (a : Fr m) : Sz m a.n := a.hn
instance {m : Nat} (a : Fr m) : Sz m a.d := a.hd
abbrev P.pt (a : P) : Pt := (a.x, a.y)
instance : Ty Int := ⟨U.int⟩
instance : Ty Bool := ⟨U.bl⟩
instance : Ty Unit := ⟨fun _ => .non⟩
instance : Ty Str := ⟨U.str⟩
instance : Ty U := ⟨id⟩
instance : Ty P := ⟨fun p => .tup [.int p.x, .int p.y]⟩
instance {m : Nat} : Ty (Fr m) := ⟨fun p => .tup [.int p.n, .int p.d]⟩
instance : Ty Scr := ⟨fun s => .frz (s.ns.map U.int)⟩
section
variable {α β γ δ : Type} [Ty α] [Ty β] [Ty γ] [Ty δ]
instance : Ty (α × β) := ⟨fun p => .tup [ec p.1, ec p.2]⟩
instance : Ty (T3 α β γ) := ⟨fun p => .tup [ec p.a, ec p.b, ec p.c]⟩
instance : Ty (T4 α β γ δ) := ⟨fun p => .tup [ec p.a, ec p.b, ec p.c, ec p.d]⟩
instance : Ty (List α) := ⟨fun l => .lst (l.map ec)⟩
instance : Ty (Option α) := ⟨fun o => match o with | none => .non | some a => ec a⟩
end
/-! ### no list within; always one -/
class Flat (α : Type) [Ty α] : Prop where
  fl : ∀ a : α, noL (ec a) = true
class HasL (α : Type) [Ty α] : Prop where
  hl : ∀ a : α, noL (ec a) = false
/-- no list itself -/
class NotL (α : Type) [Ty α] : Prop where
  nl : ∀ a : α, isL (ec a) = false
/-- never None -/
class NoN (α : Type) [Ty α] : Prop where
  nn : ∀ a : α, isU (ec a) .non = some false
instance : Flat Int := ⟨fun _ => by simp [ec, noL]⟩
instance : Flat Bool := ⟨fun _ => by simp [ec, noL]⟩
instance : Flat Unit := ⟨fun _ => by simp [ec, noL]⟩
instance : Flat Str := ⟨fun _ => by simp [ec, noL]⟩
instance : Flat P := ⟨fun _ => by simp [ec, noL, noLs]⟩
instance {m : Nat} : Flat (Fr m) := ⟨fun _ => by simp [ec, noL, noLs]⟩
section
variable {α β γ δ : Type} [Ty α] [Ty β] [Ty γ] [Ty δ]
instance [a : Flat α] [b : Flat β] : Flat (α × β) := ⟨fun x => by show noL (.tup [ec x.1, ec x.2]) = true; simp [noL, noLs, a.fl, b.fl]⟩
instance [a : Flat α] [b : Flat β] [c : Flat γ] : Flat (T3 α β γ) := ⟨fun x => by show noL (.tup [ec x.a, ec x.b, ec x.c]) = true; simp [noL, noLs, a.fl, b.fl, c.fl]⟩
instance [a : Flat α] [b : Flat β] [c : Flat γ] [d : Flat δ] : Flat (T4 α β γ δ) := ⟨fun x => by show noL (.tup [ec x.a, ec x.b, ec x.c, ec x.d]) = true; simp [noL, noLs, a.fl, b.fl, c.fl, d.fl]⟩
instance [a : Flat α] : Flat (Option α) := ⟨fun o => by cases o with | none => simp [ec, noL] | some x => exact a.fl x⟩
instance : HasL (List α) := ⟨fun l => by show noL (.lst _) = false; simp [noL]⟩
instance : HasL Scr := ⟨fun l => by show noL (.frz _) = false; simp [noL]⟩
instance [a : HasL α] : HasL (α × β) := ⟨fun x => by show noL (.tup [ec x.1, ec x.2]) = false; simp [noL, noLs, a.hl]⟩
instance [a : HasL β] : HasL (α × β) := ⟨fun x => by show noL (.tup [ec x.1, ec x.2]) = false; simp [noL, noLs, a.hl]⟩
instance [a : HasL α] : HasL (T3 α β γ) := ⟨fun x => by show noL (.tup [ec x.a, ec x.b, ec x.c]) = false; simp [noL, noLs, a.hl]⟩
instance [a : HasL β] : HasL (T3 α β γ) := ⟨fun x => by show noL (.tup [ec x.a, ec x.b, ec x.c]) = false; simp [noL, noLs, a.hl]⟩
instance [a : HasL γ] : HasL (T3 α β γ) := ⟨fun x => by show noL (.tup [ec x.a, ec x.b, ec x.c]) = false; simp [noL, noLs, a.hl]⟩
instance : NotL Int := ⟨fun _ => rfl⟩
instance : NotL Bool := ⟨fun _ => rfl⟩
instance : NotL Unit := ⟨fun _ => rfl⟩
instance : NotL Str := ⟨fun _ => rfl⟩
instance : NotL P := ⟨fun _ => rfl⟩
instance : NotL Scr := ⟨fun _ => rfl⟩
instance {m : Nat} : NotL (Fr m) := ⟨fun _ => rfl⟩
instance : NotL (α × β) := ⟨fun _ => rfl⟩
instance : NotL (T3 α β γ) := ⟨fun _ => rfl⟩
instance : NotL (T4 α β γ δ) := ⟨fun _ => rfl⟩
instance [a : NotL α] : NotL (Option α) := ⟨fun o => by cases o with | none => rfl | some x => exact a.nl x⟩
instance : NoN Int := ⟨fun _ => rfl⟩
instance : NoN Bool := ⟨fun _ => rfl⟩
instance : NoN Str := ⟨fun _ => rfl⟩
instance : NoN P := ⟨fun _ => rfl⟩
instance {m : Nat} : NoN (Fr m) := ⟨fun _ => rfl⟩
instance : NoN (α × β) := ⟨fun _ => rfl⟩
instance : NoN (T3 α β γ) := ⟨fun _ => rfl⟩
instance : NoN (T4 α β γ δ) := ⟨fun _ => rfl⟩
instance : NoN (List α) := ⟨fun _ => rfl⟩
theorem noLs_flat {l : List α} [h : Flat α] : noLs (l.map ec) = true := noLs_all.mpr fun u hu => by
  obtain ⟨x, _, rfl⟩ := List.mem_map.mp hu
  exact h.fl x
end
/-! ### alike -/
/-- as plain data -/
class Dt (α : Type) [Ty α] [DecidableEq α] (d : outParam Nat) where
  p : α → PyData
  pu : ∀ (k : Nat) (x : α), d ≤ k → pdU k (ec x) = some (p x)
  eqv : ∀ x y, PyData.eqv (p x) (p y) = decide (x = y)
/-- .. without lists -/
class Tc (α : Type) [Ty α] [DecidableEq α] (d : outParam Nat) [Dt α d] : Prop where
  pt : ∀ (k : Nat) (x : α), d ≤ k → pdT k (ec x) = some (Dt.p x)
class NonD (α : Type) [Ty α] [DecidableEq α] (d : outParam Nat) [Dt α d] : Prop where
  nn : ∀ a : α, PyData.eqv .none (Dt.p a) = false ∧ PyData.eqv (Dt.p a) .none = false
instance dt_int : Dt Int 0 := ⟨PyData.int, fun k x _ => by cases k <;> rfl, fun x y => eqv_int⟩
instance : Tc Int 0 := ⟨fun k x _ => by cases k <;> rfl⟩
instance dt_bool : Dt Bool 0 := ⟨PyData.bool, fun k x _ => by cases k <;> rfl, fun x y => by simp only [PyData.eqv]; cases x <;> cases y <;> rfl⟩
instance dt_unit : Dt Unit 0 := ⟨fun _ => PyData.none, fun k x _ => by cases k <;> rfl, fun x y => by simp [PyData.eqv]⟩
theorem pu_two {f g : U} {k : Nat} {p q : PyData} (a : pdU k f = some p) (b : pdU k g = some q) : pdU (k + 1) (.tup [f, g]) = some (.tuple [p, q]) := by
  show (NL.mapO (pdU k) [f, g]).map _ = _
  unfold NL.mapO NL.mapO NL.mapO
  rw [a, b]; rfl
theorem pt_two {f g : U} {k : Nat} {p q : PyData} (a : pdT k f = some p) (b : pdT k g = some q) : pdT (k + 1) (.tup [f, g]) = some (.tuple [p, q]) := by
  show (NL.mapO (pdT k) [f, g]).map _ = _
  unfold NL.mapO NL.mapO NL.mapO
  rw [a, b]; rfl
theorem pu_three {f g h : U} {k : Nat} {p q r : PyData} (a : pdU k f = some p) (b : pdU k g = some q) (c : pdU k h = some r) : pdU (k + 1) (.tup [f, g, h]) = some (.tuple [p, q, r]) := by
  show (NL.mapO (pdU k) [f, g, h]).map _ = _
  unfold NL.mapO NL.mapO NL.mapO NL.mapO
  rw [a, b, c]; rfl
theorem pt_three {f g h : U} {k : Nat} {p q r : PyData} (a : pdT k f = some p) (b : pdT k g = some q) (c : pdT k h = some r) : pdT (k + 1) (.tup [f, g, h]) = some (.tuple [p, q, r]) := by
  show (NL.mapO (pdT k) [f, g, h]).map _ = _
  unfold NL.mapO NL.mapO NL.mapO NL.mapO
  rw [a, b, c]; rfl
theorem pu_four {f g h i : U} {k : Nat} {p q r s : PyData} (a : pdU k f = some p) (b : pdU k g = some q) (c : pdU k h = some r) (d : pdU k i = some s) : pdU (k + 1) (.tup [f, g, h, i]) = some (.tuple [p, q, r, s]) := by
  show (NL.mapO (pdU k) [f, g, h, i]).map _ = _
  unfold NL.mapO NL.mapO NL.mapO NL.mapO NL.mapO
  rw [a, b, c, d]; rfl
theorem pred_of {d k : Nat} (h : d + 1 ≤ k) : ∃ j, k = j + 1 ∧ d ≤ j := ⟨k - 1, by omega⟩
theorem z_le {k : Nat} : 0 ≤ k := Nat.zero_le k
theorem ev2 {a b c d : PyData} : PyData.eqv (.tuple [a, b]) (.tuple [c, d]) = (PyData.eqv a c && PyData.eqv b d) := by simp only [PyData.eqv, PyData.eqvAll, Bool.and_true]
theorem ev3 {a b c d e f : PyData} : PyData.eqv (.tuple [a, b, c]) (.tuple [d, e, f]) = (PyData.eqv a d && (PyData.eqv b e && PyData.eqv c f)) := by simp only [PyData.eqv, PyData.eqvAll, Bool.and_true]
theorem ev4 {a b c d e f g h : PyData} : PyData.eqv (.tuple [a, b, c, g]) (.tuple [d, e, f, h]) = (PyData.eqv a d && (PyData.eqv b e && (PyData.eqv c f && PyData.eqv g h))) := by simp only [PyData.eqv, PyData.eqvAll, Bool.and_true]
theorem dec2 {p q r : Prop} [Decidable p] [Decidable q] [Decidable r] (h : p ↔ q ∧ r) : (decide q && decide r) = decide p := by
  rw [← Bool.decide_and]; exact decide_eq_decide.mpr h.symm
theorem dec3 {p q r s : Prop} [Decidable p] [Decidable q] [Decidable r] [Decidable s] (h : p ↔ q ∧ r ∧ s) : (decide q && (decide r && decide s)) = decide p := by
  rw [← Bool.decide_and, ← Bool.decide_and]; exact decide_eq_decide.mpr h.symm
theorem dec4 {p q r s t : Prop} [Decidable p] [Decidable q] [Decidable r] [Decidable s] [Decidable t] (h : p ↔ q ∧ r ∧ s ∧ t) : (decide q && (decide r && (decide s && decide t))) = decide p := by
  rw [← Bool.decide_and, ← Bool.decide_and, ← Bool.decide_and]; exact decide_eq_decide.mpr h.symm
theorem T3.ext_iff_ {α β γ : Type} {x y : T3 α β γ} : x = y ↔ x.a = y.a ∧ x.b = y.b ∧ x.c = y.c := ⟨fun h => by cases h; exact ⟨rfl, rfl, rfl⟩, fun h => by cases x; cases y; obtain ⟨h1, h2, h3⟩ := h; cases h1; cases h2; cases h3; rfl⟩
theorem T4.ext_iff_ {α β γ δ : Type} {x y : T4 α β γ δ} : x = y ↔ x.a = y.a ∧ x.b = y.b ∧ x.c = y.c ∧ x.d = y.d := ⟨fun h => by cases h; exact ⟨rfl, rfl, rfl, rfl⟩, fun h => by cases x; cases y; obtain ⟨h1, h2, h3, h4⟩ := h; cases h1; cases h2; cases h3; cases h4; rfl⟩
theorem Fr.ext_iff_ {m : Nat} {x y : Fr m} : x = y ↔ x.n = y.n ∧ x.d = y.d := ⟨fun h => by cases h; exact ⟨rfl, rfl⟩, fun h => Fr.ext_ h.1 h.2⟩
instance dt_p : Dt P 1 := ⟨fun x => .tuple [.int x.x, .int x.y], fun k x h => by obtain ⟨j, rfl, h'⟩ := pred_of h; exact pu_two (dt_int.pu j _ z_le) (dt_int.pu j _ z_le), fun x y => by rw [ev2, eqv_int, eqv_int]; exact dec2 P.ext_iff_⟩
instance : Tc P 1 := ⟨fun k x h => by obtain ⟨j, rfl, h'⟩ := pred_of h; exact pt_two (Tc.pt (α := Int) j _ z_le) (Tc.pt (α := Int) j _ z_le)⟩
instance dt_fr {m : Nat} : Dt (Fr m) 1 := ⟨fun x => .tuple [.int x.n, .int x.d], fun k x h => by obtain ⟨j, rfl, h'⟩ := pred_of h; exact pu_two (dt_int.pu j _ z_le) (dt_int.pu j _ z_le), fun x y => by rw [ev2, eqv_int, eqv_int]; exact dec2 Fr.ext_iff_⟩
instance {m : Nat} : Tc (Fr m) 1 := ⟨fun k x h => by obtain ⟨j, rfl, h'⟩ := pred_of h; exact pt_two (Tc.pt (α := Int) j _ z_le) (Tc.pt (α := Int) j _ z_le)⟩
section
variable {α β γ δ : Type} [Ty α] [Ty β] [Ty γ] [Ty δ] [DecidableEq α] [DecidableEq β] [DecidableEq γ] [DecidableEq δ] {d e c k : Nat}
instance dt_pr [a : Dt α d] [b : Dt β e] : Dt (α × β) (max d e + 1) := ⟨fun x => .tuple [a.p x.1, b.p x.2], fun k x h => by obtain ⟨j, rfl, h'⟩ := pred_of h; exact pu_two (a.pu j _ (by omega)) (b.pu j _ (by omega)), fun x y => by rw [ev2, a.eqv, b.eqv]; exact dec2 Prod.ext_iff⟩
instance [Dt α d] [Dt β e] [a : Tc α d] [b : Tc β e] : Tc (α × β) (max d e + 1) := ⟨fun k x h => by obtain ⟨j, rfl, h'⟩ := pred_of h; exact pt_two (a.pt j _ (by omega)) (b.pt j _ (by omega))⟩
instance dt_t3 [a : Dt α d] [b : Dt β e] [i : Dt γ c] : Dt (T3 α β γ) (max d (max e c) + 1) := ⟨fun x => .tuple [a.p x.a, b.p x.b, i.p x.c], fun k x h => by obtain ⟨j, rfl, h'⟩ := pred_of h; exact pu_three (a.pu j _ (by omega)) (b.pu j _ (by omega)) (i.pu j _ (by omega)), fun x y => by rw [ev3, a.eqv, b.eqv, i.eqv]; exact dec3 T3.ext_iff_⟩
instance [Dt α d] [Dt β e] [Dt γ c] [a : Tc α d] [b : Tc β e] [i : Tc γ c] : Tc (T3 α β γ) (max d (max e c) + 1) := ⟨fun k x h => by obtain ⟨j, rfl, h'⟩ := pred_of h; exact pt_three (a.pt j _ (by omega)) (b.pt j _ (by omega)) (i.pt j _ (by omega))⟩
instance dt_t4 [a : Dt α d] [b : Dt β e] [i : Dt γ c] [l : Dt δ k] : Dt (T4 α β γ δ) (max d (max e (max c k)) + 1) := ⟨fun x => .tuple [a.p x.a, b.p x.b, i.p x.c, l.p x.d], fun k x h => by obtain ⟨j, rfl, h'⟩ := pred_of h; exact pu_four (a.pu j _ (by omega)) (b.pu j _ (by omega)) (i.pu j _ (by omega)) (l.pu j _ (by omega)), fun x y => by rw [ev4, a.eqv, b.eqv, i.eqv, l.eqv]; exact dec4 T4.ext_iff_⟩
instance dt_list [a : Dt α d] : Dt (List α) (d + 1) := ⟨fun x => .list (x.map a.p), fun k x h => by
    obtain ⟨k, rfl, h'⟩ := pred_of h
    show (NL.mapO (pdU k) (x.map ec)).map _ = _
    rw [mapO_tl (p := a.p) (fun z => a.pu k z h')]; rfl, fun x y => by
    simp only [PyData.eqv]
    exact eqvAll_tl a.eqv x y⟩
instance : NonD Int 0 := ⟨fun a => by simp [Dt.p, PyData.eqv]⟩
instance : NonD Bool 0 := ⟨fun a => by simp [Dt.p, PyData.eqv]⟩
instance : NonD P 1 := ⟨fun a => by simp [Dt.p, PyData.eqv]⟩
instance {m : Nat} : NonD (Fr m) 1 := ⟨fun a => by simp [Dt.p, PyData.eqv]⟩
instance [Dt α d] [Dt β e] : NonD (α × β) (max d e + 1) := ⟨fun a => by simp [Dt.p, PyData.eqv]⟩
instance [Dt α d] [Dt β e] [Dt γ c] : NonD (T3 α β γ) (max d (max e c) + 1) := ⟨fun a => by simp [Dt.p, PyData.eqv]⟩
instance [Dt α d] : NonD (List α) (d + 1) := ⟨fun a => by simp [Dt.p, PyData.eqv]⟩
instance dt_opt [a : Dt α d] [n : NonD α d] : Dt (Option α) d := ⟨fun x => match x with | none => .none | some z => a.p z, fun k x h => by
    cases x with
    | none => cases k <;> rfl
    | some z => exact a.pu k z h, fun x y => by
    cases x with
    | none => cases y with
      | none => simp [PyData.eqv]
      | some z => simpa using (n.nn z).1
    | some w => cases y with
      | none => simpa using (n.nn w).2
      | some z =>
        show PyData.eqv (a.p w) (a.p z) = _
        rw [a.eqv]; exact decide_eq_decide.mpr (by simp)⟩
theorem eq_dt [a : Dt α d] (h : d ≤ 12) (x y : α) : VL.eqU (ec x) (ec y) = some (decide (x = y)) := by
  unfold VL.eqU
  rw [a.pu 12 x h, a.pu 12 y h, ← a.eqv x y]
theorem eq_dtT [a : Dt α d] [t : Tc α d] (h : d ≤ 12) (x y : α) : VL.eqT (ec x) (ec y) = some (decide (x = y)) := by
  unfold VL.eqT
  rw [t.pt 12 x h, t.pt 12 y h, ← a.eqv x y]
end
/-! ### in order -/
def ov {α : Type} (lt : α → α → Bool) : Cop → α → α → Bool
  | .lt, x, y => lt x y
  | .gt, x, y => lt y x
  | .le, x, y => !lt y x
  | .ge, x, y => !lt x y
  | _, _, _ => false
def Cop4 (o : Cop) : Prop := o = .lt ∨ o = .gt ∨ o = .le ∨ o = .ge
structure Od4 {α : Type} (f : α → U) (d : Nat) (lt : α → α → Bool) : Prop where
  od : ∀ (o : Cop), Cop4 o → ∀ (k : Nat) (x y : α), d ≤ k → ordU o k (f x) (f y) = some (ov lt o x y)
class Or (α : Type) [Ty α] [DecidableEq α] (d : outParam Nat) where
  lt : α → α → Bool
  od : Od4 (ec : α → U) d lt
  tot : Tot lt
/-- what sorted asks -/
class So (α : Type) [Ty α] [DecidableEq α] (d : outParam Nat) [Or α d] : Prop where
  hk : (∃ g : α → Int, ∀ x : α, toD (ec x) = .int (g x)) ∨ ∃ b, ∀ x : α, NL.firstT (toD (ec x)) = some b
theorem od4_int : Od4 U.int 0 ltI := ⟨fun o ho k x y _ => by
  rcases ho with rfl | rfl | rfl | rfl
  · cases k <;> rfl
  · cases k <;> rfl
  · cases k <;> (show some (decide (x ≤ y)) = some (!decide (y < x)); congr 1; rw [← decide_not]; exact decide_eq_decide.mpr Int.not_lt.symm)
  · cases k <;> (show some (decide (y ≤ x)) = some (!decide (x < y)); congr 1; rw [← decide_not]; exact decide_eq_decide.mpr Int.not_lt.symm)⟩
instance or_int : Or Int 0 := ⟨ltI, od4_int, tot_int⟩
instance : So Int 0 := ⟨.inl ⟨id, fun x => by simp [ec, toD]⟩⟩
/-- from the first place that differs -/
def lt2 {α β : Type} [DecidableEq α] (l : α → α → Bool) (m : β → β → Bool) (a b : α) (c d : β) : Bool := if a = b then m c d else l a b
theorem ov_self {α : Type} {lt : α → α → Bool} (t : Tot lt) {o : Cop} (ho : Cop4 o) (x : α) : ov lt o x x = ord4 o 0 0 := by
  rcases ho with rfl | rfl | rfl | rfl <;> simp [ov, ord4, t.ir]
theorem od_two {τ α β : Type} [Ty α] [Ty β] [DecidableEq τ] [DecidableEq α] [DecidableEq β] {d e a b : Nat} [Dt α a] [Dt β b] [Tc α a] [Tc β b] {l : α → α → Bool} {m : β → β → Bool} (ha : a ≤ 12) (hb : b ≤ 12) (of : Od4 (ec : α → U) d l) (og : Od4 (ec : β → U) e m) (tm : Tot m) (s : τ → α) (t : τ → β) :
    Od4 (fun x => .tup [ec (s x), ec (t x)]) (max d e + 1) (fun x y => lt2 l m (s x) (s y) (t x) (t y)) := by
  refine ⟨fun o ho k x y h => ?_⟩
  obtain ⟨k, rfl⟩ : ∃ j, k = j + 1 := ⟨k - 1, by omega⟩
  have e1 := eq_dtT (α := α) ha (s x) (s y)
  have e2 := eq_dtT (α := β) hb (t x) (t y)
  have o1 := of.od o ho k (s x) (s y) (by omega)
  have o2 := og.od o ho k (t x) (t y) (by omega)
  show ordU o (k + 1) (.tup [ec (s x), ec (t x)]) (.tup [ec (s y), ec (t y)]) = _
  unfold ordU
  have hall : ([ec (s x), ec (t x)].zip [ec (s y), ec (t y)]).all (ordC (ordU o k)) = true := by
    simp only [ordC, List.zip_cons_cons, List.zip_nil_right, List.all_cons, List.all_nil, Bool.and_true, e1, e2, o1, o2]
    cases decide (s x = s y) <;> cases decide (t x = t y) <;> rfl
  rw [if_pos hall, lexU_cons e1, lexU_last e2, o1, o2]
  by_cases h1 : s x = s y
  · rw [if_pos (by simpa using h1)]
    by_cases h2 : t x = t y
    · rw [if_pos (by simpa using h2), ← ov_self tm ho (t y)]
      rcases ho with rfl | rfl | rfl | rfl <;> simp [ov, lt2, h1, h2]
    · rw [if_neg (by simpa using h2)]
      rcases ho with rfl | rfl | rfl | rfl <;> simp [ov, lt2, h1]
  · rw [if_neg (by simpa using h1)]
    have h1' : ¬ s y = s x := fun z => h1 z.symm
    rcases ho with rfl | rfl | rfl | rfl <;> simp [ov, lt2, h1, h1']
theorem od_three {τ α β γ : Type} [Ty α] [Ty β] [Ty γ] [DecidableEq τ] [DecidableEq α] [DecidableEq β] [DecidableEq γ] {d e f a b c : Nat} [Dt α a] [Dt β b] [Dt γ c] [Tc α a] [Tc β b] [Tc γ c] {l : α → α → Bool} {m : β → β → Bool} {n : γ → γ → Bool} (ha : a ≤ 12) (hb : b ≤ 12) (hc : c ≤ 12)
    (of : Od4 (ec : α → U) d l) (og : Od4 (ec : β → U) e m) (oh : Od4 (ec : γ → U) f n) (tn : Tot n) (s : τ → α) (t : τ → β) (u : τ → γ) :
    Od4 (fun x => .tup [ec (s x), ec (t x), ec (u x)]) (max d (max e f) + 1) (fun x y => if s x = s y then lt2 m n (t x) (t y) (u x) (u y) else l (s x) (s y)) := by
  refine ⟨fun o ho k x y h => ?_⟩
  obtain ⟨k, rfl⟩ : ∃ j, k = j + 1 := ⟨k - 1, by omega⟩
  have e1 := eq_dtT (α := α) ha (s x) (s y)
  have e2 := eq_dtT (α := β) hb (t x) (t y)
  have e3 := eq_dtT (α := γ) hc (u x) (u y)
  have o1 := of.od o ho k (s x) (s y) (by omega)
  have o2 := og.od o ho k (t x) (t y) (by omega)
  have o3 := oh.od o ho k (u x) (u y) (by omega)
  show ordU o (k + 1) (.tup [ec (s x), ec (t x), ec (u x)]) (.tup [ec (s y), ec (t y), ec (u y)]) = _
  unfold ordU
  have hall : ([ec (s x), ec (t x), ec (u x)].zip [ec (s y), ec (t y), ec (u y)]).all (ordC (ordU o k)) = true := by
    simp only [ordC, List.zip_cons_cons, List.zip_nil_right, List.all_cons, List.all_nil, Bool.and_true, e1, e2, e3, o1, o2, o3]
    cases decide (s x = s y) <;> cases decide (t x = t y) <;> cases decide (u x = u y) <;> rfl
  rw [if_pos hall, lexU_cons e1, lexU_cons e2, lexU_last e3, o1, o2, o3]
  by_cases h1 : s x = s y
  · rw [if_pos (by simpa using h1)]
    by_cases h2 : t x = t y
    · rw [if_pos (by simpa using h2)]
      by_cases h3 : u x = u y
      · rw [if_pos (by simpa using h3), ← ov_self tn ho (u y)]
        rcases ho with rfl | rfl | rfl | rfl <;> simp [ov, lt2, h1, h2, h3]
      · rw [if_neg (by simpa using h3)]
        rcases ho with rfl | rfl | rfl | rfl <;> simp [ov, lt2, h1, h2]
    · rw [if_neg (by simpa using h2)]
      have h2' : ¬ t y = t x := fun z => h2 z.symm
      rcases ho with rfl | rfl | rfl | rfl <;> simp [ov, lt2, h1, h2, h2']
  · rw [if_neg (by simpa using h1)]
    have h1' : ¬ s y = s x := fun z => h1 z.symm
    rcases ho with rfl | rfl | rfl | rfl <;> simp [ov, lt2, h1, h1']
theorem tot_two {τ α β : Type} [DecidableEq α] {l : α → α → Bool} {m : β → β → Bool} (a : Tot l) (b : Tot m) (s : τ → α) (t : τ → β) (hx : ∀ x y, s x = s y → t x = t y → x = y) : Tot (fun x y => lt2 l m (s x) (s y) (t x) (t y)) := by
  have k := tot_pr a b
  exact ⟨fun x => k.ir (s x, t x), fun x y z => k.tr (s x, t x) (s y, t y) (s z, t z), fun x y hn => k.tt (s x, t x) (s y, t y) fun e => hn (hx x y (congrArg Prod.fst e) (congrArg Prod.snd e))⟩
theorem tot_three {τ α β γ : Type} [DecidableEq α] [DecidableEq β] {l : α → α → Bool} {m : β → β → Bool} {n : γ → γ → Bool} (a : Tot l) (b : Tot m) (c : Tot n) (s : τ → α) (t : τ → β) (u : τ → γ) (hx : ∀ x y, s x = s y → t x = t y → u x = u y → x = y) :
    Tot (fun x y => if s x = s y then lt2 m n (t x) (t y) (u x) (u y) else l (s x) (s y)) := by
  have k := tot_pr a (tot_pr b c)
  exact ⟨fun x => k.ir (s x, t x, u x), fun x y z => k.tr (s x, t x, u x) (s y, t y, u y) (s z, t z, u z), fun x y hn => k.tt (s x, t x, u x) (s y, t y, u y) fun e => hn (hx x y (congrArg Prod.fst e) (congrArg (·.2.1) e) (congrArg (·.2.2) e))⟩
def ltPP (a b : P) : Bool := lt2 ltI ltI a.x b.x a.y b.y
instance or_p : Or P 1 := ⟨ltPP, od_two (α := Int) (β := Int) (by omega) (by omega) od4_int od4_int tot_int P.x P.y, tot_two tot_int tot_int P.x P.y fun _ _ => P.ext_⟩
instance : So P 1 := ⟨.inr ⟨true, fun x => by simp [ec, toD, toDs, NL.firstT]⟩⟩
section
variable {α β γ : Type} [Ty α] [Ty β] [Ty γ] [DecidableEq α] [DecidableEq β] [DecidableEq γ]
/-- data is not too deep -/
class Lo (d : Nat) : Prop where
  lo : d ≤ 8
instance or_pr {a b d e : Nat} [Dt α a] [Dt β b] [Tc α a] [Tc β b] [x : Or α d] [y : Or β e] [ha : Lo a] [hb : Lo b] : Or (α × β) (max d e + 1) :=
  ⟨fun p q => lt2 x.lt y.lt p.1 q.1 p.2 q.2, od_two (Nat.le_trans ha.lo (by omega)) (Nat.le_trans hb.lo (by omega)) x.od y.od y.tot Prod.fst Prod.snd, tot_two x.tot y.tot Prod.fst Prod.snd fun _ _ => Prod.ext⟩
instance or_t3 {a b c d e f : Nat} [Dt α a] [Dt β b] [Dt γ c] [Tc α a] [Tc β b] [Tc γ c] [x : Or α d] [y : Or β e] [z : Or γ f] [ha : Lo a] [hb : Lo b] [hc : Lo c] : Or (T3 α β γ) (max d (max e f) + 1) :=
  ⟨fun p q => if p.a = q.a then lt2 y.lt z.lt p.b q.b p.c q.c else x.lt p.a q.a, od_three (Nat.le_trans ha.lo (by omega)) (Nat.le_trans hb.lo (by omega)) (Nat.le_trans hc.lo (by omega)) x.od y.od z.od z.tot T3.a T3.b T3.c, tot_three x.tot y.tot z.tot T3.a T3.b T3.c fun _ _ h k l => T3.ext_iff_.mpr ⟨h, k, l⟩⟩
instance : Lo 0 := ⟨by decide⟩
instance : Lo (max 0 0 + 1) := ⟨by decide⟩
instance : Lo 1 := ⟨by decide⟩
instance : Lo 2 := ⟨by decide⟩
instance : Lo (max 1 1 + 1) := ⟨by decide⟩
instance : Lo (max 1 (max 1 1) + 1) := ⟨by decide⟩
instance : Lo (max 0 (max 0 0) + 1) := ⟨by decide⟩
instance {b e : Nat} [Dt β b] [Tc β b] [Or β e] [Lo b] : So (Int × β) (max 0 e + 1) := ⟨.inr ⟨true, fun x => by simp [ec, toD, toDs, NL.firstT]⟩⟩
instance {b e : Nat} [Dt β b] [Tc β b] [Or β e] [Lo b] : So (P × β) (max 1 e + 1) := ⟨.inr ⟨false, fun x => by simp [ec, toD, toDs, NL.firstT]⟩⟩
instance {b c e f : Nat} [Dt β b] [Dt γ c] [Tc β b] [Tc γ c] [Or β e] [Or γ f] [Lo b] [Lo c] : So (T3 Int β γ) (max 0 (max e f) + 1) := ⟨.inr ⟨true, fun x => by simp [ec, toD, toDs, NL.firstT]⟩⟩
instance {b c e f : Nat} [Dt β b] [Dt γ c] [Tc β b] [Tc γ c] [Or β e] [Or γ f] [Lo b] [Lo c] : So (T3 P β γ) (max 1 (max e f) + 1) := ⟨.inr ⟨false, fun x => by simp [ec, toD, toDs, NL.firstT]⟩⟩
end
example : So (T3 P P P) (max 1 (max 1 1) + 1) := inferInstance
example : So (P × P) (max 1 1 + 1) := inferInstance
example : So (T3 Int P P) (max 0 (max 1 1) + 1) := inferInstance
example : Or (Int × (P × P)) (max 0 (max 1 1 + 1) + 1) := inferInstance
end TL

/-! A typed answer stands for a tree: expressions. -/
namespace TL
open PySem PySem.Spec PyProof.Rows L2 NL GM VL
open Ty (ec)
/-- where the typed reading answers, the trees answer so -/
def Rf {α : Type} [Ty α] (r : VR U) (g : VR α) : Prop := match g with
  | .ok a => r = .ok (ec a)
  | .exc c u => r = .exc c u
  | .stuck => True
/-- .. the items -/
def Rl {α : Type} [Ty α] (r : VR (List U)) (g : VR (List α)) : Prop := match g with
  | .ok l => r = .ok (l.map ec)
  | .exc c u => r = .exc c u
  | .stuck => True
/-- .. a thing as it is -/
def Ri {α : Type} (r : VR α) (g : VR α) : Prop := match g with
  | .ok a => r = .ok a
  | .exc c u => r = .exc c u
  | .stuck => True
section
variable {α β γ δ ε ζ η : Type} [Ty α] [Ty β] [Ty γ] [Ty δ] [Ty ε] [Ty ζ] [Ty η]
theorem Rf.bi {r : VR U} {f : U → VR U} {g : VR α} {k : α → VR β} (h : Rf r g) (hk : ∀ a, Rf (f (ec a)) (k a)) : Rf (r.bind f) (g.bind k) := by
  cases g with
  | ok a => rw [show r = .ok (ec a) from h]; exact hk a
  | exc c u => rw [show r = .exc c u from h]; exact (rfl : (VR.exc c u : VR U) = .exc c u)
  | stuck => trivial
theorem Rf.bil {r : VR U} {f : U → VR (List U)} {g : VR α} {k : α → VR (List β)} (h : Rf r g) (hk : ∀ a, Rl (f (ec a)) (k a)) : Rl (r.bind f) (g.bind k) := by
  cases g with
  | ok a => rw [show r = .ok (ec a) from h]; exact hk a
  | exc c u => rw [show r = .exc c u from h]; exact (rfl : (VR.exc c u : VR (List U)) = .exc c u)
  | stuck => trivial
theorem Rl.bi {r : VR (List U)} {f : List U → VR U} {g : VR (List α)} {k : List α → VR β} (h : Rl r g) (hk : ∀ l, Rf (f (l.map ec)) (k l)) : Rf (r.bind f) (g.bind k) := by
  cases g with
  | ok a => rw [show r = .ok (a.map ec) from h]; exact hk a
  | exc c u => rw [show r = .exc c u from h]; exact (rfl : (VR.exc c u : VR U) = .exc c u)
  | stuck => trivial
theorem Rf.eq {r : VR U} {g : VR α} {a : α} (h : Rf r g) (e : g = .ok a) : r = .ok (ec a) := by subst e; exact h
theorem Rf.then {r : VR U} {g : VR α} {k : α → VR β} (h : Rf r g) (hk : ∀ a, Rf (.ok (ec a)) (k a)) : Rf r (g.bind k) := by
  cases g with
  | ok a => rw [show r = .ok (ec a) from h]; exact hk a
  | exc c u => rw [show r = .exc c u from h]; exact (rfl : (VR.exc c u : VR U) = .exc c u)
  | stuck => trivial
/-! ### what an operation answers -/
theorem rf_rfl {a : α} : Rf (.ok (ec a)) (.ok a) := (rfl : (VR.ok (ec a)) = .ok (ec a))
@[irreducible] noncomputable def mulM (x y : Int) : VR Int := @ite _ (MulOk x y) (Classical.propDecidable _) (.ok (x * y)) .stuck
@[irreducible] noncomputable def fdivM (x y : Int) : VR Int := @ite _ (y ≠ 0 ∧ y.natAbs.log2 < 9000) (Classical.propDecidable _)  (.ok (x.fdiv y)) .stuck
@[irreducible] noncomputable def modM (x y : Int) : VR Int := @ite _ (y ≠ 0) (Classical.propDecidable _)  (.ok (x.fmod y)) .stuck
@[irreducible] noncomputable def powM (x y : Int) : VR Int := @ite _ (0 ≤ y ∧ (Builtin.Int.intBits x : Int) * y ≤ 2 ^ 27) (Classical.propDecidable _)  (.ok (x ^ y.toNat)) .stuck
@[irreducible] noncomputable def repM (l : List α) (n : Int) : VR (List α) := @ite _ (-(2 ^ 63) ≤ n ∧ n < 2 ^ 63 ∧ l.length * n.toNat ≤ sizeLine) (Classical.propDecidable _)  (.ok (List.replicate n.toNat l).flatten) .stuck
@[irreducible] def atM {α : Type} (l : List α) (i : Int) : VR α := match L2.atI l i with | some a => .ok a | none => .stuck
theorem oAdd (x y : Int) : Rf (binU .add (ec x) (ec y)) (.ok (x + y)) := rfl
theorem oSub (x y : Int) : Rf (binU .sub (ec x) (ec y)) (.ok (x - y)) := rfl
theorem oMul (x y : Int) : Rf (binU .mul (ec x) (ec y)) (mulM x y) := by
  unfold mulM
  split
  · rename_i h
    show binU .mul (.int x) (.int y) = .ok (.int (x * y))
    simp only [binU, if_pos h]
  · trivial
theorem oFdiv (x y : Int) : Rf (binU .fdiv (ec x) (ec y)) (fdivM x y) := by
  unfold fdivM
  split
  · rename_i h
    show binU .fdiv (.int x) (.int y) = .ok (.int (x.fdiv y))
    simp only [binU, if_pos h]
  · trivial
theorem oMod (x y : Int) : Rf (binU .mod (ec x) (ec y)) (modM x y) := by
  unfold modM
  split
  · rename_i h
    show binU .mod (.int x) (.int y) = .ok (.int (x.fmod y))
    simp only [binU, if_pos h]
  · trivial
theorem oPow (x y : Int) : Rf (binU .pow (ec x) (ec y)) (powM x y) := by
  unfold powM
  split
  · rename_i h
    show binU .pow (.int x) (.int y) = .ok (.int (x ^ y.toNat))
    simp only [binU, if_pos h]
  · trivial
theorem oRep (l : List α) (n : Int) : Rf (binU .mul (ec l) (ec n)) (repM l n) := by
  unfold repM
  split
  · rename_i h
    show binU .mul (.lst (l.map ec)) (.int n) = .ok (.lst ((List.replicate n.toNat l).flatten.map ec))
    simp only [binU, List.length_map, if_pos h]
    congr 2
    generalize n.toNat = k
    induction k with
    | zero => rfl
    | succ k ih => rw [List.replicate_succ, List.replicate_succ, List.flatten_cons, List.flatten_cons, List.map_append, ih]
  · trivial
theorem atI_map {α β : Type} {f : α → β} {l : List α} {i : Int} : L2.atI (l.map f) i = (L2.atI l i).map f := by
  unfold L2.atI
  rw [List.length_map]
  cases L2.ixN l.length i with
  | none => rfl
  | some j => show (l.map f)[j]? = (l[j]?).map f; rw [List.getElem?_map]
theorem atM_rf {l : List α} {i : Int} {r : VR U} (h : ∀ u, L2.atI (l.map ec) i = some u → r = .ok u) : Rf r (atM l i) := by
  unfold atM
  cases e : L2.atI l i with
  | none => trivial
  | some a => exact h (ec a) (by rw [atI_map, e]; rfl)
theorem oAt (l : List α) (i : Int) : Rf (ixU (ec l) (ec i)) (atM l i) := atM_rf fun u h => by
  show ixU (.lst (l.map ec)) (.int i) = .ok u
  simp only [ixU, sqU, h]
theorem oAtS (l : Scr) (i : Int) : Rf (ixU (ec l) (ec i)) (atM l.ns i) := atM_rf fun u h => by
  show ixU (.frz (l.ns.map U.int)) (.int i) = .ok u
  have h : L2.atI (l.ns.map U.int) i = some u := h
  simp only [ixU, sqU, h]
/-! comparisons -/
theorem oLt (x y : Int) : Rf (cmpU .lt (ec x) (ec y)) (.ok (decide (x < y))) := rfl
theorem oGt (x y : Int) : Rf (cmpU .gt (ec x) (ec y)) (.ok (decide (y < x))) := rfl
end
section
variable {α : Type} [Ty α] [DecidableEq α] {d e : Nat}
theorem oEq [Dt α d] (h : d ≤ 12 := by decide) (x y : α) : Rf (cmpU .eq (ec x) (ec y)) (.ok (decide (x = y))) := by
  show ofU (VL.eqU (ec x) (ec y)) = .ok (.bl _)
  rw [eq_dt h]; rfl
theorem oNe [Dt α d] (h : d ≤ 12 := by decide) (x y : α) : Rf (cmpU .ne (ec x) (ec y)) (.ok (!decide (x = y))) := by
  show ofU ((VL.eqU (ec x) (ec y)).map (!·)) = .ok (.bl _)
  rw [eq_dt h]; rfl
/-- the order of a type -/
def lt [o : Or α d] : α → α → Bool := o.lt
end
section
variable {α : Type} [Ty α]
theorem oIsnBI (x : Int) (b : Bool) : Rf (cmpU .isNot (ec x) (ec b)) (.ok true) := rfl
end
end TL

/-! A typed answer stands for a tree: expressions, one construct at a time. -/
namespace TL
open PySem PySem.Spec PyProof.Rows L2 NL GM VL
open Ty (ec)
section
variable {C : Nat → List U → VR U} {en : VEnv}
abbrev Ev {α : Type} [Ty α] (C : Nat → List U → VR U) (e : E) (en : VEnv) (g : VR α) : Prop := Rf (evV C e en) g
section
variable {α β γ δ : Type} [Ty α] [Ty β] [Ty γ] [Ty δ]
theorem ev_var {i : Nat} {a : α} (h : getV en i = .ok (ec a)) : Ev C (.var i) en (.ok a) := by
  unfold Ev; rw [evV, h]; exact rf_rfl
theorem ev_int {i : Int} : Ev (α := Int) C (.con (.int i)) en (.ok i) := by unfold Ev; rw [evV]; exact rf_rfl
theorem ev_bool {b : Bool} : Ev (α := Bool) C (.con (.bl b)) en (.ok b) := by unfold Ev; rw [evV]; exact rf_rfl
theorem ev_unit : Ev (α := Unit) C (.con .non) en (.ok ()) := by unfold Ev; rw [evV]; exact rf_rfl
/-! a reading told otherwise -/
/-! operators -/
theorem ev_bin {o : Bop} {a b : E} {ga : VR α} {gb : VR β} {op : α → β → VR γ} (ho : ∀ x y, Rf (binU o (ec x) (ec y)) (op x y)) (ha : Ev C a en ga) (hb : Ev C b en gb) : Ev C (.bin o a b) en (ga.bind fun x => gb.bind fun y => op x y) := by
  unfold Ev; rw [evV]; exact Rf.bi ha fun x => Rf.bi hb fun y => ho x y
theorem ev_cmp {o : Cop} {a b : E} {ga : VR α} {gb : VR β} {op : α → β → VR γ} (ho : ∀ x y, Rf (cmpU o (ec x) (ec y)) (op x y)) (ha : Ev C a en ga) (hb : Ev C b en gb) : Ev C (.cmp o a b) en (ga.bind fun x => gb.bind fun y => op x y) := by
  unfold Ev; rw [evV]; exact Rf.bi ha fun x => Rf.bi hb fun y => ho x y
theorem ev_neg {a : E} {ga : VR Int} (ha : Ev C a en ga) : Ev C (.neg a) en (ga.bind fun x => .ok (-x)) := by
  unfold Ev; rw [evV]; exact Rf.bi ha fun x => rfl
theorem ev_not {a : E} {ga : VR Bool} (ha : Ev C a en ga) : Ev C (.not a) en (ga.bind fun x => .ok (!x)) := by
  unfold Ev; rw [evV]; exact Rf.bi ha fun x => rfl
theorem ev_and {a b : E} {ga gb : VR Bool} (ha : Ev C a en ga) (hb : Ev C b en gb) : Ev C (.and a b) en (ga.bind fun t => if t = true then gb else .ok false) := by
  unfold Ev; rw [evV]; exact Rf.bi ha fun t => by cases t; exact rfl; exact hb
theorem ev_or {a b : E} {ga gb : VR Bool} (ha : Ev C a en ga) (hb : Ev C b en gb) : Ev C (.or a b) en (ga.bind fun t => if t = true then .ok true else gb) := by
  unfold Ev; rw [evV]; exact Rf.bi ha fun t => by cases t; exact hb; exact rfl
theorem ev_andP {a b : E} {x y : Bool} (ha : Ev C a en (.ok x)) (hb : Ev C b en (.ok y)) : Ev C (.and a b) en (.ok (x && y)) := by
  have z := ev_and ha hb; cases x <;> exact z
theorem ev_orP {a b : E} {x y : Bool} (ha : Ev C a en (.ok x)) (hb : Ev C b en (.ok y)) : Ev C (.or a b) en (.ok (x || y)) := by
  have z := ev_or ha hb; cases x <;> exact z
theorem ev_ite {c a b : E} {gc : VR Bool} {ga gb : VR α} (hc : Ev C c en gc) (ha : Ev C a en ga) (hb : Ev C b en gb) : Ev C (.ite c a b) en (gc.bind fun t => if t = true then ga else gb) := by
  unfold Ev; rw [evV]; exact Rf.bi hc fun t => by cases t; exact hb; exact ha
/-! items -/
abbrev Evl (C : Nat → List U → VR U) (es : Es) (en : VEnv) (g : VR (List α)) : Prop := Rl (evVs C es en) g
theorem evl_nil : Evl C .nil en (.ok ([] : List α)) := by unfold Evl; rw [evVs]; exact (rfl : (VR.ok []) = .ok _)
theorem Rl.bil {r : VR (List U)} {f : List U → VR (List U)} {g : VR (List α)} {k : List α → VR (List β)} (h : Rl r g) (hk : ∀ l, Rl (f (l.map ec)) (k l)) : Rl (r.bind f) (g.bind k) := by
  cases g with
  | ok a => rw [show r = .ok (a.map ec) from h]; exact hk a
  | exc c u => rw [show r = .exc c u from h]; exact (rfl : (VR.exc c u : VR (List U)) = .exc c u)
  | stuck => trivial
theorem evl_cons {e : E} {es : Es} {g : VR α} {gs : VR (List α)} (h : Ev C e en g) (hs : Evl C es en gs) : Evl C (.cons e es) en (g.bind fun a => gs.bind fun l => .ok (a :: l)) := by
  unfold Evl; rw [evVs]; exact Rf.bil h fun a => Rl.bil hs fun l => (rfl : VR.ok _ = .ok _)
theorem evVs_len : ∀ (es : Es) (us : List U), evVs C es en = .ok us → us.length = es.len
  | .nil, us, h => by rw [evVs] at h; cases h; rfl
  | .cons e es, us, h => by
    rw [evVs] at h
    obtain ⟨a, _, h2⟩ := VR.bind_ok h
    obtain ⟨l, h3, h4⟩ := VR.bind_ok h2
    cases h4
    show l.length + 1 = es.len + 1
    rw [evVs_len es l h3]
theorem ev_lst {es : Es} {g : VR (List α)} (h : Evl C es en g) (hn : es.len ≤ 1000 := by decide) : Ev C (.lst es) en g := by
  have h : Rl (evVs C es en) g := h
  unfold Ev; rw [evV]
  cases e : evVs C es en with
  | ok us =>
    have hl := evVs_len es us e
    show Rf (if us.length ≤ sizeLine then .ok (.lst us) else .stuck) g
    rw [if_pos (by rw [hl]; exact Nat.le_of_lt (small1000 hn))]
    cases g with
    | ok l => rw [e] at h; cases (show VR.ok us = .ok (l.map ec) from h); exact rfl
    | exc c u => rw [e] at h; cases (show VR.ok us = .exc c u from h)
    | stuck => trivial
  | exc c u =>
    cases g with
    | ok l => rw [e] at h; cases (show VR.exc c u = .ok (l.map ec) from h)
    | exc c u => rw [e] at h; cases (show VR.exc _ _ = VR.exc _ _ from h); exact rfl
    | stuck => trivial
  | stuck =>
    cases g with
    | ok l => rw [e] at h; cases (show VR.stuck = .ok (l.map ec) from h)
    | exc c u => rw [e] at h; cases (show VR.stuck = .exc c u from h)
    | stuck => trivial
theorem sz2 {a b : U} {k : VR U} : (if [a, b].length ≤ sizeLine then k else .stuck) = k := if_pos (Nat.le_of_lt (small1000 (by simp)))
theorem sz3 {a b c : U} {k : VR U} : (if [a, b, c].length ≤ sizeLine then k else .stuck) = k := if_pos (Nat.le_of_lt (small1000 (by simp)))
theorem ev_tup2 {a b : E} {ga : VR α} {gb : VR β} (ha : Ev C a en ga) (hb : Ev C b en gb) : Ev C (.tup (.cons a (.cons b .nil))) en (ga.bind fun x => gb.bind fun y => .ok (x, y)) := by
  unfold Ev; rw [evV, evVs, evVs, evVs]; simp only [VL.bind_as, ok_bi, sz2]; exact Rf.bi ha fun x => Rf.bi hb fun y => rfl
theorem ev_tup3 {a b c : E} {ga : VR α} {gb : VR β} {gc : VR γ} (ha : Ev C a en ga) (hb : Ev C b en gb) (hc : Ev C c en gc) : Ev C (.tup (.cons a (.cons b (.cons c .nil)))) en (ga.bind fun x => gb.bind fun y => gc.bind fun z => .ok (T3.mk x y z)) := by
  unfold Ev; rw [evV, evVs, evVs, evVs, evVs]; simp only [VL.bind_as, ok_bi, sz3]; exact Rf.bi ha fun x => Rf.bi hb fun y => Rf.bi hc fun z => rfl
/-! places -/
theorem ev_idx {a b : E} {ga : VR α} {gb : VR β} {op : α → β → VR γ} (ho : ∀ x y, Rf (ixU (ec x) (ec y)) (op x y)) (ha : Ev C a en ga) (hb : Ev C b en gb) : Ev C (.idx a b) en (ga.bind fun x => gb.bind fun y => op x y) := by
  unfold Ev; rw [evV]; exact Rf.bi ha fun x => Rf.bi hb fun y => ho x y
theorem ev_ixc {a : E} {i : Int} {ga : VR α} {k : α → β} (ho : ∀ x, ixU (ec x) (.int i) = .ok (ec (k x))) (ha : Ev C a en ga) : Ev C (.idx a (.con (.int i))) en (ga.bind fun x => .ok (k x)) := by
  unfold Ev; rw [evV]; exact Rf.bi ha fun x => by rw [evV]; exact ho x
theorem ixU_0 {a : U} {r : List U} : ixU (.tup (a :: r)) (.int 0) = .ok a := by simp only [ixU, at_0]
theorem ixU_1 {a b : U} {r : List U} : ixU (.tup (a :: b :: r)) (.int 1) = .ok b := by simp only [ixU, at_1]
theorem ev_px {a : E} {ga : VR P} (ha : Ev C a en ga) : Ev C (.idx a (.con (.int 0))) en (ga.bind fun x => .ok x.x) := ev_ixc (fun _ => ixU_0) ha
theorem ev_py {a : E} {ga : VR P} (ha : Ev C a en ga) : Ev C (.idx a (.con (.int 1))) en (ga.bind fun x => .ok x.y) := ev_ixc (fun _ => ixU_1) ha
theorem ev_fn {m : Nat} {a : E} {ga : VR (Fr m)} (ha : Ev C a en ga) : Ev C (.idx a (.con (.int 0))) en (ga.bind fun x => .ok x.n) := ev_ixc (fun _ => ixU_0) ha
theorem ev_fd {m : Nat} {a : E} {ga : VR (Fr m)} (ha : Ev C a en ga) : Ev C (.idx a (.con (.int 1))) en (ga.bind fun x => .ok x.d) := ev_ixc (fun _ => ixU_1) ha
theorem ev_fst {a : E} {ga : VR (α × β)} (ha : Ev C a en ga) : Ev C (.idx a (.con (.int 0))) en (ga.bind fun x => .ok x.1) := ev_ixc (fun _ => ixU_0) ha
theorem ev_snd {a : E} {ga : VR (α × β)} (ha : Ev C a en ga) : Ev C (.idx a (.con (.int 1))) en (ga.bind fun x => .ok x.2) := ev_ixc (fun _ => ixU_1) ha
/-! slices -/
/-! built-in calls -/
theorem ev_b1 {t : Blt} {a : E} {ga : VR α} {op : α → VR β} (ho : ∀ x, Rf (bltU t [ec x]) (op x)) (ha : Ev C a en ga) : Ev C (.blt t (.cons a .nil)) en (ga.bind fun x => op x) := by
  unfold Ev; rw [evV, evVs, evVs]; simp only [VL.bind_as, ok_bi]; exact Rf.bi ha fun x => ho x
theorem ev_isi {T : NL.Ty} {a : E} {ga : VR α} {k : α → Bool} (ho : ∀ x : α, isiU T (ec x) = .ok (.bl (k x))) (ha : Ev C a en ga) : Ev C (.isi a T) en (ga.bind fun x => .ok (k x)) := by
  unfold Ev; rw [evV]; exact Rf.bi ha fun x => ho x
theorem bAbs (x : Int) : Rf (bltU .abs [ec x]) (.ok (if x < 0 then -x else x)) := rfl
theorem bIntB (x : Bool) : Rf (bltU .int [ec x]) (.ok (if x = true then (1 : Int) else 0)) := rfl
theorem bLenS (l : Scr) : Rf (bltU .len [ec l]) (.ok (l.ns.length : Int)) := by
  show VR.ok (U.int ((l.ns.map U.int).length : Int)) = .ok (.int (l.ns.length : Int))
  rw [List.length_map]
theorem bLen2 (l : α × β) : Rf (bltU .len [ec l]) (.ok (2 : Int)) := rfl
theorem bLenF {m : Nat} (l : Fr m) : Rf (bltU .len [ec l]) (.ok (2 : Int)) := rfl
end
/-! the least, the greatest, in order -/
section
variable {α : Type} [Ty α] [DecidableEq α] {d : Nat}
def mnT [Or α d] (x y : α) : α := if lt y x = true then y else x
def mxT [Or α d] (x y : α) : α := if lt x y = true then y else x
def srtL [Or α d] (l : List α) : List α := srt lt l
end
/-! comprehensions -/
section
variable {α β σ : Type} [Ty α] [Ty β]
def noXT {α : Type} (r : VR α) : VR α := match r with
  | .ok a => .ok a
  | _ => .stuck
/-- what is walked -/
def It (C : Nat → List U → VR U) (it : NL.It) (en : VEnv) (gi : VR (List α)) : Prop := (∀ l, gi = .ok l → ∃ w, evVt C it en = .ok (l.map ec, w)) ∧ ∀ c u, gi = .exc c u → evVt C it en = .exc c u
end
section
variable {α β : Type} [Ty α] [Ty β]
/-- the numbers from i below j -/
def rngL (i j : Int) : List Int := (List.range (j - i).toNat).map fun k => i + (k : Nat)
@[irreducible] noncomputable def rngM (i j : Int) : VR (List Int) := @ite _ (-(2 ^ 62) ≤ i ∧ i < 2 ^ 62 ∧ -(2 ^ 62) ≤ j ∧ j < 2 ^ 62) (Classical.propDecidable _) (.ok (rngL i j)) .stuck
theorem rng_rl (i j : Int) : Rl (rngU (ec i) (ec j)) (rngM i j) := by
  unfold rngM
  split
  · rename_i h
    show (if -(2 ^ 62) ≤ i ∧ i < 2 ^ 62 ∧ -(2 ^ 62) ≤ j ∧ j < 2 ^ 62 then VR.ok ((List.range (j - i).toNat).map fun k => U.int (i + (k : Nat))) else .stuck) = _
    rw [if_pos h]; unfold rngL; rw [List.map_map]; rfl
  · trivial
end
theorem ev_c1 {τ0 ρ : Type} [Ty τ0] [Ty ρ] {f : Nat} {ex0 : E} {gx0 : VR τ0} {gf : τ0 → VR ρ} (hf : ∀ x0, Rf (C f [ec x0]) (gf x0)) (hx0 : Ev C ex0 en gx0) : Ev C (.call f (.cons ex0 .nil)) en (gx0.bind fun x0 => gf x0) := by
  unfold Ev; rw [evV, evVs, evVs]; simp only [VL.bind_as, ok_bi]; exact Rf.bi hx0 fun x0 => hf x0
theorem ev_c2 {τ0 τ1 ρ : Type} [Ty τ0] [Ty τ1] [Ty ρ] {f : Nat} {ex0 ex1 : E} {gx0 : VR τ0} {gx1 : VR τ1} {gf : τ0 → τ1 → VR ρ} (hf : ∀ x0 x1, Rf (C f [ec x0, ec x1]) (gf x0 x1)) (hx0 : Ev C ex0 en gx0) (hx1 : Ev C ex1 en gx1) : Ev C (.call f (.cons ex0 (.cons ex1 .nil))) en (gx0.bind fun x0 => gx1.bind fun x1 => gf x0 x1) := by
  unfold Ev; rw [evV, evVs, evVs, evVs]; simp only [VL.bind_as, ok_bi]; exact Rf.bi hx0 fun x0 => Rf.bi hx1 fun x1 => hf x0 x1
theorem ev_c3 {τ0 τ1 τ2 ρ : Type} [Ty τ0] [Ty τ1] [Ty τ2] [Ty ρ] {f : Nat} {ex0 ex1 ex2 : E} {gx0 : VR τ0} {gx1 : VR τ1} {gx2 : VR τ2} {gf : τ0 → τ1 → τ2 → VR ρ} (hf : ∀ x0 x1 x2, Rf (C f [ec x0, ec x1, ec x2]) (gf x0 x1 x2)) (hx0 : Ev C ex0 en gx0) (hx1 : Ev C ex1 en gx1) (hx2 : Ev C ex2 en gx2) : Ev C (.call f (.cons ex0 (.cons ex1 (.cons ex2 .nil)))) en (gx0.bind fun x0 => gx1.bind fun x1 => gx2.bind fun x2 => gf x0 x1 x2) := by
  unfold Ev; rw [evV, evVs, evVs, evVs, evVs]; simp only [VL.bind_as, ok_bi]; exact Rf.bi hx0 fun x0 => Rf.bi hx1 fun x1 => Rf.bi hx2 fun x2 => hf x0 x1 x2
theorem ev_c5 {τ0 τ1 τ2 τ3 τ4 ρ : Type} [Ty τ0] [Ty τ1] [Ty τ2] [Ty τ3] [Ty τ4] [Ty ρ] {f : Nat} {ex0 ex1 ex2 ex3 ex4 : E} {gx0 : VR τ0} {gx1 : VR τ1} {gx2 : VR τ2} {gx3 : VR τ3} {gx4 : VR τ4} {gf : τ0 → τ1 → τ2 → τ3 → τ4 → VR ρ} (hf : ∀ x0 x1 x2 x3 x4, Rf (C f [ec x0, ec x1, ec x2, ec x3, ec x4]) (gf x0 x1 x2 x3 x4)) (hx0 : Ev C ex0 en gx0) (hx1 : Ev C ex1 en gx1) (hx2 : Ev C ex2 en gx2) (hx3 : Ev C ex3 en gx3) (hx4 : Ev C ex4 en gx4) : Ev C (.call f (.cons ex0 (.cons ex1 (.cons ex2 (.cons ex3 (.cons ex4 .nil)))))) en (gx0.bind fun x0 => gx1.bind fun x1 => gx2.bind fun x2 => gx3.bind fun x3 => gx4.bind fun x4 => gf x0 x1 x2 x3 x4) := by
  unfold Ev; rw [evV, evVs, evVs, evVs, evVs, evVs, evVs]; simp only [VL.bind_as, ok_bi]; exact Rf.bi hx0 fun x0 => Rf.bi hx1 fun x1 => Rf.bi hx2 fun x2 => Rf.bi hx3 fun x3 => Rf.bi hx4 fun x4 => hf x0 x1 x2 x3 x4
end
end TL

/-! A typed answer stands for a tree: statements, loops, defs. -/
namespace TL
open PySem PySem.Spec PyProof.Rows L2 NL GM VL
open Ty (ec)
def Rb {γ : Type} (r : VR VF) (g : VR γ) (D : γ → VF → Prop) : Prop := match g with
  | .ok x => ∃ f, r = .ok f ∧ D x f
  | .exc c u => r = .exc c u
  | .stuck => True
/-- where a block may end: on, broken off, told -/
inductive Fl (σ ρ : Type) where
  | nx (s : σ) | bk (s : σ) | rt (a : ρ)
def Fl.elim {σ ρ γ : Type} (kn : σ → γ) (kr : ρ → γ) : Fl σ ρ → γ
  | .nx s => kn s
  | .bk s => kn s
  | .rt a => kr a
/-- told -/
def Dr {ρ : Type} [Ty ρ] (w : Bool) (a : ρ) (f : VF) : Prop := ∃ o, f = .ret o (ec a) ∧ (w = true → isL (ec a) = true → o = true)
/-- on, the names so -/
def Dj {σ : Type} (R : σ → VEnv → Prop) (s : σ) (f : VF) : Prop := ∃ en, f = .nx en ∧ R s en
/-- .. or the next turn -/
def Dn {σ : Type} (R : σ → VEnv → Prop) (s : σ) (f : VF) : Prop := ∃ en, (f = .nx en ∨ f = .cnt en) ∧ R s en
def Dl {σ ρ : Type} [Ty ρ] (w : Bool) (R : σ → VEnv → Prop) : Fl σ ρ → VF → Prop
  | .nx s, f => Dn R s f
  | .bk s, f => ∃ en, f = .brk en ∧ R s en
  | .rt a, f => Dr w a f
/-- on, or told -/
def De {σ ρ : Type} [Ty ρ] (w : Bool) (R : σ → VEnv → Prop) : Fl σ ρ → VF → Prop
  | .nx s, f => Dj R s f
  | .bk s, f => Dj R s f
  | .rt a, f => Dr w a f
section
variable {fr : Nat → Bool} {C : Nat → List U → VR U} {en : VEnv} {γ : Type} {D : γ → VF → Prop} {r : Sts} {i : Nat} {e : E}
abbrev Bx (fr : Nat → Bool) (C : Nat → List U → VR U) (ss : Sts) (en : VEnv) (g : VR γ) (D : γ → VF → Prop) : Prop := Rb (exVB fr C ss en) g D
theorem Rb.eq {x y : VR VF} {g : VR γ} (e : x = y) (h : Rb y g D) : Rb x g D := by rw [e]; exact h
theorem Rf.bb {α : Type} [Ty α] {x : VR U} {f : U → VR VF} {g : VR α} {k : α → VR γ} (h : Rf x g) (hk : ∀ a, Rb (f (ec a)) (k a) D) : Rb (x.bind f) (g.bind k) D := by
  cases g with
  | ok a => rw [show x = .ok (ec a) from h]; exact hk a
  | exc c u => rw [show x = .exc c u from h]; exact (rfl : (VR.exc c u : VR VF) = .exc c u)
  | stuck => trivial
theorem Rb.bi {γ' : Type} {D' : γ' → VF → Prop} {x : VR VF} {f : VF → VR VF} {g : VR γ'} {k : γ' → VR γ} (h : Rb x g D') (hk : ∀ a f', D' a f' → Rb (f f') (k a) D) : Rb (x.bind f) (g.bind k) D := by
  cases g with
  | ok a => obtain ⟨f', h1, h2⟩ := h; rw [h1]; exact hk a f' h2
  | exc c u => rw [show x = .exc c u from h]; exact (rfl : (VR.exc c u : VR VF) = .exc c u)
  | stuck => trivial
/-! what a statement does to the names -/
theorem cons_eq {s : NL.St} : exVB fr C (.cons s r) en = (exV fr C s en).bind fun f => match f with
    | .nx en' => exVB fr C r en'
    | f => .ok f := by rw [exVB] <;> rfl
/-- a statement, then the rest -/
theorem rb_cut {γ' : Type} {s : NL.St} {g : VR γ'} {R : γ' → VEnv → Prop} {k : γ' → VR γ} (h : Rb (exV fr C s en) g (Dj R)) (hk : ∀ x en', R x en' → Bx fr C r en' (k x) D) : Bx fr C (.cons s r) en (g.bind k) D := by
  unfold Bx; rw [cons_eq]
  exact Rb.bi h fun a f' ⟨en', h1, h2⟩ => by subst h1; exact hk a en' h2
section
variable {α β δ : Type} [Ty α] [Ty β] [Ty δ] {g : VR α} {k : α → VR γ}
theorem noL_isL {u : U} (h : noL u = true) : isL u = false := by
  cases u with
  | lst us => simp [noL] at h
  | dct us => simp [noL] at h
  | _ => rfl
theorem isL_ec {l : List α} : isL (ec l) = true := rfl
theorem set_eq {s : NL.St} (hs : s = .set i e) : exVB fr C (.cons s r) en = (evV C e en).bind fun u => exVB fr C r ((leak (freshE fr e && isL u) u (fvE e) en).set i (some (freshE fr e && isL u, u))) := by
  subst hs; rw [cons_eq, exV, VL.bind_as]; rfl
theorem rb_set_f [Flat α] (h : Ev C e en g) (hk : ∀ a, Bx fr C r (en.set i (some (false, ec a))) (k a) D) : Bx fr C (.cons (.set i e) r) en (g.bind k) D := by
  unfold Bx; rw [set_eq rfl]
  refine Rf.bb h fun a => ?_
  have h1 : noL (ec a) = true := Flat.fl a
  rw [noL_isL h1, Bool.and_false, show leak false (ec a) (fvE e) en = en by unfold leak keeps; rw [h1]; rfl]
  exact hk a
theorem rb_set_o {g : VR (List α)} {k : List α → VR γ} [Flat α] (hf : freshE fr e = true) (h : Ev C e en g) (hk : ∀ l, Bx fr C r (en.set i (some (true, .lst (l.map ec)))) (k l) D) : Bx fr C (.cons (.set i e) r) en (g.bind k) D := by
  unfold Bx; rw [set_eq rfl]
  refine Rf.bb h fun l => ?_
  rw [hf, isL_ec, show leak (true && true) (ec l) (fvE e) en = en by
    unfold leak
    rw [if_pos]
    show (noL (.lst _) || (true && noLs (l.map ec))) = true
    rw [noLs_flat]; simp]
  exact hk l
/-! a value that is parted -/
theorem unp_eq {is : List Nat} : exVB fr C (.cons (.unp is e) r) en = (evV C e en).bind fun u => (unpU is.length u).bind fun us => exVB fr C r (setAllV (leaks us (fvE e) en) is us) := by
  rw [cons_eq, exV, VL.bind_as]; congr; funext u; rw [VL.bind_as]; rfl
theorem leaks_f {us : List U} {is : List Nat} (h : noLs us = true) : leaks us is en = en := by unfold leaks; rw [if_pos h]
theorem rb_unG {is : List Nat} {us : α → List U} (hu : ∀ a, unpU is.length (ec a) = .ok (us a)) (hl : ∀ a, noLs (us a) = true) (h : Ev C e en g) (hk : ∀ a, Bx fr C r (setAllV en is (us a)) (k a) D) : Bx fr C (.cons (.unp is e) r) en (g.bind k) D := by
  unfold Bx; rw [unp_eq]
  refine Rf.bb h fun a => ?_
  rw [hu a]
  show Rb (exVB fr C r (setAllV (leaks (us a) (fvE e) en) is (us a))) _ _
  rw [leaks_f (hl a)]; exact hk a
variable {i1 i2 i3 i4 : Nat}
theorem rb_u2 [a : Flat α] [b : Flat β] {g : VR (α × β)} {k : α × β → VR γ} (h : Ev C e en g) (hk : ∀ p, Bx fr C r ((en.set i1 (some (false, ec p.1))).set i2 (some (false, ec p.2))) (k p) D) : Bx fr C (.cons (.unp [i1, i2] e) r) en (g.bind k) D :=
  rb_unG (us := fun p => [ec p.1, ec p.2]) (fun _ => rfl) (fun p => by simp [noLs, a.fl, b.fl]) h hk
/-! lists that are written -/
@[irreducible] noncomputable def appM {α : Type} (l : List α) (a : α) : VR (List α) := @ite _ (l.length < sizeLine) (Classical.propDecidable _) (.ok (l ++ [a])) .stuck
@[irreducible] def setM {α : Type} (l : List α) (i : Int) (a : α) : VR (List α) := match L2.ixN l.length i with | some n => .ok (l.set n a) | none => .stuck
def popM {α : Type} (l : List α) : VR (α × List α) := match l[l.length - 1]? with | some a => .ok (a, l.dropLast) | none => .stuck
theorem ownV_of {us : List U} (h : en[i]? = some (some (true, .lst us))) : ownV en i = .ok us := by unfold ownV; rw [h]
theorem app_eq {us : List U} (hm : mutA en e = none) (h : en[i]? = some (some (true, .lst us))) : exVB fr C (.cons (.app i e) r) en = (evV C e en).bind fun u => (ownV (leak false u (fvE e) en) i).bind fun us => if us.length < sizeLine then exVB fr C r ((leak false u (fvE e) en).set i (some (true, .lst (us ++ [u])))) else .stuck := by
  rw [cons_eq, exV, hm]
  show VR.bind (VR.bind (ownV en i) _) _ = _
  rw [ownV_of h]
  show ((evV C e en).bind _).bind _ = _
  rw [VL.bind_as]; congr; funext u; rw [VL.bind_as]; congr; funext us; split <;> rfl
theorem rb_app [Flat α] {l : List α} {g : VR α} {k : List α → VR γ} (ho : en[i]? = some (some (true, .lst (l.map ec)))) (h : Ev C e en g) (hk : ∀ l : List α, Bx fr C r (en.set i (some (true, .lst (l.map ec)))) (k l) D) (hm : mutA en e = none := by rfl) :
    Bx fr C (.cons (.app i e) r) en (g.bind fun a => (appM l a).bind k) D := by
  unfold Bx; rw [app_eq hm ho]
  refine Rf.bb h fun a => ?_
  have h1 : noL (ec a) = true := Flat.fl a
  rw [show leak false (ec a) (fvE e) en = en by unfold leak keeps; rw [h1]; rfl, ownV_of ho]
  show Rb (if (l.map ec).length < sizeLine then _ else _) _ _
  unfold appM
  rw [List.length_map]
  split
  · have z := hk (l ++ [a])
    rw [List.map_append] at z
    exact z
  · trivial
/-! told -/
theorem ret_eq : exVB fr C (.cons (.ret e) r) en = (evV C e en).bind fun u => .ok (.ret ((freshE fr e && isL u) || ownR en e) u) := by
  rw [cons_eq, exV, VL.bind_as]; rfl
theorem rb_retG {w : Bool} {j : α → γ} (hj : ∀ a o, (w = true → isL (ec a) = true → o = true) → D (j a) (.ret o (ec a))) (hw : ∀ a : α, w = true → isL (ec a) = true → ((freshE fr e && isL (ec a)) || ownR en e) = true) (h : Ev C e en g) : Bx fr C (.cons (.ret e) r) en (g.bind fun a => .ok (j a)) D := by
  unfold Bx; rw [ret_eq]
  exact Rf.bb h fun a => ⟨_, rfl, hj a _ (hw a)⟩
/-- whose list it is does not matter; it is no list; it is new; it is its own -/
theorem w_n {a : α} {o : Bool} : false = true → isL (ec a) = true → o = true := fun h => by cases h
theorem w_v {w : Bool} {a : α} (hf : ownR en e = true) : w = true → isL (ec a) = true → ((freshE fr e && isL (ec a)) || ownR en e) = true := fun _ _ => by rw [hf]; simp
theorem dr_j {w : Bool} : ∀ (a : α) o, (w = true → isL (ec a) = true → o = true) → Dr w a (.ret o (ec a)) := fun a o h => ⟨o, rfl, h⟩
theorem rb_ret {w : Bool} (hw : ∀ a : α, w = true → isL (ec a) = true → ((freshE fr e && isL (ec a)) || ownR en e) = true) (h : Ev C e en g) : Bx fr C (.cons (.ret e) r) en g (Dr w) := by
  have z := rb_retG (r := r) (D := Dr w) (j := id) dr_j hw h
  have e : (g.bind fun a => VR.ok (id a)) = g := bind_id g
  rw [e] at z; exact z
theorem dl_j {σ : Type} {w : Bool} {R : σ → VEnv → Prop} : ∀ (a : α) o, (w = true → isL (ec a) = true → o = true) → Dl w R (.rt a) (.ret o (ec a)) := fun a o h => ⟨o, rfl, h⟩
theorem rl_ret {σ : Type} {R : σ → VEnv → Prop} {w : Bool} (hw : ∀ a : α, w = true → isL (ec a) = true → ((freshE fr e && isL (ec a)) || ownR en e) = true) (h : Ev C e en g) : Bx fr C (.cons (.ret e) r) en (g.bind fun a => .ok (.rt a)) (Dl w R) := rb_retG dl_j hw h
end
/-! ends of blocks -/
section
variable {σ ρ : Type} [Ty ρ] {R : σ → VEnv → Prop} {s : σ} {w : Bool}
theorem nil_eq : exVB fr C .nil en = .ok (.nx en) := by rw [exVB]
theorem rj_nil (h : R s en) : Bx fr C .nil en (.ok s) (Dj R) := ⟨_, nil_eq, en, rfl, h⟩
theorem rn_nil (h : R s en) : Bx fr C .nil en (.ok s) (Dn R) := ⟨_, nil_eq, en, .inl rfl, h⟩
theorem rl_nil (h : R s en) : Bx fr C .nil en (.ok (.nx s)) (Dl (ρ := ρ) w R) := ⟨_, nil_eq, en, .inl rfl, h⟩
end
/-! either way -/
def app : Sts → Sts → Sts
  | .nil, r => r
  | .cons s a, r => .cons s (app a r)
theorem app_seq : ∀ (a : Sts) {r : Sts} {en : VEnv}, exVB fr C (app a r) en = (exVB fr C a en).bind fun f => match f with
    | .nx en' => exVB fr C r en'
    | f => .ok f
  | .nil, r, en => by rw [nil_eq]; rfl
  | .cons s a, r, en => by
    show exVB fr C (.cons s (app a r)) en = _
    rw [cons_eq, cons_eq, VL.bind_as]; congr; funext f
    cases f with
    | nx en' => exact app_seq a
    | _ => rfl
theorem if_eq {c : E} {a b : Sts} : exVB fr C (.cons (.ifs c a b) r) en = (evV C c en).bind fun x => (truU x).bind fun t => if t = true then exVB fr C (app a r) en else exVB fr C (app b r) en := by
  rw [cons_eq, exV, VL.bind_as]; congr; funext x; rw [VL.bind_as]; congr; funext t; rw [VL.ite_bi, app_seq, app_seq]
theorem rb_if {c : E} {a b : Sts} {gc : VR Bool} {ga gb : VR γ} (hc : Ev C c en gc) (ha : Bx fr C (app a r) en ga D) (hb : Bx fr C (app b r) en gb D) : Bx fr C (.cons (.ifs c a b) r) en (gc.bind fun t => if t = true then ga else gb) D := by
  unfold Bx; rw [if_eq]
  exact Rf.bb hc fun t => by cases t; exact hb; exact ha
theorem rb_ifj {σ : Type} {R : σ → VEnv → Prop} {c : E} {a b : Sts} {gc : VR Bool} {ga gb : VR σ} {k : σ → VR γ} (hc : Ev C c en gc) (ha : Bx fr C a en ga (Dj R)) (hb : Bx fr C b en gb (Dj R)) (hk : ∀ s en', R s en' → Bx fr C r en' (k s) D) :
    Bx fr C (.cons (.ifs c a b) r) en ((gc.bind fun t => if t = true then ga else gb).bind k) D := by
  refine rb_cut (R := R) ?_ hk
  have z : Bx fr C (.cons (.ifs c a b) .nil) en (gc.bind fun t => if t = true then ga else gb) (Dj R) := by
    have app_nil : ∀ a : Sts, app a .nil = a := fun a => by
      induction a using NL.Sts.rec (motive_1 := fun _ => True) with
      | nil => rfl
      | cons s r _ ih => show NL.Sts.cons s (app r .nil) = _; rw [ih]
      | _ => trivial
    exact rb_if hc (by rw [app_nil]; exact ha) (by rw [app_nil]; exact hb)
  unfold Bx at z
  rw [cons_eq] at z
  have e : (exV fr C (.ifs c a b) en).bind (fun f => match f with | .nx en' => exVB fr C .nil en' | f => .ok f) = exV fr C (.ifs c a b) en := by
    have : (fun f : VF => match f with | .nx en' => exVB fr C .nil en' | f => .ok f) = VR.ok := by
      funext f; cases f <;> first | rfl | exact nil_eq
    rw [this, bind_id]
  rw [e] at z
  exact z
/-! loops -/
section
variable {α σ ρ : Type} [Ty α] [Ty ρ]
def forM {α σ : Type} : List α → σ → (α → σ → VR σ) → VR σ
  | [], s, _ => .ok s
  | x :: xs, s, f => (f x s).bind fun s' => forM xs s' f
def forF {α σ ρ : Type} : List α → σ → (α → σ → VR (Fl σ ρ)) → VR (Fl σ ρ)
  | [], s, _ => .ok (.nx s)
  | x :: xs, s, f => (f x s).bind fun r => match r with
    | .nx s' => forF xs s' f
    | .bk s' => .ok (.nx s')
    | .rt a => .ok (.rt a)
def whlM {σ : Type} : Nat → (σ → VR Bool) → (σ → VR σ) → σ → VR σ
  | 0, _, _, _ => .stuck
  | n + 1, c, f, s => (c s).bind fun t => if t = true then (f s).bind fun s' => whlM n c f s' else .ok s
/-- what a for statement walks, the names as it begins -/
def Rx {α : Type} (x : VR VF) (g : VR α) (f : α → VR VF) : Prop := match g with
  | .ok a => x = f a
  | .exc c u => x = .exc c u
  | .stuck => True
def Fi (fr : Nat → Bool) (C : Nat → List U → VR U) (it : NL.It) (en : VEnv) (gi : VR (List α)) (en1 : VEnv) : Prop := ∀ tg b, Rx (exV fr C (.for_ tg it b) en) gi fun l => forV (bindV tg) (fun en' => exVB fr C b en') (l.map ec) en1
theorem Fi.mk {it : NL.It} {gi : VR (List α)} {en1 : VEnv} {r : VR (List U)} (h : Rl r gi) (e : ∀ tg b, (exV fr C (.for_ tg it b) en) = r.bind fun xs => forV (bindV tg) (fun en' => exVB fr C b en') xs en1) : Fi fr C it en gi en1 := fun tg b => by
  rw [e]
  cases gi with
  | ok l => rw [show r = .ok (l.map ec) from h]; exact rfl
  | exc c u => rw [show r = .exc c u from h]; exact rfl
  | stuck => trivial
theorem val_eq {tg : Tg} {b : Sts} : exV fr C (.for_ tg (.val e) b) en = (evV C e en).bind fun u => (iterU u).bind fun p => forV (bindV tg) (fun en' => exVB fr C b en') p.1 (if ((!p.2 || (freshE fr e && isL u)) && noLs p.1) = true then en else unown en (fvE e)) := by rw [exV]
theorem fi_old {g : VR (List α)} (hf : freshE fr e = false) (h : Ev C e en g) : Fi fr C (.val e) en g (unown en (fvE e)) := fun tg b => by
  rw [val_eq]
  cases g with
  | ok l =>
    rw [show evV C e en = .ok (ec l) from h]
    show forV (bindV tg) (fun en' => exVB fr C b en') (l.map ec) (if ((!true || (freshE fr e && true)) && noLs (l.map ec)) = true then en else unown en (fvE e)) = _
    rw [hf]; rfl
  | exc c u => rw [show evV C e en = .exc c u from h]; exact rfl
  | stuck => trivial
theorem fi_rng1 {g : VR Int} (h : Ev C e en g) : Fi fr C (.rng1 e) en (g.bind fun j => rngM 0 j) en :=
  .mk (r := (evV C e en).bind fun y => rngU (.int 0) y) (Rf.bil h fun j => rng_rl 0 j) fun tg b => by
    rw [exV]
    · rw [evVt]; simp only [VL.bind_as]; rfl
    all_goals (intros; rename_i z; cases z)
theorem for_dj {R : σ → VEnv → Prop} {tg : Tg} {b : Sts} {f : α → σ → VR σ} (hb : ∀ x s en, R s en → ∃ en', bindV tg (ec x) en = .ok en' ∧ Bx fr C b en' (f x s) (Dn R)) :
    ∀ (l : List α) (s : σ) (en : VEnv), R s en → Rb (forV (bindV tg) (fun en' => exVB fr C b en') (l.map ec) en) (forM l s f) (Dj R)
  | [], s, en, h => ⟨_, rfl, en, rfl, h⟩
  | x :: l, s, en, h => by
    obtain ⟨en', h1, h2⟩ := hb x s en h
    show Rb ((bindV tg (ec x) en).bind fun en1 => (exVB fr C b en1).bind fun f => match f with
      | .nx en' => forV (bindV tg) (fun en' => exVB fr C b en') (l.map ec) en'
      | .cnt en' => forV (bindV tg) (fun en' => exVB fr C b en') (l.map ec) en'
      | .brk en' => .ok (.nx en')
      | f => .ok f) ((f x s).bind fun s' => forM l s' f) (Dj R)
    rw [h1]
    exact Rb.bi h2 fun s' f' ⟨en2, h3, h4⟩ => by
      rcases h3 with rfl | rfl
      · exact for_dj hb l s' en2 h4
      · exact for_dj hb l s' en2 h4
theorem for_de {w : Bool} {R : σ → VEnv → Prop} {tg : Tg} {b : Sts} {f : α → σ → VR (Fl σ ρ)} (hb : ∀ x s en, R s en → ∃ en', bindV tg (ec x) en = .ok en' ∧ Bx fr C b en' (f x s) (Dl w R)) :
    ∀ (l : List α) (s : σ) (en : VEnv), R s en → Rb (forV (bindV tg) (fun en' => exVB fr C b en') (l.map ec) en) (forF l s f) (De w R)
  | [], s, en, h => ⟨_, rfl, en, rfl, h⟩
  | x :: l, s, en, h => by
    obtain ⟨en', h1, h2⟩ := hb x s en h
    show Rb ((bindV tg (ec x) en).bind fun en1 => (exVB fr C b en1).bind fun f => match f with
      | .nx en' => forV (bindV tg) (fun en' => exVB fr C b en') (l.map ec) en'
      | .cnt en' => forV (bindV tg) (fun en' => exVB fr C b en') (l.map ec) en'
      | .brk en' => .ok (.nx en')
      | f => .ok f) ((f x s).bind fun r => match r with
      | .nx s' => forF l s' f
      | .bk s' => .ok (.nx s')
      | .rt a => .ok (.rt a)) (De w R)
    rw [h1]
    refine Rb.bi h2 fun s' f' d => ?_
    cases s' with
    | nx s' =>
      obtain ⟨en2, h3, h4⟩ := d
      rcases h3 with rfl | rfl
      · exact for_de hb l s' en2 h4
      · exact for_de hb l s' en2 h4
    | bk s' =>
      obtain ⟨en2, rfl, h4⟩ := d
      exact ⟨_, rfl, en2, rfl, h4⟩
    | rt a =>
      obtain ⟨o, rfl, h4⟩ := d
      exact ⟨_, rfl, o, rfl, h4⟩
theorem rb_for {it : NL.It} {gi : VR (List α)} {en1 : VEnv} {R : σ → VEnv → Prop} {tg : Tg} {b : Sts} {f : α → σ → VR σ} {s : σ} {k : σ → VR γ} (hi : Fi fr C it en gi en1) (h0 : R s en1)
    (hb : ∀ x s en, R s en → ∃ en', bindV tg (ec x) en = .ok en' ∧ Bx fr C b en' (f x s) (Dn R)) (hk : ∀ s en', R s en' → Bx fr C r en' (k s) D) : Bx fr C (.cons (.for_ tg it b) r) en (gi.bind fun l => (forM l s f).bind k) D := by
  unfold Bx; rw [cons_eq]
  have hi := hi tg b
  cases gi with
  | ok l =>
    rw [show exV fr C (.for_ tg it b) en = forV (bindV tg) (fun en' => exVB fr C b en') (l.map ec) en1 from hi]
    exact Rb.bi (g := forM l s f) (for_dj hb l s en1 h0) fun s' f' ⟨en2, h1, h2⟩ => by subst h1; exact hk s' en2 h2
  | exc c u => rw [show exV fr C (.for_ tg it b) en = _ from hi]; exact (rfl : (VR.exc c u : VR VF) = .exc c u)
  | stuck => trivial
theorem de_use {w : Bool} {R : σ → VEnv → Prop} {x : VR VF} {g : VR (Fl σ ρ)} {kn : σ → VR γ} {j : ρ → γ} (hj : ∀ a o, (w = true → isL (ec a) = true → o = true) → D (j a) (.ret o (ec a))) (h : Rb x g (De w R)) (hk : ∀ s en', R s en' → Bx fr C r en' (kn s) D) :
    Rb (x.bind fun f => match f with | .nx en' => exVB fr C r en' | f => .ok f) (g.bind (Fl.elim kn fun a => .ok (j a))) D :=
  Rb.bi h fun s' f' d => by
    cases s' with
    | nx s' => obtain ⟨en2, rfl, h4⟩ := d; exact hk s' en2 h4
    | bk s' => obtain ⟨en2, rfl, h4⟩ := d; exact hk s' en2 h4
    | rt a => obtain ⟨o, rfl, h4⟩ := d; exact ⟨_, rfl, hj a o h4⟩
theorem rb_forF {w : Bool} {it : NL.It} {gi : VR (List α)} {en1 : VEnv} {R : σ → VEnv → Prop} {tg : Tg} {b : Sts} {f : α → σ → VR (Fl σ ρ)} {s : σ} {kn : σ → VR γ} {j : ρ → γ} (hj : ∀ a o, (w = true → isL (ec a) = true → o = true) → D (j a) (.ret o (ec a))) (hi : Fi fr C it en gi en1) (h0 : R s en1)
    (hb : ∀ x s en, R s en → ∃ en', bindV tg (ec x) en = .ok en' ∧ Bx fr C b en' (f x s) (Dl w R)) (hk : ∀ s en', R s en' → Bx fr C r en' (kn s) D) : Bx fr C (.cons (.for_ tg it b) r) en (gi.bind fun l => (forF l s f).bind (Fl.elim kn fun a => .ok (j a))) D := by
  unfold Bx; rw [cons_eq]
  have hi := hi tg b
  cases gi with
  | ok l =>
    rw [show exV fr C (.for_ tg it b) en = forV (bindV tg) (fun en' => exVB fr C b en') (l.map ec) en1 from hi]
    exact de_use (g := forF l s f) hj (for_de hb l s en1 h0) hk
  | exc c u => rw [show exV fr C (.for_ tg it b) en = _ from hi]; exact (rfl : (VR.exc c u : VR VF) = .exc c u)
  | stuck => trivial
theorem Rf.tru {x : VR U} {g : VR Bool} (h : Rf x g) : Ri (x.bind truU) g := by
  cases g with
  | ok b => rw [show x = .ok (ec b) from h]; exact (rfl : VR.ok b = .ok b)
  | exc c u => rw [show x = .exc c u from h]; exact (rfl : (VR.exc c u : VR Bool) = .exc c u)
  | stuck => trivial
theorem Ri.bb {α : Type} {x : VR α} {f : α → VR VF} {g : VR α} {k : α → VR γ} (h : Ri x g) (hk : ∀ a, Rb (f a) (k a) D) : Rb (x.bind f) (g.bind k) D := by
  cases g with
  | ok a => rw [show x = .ok a from h]; exact hk a
  | exc c u => rw [show x = .exc c u from h]; exact (rfl : (VR.exc c u : VR VF) = .exc c u)
  | stuck => trivial
theorem whl_dj {R : σ → VEnv → Prop} {c : E} {b : Sts} {gc : σ → VR Bool} {f : σ → VR σ} (hc : ∀ s en, R s en → Ev C c en (gc s)) (hb : ∀ s en, R s en → Bx fr C b en (f s) (Dn R)) :
    ∀ (n : Nat) (s : σ) (en : VEnv), R s en → Rb (whlV (fun en' => (evV C c en').bind truU) (fun en' => exVB fr C b en') n en) (whlM n gc f s) (Dj R)
  | 0, s, en, h => trivial
  | n + 1, s, en, h => by
    unfold whlV whlM
    refine Ri.bb (hc s en h).tru fun t => ?_
    cases t with
    | false => exact ⟨_, rfl, en, rfl, h⟩
    | true =>
      rw [if_pos rfl, if_pos rfl]
      exact Rb.bi (hb s en h) fun s' f' ⟨en2, h3, h4⟩ => by
        rcases h3 with rfl | rfl
        · exact whl_dj hc hb n s' en2 h4
        · exact whl_dj hc hb n s' en2 h4
theorem rb_whl {R : σ → VEnv → Prop} {c : E} {b : Sts} {gc : σ → VR Bool} {f : σ → VR σ} {s : σ} {k : σ → VR γ} (h0 : R s en) (hc : ∀ s en, R s en → Ev C c en (gc s)) (hb : ∀ s en, R s en → Bx fr C b en (f s) (Dn R)) (hk : ∀ s en', R s en' → Bx fr C r en' (k s) D) :
    Bx fr C (.cons (.whl c b) r) en ((whlM fuel gc f s).bind k) D := by
  refine rb_cut (R := R) ?_ hk
  rw [exV]
  exact whl_dj hc hb _ s en h0
end
/-! defs -/
theorem callV_at {T : Nat → Option Fn} {n k : Nat} {fn : Fn} {us : List U} (hT : T k = some fn) (hl : ¬ 1000 ≤ us.length) : callV T fr (n + 1) k us = runV fr (callV T fr n) (fr k) fn us := by
  unfold callV
  rw [hT]
  exact if_neg hl
theorem fn_rf {α : Type} [Ty α] {T : Nat → Option Fn} {n k : Nat} {fn : Fn} {us : List U} {w : Bool} {g : VR α} (hT : T k = some fn) (hF : fr k = w) (hn : us.length = fn.np) (hb : Bx fr (callV T fr n) fn.body (us.map (fun u => some (false, u)) ++ List.replicate (fn.nv - fn.np) none) g (Dr w)) (hl : ¬ 1000 ≤ fn.np := by decide) :
    Rf (callV T fr (n + 1) k us) g := by
  rw [callV_at hT (by rw [hn]; exact hl), run_eq hn, hF]
  cases g with
  | ok a =>
    obtain ⟨f, h1, o, rfl, h2⟩ := hb
    rw [h1]
    show (if (w && isL (ec a) && !o) = true then VR.stuck else .ok (ec a)) = .ok (ec a)
    rw [if_neg]
    intro z
    simp only [Bool.and_eq_true, Bool.not_eq_true'] at z
    rw [h2 z.1.1 z.1.2] at z
    exact absurd z.2 (by decide)
  | exc c u => rw [show exVB fr _ _ _ = .exc c u from hb]; exact rfl
  | stuck => trivial
end
/-! casts -/
open Classical in
/-- a tuple of two whole numbers as a place -/
@[irreducible] noncomputable def toP (p : Int × Int) : VR P := if h : Sz 1000 p.1 ∧ Sz 1000 p.2 then .ok ⟨p.1, p.2, h.1, h.2⟩ else .stuck
open Classical in
@[irreducible] noncomputable def toFr (m : Nat) (p : Int × Int) : VR (Fr m) := if h : Sz m p.1 ∧ Sz m p.2 then .ok ⟨p.1, p.2, h.1, h.2⟩ else .stuck
section
variable {C : Nat → List U → VR U} {en : VEnv} {e : E}
theorem ev_toP {g : VR (Int × Int)} (h : Ev C e en g) : Ev C e en (g.bind toP) := h.then fun p => by
  unfold toP; split
  · exact rfl
  · trivial
theorem ev_toFr {m : Nat} {g : VR (Int × Int)} (h : Ev C e en g) : Ev C e en (g.bind (toFr m)) := h.then fun p => by
  unfold toFr; split
  · exact rfl
  · trivial
end
end TL

/-! Further readings. -/
namespace TL
open PySem PySem.Spec PyProof.Rows L2 NL GM VL
open Ty (ec)
/-- a power that is written -/
def pwr (a b : Nat) : Int := ((a ^ b : Nat) : Int)
section
variable {fr : Nat → Bool} {C : Nat → List U → VR U} {en : VEnv} {γ : Type} {D : γ → VF → Prop} {r : Sts} {i : Nat} {e : E}
theorem ev_pwr {a b : Nat} (h : 0 ≤ (b : Int) ∧ (Builtin.Int.intBits (a : Int) : Int) * (b : Int) ≤ 2 ^ 27) : Ev C (.bin .pow (.con (.int a)) (.con (.int b))) en (.ok (pwr a b)) := by
  have z := ev_bin (C := C) (en := en) oPow (ev_int (i := (a : Int))) (ev_int (i := (b : Int)))
  have e : powM (a : Int) (b : Int) = .ok (pwr a b) := by
    unfold powM pwr
    rw [if_pos h, Int.toNat_natCast]
    congr 1
  have z : Ev C (.bin .pow (.con (.int a)) (.con (.int b))) en (powM (a : Int) (b : Int)) := z
  rw [e] at z
  exact z
variable {α β : Type} [Ty α] [Ty β]
theorem rb_ifF {c : E} {a b : Sts} {gb : VR γ} (hc : Ev C c en (.ok false)) (hb : Bx fr C (app b r) en gb D) : Bx fr C (.cons (.ifs c a b) r) en gb D := by
  unfold Bx; rw [if_eq, show evV C c en = .ok (.bl false) from hc]; exact hb
end
section
variable {C : Nat → List U → VR U} {en : VEnv} {α β γ δ ε : Type} [Ty α] [Ty β] [Ty γ] [Ty δ] [Ty ε]
variable [DecidableEq α] {d : Nat}
end
section
variable {C : Nat → List U → VR U} {en : VEnv}
end
end TL

/-! Dicts, typed. -/
namespace TL
open PySem PySem.Spec PyProof.Rows L2 NL GM VL
open Ty (ec)
structure Dc (α β : Type) where
  ps : List (α × β)
instance {α β : Type} [Ty α] [Ty β] : Ty (Dc α β) := ⟨fun d => .dct (d.ps.map ec)⟩
instance {α β : Type} [Ty α] [Ty β] : HasL (Dc α β) := ⟨fun l => by show noL (.dct _) = false; simp [noL]⟩
instance {α β : Type} [Ty α] [Ty β] : NoN (Dc α β) := ⟨fun _ => rfl⟩
/-! ### keys -/
class Nk (α : Type) [Ty α] (d : outParam Nat) where
  k : α → NestedKey
  e : ∀ a : α, nkU (ec a) = some (k a)
  dp : ∀ a : α, (k a).depth ≤ d
  inj : ∀ a b : α, k a = k b → a = b
class Kt (α : Type) [Ty α] : Prop where
  t : ∀ a : α, ∃ us, ec a = .tup us
instance nk_int : Nk Int 0 := ⟨.num, fun a => by show nkU (.int a) = _; unfold nkU; rfl, fun a => by simp [NestedKey.depth], fun a b h => by cases h; rfl⟩
theorem nk_two {a b : U} {p q : NestedKey} (h : nkU a = some p) (k : nkU b = some q) : nkU (.tup [a, b]) = some (.tup [p, q]) := by
  unfold nkU nkUs nkUs nkUs
  rw [h, k]; rfl
theorem nk_three {a b c : U} {p q r : NestedKey} (h : nkU a = some p) (k : nkU b = some q) (l : nkU c = some r) : nkU (.tup [a, b, c]) = some (.tup [p, q, r]) := by
  unfold nkU nkUs nkUs nkUs nkUs
  rw [h, k, l]; rfl
theorem dp_two {p q : NestedKey} {m n : Nat} (h : p.depth ≤ m) (k : q.depth ≤ n) : (NestedKey.tup [p, q]).depth ≤ max m n + 1 := by
  simp only [NestedKey.depth, NestedKey.depthAll]; omega
theorem dp_three {p q r : NestedKey} {m n l : Nat} (h : p.depth ≤ m) (k : q.depth ≤ n) (j : r.depth ≤ l) : (NestedKey.tup [p, q, r]).depth ≤ max m (max n l) + 1 := by
  simp only [NestedKey.depth, NestedKey.depthAll]; omega
instance nk_p : Nk P 1 := ⟨fun a => .tup [.num a.x, .num a.y], fun a => nk_two (nk_int.e a.x) (nk_int.e a.y), fun a => dp_two (m := 0) (n := 0) (by simp [NestedKey.depth]) (by simp [NestedKey.depth]), fun a b h => by cases a; cases b; cases h; rfl⟩
instance : Kt P := ⟨fun _ => ⟨_, rfl⟩⟩
section
variable {α β γ : Type} [Ty α] [Ty β] [Ty γ] {m n l : Nat}
instance nk_pr [a : Nk α m] [b : Nk β n] : Nk (α × β) (max m n + 1) := ⟨fun x => .tup [a.k x.1, b.k x.2], fun x => nk_two (a.e x.1) (b.e x.2), fun x => dp_two (a.dp x.1) (b.dp x.2), fun x y h => by
  have h1 : a.k x.1 = a.k y.1 := by injection h with h; injection h
  have h2 : b.k x.2 = b.k y.2 := by injection h with h; injection h with _ h; injection h
  exact Prod.ext (a.inj _ _ h1) (b.inj _ _ h2)⟩
instance : Kt (α × β) := ⟨fun _ => ⟨_, rfl⟩⟩
instance nk_t3 [a : Nk α m] [b : Nk β n] [c : Nk γ l] : Nk (T3 α β γ) (max m (max n l) + 1) := ⟨fun x => .tup [a.k x.a, b.k x.b, c.k x.c], fun x => nk_three (a.e x.a) (b.e x.b) (c.e x.c), fun x => dp_three (a.dp x.a) (b.dp x.b) (c.dp x.c), fun x y h => by
  have h1 : a.k x.a = a.k y.a := by injection h with h; injection h
  have h2 : b.k x.b = b.k y.b := by injection h with h; injection h with _ h; injection h
  have h3 : c.k x.c = c.k y.c := by injection h with h; injection h with _ h; injection h with _ h; injection h
  exact T3.ext_iff_.mpr ⟨a.inj _ _ h1, b.inj _ _ h2, c.inj _ _ h3⟩⟩
instance : Kt (T3 α β γ) := ⟨fun _ => ⟨_, rfl⟩⟩
end
/-! ### what a dict has -/
section
variable {α β : Type} [DecidableEq α]
def Dc.get (d : Dc α β) (k : α) : Option β := (d.ps.find? fun p => decide (p.1 = k)).map (·.2)
def Dc.put (d : Dc α β) (k : α) (v : β) : Dc α β := ⟨if (d.get k).isSome = true then d.ps.map (fun p => if p.1 = k then (p.1, v) else p) else d.ps ++ [(k, v)]⟩
def Dc.drop (d : Dc α β) (k : α) : Dc α β := ⟨d.ps.filter fun p => !decide (p.1 = k)⟩
@[irreducible] def dpopM (d : Dc α β) (k : α) : VR (β × Dc α β) := match d.get k with | some v => .ok (v, d.drop k) | none => .stuck
end
section
variable {α β γ δ : Type} [DecidableEq α] [Ty α] [Ty β] {m : Nat} [a : Nk α m] [t : Kt α]
section
variable {fr : Nat → Bool} {C : Nat → List U → VR U} {en : VEnv} {D : γ → VF → Prop} {r : Sts} {i : Nat} {e : E}
/-! ### written -/
end
end
/-! ### places in a list, distinct things -/
class NotD (α : Type) [Ty α] : Prop where
  nd : ∀ a : α, isD_ (ec a) = false
instance : NotD Int := ⟨fun _ => rfl⟩
instance : NotD Bool := ⟨fun _ => rfl⟩
instance : NotD P := ⟨fun _ => rfl⟩
instance : NotD Scr := ⟨fun _ => rfl⟩
instance {m : Nat} : NotD (Fr m) := ⟨fun _ => rfl⟩
/-! ### a list of two things, each of its kind -/
structure W2 (α β : Type) where
  a : α
  b : β
  deriving DecidableEq
theorem W2.ext_iff_ {α β : Type} {x y : W2 α β} : x = y ↔ x.a = y.a ∧ x.b = y.b := ⟨fun h => by cases h; exact ⟨rfl, rfl⟩, fun h => by cases x; cases y; obtain ⟨h1, h2⟩ := h; cases h1; cases h2; rfl⟩
section
variable {α β : Type} [Ty α] [Ty β] {C : Nat → List U → VR U} {en : VEnv}
instance : Ty (W2 α β) := ⟨fun p => .lst [ec p.a, ec p.b]⟩
instance : HasL (W2 α β) := ⟨fun l => by show noL (.lst _) = false; simp [noL]⟩
instance : NotD (W2 α β) := ⟨fun _ => rfl⟩
theorem pu_twoL {f g : U} {k : Nat} {p q : PyData} (a : pdU k f = some p) (b : pdU k g = some q) : pdU (k + 1) (.lst [f, g]) = some (.list [p, q]) := by
  show (NL.mapO (pdU k) [f, g]).map _ = _
  unfold NL.mapO NL.mapO NL.mapO
  rw [a, b]; rfl
instance dt_w2 [DecidableEq α] [DecidableEq β] {d e : Nat} [a : Dt α d] [b : Dt β e] : Dt (W2 α β) (max d e + 1) := ⟨fun x => .list [a.p x.a, b.p x.b], fun k x h => by obtain ⟨j, rfl, h'⟩ := pred_of h; exact pu_twoL (a.pu j _ (by omega)) (b.pu j _ (by omega)), fun x y => by
  rw [show PyData.eqv (.list [a.p x.a, b.p x.b]) (.list [a.p y.a, b.p y.b]) = (PyData.eqv (a.p x.a) (a.p y.a) && PyData.eqv (b.p x.b) (b.p y.b)) by simp only [PyData.eqv, PyData.eqvAll, Bool.and_true], a.eqv, b.eqv]
  exact dec2 W2.ext_iff_⟩
end
section
variable {C : Nat → List U → VR U} {en : VEnv} {α β γ : Type} [Ty α] [Ty β] [Ty γ]
theorem ev_cmpL {o : Cop} {a b : E} {x : α} {gb : VR β} {op : α → β → VR γ} (ho : ∀ x y, Rf (cmpU o (ec x) (ec y)) (op x y)) (ha : Ev C a en (.ok x)) (hb : Ev C b en gb) : Ev C (.cmp o a b) en (gb.bind fun y => op x y) := ev_cmp ho ha hb
theorem ev_binL {o : Bop} {a b : E} {x : α} {gb : VR β} {op : α → β → VR γ} (ho : ∀ x y, Rf (binU o (ec x) (ec y)) (op x y)) (ha : Ev C a en (.ok x)) (hb : Ev C b en gb) : Ev C (.bin o a b) en (gb.bind fun y => op x y) := ev_bin ho ha hb
theorem ev_idxL {a b : E} {x : α} {gb : VR β} {op : α → β → VR γ} (ho : ∀ x y, Rf (ixU (ec x) (ec y)) (op x y)) (ha : Ev C a en (.ok x)) (hb : Ev C b en gb) : Ev C (.idx a b) en (gb.bind fun y => op x y) := ev_idx ho ha hb
end
def tup4M {α : Type} : List α → VR (T4 α α α α) | [x, y, z, w] => .ok ⟨x, y, z, w⟩ | _ => .stuck
theorem rb_uL4 {α γ : Type} [Ty α] [a : Flat α] {fr : Nat → Bool} {C : Nat → List U → VR U} {en : VEnv} {D : γ → VF → Prop} {r : Sts} {e : E} {i1 i2 i3 i4 : Nat} {g : VR (List α)} {k : T4 α α α α → VR γ} (h : Ev C e en g) (hk : ∀ p : T4 α α α α, Bx fr C r ((((en.set i1 (some (false, ec p.a))).set i2 (some (false, ec p.b))).set i3 (some (false, ec p.c))).set i4 (some (false, ec p.d))) (k p) D) : Bx fr C (.cons (.unp [i1, i2, i3, i4] e) r) en ((g.bind tup4M).bind k) D := by
  unfold Bx; rw [unp_eq, VL.bind_as]
  refine Rf.bb h fun l => ?_
  unfold tup4M
  split
  · rename_i x y z w
    show Rb (exVB fr C r (setAllV (leaks [ec x, ec y, ec z, ec w] (fvE e) en) [i1, i2, i3, i4] [ec x, ec y, ec z, ec w])) (k ⟨x, y, z, w⟩) _
    rw [leaks_f (by simp [noLs, a.fl])]; exact hk ⟨x, y, z, w⟩
  · trivial
/-! ### a thing, or (0, 0) in its stead -/
structure Jn (α : Type) where
  o : Option α
instance {α : Type} [Ty α] : Ty (Jn α) := ⟨fun j => match j.o with | none => .tup [.int 0, .int 0] | some a => ec a⟩
instance {α : Type} [Ty α] [a : Flat α] : Flat (Jn α) := ⟨fun j => by
  obtain ⟨o⟩ := j
  cases o with
  | none => simp [ec, noL, noLs]
  | some x => exact a.fl x⟩
/-! ### walked -/
section
variable {α β γ δ : Type} [Ty α] [Ty β] [Ty γ] [Ty δ]
instance : NotD (List α) := ⟨fun _ => rfl⟩
instance : NotD (α × β) := ⟨fun _ => rfl⟩
instance : NotD (T3 α β γ) := ⟨fun _ => rfl⟩
instance : NotD (T4 α β γ δ) := ⟨fun _ => rfl⟩
instance [a : NotD α] : NotD (Option α) := ⟨fun o => by cases o with | none => rfl | some x => exact a.nd x⟩
theorem itn_eq {u : U} (h : isD_ u = false) : itnU u = iterU u := by cases u <;> first | rfl | cases h
variable {fr : Nat → Bool} {C : Nat → List U → VR U} {en : VEnv} {i : Nat}
theorem fi_nm {a : α} [d : NotD α] {gi : VR (List β)} {en1 : VEnv} (h : getV en i = .ok (ec a)) (hi : Fi fr C (.val (.var i)) en gi en1) : Fi fr C (.nam i) en gi en1 := fun tg b => by
  have e : exV fr C (.for_ tg (.nam i) b) en = exV fr C (.for_ tg (.val (.var i)) b) en := by
    rw [val_eq, exV, evV, h, VL.ok_bi, VL.ok_bi, itn_eq (d.nd a)]
    congr 1; funext p
    show _ = forV (bindV tg) (fun en' => exVB fr C b en') p.1 (if ((!p.2 || (false && isL (ec a))) && noLs p.1) = true then en else unown en [i])
    rw [Bool.false_and, Bool.or_false]
  rw [e]; exact hi tg b
end
/-- membership in lists of pairs goes by their decided likeness -/
instance (priority := 2000) beqPr {α β : Type} [DecidableEq α] [DecidableEq β] : BEq (α × β) := instBEqOfDecidableEq
end TL

/-! Calls that change a dict. -/
namespace TL
open PySem PySem.Spec PyProof.Rows L2 NL GM VL
open Ty (ec)
section
variable {κ υ α β γ : Type} [Ty κ] [Ty υ] [Ty α] [Ty β]
variable {fr : Nat → Bool} {C : Nat → List U → VR U} {en : VEnv} {D : γ → VF → Prop} {r : Sts} {i j : Nat} {e : E}
end
end TL

/-! Further rules: perhaps a list. -/
namespace TL
open PySem PySem.Spec PyProof.Rows L2 NL GM VL
open Ty (ec)
section
variable {α γ : Type} [Ty α] {fr : Nat → Bool} {C : Nat → List U → VR U} {en : VEnv} {D : γ → VF → Prop} {r : Sts} {i : Nat} {e : E}
end
section
variable {α : Type} [Ty α] {fr : Nat → Bool} {C : Nat → List U → VR U} {en : VEnv} {r : Sts} {e : E}
end
end TL

/-! Calls that raise: a typed test stands for what is raised. -/
namespace TL
open PySem PySem.Spec PyProof.Rows L2 NL GM VL
open Ty (ec)
section
variable {fr : Nat → Bool} {C : Nat → List U → VR U} {en : VEnv} {r : Sts} {i : Nat} {e : E} {c : Str}
/-- where the test answers, the block raises c -/
def Xb (fr : Nat → Bool) (C : Nat → List U → VR U) (c : Str) (ss : Sts) (en : VEnv) (g : VR Unit) : Prop := g = .ok () → XcB fr C c ss en
/-- .. the call raises c -/
def Xf (C : Nat → List U → VR U) (c : Str) (f : Nat) (us : List U) (g : VR Unit) : Prop := g = .ok () → C f (xks ++ .str c :: us) = .ok (.bl true)
theorem xb_rse : Xb fr C c (.cons (.rse c) r) en (.ok ()) := fun _ => .rse
theorem xb_stuck {ss : Sts} : Xb fr C c ss en .stuck := fun z => by cases z
theorem VR.bind_unit {α : Type} {g : VR α} {k : α → VR Unit} (h : g.bind k = .ok ()) : ∃ a, g = .ok a ∧ k a = .ok () := by
  cases g with
  | ok a => exact ⟨a, rfl, h⟩
  | exc c u => cases h
  | stuck => cases h
/-- if e: raise .., or on -/
theorem xb_ifr {a : Sts} {g : VR Bool} {ga gr : VR Unit} (h : Ev C e en g) (ha : Xb fr C c a en ga) (hr : Xb fr C c r en gr) : Xb fr C c (.cons (.ifs e a .nil) r) en (g.bind fun t => if t = true then ga else gr) := fun z => by
  obtain ⟨t, h1, h2⟩ := VR.bind_unit z
  subst h1
  cases t with
  | true => exact .ifT h (ha h2)
  | false => exact .step (en' := en) (by
      rw [exV, show evV C e en = .ok (ec false) from h]
      show exVB fr C .nil en = _
      rw [exVB]) (hr h2)
/-- x = e -/
theorem xb_set {α : Type} [Ty α] [Flat α] {g : VR α} {k : α → VR Unit} (h : Ev C e en g) (hk : ∀ a, Xb fr C c r (en.set i (some (false, ec a))) (k a)) : Xb fr C c (.cons (.set i e) r) en (g.bind k) := fun z => by
  obtain ⟨a, h1, h2⟩ := VR.bind_unit z
  subst h1
  have fl : noL (ec a) = true := Flat.fl a
  have nl : isL (ec a) = false := noL_isL fl
  refine .step (en' := en.set i (some (false, ec a))) ?_ (hk a h2)
  rw [exV, show evV C e en = .ok (ec a) from h]
  show VR.ok (VF.nx ((leak (freshE fr e && isL (ec a)) (ec a) (fvE e) en).set i (some (freshE fr e && isL (ec a), ec a)))) = _
  rw [nl, Bool.and_false]
  unfold leak keeps
  rw [fl]; rfl
/-- f(..) that raises -/
theorem raw_rf {f : Nat} {es : Es} {us : List U} {g : VR Unit} (he : evVs C es en = .ok us) (h : Xf C c f us g) (z : g = .ok ()) : rawX C c (.call f es) en = .ok () := by
  show ((evVs C es en).bind fun vs => (C f (xks ++ .str c :: vs)).bind fun u => match u with
    | .bl true => VR.ok ()
    | _ => .stuck) = _
  rw [he]
  show ((C f (xks ++ .str c :: us)).bind fun u => match u with
    | .bl true => VR.ok ()
    | _ => .stuck) = _
  rw [h z]; rfl
theorem xb_exp {f : Nat} {es : Es} {us : List U} {g : VR Unit} (he : evVs C es en = .ok us) (h : Xf C c f us g) : Xb fr C c (.cons (.expr (.call f es)) r) en g := fun z => .exp (raw_rf he h z)
theorem xb_setX {f : Nat} {es : Es} {us : List U} {g : VR Unit} (he : evVs C es en = .ok us) (h : Xf C c f us g) : Xb fr C c (.cons (.set i (.call f es)) r) en g := fun z => .set (raw_rf he h z)
theorem fnX {T : Nat → Option Fn} {n k : Nat} {fn : Fn} {us : List U} {g : VR Unit} (hT : T k = some fn) (hn : us.length = fn.np) (hb : Xb fr (callV T fr n) c fn.body (us.map (fun u => some (false, u)) ++ List.replicate (fn.nv - fn.np) none) g) : Xf (callV T fr (n + 1)) c k us g := fun z => by
  unfold callV
  rw [hT]
  show (if 1000 ≤ (xks ++ .str c :: us).length then (match (xks ++ .str c :: us).drop 999 with
    | .dct [.non] :: .dct own :: vs => runM fr (callV T fr n) fn own vs
    | .dct [.bl true] :: .str c :: vs => runX fr (callV T fr n) fn c vs
    | _ => .stuck) else runV fr (callV T fr n) (fr k) fn (xks ++ .str c :: us)) = _
  rw [if_pos (by rw [List.length_append, xks_len]; omega), xks_drop]
  show runX fr (callV T fr n) fn c us = _
  unfold runX
  rw [if_pos ⟨hn, hb z⟩]
/-- try: f(..) except C as e: suite -/
theorem rb_try {γ : Type} {D : γ → VF → Prop} {f : Nat} {es : Es} {us : List U} {h : Sts} {en2 : VEnv} {g : VR Unit} {k : VR γ} (he : evVs C es en = .ok us) (hx : Xf C c f us g) (hi : i < en.length) (hh : exVB fr C h (en.set i none) = .ok (.nx en2)) (hk : Bx fr C r (en2.set i none) k D) :
    Bx fr C (.cons (.try_ (.cons (.expr (.call f es)) .nil) c i h) r) en ((noXT g).bind fun _ => k) D := by
  cases g with
  | exc c' u => trivial
  | stuck => trivial
  | ok u =>
    unfold Bx
    rw [cons_eq, exV, raw_rf he hx rfl]
    show Rb ((if i < en.length then (exVB fr C h (en.set i none)).bind (fun f => match f with
      | .nx en2 => .ok (.nx (en2.set i none))
      | _ => .stuck) else .stuck : VR VF).bind _) k D
    rw [if_pos hi, hh]
    exact hk
/-! arguments as they stand -/
theorem evs_nil : evVs C .nil en = .ok [] := by rw [evVs]
theorem evs_var {es : Es} {us : List U} {w : Bool} {u : U} (h : en[i]? = some (some (w, u))) (hs : evVs C es en = .ok us) : evVs C (.cons (.var i) es) en = .ok (u :: us) := by
  rw [evVs, evV, getV, h, hs]; rfl
theorem evs_bols : ∀ {bs : List Bool}, evVs C (bolsE bs) en = .ok (bs.map U.bl)
  | [] => by unfold bolsE; rw [evVs]; rfl
  | b :: bs => by unfold bolsE; rw [evVs, evV, evs_bols]; rfl
theorem ev_bols {bs : List Bool} (h : bs.length ≤ 1000) : evV C (.lst (bolsE bs)) en = .ok (ec bs) := by
  have z : bs.length ≤ sizeLine := by rw [sizeLine_eq]; omega
  rw [evV, evs_bols]
  show (if (bs.map U.bl).length ≤ sizeLine then VR.ok (U.lst (bs.map U.bl)) else .stuck) = _
  rw [if_pos (by rw [List.length_map]; exact z)]; rfl
theorem noLs_bl (bs : List Bool) : noLs (bs.map U.bl) = true := by
  induction bs with
  | nil => unfold noLs; rfl
  | cons b bs ih => rw [List.map_cons]; unfold noLs; rw [ih]; unfold noL; rfl
theorem leak_bls {is : List Nat} {bs : List Bool} : leak true (ec bs) is en = en := by
  unfold leak
  rw [if_pos]
  show (noL (U.lst (bs.map U.bl)) || (true && noLs (bs.map U.bl))) = true
  rw [noLs_bl, Bool.true_and, Bool.or_true]
/-- others = [..]; told = others + [..] -/
theorem hd_two {j k : Nat} {bs cs : List Bool} (hj : j < en.length) (hb : bs.length ≤ 1000) (hc : cs.length ≤ 1000) :
    exVB fr C (.cons (.set j (.lst (bolsE bs))) (.cons (.set k (.bin .add (.var j) (.lst (bolsE cs)))) .nil)) en = .ok (.nx ((en.set j (some (true, ec bs))).set k (some (true, ec (bs ++ cs))))) := by
  have e1 : exV fr C (.set j (.lst (bolsE bs))) en = .ok (.nx (en.set j (some (true, ec bs)))) := by
    rw [exV, ev_bols hb]
    show VR.ok (VF.nx ((leak (freshE fr (.lst (bolsE bs)) && isL (ec bs)) (ec bs) _ en).set j (some (freshE fr (.lst (bolsE bs)) && isL (ec bs), ec bs)))) = _
    rw [show (freshE fr (.lst (bolsE bs)) && isL (ec bs)) = true by unfold freshE; rfl, leak_bls]
  have e2 : evV C (.bin .add (.var j) (.lst (bolsE cs))) (en.set j (some (true, ec bs))) = .ok (ec (bs ++ cs)) := by
    rw [evV, evV, ev_bols hc, getV, List.getElem?_set_self hj]
    show binU .add (.lst (bs.map U.bl)) (.lst (cs.map U.bl)) = _
    have z : (bs.map U.bl).length + (cs.map U.bl).length ≤ sizeLine := by rw [sizeLine_eq, List.length_map, List.length_map]; omega
    show (if (bs.map U.bl).length + (cs.map U.bl).length ≤ sizeLine then VR.ok (U.lst (bs.map U.bl ++ cs.map U.bl)) else .stuck) = _
    rw [if_pos z, ← List.map_append]; rfl
  rw [cons_eq, e1]
  show exVB fr C (.cons (.set k (.bin .add (.var j) (.lst (bolsE cs)))) .nil) (en.set j (some (true, ec bs))) = _
  rw [cons_eq, exV, e2]
  show (VR.bind (VR.ok (VF.nx ((leak (freshE fr (.bin .add (.var j) (.lst (bolsE cs))) && isL (ec (bs ++ cs))) (ec (bs ++ cs)) _ _).set k (some (freshE fr (.bin .add (.var j) (.lst (bolsE cs))) && isL (ec (bs ++ cs)), ec (bs ++ cs)))))) _) = _
  rw [show (freshE fr (.bin .add (.var j) (.lst (bolsE cs))) && isL (ec (bs ++ cs))) = true by unfold freshE; rfl, leak_bls]
  show exVB fr C .nil _ = _
  rw [exVB]
end
end TL

/-! What typed readings evaluate to. -/
namespace TL
open PySem PySem.Spec PyProof.Rows L2 NL GM VL
open Ty (ec)
@[simp] theorem ok_bind {α β : Type} {a : α} {k : α → VR β} : (VR.ok a).bind k = k a := rfl
@[simp] theorem exc_bind {α β : Type} {c : Str} {u : U} {k : α → VR β} : (VR.exc c u : VR α).bind k = .exc c u := rfl
theorem bind_ok {α β : Type} {r : VR α} {a : α} {k : α → VR β} (h : r = .ok a) : r.bind k = k a := by rw [h]; rfl
@[simp] theorem elim_nx {σ ρ γ : Type} {kn : σ → γ} {kr : ρ → γ} {s : σ} : Fl.elim kn kr (.nx s) = kn s := rfl
@[simp] theorem elim_bk {σ ρ γ : Type} {kn : σ → γ} {kr : ρ → γ} {s : σ} : Fl.elim kn kr (.bk s) = kn s := rfl
@[simp] theorem elim_rt {σ ρ γ : Type} {kn : σ → γ} {kr : ρ → γ} {a : ρ} : Fl.elim kn kr (.rt a) = kr a := rfl
/-- an answer of which Q holds -/
def Ok {α : Type} (g : VR α) (Q : α → Prop) : Prop := ∃ a, g = .ok a ∧ Q a
theorem Ok.bind {α β : Type} {g : VR α} {k : α → VR β} {Q : α → Prop} {R : β → Prop} (h : Ok g Q) (hk : ∀ a, Q a → Ok (k a) R) : Ok (g.bind k) R := by
  obtain ⟨a, rfl, h2⟩ := h; exact hk a h2
theorem Ok.of {α : Type} {g : VR α} {a : α} (e : g = .ok a) {Q : α → Prop} (h : Q a) : Ok g Q := ⟨a, e, h⟩
theorem Ok.ok {α : Type} {a : α} {Q : α → Prop} (h : Q a) : Ok (.ok a) Q := ⟨a, rfl, h⟩
theorem Ok.mono {α : Type} {g : VR α} {Q R : α → Prop} (h : Ok g Q) (k : ∀ a, Q a → R a) : Ok g R := by
  obtain ⟨a, e, q⟩ := h; exact ⟨a, e, k a q⟩
/-! numbers -/
theorem mulM_ok {n m : Nat} {x y : Int} [a : Sz n x] [b : Sz m y] (h : n + m ≤ 130000000) : mulM x y = .ok (x * y) := by
  unfold mulM; rw [if_pos ⟨n, m, a.lt, b.lt, h⟩]
theorem modM_p {x y : Int} [p : Pz y] : modM x y = .ok (x % y) := by
  unfold modM; rw [if_pos (Int.ne_of_gt p.pos), Int.fmod_eq_emod_of_nonneg _ (Int.le_of_lt p.pos)]
theorem log2_sz {n : Nat} {y : Int} [s : Sz n y] (hn : n ≤ 9000) : y.natAbs.log2 < 9000 := by
  by_cases h0 : y.natAbs = 0
  · rw [h0]; decide
  · exact Nat.lt_of_lt_of_le ((Nat.log2_lt h0).mpr s.lt) hn
theorem fdivM_p {n : Nat} {x y : Int} [s : Sz n y] [p : Pz y] (hn : n ≤ 9000) : fdivM x y = .ok (x / y) := by
  unfold fdivM; rw [if_pos ⟨Int.ne_of_gt p.pos, log2_sz hn⟩, Int.fdiv_eq_ediv_of_nonneg _ (Int.le_of_lt p.pos)]
theorem modM_pos {x y : Int} (h : 0 < y) : modM x y = .ok (x % y) := by
  unfold modM; rw [if_pos (Int.ne_of_gt h), Int.fmod_eq_emod_of_nonneg _ (Int.le_of_lt h)]
theorem Sz.le {n m : Nat} {x y : Int} (h : Sz m y) (hx : x.natAbs ≤ y.natAbs) : Sz m x := ⟨Nat.lt_of_le_of_lt hx h.lt⟩
instance sz_ite {n m : Nat} {c : Prop} [Decidable c] {x y : Int} [a : Sz n x] [b : Sz m y] : Sz (n + m) (if c then x else y) := by
  split
  · exact a.up (by omega)
  · exact b.up (by omega)
/-- something of a list of small numbers -/
def pick (l : List Int) (i : Int) : Int := if ((L2.atI l i).getD 0).natAbs < 1000 then (L2.atI l i).getD 0 else 0
instance sz_pick {l : List Int} {i : Int} : Sz 10 (pick l i) := by
  unfold pick; split
  · rename_i h; exact ⟨Nat.lt_of_lt_of_le h (by decide)⟩
  · exact ⟨by decide⟩
theorem atI_nn {α : Type} {l : List α} {i : Int} (h0 : 0 ≤ i) (h1 : i < (l.length : Int)) : L2.atI l i = l[i.toNat]? := by
  unfold L2.atI L2.ixN; rw [if_pos h0, if_pos h1]; rfl
theorem atM_get {α : Type} {l : List α} {i : Int} (h0 : 0 ≤ i) (h1 : i < (l.length : Int)) : ∃ a, l[i.toNat]? = some a ∧ atM l i = .ok a := by
  have hlt : i.toNat < l.length := by omega
  refine ⟨l[i.toNat], List.getElem?_eq_getElem hlt, ?_⟩
  unfold atM; rw [atI_nn h0 h1, List.getElem?_eq_getElem hlt]
/-! powers -/
theorem pwr_10_6 : pwr 10 6 = 1000000 := by decide +kernel
instance : Sz 20 (pwr 10 6) := ⟨by rw [pwr_10_6]; decide +kernel⟩
instance : Pz (pwr 10 6) := ⟨by rw [pwr_10_6]; decide +kernel⟩
theorem pwr_10_9 : pwr 10 9 = 1000000000 := by decide +kernel
instance : Sz 30 (pwr 10 9) := ⟨by rw [pwr_10_9]; decide +kernel⟩
instance : Pz (pwr 10 9) := ⟨by rw [pwr_10_9]; decide +kernel⟩
theorem pwr_10_10 : pwr 10 10 = 10000000000 := by decide +kernel
instance : Sz 34 (pwr 10 10) := ⟨by rw [pwr_10_10]; decide +kernel⟩
instance : Pz (pwr 10 10) := ⟨by rw [pwr_10_10]; decide +kernel⟩
theorem pwr_10_20 : pwr 10 20 = 100000000000000000000 := by decide +kernel
instance : Sz 67 (pwr 10 20) := ⟨by rw [pwr_10_20]; decide +kernel⟩
instance : Pz (pwr 10 20) := ⟨by rw [pwr_10_20]; decide +kernel⟩
theorem pwr_10_28 : pwr 10 28 = 10000000000000000000000000000 := by decide +kernel
instance : Sz 94 (pwr 10 28) := ⟨by rw [pwr_10_28]; decide +kernel⟩
instance : Pz (pwr 10 28) := ⟨by rw [pwr_10_28]; decide +kernel⟩
theorem pwr_10_30 : pwr 10 30 = 1000000000000000000000000000000 := by decide +kernel
instance : Sz 100 (pwr 10 30) := ⟨by rw [pwr_10_30]; decide +kernel⟩
instance : Pz (pwr 10 30) := ⟨by rw [pwr_10_30]; decide +kernel⟩
theorem pwr_10_38 : pwr 10 38 = 100000000000000000000000000000000000000 := by decide +kernel
instance : Sz 127 (pwr 10 38) := ⟨by rw [pwr_10_38]; decide +kernel⟩
instance : Pz (pwr 10 38) := ⟨by rw [pwr_10_38]; decide +kernel⟩
theorem pwr_10_39 : pwr 10 39 = 1000000000000000000000000000000000000000 := by decide +kernel
instance : Sz 130 (pwr 10 39) := ⟨by rw [pwr_10_39]; decide +kernel⟩
instance : Pz (pwr 10 39) := ⟨by rw [pwr_10_39]; decide +kernel⟩
theorem pwr_10_40 : pwr 10 40 = 10000000000000000000000000000000000000000 := by decide +kernel
instance : Sz 133 (pwr 10 40) := ⟨by rw [pwr_10_40]; decide +kernel⟩
instance : Pz (pwr 10 40) := ⟨by rw [pwr_10_40]; decide +kernel⟩
theorem pwr_10_45 : pwr 10 45 = 1000000000000000000000000000000000000000000000 := by decide +kernel
instance : Sz 150 (pwr 10 45) := ⟨by rw [pwr_10_45]; decide +kernel⟩
instance : Pz (pwr 10 45) := ⟨by rw [pwr_10_45]; decide +kernel⟩
theorem pwr_10_50 : pwr 10 50 = 100000000000000000000000000000000000000000000000000 := by decide +kernel
instance : Sz 167 (pwr 10 50) := ⟨by rw [pwr_10_50]; decide +kernel⟩
instance : Pz (pwr 10 50) := ⟨by rw [pwr_10_50]; decide +kernel⟩
theorem pwr_10_59 : pwr 10 59 = 100000000000000000000000000000000000000000000000000000000000 := by decide +kernel
instance : Sz 196 (pwr 10 59) := ⟨by rw [pwr_10_59]; decide +kernel⟩
instance : Pz (pwr 10 59) := ⟨by rw [pwr_10_59]; decide +kernel⟩
theorem pwr_10_60 : pwr 10 60 = 1000000000000000000000000000000000000000000000000000000000000 := by decide +kernel
instance : Sz 200 (pwr 10 60) := ⟨by rw [pwr_10_60]; decide +kernel⟩
instance : Pz (pwr 10 60) := ⟨by rw [pwr_10_60]; decide +kernel⟩
theorem pwr_10_64 : pwr 10 64 = 10000000000000000000000000000000000000000000000000000000000000000 := by decide +kernel
instance : Sz 213 (pwr 10 64) := ⟨by rw [pwr_10_64]; decide +kernel⟩
instance : Pz (pwr 10 64) := ⟨by rw [pwr_10_64]; decide +kernel⟩
theorem pwr_48271_8 : pwr 48271 8 = 29477480947986319589215679678287935361 := by decide +kernel
instance : Sz 125 (pwr 48271 8) := ⟨by rw [pwr_48271_8]; decide +kernel⟩
instance : Pz (pwr 48271 8) := ⟨by rw [pwr_48271_8]; decide +kernel⟩
theorem pwr_69621_7 : pwr 69621 7 = 7928331467292760530673834318599741 := by decide +kernel
instance : Sz 113 (pwr 69621 7) := ⟨by rw [pwr_69621_7]; decide +kernel⟩
instance : Pz (pwr 69621 7) := ⟨by rw [pwr_69621_7]; decide +kernel⟩
instance : Sz 107 (162259276829213363391578010288127 : Int) := ⟨by decide +kernel⟩
instance : Pz (162259276829213363391578010288127 : Int) := ⟨by decide +kernel⟩
instance : Sz 127 (170141183460469231731687303715884105727 : Int) := ⟨by decide +kernel⟩
instance : Pz (170141183460469231731687303715884105727 : Int) := ⟨by decide +kernel⟩
instance : Sz 129 (414213562373095048801688724209698078569 : Int) := ⟨by decide +kernel⟩
instance : Pz (414213562373095048801688724209698078569 : Int) := ⟨by decide +kernel⟩
instance : Sz 129 (618033988749894848204586834365638117721 : Int) := ⟨by decide +kernel⟩
instance : Pz (618033988749894848204586834365638117721 : Int) := ⟨by decide +kernel⟩
/-! places -/
open Classical in
noncomputable def mkP (x y : Int) : P := if h : Sz 1000 x ∧ Sz 1000 y then ⟨x, y, h.1, h.2⟩ else ⟨0, 0, sz_0.up (by decide), sz_0.up (by decide)⟩
theorem toP_ok {n m : Nat} {x y : Int} [a : Sz n x] [b : Sz m y] (h : n ≤ 1000) (k : m ≤ 1000) : toP (x, y) = .ok (mkP x y) := by
  have c : Sz 1000 x ∧ Sz 1000 y := ⟨a.up h, b.up k⟩
  unfold toP mkP; rw [dif_pos c, dif_pos c]
/-! lists -/
theorem small_sz {n : Nat} (h : n ≤ 100000) : n < sizeLine := by rw [sizeLine_eq]; omega
theorem appM_ok {α : Type} {l : List α} {a : α} (h : l.length ≤ 100000) : appM l a = .ok (l ++ [a]) := by unfold appM; rw [if_pos (small_sz h)]
theorem rngM_ok {i j : Int} (h : -1000000 ≤ i ∧ i ≤ 1000000 ∧ -1000000 ≤ j ∧ j ≤ 1000000) : rngM i j = .ok (rngL i j) := by
  unfold rngM; rw [if_pos (by omega)]
theorem mem_rngL {i j x : Int} : x ∈ rngL i j ↔ i ≤ x ∧ x < j := by
  unfold rngL
  rw [List.mem_map]
  constructor
  · rintro ⟨k, hk, rfl⟩
    rw [List.mem_range] at hk
    omega
  · intro h
    exact ⟨(x - i).toNat, by rw [List.mem_range]; omega, by omega⟩
theorem get_rngL {i j x : Int} {k : Nat} (h : (rngL i j)[k]? = some x) : x = i + k ∧ x < j := by
  unfold rngL at h
  rw [List.getElem?_map] at h
  obtain ⟨m, hm, rfl⟩ := Option.map_eq_some_iff.mp h
  have := List.getElem?_eq_some_iff.mp hm
  obtain ⟨h1, h2⟩ := this
  simp at h1 h2
  omega
/-! comprehensions -/
/-! loops -/
section
variable {α σ ρ : Type}
theorem forM_cons {x : α} {xs : List α} {s : σ} {f : α → σ → VR σ} : forM (x :: xs) s f = (f x s).bind fun s' => forM xs s' f := rfl
theorem forM_inv (I : Nat → σ → Prop) {f : α → σ → VR σ} : ∀ {xs : List α} {s : σ} {j : Nat}, I j s → (∀ (i : Nat) (x : α) (s : σ), xs[i]? = some x → I (j + i) s → ∃ s', f x s = .ok s' ∧ I (j + i + 1) s') → ∃ s', forM xs s f = .ok s' ∧ I (j + xs.length) s'
  | [], s, j, h0, _ => ⟨s, rfl, h0⟩
  | x :: xs, s, j, h0, h => by
    obtain ⟨s1, e1, h1⟩ := h 0 x s rfl h0
    obtain ⟨s2, e2, h2⟩ := forM_inv I (xs := xs) (s := s1) (j := j + 1) h1 fun i y t hy ht => by
      obtain ⟨t', e, h'⟩ := h (i + 1) y t (by simpa using hy) (by rw [show j + (i + 1) = j + 1 + i by omega]; exact ht)
      exact ⟨t', e, by rw [show j + 1 + i + 1 = j + (i + 1) + 1 by omega]; exact h'⟩
    exact ⟨s2, by rw [forM_cons, e1]; exact e2, by rw [List.length_cons, show j + (xs.length + 1) = j + 1 + xs.length by omega]; exact h2⟩
theorem forF_nil {s : σ} {f : α → σ → VR (Fl σ ρ)} : forF [] s f = .ok (.nx s) := rfl
theorem forF_cons {x : α} {xs : List α} {s : σ} {f : α → σ → VR (Fl σ ρ)} : forF (x :: xs) s f = (f x s).bind fun r => match r with
    | .nx s' => forF xs s' f
    | .bk s' => .ok (.nx s')
    | .rt a => .ok (.rt a) := rfl
/-- no turn tells -/
theorem forF_inv (I : Nat → σ → Prop) {f : α → σ → VR (Fl σ ρ)} : ∀ {xs : List α} {s : σ} {j : Nat}, I j s → (∀ (i : Nat) (x : α) (s : σ), xs[i]? = some x → I (j + i) s → ∃ s', f x s = .ok (.nx s') ∧ I (j + i + 1) s') → ∃ s', forF xs s f = .ok (.nx s') ∧ I (j + xs.length) s'
  | [], s, j, h0, _ => ⟨s, rfl, h0⟩
  | x :: xs, s, j, h0, h => by
    obtain ⟨s1, e1, h1⟩ := h 0 x s rfl h0
    obtain ⟨s2, e2, h2⟩ := forF_inv I (xs := xs) (s := s1) (j := j + 1) h1 fun i y t hy ht => by
      obtain ⟨t', e, h'⟩ := h (i + 1) y t (by simpa using hy) (by rw [show j + (i + 1) = j + 1 + i by omega]; exact ht)
      exact ⟨t', e, by rw [show j + 1 + i + 1 = j + (i + 1) + 1 by omega]; exact h'⟩
    exact ⟨s2, by rw [forF_cons, e1]; exact e2, by rw [List.length_cons, show j + (xs.length + 1) = j + 1 + xs.length by omega]; exact h2⟩
/-- .. each turn leaves what it found -/
theorem forF_all {f : α → σ → VR (Fl σ ρ)} {xs : List α} {s : σ} (h : ∀ x ∈ xs, f x s = .ok (.nx s)) : forF xs s f = .ok (.nx s) := by
  obtain ⟨s', e, rfl⟩ := forF_inv (fun _ t => t = s) (f := f) (xs := xs) (s := s) (j := 0) rfl fun i x t hx ht => ⟨s, by rw [ht]; exact h x (List.mem_of_getElem? hx), rfl⟩
  exact e
theorem whlM_step {n : Nat} {c : σ → VR Bool} {f : σ → VR σ} {s : σ} : whlM (n + 1) c f s = (c s).bind fun t => if t = true then (f s).bind fun s' => whlM n c f s' else .ok s := rfl
/-- a while loop by a measure -/
theorem whlM_inv (I : σ → Prop) (m : σ → Nat) {c : σ → VR Bool} {f : σ → VR σ} (h : ∀ s, I s → ∃ t, c s = .ok t ∧ (t = true → ∃ s', f s = .ok s' ∧ I s' ∧ m s' < m s)) : ∀ {n : Nat} {s : σ}, I s → m s < n → ∃ s', whlM n c f s = .ok s' ∧ I s' ∧ c s' = .ok false
  | 0, s, _, hn => absurd hn (Nat.not_lt_zero _)
  | n + 1, s, hs, hn => by
    obtain ⟨t, e, k⟩ := h s hs
    rw [whlM_step, e, ok_bind]
    cases t with
    | false => exact ⟨s, rfl, hs, e⟩
    | true =>
      obtain ⟨s', e2, hs', hm⟩ := k rfl
      rw [if_pos rfl, e2, ok_bind]
      exact whlM_inv I m h hs' (by omega)
end
end TL

/-! Places of the program and plain geometry. -/
namespace TL
open PySem PySem.Spec PyProof.Rows L2 NL GM VL
open Ty (ec)
abbrev tP (a b c : P) : Int := tw a.pt b.pt c.pt
abbrev lP (a b : P) : Prop := lx a.pt b.pt
theorem lP_irr {a : P} : ¬ lP a a := lx_irr
theorem lP_ne {a b : P} (h : lP a b) : a ≠ b := fun e => lP_irr (e ▸ h)
end TL

/-! Scripts; lists in order; loops that tell. -/
namespace TL
open PySem PySem.Spec PyProof.Rows L2 NL GM VL
open Ty (ec)
/-- a script as the laws have it -/
structure Small (s : Scr) : Prop where
  len : s.ns.length ≤ 63
  bits : ∀ z ∈ s.ns, Sz 1048578 z
theorem bits_lt {x : Int} (h : Builtin.Int.intBits x ≤ 1048576) : Sz 1048578 x := by
  refine ⟨?_⟩
  unfold Builtin.Int.intBits at h
  have h1 : x.natAbs < 2 ^ (x.natAbs.log2 + 1) := Nat.lt_log2_self
  split at h
  · rename_i h0
    have : x.natAbs = 0 := by simpa using h0
    rw [this]
    exact Nat.pow_pos (by decide)
  · exact Nat.lt_of_lt_of_le h1 (Nat.pow_le_pow_right (by decide) (by omega))
theorem Small.mk' {ns : List Int} (h1 : ns.length ≤ 63) (h2 : ∀ z ∈ ns, Builtin.Int.intBits z ≤ 1048576) : Small ⟨ns⟩ := ⟨h1, fun z hz => bits_lt (h2 z hz)⟩
/-- a number of the script or made of them -/
abbrev Big (x : Int) : Prop := Sz 1100000 x
theorem _root_.VL.Sz.big {n : Nat} {x : Int} (h : Sz n x) (k : n ≤ 1100000 := by decide) : Big x := h.up k
theorem bi_eq {α β : Type} {r : VR α} {a : α} {k : α → VR β} {z : VR β} (h : r = .ok a) (h2 : k a = z) : r.bind k = z := by rw [h]; exact h2
/-! lists -/
section
variable {α σ ρ β : Type}
theorem forM_Ok (I : Nat → σ → Prop) {f : α → σ → VR σ} {xs : List α} {s : σ} (h0 : I 0 s) (h : ∀ (i : Nat) (x : α) (s : σ), xs[i]? = some x → I i s → Ok (f x s) (I (i + 1))) : Ok (forM xs s f) (I xs.length) := by
  obtain ⟨s', e, k⟩ := forM_inv I (j := 0) (xs := xs) (f := f) h0 fun i x s hx hs => by
    rw [Nat.zero_add] at hs ⊢
    exact h i x s hx hs
  rw [Nat.zero_add] at k
  exact ⟨s', e, k⟩
end
/-! sorted -/
section
variable {α : Type} [Ty α] [DecidableEq α] {d : Nat} [o : Or α d]
end
/-- places in order -/
def Asc (l : List P) : Prop := l.Pairwise lP
theorem Asc.nodup {l : List P} (h : Asc l) : l.Nodup := h.imp fun {a b} z => lP_ne z
theorem Asc.get {l : List P} (h : Asc l) {i j : Nat} {a b : P} (hij : i < j) (ha : l[i]? = some a) (hb : l[j]? = some b) : lP a b := by
  obtain ⟨hi, rfl⟩ := List.getElem?_eq_some_iff.mp ha
  obtain ⟨hj, rfl⟩ := List.getElem?_eq_some_iff.mp hb
  exact List.pairwise_iff_getElem.mp h i j hi hj hij
def P0 : P := ⟨0, 0, sz_0.up (by decide), sz_0.up (by decide)⟩
theorem Ok.eq {α : Type} {g : VR α} {a : α} (h : Ok g fun v => v = a) : g = .ok a := by
  obtain ⟨v, e, rfl⟩ := h; exact e
end TL

/-! Fractions in lowest terms; points; what lies nearest. -/
namespace TL
open PySem PySem.Spec PyProof.Rows L2 NL GM VL
open Ty (ec)
abbrev XP := Fr 10000 × Fr 10000
theorem whlM_fuel {σ : Type} (I : σ → Prop) (m : σ → Nat) {n : Nat} (hn : n ≤ 99999) {c : σ → VR Bool} {f : σ → VR σ} {s : σ} (h0 : I s) (hm : m s < 2 ^ n) (h : ∀ s, I s → ∃ t, c s = .ok t ∧ (t = true → ∃ s', f s = .ok s' ∧ I s' ∧ m s' < m s)) : Ok (whlM fuel c f s) fun s' => I s' ∧ c s' = .ok false := by
  obtain ⟨s', h1, h2, h3⟩ := whlM_inv I m h (n := fuel) (s := s) h0 (Nat.lt_of_succ_le (fuel_ge hm hn))
  exact ⟨s', h1, h2, h3⟩
theorem fdiv_exact {x g : Int} (hg : g ≠ 0) (h : g ∣ x) : x.fdiv g = x / g := by
  rw [Int.fdiv_eq_ediv]
  have : ¬ ¬ g ∣ x := fun z => z h
  simp [h]
/-- exact division by what is not nought -/
theorem fdivM_ex {n : Nat} {x y : Int} [s : Sz n y] (h0 : y ≠ 0) (h : y ∣ x) (hn : n ≤ 9000 := by omega) : fdivM x y = .ok (x / y) := by
  unfold fdivM; rw [if_pos ⟨h0, log2_sz hn⟩, fdiv_exact h0 h]
theorem sz_ediv_le {n : Nat} {x y : Int} (h : Sz n x) : Sz n (x / y) := ⟨by
  have := Int.natAbs_ediv_le_natAbs x y
  exact Nat.lt_of_le_of_lt this h.lt⟩
theorem sz_gcd {n : Nat} {x y : Int} (h : Sz n y) (h0 : y ≠ 0) : Sz n ((Int.gcd x y : Nat) : Int) := ⟨by
  rw [Int.natAbs_natCast]
  exact Nat.lt_of_le_of_lt (Nat.le_of_dvd (by omega) (Int.gcd_dvd_natAbs_right x y)) h.lt⟩
noncomputable def mkFr (n d : Int) : Fr 10000 := @dite _ (Sz 10000 n ∧ Sz 10000 d) (Classical.propDecidable _) (fun h => ⟨n, d, h.1, h.2⟩) (fun _ => ⟨0, 0, sz_0.up (by decide), sz_0.up (by decide)⟩)
theorem mkFr_eq {n d : Int} (a : Sz 10000 n) (b : Sz 10000 d) : (mkFr n d).n = n ∧ (mkFr n d).d = d := by
  unfold mkFr; rw [dif_pos ⟨a, b⟩]; exact ⟨rfl, rfl⟩
theorem toFr_ok {n d : Int} (a : Sz 10000 n) (b : Sz 10000 d) : toFr 10000 (n, d) = .ok (mkFr n d) := by
  unfold toFr mkFr; rw [dif_pos ⟨a, b⟩, dif_pos ⟨a, b⟩]
def gc (t b : Int) : Int := (Int.gcd t b : Nat)
def lowN (t b : Int) : Int := if b < 0 then -(t / gc t b) else t / gc t b
def lowD (t b : Int) : Int := if b < 0 then -(b / gc t b) else b / gc t b
/-- in lowest terms -/
noncomputable def low (t b : Int) : Fr 10000 := mkFr (lowN t b) (lowD t b)
theorem gc_pos {t b : Int} (h : b ≠ 0) : 0 < gc t b := by
  unfold gc
  have : 0 < Int.gcd t b := Int.gcd_pos_iff.mpr (.inr h)
  omega
theorem gc_l {t b : Int} : gc t b ∣ t := Int.gcd_dvd_left t b
theorem gc_r {t b : Int} : gc t b ∣ b := Int.gcd_dvd_right t b
theorem sz_neg' {n : Nat} {x : Int} (h : Sz n x) : Sz n (-x) := ⟨by rw [Int.natAbs_neg]; exact h.lt⟩
theorem sz_lowN {n : Nat} {t b : Int} (h : Sz n t) : Sz n (lowN t b) := by
  unfold lowN; split
  · exact sz_neg' (sz_ediv_le h)
  · exact sz_ediv_le h
theorem sz_lowD {n : Nat} {t b : Int} (h : Sz n b) : Sz n (lowD t b) := by
  unfold lowD; split
  · exact sz_neg' (sz_ediv_le h)
  · exact sz_ediv_le h
theorem low_nd {n m : Nat} {t b : Int} (ht : Sz n t) (hb : Sz m b) (hn : n ≤ 10000) (hm : m ≤ 10000) : (low t b).n = lowN t b ∧ (low t b).d = lowD t b := mkFr_eq ((sz_lowN ht).up hn) ((sz_lowD hb).up hm)
theorem lowD_pos {t b : Int} (h : b ≠ 0) : 0 < lowD t b := by
  have g := gc_pos (t := t) h
  have e2 : b / gc t b * gc t b = b := Int.ediv_mul_cancel gc_r
  unfold lowD
  generalize b / gc t b = y at *
  generalize gc t b = z at *
  split
  · rename_i c
    rcases Int.lt_trichotomy y 0 with a | a | a
    · omega
    · rw [a, Int.zero_mul] at e2; omega
    · have := Int.mul_pos a g; omega
  · rename_i c
    rcases Int.lt_trichotomy y 0 with a | a | a
    · have := Int.mul_neg_of_neg_of_pos a g; omega
    · rw [a, Int.zero_mul] at e2; omega
    · exact a
/-- the same number -/
theorem low_cross {t b : Int} (h : b ≠ 0) : lowN t b * b = t * lowD t b := by
  have g := gc_pos (t := t) h
  have e1 : t / gc t b * gc t b = t := Int.ediv_mul_cancel gc_l
  have e2 : b / gc t b * gc t b = b := Int.ediv_mul_cancel gc_r
  unfold lowN lowD
  generalize t / gc t b = x at *
  generalize b / gc t b = y at *
  generalize gc t b = z at *
  split <;> grind
theorem low_gcd {t b : Int} (h : b ≠ 0) : Int.gcd (lowN t b) (lowD t b) = 1 := by
  have g : 0 < Int.gcd t b := Int.gcd_pos_iff.mpr (.inr h)
  have e : Int.gcd (t / gc t b) (b / gc t b) = 1 := Int.gcd_ediv_gcd_ediv_gcd g
  unfold lowN lowD
  split
  · rw [Int.neg_gcd, Int.gcd_neg]; exact e
  · exact e
/-! points -/
structure XOk (X : XP) : Prop where
  u : 0 < X.1.d
  v : 0 < X.2.d
/-- the square of the way to a place, times a number above nought -/
def dX (X : XP) (p : P) : Int := ((p.x * X.1.d - X.1.n) * X.2.d) * ((p.x * X.1.d - X.1.n) * X.2.d) + ((p.y * X.2.d - X.2.n) * X.1.d) * ((p.y * X.2.d - X.2.n) * X.1.d)
def bentX (X : XP) (p q : P) : Int := (q.x * q.x + q.y * q.y - p.x * p.x - p.y * p.y) * X.1.d * X.2.d - 2 * X.1.n * X.2.d * (q.x - p.x) - 2 * X.2.n * X.1.d * (q.y - p.y)
theorem bentX_eq (X : XP) (p q : P) : dX X q - dX X p = X.1.d * X.2.d * bentX X p q := by
  unfold dX bentX; grind
/-- the middle of the ring of three places, over twice their area twice -/
abbrev midNx (a b c : P) : Int := 2 * tP a b c * a.x + (c.y - a.y) * ((b.x - a.x) * (b.x - a.x) + (b.y - a.y) * (b.y - a.y)) - (b.y - a.y) * ((c.x - a.x) * (c.x - a.x) + (c.y - a.y) * (c.y - a.y))
abbrev midNy (a b c : P) : Int := 2 * tP a b c * a.y + (b.x - a.x) * ((c.x - a.x) * (c.x - a.x) + (c.y - a.y) * (c.y - a.y)) - (c.x - a.x) * ((b.x - a.x) * (b.x - a.x) + (b.y - a.y) * (b.y - a.y))
theorem sz_ad {n : Nat} {x y : Int} (a : Sz n x) (b : Sz n y) : Sz (n + 1) (x + y) := ⟨by
  have := a.lt; have := b.lt; rw [Nat.pow_succ]; omega⟩
theorem sz_sb {n : Nat} {x y : Int} (a : Sz n x) (b : Sz n y) : Sz (n + 1) (x - y) := ⟨by
  have := a.lt; have := b.lt; rw [Nat.pow_succ]; omega⟩
theorem sz_ml {n m : Nat} {x y : Int} (a : Sz n x) (b : Sz m y) : Sz (n + m) (x * y) := inferInstance
theorem sz_tP (a b c : P) : Sz 2003 (tP a b c) := sz_sb (sz_ml (sz_sb b.hx a.hx) (sz_sb c.hy a.hy)) (sz_ml (sz_sb b.hy a.hy) (sz_sb c.hx a.hx))
theorem sz_sq (a b : P) : Sz 2003 ((b.x - a.x) * (b.x - a.x) + (b.y - a.y) * (b.y - a.y)) := sz_ad (sz_ml (sz_sb b.hx a.hx) (sz_sb b.hx a.hx)) (sz_ml (sz_sb b.hy a.hy) (sz_sb b.hy a.hy))
theorem sz_2tP (a b c : P) : Sz 2005 (2 * tP a b c) := Sz.up (sz_ml (n := 2) ⟨by decide⟩ (sz_tP a b c)) (by decide)
theorem sz_midNx (a b c : P) : Sz 3100 (midNx a b c) := by
  have h1 : Sz 3010 (2 * tP a b c * a.x) := (sz_ml (sz_2tP a b c) a.hx).up (by decide)
  have h2 : Sz 3010 ((c.y - a.y) * ((b.x - a.x) * (b.x - a.x) + (b.y - a.y) * (b.y - a.y))) := (sz_ml (sz_sb c.hy a.hy) (sz_sq a b)).up (by decide)
  have h3 : Sz 3011 ((b.y - a.y) * ((c.x - a.x) * (c.x - a.x) + (c.y - a.y) * (c.y - a.y))) := (sz_ml (sz_sb b.hy a.hy) (sz_sq a c)).up (by decide)
  exact (sz_sb (sz_ad h1 h2) h3).up (by decide)
theorem sz_midNy (a b c : P) : Sz 3100 (midNy a b c) := by
  have h1 : Sz 3010 (2 * tP a b c * a.y) := (sz_ml (sz_2tP a b c) a.hy).up (by decide)
  have h2 : Sz 3010 ((b.x - a.x) * ((c.x - a.x) * (c.x - a.x) + (c.y - a.y) * (c.y - a.y))) := (sz_ml (sz_sb b.hx a.hx) (sz_sq a c)).up (by decide)
  have h3 : Sz 3011 ((c.x - a.x) * ((b.x - a.x) * (b.x - a.x) + (b.y - a.y) * (b.y - a.y))) := (sz_ml (sz_sb c.hx a.hx) (sz_sq a b)).up (by decide)
  exact (sz_sb (sz_ad h1 h2) h3).up (by decide)
/-- the middle of the ring of three places -/
noncomputable def midX (a b c : P) : XP := (low (midNx a b c) (2 * tP a b c), low (midNy a b c) (2 * tP a b c))
/-- on which hand of a way a point lies -/
abbrev hX (a b : P) (X : XP) : Int := (b.x - a.x) * (X.2.n - a.y * X.2.d) * X.1.d - (b.y - a.y) * (X.1.n - a.x * X.1.d) * X.2.d
/-- on the straight way between two places, or an end -/
def onWay (a b : P) (X : XP) : Prop := hX a b X = 0 ∧ (mnT a.x b.x * X.1.d ≤ X.1.n ∧ X.1.n ≤ mxT a.x b.x * X.1.d) ∧ mnT a.y b.y * X.2.d ≤ X.2.n ∧ X.2.n ≤ mxT a.y b.y * X.2.d
instance {a b : P} {X : XP} : Decidable (onWay a b X) := by unfold onWay; infer_instance
end TL

/-! The outline of places: a thread drawn tight. -/
namespace TL
open PySem PySem.Spec PyProof.Rows L2 NL GM VL
open Ty (ec)
/-! ways that go ahead -/
def up (x y : Int) : Prop := 0 < x ∨ x = 0 ∧ 0 < y
/-- from a to b is ahead, on the way told by s (1 or -1) -/
structure Dir (s : Int) : Prop where
  h : s = 1 ∨ s = -1
def Bf (s : Int) (a b : P) : Prop := up (s * (b.x - a.x)) (s * (b.y - a.y))
/-! the stack of the thread, the last first -/
/-- what is so of a side of the thread -/
def EdgeOk (s : Int) (done : List P) (a b : P) : Prop := Bf s a b ∧ ∀ x ∈ done, 0 ≤ tP a b x ∧ (tP a b x = 0 → ¬ (Bf s a x ∧ Bf s x b))
def Hull (s : Int) (done : List P) : List P → Prop
  | b :: a :: r => EdgeOk s done a b ∧ Hull s done (a :: r)
  | _ => True
/-- the thread so far -/
structure Thr (s : Int) (done : List P) (st : List P) : Prop where
  hull : Hull s done st
  sub : ∀ x ∈ st, x ∈ done
  top : ∀ t, st.head? = some t → ∀ x ∈ done, x = t ∨ Bf s x t
  bot : ∀ t, st.getLast? = some t → ∀ x ∈ done, x = t ∨ Bf s t x
  ne : done ≠ [] → st ≠ []
/-! sides of a list, one behind the other -/
/-! the outline -/
/-! going round by numbers -/
/-! the first, the last; on one line -/
noncomputable def fstP (ps : List P) : P := (srtL ps).head?.getD P0
noncomputable def lstP (ps : List P) : P := (srtL ps).getLast?.getD P0
def InLine (ps : List P) : Prop := ∀ x ∈ ps, tP (fstP ps) (lstP ps) x = 0
noncomputable instance {ps : List P} : Decidable (InLine ps) := by unfold InLine; infer_instance
/-! the best of some things -/
section
variable {α : Type} [Ty α] [DecidableEq α] {d : Nat} [o : Or α d]
end
/-- of some numbers, none above 1: the least -/
structure IsMin (S : Int → Prop) (v : Int) : Prop where
  ex : S v
  le : ∀ y, S y → v ≤ y
theorem IsMin.uniq {S : Int → Prop} {v w : Int} (h : IsMin S v) (k : IsMin S w) : v = w := Int.le_antisymm (h.le _ k.ex) (k.le _ h.ex)
end TL

/-! The outline: each place once, three at least; of places on one line there and back. -/
namespace TL
open PySem PySem.Spec PyProof.Rows L2 NL GM VL
open Ty (ec)
theorem tP_sw (a b c : P) : tP b a c = -tP a b c := tw_sw _ _ _
theorem tP_sw' (a b c : P) : tP a c b = -tP a b c := tw_sw' _ _ _
theorem tP_rot (a b c : P) : tP b c a = tP a b c := tw_rot _ _ _
theorem tP_rot' (a b c : P) : tP c a b = tP a b c := tw_rot' _ _ _
/-! on one line -/
end TL

namespace TL
open PySem PySem.Spec PyProof.Rows L2 NL GM VL
open Ty (ec)
def top (i : Nat) : Stmt := PySem.Challenge.pw_nearland_k13_middles.main.body.getD i (.Pass ⟨0, 0, 0, 0⟩)
-- 0: shared(one, other); 0 one, 1 other
def f0 : Fn := ⟨2, 2, (.cons (.whl (.cmp .ne (.var 1) (.con (.int 0))) (.cons (.unp [0, 1] (.tup (.cons (.var 1) (.cons (.bin .mod (.var 0) (.var 1)) .nil)))) .nil)) (.cons (.ret (.blt .abs (.cons (.var 0) .nil))) .nil))⟩
abbrev e0 : Ent := ⟨"shared", top 9, ["one", "other"], ["one", "other"], f0⟩
-- 1: fraction(top, bottom); 0 top, 1 bottom, 2 by
def f1 : Fn := ⟨2, 3, (.cons (.ifs (.cmp .eq (.var 1) (.con (.int 0))) (.cons .dead .nil) .nil) (.cons (.set 2 (.call 0 (.cons (.var 0) (.cons (.var 1) .nil)))) (.cons (.ifs (.cmp .lt (.var 1) (.con (.int 0))) (.cons (.set 2 (.neg (.var 2))) .nil) .nil) (.cons (.ret (.tup (.cons (.bin .fdiv (.var 0) (.var 2)) (.cons (.bin .fdiv (.var 1) (.var 2)) .nil)))) .nil))))⟩
abbrev e1 : Ent := ⟨"fraction", top 10, ["top", "bottom", "by"], ["top", "bottom"], f1⟩
-- 2: twice(a, b, c); 0 a, 1 b, 2 c
def f2 : Fn := ⟨3, 3, (.cons (.ret (.bin .sub (.bin .mul (.bin .sub (.idx (.var 1) (.con (.int 0))) (.idx (.var 0) (.con (.int 0)))) (.bin .sub (.idx (.var 2) (.con (.int 1))) (.idx (.var 0) (.con (.int 1))))) (.bin .mul (.bin .sub (.idx (.var 1) (.con (.int 1))) (.idx (.var 0) (.con (.int 1)))) (.bin .sub (.idx (.var 2) (.con (.int 0))) (.idx (.var 0) (.con (.int 0))))))) .nil)⟩
abbrev e2 : Ent := ⟨"twice", top 12, ["a", "b", "c"], ["a", "b", "c"], f2⟩
-- 3: sign_of(number); 0 number
def f3 : Fn := ⟨1, 1, (.cons (.ifs (.cmp .gt (.var 0) (.con (.int 0))) (.cons (.ret (.con (.int 1))) .nil) .nil) (.cons (.ifs (.cmp .lt (.var 0) (.con (.int 0))) (.cons (.ret (.neg (.con (.int 1)))) .nil) .nil) (.cons (.ret (.con (.int 0))) .nil)))⟩
abbrev e3 : Ent := ⟨"sign_of", top 13, ["number"], ["number"], f3⟩
-- 4: turn(a, b, c); 0 a, 1 b, 2 c
def f4 : Fn := ⟨3, 3, (.cons (.ret (.call 3 (.cons (.call 2 (.cons (.var 0) (.cons (.var 1) (.cons (.var 2) .nil)))) .nil))) .nil)⟩
abbrev e4 : Ent := ⟨"turn", top 14, ["a", "b", "c"], ["a", "b", "c"], f4⟩
-- 5: middle(a, b, c); 0 a, 1 b, 2 c, 3 area, 4 bx, 5 by, 6 cx, 7 cy, 8 far_b, 9 far_c, 10 x, 11 y
def f5 : Fn := ⟨3, 12, (.cons (.set 3 (.call 2 (.cons (.var 0) (.cons (.var 1) (.cons (.var 2) .nil))))) (.cons (.ifs (.cmp .eq (.var 3) (.con (.int 0))) (.cons (.rse "Flat") .nil) .nil) (.cons (.set 4 (.bin .sub (.idx (.var 1) (.con (.int 0))) (.idx (.var 0) (.con (.int 0))))) (.cons (.set 5 (.bin .sub (.idx (.var 1) (.con (.int 1))) (.idx (.var 0) (.con (.int 1))))) (.cons (.set 6 (.bin .sub (.idx (.var 2) (.con (.int 0))) (.idx (.var 0) (.con (.int 0))))) (.cons (.set 7 (.bin .sub (.idx (.var 2) (.con (.int 1))) (.idx (.var 0) (.con (.int 1))))) (.cons (.set 8 (.bin .add (.bin .mul (.var 4) (.var 4)) (.bin .mul (.var 5) (.var 5)))) (.cons (.set 9 (.bin .add (.bin .mul (.var 6) (.var 6)) (.bin .mul (.var 7) (.var 7)))) (.cons (.set 10 (.call 1 (.cons (.bin .sub (.bin .add (.bin .mul (.bin .mul (.con (.int 2)) (.var 3)) (.idx (.var 0) (.con (.int 0)))) (.bin .mul (.var 7) (.var 8))) (.bin .mul (.var 5) (.var 9))) (.cons (.bin .mul (.con (.int 2)) (.var 3)) .nil)))) (.cons (.set 11 (.call 1 (.cons (.bin .sub (.bin .add (.bin .mul (.bin .mul (.con (.int 2)) (.var 3)) (.idx (.var 0) (.con (.int 1)))) (.bin .mul (.var 4) (.var 9))) (.bin .mul (.var 6) (.var 8))) (.cons (.bin .mul (.con (.int 2)) (.var 3)) .nil)))) (.cons (.ret (.tup (.cons (.var 10) (.cons (.var 11) .nil)))) .nil)))))))))))⟩
abbrev e5 : Ent := ⟨"middle", top 16, ["a", "b", "c", "area", "bx", "by", "cx", "cy", "far_b", "far_c", "x", "y"], ["a", "b", "c"], f5⟩
-- 6: height(a, d); 0 a, 1 d
def f6 : Fn := ⟨2, 2, (.cons (.ret (.bin .add (.bin .mul (.bin .sub (.idx (.var 0) (.con (.int 0))) (.idx (.var 1) (.con (.int 0)))) (.bin .sub (.idx (.var 0) (.con (.int 0))) (.idx (.var 1) (.con (.int 0))))) (.bin .mul (.bin .sub (.idx (.var 0) (.con (.int 1))) (.idx (.var 1) (.con (.int 1)))) (.bin .sub (.idx (.var 0) (.con (.int 1))) (.idx (.var 1) (.con (.int 1))))))) .nil)⟩
abbrev e6 : Ent := ⟨"height", top 17, ["a", "d"], ["a", "d"], f6⟩
-- 7: ring(a, b, c, d); 0 a, 1 b, 2 c, 3 d, 4 hand, 5 bowl
def f7 : Fn := ⟨4, 6, (.cons (.set 4 (.call 4 (.cons (.var 0) (.cons (.var 1) (.cons (.var 2) .nil))))) (.cons (.ifs (.cmp .eq (.var 4) (.con (.int 0))) (.cons (.rse "Flat") .nil) .nil) (.cons (.set 5 (.bin .add (.bin .add (.bin .mul (.call 6 (.cons (.var 0) (.cons (.var 3) .nil))) (.call 2 (.cons (.var 3) (.cons (.var 1) (.cons (.var 2) .nil))))) (.bin .mul (.call 6 (.cons (.var 1) (.cons (.var 3) .nil))) (.call 2 (.cons (.var 3) (.cons (.var 2) (.cons (.var 0) .nil)))))) (.bin .mul (.call 6 (.cons (.var 2) (.cons (.var 3) .nil))) (.call 2 (.cons (.var 3) (.cons (.var 0) (.cons (.var 1) .nil))))))) (.cons (.ret (.bin .mul (.var 4) (.call 3 (.cons (.var 5) .nil)))) .nil))))⟩
abbrev e7 : Ent := ⟨"ring", top 18, ["a", "b", "c", "d", "hand", "bowl"], ["a", "b", "c", "d"], f7⟩
-- 8: spoils(a, b, c, d); 0 a, 1 b, 2 c, 3 d, 4 where, 5 least, 6 one, 7 other, 8 p
def f8 : Fn := ⟨4, 9, (.cons (.set 4 (.call 7 (.cons (.var 0) (.cons (.var 1) (.cons (.var 2) (.cons (.var 3) .nil)))))) (.cons (.ifs (.or (.cmp .ne (.var 4) (.con (.int 0))) (.cmp .isIn (.var 3) (.tup (.cons (.var 0) (.cons (.var 1) (.cons (.var 2) .nil)))))) (.cons (.ret (.cmp .eq (.var 4) (.con (.int 1)))) .nil) .nil) (.cons (.set 5 (.blt .min (.cons (.var 0) (.cons (.var 1) (.cons (.var 2) .nil))))) (.cons (.ifs (.cmp .lt (.var 3) (.var 5)) (.cons (.ret (.con (.bl true))) .nil) .nil) (.cons (.unp [6, 7] (.comp [8] (.nm 8) (.val (.tup (.cons (.var 0) (.cons (.var 1) (.cons (.var 2) .nil))))) (.cmp .ne (.var 8) (.var 5)) (.var 8))) (.cons (.ret (.cmp .lt (.bin .mul (.call 4 (.cons (.var 6) (.cons (.var 7) (.cons (.var 5) .nil)))) (.call 4 (.cons (.var 6) (.cons (.var 7) (.cons (.var 3) .nil))))) (.con (.int 0)))) .nil))))))⟩
abbrev e8 : Ent := ⟨"spoils", top 19, ["a", "b", "c", "d", "where", "least", "one", "other", "p"], ["a", "b", "c", "d"], f8⟩
-- 9: _law_nth(_law_script, _law_k); 0 _law_script, 1 _law_k
def f9 : Fn := ⟨2, 2, (.cons (.ret (.ite (.cmp .lt (.var 1) (.blt .len (.cons (.var 0) .nil))) (.idx (.var 0) (.var 1)) (.con (.int 0)))) .nil)⟩
abbrev e9 : Ent := ⟨"_law_nth", top 21, ["_law_script", "_law_k"], ["_law_script", "_law_k"], f9⟩
-- 10: _law_int(_law_thing); 0 _law_thing
def f10 : Fn := ⟨1, 1, (.cons (.ret (.and (.isi (.var 0) .int) (.and (.cmp .isNot (.var 0) (.con (.bl true))) (.cmp .isNot (.var 0) (.con (.bl false)))))) .nil)⟩
abbrev e10 : Ent := ⟨"_law_int", top 22, ["_law_thing"], ["_law_thing"], f10⟩
-- 11: _law_area(_law_a, _law_b, _law_c); 0 _law_a, 1 _law_b, 2 _law_c, 3 _law_some
def f11 : Fn := ⟨3, 4, (.cons (.set 3 (.bin .add (.bin .mul (.idx (.var 0) (.con (.int 0))) (.bin .sub (.idx (.var 1) (.con (.int 1))) (.idx (.var 2) (.con (.int 1))))) (.bin .mul (.idx (.var 1) (.con (.int 0))) (.bin .sub (.idx (.var 2) (.con (.int 1))) (.idx (.var 0) (.con (.int 1))))))) (.cons (.ret (.bin .add (.var 3) (.bin .mul (.idx (.var 2) (.con (.int 0))) (.bin .sub (.idx (.var 0) (.con (.int 1))) (.idx (.var 1) (.con (.int 1))))))) .nil))⟩
abbrev e11 : Ent := ⟨"_law_area", top 23, ["_law_a", "_law_b", "_law_c", "_law_some"], ["_law_a", "_law_b", "_law_c"], f11⟩
-- 12: _law_spot(_law_kind, _law_one, _law_other, _law_heart, _law_by); 0 _law_kind, 1 _law_one, 2 _law_other, 3 _law_heart, 4 _law_by, 5 _law_x, 6 _law_y
def f12 : Fn := ⟨5, 7, (.cons (.set 5 (.bin .sub (.bin .mod (.var 1) (.con (.int 9))) (.con (.int 4)))) (.cons (.set 6 (.bin .mul (.con (.int 2)) (.var 5))) (.cons (.ifs (.cmp .eq (.var 0) (.con (.int 0))) (.cons (.ret (.tup (.cons (.bin .sub (.bin .mod (.var 1) (.con (.int 7))) (.con (.int 3))) (.cons (.bin .sub (.bin .mod (.var 2) (.con (.int 7))) (.con (.int 3))) .nil)))) .nil) .nil) (.cons (.ifs (.cmp .eq (.var 0) (.con (.int 1))) (.cons (.unp [5, 6] (.idx (.lst (.cons (.tup (.cons (.con (.int 5)) (.cons (.con (.int 0)) .nil))) (.cons (.tup (.cons (.con (.int 4)) (.cons (.con (.int 3)) .nil))) (.cons (.tup (.cons (.con (.int 3)) (.cons (.con (.int 4)) .nil))) (.cons (.tup (.cons (.con (.int 0)) (.cons (.con (.int 5)) .nil))) (.cons (.tup (.cons (.neg (.con (.int 3))) (.cons (.con (.int 4)) .nil))) (.cons (.tup (.cons (.neg (.con (.int 4))) (.cons (.con (.int 3)) .nil))) .nil))))))) (.bin .mod (.var 1) (.con (.int 6))))) (.cons (.ifs (.cmp .eq (.bin .mod (.bin .fdiv (.var 1) (.con (.int 6))) (.con (.int 2))) (.con (.int 1))) (.cons (.unp [5, 6] (.tup (.cons (.neg (.var 5)) (.cons (.neg (.var 6)) .nil)))) .nil) .nil) .nil)) .nil) (.cons (.ifs (.cmp .eq (.var 0) (.con (.int 2))) (.cons (.set 5 (.bin .mod (.var 1) (.con (.int 3)))) (.cons (.set 6 (.bin .mod (.var 2) (.con (.int 3)))) .nil)) .nil) (.cons (.ifs (.cmp .eq (.var 0) (.con (.int 3))) (.cons (.ret (.tup (.cons (.bin .add (.bin .sub (.bin .mod (.var 1) (.bin .sub (.bin .mul (.con (.int 2)) (.bin .pow (.con (.int 10)) (.con (.int 40)))) (.con (.int 1)))) (.bin .pow (.con (.int 10)) (.con (.int 40)))) (.con (.int 1))) (.cons (.bin .add (.bin .sub (.bin .mod (.var 2) (.bin .sub (.bin .mul (.con (.int 2)) (.bin .pow (.con (.int 10)) (.con (.int 40)))) (.con (.int 1)))) (.bin .pow (.con (.int 10)) (.con (.int 40)))) (.con (.int 1))) .nil)))) .nil) .nil) (.cons (.ifs (.cmp .eq (.var 0) (.con (.int 4))) (.cons (.ret (.tup (.cons (.bin .add (.idx (.var 3) (.con (.int 0))) (.bin .mul (.var 4) (.var 5))) (.cons (.bin .add (.bin .add (.idx (.var 3) (.con (.int 1))) (.bin .mul (.var 4) (.var 6))) (.blt .int (.cons (.cmp .eq (.bin .mod (.var 2) (.con (.int 4))) (.con (.int 1))) .nil))) .nil)))) .nil) .nil) (.cons (.ifs (.cmp .eq (.var 0) (.con (.int 5))) (.cons (.set 5 (.bin .sub (.bin .mod (.var 1) (.con (.int 11))) (.con (.int 5)))) (.cons (.set 6 (.bin .sub (.bin .mod (.var 2) (.con (.int 11))) (.con (.int 5)))) .nil)) .nil) (.cons (.ret (.tup (.cons (.bin .add (.idx (.var 3) (.con (.int 0))) (.bin .mul (.var 4) (.var 5))) (.cons (.bin .add (.idx (.var 3) (.con (.int 1))) (.bin .mul (.var 4) (.var 6))) .nil)))) .nil)))))))))⟩
abbrev e12 : Ent := ⟨"_law_spot", top 24, ["_law_kind", "_law_one", "_law_other", "_law_heart", "_law_by", "_law_x", "_law_y"], ["_law_kind", "_law_one", "_law_other", "_law_heart", "_law_by"], f12⟩
-- 13: _law_spots(_law_script, _law_start, _law_many); 0 _law_script, 1 _law_start, 2 _law_many, 3 _law_kind, 4 _law_right, 5 _law_up, 6 _law_by, 7 _law_found, 8 _law_k, 9 _law_one, 10 _law_other, 11 _law_here
def f13 : Fn := ⟨3, 12, (.cons (.set 3 (.bin .mod (.call 9 (.cons (.var 0) (.cons (.var 1) .nil))) (.con (.int 6)))) (.cons (.set 4 (.bin .sub (.bin .mod (.call 9 (.cons (.var 0) (.cons (.bin .add (.var 1) (.con (.int 1))) .nil))) (.bin .add (.bin .mul (.con (.int 2)) (.bin .pow (.con (.int 10)) (.con (.int 39)))) (.con (.int 1)))) (.bin .pow (.con (.int 10)) (.con (.int 39))))) (.cons (.set 5 (.bin .sub (.bin .mod (.call 9 (.cons (.var 0) (.cons (.bin .add (.var 1) (.con (.int 2))) .nil))) (.bin .add (.bin .mul (.con (.int 2)) (.bin .pow (.con (.int 10)) (.con (.int 39)))) (.con (.int 1)))) (.bin .pow (.con (.int 10)) (.con (.int 39))))) (.cons (.set 6 (.bin .add (.con (.int 1)) (.bin .mod (.call 9 (.cons (.var 0) (.cons (.bin .add (.var 1) (.con (.int 3))) .nil))) (.bin .pow (.con (.int 10)) (.con (.int 20)))))) (.cons (.set 7 (.lst .nil)) (.cons (.for_ (.nm 8) (.rng1 (.var 2)) (.cons (.set 9 (.call 9 (.cons (.var 0) (.cons (.bin .add (.bin .add (.var 1) (.con (.int 4))) (.bin .mul (.con (.int 2)) (.var 8))) .nil)))) (.cons (.set 10 (.call 9 (.cons (.var 0) (.cons (.bin .add (.bin .add (.var 1) (.con (.int 5))) (.bin .mul (.con (.int 2)) (.var 8))) .nil)))) (.cons (.set 11 (.var 3)) (.cons (.ifs (.and (.cmp .eq (.var 3) (.con (.int 5))) (.cmp .lt (.var 8) (.con (.int 3)))) (.cons (.set 11 (.con (.int 1))) .nil) .nil) (.cons (.app 7 (.call 12 (.cons (.var 11) (.cons (.var 9) (.cons (.var 10) (.cons (.tup (.cons (.var 4) (.cons (.var 5) .nil))) (.cons (.var 6) .nil))))))) .nil)))))) (.cons (.ret (.var 7)) .nil)))))))⟩
abbrev e13 : Ent := ⟨"_law_spots", top 25, ["_law_script", "_law_start", "_law_many", "_law_kind", "_law_right", "_law_up", "_law_by", "_law_found", "_law_k", "_law_one", "_law_other", "_law_here"], ["_law_script", "_law_start", "_law_many"], f13⟩
-- 14: _law_shared(_law_one, _law_other); 0 _law_one, 1 _law_other, 2 _law_rest
def f14 : Fn := ⟨2, 3, (.cons (.set 0 (.blt .abs (.cons (.var 0) .nil))) (.cons (.set 1 (.blt .abs (.cons (.var 1) .nil))) (.cons (.whl (.cmp .gt (.var 0) (.con (.int 0))) (.cons (.set 2 (.bin .mod (.var 1) (.var 0))) (.cons (.set 1 (.var 0)) (.cons (.set 0 (.var 2)) .nil)))) (.cons (.ret (.var 1)) .nil))))⟩
abbrev e14 : Ent := ⟨"_law_shared", top 26, ["_law_one", "_law_other", "_law_rest"], ["_law_one", "_law_other"], f14⟩
-- 15: _law_is_fraction(_law_thing); 0 _law_thing
def f15 : Fn := ⟨1, 1, (.cons (.ifs (.or (.not (.isi (.var 0) .tuple)) (.cmp .ne (.blt .len (.cons (.var 0) .nil)) (.con (.int 2)))) (.cons (.ret (.con (.bl false))) .nil) .nil) (.cons (.ifs (.or (.not (.call 10 (.cons (.idx (.var 0) (.con (.int 0))) .nil))) (.or (.not (.call 10 (.cons (.idx (.var 0) (.con (.int 1))) .nil))) (.cmp .lt (.idx (.var 0) (.con (.int 1))) (.con (.int 1))))) (.cons (.ret (.con (.bl false))) .nil) .nil) (.cons (.ret (.cmp .eq (.call 14 (.cons (.idx (.var 0) (.con (.int 0))) (.cons (.idx (.var 0) (.con (.int 1))) .nil))) (.con (.int 1)))) .nil)))⟩
abbrev e15 : Ent := ⟨"_law_is_fraction", top 27, ["_law_thing"], ["_law_thing"], f15⟩
-- 16: _law_is_point(_law_thing); 0 _law_thing
def f16 : Fn := ⟨1, 1, (.cons (.ifs (.or (.not (.isi (.var 0) .tuple)) (.cmp .ne (.blt .len (.cons (.var 0) .nil)) (.con (.int 2)))) (.cons (.ret (.con (.bl false))) .nil) .nil) (.cons (.ret (.and (.call 15 (.cons (.idx (.var 0) (.con (.int 0))) .nil)) (.call 15 (.cons (.idx (.var 0) (.con (.int 1))) .nil)))) .nil))⟩
abbrev e16 : Ent := ⟨"_law_is_point", top 28, ["_law_thing"], ["_law_thing"], f16⟩
-- 17: _law_apart(_law_p, _law_found); 0 _law_p, 1 _law_found, 2 _law_right, 3 _law_up
def f17 : Fn := ⟨2, 4, (.cons (.set 2 (.bin .mul (.bin .sub (.idx (.idx (.var 1) (.con (.int 0))) (.con (.int 0))) (.bin .mul (.idx (.var 0) (.con (.int 0))) (.idx (.idx (.var 1) (.con (.int 0))) (.con (.int 1))))) (.idx (.idx (.var 1) (.con (.int 1))) (.con (.int 1))))) (.cons (.set 3 (.bin .mul (.bin .sub (.idx (.idx (.var 1) (.con (.int 1))) (.con (.int 0))) (.bin .mul (.idx (.var 0) (.con (.int 1))) (.idx (.idx (.var 1) (.con (.int 1))) (.con (.int 1))))) (.idx (.idx (.var 1) (.con (.int 0))) (.con (.int 1))))) (.cons (.ret (.bin .add (.bin .mul (.var 2) (.var 2)) (.bin .mul (.var 3) (.var 3)))) .nil)))⟩
abbrev e17 : Ent := ⟨"_law_apart", top 29, ["_law_p", "_law_found", "_law_right", "_law_up"], ["_law_p", "_law_found"], f17⟩
-- 18: _law_asked(_law_road, _law_a, _law_b, _law_c, _law_d); 0 _law_road, 1 _law_a, 2 _law_b, 3 _law_c, 4 _law_d
def f18 : Fn := ⟨5, 5, (.cons (.ifs (.cmp .eq (.var 0) (.con (.int 0))) (.cons (.expr (.call 5 (.cons (.var 1) (.cons (.var 2) (.cons (.var 3) .nil))))) .nil) .nil) (.cons (.ifs (.cmp .eq (.var 0) (.con (.int 1))) (.cons (.expr (.call 7 (.cons (.var 1) (.cons (.var 2) (.cons (.var 3) (.cons (.var 4) .nil)))))) .nil) .nil) (.cons (.ifs (.cmp .eq (.var 0) (.con (.int 2))) (.cons (.expr (.call 8 (.cons (.var 1) (.cons (.var 2) (.cons (.var 3) (.cons (.var 4) .nil)))))) .nil) .nil) .nil)))⟩
abbrev e18 : Ent := ⟨"_law_asked", top 30, ["_law_road", "_law_a", "_law_b", "_law_c", "_law_d"], ["_law_road", "_law_a", "_law_b", "_law_c", "_law_d"], f18⟩
-- 19: _law_flat(_law_road, _law_a, _law_b, _law_c, _law_d); 0 _law_road, 1 _law_a, 2 _law_b, 3 _law_c, 4 _law_d, 5 _law_told, 6 e, 7 _law_others
def f19 : Fn := ⟨5, 8, (.cons (.set 5 (.con .non)) (.cons (.try_ (.cons (.expr (.call 18 (.cons (.var 0) (.cons (.var 1) (.cons (.var 2) (.cons (.var 3) (.cons (.var 4) .nil))))))) .nil) "Flat" 6 (.cons (.set 7 (.lst (bolsE [false, false, false, false]))) (.cons (.set 5 (.bin .add (.var 7) (.lst (bolsE [false, false, false])))) .nil))) (.cons (.ret (.cmp .eq (.var 5) (.bin .mul (.lst (.cons (.con (.bl false)) .nil)) (.con (.int 7))))) .nil)))⟩
abbrev e19 : Ent := ⟨"_law_flat", top 31, ["_law_road", "_law_a", "_law_b", "_law_c", "_law_d", "_law_told", "e", "_law_others"], ["_law_road", "_law_a", "_law_b", "_law_c", "_law_d"], f19⟩
-- 20: law(_law_script); 0 _law_script, 1 _law_orders, 2 _law_found, 3 _law_a, 4 _law_b, 5 _law_c, 6 _law_d, 7 _law_road, 8 _law_one, 9 _law_two, 10 _law_three
def f20 : Fn := ⟨1, 11, (.cons (.unp [3, 4, 5, 6] (.call 13 (.cons (.var 0) (.cons (.con (.int 0)) (.cons (.con (.int 4)) .nil))))) (.cons (.ifs (.cmp .eq (.bin .mod (.call 9 (.cons (.var 0) (.cons (.con (.int 12)) .nil))) (.con (.int 3))) (.con (.int 1))) (.cons (.set 6 (.idx (.lst (.cons (.var 3) (.cons (.var 4) (.cons (.var 5) .nil)))) (.bin .mod (.bin .fdiv (.call 9 (.cons (.var 0) (.cons (.con (.int 12)) .nil))) (.con (.int 3))) (.con (.int 3))))) .nil) .nil) (.cons (.set 1 (.lst (.cons (.tup (.cons (.var 3) (.cons (.var 4) (.cons (.var 5) .nil)))) (.cons (.tup (.cons (.var 4) (.cons (.var 5) (.cons (.var 3) .nil)))) (.cons (.tup (.cons (.var 5) (.cons (.var 3) (.cons (.var 4) .nil)))) (.cons (.tup (.cons (.var 4) (.cons (.var 3) (.cons (.var 5) .nil)))) (.cons (.tup (.cons (.var 3) (.cons (.var 5) (.cons (.var 4) .nil)))) (.cons (.tup (.cons (.var 5) (.cons (.var 4) (.cons (.var 3) .nil)))) .nil)))))))) (.cons (.ifs (.cmp .eq (.call 11 (.cons (.var 3) (.cons (.var 4) (.cons (.var 5) .nil)))) (.con (.int 0))) (.cons (.for_ (.nm 7) (.rng1 (.con (.int 3))) (.cons (.for_ (.tp [8, 9, 10]) (.nam 1) (.cons (.ifs (.not (.call 19 (.cons (.var 7) (.cons (.var 8) (.cons (.var 9) (.cons (.var 10) (.cons (.var 6) .nil))))))) (.cons (.ret (.con (.bl false))) .nil) .nil) .nil)) .nil)) (.cons (.ret (.con (.bl true))) .nil)) .nil) (.cons (.set 2 (.call 5 (.cons (.var 3) (.cons (.var 4) (.cons (.var 5) .nil))))) (.cons (.ifs (.not (.call 16 (.cons (.var 2) .nil))) (.cons (.ret (.con (.bl false))) .nil) .nil) (.cons (.ifs (.or (.cmp .ne (.call 17 (.cons (.var 3) (.cons (.var 2) .nil))) (.call 17 (.cons (.var 4) (.cons (.var 2) .nil)))) (.cmp .ne (.call 17 (.cons (.var 3) (.cons (.var 2) .nil))) (.call 17 (.cons (.var 5) (.cons (.var 2) .nil))))) (.cons (.ret (.con (.bl false))) .nil) .nil) (.cons (.for_ (.tp [8, 9, 10]) (.nam 1) (.cons (.ifs (.cmp .ne (.call 5 (.cons (.var 8) (.cons (.var 9) (.cons (.var 10) .nil)))) (.var 2)) (.cons (.ret (.con (.bl false))) .nil) .nil) .nil)) (.cons (.ret (.con (.bl true))) .nil)))))))))⟩
abbrev e20 : Ent := ⟨"law", top 32, ["_law_script", "_law_orders", "_law_found", "_law_a", "_law_b", "_law_c", "_law_d", "_law_road", "_law_one", "_law_two", "_law_three"], ["_law_script"], f20⟩
abbrev tab : List Ent := [e0, e1, e2, e3, e4, e5, e6, e7, e8, e9, e10, e11, e12, e13, e14, e15, e16, e17, e18, e19, e20]
abbrev xi : Option XI := some ⟨"Flat", ["Flat", "NearError", "ValueError"], ["NoNumber", "Twice", "NoPlace", "Stiff", "Crossed"]⟩
theorem ok0 : EOk (ftOf tab xi) e0 := ⟨rfl, ⟨rfl, rfl, rfl, by decide +kernel, rfl, by decide +kernel, by decide +kernel⟩, rfl, rfl⟩
theorem ok1 : EOk (ftOf tab xi) e1 := ⟨rfl, ⟨rfl, rfl, rfl, by decide +kernel, rfl, by decide +kernel, by decide +kernel⟩, rfl, rfl⟩
theorem ok2 : EOk (ftOf tab xi) e2 := ⟨rfl, ⟨rfl, rfl, rfl, by decide +kernel, rfl, by decide +kernel, by decide +kernel⟩, rfl, rfl⟩
theorem ok3 : EOk (ftOf tab xi) e3 := ⟨rfl, ⟨rfl, rfl, rfl, by decide +kernel, rfl, by decide +kernel, by decide +kernel⟩, rfl, rfl⟩
theorem ok4 : EOk (ftOf tab xi) e4 := ⟨rfl, ⟨rfl, rfl, rfl, by decide +kernel, rfl, by decide +kernel, by decide +kernel⟩, rfl, rfl⟩
theorem ok5 : EOk (ftOf tab xi) e5 := ⟨rfl, ⟨rfl, rfl, rfl, by decide +kernel, rfl, by decide +kernel, by decide +kernel⟩, rfl, rfl⟩
theorem ok6 : EOk (ftOf tab xi) e6 := ⟨rfl, ⟨rfl, rfl, rfl, by decide +kernel, rfl, by decide +kernel, by decide +kernel⟩, rfl, rfl⟩
theorem ok7 : EOk (ftOf tab xi) e7 := ⟨rfl, ⟨rfl, rfl, rfl, by decide +kernel, rfl, by decide +kernel, by decide +kernel⟩, rfl, rfl⟩
theorem ok8 : EOk (ftOf tab xi) e8 := ⟨rfl, ⟨rfl, rfl, rfl, by decide +kernel, rfl, by decide +kernel, by decide +kernel⟩, rfl, rfl⟩
theorem ok9 : EOk (ftOf tab xi) e9 := ⟨rfl, ⟨rfl, rfl, rfl, by decide +kernel, rfl, by decide +kernel, by decide +kernel⟩, rfl, rfl⟩
theorem ok10 : EOk (ftOf tab xi) e10 := ⟨rfl, ⟨rfl, rfl, rfl, by decide +kernel, rfl, by decide +kernel, by decide +kernel⟩, rfl, rfl⟩
theorem ok11 : EOk (ftOf tab xi) e11 := ⟨rfl, ⟨rfl, rfl, rfl, by decide +kernel, rfl, by decide +kernel, by decide +kernel⟩, rfl, rfl⟩
theorem ok12 : EOk (ftOf tab xi) e12 := ⟨rfl, ⟨rfl, rfl, rfl, by decide +kernel, rfl, by decide +kernel, by decide +kernel⟩, rfl, rfl⟩
theorem ok13 : EOk (ftOf tab xi) e13 := ⟨rfl, ⟨rfl, rfl, rfl, by decide +kernel, rfl, by decide +kernel, by decide +kernel⟩, rfl, rfl⟩
theorem ok14 : EOk (ftOf tab xi) e14 := ⟨rfl, ⟨rfl, rfl, rfl, by decide +kernel, rfl, by decide +kernel, by decide +kernel⟩, rfl, rfl⟩
theorem ok15 : EOk (ftOf tab xi) e15 := ⟨rfl, ⟨rfl, rfl, rfl, by decide +kernel, rfl, by decide +kernel, by decide +kernel⟩, rfl, rfl⟩
theorem ok16 : EOk (ftOf tab xi) e16 := ⟨rfl, ⟨rfl, rfl, rfl, by decide +kernel, rfl, by decide +kernel, by decide +kernel⟩, rfl, rfl⟩
theorem ok17 : EOk (ftOf tab xi) e17 := ⟨rfl, ⟨rfl, rfl, rfl, by decide +kernel, rfl, by decide +kernel, by decide +kernel⟩, rfl, rfl⟩
theorem ok18 : EOk (ftOf tab xi) e18 := ⟨rfl, ⟨rfl, rfl, rfl, by decide +kernel, rfl, by decide +kernel, by decide +kernel⟩, rfl, rfl⟩
theorem ok19 : EOk (ftOf tab xi) e19 := ⟨rfl, ⟨rfl, rfl, rfl, by decide +kernel, rfl, by decide +kernel, by decide +kernel⟩, rfl, rfl⟩
theorem ok20 : EOk (ftOf tab xi) e20 := ⟨rfl, ⟨rfl, rfl, rfl, by decide +kernel, rfl, by decide +kernel, by decide +kernel⟩, rfl, rfl⟩
theorem okAll : ∀ (i : Nat) (e : Ent), tab[i]? = some e → EOk (ftOf tab xi) e
  | 0, _, h => by cases h; exact ok0
  | 1, _, h => by cases h; exact ok1
  | 2, _, h => by cases h; exact ok2
  | 3, _, h => by cases h; exact ok3
  | 4, _, h => by cases h; exact ok4
  | 5, _, h => by cases h; exact ok5
  | 6, _, h => by cases h; exact ok6
  | 7, _, h => by cases h; exact ok7
  | 8, _, h => by cases h; exact ok8
  | 9, _, h => by cases h; exact ok9
  | 10, _, h => by cases h; exact ok10
  | 11, _, h => by cases h; exact ok11
  | 12, _, h => by cases h; exact ok12
  | 13, _, h => by cases h; exact ok13
  | 14, _, h => by cases h; exact ok14
  | 15, _, h => by cases h; exact ok15
  | 16, _, h => by cases h; exact ok16
  | 17, _, h => by cases h; exact ok17
  | 18, _, h => by cases h; exact ok18
  | 19, _, h => by cases h; exact ok19
  | 20, _, h => by cases h; exact ok20
  | n + 21, _, h => by simp [tab] at h
theorem xok {K : PySem.W.Frag} {h : Heap} {mg : Str → Option Value} (X : K.In h) (G : h.Ns mainGlobals mg)
    {u0 u1 u2 u3 u4 u5 u6 : Addr}
    (p0 : PySem.W.nsIn K mainGlobals "Flat" = some (some (.ref u0))) (q0 : PySem.W.isClsIn K u0 = true) (r0 : PySem.W.typeIn K (.ref u0) = some (.type "type")) (s0 : PySem.W.subIn K (.ref u0) (.ref u0) = some true) (t0 : PySem.W.subIn K (.ref u0) (.type "BaseException") = some true)
    (p1 : PySem.W.nsIn K mainGlobals "NearError" = some (some (.ref u1))) (q1 : PySem.W.isClsIn K u1 = true) (r1 : PySem.W.typeIn K (.ref u1) = some (.type "type")) (s1 : PySem.W.subIn K (.ref u0) (.ref u1) = some true) (t1 : PySem.W.subIn K (.ref u1) (.type "BaseException") = some true)
    (p2 : PySem.W.nsIn K mainGlobals "NoNumber" = some (some (.ref u2))) (q2 : PySem.W.isClsIn K u2 = true) (r2 : PySem.W.typeIn K (.ref u2) = some (.type "type")) (s2 : PySem.W.subIn K (.ref u0) (.ref u2) = some false) (t2 : PySem.W.subIn K (.ref u2) (.type "BaseException") = some true)
    (p3 : PySem.W.nsIn K mainGlobals "Twice" = some (some (.ref u3))) (q3 : PySem.W.isClsIn K u3 = true) (r3 : PySem.W.typeIn K (.ref u3) = some (.type "type")) (s3 : PySem.W.subIn K (.ref u0) (.ref u3) = some false) (t3 : PySem.W.subIn K (.ref u3) (.type "BaseException") = some true)
    (p4 : PySem.W.nsIn K mainGlobals "NoPlace" = some (some (.ref u4))) (q4 : PySem.W.isClsIn K u4 = true) (r4 : PySem.W.typeIn K (.ref u4) = some (.type "type")) (s4 : PySem.W.subIn K (.ref u0) (.ref u4) = some false) (t4 : PySem.W.subIn K (.ref u4) (.type "BaseException") = some true)
    (p5 : PySem.W.nsIn K mainGlobals "Stiff" = some (some (.ref u5))) (q5 : PySem.W.isClsIn K u5 = true) (r5 : PySem.W.typeIn K (.ref u5) = some (.type "type")) (s5 : PySem.W.subIn K (.ref u0) (.ref u5) = some false) (t5 : PySem.W.subIn K (.ref u5) (.type "BaseException") = some true)
    (p6 : PySem.W.nsIn K mainGlobals "Crossed" = some (some (.ref u6))) (q6 : PySem.W.isClsIn K u6 = true) (r6 : PySem.W.typeIn K (.ref u6) = some (.type "type")) (s6 : PySem.W.subIn K (.ref u0) (.ref u6) = some false) (t6 : PySem.W.subIn K (.ref u6) (.type "BaseException") = some true)
    (x0 : PySem.W.nsIn K mainGlobals "ValueError" = some none) (x1 : PySem.W.subIn K (.ref u0) (.type "ValueError") = some true) (x2 : PySem.W.excIn K u0 [.type "ValueError", .type "Exception", .type "BaseException", .type "object"] "ValueError.__new__" = true) (x3 : PySem.W.keepIn K (.ref u0) = true)
    (v0 : PySem.W.findIn K (.ref u0) "__getattribute__" = some (some (.builtin "BaseException.__getattribute__"))) (v1 : PySem.W.findIn K (.ref u0) "__getattr__" = some none) (v2 : PySem.W.hasDictIn K u0 = true) (v3 : PySem.W.findIn K (.ref u0) "__class__" = some (some (.builtin "object.__class__")))
    (v4 : PySem.W.specialIn K (.builtin "object.__class__") "__get__" = some (some (.builtin "getset_descriptor.__get__"))) (v5 : PySem.W.takesIn K (.builtin "object.__class__") = some true) (v6 : PySem.W.mroIn K u0 (.type "object") = some true)
    : ∀ x, xi = some x → XFacts K mg x := fun x hx => by
  cases hx
  have vt : ClsF K u0 mg "ValueError" true := .blt (n := "ValueError") (PySem.W.mg_none_of X G x0) (by decide +kernel) (by decide) (by decide +kernel) x1 sub_ve
  have w0 : ClsF K u0 mg "Flat" true := .own (PySem.W.mg_of X G p0) q0 r0 s0 t0 s0
  have w1 : ClsF K u0 mg "NearError" true := .own (PySem.W.mg_of X G p1) q1 r1 s1 t1 s0
  have w2 : ClsF K u0 mg "NoNumber" false := .own (PySem.W.mg_of X G p2) q2 r2 s2 t2 s0
  have w3 : ClsF K u0 mg "Twice" false := .own (PySem.W.mg_of X G p3) q3 r3 s3 t3 s0
  have w4 : ClsF K u0 mg "NoPlace" false := .own (PySem.W.mg_of X G p4) q4 r4 s4 t4 s0
  have w5 : ClsF K u0 mg "Stiff" false := .own (PySem.W.mg_of X G p5) q5 r5 s5 t5 s0
  have w6 : ClsF K u0 mg "Crossed" false := .own (PySem.W.mg_of X G p6) q6 r6 s6 t6 s0
  exact xfacts_of (PySem.W.mg_of X G p0) x2 x3 r0 ⟨v0, v1, t0, v2, v3, v4, v5, v6⟩ (by
    intro t ht
    simp only [List.mem_cons, List.not_mem_nil, or_false] at ht
    rcases ht with rfl | rfl | rfl
    · exact w0
    · exact w1
    · exact vt) (by
    intro t ht
    simp only [List.mem_cons, List.not_mem_nil, or_false] at ht
    rcases ht with rfl | rfl | rfl | rfl | rfl
    · exact w2
    · exact w3
    · exact w4
    · exact w5
    · exact w6)
theorem stands {K : PySem.W.Frag} {h : Heap} {mg : Str → Option Value} (X : K.In h) (G : h.Ns mainGlobals mg)
    {g0 : Addr} {od0 an0 : Option Addr} {sl0 : Array (Option Value)} {oc0 kV0 dc0 pm0 cd0 ct0 : Value} (a0 : PySem.W.nsIn K mainGlobals "shared" = some (some (.ref g0))) (l0 : K.lookup g0 = some ⟨oc0, od0, .func (PySem.W.fnOf "shared" "shared" (defArgs (top 9)) (defBody (top 9)) (defScope (top 9)) .none kV0 dc0 pm0 an0 cd0 ct0), sl0⟩) (c0 : PySem.W.codeIn K cd0 "shared" = true) (k0 : PySem.W.keepIn K (.ref g0) = true)
    {g1 : Addr} {od1 an1 : Option Addr} {sl1 : Array (Option Value)} {oc1 kV1 dc1 pm1 cd1 ct1 : Value} (a1 : PySem.W.nsIn K mainGlobals "fraction" = some (some (.ref g1))) (l1 : K.lookup g1 = some ⟨oc1, od1, .func (PySem.W.fnOf "fraction" "fraction" (defArgs (top 10)) (defBody (top 10)) (defScope (top 10)) .none kV1 dc1 pm1 an1 cd1 ct1), sl1⟩) (c1 : PySem.W.codeIn K cd1 "fraction" = true) (k1 : PySem.W.keepIn K (.ref g1) = true)
    {g2 : Addr} {od2 an2 : Option Addr} {sl2 : Array (Option Value)} {oc2 kV2 dc2 pm2 cd2 ct2 : Value} (a2 : PySem.W.nsIn K mainGlobals "twice" = some (some (.ref g2))) (l2 : K.lookup g2 = some ⟨oc2, od2, .func (PySem.W.fnOf "twice" "twice" (defArgs (top 12)) (defBody (top 12)) (defScope (top 12)) .none kV2 dc2 pm2 an2 cd2 ct2), sl2⟩) (c2 : PySem.W.codeIn K cd2 "twice" = true) (k2 : PySem.W.keepIn K (.ref g2) = true)
    {g3 : Addr} {od3 an3 : Option Addr} {sl3 : Array (Option Value)} {oc3 kV3 dc3 pm3 cd3 ct3 : Value} (a3 : PySem.W.nsIn K mainGlobals "sign_of" = some (some (.ref g3))) (l3 : K.lookup g3 = some ⟨oc3, od3, .func (PySem.W.fnOf "sign_of" "sign_of" (defArgs (top 13)) (defBody (top 13)) (defScope (top 13)) .none kV3 dc3 pm3 an3 cd3 ct3), sl3⟩) (c3 : PySem.W.codeIn K cd3 "sign_of" = true) (k3 : PySem.W.keepIn K (.ref g3) = true)
    {g4 : Addr} {od4 an4 : Option Addr} {sl4 : Array (Option Value)} {oc4 kV4 dc4 pm4 cd4 ct4 : Value} (a4 : PySem.W.nsIn K mainGlobals "turn" = some (some (.ref g4))) (l4 : K.lookup g4 = some ⟨oc4, od4, .func (PySem.W.fnOf "turn" "turn" (defArgs (top 14)) (defBody (top 14)) (defScope (top 14)) .none kV4 dc4 pm4 an4 cd4 ct4), sl4⟩) (c4 : PySem.W.codeIn K cd4 "turn" = true) (k4 : PySem.W.keepIn K (.ref g4) = true)
    {g5 : Addr} {od5 an5 : Option Addr} {sl5 : Array (Option Value)} {oc5 kV5 dc5 pm5 cd5 ct5 : Value} (a5 : PySem.W.nsIn K mainGlobals "middle" = some (some (.ref g5))) (l5 : K.lookup g5 = some ⟨oc5, od5, .func (PySem.W.fnOf "middle" "middle" (defArgs (top 16)) (defBody (top 16)) (defScope (top 16)) .none kV5 dc5 pm5 an5 cd5 ct5), sl5⟩) (c5 : PySem.W.codeIn K cd5 "middle" = true) (k5 : PySem.W.keepIn K (.ref g5) = true)
    {g6 : Addr} {od6 an6 : Option Addr} {sl6 : Array (Option Value)} {oc6 kV6 dc6 pm6 cd6 ct6 : Value} (a6 : PySem.W.nsIn K mainGlobals "height" = some (some (.ref g6))) (l6 : K.lookup g6 = some ⟨oc6, od6, .func (PySem.W.fnOf "height" "height" (defArgs (top 17)) (defBody (top 17)) (defScope (top 17)) .none kV6 dc6 pm6 an6 cd6 ct6), sl6⟩) (c6 : PySem.W.codeIn K cd6 "height" = true) (k6 : PySem.W.keepIn K (.ref g6) = true)
    {g7 : Addr} {od7 an7 : Option Addr} {sl7 : Array (Option Value)} {oc7 kV7 dc7 pm7 cd7 ct7 : Value} (a7 : PySem.W.nsIn K mainGlobals "ring" = some (some (.ref g7))) (l7 : K.lookup g7 = some ⟨oc7, od7, .func (PySem.W.fnOf "ring" "ring" (defArgs (top 18)) (defBody (top 18)) (defScope (top 18)) .none kV7 dc7 pm7 an7 cd7 ct7), sl7⟩) (c7 : PySem.W.codeIn K cd7 "ring" = true) (k7 : PySem.W.keepIn K (.ref g7) = true)
    {g8 : Addr} {od8 an8 : Option Addr} {sl8 : Array (Option Value)} {oc8 kV8 dc8 pm8 cd8 ct8 : Value} (a8 : PySem.W.nsIn K mainGlobals "spoils" = some (some (.ref g8))) (l8 : K.lookup g8 = some ⟨oc8, od8, .func (PySem.W.fnOf "spoils" "spoils" (defArgs (top 19)) (defBody (top 19)) (defScope (top 19)) .none kV8 dc8 pm8 an8 cd8 ct8), sl8⟩) (c8 : PySem.W.codeIn K cd8 "spoils" = true) (k8 : PySem.W.keepIn K (.ref g8) = true)
    {g9 : Addr} {od9 an9 : Option Addr} {sl9 : Array (Option Value)} {oc9 kV9 dc9 pm9 cd9 ct9 : Value} (a9 : PySem.W.nsIn K mainGlobals "_law_nth" = some (some (.ref g9))) (l9 : K.lookup g9 = some ⟨oc9, od9, .func (PySem.W.fnOf "_law_nth" "_law_nth" (defArgs (top 21)) (defBody (top 21)) (defScope (top 21)) .none kV9 dc9 pm9 an9 cd9 ct9), sl9⟩) (c9 : PySem.W.codeIn K cd9 "_law_nth" = true) (k9 : PySem.W.keepIn K (.ref g9) = true)
    {g10 : Addr} {od10 an10 : Option Addr} {sl10 : Array (Option Value)} {oc10 kV10 dc10 pm10 cd10 ct10 : Value} (a10 : PySem.W.nsIn K mainGlobals "_law_int" = some (some (.ref g10))) (l10 : K.lookup g10 = some ⟨oc10, od10, .func (PySem.W.fnOf "_law_int" "_law_int" (defArgs (top 22)) (defBody (top 22)) (defScope (top 22)) .none kV10 dc10 pm10 an10 cd10 ct10), sl10⟩) (c10 : PySem.W.codeIn K cd10 "_law_int" = true) (k10 : PySem.W.keepIn K (.ref g10) = true)
    {g11 : Addr} {od11 an11 : Option Addr} {sl11 : Array (Option Value)} {oc11 kV11 dc11 pm11 cd11 ct11 : Value} (a11 : PySem.W.nsIn K mainGlobals "_law_area" = some (some (.ref g11))) (l11 : K.lookup g11 = some ⟨oc11, od11, .func (PySem.W.fnOf "_law_area" "_law_area" (defArgs (top 23)) (defBody (top 23)) (defScope (top 23)) .none kV11 dc11 pm11 an11 cd11 ct11), sl11⟩) (c11 : PySem.W.codeIn K cd11 "_law_area" = true) (k11 : PySem.W.keepIn K (.ref g11) = true)
    {g12 : Addr} {od12 an12 : Option Addr} {sl12 : Array (Option Value)} {oc12 kV12 dc12 pm12 cd12 ct12 : Value} (a12 : PySem.W.nsIn K mainGlobals "_law_spot" = some (some (.ref g12))) (l12 : K.lookup g12 = some ⟨oc12, od12, .func (PySem.W.fnOf "_law_spot" "_law_spot" (defArgs (top 24)) (defBody (top 24)) (defScope (top 24)) .none kV12 dc12 pm12 an12 cd12 ct12), sl12⟩) (c12 : PySem.W.codeIn K cd12 "_law_spot" = true) (k12 : PySem.W.keepIn K (.ref g12) = true)
    {g13 : Addr} {od13 an13 : Option Addr} {sl13 : Array (Option Value)} {oc13 kV13 dc13 pm13 cd13 ct13 : Value} (a13 : PySem.W.nsIn K mainGlobals "_law_spots" = some (some (.ref g13))) (l13 : K.lookup g13 = some ⟨oc13, od13, .func (PySem.W.fnOf "_law_spots" "_law_spots" (defArgs (top 25)) (defBody (top 25)) (defScope (top 25)) .none kV13 dc13 pm13 an13 cd13 ct13), sl13⟩) (c13 : PySem.W.codeIn K cd13 "_law_spots" = true) (k13 : PySem.W.keepIn K (.ref g13) = true)
    {g14 : Addr} {od14 an14 : Option Addr} {sl14 : Array (Option Value)} {oc14 kV14 dc14 pm14 cd14 ct14 : Value} (a14 : PySem.W.nsIn K mainGlobals "_law_shared" = some (some (.ref g14))) (l14 : K.lookup g14 = some ⟨oc14, od14, .func (PySem.W.fnOf "_law_shared" "_law_shared" (defArgs (top 26)) (defBody (top 26)) (defScope (top 26)) .none kV14 dc14 pm14 an14 cd14 ct14), sl14⟩) (c14 : PySem.W.codeIn K cd14 "_law_shared" = true) (k14 : PySem.W.keepIn K (.ref g14) = true)
    {g15 : Addr} {od15 an15 : Option Addr} {sl15 : Array (Option Value)} {oc15 kV15 dc15 pm15 cd15 ct15 : Value} (a15 : PySem.W.nsIn K mainGlobals "_law_is_fraction" = some (some (.ref g15))) (l15 : K.lookup g15 = some ⟨oc15, od15, .func (PySem.W.fnOf "_law_is_fraction" "_law_is_fraction" (defArgs (top 27)) (defBody (top 27)) (defScope (top 27)) .none kV15 dc15 pm15 an15 cd15 ct15), sl15⟩) (c15 : PySem.W.codeIn K cd15 "_law_is_fraction" = true) (k15 : PySem.W.keepIn K (.ref g15) = true)
    {g16 : Addr} {od16 an16 : Option Addr} {sl16 : Array (Option Value)} {oc16 kV16 dc16 pm16 cd16 ct16 : Value} (a16 : PySem.W.nsIn K mainGlobals "_law_is_point" = some (some (.ref g16))) (l16 : K.lookup g16 = some ⟨oc16, od16, .func (PySem.W.fnOf "_law_is_point" "_law_is_point" (defArgs (top 28)) (defBody (top 28)) (defScope (top 28)) .none kV16 dc16 pm16 an16 cd16 ct16), sl16⟩) (c16 : PySem.W.codeIn K cd16 "_law_is_point" = true) (k16 : PySem.W.keepIn K (.ref g16) = true)
    {g17 : Addr} {od17 an17 : Option Addr} {sl17 : Array (Option Value)} {oc17 kV17 dc17 pm17 cd17 ct17 : Value} (a17 : PySem.W.nsIn K mainGlobals "_law_apart" = some (some (.ref g17))) (l17 : K.lookup g17 = some ⟨oc17, od17, .func (PySem.W.fnOf "_law_apart" "_law_apart" (defArgs (top 29)) (defBody (top 29)) (defScope (top 29)) .none kV17 dc17 pm17 an17 cd17 ct17), sl17⟩) (c17 : PySem.W.codeIn K cd17 "_law_apart" = true) (k17 : PySem.W.keepIn K (.ref g17) = true)
    {g18 : Addr} {od18 an18 : Option Addr} {sl18 : Array (Option Value)} {oc18 kV18 dc18 pm18 cd18 ct18 : Value} (a18 : PySem.W.nsIn K mainGlobals "_law_asked" = some (some (.ref g18))) (l18 : K.lookup g18 = some ⟨oc18, od18, .func (PySem.W.fnOf "_law_asked" "_law_asked" (defArgs (top 30)) (defBody (top 30)) (defScope (top 30)) .none kV18 dc18 pm18 an18 cd18 ct18), sl18⟩) (c18 : PySem.W.codeIn K cd18 "_law_asked" = true) (k18 : PySem.W.keepIn K (.ref g18) = true)
    {g19 : Addr} {od19 an19 : Option Addr} {sl19 : Array (Option Value)} {oc19 kV19 dc19 pm19 cd19 ct19 : Value} (a19 : PySem.W.nsIn K mainGlobals "_law_flat" = some (some (.ref g19))) (l19 : K.lookup g19 = some ⟨oc19, od19, .func (PySem.W.fnOf "_law_flat" "_law_flat" (defArgs (top 31)) (defBody (top 31)) (defScope (top 31)) .none kV19 dc19 pm19 an19 cd19 ct19), sl19⟩) (c19 : PySem.W.codeIn K cd19 "_law_flat" = true) (k19 : PySem.W.keepIn K (.ref g19) = true)
    {g20 : Addr} {od20 an20 : Option Addr} {sl20 : Array (Option Value)} {oc20 kV20 dc20 pm20 cd20 ct20 : Value} (a20 : PySem.W.nsIn K mainGlobals "law" = some (some (.ref g20))) (l20 : K.lookup g20 = some ⟨oc20, od20, .func (PySem.W.fnOf "law" "law" (defArgs (top 32)) (defBody (top 32)) (defScope (top 32)) .none kV20 dc20 pm20 an20 cd20 ct20), sl20⟩) (c20 : PySem.W.codeIn K cd20 "law" = true) (k20 : PySem.W.keepIn K (.ref g20) = true)
    (z0 : PySem.W.nsIn K mainGlobals "abs" = some none)
    (z1 : PySem.W.nsIn K mainGlobals "int" = some none)
    (z2 : PySem.W.nsIn K mainGlobals "len" = some none)
    (z3 : PySem.W.nsIn K mainGlobals "min" = some none)
    (z4 : PySem.W.nsIn K mainGlobals "max" = some none)
    (z5 : PySem.W.nsIn K mainGlobals "list" = some none)
    (z6 : PySem.W.nsIn K mainGlobals "tuple" = some none)
    (z7 : PySem.W.nsIn K mainGlobals "sum" = some none)
    (z8 : PySem.W.nsIn K mainGlobals "sorted" = some none)
    (z9 : PySem.W.nsIn K mainGlobals "isinstance" = some none)
    (z10 : PySem.W.nsIn K mainGlobals "range" = some none)
    (z11 : PySem.W.nsIn K mainGlobals "bool" = some none)
    (z12 : PySem.W.nsIn K mainGlobals "str" = some none)
    (z13 : PySem.W.nsIn K mainGlobals "enumerate" = some none)
    (z14 : PySem.W.nsIn K mainGlobals "zip" = some none)
    (z15 : PySem.W.nsIn K mainGlobals "reversed" = some none)
    (z16 : PySem.W.nsIn K mainGlobals "set" = some none)
    : Blts mg ∧ ∀ (i : Nat) (e : Ent), tab[i]? = some e → DIn K mg e := by
  have y0 := PySem.W.mg_none_of X G z0
  have y1 := PySem.W.mg_none_of X G z1
  have y2 := PySem.W.mg_none_of X G z2
  have y3 := PySem.W.mg_none_of X G z3
  have y4 := PySem.W.mg_none_of X G z4
  have y5 := PySem.W.mg_none_of X G z5
  have y6 := PySem.W.mg_none_of X G z6
  have y7 := PySem.W.mg_none_of X G z7
  have y8 := PySem.W.mg_none_of X G z8
  have y9 := PySem.W.mg_none_of X G z9
  have y10 := PySem.W.mg_none_of X G z10
  have y11 := PySem.W.mg_none_of X G z11
  have y12 := PySem.W.mg_none_of X G z12
  have y13 := PySem.W.mg_none_of X G z13
  have y14 := PySem.W.mg_none_of X G z14
  have y15 := PySem.W.mg_none_of X G z15
  have y16 := PySem.W.mg_none_of X G z16
  refine ⟨⟨fun b => ?_, y9, y10, y13, y14, y15, y16, fun t => ?_⟩, fun i e he => ?_⟩
  · cases b
    · exact y0
    · exact y1
    · exact y2
    · exact y3
    · exact y4
    · exact y5
    · exact y6
    · exact y7
    · exact y8
  · cases t
    · exact y1
    · exact y11
    · exact y6
    · exact y5
    · exact y12
  · match i, e, he with
    | 0, _, h => cases h; exact ⟨g0, _, fun_mk (st := top 9) l0 c0 k0, PySem.W.mg_of X G a0, fun us hl => match us, hl with | [_, _], _ => rfl⟩
    | 1, _, h => cases h; exact ⟨g1, _, fun_mk (st := top 10) l1 c1 k1, PySem.W.mg_of X G a1, fun us hl => match us, hl with | [_, _], _ => rfl⟩
    | 2, _, h => cases h; exact ⟨g2, _, fun_mk (st := top 12) l2 c2 k2, PySem.W.mg_of X G a2, fun us hl => match us, hl with | [_, _, _], _ => rfl⟩
    | 3, _, h => cases h; exact ⟨g3, _, fun_mk (st := top 13) l3 c3 k3, PySem.W.mg_of X G a3, fun us hl => match us, hl with | [_], _ => rfl⟩
    | 4, _, h => cases h; exact ⟨g4, _, fun_mk (st := top 14) l4 c4 k4, PySem.W.mg_of X G a4, fun us hl => match us, hl with | [_, _, _], _ => rfl⟩
    | 5, _, h => cases h; exact ⟨g5, _, fun_mk (st := top 16) l5 c5 k5, PySem.W.mg_of X G a5, fun us hl => match us, hl with | [_, _, _], _ => rfl⟩
    | 6, _, h => cases h; exact ⟨g6, _, fun_mk (st := top 17) l6 c6 k6, PySem.W.mg_of X G a6, fun us hl => match us, hl with | [_, _], _ => rfl⟩
    | 7, _, h => cases h; exact ⟨g7, _, fun_mk (st := top 18) l7 c7 k7, PySem.W.mg_of X G a7, fun us hl => match us, hl with | [_, _, _, _], _ => rfl⟩
    | 8, _, h => cases h; exact ⟨g8, _, fun_mk (st := top 19) l8 c8 k8, PySem.W.mg_of X G a8, fun us hl => match us, hl with | [_, _, _, _], _ => rfl⟩
    | 9, _, h => cases h; exact ⟨g9, _, fun_mk (st := top 21) l9 c9 k9, PySem.W.mg_of X G a9, fun us hl => match us, hl with | [_, _], _ => rfl⟩
    | 10, _, h => cases h; exact ⟨g10, _, fun_mk (st := top 22) l10 c10 k10, PySem.W.mg_of X G a10, fun us hl => match us, hl with | [_], _ => rfl⟩
    | 11, _, h => cases h; exact ⟨g11, _, fun_mk (st := top 23) l11 c11 k11, PySem.W.mg_of X G a11, fun us hl => match us, hl with | [_, _, _], _ => rfl⟩
    | 12, _, h => cases h; exact ⟨g12, _, fun_mk (st := top 24) l12 c12 k12, PySem.W.mg_of X G a12, fun us hl => match us, hl with | [_, _, _, _, _], _ => rfl⟩
    | 13, _, h => cases h; exact ⟨g13, _, fun_mk (st := top 25) l13 c13 k13, PySem.W.mg_of X G a13, fun us hl => match us, hl with | [_, _, _], _ => rfl⟩
    | 14, _, h => cases h; exact ⟨g14, _, fun_mk (st := top 26) l14 c14 k14, PySem.W.mg_of X G a14, fun us hl => match us, hl with | [_, _], _ => rfl⟩
    | 15, _, h => cases h; exact ⟨g15, _, fun_mk (st := top 27) l15 c15 k15, PySem.W.mg_of X G a15, fun us hl => match us, hl with | [_], _ => rfl⟩
    | 16, _, h => cases h; exact ⟨g16, _, fun_mk (st := top 28) l16 c16 k16, PySem.W.mg_of X G a16, fun us hl => match us, hl with | [_], _ => rfl⟩
    | 17, _, h => cases h; exact ⟨g17, _, fun_mk (st := top 29) l17 c17 k17, PySem.W.mg_of X G a17, fun us hl => match us, hl with | [_, _], _ => rfl⟩
    | 18, _, h => cases h; exact ⟨g18, _, fun_mk (st := top 30) l18 c18 k18, PySem.W.mg_of X G a18, fun us hl => match us, hl with | [_, _, _, _, _], _ => rfl⟩
    | 19, _, h => cases h; exact ⟨g19, _, fun_mk (st := top 31) l19 c19 k19, PySem.W.mg_of X G a19, fun us hl => match us, hl with | [_, _, _, _, _], _ => rfl⟩
    | 20, _, h => cases h; exact ⟨g20, _, fun_mk (st := top 32) l20 c20 k20, PySem.W.mg_of X G a20, fun us hl => match us, hl with | [_], _ => rfl⟩
    | n + 21, _, h => simp [tab] at h
abbrev T := tabT tab
def F : Nat → Bool := fun i => i == 13
/-- a thing of any shape, no list, not None -/
structure NU where
  u : U
  nn : isU u .non = some false
  fl : noL u = true
instance : Ty NU := ⟨fun x => x.u⟩
instance : NoN NU := ⟨fun x => x.nn⟩
instance : Flat NU := ⟨fun x => x.fl⟩
@[irreducible] noncomputable def g_shared (v_one : Int) (v_other : Int) : VR Int := (whlM fuel (fun (s1 : Int × Int) => (VR.ok (!decide (s1.2 = (0 : Int))))) (fun (s1 : Int × Int) => (((modM s1.1 s1.2).bind fun t3 => VR.ok (s1.2, t3)).bind fun p4 => VR.ok (p4.1, p4.2) : VR (Int × Int))) (v_one, v_other)).bind fun (s1 : Int × Int) => (VR.ok (if s1.1 < 0 then -s1.1 else s1.1))
theorem shared_rf (n : Nat) (v_one : Int) (v_other : Int) : Rf (callV T F (n + 1) 0 [ec v_one, ec v_other]) (g_shared v_one v_other) := by
  unfold g_shared
  refine fn_rf (n := n + 0) (fn := f0) (w := false) rfl rfl rfl ?_
  change Bx F (callV T F (n + 0)) _ [some (false, ec v_one), some (false, ec v_other)] ((whlM fuel (fun (s1 : Int × Int) => (VR.ok (!decide (s1.2 = (0 : Int))))) (fun (s1 : Int × Int) => (((modM s1.1 s1.2).bind fun t3 => VR.ok (s1.2, t3)).bind fun p4 => VR.ok (p4.1, p4.2) : VR (Int × Int))) (v_one, v_other)).bind fun (s1 : Int × Int) => (VR.ok (if s1.1 < 0 then -s1.1 else s1.1))) _
  refine rb_whl (R := (fun (s1 : Int × Int) (en : VEnv) => en = [some (false, ec s1.1), some (false, ec s1.2)])) rfl ?_ ?_ ?_
  · rintro s1 en rfl
    exact (ev_cmp (oNe (α := Int) (by decide)) (ev_var (a := s1.2) rfl) ev_int)
  · rintro s1 en rfl
    refine rb_u2 (ev_tup2 (ev_var (a := s1.2) rfl) (ev_bin oMod (ev_var (a := s1.1) rfl) (ev_var (a := s1.2) rfl))) ?_
    intro p4
    change Bx _ _ _ [some (false, ec p4.1), some (false, ec p4.2)] _ _
    exact rn_nil rfl
  · rintro s1 en rfl
    exact rb_ret (fun _ => w_n) (ev_b1 bAbs (ev_var (a := s1.1) rfl))
@[irreducible] noncomputable def g_fraction (v_top : Int) (v_bottom : Int) : VR (Fr 10000) := (if (decide (v_bottom = (0 : Int))) = true then (VR.stuck) else ((g_shared v_top v_bottom).bind fun (v_by : Int) => (if (decide (v_bottom < (0 : Int))) = true then ((VR.ok (-v_by)).bind fun (v_by : Int) => VR.ok v_by) else (VR.ok v_by)).bind fun (s1 : Int) => (((fdivM v_top s1).bind fun t2 => (fdivM v_bottom s1).bind fun t3 => VR.ok (t2, t3)).bind (toFr 10000))))
theorem fraction_rf (n : Nat) (v_top : Int) (v_bottom : Int) : Rf (callV T F (n + 2) 1 [ec v_top, ec v_bottom]) (g_fraction v_top v_bottom) := by
  unfold g_fraction
  refine fn_rf (n := n + 1) (fn := f1) (w := false) rfl rfl rfl ?_
  change Bx F (callV T F (n + 1)) _ [some (false, ec v_top), some (false, ec v_bottom), none] ((if (decide (v_bottom = (0 : Int))) = true then (VR.stuck) else ((g_shared v_top v_bottom).bind fun (v_by : Int) => (if (decide (v_bottom < (0 : Int))) = true then ((VR.ok (-v_by)).bind fun (v_by : Int) => VR.ok v_by) else (VR.ok v_by)).bind fun (s1 : Int) => (((fdivM v_top s1).bind fun t2 => (fdivM v_bottom s1).bind fun t3 => VR.ok (t2, t3)).bind (toFr 10000))))) _
  refine rb_if (ev_cmp (oEq (α := Int) (by decide)) (ev_var (a := v_bottom) rfl) ev_int) ?_ ?_
  · trivial
  · refine rb_set_f (ev_c2 (shared_rf (n + 0)) (ev_var (a := v_top) rfl) (ev_var (a := v_bottom) rfl)) ?_
    intro v_by
    refine rb_ifj (R := (fun (s1 : Int) (en : VEnv) => en = [some (false, ec v_top), some (false, ec v_bottom), some (false, ec s1)])) (ev_cmp oLt (ev_var (a := v_bottom) rfl) ev_int) ?_ ?_ ?_
    · refine rb_set_f (ev_neg (ev_var (a := v_by) rfl)) ?_
      intro v_by
      exact rj_nil rfl
    · exact rj_nil rfl
    · rintro s1 en rfl
      exact rb_ret (fun _ => w_n) (ev_toFr (ev_tup2 (ev_bin oFdiv (ev_var (a := v_top) rfl) (ev_var (a := s1) rfl)) (ev_bin oFdiv (ev_var (a := v_bottom) rfl) (ev_var (a := s1) rfl))))
@[irreducible] noncomputable def g_twice (v_a : P) (v_b : P) (v_c : P) : VR Int := ((mulM (v_b.x - v_a.x) (v_c.y - v_a.y)).bind fun t1 => (mulM (v_b.y - v_a.y) (v_c.x - v_a.x)).bind fun t2 => VR.ok (t1 - t2))
theorem twice_rf (n : Nat) (v_a : P) (v_b : P) (v_c : P) : Rf (callV T F (n + 1) 2 [ec v_a, ec v_b, ec v_c]) (g_twice v_a v_b v_c) := by
  unfold g_twice
  refine fn_rf (n := n + 0) (fn := f2) (w := false) rfl rfl rfl ?_
  change Bx F (callV T F (n + 0)) _ [some (false, ec v_a), some (false, ec v_b), some (false, ec v_c)] (((mulM (v_b.x - v_a.x) (v_c.y - v_a.y)).bind fun t1 => (mulM (v_b.y - v_a.y) (v_c.x - v_a.x)).bind fun t2 => VR.ok (t1 - t2))) _
  exact rb_ret (fun _ => w_n) (ev_bin oSub (ev_bin oMul (ev_bin oSub (ev_px (ev_var (a := v_b) rfl)) (ev_px (ev_var (a := v_a) rfl))) (ev_bin oSub (ev_py (ev_var (a := v_c) rfl)) (ev_py (ev_var (a := v_a) rfl)))) (ev_bin oMul (ev_bin oSub (ev_py (ev_var (a := v_b) rfl)) (ev_py (ev_var (a := v_a) rfl))) (ev_bin oSub (ev_px (ev_var (a := v_c) rfl)) (ev_px (ev_var (a := v_a) rfl)))))
@[irreducible] noncomputable def g_sign_of (v_number : Int) : VR Int := (if (decide ((0 : Int) < v_number)) = true then ((VR.ok (1 : Int))) else ((if (decide (v_number < (0 : Int))) = true then ((VR.ok (-(1 : Int)))) else ((VR.ok (0 : Int))))))
theorem sign_of_rf (n : Nat) (v_number : Int) : Rf (callV T F (n + 1) 3 [ec v_number]) (g_sign_of v_number) := by
  unfold g_sign_of
  refine fn_rf (n := n + 0) (fn := f3) (w := false) rfl rfl rfl ?_
  change Bx F (callV T F (n + 0)) _ [some (false, ec v_number)] ((if (decide ((0 : Int) < v_number)) = true then ((VR.ok (1 : Int))) else ((if (decide (v_number < (0 : Int))) = true then ((VR.ok (-(1 : Int)))) else ((VR.ok (0 : Int))))))) _
  refine rb_if (ev_cmp oGt (ev_var (a := v_number) rfl) ev_int) ?_ ?_
  · exact rb_ret (fun _ => w_n) ev_int
  · refine rb_if (ev_cmp oLt (ev_var (a := v_number) rfl) ev_int) ?_ ?_
    · exact rb_ret (fun _ => w_n) (ev_neg ev_int)
    · exact rb_ret (fun _ => w_n) ev_int
@[irreducible] noncomputable def g_turn (v_a : P) (v_b : P) (v_c : P) : VR Int := ((g_twice v_a v_b v_c).bind fun t1 => (g_sign_of t1))
theorem turn_rf (n : Nat) (v_a : P) (v_b : P) (v_c : P) : Rf (callV T F (n + 2) 4 [ec v_a, ec v_b, ec v_c]) (g_turn v_a v_b v_c) := by
  unfold g_turn
  refine fn_rf (n := n + 1) (fn := f4) (w := false) rfl rfl rfl ?_
  change Bx F (callV T F (n + 1)) _ [some (false, ec v_a), some (false, ec v_b), some (false, ec v_c)] (((g_twice v_a v_b v_c).bind fun t1 => (g_sign_of t1))) _
  exact rb_ret (fun _ => w_n) (ev_c1 (sign_of_rf (n + 0)) (ev_c3 (twice_rf (n + 0)) (ev_var (a := v_a) rfl) (ev_var (a := v_b) rfl) (ev_var (a := v_c) rfl)))
@[irreducible] noncomputable def g_middle (v_a : P) (v_b : P) (v_c : P) : VR ((Fr 10000) × (Fr 10000)) := (g_twice v_a v_b v_c).bind fun (v_area : Int) => (if (decide (v_area = (0 : Int))) = true then (VR.stuck) else ((VR.ok (v_b.x - v_a.x)).bind fun (v_bx : Int) => (VR.ok (v_b.y - v_a.y)).bind fun (v_by : Int) => (VR.ok (v_c.x - v_a.x)).bind fun (v_cx : Int) => (VR.ok (v_c.y - v_a.y)).bind fun (v_cy : Int) => ((mulM v_bx v_bx).bind fun t1 => (mulM v_by v_by).bind fun t2 => VR.ok (t1 + t2)).bind fun (v_far_b : Int) => ((mulM v_cx v_cx).bind fun t3 => (mulM v_cy v_cy).bind fun t4 => VR.ok (t3 + t4)).bind fun (v_far_c : Int) => (((((mulM (2 : Int) v_area).bind fun t5 => (mulM t5 v_a.x)).bind fun t6 => (mulM v_cy v_far_b).bind fun t7 => VR.ok (t6 + t7)).bind fun t8 => (mulM v_by v_far_c).bind fun t9 => VR.ok (t8 - t9)).bind fun t10 => (mulM (2 : Int) v_area).bind fun t11 => (g_fraction t10 t11)).bind fun (v_x : (Fr 10000)) => (((((mulM (2 : Int) v_area).bind fun t12 => (mulM t12 v_a.y)).bind fun t13 => (mulM v_bx v_far_c).bind fun t14 => VR.ok (t13 + t14)).bind fun t15 => (mulM v_cx v_far_b).bind fun t16 => VR.ok (t15 - t16)).bind fun t17 => (mulM (2 : Int) v_area).bind fun t18 => (g_fraction t17 t18)).bind fun (v_y : (Fr 10000)) => (VR.ok (v_x, v_y))))
theorem middle_rf (n : Nat) (v_a : P) (v_b : P) (v_c : P) : Rf (callV T F (n + 3) 5 [ec v_a, ec v_b, ec v_c]) (g_middle v_a v_b v_c) := by
  unfold g_middle
  refine fn_rf (n := n + 2) (fn := f5) (w := false) rfl rfl rfl ?_
  change Bx F (callV T F (n + 2)) _ [some (false, ec v_a), some (false, ec v_b), some (false, ec v_c), none, none, none, none, none, none, none, none, none] ((g_twice v_a v_b v_c).bind fun (v_area : Int) => (if (decide (v_area = (0 : Int))) = true then (VR.stuck) else ((VR.ok (v_b.x - v_a.x)).bind fun (v_bx : Int) => (VR.ok (v_b.y - v_a.y)).bind fun (v_by : Int) => (VR.ok (v_c.x - v_a.x)).bind fun (v_cx : Int) => (VR.ok (v_c.y - v_a.y)).bind fun (v_cy : Int) => ((mulM v_bx v_bx).bind fun t1 => (mulM v_by v_by).bind fun t2 => VR.ok (t1 + t2)).bind fun (v_far_b : Int) => ((mulM v_cx v_cx).bind fun t3 => (mulM v_cy v_cy).bind fun t4 => VR.ok (t3 + t4)).bind fun (v_far_c : Int) => (((((mulM (2 : Int) v_area).bind fun t5 => (mulM t5 v_a.x)).bind fun t6 => (mulM v_cy v_far_b).bind fun t7 => VR.ok (t6 + t7)).bind fun t8 => (mulM v_by v_far_c).bind fun t9 => VR.ok (t8 - t9)).bind fun t10 => (mulM (2 : Int) v_area).bind fun t11 => (g_fraction t10 t11)).bind fun (v_x : (Fr 10000)) => (((((mulM (2 : Int) v_area).bind fun t12 => (mulM t12 v_a.y)).bind fun t13 => (mulM v_bx v_far_c).bind fun t14 => VR.ok (t13 + t14)).bind fun t15 => (mulM v_cx v_far_b).bind fun t16 => VR.ok (t15 - t16)).bind fun t17 => (mulM (2 : Int) v_area).bind fun t18 => (g_fraction t17 t18)).bind fun (v_y : (Fr 10000)) => (VR.ok (v_x, v_y))))) _
  refine rb_set_f (ev_c3 (twice_rf (n + 1)) (ev_var (a := v_a) rfl) (ev_var (a := v_b) rfl) (ev_var (a := v_c) rfl)) ?_
  intro v_area
  refine rb_if (ev_cmp (oEq (α := Int) (by decide)) (ev_var (a := v_area) rfl) ev_int) ?_ ?_
  · trivial
  · refine rb_set_f (ev_bin oSub (ev_px (ev_var (a := v_b) rfl)) (ev_px (ev_var (a := v_a) rfl))) ?_
    intro v_bx
    refine rb_set_f (ev_bin oSub (ev_py (ev_var (a := v_b) rfl)) (ev_py (ev_var (a := v_a) rfl))) ?_
    intro v_by
    refine rb_set_f (ev_bin oSub (ev_px (ev_var (a := v_c) rfl)) (ev_px (ev_var (a := v_a) rfl))) ?_
    intro v_cx
    refine rb_set_f (ev_bin oSub (ev_py (ev_var (a := v_c) rfl)) (ev_py (ev_var (a := v_a) rfl))) ?_
    intro v_cy
    refine rb_set_f (ev_bin oAdd (ev_bin oMul (ev_var (a := v_bx) rfl) (ev_var (a := v_bx) rfl)) (ev_bin oMul (ev_var (a := v_by) rfl) (ev_var (a := v_by) rfl))) ?_
    intro v_far_b
    refine rb_set_f (ev_bin oAdd (ev_bin oMul (ev_var (a := v_cx) rfl) (ev_var (a := v_cx) rfl)) (ev_bin oMul (ev_var (a := v_cy) rfl) (ev_var (a := v_cy) rfl))) ?_
    intro v_far_c
    refine rb_set_f (ev_c2 (fraction_rf (n + 0)) (ev_bin oSub (ev_bin oAdd (ev_bin oMul (ev_bin oMul ev_int (ev_var (a := v_area) rfl)) (ev_px (ev_var (a := v_a) rfl))) (ev_bin oMul (ev_var (a := v_cy) rfl) (ev_var (a := v_far_b) rfl))) (ev_bin oMul (ev_var (a := v_by) rfl) (ev_var (a := v_far_c) rfl))) (ev_bin oMul ev_int (ev_var (a := v_area) rfl))) ?_
    intro v_x
    refine rb_set_f (ev_c2 (fraction_rf (n + 0)) (ev_bin oSub (ev_bin oAdd (ev_bin oMul (ev_bin oMul ev_int (ev_var (a := v_area) rfl)) (ev_py (ev_var (a := v_a) rfl))) (ev_bin oMul (ev_var (a := v_bx) rfl) (ev_var (a := v_far_c) rfl))) (ev_bin oMul (ev_var (a := v_cx) rfl) (ev_var (a := v_far_b) rfl))) (ev_bin oMul ev_int (ev_var (a := v_area) rfl))) ?_
    intro v_y
    exact rb_ret (fun _ => w_n) (ev_tup2 (ev_var (a := v_x) rfl) (ev_var (a := v_y) rfl))
@[irreducible] noncomputable def x_middle (v_a v_b v_c : P) : VR Unit := (g_twice v_a v_b v_c).bind fun v_area => (VR.ok (decide (v_area = (0 : Int)))).bind fun t => if t = true then .ok () else .stuck
theorem middle_xf (n : Nat) (v_a v_b v_c : P) : Xf (callV T F (n + 2)) "Flat" 5 [ec v_a, ec v_b, ec v_c] (x_middle v_a v_b v_c) := by
  unfold x_middle
  refine fnX (n := n + 1) (fn := f5) rfl rfl ?_
  change Xb F (callV T F (n + 1)) "Flat" _ [some (false, ec v_a), some (false, ec v_b), some (false, ec v_c), none, none, none, none, none, none, none, none, none] _
  refine xb_set (ev_c3 (twice_rf (n + 0)) (ev_var (a := v_a) rfl) (ev_var (a := v_b) rfl) (ev_var (a := v_c) rfl)) fun v_area => ?_
  exact xb_ifr (ev_cmp (oEq (α := Int) (by decide)) (ev_var (a := v_area) rfl) ev_int) xb_rse xb_stuck

@[irreducible] noncomputable def x_ring (v_a v_b v_c v_d : P) : VR Unit := (g_turn v_a v_b v_c).bind fun v_hand => (VR.ok (decide (v_hand = (0 : Int)))).bind fun t => if t = true then .ok () else .stuck
theorem ring_xf (n : Nat) (v_a v_b v_c v_d : P) : Xf (callV T F (n + 3)) "Flat" 7 [ec v_a, ec v_b, ec v_c, ec v_d] (x_ring v_a v_b v_c v_d) := by
  unfold x_ring
  refine fnX (n := n + 2) (fn := f7) rfl rfl ?_
  change Xb F (callV T F (n + 2)) "Flat" _ [some (false, ec v_a), some (false, ec v_b), some (false, ec v_c), some (false, ec v_d), none, none] _
  refine xb_set (ev_c3 (turn_rf (n + 0)) (ev_var (a := v_a) rfl) (ev_var (a := v_b) rfl) (ev_var (a := v_c) rfl)) fun v_hand => ?_
  exact xb_ifr (ev_cmp (oEq (α := Int) (by decide)) (ev_var (a := v_hand) rfl) ev_int) xb_rse xb_stuck

theorem spoils_xf (n : Nat) (v_a v_b v_c v_d : P) : Xf (callV T F (n + 4)) "Flat" 8 [ec v_a, ec v_b, ec v_c, ec v_d] (x_ring v_a v_b v_c v_d) := by
  refine fnX (n := n + 3) (fn := f8) rfl rfl ?_
  change Xb F (callV T F (n + 3)) "Flat" _ [some (false, ec v_a), some (false, ec v_b), some (false, ec v_c), some (false, ec v_d), none, none, none, none, none] _
  exact xb_setX (evs_var rfl (evs_var rfl (evs_var rfl (evs_var rfl evs_nil)))) (ring_xf n v_a v_b v_c v_d)

@[irreducible] noncomputable def g_law_nth (v_lscript : Scr) (v_lk : Int) : VR Int := (if (decide (v_lk < (v_lscript.ns.length : Int))) = true then (atM v_lscript.ns v_lk) else (VR.ok (0 : Int)))
theorem law_nth_rf (n : Nat) (v_lscript : Scr) (v_lk : Int) : Rf (callV T F (n + 1) 9 [ec v_lscript, ec v_lk]) (g_law_nth v_lscript v_lk) := by
  unfold g_law_nth
  refine fn_rf (n := n + 0) (fn := f9) (w := false) rfl rfl rfl ?_
  change Bx F (callV T F (n + 0)) _ [some (false, ec v_lscript), some (false, ec v_lk)] ((if (decide (v_lk < (v_lscript.ns.length : Int))) = true then (atM v_lscript.ns v_lk) else (VR.ok (0 : Int)))) _
  exact rb_ret (fun _ => w_n) (ev_ite (ev_cmp oLt (ev_var (a := v_lk) rfl) (ev_b1 bLenS (ev_var (a := v_lscript) rfl))) (ev_idx oAtS (ev_var (a := v_lscript) rfl) (ev_var (a := v_lk) rfl)) ev_int)
@[irreducible] noncomputable def g_law_int (v_lthing : Int) : VR Bool := (VR.ok (true && (true && true)))
theorem law_int_rf (n : Nat) (v_lthing : Int) : Rf (callV T F (n + 1) 10 [ec v_lthing]) (g_law_int v_lthing) := by
  unfold g_law_int
  refine fn_rf (n := n + 0) (fn := f10) (w := false) rfl rfl rfl ?_
  change Bx F (callV T F (n + 0)) _ [some (false, ec v_lthing)] ((VR.ok (true && (true && true)))) _
  exact rb_ret (fun _ => w_n) (ev_andP (ev_isi (k := fun _ => true) (fun x => rfl) (ev_var (a := v_lthing) rfl)) (ev_andP (ev_cmp oIsnBI (ev_var (a := v_lthing) rfl) ev_bool) (ev_cmp oIsnBI (ev_var (a := v_lthing) rfl) ev_bool)))
@[irreducible] noncomputable def g_law_area (v_la : P) (v_lb : P) (v_lc : P) : VR Int := ((mulM v_la.x (v_lb.y - v_lc.y)).bind fun t1 => (mulM v_lb.x (v_lc.y - v_la.y)).bind fun t2 => VR.ok (t1 + t2)).bind fun (v_lsome : Int) => ((mulM v_lc.x (v_la.y - v_lb.y)).bind fun t3 => VR.ok (v_lsome + t3))
theorem law_area_rf (n : Nat) (v_la : P) (v_lb : P) (v_lc : P) : Rf (callV T F (n + 1) 11 [ec v_la, ec v_lb, ec v_lc]) (g_law_area v_la v_lb v_lc) := by
  unfold g_law_area
  refine fn_rf (n := n + 0) (fn := f11) (w := false) rfl rfl rfl ?_
  change Bx F (callV T F (n + 0)) _ [some (false, ec v_la), some (false, ec v_lb), some (false, ec v_lc), none] (((mulM v_la.x (v_lb.y - v_lc.y)).bind fun t1 => (mulM v_lb.x (v_lc.y - v_la.y)).bind fun t2 => VR.ok (t1 + t2)).bind fun (v_lsome : Int) => ((mulM v_lc.x (v_la.y - v_lb.y)).bind fun t3 => VR.ok (v_lsome + t3))) _
  refine rb_set_f (ev_bin oAdd (ev_bin oMul (ev_px (ev_var (a := v_la) rfl)) (ev_bin oSub (ev_py (ev_var (a := v_lb) rfl)) (ev_py (ev_var (a := v_lc) rfl)))) (ev_bin oMul (ev_px (ev_var (a := v_lb) rfl)) (ev_bin oSub (ev_py (ev_var (a := v_lc) rfl)) (ev_py (ev_var (a := v_la) rfl))))) ?_
  intro v_lsome
  exact rb_ret (fun _ => w_n) (ev_binL (x := v_lsome) oAdd (ev_var (a := v_lsome) rfl) (ev_bin oMul (ev_px (ev_var (a := v_lc) rfl)) (ev_bin oSub (ev_py (ev_var (a := v_la) rfl)) (ev_py (ev_var (a := v_lb) rfl)))))
@[irreducible] noncomputable def g_law_spot (v_lkind : Int) (v_lone : Int) (v_lother : Int) (v_lheart : (Int × Int)) (v_lby : Int) : VR P := ((modM v_lone (9 : Int)).bind fun t1 => VR.ok (t1 - (4 : Int))).bind fun (v_lx : Int) => (mulM (2 : Int) v_lx).bind fun (v_ly : Int) => (if (decide (v_lkind = (0 : Int))) = true then (((((modM v_lone (7 : Int)).bind fun t2 => VR.ok (t2 - (3 : Int))).bind fun t4 => ((modM v_lother (7 : Int)).bind fun t3 => VR.ok (t3 - (3 : Int))).bind fun t5 => VR.ok (t4, t5)).bind toP)) else ((if (decide (v_lkind = (1 : Int))) = true then (((modM v_lone (6 : Int)).bind fun t7 => (atM [((5 : Int), (0 : Int)), ((4 : Int), (3 : Int)), ((3 : Int), (4 : Int)), ((0 : Int), (5 : Int)), ((-(3 : Int)), (4 : Int)), ((-(4 : Int)), (3 : Int))] t7)).bind fun p8 => ((((fdivM v_lone (6 : Int)).bind fun t9 => (modM t9 (2 : Int))).bind fun t10 => VR.ok (decide (t10 = (1 : Int)))).bind fun t12 => if t12 = true then ((VR.ok ((-p8.1), (-p8.2))).bind fun p11 => VR.ok (p11.1, p11.2)) else (VR.ok (p8.1, p8.2)))) else (VR.ok (v_lx, v_ly))).bind fun (s6 : Int × Int) => (if (decide (v_lkind = (2 : Int))) = true then ((modM v_lone (3 : Int)).bind fun (v_lx : Int) => (modM v_lother (3 : Int)).bind fun (v_ly : Int) => VR.ok (v_lx, v_ly)) else (VR.ok (s6.1, s6.2))).bind fun (s13 : Int × Int) => (if (decide (v_lkind = (3 : Int))) = true then ((((((((mulM (2 : Int) (pwr 10 40)).bind fun t14 => VR.ok (t14 - (1 : Int))).bind fun t15 => (modM v_lone t15)).bind fun t16 => VR.ok (t16 - (pwr 10 40))).bind fun t17 => VR.ok (t17 + (1 : Int))).bind fun t22 => (((((mulM (2 : Int) (pwr 10 40)).bind fun t18 => VR.ok (t18 - (1 : Int))).bind fun t19 => (modM v_lother t19)).bind fun t20 => VR.ok (t20 - (pwr 10 40))).bind fun t21 => VR.ok (t21 + (1 : Int))).bind fun t23 => VR.ok (t22, t23)).bind toP)) else ((if (decide (v_lkind = (4 : Int))) = true then (((((mulM v_lby s13.1).bind fun t24 => VR.ok (v_lheart.1 + t24)).bind fun t30 => (((mulM v_lby s13.2).bind fun t25 => VR.ok (v_lheart.2 + t25)).bind fun t28 => (((modM v_lother (4 : Int)).bind fun t26 => VR.ok (decide (t26 = (1 : Int)))).bind fun t27 => VR.ok (if t27 = true then (1 : Int) else 0)).bind fun t29 => VR.ok (t28 + t29)).bind fun t31 => VR.ok (t30, t31)).bind toP)) else ((if (decide (v_lkind = (5 : Int))) = true then (((modM v_lone (11 : Int)).bind fun t33 => VR.ok (t33 - (5 : Int))).bind fun (v_lx : Int) => ((modM v_lother (11 : Int)).bind fun t34 => VR.ok (t34 - (5 : Int))).bind fun (v_ly : Int) => VR.ok (v_lx, v_ly)) else (VR.ok (s13.1, s13.2))).bind fun (s32 : Int × Int) => ((((mulM v_lby s32.1).bind fun t35 => VR.ok (v_lheart.1 + t35)).bind fun t37 => ((mulM v_lby s32.2).bind fun t36 => VR.ok (v_lheart.2 + t36)).bind fun t38 => VR.ok (t37, t38)).bind toP)))))))
theorem law_spot_rf (n : Nat) (v_lkind : Int) (v_lone : Int) (v_lother : Int) (v_lheart : (Int × Int)) (v_lby : Int) : Rf (callV T F (n + 1) 12 [ec v_lkind, ec v_lone, ec v_lother, ec v_lheart, ec v_lby]) (g_law_spot v_lkind v_lone v_lother v_lheart v_lby) := by
  unfold g_law_spot
  refine fn_rf (n := n + 0) (fn := f12) (w := false) rfl rfl rfl ?_
  change Bx F (callV T F (n + 0)) _ [some (false, ec v_lkind), some (false, ec v_lone), some (false, ec v_lother), some (false, ec v_lheart), some (false, ec v_lby), none, none] (((modM v_lone (9 : Int)).bind fun t1 => VR.ok (t1 - (4 : Int))).bind fun (v_lx : Int) => (mulM (2 : Int) v_lx).bind fun (v_ly : Int) => (if (decide (v_lkind = (0 : Int))) = true then (((((modM v_lone (7 : Int)).bind fun t2 => VR.ok (t2 - (3 : Int))).bind fun t4 => ((modM v_lother (7 : Int)).bind fun t3 => VR.ok (t3 - (3 : Int))).bind fun t5 => VR.ok (t4, t5)).bind toP)) else ((if (decide (v_lkind = (1 : Int))) = true then (((modM v_lone (6 : Int)).bind fun t7 => (atM [((5 : Int), (0 : Int)), ((4 : Int), (3 : Int)), ((3 : Int), (4 : Int)), ((0 : Int), (5 : Int)), ((-(3 : Int)), (4 : Int)), ((-(4 : Int)), (3 : Int))] t7)).bind fun p8 => ((((fdivM v_lone (6 : Int)).bind fun t9 => (modM t9 (2 : Int))).bind fun t10 => VR.ok (decide (t10 = (1 : Int)))).bind fun t12 => if t12 = true then ((VR.ok ((-p8.1), (-p8.2))).bind fun p11 => VR.ok (p11.1, p11.2)) else (VR.ok (p8.1, p8.2)))) else (VR.ok (v_lx, v_ly))).bind fun (s6 : Int × Int) => (if (decide (v_lkind = (2 : Int))) = true then ((modM v_lone (3 : Int)).bind fun (v_lx : Int) => (modM v_lother (3 : Int)).bind fun (v_ly : Int) => VR.ok (v_lx, v_ly)) else (VR.ok (s6.1, s6.2))).bind fun (s13 : Int × Int) => (if (decide (v_lkind = (3 : Int))) = true then ((((((((mulM (2 : Int) (pwr 10 40)).bind fun t14 => VR.ok (t14 - (1 : Int))).bind fun t15 => (modM v_lone t15)).bind fun t16 => VR.ok (t16 - (pwr 10 40))).bind fun t17 => VR.ok (t17 + (1 : Int))).bind fun t22 => (((((mulM (2 : Int) (pwr 10 40)).bind fun t18 => VR.ok (t18 - (1 : Int))).bind fun t19 => (modM v_lother t19)).bind fun t20 => VR.ok (t20 - (pwr 10 40))).bind fun t21 => VR.ok (t21 + (1 : Int))).bind fun t23 => VR.ok (t22, t23)).bind toP)) else ((if (decide (v_lkind = (4 : Int))) = true then (((((mulM v_lby s13.1).bind fun t24 => VR.ok (v_lheart.1 + t24)).bind fun t30 => (((mulM v_lby s13.2).bind fun t25 => VR.ok (v_lheart.2 + t25)).bind fun t28 => (((modM v_lother (4 : Int)).bind fun t26 => VR.ok (decide (t26 = (1 : Int)))).bind fun t27 => VR.ok (if t27 = true then (1 : Int) else 0)).bind fun t29 => VR.ok (t28 + t29)).bind fun t31 => VR.ok (t30, t31)).bind toP)) else ((if (decide (v_lkind = (5 : Int))) = true then (((modM v_lone (11 : Int)).bind fun t33 => VR.ok (t33 - (5 : Int))).bind fun (v_lx : Int) => ((modM v_lother (11 : Int)).bind fun t34 => VR.ok (t34 - (5 : Int))).bind fun (v_ly : Int) => VR.ok (v_lx, v_ly)) else (VR.ok (s13.1, s13.2))).bind fun (s32 : Int × Int) => ((((mulM v_lby s32.1).bind fun t35 => VR.ok (v_lheart.1 + t35)).bind fun t37 => ((mulM v_lby s32.2).bind fun t36 => VR.ok (v_lheart.2 + t36)).bind fun t38 => VR.ok (t37, t38)).bind toP)))))))) _
  refine rb_set_f (ev_bin oSub (ev_bin oMod (ev_var (a := v_lone) rfl) ev_int) ev_int) ?_
  intro v_lx
  refine rb_set_f (ev_bin oMul ev_int (ev_var (a := v_lx) rfl)) ?_
  intro v_ly
  refine rb_if (ev_cmp (oEq (α := Int) (by decide)) (ev_var (a := v_lkind) rfl) ev_int) ?_ ?_
  · exact rb_ret (fun _ => w_n) (ev_toP (ev_tup2 (ev_bin oSub (ev_bin oMod (ev_var (a := v_lone) rfl) ev_int) ev_int) (ev_bin oSub (ev_bin oMod (ev_var (a := v_lother) rfl) ev_int) ev_int)))
  · refine rb_ifj (R := (fun (s6 : Int × Int) (en : VEnv) => en = [some (false, ec v_lkind), some (false, ec v_lone), some (false, ec v_lother), some (false, ec v_lheart), some (false, ec v_lby), some (false, ec s6.1), some (false, ec s6.2)])) (ev_cmp (oEq (α := Int) (by decide)) (ev_var (a := v_lkind) rfl) ev_int) ?_ ?_ ?_
    · refine rb_u2 (ev_idxL (x := [((5 : Int), (0 : Int)), ((4 : Int), (3 : Int)), ((3 : Int), (4 : Int)), ((0 : Int), (5 : Int)), ((-(3 : Int)), (4 : Int)), ((-(4 : Int)), (3 : Int))]) oAt (ev_lst (evl_cons (ev_tup2 ev_int ev_int) (evl_cons (ev_tup2 ev_int ev_int) (evl_cons (ev_tup2 ev_int ev_int) (evl_cons (ev_tup2 ev_int ev_int) (evl_cons (ev_tup2 (ev_neg ev_int) ev_int) (evl_cons (ev_tup2 (ev_neg ev_int) ev_int) (evl_nil (α := (Int × Int)))))))))) (ev_bin oMod (ev_var (a := v_lone) rfl) ev_int)) ?_
      intro p8
      change Bx _ _ _ [some (false, ec v_lkind), some (false, ec v_lone), some (false, ec v_lother), some (false, ec v_lheart), some (false, ec v_lby), some (false, ec p8.1), some (false, ec p8.2)] _ _
      refine rb_if (ev_cmp (oEq (α := Int) (by decide)) (ev_bin oMod (ev_bin oFdiv (ev_var (a := v_lone) rfl) ev_int) ev_int) ev_int) ?_ ?_
      · refine rb_u2 (ev_tup2 (ev_neg (ev_var (a := p8.1) rfl)) (ev_neg (ev_var (a := p8.2) rfl))) ?_
        intro p11
        change Bx _ _ _ [some (false, ec v_lkind), some (false, ec v_lone), some (false, ec v_lother), some (false, ec v_lheart), some (false, ec v_lby), some (false, ec p11.1), some (false, ec p11.2)] _ _
        exact rj_nil rfl
      · exact rj_nil rfl
    · exact rj_nil rfl
    · rintro s6 en rfl
      refine rb_ifj (R := (fun (s13 : Int × Int) (en : VEnv) => en = [some (false, ec v_lkind), some (false, ec v_lone), some (false, ec v_lother), some (false, ec v_lheart), some (false, ec v_lby), some (false, ec s13.1), some (false, ec s13.2)])) (ev_cmp (oEq (α := Int) (by decide)) (ev_var (a := v_lkind) rfl) ev_int) ?_ ?_ ?_
      · refine rb_set_f (ev_bin oMod (ev_var (a := v_lone) rfl) ev_int) ?_
        intro v_lx
        refine rb_set_f (ev_bin oMod (ev_var (a := v_lother) rfl) ev_int) ?_
        intro v_ly
        exact rj_nil rfl
      · exact rj_nil rfl
      · rintro s13 en rfl
        refine rb_if (ev_cmp (oEq (α := Int) (by decide)) (ev_var (a := v_lkind) rfl) ev_int) ?_ ?_
        · exact rb_ret (fun _ => w_n) (ev_toP (ev_tup2 (ev_bin oAdd (ev_bin oSub (ev_binL (x := v_lone) oMod (ev_var (a := v_lone) rfl) (ev_bin oSub (ev_bin oMul ev_int (ev_pwr (by decide +kernel))) ev_int)) (ev_pwr (by decide +kernel))) ev_int) (ev_bin oAdd (ev_bin oSub (ev_binL (x := v_lother) oMod (ev_var (a := v_lother) rfl) (ev_bin oSub (ev_bin oMul ev_int (ev_pwr (by decide +kernel))) ev_int)) (ev_pwr (by decide +kernel))) ev_int)))
        · refine rb_if (ev_cmp (oEq (α := Int) (by decide)) (ev_var (a := v_lkind) rfl) ev_int) ?_ ?_
          · exact rb_ret (fun _ => w_n) (ev_toP (ev_tup2 (ev_binL (x := v_lheart.1) oAdd (ev_fst (ev_var (a := v_lheart) rfl)) (ev_bin oMul (ev_var (a := v_lby) rfl) (ev_var (a := s13.1) rfl))) (ev_bin oAdd (ev_binL (x := v_lheart.2) oAdd (ev_snd (ev_var (a := v_lheart) rfl)) (ev_bin oMul (ev_var (a := v_lby) rfl) (ev_var (a := s13.2) rfl))) (ev_b1 bIntB (ev_cmp (oEq (α := Int) (by decide)) (ev_bin oMod (ev_var (a := v_lother) rfl) ev_int) ev_int)))))
          · refine rb_ifj (R := (fun (s32 : Int × Int) (en : VEnv) => en = [some (false, ec v_lkind), some (false, ec v_lone), some (false, ec v_lother), some (false, ec v_lheart), some (false, ec v_lby), some (false, ec s32.1), some (false, ec s32.2)])) (ev_cmp (oEq (α := Int) (by decide)) (ev_var (a := v_lkind) rfl) ev_int) ?_ ?_ ?_
            · refine rb_set_f (ev_bin oSub (ev_bin oMod (ev_var (a := v_lone) rfl) ev_int) ev_int) ?_
              intro v_lx
              refine rb_set_f (ev_bin oSub (ev_bin oMod (ev_var (a := v_lother) rfl) ev_int) ev_int) ?_
              intro v_ly
              exact rj_nil rfl
            · exact rj_nil rfl
            · rintro s32 en rfl
              exact rb_ret (fun _ => w_n) (ev_toP (ev_tup2 (ev_binL (x := v_lheart.1) oAdd (ev_fst (ev_var (a := v_lheart) rfl)) (ev_bin oMul (ev_var (a := v_lby) rfl) (ev_var (a := s32.1) rfl))) (ev_binL (x := v_lheart.2) oAdd (ev_snd (ev_var (a := v_lheart) rfl)) (ev_bin oMul (ev_var (a := v_lby) rfl) (ev_var (a := s32.2) rfl)))))
@[irreducible] noncomputable def g_law_spots (v_lscript : Scr) (v_lstart : Int) (v_lmany : Int) : VR (List P) := ((g_law_nth v_lscript v_lstart).bind fun t1 => (modM t1 (6 : Int))).bind fun (v_lkind : Int) => (((g_law_nth v_lscript (v_lstart + (1 : Int))).bind fun t3 => ((mulM (2 : Int) (pwr 10 39)).bind fun t2 => VR.ok (t2 + (1 : Int))).bind fun t4 => (modM t3 t4)).bind fun t5 => VR.ok (t5 - (pwr 10 39))).bind fun (v_lright : Int) => (((g_law_nth v_lscript (v_lstart + (2 : Int))).bind fun t7 => ((mulM (2 : Int) (pwr 10 39)).bind fun t6 => VR.ok (t6 + (1 : Int))).bind fun t8 => (modM t7 t8)).bind fun t9 => VR.ok (t9 - (pwr 10 39))).bind fun (v_lup : Int) => (((g_law_nth v_lscript (v_lstart + (3 : Int))).bind fun t10 => (modM t10 (pwr 10 20))).bind fun t11 => VR.ok ((1 : Int) + t11)).bind fun (v_lby : Int) => (VR.ok ([] : List P)).bind fun (v_lfound : (List P)) => (rngM 0 v_lmany).bind fun t24 => (forM t24 v_lfound (fun (x17 : Int) (s12 : (List P)) => ((((mulM (2 : Int) x17).bind fun t18 => VR.ok ((v_lstart + (4 : Int)) + t18)).bind fun t19 => (g_law_nth v_lscript t19)).bind fun (v_lone : Int) => (((mulM (2 : Int) x17).bind fun t20 => VR.ok ((v_lstart + (5 : Int)) + t20)).bind fun t21 => (g_law_nth v_lscript t21)).bind fun (v_lother : Int) => (VR.ok v_lkind).bind fun (v_lhere : Int) => (if ((decide (v_lkind = (5 : Int))) && (decide (x17 < (3 : Int)))) = true then ((VR.ok (1 : Int)).bind fun (v_lhere : Int) => VR.ok v_lhere) else (VR.ok v_lhere)).bind fun (s22 : Int) => (g_law_spot s22 v_lone v_lother (v_lright, v_lup) v_lby).bind fun t23 => (appM s12 t23).bind fun (v_lfound : (List P)) => VR.ok v_lfound : VR ((List P))))).bind fun (s12 : (List P)) => (VR.ok s12)
theorem law_spots_rf (n : Nat) (v_lscript : Scr) (v_lstart : Int) (v_lmany : Int) : Rf (callV T F (n + 2) 13 [ec v_lscript, ec v_lstart, ec v_lmany]) (g_law_spots v_lscript v_lstart v_lmany) := by
  unfold g_law_spots
  refine fn_rf (n := n + 1) (fn := f13) (w := true) rfl rfl rfl ?_
  change Bx F (callV T F (n + 1)) _ [some (false, ec v_lscript), some (false, ec v_lstart), some (false, ec v_lmany), none, none, none, none, none, none, none, none, none] (((g_law_nth v_lscript v_lstart).bind fun t1 => (modM t1 (6 : Int))).bind fun (v_lkind : Int) => (((g_law_nth v_lscript (v_lstart + (1 : Int))).bind fun t3 => ((mulM (2 : Int) (pwr 10 39)).bind fun t2 => VR.ok (t2 + (1 : Int))).bind fun t4 => (modM t3 t4)).bind fun t5 => VR.ok (t5 - (pwr 10 39))).bind fun (v_lright : Int) => (((g_law_nth v_lscript (v_lstart + (2 : Int))).bind fun t7 => ((mulM (2 : Int) (pwr 10 39)).bind fun t6 => VR.ok (t6 + (1 : Int))).bind fun t8 => (modM t7 t8)).bind fun t9 => VR.ok (t9 - (pwr 10 39))).bind fun (v_lup : Int) => (((g_law_nth v_lscript (v_lstart + (3 : Int))).bind fun t10 => (modM t10 (pwr 10 20))).bind fun t11 => VR.ok ((1 : Int) + t11)).bind fun (v_lby : Int) => (VR.ok ([] : List P)).bind fun (v_lfound : (List P)) => (rngM 0 v_lmany).bind fun t24 => (forM t24 v_lfound (fun (x17 : Int) (s12 : (List P)) => ((((mulM (2 : Int) x17).bind fun t18 => VR.ok ((v_lstart + (4 : Int)) + t18)).bind fun t19 => (g_law_nth v_lscript t19)).bind fun (v_lone : Int) => (((mulM (2 : Int) x17).bind fun t20 => VR.ok ((v_lstart + (5 : Int)) + t20)).bind fun t21 => (g_law_nth v_lscript t21)).bind fun (v_lother : Int) => (VR.ok v_lkind).bind fun (v_lhere : Int) => (if ((decide (v_lkind = (5 : Int))) && (decide (x17 < (3 : Int)))) = true then ((VR.ok (1 : Int)).bind fun (v_lhere : Int) => VR.ok v_lhere) else (VR.ok v_lhere)).bind fun (s22 : Int) => (g_law_spot s22 v_lone v_lother (v_lright, v_lup) v_lby).bind fun t23 => (appM s12 t23).bind fun (v_lfound : (List P)) => VR.ok v_lfound : VR ((List P))))).bind fun (s12 : (List P)) => (VR.ok s12)) _
  refine rb_set_f (ev_bin oMod (ev_c2 (law_nth_rf (n + 0)) (ev_var (a := v_lscript) rfl) (ev_var (a := v_lstart) rfl)) ev_int) ?_
  intro v_lkind
  refine rb_set_f (ev_bin oSub (ev_bin oMod (ev_c2 (law_nth_rf (n + 0)) (ev_var (a := v_lscript) rfl) (ev_bin oAdd (ev_var (a := v_lstart) rfl) ev_int)) (ev_bin oAdd (ev_bin oMul ev_int (ev_pwr (by decide +kernel))) ev_int)) (ev_pwr (by decide +kernel))) ?_
  intro v_lright
  refine rb_set_f (ev_bin oSub (ev_bin oMod (ev_c2 (law_nth_rf (n + 0)) (ev_var (a := v_lscript) rfl) (ev_bin oAdd (ev_var (a := v_lstart) rfl) ev_int)) (ev_bin oAdd (ev_bin oMul ev_int (ev_pwr (by decide +kernel))) ev_int)) (ev_pwr (by decide +kernel))) ?_
  intro v_lup
  refine rb_set_f (ev_binL (x := (1 : Int)) oAdd ev_int (ev_bin oMod (ev_c2 (law_nth_rf (n + 0)) (ev_var (a := v_lscript) rfl) (ev_bin oAdd (ev_var (a := v_lstart) rfl) ev_int)) (ev_pwr (by decide +kernel)))) ?_
  intro v_lby
  refine rb_set_o (by rfl) (ev_lst (evl_nil (α := P))) ?_
  intro v_lfound
  refine rb_for (R := (fun (s12 : (List P)) (en : VEnv) => ∃ o13 o14 o15 o16 : Option (Bool × U), en = [some (false, ec v_lscript), some (false, ec v_lstart), some (false, ec v_lmany), some (false, ec v_lkind), some (false, ec v_lright), some (false, ec v_lup), some (false, ec v_lby), some (true, ec s12), o13, o14, o15, o16])) (fi_rng1 (ev_var (a := v_lmany) rfl)) ⟨_, _, _, _, rfl⟩ ?_ ?_
  · rintro x17 s12 en ⟨o13, o14, o15, o16, rfl⟩
    refine ⟨_, rfl, ?_⟩
    refine rb_set_f (ev_c2 (law_nth_rf (n + 0)) (ev_var (a := v_lscript) rfl) (ev_binL (x := (v_lstart + (4 : Int))) oAdd (ev_bin oAdd (ev_var (a := v_lstart) rfl) ev_int) (ev_bin oMul ev_int (ev_var (a := x17) rfl)))) ?_
    intro v_lone
    refine rb_set_f (ev_c2 (law_nth_rf (n + 0)) (ev_var (a := v_lscript) rfl) (ev_binL (x := (v_lstart + (5 : Int))) oAdd (ev_bin oAdd (ev_var (a := v_lstart) rfl) ev_int) (ev_bin oMul ev_int (ev_var (a := x17) rfl)))) ?_
    intro v_lother
    refine rb_set_f (ev_var (a := v_lkind) rfl) ?_
    intro v_lhere
    refine rb_ifj (R := (fun (s22 : Int) (en : VEnv) => en = [some (false, ec v_lscript), some (false, ec v_lstart), some (false, ec v_lmany), some (false, ec v_lkind), some (false, ec v_lright), some (false, ec v_lup), some (false, ec v_lby), some (true, ec s12), some (false, ec x17), some (false, ec v_lone), some (false, ec v_lother), some (false, ec s22)])) (ev_andP (ev_cmp (oEq (α := Int) (by decide)) (ev_var (a := v_lkind) rfl) ev_int) (ev_cmp oLt (ev_var (a := x17) rfl) ev_int)) ?_ ?_ ?_
    · refine rb_set_f ev_int ?_
      intro v_lhere
      exact rj_nil rfl
    · exact rj_nil rfl
    · rintro s22 en rfl
      refine rb_app (l := s12) rfl (ev_c5 (law_spot_rf (n + 0)) (ev_var (a := s22) rfl) (ev_var (a := v_lone) rfl) (ev_var (a := v_lother) rfl) (ev_tup2 (ev_var (a := v_lright) rfl) (ev_var (a := v_lup) rfl)) (ev_var (a := v_lby) rfl)) ?_
      intro v_lfound
      exact rn_nil ⟨_, _, _, _, rfl⟩
  · rintro s12 en ⟨o13, o14, o15, o16, rfl⟩
    exact rb_ret (fun _ => w_v rfl) (ev_var (a := s12) rfl)
@[irreducible] noncomputable def g_law_shared (v_lone : Int) (v_lother : Int) : VR Int := (VR.ok (if v_lone < 0 then -v_lone else v_lone)).bind fun (v_lone : Int) => (VR.ok (if v_lother < 0 then -v_lother else v_lother)).bind fun (v_lother : Int) => (whlM fuel (fun (s1 : Int × Int) => (VR.ok (decide ((0 : Int) < s1.1)))) (fun (s1 : Int × Int) => ((modM s1.2 s1.1).bind fun (v_lrest : Int) => (VR.ok s1.1).bind fun (v_lother : Int) => (VR.ok v_lrest).bind fun (v_lone : Int) => VR.ok (v_lone, v_lother) : VR (Int × Int))) (v_lone, v_lother)).bind fun (s1 : Int × Int) => (VR.ok s1.2)
theorem law_shared_rf (n : Nat) (v_lone : Int) (v_lother : Int) : Rf (callV T F (n + 1) 14 [ec v_lone, ec v_lother]) (g_law_shared v_lone v_lother) := by
  unfold g_law_shared
  refine fn_rf (n := n + 0) (fn := f14) (w := false) rfl rfl rfl ?_
  change Bx F (callV T F (n + 0)) _ [some (false, ec v_lone), some (false, ec v_lother), none] ((VR.ok (if v_lone < 0 then -v_lone else v_lone)).bind fun (v_lone : Int) => (VR.ok (if v_lother < 0 then -v_lother else v_lother)).bind fun (v_lother : Int) => (whlM fuel (fun (s1 : Int × Int) => (VR.ok (decide ((0 : Int) < s1.1)))) (fun (s1 : Int × Int) => ((modM s1.2 s1.1).bind fun (v_lrest : Int) => (VR.ok s1.1).bind fun (v_lother : Int) => (VR.ok v_lrest).bind fun (v_lone : Int) => VR.ok (v_lone, v_lother) : VR (Int × Int))) (v_lone, v_lother)).bind fun (s1 : Int × Int) => (VR.ok s1.2)) _
  refine rb_set_f (ev_b1 bAbs (ev_var (a := v_lone) rfl)) ?_
  intro v_lone
  refine rb_set_f (ev_b1 bAbs (ev_var (a := v_lother) rfl)) ?_
  intro v_lother
  refine rb_whl (R := (fun (s1 : Int × Int) (en : VEnv) => ∃ o2 : Option (Bool × U), en = [some (false, ec s1.1), some (false, ec s1.2), o2])) ⟨_, rfl⟩ ?_ ?_ ?_
  · rintro s1 en ⟨o2, rfl⟩
    exact (ev_cmp oGt (ev_var (a := s1.1) rfl) ev_int)
  · rintro s1 en ⟨o2, rfl⟩
    refine rb_set_f (ev_bin oMod (ev_var (a := s1.2) rfl) (ev_var (a := s1.1) rfl)) ?_
    intro v_lrest
    refine rb_set_f (ev_var (a := s1.1) rfl) ?_
    intro v_lother
    refine rb_set_f (ev_var (a := v_lrest) rfl) ?_
    intro v_lone
    exact rn_nil ⟨_, rfl⟩
  · rintro s1 en ⟨o2, rfl⟩
    exact rb_ret (fun _ => w_n) (ev_var (a := s1.2) rfl)
@[irreducible] noncomputable def g_law_is_fraction (v_lthing : (Fr 10000)) : VR Bool := ((((g_law_int v_lthing.n).bind fun t1 => VR.ok (!t1)).bind fun t4 => (if t4 = true then VR.ok true else (((g_law_int v_lthing.d).bind fun t2 => VR.ok (!t2)).bind fun t3 => (if t3 = true then VR.ok true else (VR.ok (decide (v_lthing.d < (1 : Int)))))))).bind fun t6 => if t6 = true then ((VR.ok false)) else (((g_law_shared v_lthing.n v_lthing.d).bind fun t5 => VR.ok (decide (t5 = (1 : Int))))))
theorem law_is_fraction_rf (n : Nat) (v_lthing : (Fr 10000)) : Rf (callV T F (n + 2) 15 [ec v_lthing]) (g_law_is_fraction v_lthing) := by
  unfold g_law_is_fraction
  refine fn_rf (n := n + 1) (fn := f15) (w := false) rfl rfl rfl ?_
  change Bx F (callV T F (n + 1)) _ [some (false, ec v_lthing)] (((((g_law_int v_lthing.n).bind fun t1 => VR.ok (!t1)).bind fun t4 => (if t4 = true then VR.ok true else (((g_law_int v_lthing.d).bind fun t2 => VR.ok (!t2)).bind fun t3 => (if t3 = true then VR.ok true else (VR.ok (decide (v_lthing.d < (1 : Int)))))))).bind fun t6 => if t6 = true then ((VR.ok false)) else (((g_law_shared v_lthing.n v_lthing.d).bind fun t5 => VR.ok (decide (t5 = (1 : Int))))))) _
  refine rb_ifF (ev_orP (ev_not (ev_isi (k := fun _ => true) (fun x => rfl) (ev_var (a := v_lthing) rfl))) (ev_cmp (oNe (α := Int) (by decide)) (ev_b1 bLenF (ev_var (a := v_lthing) rfl)) ev_int)) ?_
  refine rb_if (ev_or (ev_not (ev_c1 (law_int_rf (n + 0)) (ev_fn (ev_var (a := v_lthing) rfl)))) (ev_or (ev_not (ev_c1 (law_int_rf (n + 0)) (ev_fd (ev_var (a := v_lthing) rfl)))) (ev_cmp oLt (ev_fd (ev_var (a := v_lthing) rfl)) ev_int))) ?_ ?_
  · exact rb_ret (fun _ => w_n) ev_bool
  · exact rb_ret (fun _ => w_n) (ev_cmp (oEq (α := Int) (by decide)) (ev_c2 (law_shared_rf (n + 0)) (ev_fn (ev_var (a := v_lthing) rfl)) (ev_fd (ev_var (a := v_lthing) rfl))) ev_int)
@[irreducible] noncomputable def g_law_is_point (v_lthing : ((Fr 10000) × (Fr 10000))) : VR Bool := ((g_law_is_fraction v_lthing.1).bind fun t1 => (if t1 = true then (g_law_is_fraction v_lthing.2) else VR.ok false))
theorem law_is_point_rf (n : Nat) (v_lthing : ((Fr 10000) × (Fr 10000))) : Rf (callV T F (n + 3) 16 [ec v_lthing]) (g_law_is_point v_lthing) := by
  unfold g_law_is_point
  refine fn_rf (n := n + 2) (fn := f16) (w := false) rfl rfl rfl ?_
  change Bx F (callV T F (n + 2)) _ [some (false, ec v_lthing)] (((g_law_is_fraction v_lthing.1).bind fun t1 => (if t1 = true then (g_law_is_fraction v_lthing.2) else VR.ok false))) _
  refine rb_ifF (ev_orP (ev_not (ev_isi (k := fun _ => true) (fun x => rfl) (ev_var (a := v_lthing) rfl))) (ev_cmp (oNe (α := Int) (by decide)) (ev_b1 bLen2 (ev_var (a := v_lthing) rfl)) ev_int)) ?_
  exact rb_ret (fun _ => w_n) (ev_and (ev_c1 (law_is_fraction_rf (n + 0)) (ev_fst (ev_var (a := v_lthing) rfl))) (ev_c1 (law_is_fraction_rf (n + 0)) (ev_snd (ev_var (a := v_lthing) rfl))))
@[irreducible] noncomputable def g_law_apart (v_lp : P) (v_lfound : ((Fr 10000) × (Fr 10000))) : VR Int := (((mulM v_lp.x v_lfound.1.d).bind fun t1 => VR.ok (v_lfound.1.n - t1)).bind fun t2 => (mulM t2 v_lfound.2.d)).bind fun (v_lright : Int) => (((mulM v_lp.y v_lfound.2.d).bind fun t3 => VR.ok (v_lfound.2.n - t3)).bind fun t4 => (mulM t4 v_lfound.1.d)).bind fun (v_lup : Int) => ((mulM v_lright v_lright).bind fun t5 => (mulM v_lup v_lup).bind fun t6 => VR.ok (t5 + t6))
theorem law_apart_rf (n : Nat) (v_lp : P) (v_lfound : ((Fr 10000) × (Fr 10000))) : Rf (callV T F (n + 1) 17 [ec v_lp, ec v_lfound]) (g_law_apart v_lp v_lfound) := by
  unfold g_law_apart
  refine fn_rf (n := n + 0) (fn := f17) (w := false) rfl rfl rfl ?_
  change Bx F (callV T F (n + 0)) _ [some (false, ec v_lp), some (false, ec v_lfound), none, none] ((((mulM v_lp.x v_lfound.1.d).bind fun t1 => VR.ok (v_lfound.1.n - t1)).bind fun t2 => (mulM t2 v_lfound.2.d)).bind fun (v_lright : Int) => (((mulM v_lp.y v_lfound.2.d).bind fun t3 => VR.ok (v_lfound.2.n - t3)).bind fun t4 => (mulM t4 v_lfound.1.d)).bind fun (v_lup : Int) => ((mulM v_lright v_lright).bind fun t5 => (mulM v_lup v_lup).bind fun t6 => VR.ok (t5 + t6))) _
  refine rb_set_f (ev_bin oMul (ev_binL (x := v_lfound.1.n) oSub (ev_fn (ev_fst (ev_var (a := v_lfound) rfl))) (ev_bin oMul (ev_px (ev_var (a := v_lp) rfl)) (ev_fd (ev_fst (ev_var (a := v_lfound) rfl))))) (ev_fd (ev_snd (ev_var (a := v_lfound) rfl)))) ?_
  intro v_lright
  refine rb_set_f (ev_bin oMul (ev_binL (x := v_lfound.2.n) oSub (ev_fn (ev_snd (ev_var (a := v_lfound) rfl))) (ev_bin oMul (ev_py (ev_var (a := v_lp) rfl)) (ev_fd (ev_snd (ev_var (a := v_lfound) rfl))))) (ev_fd (ev_fst (ev_var (a := v_lfound) rfl)))) ?_
  intro v_lup
  exact rb_ret (fun _ => w_n) (ev_bin oAdd (ev_bin oMul (ev_var (a := v_lright) rfl) (ev_var (a := v_lright) rfl)) (ev_bin oMul (ev_var (a := v_lup) rfl) (ev_var (a := v_lup) rfl)))
@[irreducible] noncomputable def x_law_asked (v_lroad : Int) (v_la v_lb v_lc v_ld : P) : VR Unit := (VR.ok (decide (v_lroad = (0 : Int)))).bind fun t => if t = true then x_middle v_la v_lb v_lc else (VR.ok (decide (v_lroad = (1 : Int)))).bind fun t => if t = true then x_ring v_la v_lb v_lc v_ld else (VR.ok (decide (v_lroad = (2 : Int)))).bind fun t => if t = true then x_ring v_la v_lb v_lc v_ld else .stuck
theorem law_asked_xf (n : Nat) (v_lroad : Int) (v_la v_lb v_lc v_ld : P) : Xf (callV T F (n + 5)) "Flat" 18 [ec v_lroad, ec v_la, ec v_lb, ec v_lc, ec v_ld] (x_law_asked v_lroad v_la v_lb v_lc v_ld) := by
  unfold x_law_asked
  refine fnX (n := n + 4) (fn := f18) rfl rfl ?_
  change Xb F (callV T F (n + 4)) "Flat" _ [some (false, ec v_lroad), some (false, ec v_la), some (false, ec v_lb), some (false, ec v_lc), some (false, ec v_ld)] _
  refine xb_ifr (ev_cmp (oEq (α := Int) (by decide)) (ev_var (a := v_lroad) rfl) ev_int) (xb_exp (evs_var rfl (evs_var rfl (evs_var rfl evs_nil))) (middle_xf (n + 2) v_la v_lb v_lc)) ?_
  refine xb_ifr (ev_cmp (oEq (α := Int) (by decide)) (ev_var (a := v_lroad) rfl) ev_int) (xb_exp (evs_var rfl (evs_var rfl (evs_var rfl (evs_var rfl evs_nil)))) (ring_xf (n + 1) v_la v_lb v_lc v_ld)) ?_
  exact xb_ifr (ev_cmp (oEq (α := Int) (by decide)) (ev_var (a := v_lroad) rfl) ev_int) (xb_exp (evs_var rfl (evs_var rfl (evs_var rfl (evs_var rfl evs_nil)))) (spoils_xf n v_la v_lb v_lc v_ld)) xb_stuck

-- depth 6 fresh false
@[irreducible] noncomputable def g_law_flat (v_lroad : Int) (v_la v_lb v_lc v_ld : P) : VR Bool := (VR.ok ()).bind fun (v_ltold : Unit) => (noXT (x_law_asked v_lroad v_la v_lb v_lc v_ld)).bind fun _ => (repM [false] (7 : Int)).bind fun t => VR.ok (decide (([false, false, false, false, false, false, false] : List Bool) = t))
theorem law_flat_rf (n : Nat) (v_lroad : Int) (v_la v_lb v_lc v_ld : P) : Rf (callV T F (n + 6) 19 [ec v_lroad, ec v_la, ec v_lb, ec v_lc, ec v_ld]) (g_law_flat v_lroad v_la v_lb v_lc v_ld) := by
  unfold g_law_flat
  refine fn_rf (n := n + 5) (fn := f19) (w := false) rfl rfl rfl ?_
  change Bx F (callV T F (n + 5)) _ [some (false, ec v_lroad), some (false, ec v_la), some (false, ec v_lb), some (false, ec v_lc), some (false, ec v_ld), none, none, none] _ _
  refine rb_set_f ev_unit ?_
  intro v_ltold
  refine rb_try (evs_var rfl (evs_var rfl (evs_var rfl (evs_var rfl (evs_var rfl evs_nil))))) (law_asked_xf n v_lroad v_la v_lb v_lc v_ld) (by simp) (hd_two (by simp) (by decide) (by decide)) ?_
  exact rb_ret (fun _ => w_n) (ev_cmpL (x := ([false, false, false, false, false, false, false] : List Bool)) (oEq (α := List Bool) (by decide)) (ev_var (a := ([false, false, false, false, false, false, false] : List Bool)) rfl) (ev_bin oRep (ev_lst (evl_cons ev_bool evl_nil)) ev_int))

@[irreducible] noncomputable def g_law (v_lscript : Scr) : VR Bool := ((g_law_spots v_lscript (0 : Int) (4 : Int)).bind tup4M).bind fun p1 => ((((g_law_nth v_lscript (12 : Int)).bind fun t2 => (modM t2 (3 : Int))).bind fun t3 => VR.ok (decide (t3 = (1 : Int)))).bind fun t49 => if t49 = true then (((((g_law_nth v_lscript (12 : Int)).bind fun t11 => (fdivM t11 (3 : Int))).bind fun t12 => (modM t12 (3 : Int))).bind fun t13 => (atM [p1.a, p1.b, p1.c] t13)).bind fun (v_ld : P) => VR.ok v_ld) else (VR.ok p1.d)).bind fun (s4 : P) => (VR.ok [(T3.mk p1.a p1.b p1.c), (T3.mk p1.b p1.c p1.a), (T3.mk p1.c p1.a p1.b), (T3.mk p1.b p1.a p1.c), (T3.mk p1.a p1.c p1.b), (T3.mk p1.c p1.b p1.a)]).bind fun (v_lorders : (List (T3 P P P))) => (((g_law_area p1.a p1.b p1.c).bind fun t14 => VR.ok (decide (t14 = (0 : Int)))).bind fun t48 => if t48 = true then ((rngM 0 (3 : Int)).bind fun t31 => (forF t31 () (fun (x22 : Int) (s15 : Unit) => ((forF v_lorders () (fun (x28 : (T3 P P P)) (s23 : Unit) => ((((g_law_flat x22 x28.a x28.b x28.c s4).bind fun t29 => VR.ok (!t29)).bind fun t30 => if t30 = true then (VR.ok (Fl.rt false)) else (VR.ok (Fl.nx ()))) : VR (Fl (Unit) Bool)))).bind (Fl.elim (fun (s23 : Unit) => VR.ok (Fl.nx ())) (fun (a : Bool) => VR.ok (Fl.rt a))) : VR (Fl (Unit) Bool)))).bind (Fl.elim (fun (s15 : Unit) => (VR.ok true)) (fun (a : Bool) => VR.ok a))) else ((g_middle p1.a p1.b p1.c).bind fun (v_lfound : ((Fr 10000) × (Fr 10000))) => (((g_law_is_point v_lfound).bind fun t32 => VR.ok (!t32)).bind fun t47 => if t47 = true then ((VR.ok false)) else (((((g_law_apart p1.a v_lfound).bind fun t33 => (g_law_apart p1.b v_lfound).bind fun t34 => VR.ok (!decide (t33 = t34))).bind fun t37 => (if t37 = true then VR.ok true else ((g_law_apart p1.a v_lfound).bind fun t35 => (g_law_apart p1.c v_lfound).bind fun t36 => VR.ok (!decide (t35 = t36))))).bind fun t46 => if t46 = true then ((VR.ok false)) else ((forF v_lorders () (fun (x43 : (T3 P P P)) (s38 : Unit) => ((((g_middle x43.a x43.b x43.c).bind fun t44 => VR.ok (!decide (t44 = v_lfound))).bind fun t45 => if t45 = true then (VR.ok (Fl.rt false)) else (VR.ok (Fl.nx ()))) : VR (Fl (Unit) Bool)))).bind (Fl.elim (fun (s38 : Unit) => (VR.ok true)) (fun (a : Bool) => VR.ok a))))))))
theorem law_rf (n : Nat) (v_lscript : Scr) : Rf (callV T F (n + 7) 20 [ec v_lscript]) (g_law v_lscript) := by
  unfold g_law
  refine fn_rf (n := n + 6) (fn := f20) (w := false) rfl rfl rfl ?_
  change Bx F (callV T F (n + 6)) _ [some (false, ec v_lscript), none, none, none, none, none, none, none, none, none, none] (((g_law_spots v_lscript (0 : Int) (4 : Int)).bind tup4M).bind fun p1 => ((((g_law_nth v_lscript (12 : Int)).bind fun t2 => (modM t2 (3 : Int))).bind fun t3 => VR.ok (decide (t3 = (1 : Int)))).bind fun t49 => if t49 = true then (((((g_law_nth v_lscript (12 : Int)).bind fun t11 => (fdivM t11 (3 : Int))).bind fun t12 => (modM t12 (3 : Int))).bind fun t13 => (atM [p1.a, p1.b, p1.c] t13)).bind fun (v_ld : P) => VR.ok v_ld) else (VR.ok p1.d)).bind fun (s4 : P) => (VR.ok [(T3.mk p1.a p1.b p1.c), (T3.mk p1.b p1.c p1.a), (T3.mk p1.c p1.a p1.b), (T3.mk p1.b p1.a p1.c), (T3.mk p1.a p1.c p1.b), (T3.mk p1.c p1.b p1.a)]).bind fun (v_lorders : (List (T3 P P P))) => (((g_law_area p1.a p1.b p1.c).bind fun t14 => VR.ok (decide (t14 = (0 : Int)))).bind fun t48 => if t48 = true then ((rngM 0 (3 : Int)).bind fun t31 => (forF t31 () (fun (x22 : Int) (s15 : Unit) => ((forF v_lorders () (fun (x28 : (T3 P P P)) (s23 : Unit) => ((((g_law_flat x22 x28.a x28.b x28.c s4).bind fun t29 => VR.ok (!t29)).bind fun t30 => if t30 = true then (VR.ok (Fl.rt false)) else (VR.ok (Fl.nx ()))) : VR (Fl (Unit) Bool)))).bind (Fl.elim (fun (s23 : Unit) => VR.ok (Fl.nx ())) (fun (a : Bool) => VR.ok (Fl.rt a))) : VR (Fl (Unit) Bool)))).bind (Fl.elim (fun (s15 : Unit) => (VR.ok true)) (fun (a : Bool) => VR.ok a))) else ((g_middle p1.a p1.b p1.c).bind fun (v_lfound : ((Fr 10000) × (Fr 10000))) => (((g_law_is_point v_lfound).bind fun t32 => VR.ok (!t32)).bind fun t47 => if t47 = true then ((VR.ok false)) else (((((g_law_apart p1.a v_lfound).bind fun t33 => (g_law_apart p1.b v_lfound).bind fun t34 => VR.ok (!decide (t33 = t34))).bind fun t37 => (if t37 = true then VR.ok true else ((g_law_apart p1.a v_lfound).bind fun t35 => (g_law_apart p1.c v_lfound).bind fun t36 => VR.ok (!decide (t35 = t36))))).bind fun t46 => if t46 = true then ((VR.ok false)) else ((forF v_lorders () (fun (x43 : (T3 P P P)) (s38 : Unit) => ((((g_middle x43.a x43.b x43.c).bind fun t44 => VR.ok (!decide (t44 = v_lfound))).bind fun t45 => if t45 = true then (VR.ok (Fl.rt false)) else (VR.ok (Fl.nx ()))) : VR (Fl (Unit) Bool)))).bind (Fl.elim (fun (s38 : Unit) => (VR.ok true)) (fun (a : Bool) => VR.ok a))))))))) _
  refine rb_uL4 (ev_c3 (law_spots_rf (n + 4)) (ev_var (a := v_lscript) rfl) ev_int ev_int) ?_
  intro p1
  change Bx _ _ _ [some (false, ec v_lscript), none, none, some (false, ec p1.a), some (false, ec p1.b), some (false, ec p1.c), some (false, ec p1.d), none, none, none, none] _ _
  refine rb_ifj (R := (fun (s4 : P) (en : VEnv) => ∃ o5 o6 o7 o8 o9 o10 : Option (Bool × U), en = [some (false, ec v_lscript), o5, o6, some (false, ec p1.a), some (false, ec p1.b), some (false, ec p1.c), some (false, ec s4), o7, o8, o9, o10])) (ev_cmp (oEq (α := Int) (by decide)) (ev_bin oMod (ev_c2 (law_nth_rf (n + 5)) (ev_var (a := v_lscript) rfl) ev_int) ev_int) ev_int) ?_ ?_ ?_
  · refine rb_set_f (ev_idxL (x := [p1.a, p1.b, p1.c]) oAt (ev_lst (evl_cons (ev_var (a := p1.a) rfl) (evl_cons (ev_var (a := p1.b) rfl) (evl_cons (ev_var (a := p1.c) rfl) (evl_nil (α := P)))))) (ev_bin oMod (ev_bin oFdiv (ev_c2 (law_nth_rf (n + 5)) (ev_var (a := v_lscript) rfl) ev_int) ev_int) ev_int)) ?_
    intro v_ld
    exact rj_nil ⟨_, _, _, _, _, _, rfl⟩
  · exact rj_nil ⟨_, _, _, _, _, _, rfl⟩
  · rintro s4 en ⟨o5, o6, o7, o8, o9, o10, rfl⟩
    refine rb_set_o (by rfl) (ev_lst (evl_cons (ev_tup3 (ev_var (a := p1.a) rfl) (ev_var (a := p1.b) rfl) (ev_var (a := p1.c) rfl)) (evl_cons (ev_tup3 (ev_var (a := p1.b) rfl) (ev_var (a := p1.c) rfl) (ev_var (a := p1.a) rfl)) (evl_cons (ev_tup3 (ev_var (a := p1.c) rfl) (ev_var (a := p1.a) rfl) (ev_var (a := p1.b) rfl)) (evl_cons (ev_tup3 (ev_var (a := p1.b) rfl) (ev_var (a := p1.a) rfl) (ev_var (a := p1.c) rfl)) (evl_cons (ev_tup3 (ev_var (a := p1.a) rfl) (ev_var (a := p1.c) rfl) (ev_var (a := p1.b) rfl)) (evl_cons (ev_tup3 (ev_var (a := p1.c) rfl) (ev_var (a := p1.b) rfl) (ev_var (a := p1.a) rfl)) (evl_nil (α := (T3 P P P)))))))))) ?_
    intro v_lorders
    refine rb_if (ev_cmp (oEq (α := Int) (by decide)) (ev_c3 (law_area_rf (n + 5)) (ev_var (a := p1.a) rfl) (ev_var (a := p1.b) rfl) (ev_var (a := p1.c) rfl)) ev_int) ?_ ?_
    · refine rb_forF (w := false) (R := (fun (s15 : Unit) (en : VEnv) => ∃ o17 o18 o19 o20 o21 : Option (Bool × U), ∃ w16 : Bool, en = [some (false, ec v_lscript), some (w16, ec v_lorders), o17, some (false, ec p1.a), some (false, ec p1.b), some (false, ec p1.c), some (false, ec s4), o18, o19, o20, o21])) (kn := fun (s15 : Unit) => _) (j := fun (a : Bool) => a) dr_j (fi_rng1 ev_int) ⟨_, _, _, _, _, _, rfl⟩ ?_ ?_
      · rintro x22 s15 en ⟨o17, o18, o19, o20, o21, w16, rfl⟩
        refine ⟨_, rfl, ?_⟩
        refine rb_forF (w := false) (R := (fun (s23 : Unit) (en : VEnv) => ∃ o24 o25 o26 o27 : Option (Bool × U), en = [some (false, ec v_lscript), some (false, ec v_lorders), o24, some (false, ec p1.a), some (false, ec p1.b), some (false, ec p1.c), some (false, ec s4), some (false, ec x22), o25, o26, o27])) (kn := fun (s23 : Unit) => _) (j := fun (a : Bool) => Fl.rt a) dl_j (fi_nm (a := v_lorders) rfl (fi_old (by rfl) (ev_var (a := v_lorders) rfl))) ⟨_, _, _, _, rfl⟩ ?_ ?_
        · rintro x28 s23 en ⟨o24, o25, o26, o27, rfl⟩
          refine ⟨_, rfl, ?_⟩
          refine rb_if (ev_not (ev_c5 (law_flat_rf (n + 0)) (ev_var (a := x22) rfl) (ev_var (a := x28.a) rfl) (ev_var (a := x28.b) rfl) (ev_var (a := x28.c) rfl) (ev_var (a := s4) rfl))) ?_ ?_
          · exact rl_ret (fun _ => w_n) ev_bool
          · exact rl_nil ⟨_, _, _, _, rfl⟩
        · rintro s23 en ⟨o24, o25, o26, o27, rfl⟩
          exact rl_nil ⟨_, _, _, _, _, _, rfl⟩
      · rintro s15 en ⟨o17, o18, o19, o20, o21, w16, rfl⟩
        exact rb_ret (fun _ => w_n) ev_bool
    · refine rb_set_f (ev_c3 (middle_rf (n + 3)) (ev_var (a := p1.a) rfl) (ev_var (a := p1.b) rfl) (ev_var (a := p1.c) rfl)) ?_
      intro v_lfound
      refine rb_if (ev_not (ev_c1 (law_is_point_rf (n + 3)) (ev_var (a := v_lfound) rfl))) ?_ ?_
      · exact rb_ret (fun _ => w_n) ev_bool
      · refine rb_if (ev_or (ev_cmp (oNe (α := Int) (by decide)) (ev_c2 (law_apart_rf (n + 5)) (ev_var (a := p1.a) rfl) (ev_var (a := v_lfound) rfl)) (ev_c2 (law_apart_rf (n + 5)) (ev_var (a := p1.b) rfl) (ev_var (a := v_lfound) rfl))) (ev_cmp (oNe (α := Int) (by decide)) (ev_c2 (law_apart_rf (n + 5)) (ev_var (a := p1.a) rfl) (ev_var (a := v_lfound) rfl)) (ev_c2 (law_apart_rf (n + 5)) (ev_var (a := p1.c) rfl) (ev_var (a := v_lfound) rfl)))) ?_ ?_
        · exact rb_ret (fun _ => w_n) ev_bool
        · refine rb_forF (w := false) (R := (fun (s38 : Unit) (en : VEnv) => ∃ o39 o40 o41 o42 : Option (Bool × U), en = [some (false, ec v_lscript), some (false, ec v_lorders), some (false, ec v_lfound), some (false, ec p1.a), some (false, ec p1.b), some (false, ec p1.c), some (false, ec s4), o39, o40, o41, o42])) (kn := fun (s38 : Unit) => _) (j := fun (a : Bool) => a) dr_j (fi_nm (a := v_lorders) rfl (fi_old (by rfl) (ev_var (a := v_lorders) rfl))) ⟨_, _, _, _, rfl⟩ ?_ ?_
          · rintro x43 s38 en ⟨o39, o40, o41, o42, rfl⟩
            refine ⟨_, rfl, ?_⟩
            refine rb_if (ev_cmp (oNe (α := ((Fr 10000) × (Fr 10000))) (by decide)) (ev_c3 (middle_rf (n + 3)) (ev_var (a := x43.a) rfl) (ev_var (a := x43.b) rfl) (ev_var (a := x43.c) rfl)) (ev_var (a := v_lfound) rfl)) ?_ ?_
            · exact rl_ret (fun _ => w_n) ev_bool
            · exact rl_nil ⟨_, _, _, _, rfl⟩
          · rintro s38 en ⟨o39, o40, o41, o42, rfl⟩
            exact rb_ret (fun _ => w_n) ev_bool
theorem modM_nz' {x y : Int} (h : y ≠ 0) : modM x y = .ok (x.fmod y) := by unfold modM; rw [if_pos h]
theorem gcd_fmod' (x y : Int) : Int.gcd y (x.fmod y) = Int.gcd x y := by
  rw [Int.fmod_def, Int.gcd_comm]
  have : x - y * x.fdiv y = x + y * (-(x.fdiv y)) := by rw [Int.mul_neg]; omega
  rw [this, Int.gcd_add_mul_left_left]
theorem gcd_loopQ {n : Nat} {x y : Int} (hy : Sz n y) (hn : n ≤ 90000) :
    Ok (whlM fuel (fun (s2 : Int × Int) => (VR.ok (!decide (s2.2 = (0 : Int))))) (fun (s2 : Int × Int) => (((modM s2.1 s2.2).bind fun t4 => VR.ok (s2.2, t4)).bind fun p5 => VR.ok (p5.1, p5.2) : VR (Int × Int))) (x, y)) fun s => s.2 = 0 ∧ Int.gcd x y = s.1.natAbs := by
  obtain ⟨s, e, hs⟩ := whlM_fuel (c := (fun (s2 : Int × Int) => (VR.ok (!decide (s2.2 = (0 : Int)))))) (f := (fun (s2 : Int × Int) => (((modM s2.1 s2.2).bind fun t4 => VR.ok (s2.2, t4)).bind fun p5 => VR.ok (p5.1, p5.2) : VR (Int × Int)))) (fun s : Int × Int => Int.gcd s.1 s.2 = Int.gcd x y) (fun s => s.2.natAbs) (n := n) (by omega) (s := (x, y)) rfl hy.lt fun s hs => ⟨_, rfl, fun hc => by
    have h2 : s.2 ≠ 0 := by simpa using hc
    refine ⟨(s.2, s.1.fmod s.2), by rw [modM_nz' h2, ok_bind, ok_bind], by rw [← hs]; exact gcd_fmod' _ _, ?_⟩
    show (s.1.fmod s.2).natAbs < s.2.natAbs
    have e := Int.fmod_eq_emod (a := s.1) (b := s.2)
    have m0 := Int.emod_nonneg s.1 h2
    have m1 := Int.emod_lt s.1 h2
    split at e
    · omega
    · rename_i c
      have c1 : ¬ s.2 ∣ s.1 := fun q => c (.inr q)
      have c2 : s.1 % s.2 ≠ 0 := fun q => c1 (Int.dvd_of_emod_eq_zero q)
      omega⟩
  refine ⟨s, e, ?_⟩
  have h2 : s.2 = 0 := by
    have := hs.2
    injection this with this
    simpa using this
  have h1 := hs.1
  rw [h2, Int.gcd_zero_right] at h1
  exact ⟨h2, h1.symm⟩
theorem g_shared_eq {n : Nat} {t b : Int} (hb : Sz n b) (hn : n ≤ 90000) : g_shared t b = .ok (gc t b) := by
  unfold g_shared
  obtain ⟨s, e, h2, h1⟩ := gcd_loopQ (x := t) (y := b) hb hn
  rw [e, ok_bind]
  unfold gc
  rw [h1]
  congr 1
  split <;> omega

theorem g_fraction_eq {n m : Nat} {t b : Int} (ht : Sz n t) (hb : Sz m b) (hn : n ≤ 9000) (hm : m ≤ 8999) (h : b ≠ 0) : g_fraction t b = .ok (low t b) := by
  unfold g_fraction
  rw [if_neg (by simpa using h), g_shared_eq hb (by omega), ok_bind]
  have g := gc_pos (t := t) h
  have sg : Sz m (gc t b) := sz_gcd hb h
  have sn : Sz m (-(gc t b)) := sz_neg' sg
  have e : (if decide (b < 0) = true then (VR.ok (-gc t b)).bind fun v : Int => VR.ok v else VR.ok (gc t b)) = VR.ok (if b < 0 then -gc t b else gc t b) := by
    by_cases c : b < 0 <;> simp [c]
  rw [e, ok_bind]
  by_cases c : b < 0
  · rw [if_pos c, fdivM_ex (n := m) (by omega) (Int.neg_dvd.mpr gc_l), ok_bind, fdivM_ex (n := m) (by omega) (Int.neg_dvd.mpr gc_r), ok_bind, ok_bind]
    rw [Int.ediv_neg, Int.ediv_neg, toFr_ok ((sz_neg' (sz_ediv_le ht)).up (by omega)) ((sz_neg' (sz_ediv_le hb)).up (by omega))]
    unfold low lowN lowD
    rw [if_pos c, if_pos c]
  · rw [if_neg c, fdivM_ex (n := m) (by omega) gc_l, ok_bind, fdivM_ex (n := m) (by omega) gc_r, ok_bind, ok_bind]
    rw [toFr_ok ((sz_ediv_le ht).up (by omega)) ((sz_ediv_le hb).up (by omega))]
    unfold low lowN lowD
    rw [if_neg c, if_neg c]

theorem g_twice_eq (a b c : P) : g_twice a b c = .ok (tP a b c) := by
  unfold g_twice; simp (disch := omega) only [mulM_ok, ok_bind]

theorem g_sign_of_eq (x : Int) : g_sign_of x = .ok (sg x) := by
  unfold g_sign_of sg
  simp only [decide_eq_true_eq]
  split
  · rfl
  · split <;> rfl

theorem g_turn_eq (a b c : P) : g_turn a b c = .ok (sg (tP a b c)) := by
  unfold g_turn; rw [g_twice_eq, ok_bind, g_sign_of_eq]

theorem g_middle_eq {a b c : P} (h : tP a b c ≠ 0) : g_middle a b c = .ok (midX a b c) := by
  unfold g_middle
  rw [g_twice_eq, ok_bind, if_neg (by simpa using h)]
  simp (disch := omega) only [mulM_ok, ok_bind]
  have h2 : 2 * tP a b c ≠ 0 := by omega
  have s1 := sz_midNx a b c
  have s2 := sz_midNy a b c
  have s3 := sz_2tP a b c
  unfold midNx at s1
  unfold midNy at s2
  rw [g_fraction_eq s1 s3 (by decide) (by decide) h2, ok_bind, g_fraction_eq s2 s3 (by decide) (by decide) h2, ok_bind]
  rfl

theorem law_nth_ok {s : Scr} (hs : Small s) {k : Int} (h0 : 0 ≤ k) : Ok (g_law_nth s k) Big := by
  unfold g_law_nth
  by_cases c : k < (s.ns.length : Int)
  · rw [if_pos (decide_eq_true c)]
    obtain ⟨a, e1, e2⟩ := atM_get h0 c
    exact ⟨a, e2, (hs.bits a (List.mem_of_getElem? e1)).big⟩
  · rw [if_neg (by simpa using c)]
    exact ⟨0, rfl, Sz.big inferInstance⟩

theorem g_law_int_eq (x : Int) : g_law_int x = .ok true := by unfold g_law_int; rfl

theorem g_law_area_eq (a b c : P) : g_law_area a b c = .ok (tP a b c) := by
  unfold g_law_area
  simp (disch := omega) only [mulM_ok, ok_bind]
  congr 1
  unfold tP tw twV
  simp only [P.pt]
  grind

instance pz_two40 : Pz (2 * pwr 10 40 - 1) := ⟨by have := (inferInstance : Pz (pwr 10 40)).pos; omega⟩
theorem six_ok {j : Int} (h0 : 0 ≤ j) (h1 : j < 6) : ∃ p : Int × Int, atM [((5 : Int), (0 : Int)), ((4 : Int), (3 : Int)), ((3 : Int), (4 : Int)), ((0 : Int), (5 : Int)), ((-(3 : Int)), (4 : Int)), ((-(4 : Int)), (3 : Int))] j = .ok p ∧ Sz 10 p.1 ∧ Sz 10 p.2 := by
  obtain ⟨p, e1, e2⟩ := atM_get (l := [((5 : Int), (0 : Int)), ((4 : Int), (3 : Int)), ((3 : Int), (4 : Int)), ((0 : Int), (5 : Int)), ((-(3 : Int)), (4 : Int)), ((-(4 : Int)), (3 : Int))]) h0 (by simp only [List.length_cons, List.length_nil]; omega)
  refine ⟨p, e2, ?_⟩
  have := List.mem_of_getElem? e1
  simp only [List.mem_cons, List.not_mem_nil, or_false] at this
  rcases this with rfl | rfl | rfl | rfl | rfl | rfl <;> exact ⟨⟨by decide⟩, ⟨by decide⟩⟩
theorem law_spot_ok {kind one other : Int} {heart : Int × Int} {by_ : Int} [Big one] [Big other] [Sz 300 heart.1] [Sz 300 heart.2] [Sz 300 by_] : ∃ p, g_law_spot kind one other heart by_ = .ok p := by
  unfold g_law_spot
  have lst : ∀ x y : Int, Sz 40 x → Sz 40 y → ∃ p, (((mulM by_ x).bind fun t35 => VR.ok (heart.1 + t35)).bind fun t37 => ((mulM by_ y).bind fun t36 => VR.ok (heart.2 + t36)).bind fun t38 => VR.ok (t37, t38)).bind toP = .ok p := fun x y hx hy => by
    rw [mulM_ok (by decide), ok_bind, ok_bind, mulM_ok (by decide), ok_bind, ok_bind, ok_bind]
    exact ⟨_, toP_ok (by decide) (by decide)⟩
  rw [modM_p, ok_bind, ok_bind, mulM_ok (by decide), ok_bind]
  by_cases k0 : kind = 0
  · rw [if_pos (decide_eq_true k0), modM_p, ok_bind, ok_bind, modM_p, ok_bind, ok_bind, ok_bind]
    exact ⟨_, toP_ok (by decide) (by decide)⟩
  rw [if_neg (by simpa using k0)]
  have s6 : ∃ s : Int × Int, (if (decide (kind = (1 : Int))) = true then (((modM one (6 : Int)).bind fun t7 => (atM [((5 : Int), (0 : Int)), ((4 : Int), (3 : Int)), ((3 : Int), (4 : Int)), ((0 : Int), (5 : Int)), ((-(3 : Int)), (4 : Int)), ((-(4 : Int)), (3 : Int))] t7)).bind fun p8 => ((((fdivM one (6 : Int)).bind fun t9 => (modM t9 (2 : Int))).bind fun t10 => VR.ok (decide (t10 = (1 : Int)))).bind fun t12 => if t12 = true then ((VR.ok ((-p8.1), (-p8.2))).bind fun p11 => VR.ok (p11.1, p11.2)) else (VR.ok (p8.1, p8.2)))) else (VR.ok (one % 9 - 4, 2 * (one % 9 - 4)))) = .ok s ∧ Sz 40 s.1 ∧ Sz 40 s.2 := by
    by_cases k1 : kind = 1
    · obtain ⟨p, e, h1, h2⟩ := six_ok (j := one % 6) (by omega) (by omega)
      rw [if_pos (decide_eq_true k1), modM_p, ok_bind, e, ok_bind, fdivM_p (by decide), ok_bind, modM_p, ok_bind, ok_bind]
      split
      · exact ⟨_, rfl, (sz_neg' h1).up (by decide), (sz_neg' h2).up (by decide)⟩
      · exact ⟨_, rfl, h1.up (by decide), h2.up (by decide)⟩
    · rw [if_neg (by simpa using k1)]
      exact ⟨_, rfl, Sz.up inferInstance (by decide), Sz.up inferInstance (by decide)⟩
  obtain ⟨s, e, h1, h2⟩ := s6
  rw [e, ok_bind]
  have s13 : ∃ r : Int × Int, (if (decide (kind = (2 : Int))) = true then ((modM one (3 : Int)).bind fun (v_lx : Int) => (modM other (3 : Int)).bind fun (v_ly : Int) => VR.ok (v_lx, v_ly)) else (VR.ok (s.1, s.2))) = .ok r ∧ Sz 40 r.1 ∧ Sz 40 r.2 := by
    by_cases k2 : kind = 2
    · rw [if_pos (decide_eq_true k2), modM_p, ok_bind, modM_p, ok_bind]
      exact ⟨_, rfl, Sz.up inferInstance (by decide), Sz.up inferInstance (by decide)⟩
    · rw [if_neg (by simpa using k2)]
      exact ⟨_, rfl, h1, h2⟩
  obtain ⟨r, e, r1, r2⟩ := s13
  rw [e, ok_bind]
  by_cases k3 : kind = 3
  · rw [if_pos (decide_eq_true k3), mulM_ok (by decide), ok_bind, ok_bind, modM_p, ok_bind, ok_bind, ok_bind, ok_bind, modM_p, ok_bind, ok_bind, ok_bind, ok_bind]
    exact ⟨_, toP_ok (by decide) (by decide)⟩
  rw [if_neg (by simpa using k3)]
  by_cases k4 : kind = 4
  · rw [if_pos (decide_eq_true k4), mulM_ok (by decide), ok_bind, ok_bind, mulM_ok (by decide), ok_bind, ok_bind, modM_p, ok_bind, ok_bind, ok_bind, ok_bind, ok_bind]
    exact ⟨_, toP_ok (by decide) (by decide)⟩
  rw [if_neg (by simpa using k4)]
  by_cases k5 : kind = 5
  · rw [if_pos (decide_eq_true k5), modM_p, ok_bind, ok_bind, modM_p, ok_bind, ok_bind, ok_bind]
    exact lst _ _ (Sz.up inferInstance (by decide)) (Sz.up inferInstance (by decide))
  rw [if_neg (by simpa using k5), ok_bind]
  exact lst _ _ r1 r2

instance pz_two39 : Pz (2 * pwr 10 39 + 1) := ⟨by have := (inferInstance : Pz (pwr 10 39)).pos; omega⟩
theorem law_spots_ok {s : Scr} (hs : Small s) : Ok (g_law_spots s 0 4) fun l => l.length = 4 := by
  unfold g_law_spots
  obtain ⟨a0, e0, _⟩ := law_nth_ok hs (k := 0) (by omega)
  obtain ⟨a1, e1, _⟩ := law_nth_ok hs (k := 0 + 1) (by omega)
  obtain ⟨a2, e2, _⟩ := law_nth_ok hs (k := 0 + 2) (by omega)
  obtain ⟨a3, e3, _⟩ := law_nth_ok hs (k := 0 + 3) (by omega)
  rw [e0, ok_bind, modM_p, ok_bind, e1, ok_bind, mulM_ok (by decide), ok_bind, ok_bind, modM_p, ok_bind, ok_bind, e2, ok_bind, ok_bind, ok_bind, modM_p, ok_bind, ok_bind, e3, ok_bind, modM_p, ok_bind, ok_bind, ok_bind, rngM_ok (by omega), ok_bind]
  have z := forM_Ok (xs := rngL 0 4) (s := ([] : List P)) (f := fun (x17 : Int) (s12 : (List P)) => ((((mulM (2 : Int) x17).bind fun t18 => VR.ok (((0 : Int) + (4 : Int)) + t18)).bind fun t19 => (g_law_nth s t19)).bind fun (v_lone : Int) => (((mulM (2 : Int) x17).bind fun t20 => VR.ok (((0 : Int) + (5 : Int)) + t20)).bind fun t21 => (g_law_nth s t21)).bind fun (v_lother : Int) => (VR.ok (a0 % 6)).bind fun (v_lhere : Int) => (if ((decide (a0 % 6 = (5 : Int))) && (decide (x17 < (3 : Int)))) = true then ((VR.ok (1 : Int)).bind fun (v_lhere : Int) => VR.ok v_lhere) else (VR.ok v_lhere)).bind fun (s22 : Int) => (g_law_spot s22 v_lone v_lother (a1 % (2 * pwr 10 39 + 1) - pwr 10 39, a2 % (2 * pwr 10 39 + 1) - pwr 10 39) (1 + a3 % pwr 10 20)).bind fun t23 => (appM s12 t23).bind fun (v_lfound : (List P)) => VR.ok v_lfound : VR ((List P)))) (fun j (l : List P) => l.length = j) rfl fun i x l hx hl => ?_
  · exact Ok.bind z fun l h => Ok.ok (by rw [h]; rfl)
  · have hx2 := get_rngL hx
    have : Sz 10 x := ⟨by omega⟩
    obtain ⟨b, e4, _⟩ := law_nth_ok hs (k := 0 + 4 + 2 * x) (by omega)
    obtain ⟨c, e5, _⟩ := law_nth_ok hs (k := 0 + 5 + 2 * x) (by omega)
    rw [mulM_ok (by decide), ok_bind, ok_bind, e4, ok_bind, ok_bind, ok_bind, e5, ok_bind, ok_bind]
    have k : ∃ k : Int, (if ((decide (a0 % 6 = (5 : Int))) && (decide (x < (3 : Int)))) = true then ((VR.ok (1 : Int)).bind fun (v_lhere : Int) => VR.ok v_lhere) else (VR.ok (a0 % 6))) = .ok k := by
      split
      · exact ⟨_, rfl⟩
      · exact ⟨_, rfl⟩
    obtain ⟨k, ek⟩ := k
    rw [ek, ok_bind]
    have h1 : Sz 300 (a1 % (2 * pwr 10 39 + 1) - pwr 10 39) := Sz.up inferInstance (by decide)
    have h2 : Sz 300 (a2 % (2 * pwr 10 39 + 1) - pwr 10 39) := Sz.up inferInstance (by decide)
    have h3 : Sz 300 (1 + a3 % pwr 10 20) := Sz.up inferInstance (by decide)
    obtain ⟨p, ep⟩ := @law_spot_ok k b c (a1 % (2 * pwr 10 39 + 1) - pwr 10 39, a2 % (2 * pwr 10 39 + 1) - pwr 10 39) (1 + a3 % pwr 10 20) _ _ h1 h2 h3
    rw [ep, ok_bind, appM_ok (by omega), ok_bind]
    exact Ok.ok (by rw [List.length_append, List.length_singleton, hl])

theorem g_law_shared_eq {n : Nat} {x y : Int} (hx : Sz n x) (hn : n ≤ 90000) : g_law_shared x y = .ok ((Int.gcd x y : Nat) : Int) := by
  unfold g_law_shared
  rw [ok_bind, ok_bind]
  have ab : ∀ z : Int, (if z < 0 then -z else z) = (z.natAbs : Int) := fun z => by split <;> omega
  rw [ab, ab]
  obtain ⟨s, e, hs⟩ := whlM_fuel (c := fun (s1 : Int × Int) => (VR.ok (decide ((0 : Int) < s1.1)))) (f := fun (s1 : Int × Int) => ((modM s1.2 s1.1).bind fun (v_lrest : Int) => (VR.ok s1.1).bind fun (v_lother : Int) => (VR.ok v_lrest).bind fun (v_lone : Int) => VR.ok (v_lone, v_lother) : VR (Int × Int)))
    (fun s : Int × Int => 0 ≤ s.1 ∧ 0 ≤ s.2 ∧ Int.gcd s.1 s.2 = Int.gcd x y) (fun s => s.1.natAbs) (n := n) (by omega) (s := ((x.natAbs : Int), (y.natAbs : Int))) ⟨by omega, by omega, by simp [Int.gcd]⟩ (by rw [Int.natAbs_natCast]; exact hx.lt) fun s ⟨h1, h2, h3⟩ => ⟨_, rfl, fun hc => by
      have h4 : 0 < s.1 := by simpa using hc
      have m0 := Int.emod_nonneg s.2 (b := s.1) (by omega)
      have m1 := Int.emod_lt_of_pos s.2 h4
      refine ⟨(s.2 % s.1, s.1), by rw [modM_pos h4, ok_bind, ok_bind, ok_bind], ⟨m0, h1, ?_⟩, ?_⟩
      · rw [← h3]
        show Int.gcd (s.2 % s.1) s.1 = _
        rw [Int.gcd_comm s.1 s.2, Int.emod_def, show s.2 - s.1 * (s.2 / s.1) = s.2 + s.1 * (-(s.2 / s.1)) by rw [Int.mul_neg]; omega, Int.gcd_add_mul_left_left]
      · show (s.2 % s.1).natAbs < s.1.natAbs
        omega⟩
  rw [e, ok_bind]
  obtain ⟨⟨h1, h2, h3⟩, h4⟩ := hs
  have h5 : s.1 = 0 := by
    injection h4 with h4
    have := of_decide_eq_false h4
    omega
  rw [h5, Int.gcd_zero_left] at h3
  rw [← h3]
  congr 1
  omega

theorem g_law_is_fraction_eq {f : Fr 10000} (hd : 0 < f.d) (hg : Int.gcd f.n f.d = 1) : g_law_is_fraction f = .ok true := by
  unfold g_law_is_fraction
  rw [g_law_int_eq, ok_bind, ok_bind, if_neg (by decide), g_law_int_eq, ok_bind, ok_bind, if_neg (by decide), ok_bind, if_neg (by simp; omega), g_law_shared_eq f.hn (by decide), ok_bind, hg]
  rfl

theorem g_law_is_point_mid {a b c : P} (t : tP a b c ≠ 0) : g_law_is_point (midX a b c) = .ok true := by
  unfold g_law_is_point
  have h2 : 2 * tP a b c ≠ 0 := by omega
  have one : ∀ {x : Int}, Sz 3100 x → g_law_is_fraction (low x (2 * tP a b c)) = .ok true := fun {x} h => by
    obtain ⟨e1, e2⟩ := low_nd h (sz_2tP a b c) (by decide) (by decide)
    exact g_law_is_fraction_eq (by rw [e2]; exact lowD_pos h2) (by rw [e1, e2]; exact low_gcd h2)
  show ((g_law_is_fraction (low (midNx a b c) (2 * tP a b c))).bind fun t1 => if t1 = true then g_law_is_fraction (low (midNy a b c) (2 * tP a b c)) else VR.ok false) = _
  rw [one (sz_midNx a b c), ok_bind, if_pos rfl, one (sz_midNy a b c)]

theorem g_law_apart_eq (p : P) (X : XP) : g_law_apart p X = .ok (dX X p) := by
  unfold g_law_apart
  simp (disch := omega) only [mulM_ok, ok_bind]
  congr 1
  unfold dX
  grind

/-! the middle of a ring, whatever the order -/
theorem frac_uniq {n1 d1 n2 d2 : Int} (h1 : 0 < d1) (h2 : 0 < d2) (g1 : Int.gcd n1 d1 = 1) (g2 : Int.gcd n2 d2 = 1) (e : n1 * d2 = n2 * d1) : n1 = n2 ∧ d1 = d2 := by
  have k1 : d1 ∣ d2 := Int.natAbs_dvd_natAbs.mp (Nat.Coprime.dvd_of_dvd_mul_left (m := n1.natAbs) (Nat.Coprime.symm g1) (by rw [← Int.natAbs_mul, e, Int.natAbs_mul]; exact ⟨_, Nat.mul_comm _ _⟩))
  have k2 : d2 ∣ d1 := Int.natAbs_dvd_natAbs.mp (Nat.Coprime.dvd_of_dvd_mul_left (m := n2.natAbs) (Nat.Coprime.symm g2) (by rw [← Int.natAbs_mul, ← e, Int.natAbs_mul]; exact ⟨_, Nat.mul_comm _ _⟩))
  have k3 : d1 = d2 := Int.le_antisymm (Int.le_of_dvd h2 k1) (Int.le_of_dvd h1 k2)
  subst k3
  exact ⟨Int.eq_of_mul_eq_mul_right (by omega) e, rfl⟩
theorem low_uniq {t u t' u' : Int} (h : u ≠ 0) (h' : u' ≠ 0) (e : t * u' = t' * u) : lowN t u = lowN t' u' ∧ lowD t u = lowD t' u' := by
  refine frac_uniq (lowD_pos h) (lowD_pos h') (low_gcd h) (low_gcd h') ?_
  have c1 := low_cross (t := t) h
  have c2 := low_cross (t := t') h'
  generalize lowN t u = n1 at *
  generalize lowN t' u' = n2 at *
  generalize lowD t u = d1 at *
  generalize lowD t' u' = d2 at *
  refine Int.eq_of_mul_eq_mul_right (a := u * u') (Int.mul_ne_zero h h') ?_
  have e1 : n1 * d2 * (u * u') = (n1 * u) * (d2 * u') := by grind
  have e2 : n2 * d1 * (u * u') = (n2 * u') * (d1 * u) := by grind
  rw [e1, e2, c1, c2]
  have e3 : t * d1 * (d2 * u') = t * u' * (d1 * d2) := by grind
  rw [e3, e]
  grind
theorem low_cg {t u t' u' : Int} (h : u ≠ 0) (h' : u' ≠ 0) (e : t * u' = t' * u) : low t u = low t' u' := by
  obtain ⟨e1, e2⟩ := low_uniq h h' e
  unfold low
  rw [e1, e2]
theorem mid_rot {a b c : P} (t : tP a b c ≠ 0) : midX b c a = midX a b c := by
  have e0 : tP b c a = tP a b c := tP_rot a b c
  have e1 : midNx b c a = midNx a b c := by
    unfold midNx tP tw twV
    simp only [P.pt]
    grind
  have e2 : midNy b c a = midNy a b c := by
    unfold midNy tP tw twV
    simp only [P.pt]
    grind
  unfold midX
  rw [e0, e1, e2]
theorem mid_swap {a b c : P} (t : tP a b c ≠ 0) : midX b a c = midX a b c := by
  have e0 : tP b a c = -tP a b c := tP_sw a b c
  have e1 : midNx b a c = -midNx a b c := by
    unfold midNx tP tw twV
    simp only [P.pt]
    grind
  have e2 : midNy b a c = -midNy a b c := by
    unfold midNy tP tw twV
    simp only [P.pt]
    grind
  unfold midX
  rw [low_cg (t := midNx b a c) (u := 2 * tP b a c) (t' := midNx a b c) (u' := 2 * tP a b c) (by omega) (by omega) (by rw [e0, e1]; grind), low_cg (t := midNy b a c) (u := 2 * tP b a c) (t' := midNy a b c) (u' := 2 * tP a b c) (by omega) (by omega) (by rw [e0, e2]; grind)]
theorem mid_bent {a b c : P} (t : tP a b c ≠ 0) : dX (midX a b c) a = dX (midX a b c) b := by
  have h2 : 2 * tP a b c ≠ 0 := by omega
  have e := bentX_eq (midX a b c) a b
  have z : bentX (midX a b c) a b = 0 := by
    obtain ⟨x1, x2⟩ := low_nd (sz_midNx a b c) (sz_2tP a b c) (by decide) (by decide)
    obtain ⟨y1, y2⟩ := low_nd (sz_midNy a b c) (sz_2tP a b c) (by decide) (by decide)
    have cx := low_cross (t := midNx a b c) h2
    have cy := low_cross (t := midNy a b c) h2
    rw [← x1, ← x2] at cx
    rw [← y1, ← y2] at cy
    have cx : (midX a b c).1.n * (2 * tP a b c) = midNx a b c * (midX a b c).1.d := cx
    have cy : (midX a b c).2.n * (2 * tP a b c) = midNy a b c * (midX a b c).2.d := cy
    generalize midX a b c = X at *
    have key : bentX X a b * (2 * tP a b c) = 0 := by
      have e1 : bentX X a b * (2 * tP a b c) = (b.x * b.x + b.y * b.y - a.x * a.x - a.y * a.y) * X.1.d * X.2.d * (2 * tP a b c) - 2 * (X.1.n * (2 * tP a b c)) * X.2.d * (b.x - a.x) - 2 * (X.2.n * (2 * tP a b c)) * X.1.d * (b.y - a.y) := by
        unfold bentX; grind
      rw [e1, cx, cy]
      have e2 : (b.x * b.x + b.y * b.y - a.x * a.x - a.y * a.y) * X.1.d * X.2.d * (2 * tP a b c) - 2 * (midNx a b c * X.1.d) * X.2.d * (b.x - a.x) - 2 * (midNy a b c * X.2.d) * X.1.d * (b.y - a.y) = X.1.d * X.2.d * ((b.x * b.x + b.y * b.y - a.x * a.x - a.y * a.y) * (2 * tP a b c) - 2 * midNx a b c * (b.x - a.x) - 2 * midNy a b c * (b.y - a.y)) := by grind
      rw [e2]
      have e3 : (b.x * b.x + b.y * b.y - a.x * a.x - a.y * a.y) * (2 * tP a b c) - 2 * midNx a b c * (b.x - a.x) - 2 * midNy a b c * (b.y - a.y) = 0 := by
        unfold midNx midNy tP tw twV
        simp only [P.pt]
        grind
      rw [e3, Int.mul_zero]
    rcases Int.mul_eq_zero.mp key with h | h
    · exact h
    · exact absurd h h2
  rw [z, Int.mul_zero] at e
  omega
theorem mids {a b c : P} (t : tP a b c ≠ 0) : midX b c a = midX a b c ∧ midX c a b = midX a b c ∧ midX b a c = midX a b c ∧ midX a c b = midX a b c ∧ midX c b a = midX a b c := by
  have r1 := tP_rot a b c
  have r2 := tP_sw a b c
  have m1 : midX b a c = midX a b c := mid_swap t
  have m2 : midX b c a = midX a b c := mid_rot t
  have m3 : midX c a b = midX a b c := by rw [← m2]; exact mid_rot (by omega)
  have m4 : midX c b a = midX a b c := by rw [← m2]; exact mid_swap (by omega)
  have m5 : midX a c b = midX a b c := by rw [← m1]; exact mid_rot (by omega)
  exact ⟨m2, m3, m1, m5, m4⟩
/-! the refusals -/
theorem x_middle_eq {a b c : P} (h : tP a b c = 0) : x_middle a b c = .ok () := by
  unfold x_middle
  rw [g_twice_eq, ok_bind, h, ok_bind, if_pos (by decide)]
theorem x_ring_eq {a b c d : P} (h : tP a b c = 0) : x_ring a b c d = .ok () := by
  unfold x_ring
  rw [g_turn_eq, ok_bind, h, ok_bind, if_pos (by decide)]
theorem law_flat_eq {r : Int} {a b c d : P} (h0 : 0 ≤ r) (h1 : r < 3) (h : tP a b c = 0) : g_law_flat r a b c d = .ok true := by
  have e : x_law_asked r a b c d = .ok () := by
    unfold x_law_asked
    rw [ok_bind]
    rcases (by omega : r = 0 ∨ r = 1 ∨ r = 2) with rfl | rfl | rfl
    · rw [if_pos (by decide)]; exact x_middle_eq h
    · rw [if_neg (by decide), ok_bind, if_pos (by decide)]; exact x_ring_eq h
    · rw [if_neg (by decide), ok_bind, if_neg (by decide), ok_bind, if_pos (by decide)]; exact x_ring_eq h
  have er : repM [false] (7 : Int) = .ok [false, false, false, false, false, false, false] := by
    unfold repM
    rw [if_pos (by
      refine ⟨by omega, by omega, ?_⟩
      rw [sizeLine_eq]; decide)]
    rfl
  unfold g_law_flat
  rw [ok_bind, e]
  show VR.bind (VR.ok ()) _ = _
  rw [ok_bind, er, ok_bind]
  rfl
theorem law_ok (s : Scr) (h1 : s.ns.length ≤ 63) (h2 : ∀ z ∈ s.ns, Builtin.Int.intBits z ≤ 1048576) : g_law s = .ok true := by
  have hs : Small s := Small.mk' h1 h2
  unfold g_law
  obtain ⟨l, e0, hl⟩ := law_spots_ok hs
  obtain ⟨a, b, c, d, rfl⟩ : ∃ a b c d, l = [a, b, c, d] := by
    match l, hl with
    | [a, b, c, d], _ => exact ⟨a, b, c, d, rfl⟩
  rw [e0, ok_bind, show tup4M [a, b, c, d] = .ok ⟨a, b, c, d⟩ from rfl, ok_bind]
  obtain ⟨k, e1, _⟩ := law_nth_ok hs (k := 12) (by omega)
  rw [e1, ok_bind, modM_p, ok_bind, ok_bind]
  have hd : ∃ q : P, (if decide (k % 3 = (1 : Int)) = true then (((((VR.ok k).bind fun t11 => (fdivM t11 (3 : Int))).bind fun t12 => (modM t12 (3 : Int))).bind fun t13 => (atM [a, b, c] t13)).bind fun (v_ld : P) => VR.ok v_ld) else (VR.ok d)) = .ok q := by
    split
    · rw [ok_bind, fdivM_p (by omega), ok_bind, modM_p, ok_bind]
      obtain ⟨q, _, e⟩ := atM_get (l := [a, b, c]) (i := k / 3 % 3) (by omega) (by simp only [List.length_cons, List.length_nil]; omega)
      rw [e, ok_bind]
      exact ⟨q, rfl⟩
    · exact ⟨d, rfl⟩
  obtain ⟨q, e2⟩ := hd
  refine bi_eq e2 ?_
  rw [ok_bind, g_law_area_eq, ok_bind, ok_bind]
  have r1 := tP_rot a b c
  have r2 := tP_rot' a b c
  have r3 := tP_sw a b c
  have r4 := tP_sw' a b c
  have r5 := tP_sw c b a
  have r6 := tP_rot' c b a
  have r7 := tP_rot c b a
  have r8 := tP_sw b c a
  by_cases t : tP a b c = 0
  · rw [if_pos (decide_eq_true t), rngM_ok (by omega), ok_bind]
    have all : ∀ r ∈ rngL 0 3, forF [(T3.mk a b c), (T3.mk b c a), (T3.mk c a b), (T3.mk b a c), (T3.mk a c b), (T3.mk c b a)] () (fun (x28 : (T3 P P P)) (s23 : Unit) => ((((g_law_flat r x28.a x28.b x28.c q).bind fun t29 => VR.ok (!t29)).bind fun t30 => if t30 = true then (VR.ok (Fl.rt false)) else (VR.ok (Fl.nx ()))) : VR (Fl (Unit) Bool))) = .ok (.nx ()) := fun r hr => by
      obtain ⟨h0, h3⟩ := mem_rngL.mp hr
      simp only [forF_cons, forF_nil]
      rw [law_flat_eq h0 h3 t, law_flat_eq h0 h3 (a := b) (b := c) (c := a) (by omega), law_flat_eq h0 h3 (a := c) (b := a) (c := b) (by omega), law_flat_eq h0 h3 (a := b) (b := a) (c := c) (by omega), law_flat_eq h0 h3 (a := a) (b := c) (c := b) (by omega), law_flat_eq h0 h3 (a := c) (b := b) (c := a) (by omega)]
      rfl
    refine bi_eq (forF_all fun r hr => ?_) rfl
    rw [all r hr]; rfl
  · rw [if_neg (by simpa using t), g_middle_eq t, ok_bind, g_law_is_point_mid t, ok_bind, ok_bind, if_neg (by decide)]
    obtain ⟨m1, m2, m3, m4, m5⟩ := mids t
    have n1 : dX (midX a b c) a = dX (midX a b c) b := mid_bent t
    have n2 : dX (midX a b c) a = dX (midX a b c) c := by
      rw [← m4]; exact mid_bent (by omega)
    rw [g_law_apart_eq, ok_bind, g_law_apart_eq, ok_bind, ok_bind, if_neg (by simpa using n1), g_law_apart_eq, ok_bind, ok_bind, ok_bind, if_neg (by simpa using n2)]
    simp only [forF_cons, forF_nil]
    rw [g_middle_eq t, g_middle_eq (a := b) (b := c) (c := a) (by omega), g_middle_eq (a := c) (b := a) (c := b) (by omega), g_middle_eq (a := b) (b := a) (c := c) (by omega), g_middle_eq (a := a) (b := c) (c := b) (by omega), g_middle_eq (a := c) (b := b) (c := a) (by omega), m1, m2, m3, m4, m5]
    simp [ok_bind]

theorem law_true : ∀ ns : List Int, ns.length ≤ 63 → (∀ z ∈ ns, Builtin.Int.intBits z ≤ 1048576) → ∃ S', callT (tabT tab) 7 20 [.ref 0] [.frz (ns.map D.int)] = .ok (.bl true) S' := fun ns h1 h2 => law_of (fr := F) ((law_rf 0 ⟨ns⟩).eq (law_ok ⟨ns⟩ h1 h2))
end TL
open PySem PySem.W PyProof.Rows
set_option maxRecDepth 100000 in
set_option maxHeartbeats 0 in
theorem PySem.Challenge.cw_nearland_k13_middles_holds : PySem.Challenge.rw_nearland_k13_middles.Holds := by
  w_on; o_law; k_head; (case hw => w_witness2)
  k_fill
  refine NL.walk_nl (l := PySem.Challenge.rw_nearland_k13_middles) (tab := TL.tab) (n := 7) (i := 20) (e := TL.e20) rfl rfl ⟨rfl, by decide, by decide⟩ (fun w h Y => PySem.W.kIn_of Y) rfl rfl rfl TL.okAll ?F TL.law_true
  case F =>
    intro w mg h KX G
    refine' ⟨TL.xok KX G ?p0 ?q0 ?r0 ?s0 ?t0 ?p1 ?q1 ?r1 ?s1 ?t1 ?p2 ?q2 ?r2 ?s2 ?t2 ?p3 ?q3 ?r3 ?s3 ?t3 ?p4 ?q4 ?r4 ?s4 ?t4 ?p5 ?q5 ?r5 ?s5 ?t5 ?p6 ?q6 ?r6 ?s6 ?t6 ?x0 ?x1 ?x2 ?x3 ?v0 ?v1 ?v2 ?v3 ?v4 ?v5 ?v6, TL.stands KX G ?a0 ?l0 ?c0 ?k0 ?a1 ?l1 ?c1 ?k1 ?a2 ?l2 ?c2 ?k2 ?a3 ?l3 ?c3 ?k3 ?a4 ?l4 ?c4 ?k4 ?a5 ?l5 ?c5 ?k5 ?a6 ?l6 ?c6 ?k6 ?a7 ?l7 ?c7 ?k7 ?a8 ?l8 ?c8 ?k8 ?a9 ?l9 ?c9 ?k9 ?a10 ?l10 ?c10 ?k10 ?a11 ?l11 ?c11 ?k11 ?a12 ?l12 ?c12 ?k12 ?a13 ?l13 ?c13 ?k13 ?a14 ?l14 ?c14 ?k14 ?a15 ?l15 ?c15 ?k15 ?a16 ?l16 ?c16 ?k16 ?a17 ?l17 ?c17 ?k17 ?a18 ?l18 ?c18 ?k18 ?a19 ?l19 ?c19 ?k19 ?a20 ?l20 ?c20 ?k20 ?z0 ?z1 ?z2 ?z3 ?z4 ?z5 ?z6 ?z7 ?z8 ?z9 ?z10 ?z11 ?z12 ?z13 ?z14 ?z15 ?z16⟩
    (case p0 => k_is)
    (case q0 => k_is)
    (case r0 => k_is)
    (case s0 => k_is)
    (case t0 => k_is)
    (case p1 => k_is)
    (case q1 => k_is)
    (case r1 => k_is)
    (case s1 => k_is)
    (case t1 => k_is)
    (case p2 => k_is)
    (case q2 => k_is)
    (case r2 => k_is)
    (case s2 => k_is)
    (case t2 => k_is)
    (case p3 => k_is)
    (case q3 => k_is)
    (case r3 => k_is)
    (case s3 => k_is)
    (case t3 => k_is)
    (case p4 => k_is)
    (case q4 => k_is)
    (case r4 => k_is)
    (case s4 => k_is)
    (case t4 => k_is)
    (case p5 => k_is)
    (case q5 => k_is)
    (case r5 => k_is)
    (case s5 => k_is)
    (case t5 => k_is)
    (case p6 => k_is)
    (case q6 => k_is)
    (case r6 => k_is)
    (case s6 => k_is)
    (case t6 => k_is)
    (case x0 => k_is)
    (case x1 => k_is)
    (case x2 => k_exc)
    (case x3 => k_is)
    (case v0 => k_is)
    (case v1 => k_is)
    (case v2 => k_is)
    (case v3 => k_is)
    (case v4 => k_is)
    (case v5 => k_is)
    (case v6 => k_is)
    (case a0 => k_is)
    (case l0 => k_is)
    (case c0 => k_is)
    (case k0 => k_is)
    (case a1 => k_is)
    (case l1 => k_is)
    (case c1 => k_is)
    (case k1 => k_is)
    (case a2 => k_is)
    (case l2 => k_is)
    (case c2 => k_is)
    (case k2 => k_is)
    (case a3 => k_is)
    (case l3 => k_is)
    (case c3 => k_is)
    (case k3 => k_is)
    (case a4 => k_is)
    (case l4 => k_is)
    (case c4 => k_is)
    (case k4 => k_is)
    (case a5 => k_is)
    (case l5 => k_is)
    (case c5 => k_is)
    (case k5 => k_is)
    (case a6 => k_is)
    (case l6 => k_is)
    (case c6 => k_is)
    (case k6 => k_is)
    (case a7 => k_is)
    (case l7 => k_is)
    (case c7 => k_is)
    (case k7 => k_is)
    (case a8 => k_is)
    (case l8 => k_is)
    (case c8 => k_is)
    (case k8 => k_is)
    (case a9 => k_is)
    (case l9 => k_is)
    (case c9 => k_is)
    (case k9 => k_is)
    (case a10 => k_is)
    (case l10 => k_is)
    (case c10 => k_is)
    (case k10 => k_is)
    (case a11 => k_is)
    (case l11 => k_is)
    (case c11 => k_is)
    (case k11 => k_is)
    (case a12 => k_is)
    (case l12 => k_is)
    (case c12 => k_is)
    (case k12 => k_is)
    (case a13 => k_is)
    (case l13 => k_is)
    (case c13 => k_is)
    (case k13 => k_is)
    (case a14 => k_is)
    (case l14 => k_is)
    (case c14 => k_is)
    (case k14 => k_is)
    (case a15 => k_is)
    (case l15 => k_is)
    (case c15 => k_is)
    (case k15 => k_is)
    (case a16 => k_is)
    (case l16 => k_is)
    (case c16 => k_is)
    (case k16 => k_is)
    (case a17 => k_is)
    (case l17 => k_is)
    (case c17 => k_is)
    (case k17 => k_is)
    (case a18 => k_is)
    (case l18 => k_is)
    (case c18 => k_is)
    (case k18 => k_is)
    (case a19 => k_is)
    (case l19 => k_is)
    (case c19 => k_is)
    (case k19 => k_is)
    (case a20 => k_is)
    (case l20 => k_is)
    (case c20 => k_is)
    (case k20 => k_is)
    (case z0 => k_is)
    (case z1 => k_is)
    (case z2 => k_is)
    (case z3 => k_is)
    (case z4 => k_is)
    (case z5 => k_is)
    (case z6 => k_is)
    (case z7 => k_is)
    (case z8 => k_is)
    (case z9 => k_is)
    (case z10 => k_is)
    (case z11 => k_is)
    (case z12 => k_is)
    (case z13 => k_is)
    (case z14 => k_is)
    (case z15 => k_is)
    (case z16 => k_is)
#print axioms PySem.Challenge.cw_nearland_k13_middles_holds
