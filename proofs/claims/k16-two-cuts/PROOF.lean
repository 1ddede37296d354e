import PyProof.Rows.All
import Wide.All
import OpenK.AllK
import Wide.FinOn
import HandS.ForMost
import HandS.ForExc
import HandS.TupLe
import HandS.EndBits
import HandS.Flow
import HandS.Deep
import HandS.IsInst
import HandS.SortOrd
import HandS.Style
import PySem.Challenge.RW_nearland_k16_two_cuts
set_option Elab.async false
set_option linter.all false
set_option maxRecDepth 100000
set_option maxHeartbeats 4000000
/-! A small language of plain data over the hand layer: values as trees, lists in a store, and how they stand in the abstract heap. -/
namespace NL
open PySem PySem.Spec PyProof.Rows L2

/-- a value: atoms and tuples as trees; a list by its place in the store -/
inductive D where
  | non | bl (b : Bool) | int (i : Int) | str (x : Str) | tup (xs : List D) | ref (l : Nat)
  deriving Inhabited
/-- what stands at a place of the store: a list of ours, a list that is only read -/
inductive Ob where
  | lst (xs : List D) | frz (xs : List D)
def Ob.mut : Ob → Bool
  | .frz _ => false
  | _ => true
abbrev Store := List Ob
/-- an answer: a value, an exception (its class, the place of its dict), or nothing is said -/
inductive R (α : Type) where
  | ok (a : α) (S : Store) | exc (c : Str) (d : Option Nat) (S : Store) | stuck
def R.bind {α β : Type} (r : R α) (f : α → Store → R β) : R β := match r with
  | .ok a S => f a S
  | .exc c d S => .exc c d S
  | .stuck => .stuck
def M (α : Type) := Store → R α
def M.pure {α : Type} (a : α) : M α := fun S => .ok a S
def M.bind {α β : Type} (m : M α) (f : α → M β) : M β := fun S => (m S).bind f
def die {α : Type} : M α := fun _ => .stuck
instance : Monad M where
  pure := M.pure
  bind := M.bind
theorem bind_eq {α β : Type} (m : M α) (f : α → M β) (S : Store) : (m >>= f) S = (m S).bind f := rfl
theorem pure_eq {α : Type} (a : α) (S : Store) : (pure a : M α) S = .ok a S := rfl
theorem bind_as {α β γ : Type} (m : M α) (f : α → M β) (g : β → M γ) : m >>= f >>= g = m >>= fun x => f x >>= g := by
  funext S
  show (R.bind (R.bind (m S) f) g) = R.bind (m S) fun x => M.bind (f x) g
  cases m S <;> rfl
theorem pure_bi {α β : Type} (a : α) (f : α → M β) : (pure a : M α) >>= f = f a := rfl
theorem die_bi {α β : Type} (f : α → M β) : (die : M α) >>= f = die := rfl
theorem ite_bi {α β : Type} (c : Prop) [Decidable c] (m n : M α) (f : α → M β) : (if c then m else n) >>= f = if c then m >>= f else n >>= f := by split <;> rfl
theorem die_eq {α : Type} (S : Store) : (die : M α) S = .stuck := rfl

/-! ### how values stand in the heap -/
mutual
inductive Rep (m : List Addr) (H : Hp) : D → V → Prop
  | non : Rep m H .non .non
  | bl (b : Bool) : Rep m H (.bl b) (.bl b)
  | int (i : Int) : Rep m H (.int i) (.int i)
  | str (x : Str) : Rep m H (.str x) (.str x)
  | tup {a : Addr} {xs : List D} {vs : List V} : H a = some (.tup vs) → Reps m H xs vs → Rep m H (.tup xs) (.ref a)
  | ref {l : Nat} {a : Addr} : m[l]? = some a → Rep m H (.ref l) (.ref a)
inductive Reps (m : List Addr) (H : Hp) : List D → List V → Prop
  | nil : Reps m H [] []
  | cons {d : D} {v : V} {ds : List D} {vs : List V} : Rep m H d v → Reps m H ds vs → Reps m H (d :: ds) (v :: vs)
end
/-- later: places stay, tuples stay -/
structure Gr (m m' : List Addr) (H H' : Hp) : Prop where
  pre : ∀ (l : Nat) (a : Addr), m[l]? = some a → m'[l]? = some a
  tup : ∀ (a : Addr) (xs : List V), H a = some (.tup xs) → H' a = some (.tup xs)
theorem Gr.refl (m : List Addr) (H : Hp) : Gr m m H H := ⟨fun _ _ h => h, fun _ _ h => h⟩
theorem Gr.trans {m m1 m2 : List Addr} {H H1 H2 : Hp} (a : Gr m m1 H H1) (b : Gr m1 m2 H1 H2) : Gr m m2 H H2 :=
  ⟨fun l x h => b.pre l x (a.pre l x h), fun x xs h => b.tup x xs (a.tup x xs h)⟩
mutual
theorem Rep.mono {m m' : List Addr} {H H' : Hp} (g : Gr m m' H H') : ∀ (d : D) (v : V), Rep m H d v → Rep m' H' d v
  | .non, _, h => by cases h; exact .non
  | .bl _, _, h => by cases h; exact .bl _
  | .int _, _, h => by cases h; exact .int _
  | .str _, _, h => by cases h; exact .str _
  | .tup xs, _, h => by
    cases h with
    | tup e r => exact .tup (g.tup _ _ e) (Reps.mono g xs _ r)
  | .ref _, _, h => by
    cases h with
    | ref e => exact .ref (g.pre _ _ e)
theorem Reps.mono {m m' : List Addr} {H H' : Hp} (g : Gr m m' H H') : ∀ (ds : List D) (vs : List V), Reps m H ds vs → Reps m' H' ds vs
  | [], _, h => by cases h; exact .nil
  | d :: ds, _, h => by
    cases h with
    | cons a b => exact .cons (Rep.mono g d _ a) (Reps.mono g ds _ b)
end
section
variable {m : List Addr} {H : Hp}
theorem Reps.length : ∀ {ds : List D} {vs : List V}, Reps m H ds vs → ds.length = vs.length
  | _, _, .nil => rfl
  | _, _, .cons _ t => by rw [List.length_cons, List.length_cons, Reps.length t]
theorem Reps.get : ∀ {ds : List D} {vs : List V} {i : Nat} {d : D}, Reps m H ds vs → ds[i]? = some d → ∃ v, vs[i]? = some v ∧ Rep m H d v
  | _, _, i, d, .nil, e => by simp at e
  | _, _, 0, d, .cons r _, e => by simp at e; subst e; exact ⟨_, rfl, r⟩
  | _, _, i + 1, d, .cons _ t, e => by
    obtain ⟨v, h1, h2⟩ := Reps.get (i := i) t (by simpa using e)
    exact ⟨v, by simpa using h1, h2⟩
theorem Reps.append : ∀ {ds es : List D} {vs us : List V}, Reps m H ds vs → Reps m H es us → Reps m H (ds ++ es) (vs ++ us)
  | _, _, _, _, .nil, s => s
  | _, _, _, _, .cons r t, s => .cons r (Reps.append t s)
theorem Reps.take : ∀ {ds : List D} {vs : List V} (n : Nat), Reps m H ds vs → Reps m H (ds.take n) (vs.take n)
  | _, _, 0, _ => by rw [List.take_zero, List.take_zero]; exact .nil
  | _, _, _ + 1, .nil => by rw [List.take_nil, List.take_nil]; exact .nil
  | _, _, n + 1, .cons r t => by rw [List.take_succ_cons, List.take_succ_cons]; exact .cons r (Reps.take n t)
theorem Reps.drop : ∀ {ds : List D} {vs : List V} (n : Nat), Reps m H ds vs → Reps m H (ds.drop n) (vs.drop n)
  | _, _, 0, r => r
  | _, _, _ + 1, .nil => by rw [List.drop_nil, List.drop_nil]; exact .nil
  | _, _, n + 1, .cons _ t => by rw [List.drop_succ_cons, List.drop_succ_cons]; exact Reps.drop n t
theorem Reps.reverse : ∀ {ds : List D} {vs : List V}, Reps m H ds vs → Reps m H ds.reverse vs.reverse
  | _, _, .nil => .nil
  | _, _, .cons r t => by rw [List.reverse_cons, List.reverse_cons]; exact Reps.append (Reps.reverse t) (.cons r .nil)
theorem Reps.set {d : D} {v : V} (r : Rep m H d v) : ∀ {ds : List D} {vs : List V} (i : Nat), Reps m H ds vs → Reps m H (ds.set i d) (vs.set i v)
  | _, _, _, .nil => .nil
  | _, _, 0, .cons _ t => .cons r t
  | _, _, i + 1, .cons q t => .cons q (Reps.set r i t)
theorem Reps.ints : ∀ (ns : List Int), Reps m H (ns.map D.int) (ns.map V.int)
  | [] => .nil
  | n :: r => .cons (.int n) (Reps.ints r)
end

/-! ### the store -/
/-- a list that is only read: known to the object, or an object of the module -/
def SqF (K : PySem.W.Frag) (H : Hp) (a : Addr) (vs : List V) : Prop :=
  (∃ o, H a = some (.frz o (.lst vs))) ∨
    ∃ (o : Obj) (its : Array Value) (n : Nat), K.lookup a = some o ∧ o.cls = .type "list" ∧ o.dict = none ∧ o.data = .seq its n ∧ its.size ≤ sizeLine ∧ Vals vs its.toList
def ObR (K : PySem.W.Frag) (m : List Addr) (H : Hp) (a : Addr) : Ob → Prop
  | .lst xs => ∃ vs, H a = some (.lst vs) ∧ Reps m H xs vs
  | .frz xs => ∃ vs, SqF K H a vs ∧ Reps m H xs vs
structure SR (K : PySem.W.Frag) (m : List Addr) (S : Store) (H : Hp) : Prop where
  len : m.length = S.length
  ob : ∀ (l : Nat) (o : Ob) (a : Addr), S[l]? = some o → m[l]? = some a → ObR K m H a o
  inj : ∀ (l l' : Nat) (a : Addr) (o o' : Ob), m[l]? = some a → m[l']? = some a → S[l]? = some o → S[l']? = some o' → o.mut = true → o'.mut = true → l = l'
section
variable {K : PySem.W.Frag} {m m' : List Addr} {S : Store} {H H' : Hp} {a : Addr}
theorem SqF.sq {vs : List V} (h : SqF K H a vs) : SqL K H a vs := by
  rcases h with ⟨o, h⟩ | h
  · exact .inl (.inr ⟨o, h⟩)
  · exact .inr h
/-- an address of the store at l -/
theorem SR.at_ (r : SR K m S H) {l : Nat} {o : Ob} (h : S[l]? = some o) : ∃ a, m[l]? = some a ∧ ObR K m H a o := by
  have hl : l < m.length := by rw [r.len]; exact (List.getElem?_eq_some_iff.mp h).1
  exact ⟨m[l], List.getElem?_eq_getElem hl, r.ob l o _ h (List.getElem?_eq_getElem hl)⟩
/-- what a list holds, read -/
def items : Ob → List D
  | .lst xs => xs
  | .frz xs => xs
theorem ObR.sq {o : Ob} (h : ObR K m H a o) : ∃ vs, SqL K H a vs ∧ Reps m H (items o) vs := by
  cases o with
  | lst xs => obtain ⟨vs, e, r⟩ := h; exact ⟨vs, SqL.of e, r⟩
  | frz xs => obtain ⟨vs, e, r⟩ := h; exact ⟨vs, e.sq, r⟩
/-- a fresh address is none of the store's own -/
theorem SR.fresh (r : SR K m S H) {p : Addr} (hp : H p = none) {l : Nat} {o : Ob} (h : S[l]? = some o) (hm : o.mut = true) : m[l]? ≠ some p := fun e => by
  have q := r.ob l o p h e
  cases o with
  | lst xs => obtain ⟨vs, e', _⟩ := q; rw [hp] at e'; cases e'
  | frz xs => exact absurd hm Bool.false_ne_true
theorem Gr.upd_new {o : HO} {p : Addr} (hp : H p = none) : Gr m m H (upd H p o) := ⟨fun _ _ h => h, fun a xs h => by rw [upd_ne (ne_of_none h hp)]; exact h⟩
theorem Gr.push {p : Addr} : Gr m (m ++ [p]) H H := ⟨fun l a h => by rw [List.getElem?_append_left (List.getElem?_eq_some_iff.mp h).1]; exact h, fun _ _ h => h⟩
theorem Gr.push_new {o : HO} {p : Addr} (hp : H p = none) : Gr m (m ++ [p]) H (upd H p o) := Gr.trans (Gr.upd_new hp) Gr.push
theorem ObR.keep {o : Ob} (g : Gr m m' H H') (h : ObR K m H a o) (k : ∀ u, H a = some u → H' a = some u) : ObR K m' H' a o := by
  cases o with
  | lst xs => obtain ⟨vs, e, r⟩ := h; exact ⟨vs, k _ e, Reps.mono g _ _ r⟩
  | frz xs =>
    obtain ⟨vs, e, r⟩ := h
    refine ⟨vs, ?_, Reps.mono g _ _ r⟩
    rcases e with ⟨o, e⟩ | e
    · exact .inl ⟨o, k _ e⟩
    · exact .inr e
/-- nothing of the store is touched by a new thing that is not in it (a tuple) -/
theorem SR.new (r : SR K m S H) {p : Addr} {o : HO} (hp : H p = none) : SR K m S (upd H p o) :=
  ⟨r.len, fun l ob a h e => (r.ob l ob a h e).keep (Gr.upd_new hp) fun u q => by rw [upd_ne (ne_of_none q hp)]; exact q, r.inj⟩
/-- a new list -/
theorem SR.alloc (r : SR K m S H) {p : Addr} {xs : List D} {vs : List V} (hp : H p = none) (hx : Reps m H xs vs) : SR K (m ++ [p]) (S ++ [.lst xs]) (upd H p (.lst vs)) := by
  have g : Gr m (m ++ [p]) H (upd H p (.lst vs)) := Gr.push_new hp
  have hn : (m ++ [p])[S.length]? = some p := by rw [← r.len]; simp
  refine ⟨by simp [r.len], fun l ob a h e => ?_, fun l l' a o o' h1 h2 h3 h4 hm hm' => ?_⟩
  · by_cases hl : l < S.length
    · rw [List.getElem?_append_left hl] at h
      rw [List.getElem?_append_left (by rw [r.len]; exact hl)] at e
      exact (r.ob l ob a h e).keep g fun u q => by rw [upd_ne (ne_of_none q hp)]; exact q
    · have e1 : l = S.length := by
        have := (List.getElem?_eq_some_iff.mp h).1
        simp at this; omega
      subst e1
      rw [hn] at e
      simp at h
      cases e
      subst h
      exact ⟨vs, upd_same, Reps.mono g _ _ hx⟩
  · have key : ∀ {l : Nat} {o : Ob}, (S ++ [Ob.lst xs])[l]? = some o → l < S.length ∧ S[l]? = some o ∨ l = S.length := fun {l o} h => by
      by_cases hl : l < S.length
      · rw [List.getElem?_append_left hl] at h
        exact .inl ⟨hl, h⟩
      · have := (List.getElem?_eq_some_iff.mp h).1
        simp at this
        exact .inr (by omega)
    rcases key h3 with ⟨k1, k2⟩ | k1
    · rw [List.getElem?_append_left (by rw [r.len]; exact k1)] at h1
      rcases key h4 with ⟨k3, k4⟩ | k3
      · rw [List.getElem?_append_left (by rw [r.len]; exact k3)] at h2
        exact r.inj l l' a o o' h1 h2 k2 k4 hm hm'
      · subst k3
        rw [hn] at h2; cases h2
        exact absurd h1 (r.fresh hp k2 hm)
    · subst k1
      rw [hn] at h1; cases h1
      rcases key h4 with ⟨k3, k4⟩ | k3
      · rw [List.getElem?_append_left (by rw [r.len]; exact k3)] at h2
        exact absurd h2 (r.fresh hp k4 hm')
      · exact k3.symm
/-- a list of ours is written -/
theorem Gr.write {p : Addr} {vs vs' : List V} (hp : H p = some (.lst vs)) : Gr m m H (upd H p (.lst vs')) :=
  ⟨fun _ _ h => h, fun a xs h => by rw [upd_ne (ne_of h hp (by intro z; cases z))]; exact h⟩
theorem SR.write (r : SR K m S H) {l : Nat} {p : Addr} {xs xs' : List D} {vs vs' : List V} (hl : S[l]? = some (.lst xs)) (hm : m[l]? = some p) (hp : H p = some (.lst vs)) (hx : Reps m H xs' vs') :
    SR K m (S.set l (.lst xs')) (upd H p (.lst vs')) := by
  have g : Gr m m H (upd H p (.lst vs')) := Gr.write hp
  have hlt : l < S.length := (List.getElem?_eq_some_iff.mp hl).1
  refine ⟨by rw [List.length_set]; exact r.len, fun k ob a h e => ?_, fun k k' a o o' h1 h2 h3 h4 hm1 hm2 => ?_⟩
  · by_cases hk : l = k
    · subst hk
      rw [List.getElem?_set_self hlt] at h
      cases h
      rw [hm] at e; cases e
      exact ⟨vs', upd_same, Reps.mono g _ _ hx⟩
    · rw [List.getElem?_set_ne hk] at h
      have q := r.ob k ob a h e
      cases ob with
      | lst ys =>
        refine q.keep g fun u hu => ?_
        rw [upd_ne (fun z => hk (r.inj l k a _ _ (by rw [z]; exact hm) e hl h rfl rfl))]; exact hu
      | frz ys =>
        obtain ⟨ws, hw, rw'⟩ := q
        refine ⟨ws, ?_, Reps.mono g _ _ rw'⟩
        rcases hw with ⟨o, e'⟩ | e'
        · refine .inl ⟨o, ?_⟩
          rw [upd_ne (ne_of e' hp (by intro z; cases z))]; exact e'
        · exact .inr e'
  · have key : ∀ {j : Nat} {o : Ob}, (S.set l (.lst xs'))[j]? = some o → o.mut = true → ∃ o1, S[j]? = some o1 ∧ o1.mut = true := fun {j o} h hmu => by
      by_cases hj : l = j
      · subst hj; exact ⟨_, hl, rfl⟩
      · rw [List.getElem?_set_ne hj] at h
        exact ⟨o, h, hmu⟩
    obtain ⟨o1, q1, q2⟩ := key h3 hm1
    obtain ⟨o2, q3, q4⟩ := key h4 hm2
    exact r.inj k k' a o1 o2 h1 h2 q1 q3 q2 q4
end
end NL

/-! What an operation answers, and that the machine answers so. -/
namespace NL
open PySem PySem.Spec PyProof.Rows L2
/-! ### what is wanted behind -/
def post {α : Type} (K : PySem.W.Frag) (E : Str → Option Nat → List Addr → Store → Hp → Prop) (m : List Addr) (H : Hp) (r : R α) (F : α → List Addr → Store → Hp → Prop) : Prop :=
  match r with
  | .ok a S => ∀ m' H', Gr m m' H H' → SR K m' S H' → F a m' S H'
  | .exc c d S => ∀ m' H', Gr m m' H H' → SR K m' S H' → E c d m' S H'
  | .stuck => False
def E0x : Str → Option Nat → List Addr → Store → Hp → Prop := fun _ _ _ _ _ => False
section
variable {α β : Type} {K : PySem.W.Frag} {E E' : Str → Option Nat → List Addr → Store → Hp → Prop} {m : List Addr} {H : Hp} {r : R α} {F G : α → List Addr → Store → Hp → Prop}
theorem post_mono (h : post K E m H r F) (k : ∀ a m' S' H', Gr m m' H H' → SR K m' S' H' → F a m' S' H' → G a m' S' H') : post K E m H r G := by
  cases r with
  | ok a S => exact fun m' H' g s => k a m' S H' g s (h m' H' g s)
  | exc c d S => exact h
  | stuck => exact h
theorem post_monoE (h : post K E m H r F) (k : ∀ c d m' S' H', Gr m m' H H' → SR K m' S' H' → E c d m' S' H' → E' c d m' S' H') : post K E' m H r F := by
  cases r with
  | ok a S => exact h
  | exc c d S => exact fun m' H' g s => k c d m' S H' g s (h m' H' g s)
  | stuck => exact h
/-- from a later state on -/
theorem post_later {m1 : List Addr} {H1 : Hp} (g : Gr m m1 H H1) (h : post K E m H r F) : post K E m1 H1 r F := by
  cases r with
  | ok a S => exact fun m' H' g' s => h m' H' (g.trans g') s
  | exc c d S => exact fun m' H' g' s => h m' H' (g.trans g') s
  | stuck => exact h
theorem post_bind {f : α → Store → R β} {F : β → List Addr → Store → Hp → Prop} (h : post K E m H (r.bind f) F) : post K E m H r (fun a m1 S1 H1 => post K E m1 H1 (f a S1) F) := by
  cases r with
  | ok a S => exact fun m' H' g s => post_later g (show post K E m H (f a S) F from h)
  | exc c d S => exact h
  | stuck => exact h
theorem post_now {a : α} {S : Store} (s : SR K m S H) (h : post K E m H (.ok a S) F) : F a m S H := h m H (Gr.refl m H) s
theorem post_gr {a : α} {S : Store} {m' : List Addr} {H' : Hp} (h : post K E m H (.ok a S) F) (g : Gr m m' H H') (s : SR K m' S H') : F a m' S H' := h m' H' g s
end

/-! ### answers -/
def MulOk (i j : Int) : Prop := ∃ a b : Nat, i.natAbs < 2 ^ a ∧ j.natAbs < 2 ^ b ∧ a + b ≤ 130000000
theorem MulOk.ok {i j : Int} (h : MulOk i j) : IntMulOk i j := by
  obtain ⟨a, b, h1, h2, h3⟩ := h
  have bd : ∀ (x : Int) (n : Nat), x.natAbs < 2 ^ n → Builtin.Int.intBits x ≤ n + 1 := fun x n hx => by
    unfold Builtin.Int.intBits
    by_cases hn : n = 0
    · subst hn
      have e : x.natAbs = 0 := by simpa using hx
      split <;> simp_all
    · have l := PySem.Flt.log2_lt_of (Nat.pos_of_ne_zero hn) hx
      split <;> omega
  have e1 := bd i a h1
  have e2 := bd j b h2
  have e : bitsLine = 134217728 := by decide
  unfold IntMulOk
  intro z
  rw [Bool.and_eq_true] at z
  have z2 := z.2
  unfold Builtin.Int.intTooBig at z2
  have z3 := of_decide_eq_true z2
  rw [e] at z3
  omega
inductive Bop where | add | sub | mul | fdiv | mod | pow
inductive Cop where | lt | le | gt | ge | eq | ne | isIn | notIn | is_ | isNot
  deriving DecidableEq
def alloc (o : Ob) : M D := fun S => .ok (.ref S.length) (S ++ [o])
/-- the items of a list -/
def getL (l : Nat) : M (List D) := fun S => match S[l]? with
  | some o => .ok (items o) S
  | none => .stuck
/-- .. of a list of ours -/
def getM (l : Nat) : M (List D) := fun S => match S[l]? with
  | some (.lst xs) => .ok xs S
  | _ => .stuck
open Classical in
noncomputable def binD : Bop → D → D → M D
  | .add, .int i, .int j => pure (.int (i + j))
  | .add, .ref l, .ref k => getM l >>= fun xs => getM k >>= fun ys => if xs.length + ys.length ≤ sizeLine then alloc (.lst (xs ++ ys)) else die
  | .sub, .int i, .int j => pure (.int (i - j))
  | .mul, .int i, .int j => if MulOk i j then pure (.int (i * j)) else die
  | .mul, .ref l, .int n => getM l >>= fun xs => if -(2 ^ 63) ≤ n ∧ n < 2 ^ 63 ∧ xs.length * n.toNat ≤ sizeLine then alloc (.lst (List.replicate n.toNat xs).flatten) else die
  | .fdiv, .int i, .int j => if j ≠ 0 ∧ j.natAbs.log2 < 9000 then pure (.int (i.fdiv j)) else die
  | .mod, .int i, .int j => if j ≠ 0 then pure (.int (i.fmod j)) else die
  | .pow, .int i, .int j => if 0 ≤ j ∧ (Builtin.Int.intBits i : Int) * j ≤ 2 ^ 27 then pure (.int (i ^ j.toNat)) else die
  | _, _, _ => die
def negD : D → M D
  | .int i => pure (.int (-i))
  | _ => die
def notD : D → M D
  | .bl b => pure (.bl (!b))
  | _ => die

def mapO {α β : Type} (f : α → Option β) : List α → Option (List β)
  | [] => some []
  | x :: xs => match f x, mapO f xs with
    | some y, some ys => some (y :: ys)
    | _, _ => none
/-- a value as plain data -/
def pd (S : Store) : Nat → D → Option PyData
  | _, .non => some .none
  | _, .bl b => some (.bool b)
  | _, .int i => some (.int i)
  | _, .str x => if PyData.strOk x = true then some (.str x) else none
  | 0, .tup _ => none
  | 0, .ref _ => none
  | k + 1, .tup xs => (mapO (pd S k) xs).map .tuple
  | k + 1, .ref l => match S[l]? with
    | some o => (mapO (pd S k) (items o)).map .list
    | none => none
def eqD (S : Store) (x y : D) : Option Bool := match pd S 12 x, pd S 12 y with
  | some p, some q => some (PyData.eqv p q)
  | _, _ => none
def ord4 : Cop → Int → Int → Bool
  | .lt, i, j => decide (i < j)
  | .le, i, j => decide (i ≤ j)
  | .gt, i, j => decide (j < i)
  | .ge, i, j => decide (j ≤ i)
  | _, _, _ => false
/-- from the first place at which two lists differ -/
def lexO (o : Cop) (f : D → D → Option Bool) : List D → List D → Option Bool
  | [], [] => some (ord4 o 0 0)
  | [], _ :: _ => some (ord4 o 0 1)
  | _ :: _, [] => some (ord4 o 1 0)
  | x :: xs, y :: ys => match eqD [] x y with
    | some true => lexO o f xs ys
    | some false => f x y
    | none => none
/-- the order of two values -/
def ordD (o : Cop) : Nat → D → D → Option Bool
  | _, .int i, .int j => some (ord4 o i j)
  | k + 1, .tup xs, .tup ys => if ((xs.zip ys).all fun p => match eqD [] p.1 p.2 with
      | some true => true
      | some false => (ordD o k p.1 p.2).isSome
      | none => false) = true then lexO o (ordD o k) xs ys else none
  | _, _, _ => none
def isD : D → D → Option Bool
  | x, .non => some (match x with | .non => true | _ => false)
  | x, .bl b => some (match x with | .bl c => b == c | _ => false)
  | _, _ => none
def inD (S : Store) (x y : D) : Option Bool :=
  match y with
  | .tup ys => (match pd S 12 x, mapO (pd S 12) ys with
    | some p, some qs => some (qs.any fun q => PyData.eqv q p)
    | _, _ => none)
  | .ref l => (match S[l]? with
    | some o => (match pd S 12 x, mapO (pd S 12) (items o) with
      | some p, some qs => some (qs.any fun q => PyData.eqv q p)
      | _, _ => none)
    | none => none)
  | _ => none
def ofB (b : Option Bool) : M D := match b with
  | some b => pure (.bl b)
  | none => die
def cmpD : Cop → D → D → M D
  | .eq, x, y => fun S => ofB (eqD S x y) S
  | .ne, x, y => fun S => ofB ((eqD S x y).map (!·)) S
  | .isIn, x, y => fun S => ofB (inD S x y) S
  | .notIn, x, y => fun S => ofB ((inD S x y).map (!·)) S
  | .is_, x, y => ofB (isD x y)
  | .isNot, x, y => ofB ((isD x y).map (!·))
  | o, x, y => ofB (ordD o 12 x y)
/-- a[i] -/
def ixD : D → D → M D
  | .tup xs, .int i => match atI xs i with | some d => pure d | none => die
  | .ref l, .int i => getL l >>= fun xs => match atI xs i with | some d => pure d | none => die
  | _, _ => die
/-- the truth of a value -/
def truD : D → M Bool
  | .bl b => pure b
  | _ => die
end NL

namespace NL
open PySem PySem.Spec PyProof.Rows L2
/-! ### the machine answers so: operators -/
def Bop.op : Bop → Operator
  | .add => .Add | .sub => .Sub | .mul => .Mult | .fdiv => .FloorDiv | .mod => .Mod | .pow => .Pow
def Cop.op : Cop → CmpOp
  | .lt => .Lt | .le => .LtE | .gt => .Gt | .ge => .GtE | .eq => .Eq | .ne => .NotEq | .isIn => .In | .notIn => .NotIn | .is_ => .Is | .isNot => .IsNot
/-- a reading of two values by what they are in the store -/
def rD (K : PySem.W.Frag) (g : D → D → M D) : R2 := fun v u H Q => ∃ Ex m S x y, SR K m S H ∧ Rep m H x v ∧ Rep m H y u ∧ post K Ex m H (g x y S) (fun d m' _ H' => ∀ w, Rep m' H' d w → Q w H')
theorem OpR.imp {X : Cx} {f : Value → Value → Sem Value} {r r' : R2} (h : OpR X f r) (k : ∀ x y H Q, r' x y H Q → r x y H Q) : OpR X f r' := fun pins s σ H x y v u Q I rx ry q => h pins s σ H x y v u Q I rx ry (k _ _ _ _ q)
theorem OpR.or {X : Cx} {f : Value → Value → Sem Value} {r r' : R2} (h : OpR X f r) (h' : OpR X f r') : OpR X f (fun x y H Q => r x y H Q ∨ r' x y H Q) := fun pins s σ H x y v u Q I rx ry q =>
  q.elim (h pins s σ H x y v u Q I rx ry) (h' pins s σ H x y v u Q I rx ry)
section
variable {K : PySem.W.Frag} {m : List Addr} {S : Store} {H : Hp} {Q : VK}
/-- behind a pure answer -/
theorem post_val {E : Str → Option Nat → List Addr → Store → Hp → Prop} {d : D} {w : V} (s : SR K m S H) (h : post K E m H (.ok d S) (fun d m' _ H' => ∀ w, Rep m' H' d w → Q w H')) (r : Rep m H d w) : Q w H := post_now s h w r
theorem post_alloc {E : Str → Option Nat → List Addr → Store → Hp → Prop} {xs : List D} {vs : List V} (s : SR K m S H) (h : post K E m H (alloc (.lst xs) S) (fun d m' _ H' => ∀ w, Rep m' H' d w → Q w H')) (r : Reps m H xs vs) : ∀ p, H p = none → Q (.ref p) (upd H p (.lst vs)) := fun p hp => by
  refine post_gr h (m' := m ++ [p]) (Gr.push_new hp) (s.alloc hp r) _ (.ref ?_)
  rw [← s.len]; simp
theorem getM_bind {α : Type} {E : Str → Option Nat → List Addr → Store → Hp → Prop} {l : Nat} {f : List D → M α} {F : α → List Addr → Store → Hp → Prop} (h : post K E m H ((getM l >>= f) S) F) : ∃ xs, S[l]? = some (.lst xs) ∧ post K E m H (f xs S) F := by
  rw [bind_eq] at h
  unfold getM at h
  cases e : S[l]? with
  | none => rw [e] at h; exact h.elim
  | some o =>
    rw [e] at h
    cases o with
    | lst xs => exact ⟨xs, rfl, h⟩
    | frz xs => exact h.elim
theorem getL_bind {α : Type} {E : Str → Option Nat → List Addr → Store → Hp → Prop} {l : Nat} {f : List D → M α} {F : α → List Addr → Store → Hp → Prop} (h : post K E m H ((getL l >>= f) S) F) : ∃ o, S[l]? = some o ∧ post K E m H (f (items o) S) F := by
  rw [bind_eq] at h
  unfold getL at h
  cases e : S[l]? with
  | none => rw [e] at h; exact h.elim
  | some o =>
    rw [e] at h
    exact ⟨o, rfl, h⟩
theorem post_ite {α : Type} {E : Str → Option Nat → List Addr → Store → Hp → Prop} {c : Prop} {_ : Decidable c} {f : M α} {F : α → List Addr → Store → Hp → Prop} (h : post K E m H ((if c then f else die) S) F) : c ∧ post K E m H (f S) F := by
  by_cases hc : c
  · rw [if_pos hc] at h; exact ⟨hc, h⟩
  · rw [if_neg hc] at h; exact h.elim
/-- the address of a list of ours -/
theorem SR.lst_at (s : SR K m S H) {l : Nat} {a : Addr} {xs : List D} (h : S[l]? = some (.lst xs)) (e : m[l]? = some a) : ∃ vs, H a = some (.lst vs) ∧ Reps m H xs vs := s.ob l _ a h e
theorem SR.sq_at (s : SR K m S H) {l : Nat} {a : Addr} {o : Ob} (h : S[l]? = some o) (e : m[l]? = some a) : ∃ vs, SqL K H a vs ∧ Reps m H (items o) vs := (s.ob l _ a h e).sq
end
section
variable {X : Cx}
theorem op_mulX' : OpR X (binaryOp .Mult) (rI MulOk fun i j => .int (i * j)) := opI fun _ _ _ _ _ _ _ hc q => mul_int q hc.ok
theorem op_fdivX : OpR X (binaryOp .FloorDiv) (rI (fun _ j => j ≠ 0 ∧ j.natAbs.log2 < 9000) fun i j => .int (i.fdiv j)) := opI fun _ _ _ _ _ _ _ hc q => floordiv_int hc.1 q (.inl (PyProof.noPylong_of_log2 hc.2))
theorem op_powX : OpR X (binaryOp .Pow) (rI (fun i j => 0 ≤ j ∧ (Builtin.Int.intBits i : Int) * j ≤ 2 ^ 27) fun i j => .int (i ^ j.toNat)) := opI fun _ _ _ _ _ _ _ hc q => PyProof.Rows.pow_int hc.1 hc.2 q
theorem op_binD : ∀ (o : Bop), OpR X (binaryOp o.op) (rD X.K (binD o))
  | .add => by
    refine OpR.imp (OpR.or op_add op_cat) ?_
    intro v u H Q h
    obtain ⟨Ex, m, S, x, y, s, rx, ry, h⟩ := h
    cases rx <;> cases ry <;> try exact (show False from h).elim
    · exact .inl ⟨_, _, rfl, rfl, post_val s h (.int _)⟩
    · rename_i ea _ _ eb
      obtain ⟨xs, e1, h⟩ := getM_bind h
      obtain ⟨ys, e2, h⟩ := getM_bind h
      obtain ⟨hc, h⟩ := post_ite h
      obtain ⟨vs, h1, r1⟩ := s.lst_at e1 ea
      obtain ⟨us, h2, r2⟩ := s.lst_at e2 eb
      exact .inr ⟨_, _, vs, us, rfl, rfl, h1, h2, by rw [← r1.length, ← r2.length]; exact hc, post_alloc s h (r1.append r2)⟩
  | .sub => by
    refine OpR.imp op_sub ?_
    intro v u H Q h
    obtain ⟨Ex, m, S, x, y, s, rx, ry, h⟩ := h
    cases rx <;> cases ry <;> try exact (show False from h).elim
    exact ⟨_, _, rfl, rfl, post_val s h (.int _)⟩
  | .mul => by
    refine OpR.imp (OpR.or op_mulX' op_rep) ?_
    intro v u H Q h
    obtain ⟨Ex, m, S, x, y, s, rx, ry, h⟩ := h
    cases rx <;> cases ry <;> try exact (show False from h).elim
    · obtain ⟨hc, h⟩ := post_ite h
      exact .inl ⟨_, _, rfl, rfl, hc, post_val s h (.int _)⟩
    · rename_i ea n
      obtain ⟨xs, e1, h⟩ := getM_bind h
      obtain ⟨⟨c1, c2, c3⟩, h⟩ := post_ite h
      obtain ⟨vs, h1, r1⟩ := s.lst_at e1 ea
      refine .inr ⟨_, _, vs, rfl, rfl, h1, c1, c2, by rw [← r1.length]; exact c3, post_alloc s h ?_⟩
      generalize n.toNat = k
      induction k with
      | zero => exact .nil
      | succ k ih =>
        rw [List.replicate_succ, List.replicate_succ, List.flatten_cons, List.flatten_cons]
        exact r1.append ih
  | .fdiv => by
    refine OpR.imp op_fdivX ?_
    intro v u H Q h
    obtain ⟨Ex, m, S, x, y, s, rx, ry, h⟩ := h
    cases rx <;> cases ry <;> try exact (show False from h).elim
    obtain ⟨hc, h⟩ := post_ite h
    exact ⟨_, _, rfl, rfl, hc, post_val s h (.int _)⟩
  | .mod => by
    refine OpR.imp op_modN ?_
    intro v u H Q h
    obtain ⟨Ex, m, S, x, y, s, rx, ry, h⟩ := h
    cases rx <;> cases ry <;> try exact (show False from h).elim
    obtain ⟨hc, h⟩ := post_ite h
    exact ⟨_, _, rfl, rfl, hc, post_val s h (.int _)⟩
  | .pow => by
    refine OpR.imp op_powX ?_
    intro v u H Q h
    obtain ⟨Ex, m, S, x, y, s, rx, ry, h⟩ := h
    cases rx <;> cases ry <;> try exact (show False from h).elim
    obtain ⟨hc, h⟩ := post_ite h
    exact ⟨_, _, rfl, rfl, hc, post_val s h (.int _)⟩

/-! ### data -/
theorem mapO_get {α β : Type} {f : α → Option β} : ∀ {xs : List α} {ys : List β}, mapO f xs = some ys → ys.length = xs.length ∧ ∀ (i : Nat) (x : α), xs[i]? = some x → ∃ y, ys[i]? = some y ∧ f x = some y
  | [], ys, h => by
    unfold mapO at h
    cases h
    exact ⟨rfl, fun i x e => by simp at e⟩
  | x :: xs, ys, h => by
    unfold mapO at h
    cases e1 : f x with
    | none => rw [e1] at h; cases h
    | some y =>
      cases e2 : mapO f xs with
      | none => rw [e1, e2] at h; cases h
      | some ys' =>
        rw [e1, e2] at h
        cases h
        obtain ⟨l, g⟩ := mapO_get e2
        refine ⟨by simp [l], fun i z e => ?_⟩
        cases i with
        | zero => simp at e; subst e; exact ⟨y, rfl, e1⟩
        | succ i => simp at e; obtain ⟨w, w1, w2⟩ := g i z e; exact ⟨w, by simpa using w1, w2⟩
section
variable {K : PySem.W.Frag} {m : List Addr} {S : Store} {H : Hp}
theorem dpAll_of {f : D → Option PyData} (ih : ∀ (d : D) (v : V) (p : PyData), Rep m H d v → f d = some p → Dp K H v p) : ∀ {ds : List D} {vs : List V} {ps : List PyData}, Reps m H ds vs → mapO f ds = some ps → DpAll K H vs ps
  | [], _, _, r, h => by
    cases r
    unfold mapO at h
    cases h
    exact .nil
  | d :: ds, _, _, r, h => by
    cases r with
    | cons r1 r2 =>
      unfold mapO at h
      cases e1 : f d with
      | none => rw [e1] at h; cases h
      | some y =>
        cases e2 : mapO f ds with
        | none => rw [e1, e2] at h; cases h
        | some ys' =>
          rw [e1, e2] at h
          cases h
          exact .cons (ih d _ y r1 e1) (dpAll_of ih r2 e2)
theorem dp_of (s : SR K m S H) : ∀ (k : Nat) (d : D) (v : V) (p : PyData), Rep m H d v → pd S k d = some p → Dp K H v p
  | 0, d, v, p, r, h => by
    cases r <;> unfold pd at h
    · cases h; exact .non
    · cases h; exact .bl _
    · cases h; exact .int _
    · split at h
      · cases h; exact .str _
      · cases h
    · cases h
    · cases h
  | k + 1, d, v, p, r, h => by
    cases r with
    | non => unfold pd at h; cases h; exact .non
    | bl b => unfold pd at h; cases h; exact .bl _
    | int i => unfold pd at h; cases h; exact .int _
    | str x =>
      unfold pd at h
      split at h
      · cases h; exact .str _
      · cases h
    | tup e rs =>
      rename_i a xs vs
      unfold pd at h
      cases e1 : mapO (pd S k) xs with
      | none => rw [e1] at h; cases h
      | some ps =>
        rw [e1] at h
        cases h
        exact .tup (SqT.of e) (dpAll_of (dp_of s k) rs e1)
    | ref e =>
      rename_i l a
      unfold pd at h
      cases e0 : S[l]? with
      | none => rw [e0] at h; cases h
      | some o =>
        rw [e0] at h
        dsimp only at h
        cases e1 : mapO (pd S k) (items o) with
        | none => rw [e1] at h; cases h
        | some ps =>
          rw [e1] at h
          cases h
          obtain ⟨vs, q, rs⟩ := s.sq_at e0 e
          exact .lst q (dpAll_of (dp_of s k) rs e1)
end
theorem canAll_of {f : D → Option PyData} {n : Nat} (ih : ∀ (d : D) (p : PyData), f d = some p → p.canLay0 = true ∧ p.depth ≤ n) : ∀ {ds : List D} {ps : List PyData}, mapO f ds = some ps → PyData.canLayAll0 ps = true ∧ PyData.depthAll ps ≤ n
  | [], _, h => by
    unfold mapO at h
    cases h
    exact ⟨by simp [PyData.canLayAll0], by simp [PyData.depthAll]⟩
  | d :: ds, _, h => by
    unfold mapO at h
    cases e1 : f d with
    | none => rw [e1] at h; cases h
    | some y =>
      cases e2 : mapO f ds with
      | none => rw [e1, e2] at h; cases h
      | some ys' =>
        rw [e1, e2] at h
        cases h
        obtain ⟨h1, h2⟩ := canAll_of ih e2
        obtain ⟨h3, h4⟩ := ih d y e1
        refine ⟨by simp [PyData.canLayAll0, h1, h3], ?_⟩
        simp only [PyData.depthAll]
        omega
theorem pd_shape {S : Store} : ∀ (k : Nat) (d : D) (p : PyData), pd S k d = some p → p.canLay0 = true ∧ p.depth ≤ k
  | 0, d, p, h => by
    cases d <;> unfold pd at h <;> first
      | (cases h; exact ⟨by simp [PyData.canLay0], by simp [PyData.depth]⟩)
      | (split at h <;> cases h; exact ⟨by simp only [PyData.canLay0]; assumption, by simp [PyData.depth]⟩)
      | cases h
  | k + 1, d, p, h => by
    cases d with
    | non => unfold pd at h; cases h; exact ⟨by simp [PyData.canLay0], by simp [PyData.depth]⟩
    | bl b => unfold pd at h; cases h; exact ⟨by simp [PyData.canLay0], by simp [PyData.depth]⟩
    | int i => unfold pd at h; cases h; exact ⟨by simp [PyData.canLay0], by simp [PyData.depth]⟩
    | str x =>
      unfold pd at h
      split at h
      · cases h; exact ⟨by simp only [PyData.canLay0]; assumption, by simp [PyData.depth]⟩
      · cases h
    | tup xs =>
      unfold pd at h
      cases e1 : mapO (pd S k) xs with
      | none => rw [e1] at h; cases h
      | some ps =>
        rw [e1] at h
        cases h
        obtain ⟨h1, h2⟩ := canAll_of (pd_shape k) e1
        exact ⟨by simp only [PyData.canLay0]; exact h1, by simp only [PyData.depth]; omega⟩
    | ref l =>
      unfold pd at h
      cases e0 : S[l]? with
      | none => rw [e0] at h; cases h
      | some o =>
        rw [e0] at h
        dsimp only at h
        cases e1 : mapO (pd S k) (items o) with
        | none => rw [e1] at h; cases h
        | some ps =>
          rw [e1] at h
          cases h
          obtain ⟨h1, h2⟩ := canAll_of (pd_shape k) e1
          exact ⟨by simp only [PyData.canLay0]; exact h1, by simp only [PyData.depth]; omega⟩
theorem pd_shaped {S : Store} {k : Nat} {d : D} {p : PyData} (h : pd S k d = some p) (hk : k ≤ 64) : SeqAt.shaped p = true := by
  obtain ⟨h1, h2⟩ := pd_shape k d p h
  show (p.canLay0 && decide (p.depth ≤ 64)) = true
  rw [Bool.and_eq_true]
  exact ⟨h1, decide_eq_true (by omega)⟩
end
end NL

namespace NL
open PySem PySem.Spec PyProof.Rows L2
/-! ### comparisons -/
theorem mapO_mono {α β : Type} {f g : α → Option β} (h : ∀ x y, f x = some y → g x = some y) : ∀ {xs : List α} {ys : List β}, mapO f xs = some ys → mapO g xs = some ys
  | [], _, e => e
  | x :: xs, _, e => by
    unfold mapO at e ⊢
    cases e1 : f x with
    | none => rw [e1] at e; cases e
    | some y =>
      cases e2 : mapO f xs with
      | none => rw [e1, e2] at e; cases e
      | some ys' =>
        rw [e1, e2] at e
        rw [h _ _ e1, mapO_mono h e2]
        exact e
theorem pd_nil {S : Store} : ∀ (k : Nat) (d : D) (p : PyData), pd [] k d = some p → pd S k d = some p
  | 0, d, p, h => by cases d <;> first | exact h | (unfold pd at h; cases h)
  | k + 1, d, p, h => by
    cases d with
    | tup xs =>
      unfold pd at h ⊢
      cases e : mapO (pd [] k) xs with
      | none => rw [e] at h; cases h
      | some ps => rw [e] at h; rw [mapO_mono (pd_nil k) e]; exact h
    | ref l => unfold pd at h; simp at h
    | non => exact h
    | bl b => exact h
    | int i => exact h
    | str x => exact h
section
variable {X : Cx} {pins : List (Addr × Obj)} {σ : L2.St} {H : Hp} {s : Shared} {m : List Addr} {S : Store}
theorem eq_at (I : Inv X pins σ H s) (sr : SR X.K m S H) {k : Nat} {x y : D} {p q : PyData} {v w : V} {u u' : Value} (hx : pd S k x = some p) (hy : pd S k y = some q) (rx : Rep m H x v) (ry : Rep m H y w) (rv : RelV v u) (rw' : RelV w u')
    (A : Around) (hu : A.units + k < cLine) : PySem.SeqAt.EqAt A s u u' (PyData.eqv p q) := by
  obtain ⟨as, r1⟩ := Dp.reads I p v u (dp_of sr k x v p rx hx) rv
  obtain ⟨bs, r2⟩ := Dp.reads I q w u' (dp_of sr k y w q ry hy) rw'
  obtain ⟨c1, d1⟩ := pd_shape k x p hx
  obtain ⟨c2, d2⟩ := pd_shape k y q hy
  exact SeqAt.eqAt_reads p q A s u u' as bs r1 r2 c1 c2 (by have : min p.depth q.depth ≤ k := Nat.le_trans (Nat.min_le_left _ _) d1; omega)
theorem lex_at {o : Cop} (ho : o = .lt ∨ o = .le ∨ o = .gt ∨ o = .ge) {f : D → D → Option Bool} : ∀ (xs ys : List D) (i : Nat) (e r : Nat → Bool) (b : Bool), lexO o f xs ys = some b →
    (∀ j x y, xs[j]? = some x → ys[j]? = some y → eqD [] x y = some (e (i + j))) → (∀ j x y, xs[j]? = some x → ys[j]? = some y → e (i + j) = false → f x y = some (r (i + j))) →
    b = Ob.lexAt e r (ord4 o xs.length ys.length) i (min xs.length ys.length)
  | [], [], i, e, r, b, h, _, _ => by
    unfold lexO at h
    cases h
    rfl
  | [], y :: ys, i, e, r, b, h, _, _ => by
    unfold lexO at h
    cases h
    rw [List.length_nil, Nat.zero_min, Ob.lexAt_zero]
    rcases ho with rfl | rfl | rfl | rfl <;> simp [ord4] <;> omega
  | x :: xs, [], i, e, r, b, h, _, _ => by
    unfold lexO at h
    cases h
    rw [List.length_nil, Nat.min_zero, Ob.lexAt_zero]
    rcases ho with rfl | rfl | rfl | rfl <;> simp [ord4] <;> omega
  | x :: xs, y :: ys, i, e, r, b, h, he, hr => by
    have e0 := he 0 x y rfl rfl
    rw [Nat.add_zero] at e0
    have hm : min (x :: xs).length (y :: ys).length = min xs.length ys.length + 1 := by simp only [List.length_cons]; omega
    rw [hm, Ob.lexAt_succ]
    unfold lexO at h
    rw [e0] at h
    have hl : ord4 o ((x :: xs).length : Nat) ((y :: ys).length : Nat) = ord4 o (xs.length : Nat) (ys.length : Nat) := by
      rcases ho with rfl | rfl | rfl | rfl <;> simp only [ord4, List.length_cons] <;> congr 1 <;> simp
    cases q : e i with
    | true =>
      rw [q] at h
      rw [if_pos rfl, hl]
      exact lex_at ho xs ys (i + 1) e r b h (fun j x' y' h1 h2 => by rw [show i + 1 + j = i + (j + 1) by omega]; exact he (j + 1) x' y' h1 h2) (fun j x' y' h1 h2 => by rw [show i + 1 + j = i + (j + 1) by omega]; exact hr (j + 1) x' y' h1 h2)
    | false =>
      rw [q] at h
      rw [if_neg Bool.false_ne_true]
      have z := hr 0 x y rfl rfl (by rw [Nat.add_zero]; exact q)
      rw [Nat.add_zero] at z
      rw [z] at h
      exact (Option.some.inj h).symm
theorem ordD_cases {o : Cop} {k : Nat} {x y : D} {b : Bool} (h : ordD o k x y = some b) : (∃ i j, x = .int i ∧ y = .int j ∧ b = ord4 o i j) ∨ ∃ k' xs ys, k = k' + 1 ∧ x = .tup xs ∧ y = .tup ys ∧
    ((xs.zip ys).all fun p => match eqD [] p.1 p.2 with | some true => true | some false => (ordD o k' p.1 p.2).isSome | none => false) = true ∧ lexO o (ordD o k') xs ys = some b := by
  cases k with
  | zero =>
    cases x <;> cases y <;> simp only [ordD] at h <;> try cases h
    exact .inl ⟨_, _, rfl, rfl, rfl⟩
  | succ k =>
    cases x <;> cases y <;> simp only [ordD] at h <;> try cases h
    · exact .inl ⟨_, _, rfl, rfl, rfl⟩
    · split at h
      · rename_i hall
        exact .inr ⟨_, _, _, rfl, rfl, rfl, hall, h⟩
      · cases h
theorem ord_rc (I : Inv X pins σ H s) (sr : SR X.K m S H) {o : Cop} (ho : o = .lt ∨ o = .le ∨ o = .gt ∨ o = .ge) : ∀ (k : Nat) (x y : D) (b : Bool) (v w : V) (u u' : Value) (A : Around), ordD o k x y = some b → Rep m H x v → Rep m H y w → RelV v u → RelV w u' →
    A.units + k + 14 < cLine → Ob.RcOp o.op A s u u' b := by
  intro k
  induction k with
  | zero =>
    intro x y b v w u u' A h rx ry rv rw' hu
    rcases ordD_cases h with ⟨i, j, rfl, rfl, rfl⟩ | ⟨k', xs, ys, e, _⟩
    · cases rx
      cases ry
      obtain ⟨t, rfl⟩ := rv
      obtain ⟨t', rfl⟩ := rw'
      rcases ho with rfl | rfl | rfl | rfl
      · exact Ob.RcOp.lt_int _ _ _ _
      · exact Ob.RcOp.le_int _ _ _ _
      · exact Ob.RcOp.gt_int _ _ _ _
      · exact Ob.RcOp.ge_int _ _ _ _
    · cases e
  | succ k ih =>
    intro x y b v w u u' A h rx ry rv rw' hu
    rcases ordD_cases h with ⟨i, j, rfl, rfl, rfl⟩ | ⟨k', xs, ys, e, rfl, rfl, hall, h⟩
    · cases rx
      cases ry
      obtain ⟨t, rfl⟩ := rv
      obtain ⟨t', rfl⟩ := rw'
      rcases ho with rfl | rfl | rfl | rfl
      · exact Ob.RcOp.lt_int _ _ _ _
      · exact Ob.RcOp.le_int _ _ _ _
      · exact Ob.RcOp.gt_int _ _ _ _
      · exact Ob.RcOp.ge_int _ _ _ _
    · cases e
      cases rx with
      | tup ea ra =>
        cases ry with
        | tup eb rb =>
          cases rv
          cases rw'
          obtain ⟨its, r1, p1, z1⟩ := I.tuple (SqT.of ea)
          obtain ⟨its2, r2, p2, z2⟩ := I.tuple (SqT.of eb)
          rw [List.all_eq_true] at hall
          have hp : ∀ (j : Nat) (x y : D), xs[j]? = some x → ys[j]? = some y → ∃ c, eqD [] x y = some c ∧ (c = false → (ordD o k x y).isSome = true) := fun j x y h1 h2 => by
            have hm : (x, y) ∈ xs.zip ys := List.mem_of_getElem? (i := j) (by rw [List.getElem?_zip_eq_some]; exact ⟨h1, h2⟩)
            have q := hall _ hm
            dsimp only at q
            cases e : eqD [] x y with
            | none => rw [e] at q; cases q
            | some c =>
              refine ⟨c, rfl, fun hc => ?_⟩
              subst hc
              rw [e] at q
              exact q
          have e : ∃ e : Nat → Bool, ∀ (j : Nat) (x y : D), xs[j]? = some x → ys[j]? = some y → eqD [] x y = some (e j) := ⟨fun j => match xs[j]?, ys[j]? with | some x, some y => (eqD [] x y).getD false | _, _ => false, fun j x y h1 h2 => by
            obtain ⟨c, hc, _⟩ := hp j x y h1 h2
            dsimp only
            rw [h1, h2]
            dsimp only
            rw [hc]; rfl⟩
          obtain ⟨e, he⟩ := e
          have r : ∃ r : Nat → Bool, ∀ (j : Nat) (x y : D), xs[j]? = some x → ys[j]? = some y → e j = false → ordD o k x y = some (r j) := ⟨fun j => match xs[j]?, ys[j]? with | some x, some y => (ordD o k x y).getD false | _, _ => false, fun j x y h1 h2 h3 => by
            obtain ⟨c, hc, hs⟩ := hp j x y h1 h2
            have := he j x y h1 h2
            rw [hc] at this
            cases this
            obtain ⟨d, hd⟩ := Option.isSome_iff_exists.mp (hs h3)
            dsimp only
            rw [h1, h2]
            dsimp only
            rw [hd]; rfl⟩
          obtain ⟨r, hr⟩ := r
          have hb := lex_at ho xs ys 0 e r b h (fun j x y h1 h2 => by rw [Nat.zero_add]; exact he j x y h1 h2) (fun j x y h1 h2 h3 => by rw [Nat.zero_add] at h3 ⊢; exact hr j x y h1 h2 h3)
          have n1 : its.toArray.size = xs.length := by rw [List.size_toArray, ← r1.length, ra.length]
          have n2 : its2.toArray.size = ys.length := by rw [List.size_toArray, ← r2.length, rb.length]
          have at1 : ∀ (j : Nat) (hj : j < its.toArray.size), ∃ x v, xs[j]? = some x ∧ Rep m H x v ∧ RelV v its.toArray[j] := fun j hj => by
            have hj' : j < xs.length := by omega
            obtain ⟨v, h1, h2⟩ := ra.get (List.getElem?_eq_getElem hj')
            obtain ⟨u, h3, h4⟩ := r1.get h1
            refine ⟨_, v, List.getElem?_eq_getElem hj', h2, ?_⟩
            have : its.toArray[j] = u := by
              have hl : j < its.length := by simpa using hj
              rw [List.getElem?_eq_getElem hl] at h3
              simpa using Option.some.inj h3
            rw [this]; exact h4
          have at2 : ∀ (j : Nat) (hj : j < its2.toArray.size), ∃ x v, ys[j]? = some x ∧ Rep m H x v ∧ RelV v its2.toArray[j] := fun j hj => by
            have hj' : j < ys.length := by omega
            obtain ⟨v, h1, h2⟩ := rb.get (List.getElem?_eq_getElem hj')
            obtain ⟨u, h3, h4⟩ := r2.get h1
            refine ⟨_, v, List.getElem?_eq_getElem hj', h2, ?_⟩
            have : its2.toArray[j] = u := by
              have hl : j < its2.length := by simpa using hj
              rw [List.getElem?_eq_getElem hl] at h3
              simpa using Option.some.inj h3
            rw [this]; exact h4
          have HE : ∀ j (h1 : j < its.toArray.size) (h2 : j < its2.toArray.size), PySem.SeqAt.EqAt A.in1 s its.toArray[j] its2.toArray[j] (e j) := fun j h1 h2 => by
            obtain ⟨x, v, q1, q2, q3⟩ := at1 j h1
            obtain ⟨y, w, q4, q5, q6⟩ := at2 j h2
            have q := he j x y q1 q4
            unfold eqD at q
            cases c1 : pd [] 12 x with
            | none => rw [c1] at q; cases q
            | some p =>
              cases c2 : pd [] 12 y with
              | none => rw [c1, c2] at q; cases q
              | some p' =>
                rw [c1, c2] at q
                have q' := Option.some.inj q
                rw [← q']
                exact eq_at I sr (pd_nil 12 x p c1) (pd_nil 12 y p' c2) q2 q5 q3 q6 A.in1 (by show A.units + 1 + 12 < cLine; omega)
          have HR : ∀ j (h1 : j < its.toArray.size) (h2 : j < its2.toArray.size), e j = false → Ob.RcOp o.op A.in1 s its.toArray[j] its2.toArray[j] (r j) := fun j h1 h2 h3 => by
            obtain ⟨x, v, q1, q2, q3⟩ := at1 j h1
            obtain ⟨y, w, q4, q5, q6⟩ := at2 j h2
            exact ih x y (r j) v w _ _ A.in1 (hr j x y q1 q4 h3) q2 q5 q3 q6 (by show A.units + 1 + k + 14 < cLine; omega)
          rw [hb]
          rcases ho with rfl | rfl | rfl | rfl
          · have z := Ob.RcOp.tuples_lt p1 p2 (by omega) HE HR
            rw [n1, n2] at z
            have e2 : ord4 .lt (xs.length : Nat) (ys.length : Nat) = decide (xs.length < ys.length) := by simp [ord4]
            rw [e2]; exact z
          · have z := Ob.RcOp.tuples_le p1 p2 (by omega) HE HR
            rw [n1, n2] at z
            have e2 : ord4 .le (xs.length : Nat) (ys.length : Nat) = decide (xs.length ≤ ys.length) := by simp [ord4]
            rw [e2]; exact z
          · have z := Ob.RcOp.tuples_gt p1 p2 (by omega) HE HR
            rw [n1, n2] at z
            have e2 : ord4 .gt (xs.length : Nat) (ys.length : Nat) = decide (xs.length > ys.length) := by simp [ord4]
            rw [e2]; exact z
          · have z := Ob.RcOp.tuples_ge p1 p2 (by omega) HE HR
            rw [n1, n2] at z
            have e2 : ord4 .ge (xs.length : Nat) (ys.length : Nat) = decide (xs.length ≥ ys.length) := by simp [ord4]
            rw [e2]; exact z
end
end NL

namespace NL
open PySem PySem.Spec PyProof.Rows L2
section
variable {X : Cx}
theorem ofB_some {Ex : Str → Option Nat → List Addr → Store → Hp → Prop} {K : PySem.W.Frag} {m : List Addr} {S : Store} {H : Hp} {b : Option Bool} {F : D → List Addr → Store → Hp → Prop} (h : post K Ex m H (ofB b S) F) : ∃ c, b = some c ∧ post K Ex m H (.ok (.bl c) S) F := by
  cases b with
  | none => exact h.elim
  | some c => exact ⟨c, rfl, h⟩
theorem op_ordD (hu : X.A.units + 26 < cLine) {o : Cop} (ho : o = .lt ∨ o = .le ∨ o = .gt ∨ o = .ge) : OpR X (compareOp o.op) (rD X.K (cmpD o)) := by
  intro pins s σ H v w u u' Q I rv rw' h
  obtain ⟨Ex, m, S, x, y, sr, rx, ry, h⟩ := h
  have h : post X.K Ex m H (ofB (ordD o 12 x y) S) (fun d m' _ H' => ∀ w, Rep m' H' d w → Q w H') := by
    rcases ho with rfl | rfl | rfl | rfl <;> exact h
  obtain ⟨c, e, h⟩ := ofB_some h
  have R := ord_rc I sr ho 12 x y c v w u u' X.A e rx ry rv rw' hu
  have z : wpAny (model X.prog X.w) X.A (richCompare o.op u u') (EP X pins σ Q) X.xe s := R X.prog X.w X.xe (EP X pins σ Q) ⟨.bl c, H, I, rfl, post_val sr h (.bl c)⟩
  rcases ho with rfl | rfl | rfl | rfl <;> exact z
theorem eqD_some {S : Store} {x y : D} {b : Bool} (h : eqD S x y = some b) : ∃ p q, pd S 12 x = some p ∧ pd S 12 y = some q ∧ b = PyData.eqv p q := by
  unfold eqD at h
  cases c1 : pd S 12 x with
  | none => rw [c1] at h; cases h
  | some p =>
    cases c2 : pd S 12 y with
    | none => rw [c1, c2] at h; cases h
    | some q => rw [c1, c2] at h; exact ⟨p, q, rfl, rfl, (Option.some.inj h).symm⟩
theorem op_eqX (hu : X.A.units + 64 < cLine) : OpR X (compareOp .Eq) (rD X.K (cmpD .eq)) := by
  refine OpR.imp (op_eqD hu) ?_
  intro v u H Q h
  obtain ⟨Ex, m, S, x, y, s, rx, ry, h⟩ := h
  obtain ⟨c, e, hp⟩ := ofB_some h
  obtain ⟨p, q, h1, h2, rfl⟩ := eqD_some e
  exact ⟨p, q, dp_of s 12 x v p rx h1, dp_of s 12 y u q ry h2, pd_shaped h1 (by decide), pd_shaped h2 (by decide), post_val s hp (.bl _)⟩
theorem op_neX (hu : X.A.units + 64 < cLine) : OpR X (compareOp .NotEq) (rD X.K (cmpD .ne)) := by
  refine OpR.imp (op_neD hu) ?_
  intro v u H Q h
  obtain ⟨Ex, m, S, x, y, s, rx, ry, h⟩ := h
  obtain ⟨c, e, hp⟩ := ofB_some h
  obtain ⟨b, e', rfl⟩ := Option.map_eq_some_iff.mp e
  obtain ⟨p, q, h1, h2, rfl⟩ := eqD_some e'
  exact ⟨p, q, dp_of s 12 x v p rx h1, dp_of s 12 y u q ry h2, pd_shaped h1 (by decide), pd_shaped h2 (by decide), post_val s hp (.bl _)⟩
theorem all_shape {S : Store} {ds : List D} {ps : List PyData} (h : mapO (pd S 12) ds = some ps) : PyData.canLayAll0 ps = true ∧ PyData.depthAll ps ≤ 12 := canAll_of (pd_shape 12) h
/-- x in a tuple -/
theorem op_in_tup (hu : X.A.units + 65 < cLine) (ng : Bool) : OpR X (compareOp (if ng then .NotIn else .In)) (fun x y H Q => ∃ d ds a xs, Dp X.K H x d ∧ y = .ref a ∧ SqT X.K H a xs ∧ DpAll X.K H xs ds ∧ SeqAt.shaped d = true ∧ PyData.canLayAll0 ds = true ∧ Q (.bl (ng != ds.any fun z => PyData.eqv z d)) H) := by
  intro pins s σ H x y v u Q I rx ry h
  obtain ⟨d, ds, a, xs, hd, rfl, ht, ha, sd, sl, q⟩ := h
  cases ry
  obtain ⟨as, r1⟩ := Dp.reads I d x v hd rx
  obtain ⟨bs, r2⟩ := Dp.reads I (.tuple ds) (.ref a) (.ref a) (.tup ht ha) rfl
  cases ng with
  | true => exact SeqAt.notIn_tuple_reads r2 r1 sl (SeqAt.canLay_of_shaped sd) (room_in_shaped sd hu) ⟨.bl _, H, I, rfl, by simpa using q⟩
  | false => exact SeqAt.in_tuple_reads r2 r1 sl (SeqAt.canLay_of_shaped sd) (room_in_shaped sd hu) ⟨.bl _, H, I, rfl, by simpa using q⟩
theorem inD_some {S : Store} {x y : D} {b : Bool} (h : inD S x y = some b) : ∃ p qs ds, pd S 12 x = some p ∧ mapO (pd S 12) ds = some qs ∧ b = (qs.any fun q => PyData.eqv q p) ∧ (y = .tup ds ∨ ∃ l o, y = .ref l ∧ S[l]? = some o ∧ items o = ds) := by
  cases y with
  | tup ys =>
    simp only [inD] at h
    cases c1 : pd S 12 x with
    | none => rw [c1] at h; cases h
    | some p =>
      cases c2 : mapO (pd S 12) ys with
      | none => rw [c1, c2] at h; cases h
      | some q => rw [c1, c2] at h; exact ⟨p, q, ys, rfl, c2, (Option.some.inj h).symm, .inl rfl⟩
  | ref l =>
    simp only [inD] at h
    cases c0 : S[l]? with
    | none => rw [c0] at h; cases h
    | some o =>
      rw [c0] at h
      dsimp only at h
      cases c1 : pd S 12 x with
      | none => rw [c1] at h; cases h
      | some p =>
        cases c2 : mapO (pd S 12) (items o) with
        | none => rw [c1, c2] at h; cases h
        | some q => rw [c1, c2] at h; exact ⟨p, q, items o, rfl, c2, (Option.some.inj h).symm, .inr ⟨l, o, rfl, c0, rfl⟩⟩
  | _ => simp only [inD] at h; cases h
theorem list_shaped {S : Store} {ds : List D} {ps : List PyData} (h : mapO (pd S 12) ds = some ps) : SeqAt.shaped (.list ps) = true := by
  obtain ⟨h1, h2⟩ := all_shape h
  show (PyData.canLay0 (.list ps) && decide (PyData.depth (.list ps) ≤ 64)) = true
  rw [Bool.and_eq_true]
  exact ⟨by simp only [PyData.canLay0]; exact h1, decide_eq_true (by simp only [PyData.depth]; omega)⟩
theorem op_inX (hu : X.A.units + 65 < cLine) : OpR X (compareOp .In) (rD X.K (cmpD .isIn)) := by
  refine OpR.imp (OpR.or (op_in_tup hu false) (op_inD hu)) ?_
  intro v u H Q h
  obtain ⟨Ex, m, S, x, y, s, rx, ry, h⟩ := h
  obtain ⟨c, e, hp⟩ := ofB_some h
  obtain ⟨p, qs, ds, h1, h2, rfl, h3⟩ := inD_some e
  rcases h3 with rfl | ⟨l, o, rfl, e0, rfl⟩
  · cases ry with
    | tup ea ra => exact .inl ⟨p, qs, _, _, dp_of s 12 x v p rx h1, rfl, SqT.of ea, dpAll_of (dp_of s 12) ra h2, pd_shaped h1 (by decide), (all_shape h2).1, by simpa using post_val s hp (.bl _)⟩
  · cases ry with
    | ref ea =>
      obtain ⟨vs, q, rs⟩ := s.sq_at e0 ea
      exact .inr ⟨p, qs, dp_of s 12 x v p rx h1, .lst q (dpAll_of (dp_of s 12) rs h2), pd_shaped h1 (by decide), list_shaped h2, post_val s hp (.bl _)⟩
theorem op_notInX (hu : X.A.units + 65 < cLine) : OpR X (compareOp .NotIn) (rD X.K (cmpD .notIn)) := by
  refine OpR.imp (OpR.or (op_in_tup hu true) (op_notInD hu)) ?_
  intro v u H Q h
  obtain ⟨Ex, m, S, x, y, s, rx, ry, h⟩ := h
  obtain ⟨c, e, hp⟩ := ofB_some h
  obtain ⟨b, e', rfl⟩ := Option.map_eq_some_iff.mp e
  obtain ⟨p, qs, ds, h1, h2, rfl, h3⟩ := inD_some e'
  rcases h3 with rfl | ⟨l, o, rfl, e0, rfl⟩
  · cases ry with
    | tup ea ra => exact .inl ⟨p, qs, _, _, dp_of s 12 x v p rx h1, rfl, SqT.of ea, dpAll_of (dp_of s 12) ra h2, pd_shaped h1 (by decide), (all_shape h2).1, by simpa using post_val s hp (.bl _)⟩
  · cases ry with
    | ref ea =>
      obtain ⟨vs, q, rs⟩ := s.sq_at e0 ea
      exact .inr ⟨p, qs, dp_of s 12 x v p rx h1, .lst q (dpAll_of (dp_of s 12) rs h2), pd_shaped h1 (by decide), list_shaped h2, post_val s hp (.bl _)⟩
/-- a value and a written None, True, False -/
theorem op_isV (ng : Bool) : OpR X (compareOp (if ng then .IsNot else .Is)) (fun x y H Q => (y = .non ∧ Q (.bl (ng != decide (x = .non))) H) ∨ ∃ b, y = .bl b ∧ Q (.bl (ng != decide (x = .bl b))) H) := by
  intro pins s σ H x y v u Q I rx ry h
  rcases h with ⟨rfl, q⟩ | ⟨b, rfl, q⟩
  · cases ng with
    | true => exact op_notN pins s σ H x .non v u Q I rx ry ⟨rfl, by simpa using q⟩
    | false => exact op_isN pins s σ H x .non v u Q I rx ry ⟨rfl, by simpa using q⟩
  · cases (show u = Value.bool b from ry)
    by_cases e : x = .bl b
    · subst e
      cases (show v = Value.bool b from rx)
      cases ng with
      | true => exact wpAny_isNot_self rfl ⟨.bl false, H, I, rfl, by simpa using q⟩
      | false => exact wpAny_is_self rfl ⟨.bl true, H, I, rfl, by simpa using q⟩
    · have hne : v ≠ Value.bool b := fun z => e (RelV.inj rx (show RelV (.bl b) v from z))
      have hp : plainIs v (Value.bool b) = true := by cases v <;> first | rfl | (cases x <;> first | exact nomatch rx | (obtain ⟨_, z⟩ := rx; cases z))
      cases ng with
      | true => exact wpAny_isNot_other hp hne ⟨.bl true, H, I, rfl, by simpa [e] using q⟩
      | false => exact wpAny_is_other hp hne ⟨.bl false, H, I, rfl, by simpa [e] using q⟩
theorem isD_some {m : List Addr} {H : Hp} {x y : D} {v u : V} {b : Bool} (h : isD x y = some b) (rx : Rep m H x v) (ry : Rep m H y u) : (u = .non ∧ b = decide (v = .non)) ∨ ∃ c, u = .bl c ∧ b = decide (v = .bl c) := by
  cases y <;> simp only [isD] at h <;> try cases h
  · cases ry
    refine .inl ⟨rfl, ?_⟩
    cases rx <;> simp
  · cases ry
    refine .inr ⟨_, rfl, ?_⟩
    cases rx <;> first | (simp; done) | (rename_i c d; cases c <;> cases d <;> rfl)
theorem op_isX : OpR X (compareOp .Is) (rD X.K (cmpD .is_)) := by
  refine OpR.imp (op_isV false) ?_
  intro v u H Q h
  obtain ⟨Ex, m, S, x, y, s, rx, ry, h⟩ := h
  obtain ⟨c, e, hp⟩ := ofB_some h
  rcases isD_some e rx ry with ⟨rfl, rfl⟩ | ⟨b, rfl, rfl⟩
  · exact .inl ⟨rfl, by simpa using post_val s hp (.bl _)⟩
  · exact .inr ⟨b, rfl, by simpa using post_val s hp (.bl _)⟩
theorem op_isNotX : OpR X (compareOp .IsNot) (rD X.K (cmpD .isNot)) := by
  refine OpR.imp (op_isV true) ?_
  intro v u H Q h
  obtain ⟨Ex, m, S, x, y, s, rx, ry, h⟩ := h
  obtain ⟨c, e, hp⟩ := ofB_some h
  obtain ⟨c', e', rfl⟩ := Option.map_eq_some_iff.mp e
  rcases isD_some e' rx ry with ⟨rfl, rfl⟩ | ⟨b, rfl, rfl⟩
  · exact .inl ⟨rfl, by simpa using post_val s hp (.bl _)⟩
  · exact .inr ⟨b, rfl, by simpa using post_val s hp (.bl _)⟩
theorem op_cmpD (hu : X.A.units + 65 < cLine) : ∀ o : Cop, OpR X (compareOp o.op) (rD X.K (cmpD o))
  | .lt => op_ordD (by omega) (.inl rfl)
  | .le => op_ordD (by omega) (.inr (.inl rfl))
  | .gt => op_ordD (by omega) (.inr (.inr (.inl rfl)))
  | .ge => op_ordD (by omega) (.inr (.inr (.inr rfl)))
  | .eq => op_eqX (by omega)
  | .ne => op_neX (by omega)
  | .isIn => op_inX hu
  | .notIn => op_notInX hu
  | .is_ => op_isX
  | .isNot => op_isNotX
/-! ### one place, a place of a list -/
def rD1 (K : PySem.W.Frag) (g : D → M D) : V → Hp → VK → Prop := fun v H Q => ∃ Ex m S x, SR K m S H ∧ Rep m H x v ∧ post K Ex m H (g x S) (fun d m' _ H' => ∀ w, Rep m' H' d w → Q w H')
theorem ix_D : IxR X (rD X.K ixD) := by
  intro value slice pins s σ H v u w w' Q I rv ru h hs
  refine ix_seq value slice pins s σ H v u w w' Q I rv ru ?_ hs
  obtain ⟨Ex, m, S, x, y, sr, rx, ry, h⟩ := h
  cases rx <;> cases ry <;> try exact (show False from h).elim
  · rename_i xs vs ea ra i
    simp only [ixD] at h
    cases e : atI xs i with
    | none => rw [e] at h; exact h.elim
    | some d =>
      rw [e] at h
      obtain ⟨j, h1, h2, h3, h4, h5⟩ := atI_get e
      obtain ⟨w, h6, h7⟩ := ra.get h2
      refine .inr (.inl ⟨_, vs, i, w, rfl, rfl, SqT.of ea, ?_, post_val sr h h7⟩)
      unfold atI at e ⊢
      rw [← ra.length]
      cases e2 : ixN xs.length i with
      | none => rw [e2] at e; cases e
      | some j' =>
        have := (ixN_seq e2).1
        rw [h1] at this
        cases this
        exact h6
  · rename_i l a ea i
    obtain ⟨o, e0, h⟩ := getL_bind h
    obtain ⟨vs, q, ra⟩ := sr.sq_at e0 ea
    cases e : atI (items o) i with
    | none => rw [e] at h; exact h.elim
    | some d =>
      rw [e] at h
      obtain ⟨j, h1, h2, h3, h4, h5⟩ := atI_get e
      obtain ⟨w, h6, h7⟩ := ra.get h2
      refine .inl ⟨_, vs, i, w, rfl, rfl, q, ?_, post_val sr h h7⟩
      unfold atI at e ⊢
      rw [← ra.length]
      cases e2 : ixN (items o).length i with
      | none => rw [e2] at e; cases e
      | some j' =>
        have := (ixN_seq e2).1
        rw [h1] at this
        cases this
        exact h6
end
end NL

/-! min and max of values that are ordered by what stands in the heap (tuples) -/
namespace NL
open PySem PySem.Spec PyProof.Rows
/-- a comparison by places, where G holds of the heap -/
def CmpG (prog : Program) (w : World) (A : Around) (op : CmpOp) (G : Shared → Prop) (P : Nat → Value → Prop) (bt : Nat → Nat → Bool) : Prop :=
  ∀ (i j : Nat) (x y : Value) (s : Shared) (Q E : Value → Shared → Prop), G s → P i x → P j y → Q (.bool (bt i j)) s → wpAny (model prog w) A (richCompare op x y) Q E s
/-- kept but for the iterator's own and T -/
abbrev Kp (wr : List Addr) (T : Addr) (h h' : Heap) : Prop := ∀ b o, b ∉ wr → b ≠ T → h.get? b = some o → h'.get? b = some o
abbrev two (x : Value) (c : Nat) : Obj := { cls := .type "list", dict := none, data := .seq #[x, x] c, slots := #[] }
section
variable {prog : Program} {w : World} {A : Around} {R : Result → Shared → Prop} {I T : Addr} {fp wr : List Addr} {n : Nat} {P : Nat → Value → Prop} {St : Nat → Heap → Prop} {bt : Nat → Nat → Bool} {G : Shared → Prop}

/-! #### min: the running best, with what is known of the heap kept -/
theorem min_turns (W : Walks prog w A.in1 I fp wr n P St) (hG : ∀ (s : Shared) (h' : Heap) (tk : Nat), G s → Kp wr T s.heap h' → G { s with heap := h', toks := tk }) (hc : CmpG prog w A.in1 .Lt G P bt) (hT : T ∉ fp) :
    ∀ (k j : Nat) (s : Shared) (x : Value) (c : Nat), n = j + 1 + k → St (j + 1) s.heap → G s → P (argBest bt j) x → s.heap.get? T = some (two x c) →
      (∀ v h' tk, P (argBest bt (n - 1)) v → Kp wr T s.heap h' → R (.ok (.ret v)) { s with heap := h', toks := tk }) →
      codeAny (model prog w) A (.builtin "min.loop" ⟨[.ref I, .none, .ref T], []⟩) R s := by
  have hw : T ∉ wr := fun q => hT (W.sub _ q)
  have nm : (toString "min" ++ toString ".loop" : String) = "min.loop" := by decide
  intro k
  induction k with
  | zero =>
    intro j s x c en st g px hx hr
    refine codeAny_builtin F.entry_min_loop (A := A) ?_
    rw [Around.under_plainId F.plain_min_loop _]
    show wpAny _ A.in1 (seqItems? (.ref T) >>= _) _ _ s
    refine wpAny_bind (wpAny_seqItems hx rfl (A := A.in1) ?_)
    show wpAny _ A.in1 (tryCatch (pyNext (.ref I)) _ >>= _) _ _ s
    refine wpAny_bind (wpAny_tryCatch (W.done s _ _ (by rw [en]; exact st) fun h1 tk k1 => ?_))
    have hx1 := k1 T _ hw hx
    show wpAny _ A.in1 (updateSeq T (fun _ => #[]) >>= _) _ _ _
    refine wpAny_bind (wpAny_updateSeq hx1 rfl (wpAny_bind (wpAny_letGo (wpAny_pure ?_))))
    exact hr x _ tk (by rw [en]; exact px) fun b o h1 h2 e => (Heap.get?_update_other _ _ (Ne.symm h2)).trans (k1 b o h1 e)
  | succ k ih =>
    intro j s x c en st g px hx hr
    refine codeAny_builtin F.entry_min_loop (A := A) ?_
    rw [Around.under_plainId F.plain_min_loop _]
    show wpAny _ A.in1 (seqItems? (.ref T) >>= _) _ _ s
    refine wpAny_bind (wpAny_seqItems hx rfl (A := A.in1) ?_)
    show wpAny _ A.in1 (tryCatch (pyNext (.ref I)) _ >>= _) _ _ s
    refine wpAny_bind (wpAny_tryCatch (W.item (j + 1) s _ _ (by omega) st fun v h1 tk pv st1 k1 => ?_))
    have hx1 := k1 T _ hw hx
    have g1 : G { s with heap := h1, toks := tk } := hG _ _ tk g fun b o q _ e => k1 b o q e
    show wpAny _ A.in1 (tryCatch (holding [v, v] (richCompare .Lt v x >>= _)) _ >>= _) _ _ _
    refine wpAny_bind (wpAny_tryCatch (wpAny_holding (wpAny_bind (hc (j + 1) (argBest bt j) v x { s with heap := h1, toks := tk } _ _ g1 pv px ?_))))
    refine wpAny_bind (wpAny_holding (wpAny_truthy_bool (wpAny_bind (wpAny_letGo (wpAny_pure ?_)))))
    cases hb : bt (j + 1) (argBest bt j) with
    | false =>
      simp only [Bool.false_eq_true, if_false]
      refine wpAny_bind (wpAny_letGo ?_)
      rw [nm]
      refine wpAny_pure ⟨plainId_quiet F.plain_min_loop _, ih (j + 1) { s with heap := h1, toks := tk } x c (by omega) st1 g1 (by simp only [argBest, hb, Bool.false_eq_true, if_false]; exact px) hx1 fun v' h2 t2 p2 k2 => ?_⟩
      exact hr v' h2 t2 p2 fun b o q1 q2 e => k2 b o q1 q2 (k1 b o q1 e)
    | true =>
      simp only [if_true]
      refine wpAny_bind (wpAny_updateSeq hx1 rfl (wpAny_bind (wpAny_letGo ?_)))
      rw [nm]
      have kk : ∀ b o, b ≠ T → h1.get? b = some o → (h1.update T (Obj.mapSeq fun _ => #[v, v])).get? b = some o := fun b o q e => (Heap.get?_update_other _ _ (Ne.symm q)).trans e
      refine wpAny_pure ⟨plainId_quiet F.plain_min_loop _, ih (j + 1) { s with heap := _, toks := tk } v _ (by omega) (W.frame _ _ _ st1 fun b hb2 o e => kk b o (fun q => hT (by rw [← q]; exact hb2)) e) (hG { s with heap := h1, toks := tk } _ tk g1 fun b o _ q e => kk b o q e)
        (by simp only [argBest, hb, if_true]; exact pv) (Heap.get?_update_self _ hx1 rfl) fun v' h2 t2 p2 k2 => ?_⟩
      exact hr v' h2 t2 p2 fun b o q1 q2 e => k2 b o q1 q2 (kk b o q2 (k1 b o q1 e))
theorem min_first (W : Walks prog w A.in1 I fp wr n P St) (hG : ∀ (s : Shared) (h' : Heap) (tk : Nat), G s → Kp wr T s.heap h' → G { s with heap := h', toks := tk }) (hc : CmpG prog w A.in1 .Lt G P bt) (hT : T ∉ fp) (hn : 0 < n) {s : Shared} {c : Nat}
    (st : St 0 s.heap) (g : G s) (hx : s.heap.get? T = some { cls := .type "list", dict := none, data := .seq #[] c, slots := #[] })
    (hr : ∀ v h' tk, P (argBest bt (n - 1)) v → Kp wr T s.heap h' → R (.ok (.ret v)) { s with heap := h', toks := tk }) :
    codeAny (model prog w) A (.builtin "min.loop" ⟨[.ref I, .none, .ref T], []⟩) R s := by
  have hw : T ∉ wr := fun q => hT (W.sub _ q)
  have nm : (toString "min" ++ toString ".loop" : String) = "min.loop" := by decide
  refine codeAny_builtin F.entry_min_loop (A := A) ?_
  rw [Around.under_plainId F.plain_min_loop _]
  show wpAny _ A.in1 (seqItems? (.ref T) >>= _) _ _ s
  refine wpAny_bind (wpAny_seqItems hx rfl (A := A.in1) ?_)
  show wpAny _ A.in1 (tryCatch (pyNext (.ref I)) _ >>= _) _ _ s
  refine wpAny_bind (wpAny_tryCatch (W.item 0 s _ _ hn st fun v h1 tk pv st1 k1 => ?_))
  have hx1 := k1 T _ hw hx
  have kk : ∀ b o, b ≠ T → h1.get? b = some o → (h1.update T (Obj.mapSeq fun _ => #[v, v])).get? b = some o := fun b o q e => (Heap.get?_update_other _ _ (Ne.symm q)).trans e
  have g1 : G { s with heap := h1, toks := tk } := hG _ _ tk g fun b o q _ e => k1 b o q e
  show wpAny _ A.in1 (updateSeq T (fun _ => #[v, v]) >>= _) _ _ _
  refine wpAny_bind (wpAny_updateSeq hx1 rfl ?_)
  rw [nm]
  refine wpAny_pure ⟨plainId_quiet F.plain_min_loop _, min_turns W hG hc hT (n - 1) 0 { s with heap := _, toks := tk } v _ (by omega) (W.frame _ _ _ st1 fun b hb2 o e => kk b o (fun q => hT (by rw [← q]; exact hb2)) e) (hG { s with heap := h1, toks := tk } _ tk g1 fun b o _ q e => kk b o q e)
    pv (Heap.get?_update_self _ hx1 rfl) fun v' h2 t2 p2 k2 => ?_⟩
  exact hr v' h2 t2 p2 fun b o q1 q2 e => k2 b o q1 q2 (kk b o q2 (k1 b o q1 e))
/-- min of the items that are walked -/
theorem min_walk {x : Value} {Q : Value → Shared → Prop} {E : Value → Shared → Prop} {s : Shared}
    (h : wpAny (model prog w) A.in1 (pyIter x) (fun it s2 => ∃ I fp wr n P St bt G, it = .ref I ∧ Walks prog w A.in1 I fp wr n P St ∧ St 0 s2.heap ∧ (∀ b ∈ fp, b < s2.heap.objs.size) ∧ 0 < n ∧ G s2 ∧
      (∀ (s : Shared) (h' : Heap) (tk : Nat), G s → (∀ b o, b < s2.heap.objs.size → b ∉ wr → s.heap.get? b = some o → h'.get? b = some o) → G { s with heap := h', toks := tk }) ∧ CmpG prog w A.in1 .Lt G P bt ∧
      ∀ v h' tk, P (argBest bt (n - 1)) v → (∀ b o, b ∉ wr → s2.heap.get? b = some o → h'.get? b = some o) → Q v { s2 with heap := h', toks := tk }) E s) :
    wpAny (model prog w) A (call (.builtin "min") [x]) Q E s := by
  have nm : (toString "min" ++ toString ".loop" : String) = "min.loop" := by decide
  refine call_function_tree F.kind_min F.plain_min F.entry_min (F.args_min1 _) ?_
  show wpAny _ A.in1 (Builtin.Builtins.bindParams "min" ["key", "default"] 0 ⟨[], []⟩ >>= _) _ _ s
  refine wpAny_bind (wpAny_of_eq (a := [none, none]) (by rfl) (wpAny_bind (wpAny_pure (wpAny_bind (wpAny_mono h (fun it s2 h2 => ?_) fun _ _ e => e)))))
  obtain ⟨I, fp, wr, n, P, St, bt, G, rfl, W, st, hfp, hn, g, hG, hc, hq⟩ := h2
  refine wpAny_bind (wpAny_newObj_type ?_)
  rw [nm]
  have lt : ∀ {b : Addr} {o : Obj}, s2.heap.get? b = some o → b ≠ s2.heap.objs.size := fun e => Nat.ne_of_lt (Heap.lt_size e)
  refine wpAny_pure ⟨plainId_quiet F.plain_min_loop _, min_first W (fun a b t ga k => hG a b t ga fun c o q1 q2 e => k c o q2 (Nat.ne_of_lt q1) e) hc (fun hm => Nat.lt_irrefl _ (hfp _ hm)) hn (W.frame _ _ _ st fun b _ o e => Heap.get?_push_of_some _ e)
    (hG _ _ s2.toks g fun b o _ _ e => Heap.get?_push_of_some _ e) (Heap.get?_push_size _ rfl) fun v h' tk pv k => ?_⟩
  exact hq v h' tk pv fun b o q e => k b o q (lt e) (Heap.get?_push_of_some _ e)

/-- min of 2 written values -/
theorem min_args2 {a b : Value} {Q : Value → Shared → Prop} {E : Value → Shared → Prop} {s : Shared}
    (h : wpAny (model prog w) A.in1 (pyIter (.ref s.heap.objs.size)) (fun it s2 => ∃ I fp wr n P St bt G, it = .ref I ∧ Walks prog w A.in1 I fp wr n P St ∧ St 0 s2.heap ∧ (∀ b ∈ fp, b < s2.heap.objs.size) ∧ 0 < n ∧ G s2 ∧
      (∀ (s : Shared) (h' : Heap) (tk : Nat), G s → (∀ b o, b < s2.heap.objs.size → b ∉ wr → s.heap.get? b = some o → h'.get? b = some o) → G { s with heap := h', toks := tk }) ∧ CmpG prog w A.in1 .Lt G P bt ∧
      ∀ v h' tk, P (argBest bt (n - 1)) v → (∀ b o, b ∉ wr → s2.heap.get? b = some o → h'.get? b = some o) → Q v { s2 with heap := h', toks := tk }) E
      { s with heap := s.heap.push { cls := .type "tuple", data := .seq #[a, b] } }) :
    wpAny (model prog w) A (call (.builtin "min") [a, b]) Q E s := by
  have nm : (toString "min" ++ toString ".loop" : String) = "min.loop" := by decide
  refine call_function_tree F.kind_min F.plain_min F.entry_min (by unfold argsOk; kernel_rfl) ?_
  show wpAny _ A.in1 (Builtin.Builtins.bindParams "min" ["key", "default"] 0 ⟨[], []⟩ >>= _) _ _ s
  refine wpAny_bind (wpAny_of_eq (a := [none, none]) (by rfl) ?_)
  show wpAny _ A.in1 (newTuple [a, b] >>= _) _ _ s
  refine wpAny_bind (wpAny_newObj_type (wpAny_bind (wpAny_mono h (fun it s2 h2 => ?_) fun _ _ e => e)))
  obtain ⟨I, fp, wr, n, P, St, bt, G, rfl, W, st, hfp, hn, g, hG, hc, hq⟩ := h2
  refine wpAny_bind (wpAny_newObj_type ?_)
  rw [nm]
  have lt : ∀ {b : Addr} {o : Obj}, s2.heap.get? b = some o → b ≠ s2.heap.objs.size := fun e => Nat.ne_of_lt (Heap.lt_size e)
  refine wpAny_pure ⟨plainId_quiet F.plain_min_loop _, min_first W (fun a b t ga k => hG a b t ga fun c o q1 q2 e => k c o q2 (Nat.ne_of_lt q1) e) hc (fun hm => Nat.lt_irrefl _ (hfp _ hm)) hn (W.frame _ _ _ st fun b _ o e => Heap.get?_push_of_some _ e)
    (hG _ _ s2.toks g fun b o _ _ e => Heap.get?_push_of_some _ e) (Heap.get?_push_size _ rfl) fun v h' tk pv k => ?_⟩
  exact hq v h' tk pv fun b o q e => k b o q (lt e) (Heap.get?_push_of_some _ e)

/-- min of 3 written values -/
theorem min_args3 {a b c : Value} {Q : Value → Shared → Prop} {E : Value → Shared → Prop} {s : Shared}
    (h : wpAny (model prog w) A.in1 (pyIter (.ref s.heap.objs.size)) (fun it s2 => ∃ I fp wr n P St bt G, it = .ref I ∧ Walks prog w A.in1 I fp wr n P St ∧ St 0 s2.heap ∧ (∀ b ∈ fp, b < s2.heap.objs.size) ∧ 0 < n ∧ G s2 ∧
      (∀ (s : Shared) (h' : Heap) (tk : Nat), G s → (∀ b o, b < s2.heap.objs.size → b ∉ wr → s.heap.get? b = some o → h'.get? b = some o) → G { s with heap := h', toks := tk }) ∧ CmpG prog w A.in1 .Lt G P bt ∧
      ∀ v h' tk, P (argBest bt (n - 1)) v → (∀ b o, b ∉ wr → s2.heap.get? b = some o → h'.get? b = some o) → Q v { s2 with heap := h', toks := tk }) E
      { s with heap := s.heap.push { cls := .type "tuple", data := .seq #[a, b, c] } }) :
    wpAny (model prog w) A (call (.builtin "min") [a, b, c]) Q E s := by
  have nm : (toString "min" ++ toString ".loop" : String) = "min.loop" := by decide
  refine call_function_tree F.kind_min F.plain_min F.entry_min (by unfold argsOk; kernel_rfl) ?_
  show wpAny _ A.in1 (Builtin.Builtins.bindParams "min" ["key", "default"] 0 ⟨[], []⟩ >>= _) _ _ s
  refine wpAny_bind (wpAny_of_eq (a := [none, none]) (by rfl) ?_)
  show wpAny _ A.in1 (newTuple [a, b, c] >>= _) _ _ s
  refine wpAny_bind (wpAny_newObj_type (wpAny_bind (wpAny_mono h (fun it s2 h2 => ?_) fun _ _ e => e)))
  obtain ⟨I, fp, wr, n, P, St, bt, G, rfl, W, st, hfp, hn, g, hG, hc, hq⟩ := h2
  refine wpAny_bind (wpAny_newObj_type ?_)
  rw [nm]
  have lt : ∀ {b : Addr} {o : Obj}, s2.heap.get? b = some o → b ≠ s2.heap.objs.size := fun e => Nat.ne_of_lt (Heap.lt_size e)
  refine wpAny_pure ⟨plainId_quiet F.plain_min_loop _, min_first W (fun a b t ga k => hG a b t ga fun c o q1 q2 e => k c o q2 (Nat.ne_of_lt q1) e) hc (fun hm => Nat.lt_irrefl _ (hfp _ hm)) hn (W.frame _ _ _ st fun b _ o e => Heap.get?_push_of_some _ e)
    (hG _ _ s2.toks g fun b o _ _ e => Heap.get?_push_of_some _ e) (Heap.get?_push_size _ rfl) fun v h' tk pv k => ?_⟩
  exact hq v h' tk pv fun b o q e => k b o q (lt e) (Heap.get?_push_of_some _ e)

/-- min of 4 written values -/
theorem min_args4 {a b c d : Value} {Q : Value → Shared → Prop} {E : Value → Shared → Prop} {s : Shared}
    (h : wpAny (model prog w) A.in1 (pyIter (.ref s.heap.objs.size)) (fun it s2 => ∃ I fp wr n P St bt G, it = .ref I ∧ Walks prog w A.in1 I fp wr n P St ∧ St 0 s2.heap ∧ (∀ b ∈ fp, b < s2.heap.objs.size) ∧ 0 < n ∧ G s2 ∧
      (∀ (s : Shared) (h' : Heap) (tk : Nat), G s → (∀ b o, b < s2.heap.objs.size → b ∉ wr → s.heap.get? b = some o → h'.get? b = some o) → G { s with heap := h', toks := tk }) ∧ CmpG prog w A.in1 .Lt G P bt ∧
      ∀ v h' tk, P (argBest bt (n - 1)) v → (∀ b o, b ∉ wr → s2.heap.get? b = some o → h'.get? b = some o) → Q v { s2 with heap := h', toks := tk }) E
      { s with heap := s.heap.push { cls := .type "tuple", data := .seq #[a, b, c, d] } }) :
    wpAny (model prog w) A (call (.builtin "min") [a, b, c, d]) Q E s := by
  have nm : (toString "min" ++ toString ".loop" : String) = "min.loop" := by decide
  refine call_function_tree F.kind_min F.plain_min F.entry_min (by unfold argsOk; kernel_rfl) ?_
  show wpAny _ A.in1 (Builtin.Builtins.bindParams "min" ["key", "default"] 0 ⟨[], []⟩ >>= _) _ _ s
  refine wpAny_bind (wpAny_of_eq (a := [none, none]) (by rfl) ?_)
  show wpAny _ A.in1 (newTuple [a, b, c, d] >>= _) _ _ s
  refine wpAny_bind (wpAny_newObj_type (wpAny_bind (wpAny_mono h (fun it s2 h2 => ?_) fun _ _ e => e)))
  obtain ⟨I, fp, wr, n, P, St, bt, G, rfl, W, st, hfp, hn, g, hG, hc, hq⟩ := h2
  refine wpAny_bind (wpAny_newObj_type ?_)
  rw [nm]
  have lt : ∀ {b : Addr} {o : Obj}, s2.heap.get? b = some o → b ≠ s2.heap.objs.size := fun e => Nat.ne_of_lt (Heap.lt_size e)
  refine wpAny_pure ⟨plainId_quiet F.plain_min_loop _, min_first W (fun a b t ga k => hG a b t ga fun c o q1 q2 e => k c o q2 (Nat.ne_of_lt q1) e) hc (fun hm => Nat.lt_irrefl _ (hfp _ hm)) hn (W.frame _ _ _ st fun b _ o e => Heap.get?_push_of_some _ e)
    (hG _ _ s2.toks g fun b o _ _ e => Heap.get?_push_of_some _ e) (Heap.get?_push_size _ rfl) fun v h' tk pv k => ?_⟩
  exact hq v h' tk pv fun b o q e => k b o q (lt e) (Heap.get?_push_of_some _ e)

/-! #### max: the running best, with what is known of the heap kept -/
theorem max_turns (W : Walks prog w A.in1 I fp wr n P St) (hG : ∀ (s : Shared) (h' : Heap) (tk : Nat), G s → Kp wr T s.heap h' → G { s with heap := h', toks := tk }) (hc : CmpG prog w A.in1 .Gt G P bt) (hT : T ∉ fp) :
    ∀ (k j : Nat) (s : Shared) (x : Value) (c : Nat), n = j + 1 + k → St (j + 1) s.heap → G s → P (argBest bt j) x → s.heap.get? T = some (two x c) →
      (∀ v h' tk, P (argBest bt (n - 1)) v → Kp wr T s.heap h' → R (.ok (.ret v)) { s with heap := h', toks := tk }) →
      codeAny (model prog w) A (.builtin "max.loop" ⟨[.ref I, .none, .ref T], []⟩) R s := by
  have hw : T ∉ wr := fun q => hT (W.sub _ q)
  have nm : (toString "max" ++ toString ".loop" : String) = "max.loop" := by decide
  intro k
  induction k with
  | zero =>
    intro j s x c en st g px hx hr
    refine codeAny_builtin F.entry_max_loop (A := A) ?_
    rw [Around.under_plainId F.plain_max_loop _]
    show wpAny _ A.in1 (seqItems? (.ref T) >>= _) _ _ s
    refine wpAny_bind (wpAny_seqItems hx rfl (A := A.in1) ?_)
    show wpAny _ A.in1 (tryCatch (pyNext (.ref I)) _ >>= _) _ _ s
    refine wpAny_bind (wpAny_tryCatch (W.done s _ _ (by rw [en]; exact st) fun h1 tk k1 => ?_))
    have hx1 := k1 T _ hw hx
    show wpAny _ A.in1 (updateSeq T (fun _ => #[]) >>= _) _ _ _
    refine wpAny_bind (wpAny_updateSeq hx1 rfl (wpAny_bind (wpAny_letGo (wpAny_pure ?_))))
    exact hr x _ tk (by rw [en]; exact px) fun b o h1 h2 e => (Heap.get?_update_other _ _ (Ne.symm h2)).trans (k1 b o h1 e)
  | succ k ih =>
    intro j s x c en st g px hx hr
    refine codeAny_builtin F.entry_max_loop (A := A) ?_
    rw [Around.under_plainId F.plain_max_loop _]
    show wpAny _ A.in1 (seqItems? (.ref T) >>= _) _ _ s
    refine wpAny_bind (wpAny_seqItems hx rfl (A := A.in1) ?_)
    show wpAny _ A.in1 (tryCatch (pyNext (.ref I)) _ >>= _) _ _ s
    refine wpAny_bind (wpAny_tryCatch (W.item (j + 1) s _ _ (by omega) st fun v h1 tk pv st1 k1 => ?_))
    have hx1 := k1 T _ hw hx
    have g1 : G { s with heap := h1, toks := tk } := hG _ _ tk g fun b o q _ e => k1 b o q e
    show wpAny _ A.in1 (tryCatch (holding [v, v] (richCompare .Gt v x >>= _)) _ >>= _) _ _ _
    refine wpAny_bind (wpAny_tryCatch (wpAny_holding (wpAny_bind (hc (j + 1) (argBest bt j) v x { s with heap := h1, toks := tk } _ _ g1 pv px ?_))))
    refine wpAny_bind (wpAny_holding (wpAny_truthy_bool (wpAny_bind (wpAny_letGo (wpAny_pure ?_)))))
    cases hb : bt (j + 1) (argBest bt j) with
    | false =>
      simp only [Bool.false_eq_true, if_false]
      refine wpAny_bind (wpAny_letGo ?_)
      rw [nm]
      refine wpAny_pure ⟨plainId_quiet F.plain_max_loop _, ih (j + 1) { s with heap := h1, toks := tk } x c (by omega) st1 g1 (by simp only [argBest, hb, Bool.false_eq_true, if_false]; exact px) hx1 fun v' h2 t2 p2 k2 => ?_⟩
      exact hr v' h2 t2 p2 fun b o q1 q2 e => k2 b o q1 q2 (k1 b o q1 e)
    | true =>
      simp only [if_true]
      refine wpAny_bind (wpAny_updateSeq hx1 rfl (wpAny_bind (wpAny_letGo ?_)))
      rw [nm]
      have kk : ∀ b o, b ≠ T → h1.get? b = some o → (h1.update T (Obj.mapSeq fun _ => #[v, v])).get? b = some o := fun b o q e => (Heap.get?_update_other _ _ (Ne.symm q)).trans e
      refine wpAny_pure ⟨plainId_quiet F.plain_max_loop _, ih (j + 1) { s with heap := _, toks := tk } v _ (by omega) (W.frame _ _ _ st1 fun b hb2 o e => kk b o (fun q => hT (by rw [← q]; exact hb2)) e) (hG { s with heap := h1, toks := tk } _ tk g1 fun b o _ q e => kk b o q e)
        (by simp only [argBest, hb, if_true]; exact pv) (Heap.get?_update_self _ hx1 rfl) fun v' h2 t2 p2 k2 => ?_⟩
      exact hr v' h2 t2 p2 fun b o q1 q2 e => k2 b o q1 q2 (kk b o q2 (k1 b o q1 e))
theorem max_first (W : Walks prog w A.in1 I fp wr n P St) (hG : ∀ (s : Shared) (h' : Heap) (tk : Nat), G s → Kp wr T s.heap h' → G { s with heap := h', toks := tk }) (hc : CmpG prog w A.in1 .Gt G P bt) (hT : T ∉ fp) (hn : 0 < n) {s : Shared} {c : Nat}
    (st : St 0 s.heap) (g : G s) (hx : s.heap.get? T = some { cls := .type "list", dict := none, data := .seq #[] c, slots := #[] })
    (hr : ∀ v h' tk, P (argBest bt (n - 1)) v → Kp wr T s.heap h' → R (.ok (.ret v)) { s with heap := h', toks := tk }) :
    codeAny (model prog w) A (.builtin "max.loop" ⟨[.ref I, .none, .ref T], []⟩) R s := by
  have hw : T ∉ wr := fun q => hT (W.sub _ q)
  have nm : (toString "max" ++ toString ".loop" : String) = "max.loop" := by decide
  refine codeAny_builtin F.entry_max_loop (A := A) ?_
  rw [Around.under_plainId F.plain_max_loop _]
  show wpAny _ A.in1 (seqItems? (.ref T) >>= _) _ _ s
  refine wpAny_bind (wpAny_seqItems hx rfl (A := A.in1) ?_)
  show wpAny _ A.in1 (tryCatch (pyNext (.ref I)) _ >>= _) _ _ s
  refine wpAny_bind (wpAny_tryCatch (W.item 0 s _ _ hn st fun v h1 tk pv st1 k1 => ?_))
  have hx1 := k1 T _ hw hx
  have kk : ∀ b o, b ≠ T → h1.get? b = some o → (h1.update T (Obj.mapSeq fun _ => #[v, v])).get? b = some o := fun b o q e => (Heap.get?_update_other _ _ (Ne.symm q)).trans e
  have g1 : G { s with heap := h1, toks := tk } := hG _ _ tk g fun b o q _ e => k1 b o q e
  show wpAny _ A.in1 (updateSeq T (fun _ => #[v, v]) >>= _) _ _ _
  refine wpAny_bind (wpAny_updateSeq hx1 rfl ?_)
  rw [nm]
  refine wpAny_pure ⟨plainId_quiet F.plain_max_loop _, max_turns W hG hc hT (n - 1) 0 { s with heap := _, toks := tk } v _ (by omega) (W.frame _ _ _ st1 fun b hb2 o e => kk b o (fun q => hT (by rw [← q]; exact hb2)) e) (hG { s with heap := h1, toks := tk } _ tk g1 fun b o _ q e => kk b o q e)
    pv (Heap.get?_update_self _ hx1 rfl) fun v' h2 t2 p2 k2 => ?_⟩
  exact hr v' h2 t2 p2 fun b o q1 q2 e => k2 b o q1 q2 (kk b o q2 (k1 b o q1 e))
/-- max of the items that are walked -/
theorem max_walk {x : Value} {Q : Value → Shared → Prop} {E : Value → Shared → Prop} {s : Shared}
    (h : wpAny (model prog w) A.in1 (pyIter x) (fun it s2 => ∃ I fp wr n P St bt G, it = .ref I ∧ Walks prog w A.in1 I fp wr n P St ∧ St 0 s2.heap ∧ (∀ b ∈ fp, b < s2.heap.objs.size) ∧ 0 < n ∧ G s2 ∧
      (∀ (s : Shared) (h' : Heap) (tk : Nat), G s → (∀ b o, b < s2.heap.objs.size → b ∉ wr → s.heap.get? b = some o → h'.get? b = some o) → G { s with heap := h', toks := tk }) ∧ CmpG prog w A.in1 .Gt G P bt ∧
      ∀ v h' tk, P (argBest bt (n - 1)) v → (∀ b o, b ∉ wr → s2.heap.get? b = some o → h'.get? b = some o) → Q v { s2 with heap := h', toks := tk }) E s) :
    wpAny (model prog w) A (call (.builtin "max") [x]) Q E s := by
  have nm : (toString "max" ++ toString ".loop" : String) = "max.loop" := by decide
  refine call_function_tree F.kind_max F.plain_max F.entry_max (F.args_max1 _) ?_
  show wpAny _ A.in1 (Builtin.Builtins.bindParams "max" ["key", "default"] 0 ⟨[], []⟩ >>= _) _ _ s
  refine wpAny_bind (wpAny_of_eq (a := [none, none]) (by rfl) (wpAny_bind (wpAny_pure (wpAny_bind (wpAny_mono h (fun it s2 h2 => ?_) fun _ _ e => e)))))
  obtain ⟨I, fp, wr, n, P, St, bt, G, rfl, W, st, hfp, hn, g, hG, hc, hq⟩ := h2
  refine wpAny_bind (wpAny_newObj_type ?_)
  rw [nm]
  have lt : ∀ {b : Addr} {o : Obj}, s2.heap.get? b = some o → b ≠ s2.heap.objs.size := fun e => Nat.ne_of_lt (Heap.lt_size e)
  refine wpAny_pure ⟨plainId_quiet F.plain_max_loop _, max_first W (fun a b t ga k => hG a b t ga fun c o q1 q2 e => k c o q2 (Nat.ne_of_lt q1) e) hc (fun hm => Nat.lt_irrefl _ (hfp _ hm)) hn (W.frame _ _ _ st fun b _ o e => Heap.get?_push_of_some _ e)
    (hG _ _ s2.toks g fun b o _ _ e => Heap.get?_push_of_some _ e) (Heap.get?_push_size _ rfl) fun v h' tk pv k => ?_⟩
  exact hq v h' tk pv fun b o q e => k b o q (lt e) (Heap.get?_push_of_some _ e)

/-- max of 2 written values -/
theorem max_args2 {a b : Value} {Q : Value → Shared → Prop} {E : Value → Shared → Prop} {s : Shared}
    (h : wpAny (model prog w) A.in1 (pyIter (.ref s.heap.objs.size)) (fun it s2 => ∃ I fp wr n P St bt G, it = .ref I ∧ Walks prog w A.in1 I fp wr n P St ∧ St 0 s2.heap ∧ (∀ b ∈ fp, b < s2.heap.objs.size) ∧ 0 < n ∧ G s2 ∧
      (∀ (s : Shared) (h' : Heap) (tk : Nat), G s → (∀ b o, b < s2.heap.objs.size → b ∉ wr → s.heap.get? b = some o → h'.get? b = some o) → G { s with heap := h', toks := tk }) ∧ CmpG prog w A.in1 .Gt G P bt ∧
      ∀ v h' tk, P (argBest bt (n - 1)) v → (∀ b o, b ∉ wr → s2.heap.get? b = some o → h'.get? b = some o) → Q v { s2 with heap := h', toks := tk }) E
      { s with heap := s.heap.push { cls := .type "tuple", data := .seq #[a, b] } }) :
    wpAny (model prog w) A (call (.builtin "max") [a, b]) Q E s := by
  have nm : (toString "max" ++ toString ".loop" : String) = "max.loop" := by decide
  refine call_function_tree F.kind_max F.plain_max F.entry_max (by unfold argsOk; kernel_rfl) ?_
  show wpAny _ A.in1 (Builtin.Builtins.bindParams "max" ["key", "default"] 0 ⟨[], []⟩ >>= _) _ _ s
  refine wpAny_bind (wpAny_of_eq (a := [none, none]) (by rfl) ?_)
  show wpAny _ A.in1 (newTuple [a, b] >>= _) _ _ s
  refine wpAny_bind (wpAny_newObj_type (wpAny_bind (wpAny_mono h (fun it s2 h2 => ?_) fun _ _ e => e)))
  obtain ⟨I, fp, wr, n, P, St, bt, G, rfl, W, st, hfp, hn, g, hG, hc, hq⟩ := h2
  refine wpAny_bind (wpAny_newObj_type ?_)
  rw [nm]
  have lt : ∀ {b : Addr} {o : Obj}, s2.heap.get? b = some o → b ≠ s2.heap.objs.size := fun e => Nat.ne_of_lt (Heap.lt_size e)
  refine wpAny_pure ⟨plainId_quiet F.plain_max_loop _, max_first W (fun a b t ga k => hG a b t ga fun c o q1 q2 e => k c o q2 (Nat.ne_of_lt q1) e) hc (fun hm => Nat.lt_irrefl _ (hfp _ hm)) hn (W.frame _ _ _ st fun b _ o e => Heap.get?_push_of_some _ e)
    (hG _ _ s2.toks g fun b o _ _ e => Heap.get?_push_of_some _ e) (Heap.get?_push_size _ rfl) fun v h' tk pv k => ?_⟩
  exact hq v h' tk pv fun b o q e => k b o q (lt e) (Heap.get?_push_of_some _ e)

/-- max of 3 written values -/
theorem max_args3 {a b c : Value} {Q : Value → Shared → Prop} {E : Value → Shared → Prop} {s : Shared}
    (h : wpAny (model prog w) A.in1 (pyIter (.ref s.heap.objs.size)) (fun it s2 => ∃ I fp wr n P St bt G, it = .ref I ∧ Walks prog w A.in1 I fp wr n P St ∧ St 0 s2.heap ∧ (∀ b ∈ fp, b < s2.heap.objs.size) ∧ 0 < n ∧ G s2 ∧
      (∀ (s : Shared) (h' : Heap) (tk : Nat), G s → (∀ b o, b < s2.heap.objs.size → b ∉ wr → s.heap.get? b = some o → h'.get? b = some o) → G { s with heap := h', toks := tk }) ∧ CmpG prog w A.in1 .Gt G P bt ∧
      ∀ v h' tk, P (argBest bt (n - 1)) v → (∀ b o, b ∉ wr → s2.heap.get? b = some o → h'.get? b = some o) → Q v { s2 with heap := h', toks := tk }) E
      { s with heap := s.heap.push { cls := .type "tuple", data := .seq #[a, b, c] } }) :
    wpAny (model prog w) A (call (.builtin "max") [a, b, c]) Q E s := by
  have nm : (toString "max" ++ toString ".loop" : String) = "max.loop" := by decide
  refine call_function_tree F.kind_max F.plain_max F.entry_max (by unfold argsOk; kernel_rfl) ?_
  show wpAny _ A.in1 (Builtin.Builtins.bindParams "max" ["key", "default"] 0 ⟨[], []⟩ >>= _) _ _ s
  refine wpAny_bind (wpAny_of_eq (a := [none, none]) (by rfl) ?_)
  show wpAny _ A.in1 (newTuple [a, b, c] >>= _) _ _ s
  refine wpAny_bind (wpAny_newObj_type (wpAny_bind (wpAny_mono h (fun it s2 h2 => ?_) fun _ _ e => e)))
  obtain ⟨I, fp, wr, n, P, St, bt, G, rfl, W, st, hfp, hn, g, hG, hc, hq⟩ := h2
  refine wpAny_bind (wpAny_newObj_type ?_)
  rw [nm]
  have lt : ∀ {b : Addr} {o : Obj}, s2.heap.get? b = some o → b ≠ s2.heap.objs.size := fun e => Nat.ne_of_lt (Heap.lt_size e)
  refine wpAny_pure ⟨plainId_quiet F.plain_max_loop _, max_first W (fun a b t ga k => hG a b t ga fun c o q1 q2 e => k c o q2 (Nat.ne_of_lt q1) e) hc (fun hm => Nat.lt_irrefl _ (hfp _ hm)) hn (W.frame _ _ _ st fun b _ o e => Heap.get?_push_of_some _ e)
    (hG _ _ s2.toks g fun b o _ _ e => Heap.get?_push_of_some _ e) (Heap.get?_push_size _ rfl) fun v h' tk pv k => ?_⟩
  exact hq v h' tk pv fun b o q e => k b o q (lt e) (Heap.get?_push_of_some _ e)

/-- max of 4 written values -/
theorem max_args4 {a b c d : Value} {Q : Value → Shared → Prop} {E : Value → Shared → Prop} {s : Shared}
    (h : wpAny (model prog w) A.in1 (pyIter (.ref s.heap.objs.size)) (fun it s2 => ∃ I fp wr n P St bt G, it = .ref I ∧ Walks prog w A.in1 I fp wr n P St ∧ St 0 s2.heap ∧ (∀ b ∈ fp, b < s2.heap.objs.size) ∧ 0 < n ∧ G s2 ∧
      (∀ (s : Shared) (h' : Heap) (tk : Nat), G s → (∀ b o, b < s2.heap.objs.size → b ∉ wr → s.heap.get? b = some o → h'.get? b = some o) → G { s with heap := h', toks := tk }) ∧ CmpG prog w A.in1 .Gt G P bt ∧
      ∀ v h' tk, P (argBest bt (n - 1)) v → (∀ b o, b ∉ wr → s2.heap.get? b = some o → h'.get? b = some o) → Q v { s2 with heap := h', toks := tk }) E
      { s with heap := s.heap.push { cls := .type "tuple", data := .seq #[a, b, c, d] } }) :
    wpAny (model prog w) A (call (.builtin "max") [a, b, c, d]) Q E s := by
  have nm : (toString "max" ++ toString ".loop" : String) = "max.loop" := by decide
  refine call_function_tree F.kind_max F.plain_max F.entry_max (by unfold argsOk; kernel_rfl) ?_
  show wpAny _ A.in1 (Builtin.Builtins.bindParams "max" ["key", "default"] 0 ⟨[], []⟩ >>= _) _ _ s
  refine wpAny_bind (wpAny_of_eq (a := [none, none]) (by rfl) ?_)
  show wpAny _ A.in1 (newTuple [a, b, c, d] >>= _) _ _ s
  refine wpAny_bind (wpAny_newObj_type (wpAny_bind (wpAny_mono h (fun it s2 h2 => ?_) fun _ _ e => e)))
  obtain ⟨I, fp, wr, n, P, St, bt, G, rfl, W, st, hfp, hn, g, hG, hc, hq⟩ := h2
  refine wpAny_bind (wpAny_newObj_type ?_)
  rw [nm]
  have lt : ∀ {b : Addr} {o : Obj}, s2.heap.get? b = some o → b ≠ s2.heap.objs.size := fun e => Nat.ne_of_lt (Heap.lt_size e)
  refine wpAny_pure ⟨plainId_quiet F.plain_max_loop _, max_first W (fun a b t ga k => hG a b t ga fun c o q1 q2 e => k c o q2 (Nat.ne_of_lt q1) e) hc (fun hm => Nat.lt_irrefl _ (hfp _ hm)) hn (W.frame _ _ _ st fun b _ o e => Heap.get?_push_of_some _ e)
    (hG _ _ s2.toks g fun b o _ _ e => Heap.get?_push_of_some _ e) (Heap.get?_push_size _ rfl) fun v h' tk pv k => ?_⟩
  exact hq v h' tk pv fun b o q e => k b o q (lt e) (Heap.get?_push_of_some _ e)
end
end NL

namespace NL
open PySem PySem.Spec PyProof.Rows L2
/-! ### min, max -/
def ofD (d : Option D) : M D := match d with
  | some d => pure d
  | none => die
def bestD (o : Cop) (xs : List D) : Option D :=
  if (xs.all fun x => xs.all fun y => (ordD o 12 x y).isSome) = true then xs[argBest (fun i j => (ordD o 12 (xs.getD i .non) (xs.getD j .non)).getD false) (xs.length - 1)]? else none
def mnD (o : Cop) : List D → M D
  | [.ref l] => getL l >>= fun xs => ofD (bestD o xs)
  | [.tup xs] => ofD (bestD o xs)
  | [a, b] => ofD (bestD o [a, b])
  | [a, b, c] => ofD (bestD o [a, b, c])
  | [a, b, c, d] => ofD (bestD o [a, b, c, d])
  | _ => die
/-- later states of s: all kept -/
def Lat (s : Shared) (s' : Shared) : Prop := ∃ h' tk, s' = { s with heap := h', toks := tk } ∧ ∀ b o, s.heap.get? b = some o → h'.get? b = some o
section
variable {X : Cx} {pins : List (Addr × Obj)} {σ : L2.St} {H : Hp} {s : Shared} {m : List Addr} {S : Store}
abbrev btOf (o : Cop) (xs : List D) : Nat → Nat → Bool := fun i j => (ordD o 12 (xs.getD i .non) (xs.getD j .non)).getD false
theorem mm_core (hu : X.A.units + 27 < cLine) (I : Inv X pins σ H s) (sr : SR X.K m S H) {o : Cop} (ho : o = .lt ∨ o = .le ∨ o = .gt ∨ o = .ge) {xs : List D} {vs : List V} {its : List Value} (rs : Reps m H xs vs) (rv : Vals vs its)
    (hall : (xs.all fun x => xs.all fun y => (ordD o 12 x y).isSome) = true) : CmpG X.prog X.w X.A.in1 o.op (Lat s) (fun i v => its.toArray[i]? = some v) (btOf o xs) := by
  intro i j x y s' Q E hG hx hy hQ
  obtain ⟨h', tk, rfl, k⟩ := hG
  have I' : Inv X pins σ H { s with heap := h', toks := tk } := I.kept k
  have at_ : ∀ {i : Nat} {x : Value}, its.toArray[i]? = some x → ∃ d v, xs[i]? = some d ∧ Rep m H d v ∧ RelV v x := fun {i x} h => by
    have hl : i < its.length := by simpa using (Array.getElem?_eq_some_iff.mp h).1
    have h' : its[i]? = some x := by simpa using h
    have hl2 : i < xs.length := by rw [rs.length, rv.length]; exact hl
    obtain ⟨v, h1, h2⟩ := rs.get (List.getElem?_eq_getElem hl2)
    obtain ⟨u, h3, h4⟩ := rv.get h1
    rw [h'] at h3
    cases h3
    exact ⟨_, v, List.getElem?_eq_getElem hl2, h2, h4⟩
  obtain ⟨d, v, d1, d2, d3⟩ := at_ hx
  obtain ⟨e, w, e1, e2, e3⟩ := at_ hy
  rw [List.all_eq_true] at hall
  have q := hall d (List.mem_of_getElem? d1)
  rw [List.all_eq_true] at q
  obtain ⟨b, hb⟩ := Option.isSome_iff_exists.mp (q e (List.mem_of_getElem? e1))
  have hbt : btOf o xs i j = b := by
    show (ordD o 12 (xs.getD i .non) (xs.getD j .non)).getD false = b
    rw [List.getD_eq_getElem?_getD, List.getD_eq_getElem?_getD, d1, e1]
    show (ordD o 12 d e).getD false = b
    rw [hb]; rfl
  rw [hbt] at hQ
  exact ord_rc I' sr ho 12 d e b v w x y X.A.in1 hb d2 e2 d3 e3 (by show X.A.units + 1 + 12 + 14 < cLine; omega) X.prog X.w E Q hQ
theorem best_some {o : Cop} {xs : List D} {d : D} (h : bestD o xs = some d) : (xs.all fun x => xs.all fun y => (ordD o 12 x y).isSome) = true ∧ xs[argBest (btOf o xs) (xs.length - 1)]? = some d := by
  unfold bestD at h
  split at h
  · rename_i hc; exact ⟨hc, h⟩
  · cases h
theorem ofD_some {Ex : Str → Option Nat → List Addr → Store → Hp → Prop} {K : PySem.W.Frag} {b : Option D} {F : D → List Addr → Store → Hp → Prop} (h : post K Ex m H (ofD b S) F) : ∃ c, b = some c ∧ post K Ex m H (.ok c S) F := by
  cases b with
  | none => exact h.elim
  | some c => exact ⟨c, rfl, h⟩
/-- behind the walk: the value that stands there -/
theorem best_end {Ex : Str → Option Nat → List Addr → Store → Hp → Prop} (I : Inv X pins σ H s) (sr : SR X.K m S H) {Q : VK} {o : Cop} {xs : List D} {vs : List V} {its : List Value} {d : D} (rs : Reps m H xs vs) (rv : Vals vs its) (hd : xs[argBest (btOf o xs) (xs.length - 1)]? = some d)
    (h : post X.K Ex m H (.ok d S) (fun d m' _ H' => ∀ w, Rep m' H' d w → Q w H')) {v : Value} {h' : Heap} {tk : Nat} (hv : its.toArray[argBest (btOf o xs) (its.toArray.size - 1)]? = some v) (k : ∀ b o, s.heap.get? b = some o → h'.get? b = some o) :
    EP X pins σ Q v { s with heap := h', toks := tk } := by
  have n : its.toArray.size = xs.length := by rw [List.size_toArray, ← rv.length, rs.length]
  rw [n] at hv
  obtain ⟨w, h1, h2⟩ := rs.get hd
  obtain ⟨u, h3, h4⟩ := rv.get h1
  have hv' : its[argBest (btOf o xs) (xs.length - 1)]? = some v := by simpa using hv
  rw [hv'] at h3
  cases h3
  exact ⟨w, H, I.kept k, h4, post_val sr h h2⟩
end
/-- a call by what the arguments are in the store -/
def rCD (K : PySem.W.Frag) (g : List D → M D) : List V → Hp → VK → Prop := fun vs H Q => ∃ Ex m S ds, SR K m S H ∧ Reps m H ds vs ∧ post K Ex m H (g ds S) (fun d m' _ H' => ∀ w, Rep m' H' d w → Q w H')
theorem push_lt {h : Heap} {o : Obj} {b : Addr} (hb : b < h.objs.size) : b < (h.push o).objs.size := by rw [Heap.size_push]; exact Nat.lt_succ_of_lt hb
theorem push_top {h : Heap} {o : Obj} : h.objs.size < (h.push o).objs.size := by rw [Heap.size_push]; exact Nat.lt_succ_self _
section
variable {X : Cx}
/-- min of one list or tuple -/
theorem min_one (hc : X.calm = true) (hu : X.A.units + 27 < cLine) {Ex : Str → Option Nat → List Addr → Store → Hp → Prop} {pins : List (Addr × Obj)} {σ : L2.St} {H : Hp} {s : Shared} {m : List Addr} {S : Store} {Q : VK} {xs : List D} {vs : List V} {its : List Value} {d : D} {a : Addr} (I : Inv X pins σ H s) (sr : SR X.K m S H)
    (rs : Reps m H xs vs) (rv : Vals vs its) (hs : s.heap.IsList a its.toArray ∨ s.heap.IsTuple a its.toArray) (hb : bestD .lt xs = some d)
    (h : post X.K Ex m H (.ok d S) (fun d m' _ H' => ∀ w, Rep m' H' d w → Q w H')) : wpAny (model X.prog X.w) X.A (call (.builtin "min") [.ref a]) (EP X pins σ Q) X.xe s := by
  obtain ⟨hall, hd⟩ := best_some hb
  have hn : 0 < its.toArray.size := by
    have n : its.toArray.size = xs.length := by rw [List.size_toArray, ← rv.length, rs.length]
    have := (List.getElem?_eq_some_iff.mp hd).1
    omega
  have cmp := mm_core hu I sr (o := .lt) (by decide) rs rv hall
  refine min_walk ?_
  have ne : ∀ {b : Addr} {o : Obj}, s.heap.get? b = some o → b ≠ s.heap.objs.size := fun e => Nat.ne_of_lt (Heap.lt_size e)
  have clo : ∀ {x : Obj} (s' : Shared) (h' : Heap) (tk : Nat), Lat s s' → (∀ b o, b < (s.heap.push x).objs.size → b ∉ [s.heap.objs.size] → s'.heap.get? b = some o → h'.get? b = some o) → Lat s { s' with heap := h', toks := tk } := fun {x} s' h' tk hl k => by
    obtain ⟨h1, t1, rfl, k1⟩ := hl
    exact ⟨h', tk, rfl, fun b o e => k b o (push_lt (Heap.lt_size e)) (by simpa using ne e) (k1 b o e)⟩
  have fin : ∀ {x : Obj} (v : Value) (h' : Heap) (tk : Nat), its.toArray[argBest (btOf .lt xs) (its.toArray.size - 1)]? = some v → (∀ b o, b ∉ [s.heap.objs.size] → (s.heap.push x).get? b = some o → h'.get? b = some o) → EP X pins σ Q v { s with heap := h', toks := tk } := fun {x} v h' tk hv k =>
    best_end I sr rs rv hd h hv fun b o e => k b o (by simpa using ne e) (Heap.get?_push_of_some _ e)
  rcases hs with hs | hs
  · have hlt : a < s.heap.objs.size := by obtain ⟨_, e, _⟩ := hs; exact Heap.lt_size e
    refine wpAny_pyIter_list hs ?_
    refine ⟨s.heap.objs.size, [s.heap.objs.size, a], [s.heap.objs.size], _, _, _, btOf .lt xs, Lat s, rfl, Walks.list (A := X.A.in1) (I.ok.hd hc) _ a (Nat.ne_of_lt hlt) its.toArray, ⟨⟨_, Heap.get?_push_size _ rfl, rfl, rfl⟩, hs.push _⟩, fun b hb => ?_, hn, ⟨_, s.toks, rfl, fun b o e => Heap.get?_push_of_some _ e⟩, clo, cmp, fin⟩
    rcases List.mem_cons.mp hb with rfl | hb
    · exact push_top
    · rw [List.mem_singleton.mp hb]; exact push_lt hlt
  · have hlt : a < s.heap.objs.size := by obtain ⟨_, e, _⟩ := hs; exact Heap.lt_size e
    refine wpAny_pyIter_tuple hs ?_
    refine ⟨s.heap.objs.size, [s.heap.objs.size, a], [s.heap.objs.size], _, _, _, btOf .lt xs, Lat s, rfl, Walks.tuple (A := X.A.in1) (I.ok.hd hc) _ a (Nat.ne_of_lt hlt) its.toArray, ⟨⟨_, Heap.get?_push_size _ rfl, rfl, rfl⟩, hs.push _⟩, fun b hb => ?_, hn, ⟨_, s.toks, rfl, fun b o e => Heap.get?_push_of_some _ e⟩, clo, cmp, fin⟩
    rcases List.mem_cons.mp hb with rfl | hb
    · exact push_top
    · rw [List.mem_singleton.mp hb]; exact push_lt hlt
theorem min_of_2 (hc : X.calm = true) (hu : X.A.units + 27 < cLine) {Ex : Str → Option Nat → List Addr → Store → Hp → Prop} {pins : List (Addr × Obj)} {σ : L2.St} {H : Hp} {s : Shared} {m : List Addr} {S : Store} {Q : VK} {xs : List D} {vs : List V} {a b : Value} {d : D} (I : Inv X pins σ H s) (sr : SR X.K m S H)
    (rs : Reps m H xs vs) (rv : Vals vs [a, b]) (hb : bestD .lt xs = some d)
    (h : post X.K Ex m H (.ok d S) (fun d m' _ H' => ∀ w, Rep m' H' d w → Q w H')) : wpAny (model X.prog X.w) X.A (call (.builtin "min") [a, b]) (EP X pins σ Q) X.xe s := by
  obtain ⟨hall, hd⟩ := best_some hb
  have cmp := mm_core hu I sr (o := .lt) (by decide) rs rv hall
  have hs : (s.heap.push { cls := .type "tuple", data := .seq #[a, b] }).IsTuple s.heap.objs.size [a, b].toArray := ⟨_, Heap.get?_push_size _ rfl, rfl, _, rfl⟩
  have ne : ∀ {b : Addr} {o : Obj}, s.heap.get? b = some o → b ≠ s.heap.objs.size := fun e => Nat.ne_of_lt (Heap.lt_size e)
  refine min_args2 (wpAny_pyIter_tuple hs ?_)
  refine ⟨_, [_, s.heap.objs.size], [_], _, _, _, btOf .lt xs, Lat s, rfl, Walks.tuple (A := X.A.in1) (I.ok.hd hc) _ s.heap.objs.size (Nat.ne_of_lt push_top) [a, b].toArray, ⟨⟨_, Heap.get?_push_size _ rfl, rfl, rfl⟩, hs.push _⟩, fun b hb => ?_, (by simp), ⟨_, s.toks, rfl, fun b o e => Heap.get?_push_of_some _ (Heap.get?_push_of_some _ e)⟩, fun s' h' tk hl k => ?_, cmp, fun v h' tk hv k => ?_⟩
  · rcases List.mem_cons.mp hb with rfl | hb
    · exact push_top
    · rw [List.mem_singleton.mp hb]; exact push_lt push_top
  · obtain ⟨h1, t1, rfl, k1⟩ := hl
    refine ⟨h', tk, rfl, fun b o e => k b o (push_lt (push_lt (Heap.lt_size e))) ?_ (k1 b o e)⟩
    have h1 := Heap.lt_size e
    intro hm
    rw [List.mem_singleton.mp hm, Heap.size_push] at h1
    exact Nat.lt_irrefl _ (Nat.lt_of_succ_lt h1)
  · refine best_end I sr rs rv hd h hv fun b o e => k b o ?_ (Heap.get?_push_of_some _ (Heap.get?_push_of_some _ e))
    have h1 := Heap.lt_size e
    intro hm
    rw [List.mem_singleton.mp hm, Heap.size_push] at h1
    exact Nat.lt_irrefl _ (Nat.lt_of_succ_lt h1)
theorem min_of_3 (hc : X.calm = true) (hu : X.A.units + 27 < cLine) {Ex : Str → Option Nat → List Addr → Store → Hp → Prop} {pins : List (Addr × Obj)} {σ : L2.St} {H : Hp} {s : Shared} {m : List Addr} {S : Store} {Q : VK} {xs : List D} {vs : List V} {a b c : Value} {d : D} (I : Inv X pins σ H s) (sr : SR X.K m S H)
    (rs : Reps m H xs vs) (rv : Vals vs [a, b, c]) (hb : bestD .lt xs = some d)
    (h : post X.K Ex m H (.ok d S) (fun d m' _ H' => ∀ w, Rep m' H' d w → Q w H')) : wpAny (model X.prog X.w) X.A (call (.builtin "min") [a, b, c]) (EP X pins σ Q) X.xe s := by
  obtain ⟨hall, hd⟩ := best_some hb
  have cmp := mm_core hu I sr (o := .lt) (by decide) rs rv hall
  have hs : (s.heap.push { cls := .type "tuple", data := .seq #[a, b, c] }).IsTuple s.heap.objs.size [a, b, c].toArray := ⟨_, Heap.get?_push_size _ rfl, rfl, _, rfl⟩
  have ne : ∀ {b : Addr} {o : Obj}, s.heap.get? b = some o → b ≠ s.heap.objs.size := fun e => Nat.ne_of_lt (Heap.lt_size e)
  refine min_args3 (wpAny_pyIter_tuple hs ?_)
  refine ⟨_, [_, s.heap.objs.size], [_], _, _, _, btOf .lt xs, Lat s, rfl, Walks.tuple (A := X.A.in1) (I.ok.hd hc) _ s.heap.objs.size (Nat.ne_of_lt push_top) [a, b, c].toArray, ⟨⟨_, Heap.get?_push_size _ rfl, rfl, rfl⟩, hs.push _⟩, fun b hb => ?_, (by simp), ⟨_, s.toks, rfl, fun b o e => Heap.get?_push_of_some _ (Heap.get?_push_of_some _ e)⟩, fun s' h' tk hl k => ?_, cmp, fun v h' tk hv k => ?_⟩
  · rcases List.mem_cons.mp hb with rfl | hb
    · exact push_top
    · rw [List.mem_singleton.mp hb]; exact push_lt push_top
  · obtain ⟨h1, t1, rfl, k1⟩ := hl
    refine ⟨h', tk, rfl, fun b o e => k b o (push_lt (push_lt (Heap.lt_size e))) ?_ (k1 b o e)⟩
    have h1 := Heap.lt_size e
    intro hm
    rw [List.mem_singleton.mp hm, Heap.size_push] at h1
    exact Nat.lt_irrefl _ (Nat.lt_of_succ_lt h1)
  · refine best_end I sr rs rv hd h hv fun b o e => k b o ?_ (Heap.get?_push_of_some _ (Heap.get?_push_of_some _ e))
    have h1 := Heap.lt_size e
    intro hm
    rw [List.mem_singleton.mp hm, Heap.size_push] at h1
    exact Nat.lt_irrefl _ (Nat.lt_of_succ_lt h1)
theorem min_of_4 (hc : X.calm = true) (hu : X.A.units + 27 < cLine) {Ex : Str → Option Nat → List Addr → Store → Hp → Prop} {pins : List (Addr × Obj)} {σ : L2.St} {H : Hp} {s : Shared} {m : List Addr} {S : Store} {Q : VK} {xs : List D} {vs : List V} {a b c e : Value} {d : D} (I : Inv X pins σ H s) (sr : SR X.K m S H)
    (rs : Reps m H xs vs) (rv : Vals vs [a, b, c, e]) (hb : bestD .lt xs = some d)
    (h : post X.K Ex m H (.ok d S) (fun d m' _ H' => ∀ w, Rep m' H' d w → Q w H')) : wpAny (model X.prog X.w) X.A (call (.builtin "min") [a, b, c, e]) (EP X pins σ Q) X.xe s := by
  obtain ⟨hall, hd⟩ := best_some hb
  have cmp := mm_core hu I sr (o := .lt) (by decide) rs rv hall
  have hs : (s.heap.push { cls := .type "tuple", data := .seq #[a, b, c, e] }).IsTuple s.heap.objs.size [a, b, c, e].toArray := ⟨_, Heap.get?_push_size _ rfl, rfl, _, rfl⟩
  have ne : ∀ {b : Addr} {o : Obj}, s.heap.get? b = some o → b ≠ s.heap.objs.size := fun e => Nat.ne_of_lt (Heap.lt_size e)
  refine min_args4 (wpAny_pyIter_tuple hs ?_)
  refine ⟨_, [_, s.heap.objs.size], [_], _, _, _, btOf .lt xs, Lat s, rfl, Walks.tuple (A := X.A.in1) (I.ok.hd hc) _ s.heap.objs.size (Nat.ne_of_lt push_top) [a, b, c, e].toArray, ⟨⟨_, Heap.get?_push_size _ rfl, rfl, rfl⟩, hs.push _⟩, fun b hb => ?_, (by simp), ⟨_, s.toks, rfl, fun b o e => Heap.get?_push_of_some _ (Heap.get?_push_of_some _ e)⟩, fun s' h' tk hl k => ?_, cmp, fun v h' tk hv k => ?_⟩
  · rcases List.mem_cons.mp hb with rfl | hb
    · exact push_top
    · rw [List.mem_singleton.mp hb]; exact push_lt push_top
  · obtain ⟨h1, t1, rfl, k1⟩ := hl
    refine ⟨h', tk, rfl, fun b o e => k b o (push_lt (push_lt (Heap.lt_size e))) ?_ (k1 b o e)⟩
    have h1 := Heap.lt_size e
    intro hm
    rw [List.mem_singleton.mp hm, Heap.size_push] at h1
    exact Nat.lt_irrefl _ (Nat.lt_of_succ_lt h1)
  · refine best_end I sr rs rv hd h hv fun b o e => k b o ?_ (Heap.get?_push_of_some _ (Heap.get?_push_of_some _ e))
    have h1 := Heap.lt_size e
    intro hm
    rw [List.mem_singleton.mp hm, Heap.size_push] at h1
    exact Nat.lt_irrefl _ (Nat.lt_of_succ_lt h1)
theorem call_min (hc : X.calm = true) (hu : X.A.units + 27 < cLine) : CallR X (.builtin "min") (rCD X.K (mnD .lt)) := by
  intro pins s σ H xs us Q I r h
  obtain ⟨Ex, m, S, ds, sr, rs, h⟩ := h
  unfold mnD at h
  split at h
  · cases rs with
    | cons r1 rn =>
      cases rn
      cases r1 with
      | ref ea =>
        obtain ⟨o, e0, h⟩ := getL_bind h
        obtain ⟨d, hb, h⟩ := ofD_some h
        obtain ⟨vs, q, ra⟩ := sr.sq_at e0 ea
        obtain ⟨its, rv, pl, _⟩ := I.list q
        rw [Vals.ref1 r]
        exact min_one hc hu I sr ra rv (.inl pl.isList) hb h
  · cases rs with
    | cons r1 rn =>
      cases rn
      cases r1 with
      | tup ea ra =>
        obtain ⟨d, hb, h⟩ := ofD_some h
        obtain ⟨its, rv, pl, _⟩ := I.tuple (SqT.of ea)
        rw [Vals.ref1 r]
        exact min_one hc hu I sr ra rv (.inr pl) hb h
  · obtain ⟨d, hb, h⟩ := ofD_some h
    cases rs with | cons a1 rs => cases rs with | cons a2 rs => cases rs; cases r with | cons b1 r => cases r with | cons b2 r => cases r; exact min_of_2 hc hu I sr (.cons a1 (.cons a2 .nil)) (.cons b1 (.cons b2 .nil)) hb h
  · obtain ⟨d, hb, h⟩ := ofD_some h
    cases rs with | cons a1 rs => cases rs with | cons a2 rs => cases rs with | cons a3 rs => cases rs; cases r with | cons b1 r => cases r with | cons b2 r => cases r with | cons b3 r => cases r; exact min_of_3 hc hu I sr (.cons a1 (.cons a2 (.cons a3 .nil))) (.cons b1 (.cons b2 (.cons b3 .nil))) hb h
  · obtain ⟨d, hb, h⟩ := ofD_some h
    cases rs with | cons a1 rs => cases rs with | cons a2 rs => cases rs with | cons a3 rs => cases rs with | cons a4 rs => cases rs; cases r with | cons b1 r => cases r with | cons b2 r => cases r with | cons b3 r => cases r with | cons b4 r => cases r; exact min_of_4 hc hu I sr (.cons a1 (.cons a2 (.cons a3 (.cons a4 .nil)))) (.cons b1 (.cons b2 (.cons b3 (.cons b4 .nil)))) hb h
  · exact h.elim
/-- max of one list or tuple -/
theorem max_one (hc : X.calm = true) (hu : X.A.units + 27 < cLine) {Ex : Str → Option Nat → List Addr → Store → Hp → Prop} {pins : List (Addr × Obj)} {σ : L2.St} {H : Hp} {s : Shared} {m : List Addr} {S : Store} {Q : VK} {xs : List D} {vs : List V} {its : List Value} {d : D} {a : Addr} (I : Inv X pins σ H s) (sr : SR X.K m S H)
    (rs : Reps m H xs vs) (rv : Vals vs its) (hs : s.heap.IsList a its.toArray ∨ s.heap.IsTuple a its.toArray) (hb : bestD .gt xs = some d)
    (h : post X.K Ex m H (.ok d S) (fun d m' _ H' => ∀ w, Rep m' H' d w → Q w H')) : wpAny (model X.prog X.w) X.A (call (.builtin "max") [.ref a]) (EP X pins σ Q) X.xe s := by
  obtain ⟨hall, hd⟩ := best_some hb
  have hn : 0 < its.toArray.size := by
    have n : its.toArray.size = xs.length := by rw [List.size_toArray, ← rv.length, rs.length]
    have := (List.getElem?_eq_some_iff.mp hd).1
    omega
  have cmp := mm_core hu I sr (o := .gt) (by decide) rs rv hall
  refine max_walk ?_
  have ne : ∀ {b : Addr} {o : Obj}, s.heap.get? b = some o → b ≠ s.heap.objs.size := fun e => Nat.ne_of_lt (Heap.lt_size e)
  have clo : ∀ {x : Obj} (s' : Shared) (h' : Heap) (tk : Nat), Lat s s' → (∀ b o, b < (s.heap.push x).objs.size → b ∉ [s.heap.objs.size] → s'.heap.get? b = some o → h'.get? b = some o) → Lat s { s' with heap := h', toks := tk } := fun {x} s' h' tk hl k => by
    obtain ⟨h1, t1, rfl, k1⟩ := hl
    exact ⟨h', tk, rfl, fun b o e => k b o (push_lt (Heap.lt_size e)) (by simpa using ne e) (k1 b o e)⟩
  have fin : ∀ {x : Obj} (v : Value) (h' : Heap) (tk : Nat), its.toArray[argBest (btOf .gt xs) (its.toArray.size - 1)]? = some v → (∀ b o, b ∉ [s.heap.objs.size] → (s.heap.push x).get? b = some o → h'.get? b = some o) → EP X pins σ Q v { s with heap := h', toks := tk } := fun {x} v h' tk hv k =>
    best_end I sr rs rv hd h hv fun b o e => k b o (by simpa using ne e) (Heap.get?_push_of_some _ e)
  rcases hs with hs | hs
  · have hlt : a < s.heap.objs.size := by obtain ⟨_, e, _⟩ := hs; exact Heap.lt_size e
    refine wpAny_pyIter_list hs ?_
    refine ⟨s.heap.objs.size, [s.heap.objs.size, a], [s.heap.objs.size], _, _, _, btOf .gt xs, Lat s, rfl, Walks.list (A := X.A.in1) (I.ok.hd hc) _ a (Nat.ne_of_lt hlt) its.toArray, ⟨⟨_, Heap.get?_push_size _ rfl, rfl, rfl⟩, hs.push _⟩, fun b hb => ?_, hn, ⟨_, s.toks, rfl, fun b o e => Heap.get?_push_of_some _ e⟩, clo, cmp, fin⟩
    rcases List.mem_cons.mp hb with rfl | hb
    · exact push_top
    · rw [List.mem_singleton.mp hb]; exact push_lt hlt
  · have hlt : a < s.heap.objs.size := by obtain ⟨_, e, _⟩ := hs; exact Heap.lt_size e
    refine wpAny_pyIter_tuple hs ?_
    refine ⟨s.heap.objs.size, [s.heap.objs.size, a], [s.heap.objs.size], _, _, _, btOf .gt xs, Lat s, rfl, Walks.tuple (A := X.A.in1) (I.ok.hd hc) _ a (Nat.ne_of_lt hlt) its.toArray, ⟨⟨_, Heap.get?_push_size _ rfl, rfl, rfl⟩, hs.push _⟩, fun b hb => ?_, hn, ⟨_, s.toks, rfl, fun b o e => Heap.get?_push_of_some _ e⟩, clo, cmp, fin⟩
    rcases List.mem_cons.mp hb with rfl | hb
    · exact push_top
    · rw [List.mem_singleton.mp hb]; exact push_lt hlt
theorem max_of_2 (hc : X.calm = true) (hu : X.A.units + 27 < cLine) {Ex : Str → Option Nat → List Addr → Store → Hp → Prop} {pins : List (Addr × Obj)} {σ : L2.St} {H : Hp} {s : Shared} {m : List Addr} {S : Store} {Q : VK} {xs : List D} {vs : List V} {a b : Value} {d : D} (I : Inv X pins σ H s) (sr : SR X.K m S H)
    (rs : Reps m H xs vs) (rv : Vals vs [a, b]) (hb : bestD .gt xs = some d)
    (h : post X.K Ex m H (.ok d S) (fun d m' _ H' => ∀ w, Rep m' H' d w → Q w H')) : wpAny (model X.prog X.w) X.A (call (.builtin "max") [a, b]) (EP X pins σ Q) X.xe s := by
  obtain ⟨hall, hd⟩ := best_some hb
  have cmp := mm_core hu I sr (o := .gt) (by decide) rs rv hall
  have hs : (s.heap.push { cls := .type "tuple", data := .seq #[a, b] }).IsTuple s.heap.objs.size [a, b].toArray := ⟨_, Heap.get?_push_size _ rfl, rfl, _, rfl⟩
  have ne : ∀ {b : Addr} {o : Obj}, s.heap.get? b = some o → b ≠ s.heap.objs.size := fun e => Nat.ne_of_lt (Heap.lt_size e)
  refine max_args2 (wpAny_pyIter_tuple hs ?_)
  refine ⟨_, [_, s.heap.objs.size], [_], _, _, _, btOf .gt xs, Lat s, rfl, Walks.tuple (A := X.A.in1) (I.ok.hd hc) _ s.heap.objs.size (Nat.ne_of_lt push_top) [a, b].toArray, ⟨⟨_, Heap.get?_push_size _ rfl, rfl, rfl⟩, hs.push _⟩, fun b hb => ?_, (by simp), ⟨_, s.toks, rfl, fun b o e => Heap.get?_push_of_some _ (Heap.get?_push_of_some _ e)⟩, fun s' h' tk hl k => ?_, cmp, fun v h' tk hv k => ?_⟩
  · rcases List.mem_cons.mp hb with rfl | hb
    · exact push_top
    · rw [List.mem_singleton.mp hb]; exact push_lt push_top
  · obtain ⟨h1, t1, rfl, k1⟩ := hl
    refine ⟨h', tk, rfl, fun b o e => k b o (push_lt (push_lt (Heap.lt_size e))) ?_ (k1 b o e)⟩
    have h1 := Heap.lt_size e
    intro hm
    rw [List.mem_singleton.mp hm, Heap.size_push] at h1
    exact Nat.lt_irrefl _ (Nat.lt_of_succ_lt h1)
  · refine best_end I sr rs rv hd h hv fun b o e => k b o ?_ (Heap.get?_push_of_some _ (Heap.get?_push_of_some _ e))
    have h1 := Heap.lt_size e
    intro hm
    rw [List.mem_singleton.mp hm, Heap.size_push] at h1
    exact Nat.lt_irrefl _ (Nat.lt_of_succ_lt h1)
theorem max_of_3 (hc : X.calm = true) (hu : X.A.units + 27 < cLine) {Ex : Str → Option Nat → List Addr → Store → Hp → Prop} {pins : List (Addr × Obj)} {σ : L2.St} {H : Hp} {s : Shared} {m : List Addr} {S : Store} {Q : VK} {xs : List D} {vs : List V} {a b c : Value} {d : D} (I : Inv X pins σ H s) (sr : SR X.K m S H)
    (rs : Reps m H xs vs) (rv : Vals vs [a, b, c]) (hb : bestD .gt xs = some d)
    (h : post X.K Ex m H (.ok d S) (fun d m' _ H' => ∀ w, Rep m' H' d w → Q w H')) : wpAny (model X.prog X.w) X.A (call (.builtin "max") [a, b, c]) (EP X pins σ Q) X.xe s := by
  obtain ⟨hall, hd⟩ := best_some hb
  have cmp := mm_core hu I sr (o := .gt) (by decide) rs rv hall
  have hs : (s.heap.push { cls := .type "tuple", data := .seq #[a, b, c] }).IsTuple s.heap.objs.size [a, b, c].toArray := ⟨_, Heap.get?_push_size _ rfl, rfl, _, rfl⟩
  have ne : ∀ {b : Addr} {o : Obj}, s.heap.get? b = some o → b ≠ s.heap.objs.size := fun e => Nat.ne_of_lt (Heap.lt_size e)
  refine max_args3 (wpAny_pyIter_tuple hs ?_)
  refine ⟨_, [_, s.heap.objs.size], [_], _, _, _, btOf .gt xs, Lat s, rfl, Walks.tuple (A := X.A.in1) (I.ok.hd hc) _ s.heap.objs.size (Nat.ne_of_lt push_top) [a, b, c].toArray, ⟨⟨_, Heap.get?_push_size _ rfl, rfl, rfl⟩, hs.push _⟩, fun b hb => ?_, (by simp), ⟨_, s.toks, rfl, fun b o e => Heap.get?_push_of_some _ (Heap.get?_push_of_some _ e)⟩, fun s' h' tk hl k => ?_, cmp, fun v h' tk hv k => ?_⟩
  · rcases List.mem_cons.mp hb with rfl | hb
    · exact push_top
    · rw [List.mem_singleton.mp hb]; exact push_lt push_top
  · obtain ⟨h1, t1, rfl, k1⟩ := hl
    refine ⟨h', tk, rfl, fun b o e => k b o (push_lt (push_lt (Heap.lt_size e))) ?_ (k1 b o e)⟩
    have h1 := Heap.lt_size e
    intro hm
    rw [List.mem_singleton.mp hm, Heap.size_push] at h1
    exact Nat.lt_irrefl _ (Nat.lt_of_succ_lt h1)
  · refine best_end I sr rs rv hd h hv fun b o e => k b o ?_ (Heap.get?_push_of_some _ (Heap.get?_push_of_some _ e))
    have h1 := Heap.lt_size e
    intro hm
    rw [List.mem_singleton.mp hm, Heap.size_push] at h1
    exact Nat.lt_irrefl _ (Nat.lt_of_succ_lt h1)
theorem max_of_4 (hc : X.calm = true) (hu : X.A.units + 27 < cLine) {Ex : Str → Option Nat → List Addr → Store → Hp → Prop} {pins : List (Addr × Obj)} {σ : L2.St} {H : Hp} {s : Shared} {m : List Addr} {S : Store} {Q : VK} {xs : List D} {vs : List V} {a b c e : Value} {d : D} (I : Inv X pins σ H s) (sr : SR X.K m S H)
    (rs : Reps m H xs vs) (rv : Vals vs [a, b, c, e]) (hb : bestD .gt xs = some d)
    (h : post X.K Ex m H (.ok d S) (fun d m' _ H' => ∀ w, Rep m' H' d w → Q w H')) : wpAny (model X.prog X.w) X.A (call (.builtin "max") [a, b, c, e]) (EP X pins σ Q) X.xe s := by
  obtain ⟨hall, hd⟩ := best_some hb
  have cmp := mm_core hu I sr (o := .gt) (by decide) rs rv hall
  have hs : (s.heap.push { cls := .type "tuple", data := .seq #[a, b, c, e] }).IsTuple s.heap.objs.size [a, b, c, e].toArray := ⟨_, Heap.get?_push_size _ rfl, rfl, _, rfl⟩
  have ne : ∀ {b : Addr} {o : Obj}, s.heap.get? b = some o → b ≠ s.heap.objs.size := fun e => Nat.ne_of_lt (Heap.lt_size e)
  refine max_args4 (wpAny_pyIter_tuple hs ?_)
  refine ⟨_, [_, s.heap.objs.size], [_], _, _, _, btOf .gt xs, Lat s, rfl, Walks.tuple (A := X.A.in1) (I.ok.hd hc) _ s.heap.objs.size (Nat.ne_of_lt push_top) [a, b, c, e].toArray, ⟨⟨_, Heap.get?_push_size _ rfl, rfl, rfl⟩, hs.push _⟩, fun b hb => ?_, (by simp), ⟨_, s.toks, rfl, fun b o e => Heap.get?_push_of_some _ (Heap.get?_push_of_some _ e)⟩, fun s' h' tk hl k => ?_, cmp, fun v h' tk hv k => ?_⟩
  · rcases List.mem_cons.mp hb with rfl | hb
    · exact push_top
    · rw [List.mem_singleton.mp hb]; exact push_lt push_top
  · obtain ⟨h1, t1, rfl, k1⟩ := hl
    refine ⟨h', tk, rfl, fun b o e => k b o (push_lt (push_lt (Heap.lt_size e))) ?_ (k1 b o e)⟩
    have h1 := Heap.lt_size e
    intro hm
    rw [List.mem_singleton.mp hm, Heap.size_push] at h1
    exact Nat.lt_irrefl _ (Nat.lt_of_succ_lt h1)
  · refine best_end I sr rs rv hd h hv fun b o e => k b o ?_ (Heap.get?_push_of_some _ (Heap.get?_push_of_some _ e))
    have h1 := Heap.lt_size e
    intro hm
    rw [List.mem_singleton.mp hm, Heap.size_push] at h1
    exact Nat.lt_irrefl _ (Nat.lt_of_succ_lt h1)
theorem call_max (hc : X.calm = true) (hu : X.A.units + 27 < cLine) : CallR X (.builtin "max") (rCD X.K (mnD .gt)) := by
  intro pins s σ H xs us Q I r h
  obtain ⟨Ex, m, S, ds, sr, rs, h⟩ := h
  unfold mnD at h
  split at h
  · cases rs with
    | cons r1 rn =>
      cases rn
      cases r1 with
      | ref ea =>
        obtain ⟨o, e0, h⟩ := getL_bind h
        obtain ⟨d, hb, h⟩ := ofD_some h
        obtain ⟨vs, q, ra⟩ := sr.sq_at e0 ea
        obtain ⟨its, rv, pl, _⟩ := I.list q
        rw [Vals.ref1 r]
        exact max_one hc hu I sr ra rv (.inl pl.isList) hb h
  · cases rs with
    | cons r1 rn =>
      cases rn
      cases r1 with
      | tup ea ra =>
        obtain ⟨d, hb, h⟩ := ofD_some h
        obtain ⟨its, rv, pl, _⟩ := I.tuple (SqT.of ea)
        rw [Vals.ref1 r]
        exact max_one hc hu I sr ra rv (.inr pl) hb h
  · obtain ⟨d, hb, h⟩ := ofD_some h
    cases rs with | cons a1 rs => cases rs with | cons a2 rs => cases rs; cases r with | cons b1 r => cases r with | cons b2 r => cases r; exact max_of_2 hc hu I sr (.cons a1 (.cons a2 .nil)) (.cons b1 (.cons b2 .nil)) hb h
  · obtain ⟨d, hb, h⟩ := ofD_some h
    cases rs with | cons a1 rs => cases rs with | cons a2 rs => cases rs with | cons a3 rs => cases rs; cases r with | cons b1 r => cases r with | cons b2 r => cases r with | cons b3 r => cases r; exact max_of_3 hc hu I sr (.cons a1 (.cons a2 (.cons a3 .nil))) (.cons b1 (.cons b2 (.cons b3 .nil))) hb h
  · obtain ⟨d, hb, h⟩ := ofD_some h
    cases rs with | cons a1 rs => cases rs with | cons a2 rs => cases rs with | cons a3 rs => cases rs with | cons a4 rs => cases rs; cases r with | cons b1 r => cases r with | cons b2 r => cases r with | cons b3 r => cases r with | cons b4 r => cases r; exact max_of_4 hc hu I sr (.cons a1 (.cons a2 (.cons a3 (.cons a4 .nil)))) (.cons b1 (.cons b2 (.cons b3 (.cons b4 .nil)))) hb h
  · exact h.elim
end
end NL

namespace NL
open PySem PySem.Spec PyProof.Rows L2
/-! ### built-in calls -/
inductive Blt where | abs | int | len | min | max | list | tuple | sum
  deriving DecidableEq
def intsD : List D → Option (List Int)
  | [] => some []
  | .int i :: r => (intsD r).map (i :: ·)
  | _ => none
def bltD : Blt → List D → M D
  | .abs, [.int i] => pure (.int (if i < 0 then -i else i))
  | .int, [.int i] => pure (.int i)
  | .int, [.bl b] => pure (.int (if b = true then 1 else 0))
  | .len, [.tup xs] => pure (.int xs.length)
  | .len, [.ref l] => getL l >>= fun xs => pure (.int xs.length)
  | .min, ds => mnD .lt ds
  | .max, ds => mnD .gt ds
  | .list, [.tup xs] => alloc (.lst xs)
  | .list, [.ref l] => getL l >>= fun xs => alloc (.lst xs)
  | .tuple, [.tup xs] => pure (.tup xs)
  | .tuple, [.ref l] => getL l >>= fun xs => pure (.tup xs)
  | .sum, [.ref l] => getL l >>= fun xs => match intsD xs with | some ns => pure (.int ns.sum) | none => die
  | _, _ => die
def Blt.name : Blt → Str
  | .abs => "abs" | .int => "int" | .len => "len" | .min => "min" | .max => "max" | .list => "list" | .tuple => "tuple" | .sum => "sum"
def Blt.val : Blt → Value
  | .abs => .builtin "abs" | .int => .type "int" | .len => .builtin "len" | .min => .builtin "min" | .max => .builtin "max" | .list => .type "list" | .tuple => .type "tuple" | .sum => .builtin "sum"
theorem CallR.imp {X : Cx} {f : Value} {r r' : List V → Hp → VK → Prop} (h : CallR X f r) (k : ∀ vs H Q, r' vs H Q → r vs H Q) : CallR X f r' := fun pins s σ H xs us Q I rx q => h pins s σ H xs us Q I rx (k _ _ _ q)
theorem CallR.or {X : Cx} {f : Value} {r r' : List V → Hp → VK → Prop} (h : CallR X f r) (h' : CallR X f r') : CallR X f (fun vs H Q => r vs H Q ∨ r' vs H Q) := fun pins s σ H xs us Q I rx q => q.elim (h pins s σ H xs us Q I rx) (h' pins s σ H xs us Q I rx)
theorem Reps.one {m : List Addr} {H : Hp} {d : D} {vs : List V} (h : Reps m H [d] vs) : ∃ v, vs = [v] ∧ Rep m H d v := by
  cases h with
  | cons a b => cases b; exact ⟨_, rfl, a⟩
theorem intsD_some {m : List Addr} {H : Hp} : ∀ {ds : List D} {ns : List Int} {vs : List V}, intsD ds = some ns → Reps m H ds vs → vs = ns.map V.int
  | [], _, _, h, r => by cases r; cases h; rfl
  | d :: ds, ns, _, h, r => by
    cases r with
    | cons r1 r2 =>
      cases r1 <;> simp only [intsD] at h <;> try cases h
      obtain ⟨ns', e, rfl⟩ := Option.map_eq_some_iff.mp h
      rw [intsD_some e r2]; rfl
section
variable {K : PySem.W.Frag} {m : List Addr} {S : Store} {H : Hp} {Q : VK} {E : Str → Option Nat → List Addr → Store → Hp → Prop}
theorem post_tup {xs : List D} {vs : List V} (s : SR K m S H) (h : post K E m H (.ok (.tup xs) S) (fun d m' _ H' => ∀ w, Rep m' H' d w → Q w H')) (r : Reps m H xs vs) : ∀ p, H p = none → Q (.ref p) (upd H p (.tup vs)) := fun p hp =>
  post_gr h (Gr.upd_new hp) (s.new hp) _ (.tup upd_same (Reps.mono (Gr.upd_new hp) _ _ r))
end
section
variable {X : Cx}
theorem call_bltD (hc : X.calm = true) (hu : X.A.units + 65 < cLine) : ∀ b : Blt, CallR X b.val (rCD X.K (bltD b))
  | .abs => by
    refine CallR.imp call_abs ?_
    intro vs H Q h
    obtain ⟨Ex, m, S, ds, s, rs, h⟩ := h
    rcases ds with _ | ⟨d, _ | ⟨d2, ds⟩⟩
    · exact (show False from h).elim
    · obtain ⟨v, rfl, r⟩ := rs.one
      cases r <;> try exact (show False from h).elim
      exact ⟨_, rfl, post_val s h (.int _)⟩
    · cases d <;> exact (show False from h).elim
  | .int => by
    refine CallR.imp call_int1 ?_
    intro vs H Q h
    obtain ⟨Ex, m, S, ds, s, rs, h⟩ := h
    rcases ds with _ | ⟨d, _ | ⟨d2, ds⟩⟩
    · exact (show False from h).elim
    · obtain ⟨v, rfl, r⟩ := rs.one
      cases r <;> try exact (show False from h).elim
      · exact .inr ⟨_, rfl, post_val s h (.int _)⟩
      · exact .inl ⟨_, rfl, post_val s h (.int _)⟩
    · cases d <;> exact (show False from h).elim
  | .len => by
    refine CallR.imp call_len_seq ?_
    intro vs H Q h
    obtain ⟨Ex, m, S, ds, s, rs, h⟩ := h
    rcases ds with _ | ⟨d, _ | ⟨d2, ds⟩⟩
    · exact (show False from h).elim
    · obtain ⟨v, rfl, r⟩ := rs.one
      cases r <;> try exact (show False from h).elim
      · rename_i a xs vs ea ra
        exact ⟨a, vs, rfl, .inr (SqT.of ea), by rw [← ra.length]; exact post_val s h (.int _)⟩
      · rename_i l a ea
        obtain ⟨o, e0, hp⟩ := getL_bind h
        obtain ⟨ws, q, ra⟩ := s.sq_at e0 ea
        exact ⟨a, ws, rfl, .inl q, by rw [← ra.length]; exact post_val s hp (.int _)⟩
    · cases d <;> exact (show False from h).elim
  | .min => CallR.imp (call_min hc (by omega)) fun _ _ _ h => h
  | .max => CallR.imp (call_max hc (by omega)) fun _ _ _ h => h
  | .list => by
    refine CallR.imp call_list_of ?_
    intro vs H Q h
    obtain ⟨Ex, m, S, ds, s, rs, h⟩ := h
    rcases ds with _ | ⟨d, _ | ⟨d2, ds⟩⟩
    · exact (show False from h).elim
    · obtain ⟨v, rfl, r⟩ := rs.one
      cases r <;> try exact (show False from h).elim
      · rename_i a xs vs ea ra
        exact ⟨a, vs, rfl, .inr (SqT.of ea), post_alloc s h ra⟩
      · rename_i l a ea
        obtain ⟨o, e0, hp⟩ := getL_bind h
        obtain ⟨ws, q, ra⟩ := s.sq_at e0 ea
        exact ⟨a, ws, rfl, .inl q, post_alloc s hp ra⟩
    · cases d <;> exact (show False from h).elim
  | .tuple => by
    refine CallR.imp call_tuple_of ?_
    intro vs H Q h
    obtain ⟨Ex, m, S, ds, s, rs, h⟩ := h
    rcases ds with _ | ⟨d, _ | ⟨d2, ds⟩⟩
    · exact (show False from h).elim
    · obtain ⟨v, rfl, r⟩ := rs.one
      cases r <;> try exact (show False from h).elim
      · rename_i a xs vs ea ra
        exact ⟨a, vs, rfl, .inr ⟨SqT.of ea, post_val s h (.tup ea ra)⟩⟩
      · rename_i l a ea
        obtain ⟨o, e0, hp⟩ := getL_bind h
        obtain ⟨ws, q, ra⟩ := s.sq_at e0 ea
        exact ⟨a, ws, rfl, .inl ⟨q, post_tup s hp ra⟩⟩
    · cases d <;> exact (show False from h).elim
  | .sum => by
    refine CallR.imp (cr_sum hc) ?_
    intro vs H Q h
    obtain ⟨Ex, m, S, ds, s, rs, h⟩ := h
    rcases ds with _ | ⟨d, _ | ⟨d2, ds⟩⟩
    · exact (show False from h).elim
    · obtain ⟨v, rfl, r⟩ := rs.one
      cases r <;> try exact (show False from h).elim
      rename_i l a ea
      obtain ⟨o, e0, hp⟩ := getL_bind h
      obtain ⟨ws, q, ra⟩ := s.sq_at e0 ea
      cases e : intsD (items o) with
      | none => rw [e] at hp; exact hp.elim
      | some ns =>
        rw [e] at hp
        have e2 := intsD_some e ra
        subst e2
        exact ⟨a, ns, rfl, q, post_val s hp (.int _)⟩
    · cases d <;> exact (show False from h).elim
/-! ### isinstance -/
/-- the name of a value's type -/
def tyD (S : Store) : D → Option String
  | .non => some "NoneType" | .bl _ => some "bool" | .int _ => some "int" | .str _ => some "str" | .tup _ => some "tuple"
  | .ref l => match S[l]? with
    | some _ => some "list"
    | none => none
inductive Ty where | int | bool | tuple | list | str
  deriving DecidableEq
def Ty.nm : Ty → String
  | .int => "int" | .bool => "bool" | .tuple => "tuple" | .list => "list" | .str => "str"
def Ty.name : Ty → Str
  | .int => "int" | .bool => "bool" | .tuple => "tuple" | .list => "list" | .str => "str"
def isiD (T : Ty) (d : D) : M D := fun S => match tyD S d with
  | some a => .ok (.bl (a == T.nm || (a == "bool" && T.nm == "int"))) S
  | none => .stuck
theorem kit_all : ∀ (T : Ty), (kitB "NoneType" T.nm = some (("NoneType" : String) == T.nm || (("NoneType" : String) == "bool" && T.nm == "int"))) ∧ (kitB "bool" T.nm = some (("bool" : String) == T.nm || (("bool" : String) == "bool" && T.nm == "int"))) ∧
    (kitB "int" T.nm = some (("int" : String) == T.nm || (("int" : String) == "bool" && T.nm == "int"))) ∧ (kitB "str" T.nm = some (("str" : String) == T.nm || (("str" : String) == "bool" && T.nm == "int"))) ∧
    (kitB "tuple" T.nm = some (("tuple" : String) == T.nm || (("tuple" : String) == "bool" && T.nm == "int"))) ∧ (kitB "list" T.nm = some (("list" : String) == T.nm || (("list" : String) == "bool" && T.nm == "int")))
  | .int => by decide +kernel
  | .bool => by decide +kernel
  | .tuple => by decide +kernel
  | .list => by decide +kernel
  | .str => by decide +kernel
theorem SqF.ty {K : PySem.W.Frag} {H : Hp} {a : Addr} {vs : List V} (h : SqF K H a vs) : TyX K H (.ref a) (.type "list") := by
  rcases h with ⟨o, h⟩ | ⟨o, its, n, h, hc, _⟩
  · exact .base (.frz h)
  · exact .kList h hc
/-- isinstance(x, T): what the call asks -/
theorem isi_of {Ex : Str → Option Nat → List Addr → Store → Hp → Prop} {K : PySem.W.Frag} {m : List Addr} {S : Store} {H : Hp} {Q : VK} {T : Ty} {d : D} {v : V} (s : SR K m S H) (r : Rep m H d v) (h : post K Ex m H (isiD T d S) (fun d m' _ H' => ∀ w, Rep m' H' d w → Q w H')) : rIsi K [v, .ty T.nm] H Q := by
  have fin : ∀ {a : String} {b : Bool}, tyD S d = some a → TyX K H v (.type a) → kitB a T.nm = some (a == T.nm || (a == "bool" && T.nm == "int")) → rIsi K [v, .ty T.nm] H Q := fun {a b} e ty hk => by
    unfold isiD at h
    rw [e] at h
    exact ⟨v, .ty T.nm, .type a, .type T.nm, _, rfl, .ty _, ty, kit_ty hk, post_val s h (.bl _)⟩
  obtain ⟨k1, k2, k3, k4, k5, k6⟩ := kit_all T
  cases r with
  | non => exact fin (b := true) rfl (.base .non) k1
  | bl b => exact fin (b := true) rfl (.base (.bl b)) k2
  | int i => exact fin (b := true) rfl (.base (.int i)) k3
  | str x => exact fin (b := true) rfl (.base (.str x)) k4
  | tup e _ => exact fin (b := true) rfl (.base (.tup e)) k5
  | ref e =>
    rename_i l a
    cases e0 : S[l]? with
    | none => unfold isiD tyD at h; dsimp only at h; rw [e0] at h; exact h.elim
    | some o =>
      have ty : TyX K H (.ref a) (.type "list") := by
        have q := s.ob l o a e0 e
        cases o with
        | lst xs => obtain ⟨vs, q, _⟩ := q; exact .base (.lst q)
        | frz xs => obtain ⟨vs, q, _⟩ := q; exact q.ty
      exact fin (b := true) (by unfold tyD; dsimp only; rw [e0]) ty k6
/-! ### slices -/
def cutD (xs : List D) (lo hi : Option Int) : List D := (xs.drop (HT.sIx xs.length 0 lo)).take (HT.sIx xs.length xs.length hi - HT.sIx xs.length 0 lo)
def bndM : Bool → D → M (Option Int)
  | false, _ => pure none
  | true, .int i => pure (some i)
  | _, _ => die
def slcD : D → Option Int → Option Int → M D
  | .ref l, lo, hi => getL l >>= fun xs => alloc (.lst (cutD xs lo hi))
  | _, _, _ => die
theorem Reps.cut {m : List Addr} {H : Hp} {xs : List D} {vs : List V} (r : Reps m H xs vs) (lo hi : Option Int) : Reps m H (cutD xs lo hi) (cutV vs lo hi) := by
  unfold cutD cutV
  rw [r.length]
  exact (r.drop _).take _
end
end NL

/-! The small language: expressions, statements, what they answer; how the machine's text is read as them. -/
namespace NL
open PySem PySem.Spec PyProof.Rows L2
/-- a target: a name, or names that a tuple is parted to -/
inductive Tg where
  | nm (i : Nat) | tp (is : List Nat)
mutual
inductive E where
  | var (i : Nat) | con (d : D)
  | bin (o : Bop) (a b : E) | neg (a : E) | not (a : E)
  | cmp (o : Cop) (a b : E) | chn (o o' : Cop) (a b c : E)
  | and (a b : E) | or (a b : E) | ite (c a b : E)
  | tup (es : Es) | lst (es : Es)
  | idx (a i : E) | slc (p q : Bool) (a lo hi : E)
  | call (f : Nat) (es : Es) | blt (b : Blt) (es : Es) | isi (a : E) (T : Ty)
  | comp (own : List Nat) (tg : Tg) (it : It) (c e : E)
inductive Es where
  | nil | cons (e : E) (es : Es)
inductive It where
  | val (e : E) | rng1 (b : E) | rng2 (a b : E)
end
mutual
inductive St where
  | set (i : Nat) (e : E) | unp (is : List Nat) (e : E) | setIx (o i e : E) | aug (i : Nat) (e : E)
  | expr (e : E) | app (i : Nat) (e : E) | ret (e : E) | ret0 | ifs (c : E) (a b : Sts) | for_ (tg : Tg) (it : It) (b : Sts) | whl (c : E) (b : Sts)
  | brk | cnt | pass | dead
inductive Sts where
  | nil | cons (s : St) (r : Sts)
end
abbrev Env := List (Option D)
inductive Flow where
  | nx (en : Env) | brk (en : Env) | cnt (en : Env) | ret (d : D) | exc (c : Str) (d : Option Nat) (en : Env)

/-! ### what they answer -/
/-- the list is still the same -/
noncomputable def ckD : Option (Nat × Ob) → M Unit
  | none => pure ()
  | some (l, o) => fun S => open Classical in if S[l]? = some o then .ok () S else .stuck
def wipeD (en : Env) : List Nat → Env
  | [] => en
  | v :: vs => (wipeD en vs).set v none
def setAll (en : Env) : List Nat → List D → Env
  | i :: is, d :: ds => setAll (en.set i (some d)) is ds
  | _, _ => en
/-- the items of a thing that is parted into n -/
def unpD (n : Nat) : D → M (List D)
  | .tup xs => if xs.length = n then pure xs else die
  | .ref l => getL l >>= fun xs => if xs.length = n then pure xs else die
  | _ => die
def bindT : Tg → D → Env → M Env
  | .nm i, d, en => pure (en.set i (some d))
  | .tp is, d, en => unpD is.length d >>= fun ds => pure (setAll en is ds)
/-- l.append(d) -/
def pushD (l : Nat) (d : D) : M Unit := fun S => match S[l]? with
  | some (.lst xs) => if xs.length < sizeLine then .ok () (S.set l (.lst (xs ++ [d]))) else .stuck
  | _ => .stuck
noncomputable def cmpL (ck : M Unit) (bnd : D → M Env) (c : Env → M Bool) (e : Env → M D) (l : Nat) : List D → M Unit
  | [] => ck
  | x :: xs => ck >>= fun _ => bnd x >>= fun en => c en >>= fun t => if t = true then e en >>= fun d => pushD l d >>= fun _ => cmpL ck bnd c e l xs else cmpL ck bnd c e l xs
def noX {α : Type} (m : M α) : M α := fun S => match m S with
  | .ok a S => .ok a S
  | _ => .stuck
def rngD : D → D → M (List D)
  | .int a, .int b => if -(2 ^ 62) ≤ a ∧ a < 2 ^ 62 ∧ -(2 ^ 62) ≤ b ∧ b < 2 ^ 62 then pure ((List.range (b - a).toNat).map fun k => .int (a + (k : Nat))) else die
  | _, _ => die
def iterD : D → M (List D × Option (Nat × Ob))
  | .tup xs => pure (xs, none)
  | .ref l => fun S => match S[l]? with
    | some o => .ok (items o, some (l, o)) S
    | none => .stuck
  | _ => die
mutual
noncomputable def evE (C : Nat → List D → M D) : E → Env → M D
  | .var i, en => match en[i]? with
    | some (some d) => pure d
    | _ => die
  | .con d, _ => pure d
  | .bin o a b, en => evE C a en >>= fun x => evE C b en >>= fun y => binD o x y
  | .neg a, en => evE C a en >>= negD
  | .not a, en => evE C a en >>= truD >>= fun t => pure (.bl (!t))
  | .cmp o a b, en => evE C a en >>= fun x => evE C b en >>= fun y => cmpD o x y
  | .chn o o' a b c, en => evE C a en >>= fun x => evE C b en >>= fun y => cmpD o x y >>= truD >>= fun t => if t = true then evE C c en >>= fun z => cmpD o' y z else pure (.bl false)
  | .and a b, en => evE C a en >>= truD >>= fun t => if t = true then evE C b en else pure (.bl false)
  | .or a b, en => evE C a en >>= truD >>= fun t => if t = true then pure (.bl true) else evE C b en
  | .ite c a b, en => evE C c en >>= truD >>= fun t => if t = true then evE C a en else evE C b en
  | .tup es, en => evEs C es en >>= fun xs => if xs.length ≤ sizeLine then pure (.tup xs) else die
  | .lst es, en => evEs C es en >>= fun xs => if xs.length ≤ sizeLine then alloc (.lst xs) else die
  | .idx a i, en => evE C a en >>= fun x => evE C i en >>= fun y => ixD x y
  | .slc p q a lo hi, en => evE C a en >>= fun x => evE C lo en >>= bndM p >>= fun y => evE C hi en >>= bndM q >>= fun z => slcD x y z
  | .call f es, en => evEs C es en >>= fun xs => C f xs
  | .blt b es, en => evEs C es en >>= fun xs => bltD b xs
  | .isi a T, en => evE C a en >>= fun x => isiD T x
  | .comp own tg it c e, en => evIt C it en >>= fun p => fun S =>
    noX (cmpL (ckD p.2) (fun d => bindT tg d (wipeD en own)) (fun en' => evE C c en' >>= truD) (fun en' => evE C e en') S.length p.1 >>= fun _ => pure (.ref S.length)) (S ++ [.lst []])
noncomputable def evEs (C : Nat → List D → M D) : Es → Env → M (List D)
  | .nil, _ => pure []
  | .cons e es, en => evE C e en >>= fun x => evEs C es en >>= fun xs => pure (x :: xs)
noncomputable def evIt (C : Nat → List D → M D) : It → Env → M (List D × Option (Nat × Ob))
  | .val e, en => evE C e en >>= iterD
  | .rng1 b, en => evE C b en >>= fun y => rngD (.int 0) y >>= fun xs => pure (xs, none)
  | .rng2 a b, en => evE C a en >>= fun x => evE C b en >>= fun y => rngD x y >>= fun xs => pure (xs, none)
end
/-- what a statement asks of an expression: an exception ends the statement -/
def lift {α : Type} (en : Env) (m : M α) (k : α → M Flow) : M Flow := fun S => match m S with
  | .ok a S => k a S
  | .exc c d S => .ok (.exc c d en) S
  | .stuck => .stuck
/-- how often a while may turn -/
@[irreducible] def fuel : Nat := 2 ^ 100000
noncomputable def whlL (c : Env → M Bool) (b : Env → M Flow) : Nat → Env → M Flow
  | 0, _ => die
  | n + 1, en => lift en (c en) fun t => if t = true then b en >>= fun f => match f with
    | .nx en' => whlL c b n en'
    | .cnt en' => whlL c b n en'
    | .brk en' => pure (.nx en')
    | f => pure f else pure (.nx en)
noncomputable def forL (ck : M Unit) (bnd : D → Env → M Env) (b : Env → M Flow) : List D → Env → M Flow
  | [], en => lift en ck fun _ => pure (.nx en)
  | x :: xs, en => lift en (ck >>= fun _ => bnd x en) fun en1 => b en1 >>= fun f => match f with
    | .nx en' => forL ck bnd b xs en'
    | .cnt en' => forL ck bnd b xs en'
    | .brk en' => pure (.nx en')
    | f => pure f
/-- l[i] = d -/
def setIxD : D → D → D → M Unit
  | .ref l, .int i, d => getM l >>= fun xs => match ixN xs.length i with
    | some j => fun S => .ok () (S.set l (.lst (xs.set j d)))
    | none => die
  | _, _, _ => die
mutual
noncomputable def exS (C : Nat → List D → M D) : St → Env → M Flow
  | .set i e, en => lift en (evE C e en) fun d => pure (.nx (en.set i (some d)))
  | .unp is e, en => lift en (evE C e en >>= unpD is.length) fun ds => pure (.nx (setAll en is ds))
  | .setIx o i e, en => lift en (evE C e en >>= fun v => evE C o en >>= fun x => evE C i en >>= fun y => setIxD x y v) fun _ => pure (.nx en)
  | .aug i e, en => match en[i]? with
    | some (some (.int x)) => lift en (evE C e en) fun y => match y with
      | .int y => pure (.nx (en.set i (some (.int (x + y)))))
      | _ => die
    | _ => die
  | .expr e, en => lift en (evE C e en) fun _ => pure (.nx en)
  | .app i e, en => match en[i]? with
    | some (some (.ref l)) => lift en (getM l >>= fun _ => evE C e en) fun d => lift en (pushD l d) fun _ => pure (.nx en)
    | _ => die
  | .ret e, en => lift en (evE C e en) fun d => pure (.ret d)
  | .ret0, _ => pure (.ret .non)
  | .ifs c a b, en => lift en (evE C c en >>= truD) fun t => if t = true then exB C a en else exB C b en
  | .for_ tg it b, en => lift en (evIt C it en) fun p => forL (ckD p.2) (fun d en' => bindT tg d en') (fun en' => exB C b en') p.1 en
  | .whl c b, en => whlL (fun en' => evE C c en' >>= truD) (fun en' => exB C b en') fuel en
  | .brk, en => pure (.brk en)
  | .cnt, en => pure (.cnt en)
  | .pass, en => pure (.nx en)
  | .dead, _ => die
noncomputable def exB (C : Nat → List D → M D) : Sts → Env → M Flow
  | .nil, en => pure (.nx en)
  | .cons s r, en => exS C s en >>= fun f => match f with
    | .nx en' => exB C r en'
    | f => pure f
end
/-- a def: how many parameters, how many names, its body -/
structure Fn where
  np : Nat
  nv : Nat
  body : Sts
noncomputable def runF (C : Nat → List D → M D) (f : Fn) (ds : List D) : M D := fun S =>
  if ds.length = f.np then match exB C f.body (ds.map some ++ List.replicate (f.nv - f.np) none) S with
    | .ok (.nx _) S => .ok .non S
    | .ok (.ret d) S => .ok d S
    | .ok (.exc c d _) S => .exc c d S
    | _ => .stuck
  else .stuck
/-- a call, at most n deep -/
noncomputable def callT (T : Nat → Option Fn) : Nat → Nat → List D → M D
  | 0, _, _ => die
  | n + 1, f, ds => match T f with
    | some fn => runF (callT T n) fn ds
    | none => die
end NL

/-! How the machine's text is read in the small language. -/
namespace NL
open PySem PySem.Spec PyProof.Rows L2
def posOf (x : Str) : List Str → Option Nat
  | [] => none
  | y :: r => if y = x then some 0 else (posOf x r).map (· + 1)
def oddName (x : Str) : Bool := x == ("__debug__" : Str) || x == ("__classdict__" : Str)
/-- the place of a name that may be read, that may be stored -/
def visOf (sc : Scope) (N : List Str) (x : Str) : Option Nat := if oddName x = true then none else match sc.names.lookup x with
  | some .local => posOf x N
  | some .cell => posOf x N
  | some .free => posOf x N
  | _ => none
def locOf (sc : Scope) (N : List Str) (x : Str) : Option Nat := if oddName x = true then none else match sc.names.lookup x with
  | some .local => posOf x N
  | some .cell => posOf x N
  | _ => none
def isGl (sc : Scope) (x : Str) : Bool := !oddName x && decide (sc.names.lookup x = some .globalImplicit)
def conOf : Const → Option D
  | .none => some .non
  | .bool b => some (.bl b)
  | .int i => some (.int i)
  | .str x => some (.str x)
  | _ => none
def bopOf : Operator → Option Bop
  | .Add => some .add | .Sub => some .sub | .Mult => some .mul | .FloorDiv => some .fdiv | .Mod => some .mod | .Pow => some .pow
  | _ => none
def copOf : CmpOp → Cop
  | .Lt => .lt | .LtE => .le | .Gt => .gt | .GtE => .ge | .Eq => .eq | .NotEq => .ne | .In => .isIn | .NotIn => .notIn | .Is => .is_ | .IsNot => .isNot
def bltOf (x : Str) : Option Blt :=
  if x = Blt.abs.name then some .abs else if x = Blt.int.name then some .int else if x = Blt.len.name then some .len else if x = Blt.min.name then some .min else if x = Blt.max.name then some .max else
  if x = Blt.list.name then some .list else if x = Blt.tuple.name then some .tuple else if x = Blt.sum.name then some .sum else none
def tyOf (x : Str) : Option Ty :=
  if x = Ty.int.name then some .int else if x = Ty.bool.name then some .bool else if x = Ty.tuple.name then some .tuple else if x = Ty.list.name then some .list else if x = Ty.str.name then some .str else none
def comL (f : Expr → Option E) : List Expr → Option Es
  | [] => some .nil
  | e :: r => match f e, comL f r with
    | some a, some b => some (.cons a b)
    | _, _ => none
def comBool (f : Expr → Option E) (op : BoolOp) : List Expr → Option E
  | [] => none
  | [e] => f e
  | e :: r => match f e, comBool f op r with
    | some a, some b => some (match op with | .And => .and a b | .Or => .or a b)
    | _, _ => none
def comO (f : Expr → Option E) : Option Expr → Option E
  | none => some (.con .non)
  | some e => f e
def namesOf (f : Str → Option Nat) : List Expr → Option (List Nat)
  | [] => some []
  | .Name x _ :: r => match f x, namesOf f r with
    | some i, some is => some (i :: is)
    | _, _ => none
  | _ => none
def comTg (f : Str → Option Nat) : Expr → Option Tg
  | .Name x _ => (f x).map .nm
  | .Tuple es _ _ => (namesOf f es).map .tp
  | _ => none
def isSlice : Expr → Bool
  | .Slice .. => true
  | _ => false
def ownOf (N : List Str) (scope : Scope) : List (Str × Nat) := scope.names.filterMap fun y => match y.2 with
  | .local => (posOf y.1 N).map fun i => (y.1, i)
  | .cell => (posOf y.1 N).map fun i => (y.1, i)
  | _ => none
def Tg.ixs : Tg → List Nat
  | .nm i => [i]
  | .tp is => is
/-- what is called: its number, how many parameters -/
abbrev FTab := Str → Option (Nat × Nat)
def Es.len : Es → Nat
  | .nil => 0
  | .cons _ r => r.len + 1
def comE (ft : FTab) (N : List Str) : Nat → Scope → Expr → Option E
  | 0, _, _ => none
  | n + 1, sc, e => match e with
    | .Constant c _ _ => (conOf c).map .con
    | .Name x _ => (visOf sc N x).map .var
    | .BinOp a o b _ => match bopOf o, comE ft N n sc a, comE ft N n sc b with
      | some o, some a, some b => some (.bin o a b)
      | _, _, _ => none
    | .UnaryOp .USub a _ => (comE ft N n sc a).map .neg
    | .UnaryOp .Not a _ => (comE ft N n sc a).map .not
    | .Compare a [o] [b] _ => match comE ft N n sc a, comE ft N n sc b with
      | some a, some b => some (.cmp (copOf o) a b)
      | _, _ => none
    | .Compare a [o, o'] [b, c] _ => match comE ft N n sc a, comE ft N n sc b, comE ft N n sc c with
      | some a, some b, some c => some (.chn (copOf o) (copOf o') a b c)
      | _, _, _ => none
    | .BoolOp o es _ => comBool (comE ft N n sc) o es
    | .IfExp c a b _ => match comE ft N n sc c, comE ft N n sc a, comE ft N n sc b with
      | some c, some a, some b => some (.ite c a b)
      | _, _, _ => none
    | .Tuple es _ _ => (comL (comE ft N n sc) es).map .tup
    | .List es _ => (comL (comE ft N n sc) es).map .lst
    | .Subscript a (.Slice lo hi none _) _ => match comE ft N n sc a, comO (comE ft N n sc) lo, comO (comE ft N n sc) hi with
      | some a, some lo', some hi' => some (.slc lo.isSome hi.isSome a lo' hi')
      | _, _, _ => none
    | .Subscript a i _ => if isSlice i = true then none else match comE ft N n sc a, comE ft N n sc i with
      | some a, some i => some (.idx a i)
      | _, _ => none
    | .Call (.Name f _) es [] _ => if isGl sc f = true then
        (if f = ("isinstance" : Str) then match es with
          | [a, .Name t _] => if isGl sc t = true then (match comE ft N n sc a, tyOf t with
            | some a, some t => some (.isi a t)
            | _, _ => none) else none
          | _ => none
        else match bltOf f, comL (comE ft N n sc) es with
          | some b, some (.cons x xs) => some (.blt b (.cons x xs))
          | some _, _ => none
          | none, some (.cons x xs) => (match ft f with
            | some (id, ar) => if ar = xs.len + 1 then some (.call id (.cons x xs)) else none
            | none => none)
          | none, _ => none) else none
    | .ListComp elt [⟨tg, it, ifs, as⟩] scope _ => if as ≠ 0 then none else if blkC N sc scope (ownOf N scope) = true then
        (match (comTg (locOf scope N) tg).filter (fun t => t.ixs.all fun i => decide (i ∈ (ownOf N scope).map (·.2))), comIt (comE ft N n) sc it, (match ifs with | [] => some (E.con (.bl true)) | [c] => comE ft N n (relS scope sc) c | _ => none), comE ft N n (relS scope sc) elt with
          | some t, some it, some c, some e => some (.comp ((ownOf N scope).map (·.2)) t it c e)
          | _, _, _, _ => none) else none
    | _ => none
where
  comIt (f : Scope → Expr → Option E) (sc : Scope) (e : Expr) : Option It := match e with
    | .Call (.Name g _) [b] [] _ => if g = ("range" : Str) then (if isGl sc g = true then (f sc b).map .rng1 else none) else (f sc e).map .val
    | .Call (.Name g _) [a, b] [] _ => if g = ("range" : Str) then (if isGl sc g = true then match f sc a, f sc b with
        | some a, some b => some (.rng2 a b)
        | _, _ => none else none) else (f sc e).map .val
    | e => (f sc e).map .val
def isStar : Expr → Bool
  | .Starred .. => true
  | _ => false
/-- a plain local on that line -/
def nmOf (sc : Scope) (line : Nat) : Expr → Option Str
  | .Name id pos => if (sc.names.lookup id == some .local && pos.line == line) = true then some id else none
  | _ => none
def lineOf (ts : List Expr) : Nat := (ts.head?.map (·.pos.line)).getD 0
/-- what the stores of «names = values» do: some none, one by one; some (some names), from the right -/
def swP (sc : Scope) (ts vs : List Expr) : Option (Option (List Str)) :=
  if (!(ts.length == 2 || ts.length == 3) || vs.length != ts.length) = true then some none else
  if vs.any isStar = true then some none else
  if ((ts.filterMap (nmOf sc (lineOf ts))).length != ts.length || (ts.filterMap (nmOf sc (lineOf ts))).eraseDups.length != (ts.filterMap (nmOf sc (lineOf ts))).length) = true then some none else
  if vs.all (foldedForSure 8) = true then some none else
  if vs.all (constantsAlone 8) = true then none else some (some (ts.filterMap (nmOf sc (lineOf ts))))
def isComp : Expr → Bool
  | .ListComp .. => true
  | _ => false
section
variable (ft : FTab) (N : List Str) (sc : Scope)
def comS : Nat → Stmt → Option St
  | 0, _ => none
  | n + 1, s => match s with
    | .Assign [.Name x _] e _ => match locOf sc N x, comE ft N n sc e with
      | some i, some e => some (.set i e)
      | _, _ => none
    | .Assign [.Tuple ts _ _] (.Tuple vs _ _) _ => (match swP sc ts vs, namesOf (locOf sc N) ts, comL (comE ft N n sc) vs with
      | some none, some is, some es => some (.unp is (.tup es))
      | some (some nm), some is, some es => if is.Nodup ∧ nm.length = is.length ∧ es.len = is.length then some (.unp is (.tup es)) else none
      | _, _, _ => none)
    | .Assign [.Tuple ts _ _] e _ => match namesOf (locOf sc N) ts, comE ft N n sc e with
      | some is, some e => some (.unp is e)
      | _, _ => none
    | .Assign [.Subscript o i _] e _ => if isSlice i = true then none else match comE ft N n sc o, comE ft N n sc i, comE ft N n sc e with
      | some o, some i, some e => some (.setIx o i e)
      | _, _, _ => none
    | .AugAssign (.Name x _) .Add e _ => match locOf sc N x, comE ft N n sc e with
      | some i, some e => some (.aug i e)
      | _, _ => none
    | .Expr (.Call (.Attribute (.Name x _) m apos) [e] [] cpos) _ => if (decide (m = ("append" : Str)) && (apos.endLine == cpos.line)) = true then (match visOf sc N x, comE ft N n sc e with
      | some i, some e => some (.app i e)
      | _, _ => none) else none
    | .Expr (.Constant (.str _) _ _) _ => some .pass
    | .Expr e _ => if isComp e = true then none else (comE ft N n sc e).map .expr
    | .Return (some e) _ => (comE ft N n sc e).map .ret
    | .Return none _ => some .ret0
    | .If c a b _ => match comE ft N n sc c, comSs (comS n) a, comSs (comS n) b with
      | some c, some a, some b => some (.ifs c a b)
      | _, _, _ => none
    | .For tg it b [] _ => match comTg (locOf sc N) tg, comE.comIt (comE ft N n) sc it, comSs (comS n) b with
      | some t, some i, some b => some (.for_ t i b)
      | _, _, _ => none
    | .While c b [] _ => match comE ft N n sc c, comSs (comS n) b with
      | some c, some b => some (.whl c b)
      | _, _ => none
    | .Break _ => some .brk
    | .Continue _ => some .cnt
    | .Pass _ => some .pass
    | .Raise .. => some .dead
    | _ => none
where
  comSs (f : Stmt → Option St) : List Stmt → Option Sts
  | [] => some .nil
  | s :: r => match f s, comSs f r with
    | some a, some b => some (.cons a b)
    | _, _ => none
end
/-- a def, with its names in order (the parameters first) -/
def comF (ft : FTab) (N : List Str) (st : Stmt) : Option Fn :=
  match comS.comSs (comS ft N (defScope st) 60) (defBody st) with
  | some b => some ⟨(defArgs st).args.length, N.length, b⟩
  | none => none
end NL

/-! The machine answers as the small language does: expressions. -/
namespace NL
open PySem PySem.Spec PyProof.Rows L2
/-! ### states -/
structure ER (m : List Addr) (H : Hp) (en : NL.Env) (σ : L2.St) : Prop where
  len : en.length = σ.length
  get : ∀ (i : Nat) (d : D), en[i]? = some (some d) → ∃ v, σ[i]? = some (some v) ∧ Rep m H d v
theorem ER.mono {m m' : List Addr} {H H' : Hp} {en : NL.Env} {σ : L2.St} (g : Gr m m' H H') (r : ER m H en σ) : ER m' H' en σ := ⟨r.len, fun i d h => by
  obtain ⟨v, h1, h2⟩ := r.get i d h
  exact ⟨v, h1, Rep.mono g _ _ h2⟩⟩
theorem ER.set {m : List Addr} {H : Hp} {en : NL.Env} {σ : L2.St} {d : D} {v : V} (r : ER m H en σ) (h : Rep m H d v) (i : Nat) : ER m H (en.set i (some d)) (σ.set i (some v)) := ⟨by simp [r.len], fun j e q => by
  by_cases hij : i = j
  · subst hij
    by_cases hl : i < en.length
    · rw [List.getElem?_set_self hl] at q
      cases q
      exact ⟨v, List.getElem?_set_self (by rw [← r.len]; exact hl), h⟩
    · rw [List.getElem?_eq_none (by simpa using hl)] at q
      cases q
  · rw [List.getElem?_set_ne hij] at q ⊢
    exact r.get j e q⟩
theorem ER.wipe {m : List Addr} {H : Hp} {en : NL.Env} {σ : L2.St} (r : ER m H en σ) : ∀ vs : List Nat, ER m H (wipeD en vs) (L2.wipe σ vs)
  | [] => r
  | i :: vs => by
    have ih := ER.wipe r vs
    refine ⟨by show (List.set _ _ _).length = (List.set _ _ _).length; rw [List.length_set, List.length_set]; exact ih.len, fun j e q => ?_⟩
    show ∃ v, (List.set _ _ _)[j]? = _ ∧ _
    have q : ((wipeD en vs).set i none)[j]? = some (some e) := q
    by_cases hij : i = j
    · subst hij
      by_cases hl : i < (wipeD en vs).length
      · rw [List.getElem?_set_self hl] at q; cases q
      · rw [List.getElem?_eq_none (by simpa using hl)] at q; cases q
    · rw [List.getElem?_set_ne hij] at q ⊢
      exact ih.get j e q
/-- an exception: its class, its dict -/
def XR (mg : Str → Option Value) (c : Str) (d : Option Nat) (m : List Addr) (cls : Value) (dd : Option Addr) : Prop := mg c = some cls ∧ dd = d.bind fun l => m[l]?
def Wd (mg : Str → Option Value) (W : WX) (σ : L2.St) : Str → Option Nat → List Addr → Store → Hp → Prop := fun c d m _ H => ∀ cls dd, XR mg c d m cls dd → W cls dd σ H
/-- a reading by what is answered -/
def tG {α β : Type} (RG : List Addr → Hp → α → β → Prop) (K : PySem.W.Frag) (mg : Str → Option Value) (W : WX) (f : NL.Env → M α) : L2.St → Hp → (β → Hp → Prop) → Prop := fun σ H Q =>
  ∃ m en S, ER m H en σ ∧ SR K m S H ∧ post K (Wd mg W σ) m H (f en S) (fun a m' _ H' => ∀ b, RG m' H' a b → Q b H')
abbrev tE := @tG D V Rep
abbrev tT := @tG Bool Bool fun _ _ a b => b = a
abbrev tA := @tG (List D) (List V) Reps
theorem tG_use {α β : Type} {RG : List Addr → Hp → α → β → Prop} {K : PySem.W.Frag} {mg : Str → Option Value} {W : WX} {f : NL.Env → M α} {m : List Addr} {en : NL.Env} {S : Store} {H : Hp} {σ : L2.St} {Q : β → Hp → Prop} {F : α → List Addr → Store → Hp → Prop} (er : ER m H en σ) (sr : SR K m S H) (h : post K (Wd mg W σ) m H (f en S) F)
    (k : ∀ a m' S' H' b, Gr m m' H H' → ER m' H' en σ → SR K m' S' H' → F a m' S' H' → RG m' H' a b → Q b H') : tG RG K mg W f σ H Q :=
  ⟨m, en, S, er, sr, post_mono h fun a m' S' H' g s hf b r => k a m' S' H' b g (er.mono g) s hf r⟩
theorem PE.imp {X : Cx} {e : Expr} {t t' : TE} (h : PE X e t) (k : ∀ σ H Q, t' σ H Q → t σ H Q) : PE X e t' := ⟨fun pins s σ H Q I q => h.run pins s σ H Q I (k σ H Q q)⟩
theorem PT.imp {X : Cx} {e : Expr} {t t' : TT} (h : PT X e t) (k : ∀ σ H Q, t' σ H Q → t σ H Q) : PT X e t' := ⟨fun pins s σ H Q I q => h.run pins s σ H Q I (k σ H Q q)⟩
theorem PA.imp {X : Cx} {es : List Expr} {t t' : TA} (h : PA X es t) (k : ∀ σ H Q, t' σ H Q → t σ H Q) : PA X es t' := ⟨fun pos pins s σ H Q I q => h.run pos pins s σ H Q I (k σ H Q q)⟩
theorem PW.imp {X : Cx} {e : Expr} {t t' : TT} (h : PW X e t) (k : ∀ σ H Q, t' σ H Q → t σ H Q) : PW X e t' := ⟨fun wh pins s σ H Q I q => h.run wh pins s σ H Q I (k σ H Q q)⟩
/-! ### the context -/
/-- what a def of ours promises -/
def spM (K : PySem.W.Frag) (mg : Str → Option Value) (ar : Nat) (g : List D → M D) : Sp := fun vs H Q E => ∃ m S ds, SR K m S H ∧ Reps m H ds vs ∧ ds.length = ar ∧
  post K (fun c d m' _ H' => ∀ cls dd, XR mg c d m' cls dd → E cls dd H') m H (g ds S) (fun d m' _ H' => ∀ w, Rep m' H' d w → Q w H')
structure FOk (X : Cx) (C : Nat → List D → M D) (ft : FTab) : Prop where
  own : ∀ f id ar, ft f = some (id, ar) → ∃ a fd ps k, FnOk X.prog X.w X.K X.mg X.base (L2.CX X.prog X.w) k a fd ps (spM X.K X.mg ar (C id)) ∧ Room k X.A ∧ X.mg f = some (.ref a) ∧ PySem.W.keepIn X.K (.ref a) = true ∧ Binds X.K fd ps []
  blt : ∀ b : Blt, X.mg b.name = none
  isi : X.mg "isinstance" = none
  rng : X.mg "range" = none
  ty : ∀ t : Ty, X.mg t.name = none
structure XOk (X : Cx) (sc : Scope) (N : List Str) (C : Nat → List D → M D) (ft : FTab) (W : WX) : Prop where
  hN : X.N = N
  sc : X.env.scope = sc
  nd : N.Nodup
  calm : X.calm = true
  hu : X.A.units + 65 < cLine
  fo : FOk X C ft
  tk : Takes X W
/-! ### shapes -/
def plainE : Expr → Bool
  | .Constant .. | .Name .. | .BinOp .. | .UnaryOp .. | .Compare .. | .BoolOp .. | .IfExp .. | .Tuple .. | .List .. | .Subscript .. | .Call .. | .ListComp .. => true
  | _ => false
theorem comE_plain {ft : FTab} {N : List Str} : ∀ {n : Nat} {sc : Scope} {e : Expr} {r : E}, comE ft N n sc e = some r → plainE e = true
  | 0, _, _, _, h => by unfold comE at h; cases h
  | n + 1, _, e, _, h => by
    unfold comE at h
    cases e <;> first | rfl | (dsimp only at h; cases h)
theorem star_plain {e : Expr} {es : List Expr} {env : PySem.Env} (h : plainE e = true) : starEach (e :: es) env = (false, eval e env) :: starEach es env := by
  cases e <;> first | rfl | cases h
theorem behind_plain {op : CmpOp} {e : Expr} (h : plainE e = true) : behindInMarks op e = false := by
  cases e <;> first | rfl | cases h
theorem folded_plain {e : Expr} {env : PySem.Env} {x : Value} (h : plainE e = true) : foldedSetIterable e env x = pure x := by
  cases e <;> first | rfl | cases h
theorem stars_none {pos : Pos} {env : PySem.Env} : ∀ {es : List Expr}, (∀ e ∈ es, plainE e = true) → (backTo pos (starEach es env)).any (·.1) = false
  | [], _ => rfl
  | e :: es, h => by
    rw [star_plain (h e List.mem_cons_self)]
    show (false || (backTo pos (starEach es env)).any (·.1)) = false
    rw [stars_none fun e he => h e (List.mem_cons_of_mem _ he)]
    rfl
theorem posOf_get {x : Str} : ∀ {N : List Str} {i : Nat}, posOf x N = some i → N[i]? = some x
  | [], _, h => by cases h
  | y :: r, i, h => by
    unfold posOf at h
    split at h
    · rename_i e; cases h; rw [e]; rfl
    · obtain ⟨j, hj, rfl⟩ := Option.map_eq_some_iff.mp h
      have z := posOf_get (N := r) hj
      simpa using z
theorem odd_no {x : Str} (h : ¬ oddName x = true) : (x == ("__debug__" : Str)) = false ∧ (x == ("__classdict__" : Str)) = false := by
  unfold oddName at h
  rw [Bool.or_eq_true, not_or] at h
  exact ⟨by simpa using h.1, by simpa using h.2⟩
theorem visOf_some {sc : Scope} {N : List Str} {x : Str} {i : Nat} (h : visOf sc N x = some i) : N[i]? = some x ∧ Vis sc x ∧ (x == ("__debug__" : Str)) = false ∧ (x == ("__classdict__" : Str)) = false := by
  unfold visOf at h
  split at h
  · cases h
  · rename_i ho
    obtain ⟨o1, o2⟩ := odd_no ho
    split at h
    · rename_i e; exact ⟨posOf_get h, .inl e, o1, o2⟩
    · rename_i e; exact ⟨posOf_get h, .inr (.inl e), o1, o2⟩
    · rename_i e; exact ⟨posOf_get h, .inr (.inr e), o1, o2⟩
    · cases h
theorem locOf_some {sc : Scope} {N : List Str} {x : Str} {i : Nat} (h : locOf sc N x = some i) : N[i]? = some x ∧ Loc sc x := by
  unfold locOf at h
  split at h
  · cases h
  · split at h
    · rename_i e; exact ⟨posOf_get h, .inl e⟩
    · rename_i e; exact ⟨posOf_get h, .inr e⟩
    · cases h
theorem isGl_some {sc : Scope} {x : Str} (h : isGl sc x = true) : sc.names.lookup x = some .globalImplicit ∧ (x == ("__debug__" : Str)) = false := by
  unfold isGl at h
  rw [Bool.and_eq_true] at h
  have ho : ¬ oddName x = true := by simpa using h.1
  exact ⟨of_decide_eq_true h.2, (odd_no ho).1⟩
theorem comL_len {f : Expr → Option E} : ∀ {es : List Expr} {r : Es}, comL f es = some r → r.len = es.length
  | [], _, h => by cases h; rfl
  | e :: es, _, h => by
    unfold comL at h
    cases e1 : f e with
    | none => rw [e1] at h; cases h
    | some a =>
      cases e2 : comL f es with
      | none => rw [e1, e2] at h; cases h
      | some b =>
        rw [e1, e2] at h
        cases h
        show b.len + 1 = es.length + 1
        rw [comL_len e2]
theorem comL_all {f : Expr → Option E} : ∀ {es : List Expr} {r : Es}, comL f es = some r → ∀ e ∈ es, ∃ a, f e = some a
  | [], _, _, e, he => by cases he
  | x :: es, _, h, e, he => by
    unfold comL at h
    cases e1 : f x with
    | none => rw [e1] at h; cases h
    | some a =>
      cases e2 : comL f es with
      | none => rw [e1, e2] at h; cases h
      | some b =>
        rcases List.mem_cons.mp he with rfl | he
        · exact ⟨a, e1⟩
        · exact comL_all e2 e he
theorem bopOf_op {o : Operator} {b : Bop} (h : bopOf o = some b) : b.op = o := by
  cases o <;> simp [bopOf] at h <;> subst h <;> rfl
theorem copOf_op (o : CmpOp) : (copOf o).op = o := by cases o <;> rfl
theorem bltOf_some {x : Str} {b : Blt} (h : bltOf x = some b) : x = b.name := by
  unfold bltOf at h
  repeat' split at h
  all_goals first | cases h | skip
  all_goals assumption
theorem tyOf_some {x : Str} {t : Ty} (h : tyOf x = some t) : x = t.name := by
  unfold tyOf at h
  repeat' split at h
  all_goals first | cases h | skip
  all_goals assumption
theorem boot_blt : ∀ b : Blt, bootBuiltins b.name = some b.val ∧ b.name ≠ ("__name__" : Str)
  | .abs => by decide +kernel
  | .int => by decide +kernel
  | .len => by decide +kernel
  | .min => by decide +kernel
  | .max => by decide +kernel
  | .list => by decide +kernel
  | .tuple => by decide +kernel
  | .sum => by decide +kernel
theorem boot_ty : ∀ t : Ty, bootBuiltins t.name = some (.type t.nm) ∧ t.name ≠ ("__name__" : Str)
  | .int => by decide +kernel
  | .bool => by decide +kernel
  | .tuple => by decide +kernel
  | .list => by decide +kernel
  | .str => by decide +kernel
end NL

namespace NL
open PySem PySem.Spec PyProof.Rows L2
section
variable {X : Cx} {sc : Scope} {N : List Str} {C : Nat → List D → M D} {ft : FTab} {W : WX}
/-! ### one construct at a time -/
theorem p_con {c : Const} {d : D} {k : Nat} {pos : Pos} (h : conOf c = some d) : PE X (.Constant c k pos) (tE X.K X.mg W (evE C (.con d))) := by
  have fin : ∀ {v : V}, (∀ m H, Rep m H d v) → PE X (.Constant c k pos) (tC v) → PE X (.Constant c k pos) (tE X.K X.mg W (evE C (.con d))) := fun {v} hr hp =>
    PE.imp hp fun σ H Q ⟨m, en, S, er, sr, q⟩ => post_now sr q v (hr m H)
  cases c <;> simp [conOf] at h <;> subst h
  · exact fin (fun _ _ => .non) pe_non
  · exact fin (fun _ _ => .bl _) pe_bl
  · exact fin (fun _ _ => .int _) pe_int
  · exact fin (fun _ _ => .str _) pe_str
theorem p_var {x : Str} {i : Nat} {pos : Pos} (o : XOk X sc N C ft W) (h : visOf sc N x = some i) : PE X (.Name x pos) (tE X.K X.mg W (evE C (.var i))) := by
  obtain ⟨h1, h2, h3, h4⟩ := visOf_some h
  refine PE.imp (pe_var (i := i) (by rw [o.hN]; exact h1) (by rw [o.sc]; exact h2) h3 h4) fun σ H Q ⟨m, en, S, er, sr, q⟩ => ?_
  unfold evE at q
  cases e : en[i]? with
  | none => rw [e] at q; exact q.elim
  | some od =>
    cases od with
    | none => rw [e] at q; exact q.elim
    | some d =>
      rw [e] at q
      obtain ⟨v, e1, r⟩ := er.get i d e
      exact ⟨v, e1, post_now sr q v r⟩
variable {a b c e : Expr} {a' b' c' e' : E} {pos : Pos}
theorem p_bin {o : Operator} {o' : Bop} (ho : bopOf o = some o') (ha : PE X a (tE X.K X.mg W (evE C a'))) (hb : PE X b (tE X.K X.mg W (evE C b'))) : PE X (.BinOp a o b pos) (tE X.K X.mg W (evE C (.bin o' a' b'))) := by
  have hop := bopOf_op ho
  subst hop
  refine PE.imp (pe_op (op_binD o') ha hb) fun σ H Q ⟨m, en, S, er, sr, q⟩ => ?_
  unfold evE at q
  refine tG_use er sr (post_bind q) fun x m1 S1 H1 v g er1 sr1 q1 rx => tG_use er1 sr1 (post_bind q1) fun y m2 S2 H2 u g2 er2 sr2 q2 ry => ?_
  exact ⟨_, m2, S2, x, y, sr2, Rep.mono g2 _ _ rx, ry, q2⟩
theorem p_neg (ha : PE X a (tE X.K X.mg W (evE C a'))) : PE X (.UnaryOp .USub a pos) (tE X.K X.mg W (evE C (.neg a'))) := by
  refine PE.imp (pe_un un_neg ha) fun σ H Q ⟨m, en, S, er, sr, q⟩ => ?_
  unfold evE at q
  refine tG_use er sr (post_bind q) fun x m1 S1 H1 v g er1 sr1 q1 rx => ?_
  cases rx <;> try exact (show False from q1).elim
  exact ⟨_, rfl, post_val sr1 q1 (.int _)⟩
/-- what a test asks of a value -/
theorem tru_bind {α : Type} {K : PySem.W.Frag} {Ex : Str → Option Nat → List Addr → Store → Hp → Prop} {m : List Addr} {H : Hp} {S : Store} {x : D} {f : Bool → M α} {F : α → List Addr → Store → Hp → Prop} (h : post K Ex m H ((truD x >>= f) S) F) : ∃ t, x = .bl t ∧ post K Ex m H (f t S) F := by
  cases x <;> first | exact (show False from h).elim | exact ⟨_, rfl, h⟩
theorem p_not (ha : PT X a (tT X.K X.mg W fun en => evE C a' en >>= truD)) (hv : PE X a (tE X.K X.mg W (evE C a'))) : PE X (.UnaryOp .Not a pos) (tE X.K X.mg W (evE C (.not a'))) := by
  refine PE.imp (pe_not hv) fun σ H Q ⟨m, en, S, er, sr, q⟩ => ?_
  unfold evE at q
  rw [bind_as] at q
  refine tG_use er sr (post_bind q) fun x m1 S1 H1 v g er1 sr1 q1 rx => ?_
  obtain ⟨t, rfl, q2⟩ := tru_bind q1
  cases rx
  exact ⟨t, rfl, post_val sr1 q2 (.bl _)⟩
theorem p_notT (ha : PT X a (tT X.K X.mg W fun en => evE C a' en >>= truD)) : PT X (.UnaryOp .Not a pos) (tT X.K X.mg W fun en => evE C (.not a') en >>= truD) := by
  refine PT.imp (pt_not ha) fun σ H Q ⟨m, en, S, er, sr, q⟩ => ?_
  unfold evE at q
  refine tG_use er sr (post_bind (post_bind q)) fun t m1 S1 H1 v g er1 sr1 q1 rx => ?_
  subst rx
  exact post_now sr1 (post_now sr1 q1) _ rfl
theorem p_cmp {o : CmpOp} (w : XOk X sc N C ft W) (hp : plainE b = true) (ha : PE X a (tE X.K X.mg W (evE C a'))) (hb : PE X b (tE X.K X.mg W (evE C b'))) : PE X (.Compare a [o] [b] pos) (tE X.K X.mg W (evE C (.cmp (copOf o) a' b'))) := by
  have ho : OpR X (compareOp o) (rD X.K (cmpD (copOf o))) := by
    have z := op_cmpD (X := X) w.hu (copOf o)
    rw [copOf_op] at z
    exact z
  refine PE.imp (pe_cmpR ho ha hb (behind_plain hp)) fun σ H Q ⟨m, en, S, er, sr, q⟩ => ?_
  unfold evE at q
  refine tG_use er sr (post_bind q) fun x m1 S1 H1 v g er1 sr1 q1 rx => tG_use er1 sr1 (post_bind q1) fun y m2 S2 H2 u g2 er2 sr2 q2 ry => ?_
  exact ⟨_, m2, S2, x, y, sr2, Rep.mono g2 _ _ rx, ry, q2⟩
/-- behind a value that is tested -/
theorem tst_end {K : PySem.W.Frag} {Ex : Str → Option Nat → List Addr → Store → Hp → Prop} {m : List Addr} {H : Hp} {r : R D} {Q : Bool → Hp → Prop} (h : post K Ex m H r (fun d m1 S1 H1 => post K Ex m1 H1 (truD d S1) (fun b m' _ H' => ∀ c, c = b → Q c H'))) :
    post K Ex m H r (fun d m' _ H' => ∀ w, Rep m' H' d w → ∃ k, w = .bl k ∧ Q k H') := by
  refine post_mono h fun d m1 S1 H1 g s q w rw' => ?_
  cases rw' <;> try exact (show False from q).elim
  exact ⟨_, rfl, post_now s q _ rfl⟩
theorem p_cmpT {o : CmpOp} (w : XOk X sc N C ft W) (hp : plainE b = true) (ha : PE X a (tE X.K X.mg W (evE C a'))) (hb : PE X b (tE X.K X.mg W (evE C b'))) : PT X (.Compare a [o] [b] pos) (tT X.K X.mg W fun en => evE C (.cmp (copOf o) a' b') en >>= truD) := by
  have ho : OpR X (compareOp o) (rD X.K (cmpD (copOf o))) := by
    have z := op_cmpD (X := X) w.hu (copOf o)
    rw [copOf_op] at z
    exact z
  refine PT.imp (pt_cmpR ho ha hb (behind_plain hp)) fun σ H Q ⟨m, en, S, er, sr, q⟩ => ?_
  have q := tst_end (post_bind q)
  unfold evE at q
  refine tG_use er sr (post_bind q) fun x m1 S1 H1 v g er1 sr1 q1 rx => tG_use er1 sr1 (post_bind q1) fun y m2 S2 H2 u g2 er2 sr2 q2 ry => ?_
  exact ⟨_, m2, S2, x, y, sr2, Rep.mono g2 _ _ rx, ry, q2⟩
/-- a test of a value whose test is plain -/
theorem p_valT (h : PE X e (tE X.K X.mg W (evE C e'))) (he : ∀ whole, isTrue e X.env whole = (do let v ← whole; standAt e.pos; holding [v] (truthy v))) : PT X e (tT X.K X.mg W fun en => evE C e' en >>= truD) := by
  refine PT.imp (pt_val h he) fun σ H Q ⟨m, en, S, er, sr, q⟩ => ?_
  exact ⟨m, en, S, er, sr, tst_end (post_bind q)⟩
theorem lastMarks_plain {o o' : CmpOp} (hc : plainE c = true) : lastMarks [o, o'] [b, c] = false := by
  show behindInMarks o' c = false
  exact behind_plain hc
/-- the second link of a chain -/
theorem chn_link {o o' : Cop} {K : PySem.W.Frag} {mg : Str → Option Value} {σ : L2.St} {m2 : List Addr} {en : NL.Env} {S2 : Store} {H2 : Hp} {Q : VK} {x y : D} {v u : V} (er2 : ER m2 H2 en σ) (sr2 : SR K m2 S2 H2) (rx : Rep m2 H2 x v) (ry : Rep m2 H2 y u)
    (q2 : post K (Wd mg W σ) m2 H2 ((cmpD o x y >>= truD >>= fun t => if t = true then evE C c' en >>= fun z => cmpD o' y z else pure (.bl false)) S2) (fun d m' _ H' => ∀ w, Rep m' H' d w → Q w H')) :
    rD K (cmpD o) v u H2 fun z H3 => ∃ k, z = .bl k ∧ (if k = true then tE K mg W (evE C c') σ H3 fun w' H4 => rD K (cmpD o') u w' H4 Q else Q (.bl false) H3) := by
  refine ⟨_, m2, S2, x, y, sr2, rx, ry, post_mono (post_bind (post_bind q2)) fun d m3 S3 H3 g3 sr3 q3 z rz => ?_⟩
  cases rz <;> try exact (show False from q3).elim
  rename_i t
  have q5 := post_now sr3 q3
  refine ⟨t, rfl, ?_⟩
  cases t with
  | false =>
    rw [if_neg Bool.false_ne_true] at q5 ⊢
    exact post_val sr3 q5 (.bl _)
  | true =>
    rw [if_pos rfl] at q5 ⊢
    refine tG_use (er2.mono g3) sr3 (post_bind q5) fun z m4 S4 H4 u4 g4 er4 sr4 q6 rz => ?_
    exact ⟨_, m4, S4, y, z, sr4, Rep.mono (g3.trans g4) _ _ ry, rz, q6⟩
theorem p_chn {o o' : CmpOp} (w : XOk X sc N C ft W) (hp : plainE c = true) (ha : PE X a (tE X.K X.mg W (evE C a'))) (hb : PE X b (tE X.K X.mg W (evE C b'))) (hc : PE X c (tE X.K X.mg W (evE C c'))) :
    PE X (.Compare a [o, o'] [b, c] pos) (tE X.K X.mg W (evE C (.chn (copOf o) (copOf o') a' b' c'))) := by
  have hop : ∀ o, OpR X (compareOp o) (rD X.K (cmpD (copOf o))) := fun o => by
    have z := op_cmpD (X := X) w.hu (copOf o)
    rw [copOf_op] at z
    exact z
  refine PE.imp (pe_chain (hop o) (hop o') ha hb hc (lastMarks_plain hp)) fun σ H Q ⟨m, en, S, er, sr, q⟩ => ?_
  unfold evE at q
  refine tG_use er sr (post_bind q) fun x m1 S1 H1 v g er1 sr1 q1 rx => tG_use er1 sr1 (post_bind q1) fun y m2 S2 H2 u g2 er2 sr2 q2 ry => ?_
  exact chn_link er2 sr2 (Rep.mono g2 _ _ rx) ry q2
theorem p_chnT {o o' : CmpOp} (w : XOk X sc N C ft W) (hp : plainE c = true) (ha : PE X a (tE X.K X.mg W (evE C a'))) (hb : PE X b (tE X.K X.mg W (evE C b'))) (hc : PE X c (tE X.K X.mg W (evE C c'))) :
    PT X (.Compare a [o, o'] [b, c] pos) (tT X.K X.mg W fun en => evE C (.chn (copOf o) (copOf o') a' b' c') en >>= truD) := by
  have hop : ∀ o, OpR X (compareOp o) (rD X.K (cmpD (copOf o))) := fun o => by
    have z := op_cmpD (X := X) w.hu (copOf o)
    rw [copOf_op] at z
    exact z
  refine PT.imp (pt_chain (hop o) (hop o') ha hb hc (lastMarks_plain hp)) fun σ H Q ⟨m, en, S, er, sr, q⟩ => ?_
  have q := tst_end (post_bind q)
  unfold evE at q
  refine tG_use er sr (post_bind q) fun x m1 S1 H1 v g er1 sr1 q1 rx => tG_use er1 sr1 (post_bind q1) fun y m2 S2 H2 u g2 er2 sr2 q2 ry => ?_
  exact chn_link er2 sr2 (Rep.mono g2 _ _ rx) ry q2
/-! and, or, if -/
theorem p_and {rest : List Expr} (ha : PE X a (tE X.K X.mg W (evE C a'))) (hb : PE X (.BoolOp .And (b :: rest) pos) (tE X.K X.mg W (evE C b'))) : PE X (.BoolOp .And (a :: b :: rest) pos) (tE X.K X.mg W (evE C (.and a' b'))) := by
  refine PE.imp (pe_and ha hb) fun σ H Q ⟨m, en, S, er, sr, q⟩ => ?_
  unfold evE at q
  refine tG_use er sr (post_bind (post_bind q)) fun x m1 S1 H1 v g er1 sr1 q1 rx => ?_
  cases rx <;> try exact (show False from q1).elim
  rename_i t
  have q2 := post_now sr1 q1
  refine ⟨t, rfl, ?_⟩
  cases t with
  | true => rw [if_pos rfl] at q2 ⊢; exact ⟨m1, en, S1, er1, sr1, q2⟩
  | false => rw [if_neg Bool.false_ne_true] at q2 ⊢; exact post_val sr1 q2 (.bl _)
theorem p_or {rest : List Expr} (ha : PE X a (tE X.K X.mg W (evE C a'))) (hb : PE X (.BoolOp .Or (b :: rest) pos) (tE X.K X.mg W (evE C b'))) : PE X (.BoolOp .Or (a :: b :: rest) pos) (tE X.K X.mg W (evE C (.or a' b'))) := by
  refine PE.imp (pe_or ha hb) fun σ H Q ⟨m, en, S, er, sr, q⟩ => ?_
  unfold evE at q
  refine tG_use er sr (post_bind (post_bind q)) fun x m1 S1 H1 v g er1 sr1 q1 rx => ?_
  cases rx <;> try exact (show False from q1).elim
  rename_i t
  have q2 := post_now sr1 q1
  refine ⟨t, rfl, ?_⟩
  cases t with
  | true => rw [if_pos rfl] at q2 ⊢; exact post_val sr1 q2 (.bl _)
  | false => rw [if_neg Bool.false_ne_true] at q2 ⊢; exact ⟨m1, en, S1, er1, sr1, q2⟩
theorem and_tru (en : NL.Env) : (evE C (.and a' b') en >>= truD) = (evE C a' en >>= truD) >>= fun t => if t = true then evE C b' en >>= truD else pure false := by
  simp only [evE, bind_as, ite_bi, pure_bi]
  rfl
theorem or_tru (en : NL.Env) : (evE C (.or a' b') en >>= truD) = (evE C a' en >>= truD) >>= fun t => if t = true then pure true else evE C b' en >>= truD := by
  simp only [evE, bind_as, ite_bi, pure_bi]
  rfl
theorem p_andW {rest : List Expr} (ha : PT X a (tT X.K X.mg W fun en => evE C a' en >>= truD)) (hb : PW X (.BoolOp .And (b :: rest) pos) (tT X.K X.mg W fun en => evE C b' en >>= truD)) :
    PW X (.BoolOp .And (a :: b :: rest) pos) (tT X.K X.mg W fun en => evE C (.and a' b') en >>= truD) := by
  refine PW.imp (pw_and ha hb) fun σ H Q ⟨m, en, S, er, sr, q⟩ => ?_
  dsimp only at q
  rw [and_tru] at q
  refine tG_use er sr (post_bind q) fun t m1 S1 H1 v g er1 sr1 q1 rx => ?_
  subst rx
  cases v with
  | true => rw [if_pos rfl] at q1 ⊢; exact ⟨m1, en, S1, er1, sr1, q1⟩
  | false => rw [if_neg Bool.false_ne_true] at q1 ⊢; exact post_now sr1 q1 _ rfl
theorem p_orW {rest : List Expr} (ha : PT X a (tT X.K X.mg W fun en => evE C a' en >>= truD)) (hb : PW X (.BoolOp .Or (b :: rest) pos) (tT X.K X.mg W fun en => evE C b' en >>= truD)) :
    PW X (.BoolOp .Or (a :: b :: rest) pos) (tT X.K X.mg W fun en => evE C (.or a' b') en >>= truD) := by
  refine PW.imp (pw_or ha hb) fun σ H Q ⟨m, en, S, er, sr, q⟩ => ?_
  dsimp only at q
  rw [or_tru] at q
  refine tG_use er sr (post_bind q) fun t m1 S1 H1 v g er1 sr1 q1 rx => ?_
  subst rx
  cases v with
  | true => rw [if_pos rfl] at q1 ⊢; exact post_now sr1 q1 _ rfl
  | false => rw [if_neg Bool.false_ne_true] at q1 ⊢; exact ⟨m1, en, S1, er1, sr1, q1⟩
theorem p_boolE {f : Expr → Option E} : ∀ {es : List Expr} {op : BoolOp} {r : E}, comBool f op es = some r → (∀ e ∈ es, ∀ r, f e = some r → PE X e (tE X.K X.mg W (evE C r))) → PE X (.BoolOp op es pos) (tE X.K X.mg W (evE C r))
  | [], _, _, h, _ => by cases h
  | [e], op, r, h, hp => pe_one (hp e List.mem_cons_self r h)
  | e :: e2 :: es, op, r, h, hp => by
    unfold comBool at h
    cases e1 : f e with
    | none => rw [e1] at h; cases h
    | some a' =>
      cases e3 : comBool f op (e2 :: es) with
      | none => rw [e1, e3] at h; cases h
      | some b' =>
        rw [e1, e3] at h
        have ih := p_boolE e3 fun x hx => hp x (List.mem_cons_of_mem _ hx)
        have ha := hp e List.mem_cons_self a' e1
        cases op <;> cases h
        · exact p_and ha ih
        · exact p_or ha ih
theorem p_boolW {f : Expr → Option E} : ∀ {es : List Expr} {op : BoolOp} {r : E}, comBool f op es = some r → (∀ e ∈ es, ∀ r, f e = some r → PT X e (tT X.K X.mg W fun en => evE C r en >>= truD)) → PW X (.BoolOp op es pos) (tT X.K X.mg W fun en => evE C r en >>= truD)
  | [], _, _, h, _ => by cases h
  | [e], op, r, h, hp => by
    cases op with
    | And => exact pw_and1 (hp e List.mem_cons_self r h)
    | Or => exact pw_or1 (hp e List.mem_cons_self r h)
  | e :: e2 :: es, op, r, h, hp => by
    unfold comBool at h
    cases e1 : f e with
    | none => rw [e1] at h; cases h
    | some a' =>
      cases e3 : comBool f op (e2 :: es) with
      | none => rw [e1, e3] at h; cases h
      | some b' =>
        rw [e1, e3] at h
        have ih := p_boolW e3 fun x hx => hp x (List.mem_cons_of_mem _ hx)
        have ha := hp e List.mem_cons_self a' e1
        cases op <;> cases h
        · exact p_andW ha ih
        · exact p_orW ha ih
theorem p_ite (hc : PT X c (tT X.K X.mg W fun en => evE C c' en >>= truD)) (ha : PE X a (tE X.K X.mg W (evE C a'))) (hb : PE X b (tE X.K X.mg W (evE C b'))) : PE X (.IfExp c a b pos) (tE X.K X.mg W (evE C (.ite c' a' b'))) := by
  refine PE.imp (pe_ifExp hc ha hb) fun σ H Q ⟨m, en, S, er, sr, q⟩ => ?_
  unfold evE at q
  refine tG_use er sr (post_bind q) fun t m1 S1 H1 v g er1 sr1 q1 rx => ?_
  subst rx
  cases v with
  | true => rw [if_pos rfl] at q1 ⊢; exact ⟨m1, en, S1, er1, sr1, q1⟩
  | false => rw [if_neg Bool.false_ne_true] at q1 ⊢; exact ⟨m1, en, S1, er1, sr1, q1⟩
/-- if as a test -/
theorem pt_ife {tc ta tb : TT} (hc : PT X c tc) (ha : PT X a ta) (hb : PT X b tb) : PT X (.IfExp c a b pos) (fun σ H Q => tc σ H fun t H1 => if t = true then ta σ H1 Q else tb σ H1 Q) := by
  refine ⟨fun pins s σ H Q I h => ?_⟩
  show wpAny _ _ (do if ← isTrue c X.env (eval c X.env) then isTrue a X.env (eval a X.env) else isTrue b X.env (eval b X.env)) _ _ _
  refine wpAny_bind (thn (hc.run pins s σ H _ I h) fun t s1 ⟨H1, I1, q1⟩ => ?_)
  cases t with
  | true => rw [if_pos rfl] at q1 ⊢; exact ha.run pins s1 σ H1 Q I1 q1
  | false => rw [if_neg Bool.false_ne_true] at q1 ⊢; exact hb.run pins s1 σ H1 Q I1 q1
theorem p_iteT (hc : PT X c (tT X.K X.mg W fun en => evE C c' en >>= truD)) (ha : PT X a (tT X.K X.mg W fun en => evE C a' en >>= truD)) (hb : PT X b (tT X.K X.mg W fun en => evE C b' en >>= truD)) :
    PT X (.IfExp c a b pos) (tT X.K X.mg W fun en => evE C (.ite c' a' b') en >>= truD) := by
  refine PT.imp (pt_ife hc ha hb) fun σ H Q ⟨m, en, S, er, sr, q⟩ => ?_
  have e : (evE C (.ite c' a' b') en >>= truD) = (evE C c' en >>= truD) >>= fun t => if t = true then evE C a' en >>= truD else evE C b' en >>= truD := by
    simp only [evE, bind_as, ite_bi]
  dsimp only at q
  rw [e] at q
  refine tG_use er sr (post_bind q) fun t m1 S1 H1 v g er1 sr1 q1 rx => ?_
  subst rx
  cases v with
  | true => rw [if_pos rfl] at q1 ⊢; exact ⟨m1, en, S1, er1, sr1, q1⟩
  | false => rw [if_neg Bool.false_ne_true] at q1 ⊢; exact ⟨m1, en, S1, er1, sr1, q1⟩
/-! displays, places, slices, calls -/
theorem p_list {f : Expr → Option E} : ∀ {es : List Expr} {r : Es}, comL f es = some r → (∀ e ∈ es, ∀ r, f e = some r → plainE e = true ∧ PE X e (tE X.K X.mg W (evE C r))) → PA X es (tA X.K X.mg W (evEs C r))
  | [], _, h, _ => by
    cases h
    refine PA.imp pa_nil fun σ H Q ⟨m, en, S, er, sr, q⟩ => ?_
    exact post_now sr (show post _ _ _ _ (R.ok [] S) _ from q) [] .nil
  | e :: es, _, h, hp => by
    unfold comL at h
    cases e1 : f e with
    | none => rw [e1] at h; cases h
    | some a' =>
      cases e2 : comL f es with
      | none => rw [e1, e2] at h; cases h
      | some b' =>
        rw [e1, e2] at h
        cases h
        obtain ⟨h1, h2⟩ := hp e List.mem_cons_self a' e1
        refine PA.imp (pa_cons h2 (p_list e2 fun x hx => hp x (List.mem_cons_of_mem _ hx)) (star_plain h1)) fun σ H Q ⟨m, en, S, er, sr, q⟩ => ?_
        unfold evEs at q
        refine tG_use er sr (post_bind q) fun x m1 S1 H1 v g er1 sr1 q1 rx => tG_use er1 sr1 (post_bind q1) fun y m2 S2 H2 u g2 er2 sr2 q2 ry => ?_
        exact post_now sr2 (show post _ _ _ _ (R.ok (x :: y) S2) _ from q2) _ (.cons (Rep.mono g2 _ _ rx) ry)
theorem p_tup {es : List Expr} {es' : Es} {k : Nat} (h : PA X es (tA X.K X.mg W (evEs C es'))) : PE X (.Tuple es k pos) (tE X.K X.mg W (evE C (.tup es'))) := by
  refine PE.imp (pe_tup h) fun σ H Q ⟨m, en, S, er, sr, q⟩ => ?_
  unfold evE at q
  refine tG_use er sr (post_bind q) fun x m1 S1 H1 v g er1 sr1 q1 rx => ?_
  obtain ⟨hc, q2⟩ := post_ite q1
  exact ⟨by rw [← rx.length]; exact hc, post_tup sr1 q2 rx⟩
theorem p_lst {es : List Expr} {es' : Es} (h : PA X es (tA X.K X.mg W (evEs C es'))) : PE X (.List es pos) (tE X.K X.mg W (evE C (.lst es'))) := by
  refine PE.imp (pe_lst h) fun σ H Q ⟨m, en, S, er, sr, q⟩ => ?_
  unfold evE at q
  refine tG_use er sr (post_bind q) fun x m1 S1 H1 v g er1 sr1 q1 rx => ?_
  obtain ⟨hc, q2⟩ := post_ite q1
  exact ⟨by rw [← rx.length]; exact hc, post_alloc sr1 q2 rx⟩
theorem p_idx (hs : isSlice b = false) (ha : PE X a (tE X.K X.mg W (evE C a'))) (hb : PE X b (tE X.K X.mg W (evE C b'))) : PE X (.Subscript a b pos) (tE X.K X.mg W (evE C (.idx a' b'))) := by
  have pl : PlainIx b := by
    intro o i
    cases b <;> first | rfl | cases hs
  refine PE.imp (pe_ix ix_D ha hb pl) fun σ H Q ⟨m, en, S, er, sr, q⟩ => ?_
  unfold evE at q
  refine tG_use er sr (post_bind q) fun x m1 S1 H1 v g er1 sr1 q1 rx => tG_use er1 sr1 (post_bind q1) fun y m2 S2 H2 u g2 er2 sr2 q2 ry => ?_
  exact ⟨_, m2, S2, x, y, sr2, Rep.mono g2 _ _ rx, ry, q2⟩
end
end NL

namespace NL
open PySem PySem.Spec PyProof.Rows L2
section
variable {X : Cx} {sc : Scope} {N : List Str} {C : Nat → List D → M D} {ft : FTab} {W : WX} {a b c e : Expr} {a' b' c' e' : E} {pos : Pos}
/-! slices -/
theorem PO.imp {o : Option Expr} {t t' : TO} (h : PO X o t) (k : ∀ σ H Q, t' σ H Q → t σ H Q) : PO X o t' := ⟨fun pins s σ H Q I q => h.run pins s σ H Q I (k σ H Q q)⟩
/-- a bound: where it is there, an int -/
def tB1 (K : PySem.W.Frag) (mg : Str → Option Value) (W : WX) (f : NL.Env → M (Option Int)) : TO := @tG (Option Int) (Option Int) (fun _ _ a b => b = a) K mg W f
theorem p_bnd {f : Expr → Option E} {o : Option Expr} (h : comO f o = some e') (hp : ∀ e, o = some e → ∀ r, f e = some r → PE X e (tE X.K X.mg W (evE C r))) : PO X o (tB1 X.K X.mg W fun en => evE C e' en >>= bndM o.isSome) := by
  cases o with
  | none =>
    cases h
    refine PO.imp po_none fun σ H Q ⟨m, en, S, er, sr, q⟩ => ?_
    exact post_now sr (show post _ _ _ _ (R.ok none S) _ from q) none rfl
  | some e =>
    refine PO.imp (po_some (hp e rfl e' h)) fun σ H Q ⟨m, en, S, er, sr, q⟩ => ?_
    refine tG_use er sr (post_bind q) fun d m1 S1 H1 v g er1 sr1 q1 rv => ?_
    cases rv <;> try exact (show False from q1).elim
    exact ⟨_, rfl, post_now sr1 (show post _ _ _ _ (R.ok (some _) S1) _ from q1) _ rfl⟩
theorem p_slc {f : Expr → Option E} {lo hi : Option Expr} {lo' hi' : E} {p2 : Pos} (ha : PE X a (tE X.K X.mg W (evE C a'))) (h1 : comO f lo = some lo') (h2 : comO f hi = some hi')
    (hl : ∀ e, lo = some e → ∀ r, f e = some r → PE X e (tE X.K X.mg W (evE C r))) (hh : ∀ e, hi = some e → ∀ r, f e = some r → PE X e (tE X.K X.mg W (evE C r))) :
    PE X (.Subscript a (.Slice lo hi none p2) pos) (tE X.K X.mg W (evE C (.slc lo.isSome hi.isSome a' lo' hi'))) := by
  refine PE.imp (pe_slice sl_list ha (p_bnd (C := C) (W := W) h1 hl) (p_bnd (C := C) (W := W) h2 hh)) fun σ H Q ⟨m, en, S, er, sr, q⟩ => ?_
  unfold evE at q
  refine tG_use er sr (post_bind q) fun x m1 S1 H1 v g er1 sr1 q1 rx => tG_use er1 sr1 (post_bind q1) fun y m2 S2 H2 u g2 er2 sr2 q2 ry => tG_use er2 sr2 (post_bind q2) fun z m3 S3 H3 w g3 er3 sr3 q3 rz => ?_
  subst ry rz
  have rx3 := Rep.mono (g2.trans g3) _ _ rx
  cases rx3 <;> try exact (show False from q3).elim
  rename_i l a ea
  obtain ⟨o, e0, q4⟩ := getL_bind q3
  obtain ⟨vs, sq, rs⟩ := sr3.sq_at e0 ea
  exact ⟨a, vs, rfl, sq, post_alloc sr3 q4 (rs.cut _ _)⟩
/-! calls -/
theorem post_eq {α : Type} {K : PySem.W.Frag} {Ex : Str → Option Nat → List Addr → Store → Hp → Prop} {m : List Addr} {H : Hp} {r : R α} {F : α → List Addr → Store → Hp → Prop} (h : post K Ex m H r F) : post K Ex m H r (fun a m' S' H' => r = .ok a S' ∧ F a m' S' H') := by
  cases r with
  | ok a S => exact fun m' H' g s => ⟨rfl, h m' H' g s⟩
  | exc c d S => exact h
  | stuck => exact h
theorem evEs_len {en : NL.Env} : ∀ (es : Es) (S S' : Store) (xs : List D), evEs C es en S = .ok xs S' → xs.length = es.len
  | .nil, S, S', xs, h => by
    unfold evEs at h
    cases h
    rfl
  | .cons e es, S, S', xs, h => by
    unfold evEs at h
    rw [bind_eq] at h
    cases e1 : evE C e en S with
    | ok x S1 =>
      rw [e1] at h
      have h : (evEs C es en S1).bind (fun xs => (pure (x :: xs) : M (List D))) = .ok xs S' := h
      cases e2 : evEs C es en S1 with
      | ok ys S2 =>
        rw [e2] at h
        have h : (R.ok (x :: ys) S2 : R (List D)) = .ok xs S' := h
        cases h
        show ys.length + 1 = es.len + 1
        rw [evEs_len es S1 _ ys e2]
      | exc c d S2 => rw [e2] at h; cases h
      | stuck => rw [e2] at h; cases h
    | exc c d S1 => rw [e1] at h; cases h
    | stuck => rw [e1] at h; cases h
theorem p_call {n : Nat} {f : Str} {p : Pos} {es : List Expr} {id ar : Nat} {es' : Es} (w : XOk X sc N C ft W) (hg : isGl sc f = true) (hf : ft f = some (id, ar)) (hl : es'.len = ar) (hc : comL (comE ft N n sc) (e :: es) = some es')
    (h : PA X (e :: es) (tA X.K X.mg W (evEs C es'))) : PE X (.Call (.Name f p) (e :: es) [] pos) (tE X.K X.mg W (evE C (.call id es'))) := by
  obtain ⟨a, fd, ps, k, F, hr, hm, hk, hb⟩ := w.fo.own f id ar hf
  obtain ⟨g1, g2⟩ := isGl_some hg
  have gl : Gl X f := by show X.env.scope.names.lookup f = _; rw [w.sc]; exact g1
  have pl : ∀ x ∈ e :: es, plainE x = true := fun x hx => by
    obtain ⟨r, hr⟩ := comL_all hc x hx
    exact comE_plain hr
  refine PE.imp (pe_callS F hr gl hm hk hb (fun σ => passAt w.tk σ) h g2 (star_plain (pl e List.mem_cons_self)) (stars_none fun x hx => pl x (List.mem_cons_of_mem _ hx))) fun σ H Q ⟨m, en, S, er, sr, q⟩ => ?_
  unfold evE at q
  refine tG_use er sr (post_eq (post_bind q)) fun x m1 S1 H1 v g er1 sr1 ⟨qe, q1⟩ rx => ?_
  exact ⟨m1, S1, x, sr1, rx, (evEs_len es' S S1 x qe).trans hl, post_monoE q1 fun c d m' S' H' g s hw cls dd hx => hw cls dd hx⟩
theorem pe_blt {g : List V → Hp → VK → Prop} {es : List Expr} {t : TA} {p : Pos} (b : Blt) (hc : CallR X b.val g) (hg : Gl X b.name) (hm : X.mg b.name = none) (ha : PA X (e :: es) t) (hd : (b.name == ("__debug__" : Str)) = false)
    (he : starEach (e :: es) X.env = (false, eval e X.env) :: starEach es X.env) (hpl : (backTo pos (starEach es X.env)).any (·.1) = false) : PE X (.Call (.Name b.name p) (e :: es) [] pos) (tCB g t) := by
  obtain ⟨h1, h2⟩ := boot_blt b
  cases b
  · exact pe_callB hc hg hm h1 ha h2 hd he hpl
  · exact pe_callTy hc hg hm h1 ha h2 hd he hpl
  · exact pe_callB hc hg hm h1 ha h2 hd he hpl
  · exact pe_callB hc hg hm h1 ha h2 hd he hpl
  · exact pe_callB hc hg hm h1 ha h2 hd he hpl
  · exact pe_callTy hc hg hm h1 ha h2 hd he hpl
  · exact pe_callTy hc hg hm h1 ha h2 hd he hpl
  · exact pe_callB hc hg hm h1 ha h2 hd he hpl
theorem p_blt {n : Nat} {f : Str} {p : Pos} {es : List Expr} {b : Blt} {es' : Es} (w : XOk X sc N C ft W) (hg : isGl sc f = true) (hf : bltOf f = some b) (hc : comL (comE ft N n sc) (e :: es) = some es')
    (h : PA X (e :: es) (tA X.K X.mg W (evEs C es'))) : PE X (.Call (.Name f p) (e :: es) [] pos) (tE X.K X.mg W (evE C (.blt b es'))) := by
  have hn := bltOf_some hf
  subst hn
  obtain ⟨g1, g2⟩ := isGl_some hg
  have gl : Gl X b.name := by show X.env.scope.names.lookup b.name = _; rw [w.sc]; exact g1
  have pl : ∀ x ∈ e :: es, plainE x = true := fun x hx => by
    obtain ⟨r, hr⟩ := comL_all hc x hx
    exact comE_plain hr
  refine PE.imp (pe_blt b (call_bltD w.calm w.hu b) gl (w.fo.blt b) h g2 (star_plain (pl e List.mem_cons_self)) (stars_none fun x hx => pl x (List.mem_cons_of_mem _ hx))) fun σ H Q ⟨m, en, S, er, sr, q⟩ => ?_
  unfold evE at q
  refine tG_use er sr (post_bind q) fun x m1 S1 H1 v g er1 sr1 q1 rx => ?_
  exact ⟨_, m1, S1, x, sr1, rx, q1⟩
theorem p_isi {f t : Str} {p p2 : Pos} {T : Ty} (w : XOk X sc N C ft W) (hg : isGl sc f = true) (hf : f = ("isinstance" : Str)) (hg2 : isGl sc t = true) (ht : tyOf t = some T) (hp : plainE e = true) (h : PE X e (tE X.K X.mg W (evE C e'))) :
    PE X (.Call (.Name f p) [e, .Name t p2] [] pos) (tE X.K X.mg W (evE C (.isi e' T))) := by
  subst hf
  have hn := tyOf_some ht
  subst hn
  obtain ⟨g1, g2⟩ := isGl_some hg
  obtain ⟨g3, g4⟩ := isGl_some hg2
  have gl : Gl X "isinstance" := by show X.env.scope.names.lookup _ = _; rw [w.sc]; exact g1
  have gl2 : Gl X T.name := by show X.env.scope.names.lookup _ = _; rw [w.sc]; exact g3
  have pT : PE X (.Name T.name p2) (tC (.ty T.nm)) := pe_bltn gl2 (w.fo.ty T) (boot_ty T).1 rfl (boot_ty T).2 g4
  refine PE.imp (pe_callB call_isi gl w.fo.isi (by decide +kernel) (pa_cons h (pa_cons pT pa_nil) (star_plain hp)) (by decide) g2 (star_plain hp) rfl) fun σ H Q ⟨m, en, S, er, sr, q⟩ => ?_
  unfold evE at q
  refine tG_use er sr (post_bind q) fun x m1 S1 H1 v g er1 sr1 q1 rx => ?_
  exact isi_of sr1 rx q1
end
end NL

namespace NL
open PySem PySem.Spec PyProof.Rows L2
/-! ### what is walked -/
def CkOk : Option (Nat × Ob) → Store → Prop
  | none, _ => True
  | some (l, o), S => S[l]? = some o
def Gives (K : PySem.W.Frag) (m : List Addr) (H : Hp) (p : List D × Option (Nat × Ob)) (J : L2.It) : Prop :=
  ∀ (i : Nat) (m' : List Addr) (S' : Store) (H' : Hp), Gr m m' H H' → SR K m' S' H' → CkOk p.2 S' → (i = p.1.length → J.stop i H') ∧
    ∀ d, p.1[i]? = some d → J.go i H' ∧ ∀ x H'', J.yld i H' x H'' → Gr m' m' H' H'' ∧ SR K m' S' H'' ∧ Rep m' H'' d x
def tI (K : PySem.W.Frag) (mg : Str → Option Value) (W : WX) (f : NL.Env → M (List D × Option (Nat × Ob))) : TI := fun σ H R =>
  ∃ m en S, ER m H en σ ∧ SR K m S H ∧ post K (Wd mg W σ) m H (f en S) (fun p m' _ H' => ∀ J, Gives K m' H' p J → R J H')
theorem gives_tup {K : PySem.W.Frag} {m : List Addr} {H : Hp} {a : Addr} {xs : List D} {vs : List V} (ea : H a = some (.tup vs)) (ra : Reps m H xs vs) : Gives K m H (xs, none) (Itt K a) := by
  intro i m' S' H' g s _
  have ea' := g.tup _ _ ea
  have ra' := Reps.mono g _ _ ra
  refine ⟨fun h => ⟨vs, SqT.of ea', by rw [← ra.length, h]; exact Nat.le_refl _⟩, fun d hd => ?_⟩
  obtain ⟨v, h1, h2⟩ := ra'.get hd
  refine ⟨⟨vs, v, SqT.of ea', h1⟩, fun x H'' ⟨e, hy⟩ => ?_⟩
  subst e
  have := hy vs (SqT.of ea')
  rw [h1] at this
  cases this
  exact ⟨Gr.refl _ _, s, h2⟩
theorem gives_lst {K : PySem.W.Frag} {m : List Addr} {H : Hp} {a : Addr} {l : Nat} {o : Ob} (ea : m[l]? = some a) : Gives K m H (items o, some (l, o)) (Itl K a) := by
  intro i m' S' H' g s hc
  obtain ⟨vs, q, rs⟩ := s.sq_at hc (g.pre _ _ ea)
  refine ⟨fun h => ⟨vs, q, by rw [← rs.length, h]; exact Nat.le_refl _⟩, fun d hd => ?_⟩
  obtain ⟨v, h1, h2⟩ := rs.get hd
  refine ⟨⟨vs, v, q, h1⟩, fun x H'' ⟨e, hy⟩ => ?_⟩
  subst e
  have := hy vs q
  rw [h1] at this
  cases this
  exact ⟨Gr.refl _ _, s, h2⟩
theorem gives_rng {K : PySem.W.Frag} {m : List Addr} {H : Hp} {lo : Int} {n : Nat} : Gives K m H ((List.range n).map fun k => D.int (lo + (k : Nat)), none) (Itr lo n) := by
  intro i m' S' H' g s _
  refine ⟨fun h => ?_, fun d hd => ?_⟩
  · show n ≤ i
    rw [h]; simp
  · rw [List.getElem?_map] at hd
    obtain ⟨j, hj, rfl⟩ := Option.map_eq_some_iff.mp hd
    obtain ⟨hlt, hj⟩ := List.getElem?_eq_some_iff.mp hj
    have hlt : i < n := by simpa using hlt
    have hj : i = j := by simpa using hj
    subst hj
    refine ⟨hlt, fun x H'' ⟨e, hy⟩ => ?_⟩
    subst e hy
    exact ⟨Gr.refl _ _, s, .int _⟩
section
variable {X : Cx} {sc : Scope} {N : List Str} {C : Nat → List D → M D} {ft : FTab} {W : WX} {a b c e tg : Expr} {a' b' c' e' : E} {pos : Pos}
theorem PI.imp {t t' : TI} (h : PI X tg e t) (k : ∀ σ H Q, t' σ H Q → t σ H Q) : PI X tg e t' := ⟨fun pins s σ H Q I q => h.run pins s σ H Q I (k σ H Q q)⟩
theorem i_val (h : PE X e (tE X.K X.mg W (evE C e'))) : PI X tg e (tI X.K X.mg W (evIt C (.val e'))) := by
  refine ⟨fun pins s σ H R I ⟨m, en, S, er, sr, q⟩ => ?_⟩
  unfold evIt at q
  refine thn (h.run pins s σ H (fun v H1 => ∃ d m1 S1, SR X.K m1 S1 H1 ∧ Rep m1 H1 d v ∧ post X.K (Wd X.mg W σ) m1 H1 (iterD d S1) (fun p m' _ H' => ∀ J, Gives X.K m' H' p J → R J H')) I
    (tG_use er sr (post_bind q) fun d m1 S1 H1 v g er1 sr1 q1 rx => ⟨d, m1, S1, sr1, rx, q1⟩)) fun u s1 ⟨v, H1, I1, r1, d, m1, S1, sr1, rx, q1⟩ => ?_
  cases rx <;> try exact (show False from q1).elim
  · rename_i a xs vs ea ra
    cases r1
    have k := post_now sr1 q1 (Itt X.K a) (gives_tup ea ra)
    obtain ⟨its, rv, p, hz⟩ := I1.tuple (SqT.of ea)
    refine wpAny_pyIter_tuple (show s1.heap.IsTuple a its.toArray from p) ?_
    refine ⟨s1.heap.objs.size, [s1.heap.objs.size], _, _, H1, rfl, I1.kept (t' := s1.toks) fun b o e => Heap.get?_push_of_some _ e, turn_tuple a _, ⟨_, Heap.get?_push_size _ rfl, rfl, rfl⟩, fun b hb => ?_, k⟩
    rw [List.mem_singleton.mp hb]
    exact I1.fpOk (Nat.le_refl _) (I1.hok.fresh (Nat.le_refl _))
  · rename_i l a ea
    cases r1
    unfold iterD at q1
    cases e0 : S1[l]? with
    | none => dsimp only at q1; rw [e0] at q1; exact q1.elim
    | some o =>
      dsimp only at q1
      rw [e0] at q1
      have k := post_now sr1 q1 (Itl X.K a) (gives_lst ea)
      obtain ⟨vs, sq, rs⟩ := sr1.sq_at e0 ea
      obtain ⟨its, rv, p, hz⟩ := I1.list sq
      refine wpAny_pyIter_list p.isList ?_
      refine ⟨s1.heap.objs.size, [s1.heap.objs.size], _, _, H1, rfl, I1.kept (t' := s1.toks) fun b o e => Heap.get?_push_of_some _ e, turn_list a _, ⟨_, Heap.get?_push_size _ rfl, rfl, rfl⟩, fun b hb => ?_, k⟩
      rw [List.mem_singleton.mp hb]
      exact I1.fpOk (Nat.le_refl _) (I1.hok.fresh (Nat.le_refl _))
theorem rngD_some {K : PySem.W.Frag} {Ex : Str → Option Nat → List Addr → Store → Hp → Prop} {m : List Addr} {H : Hp} {S : Store} {x y : D} {α : Type} {f : List D → M α} {F : α → List Addr → Store → Hp → Prop} (h : post K Ex m H ((rngD x y >>= f) S) F) :
    ∃ i j, x = .int i ∧ y = .int j ∧ (-(2 ^ 62) ≤ i ∧ i < 2 ^ 62 ∧ -(2 ^ 62) ≤ j ∧ j < 2 ^ 62) ∧ post K Ex m H (f ((List.range (j - i).toNat).map fun k => .int (i + (k : Nat))) S) F := by
  cases x <;> cases y <;> try exact (show False from h).elim
  rename_i i j
  by_cases hc : -(2 ^ 62) ≤ i ∧ i < 2 ^ 62 ∧ -(2 ^ 62) ≤ j ∧ j < 2 ^ 62
  · refine ⟨i, j, rfl, rfl, hc, ?_⟩
    have e : rngD (.int i) (.int j) = pure ((List.range (j - i).toNat).map fun k => .int (i + (k : Nat))) := if_pos hc
    rw [e] at h
    exact h
  · have e : rngD (.int i) (.int j) = die := if_neg hc
    rw [e] at h
    exact (show False from h).elim
theorem i_rng1 {g : Str} {p : Pos} (w : XOk X sc N C ft W) (hg : isGl sc g = true) (hn : g = ("range" : Str)) (hp : plainE b = true) (hb : PE X b (tE X.K X.mg W (evE C b'))) : PI X tg (.Call (.Name g p) [b] [] pos) (tI X.K X.mg W (evIt C (.rng1 b'))) := by
  subst hn
  have gl : Gl X "range" := by show X.env.scope.names.lookup _ = _; rw [w.sc]; exact (isGl_some hg).1
  refine PI.imp (pi_range1 gl w.fo.rng (pa_cons hb pa_nil (star_plain hp)) (star_plain hp)) fun σ H R ⟨m, en, S, er, sr, q⟩ => ?_
  unfold evIt at q
  refine tG_use er sr (post_bind q) fun d m1 S1 H1 v g er1 sr1 q1 rx => ?_
  obtain ⟨i, j, ei, ej, ⟨_, _, h3, h4⟩, q2⟩ := rngD_some q1
  cases ei
  subst ej
  cases rx
  refine ⟨j, rfl, h3, h4, ?_⟩
  have z := post_now sr1 q2 (Itr 0 (j - 0).toNat) gives_rng
  rw [Int.sub_zero] at z
  exact z
theorem i_rng2 {g : Str} {p : Pos} (w : XOk X sc N C ft W) (hg : isGl sc g = true) (hn : g = ("range" : Str)) (hpa : plainE a = true) (hpb : plainE b = true) (ha : PE X a (tE X.K X.mg W (evE C a'))) (hb : PE X b (tE X.K X.mg W (evE C b'))) :
    PI X tg (.Call (.Name g p) [a, b] [] pos) (tI X.K X.mg W (evIt C (.rng2 a' b'))) := by
  subst hn
  have gl : Gl X "range" := by show X.env.scope.names.lookup _ = _; rw [w.sc]; exact (isGl_some hg).1
  refine PI.imp (pi_range2 gl w.fo.rng (pa_cons ha (pa_cons hb pa_nil (star_plain hpb)) (star_plain hpa)) (by rw [star_plain hpa, star_plain hpb]; rfl) (star_plain hpb)) fun σ H R ⟨m, en, S, er, sr, q⟩ => ?_
  unfold evIt at q
  refine tG_use er sr (post_bind q) fun d m1 S1 H1 v g er1 sr1 q1 rx => tG_use er1 sr1 (post_bind q1) fun d2 m2 S2 H2 v2 g2 er2 sr2 q2 rx2 => ?_
  obtain ⟨i, j, ei, ej, hc, q3⟩ := rngD_some q2
  subst ei
  subst ej
  cases rx
  cases rx2
  exact ⟨i, j, rfl, hc, post_now sr2 q3 _ gives_rng⟩
theorem i_of {f : Scope → Expr → Option E} {it : NL.It} (w : XOk X sc N C ft W) (h : comE.comIt f sc e = some it) (hp : ∀ e r, f sc e = some r → plainE e = true ∧ PE X e (tE X.K X.mg W (evE C r))) : PI X tg e (tI X.K X.mg W (evIt C it)) ∧ plainE e = true := by
  have dflt : (f sc e).map NL.It.val = some it → PI X tg e (tI X.K X.mg W (evIt C it)) ∧ plainE e = true := fun h => by
    obtain ⟨r, hr, rfl⟩ := Option.map_eq_some_iff.mp h
    obtain ⟨h1, h2⟩ := hp e r hr
    exact ⟨i_val h2, h1⟩
  unfold comE.comIt at h
  split at h
  · rename_i g p b pos
    split at h
    · rename_i hn
      split at h
      · rename_i hg
        obtain ⟨r, hr, rfl⟩ := Option.map_eq_some_iff.mp h
        obtain ⟨h1, h2⟩ := hp b r hr
        exact ⟨i_rng1 w hg hn h1 h2, rfl⟩
      · cases h
    · exact dflt h
  · rename_i g p a b pos
    split at h
    · rename_i hn
      split at h
      · rename_i hg
        cases e1 : f sc a with
        | none => rw [e1] at h; cases h
        | some a' =>
          cases e2 : f sc b with
          | none => rw [e1, e2] at h; cases h
          | some b' =>
            rw [e1, e2] at h
            cases h
            obtain ⟨h1, h2⟩ := hp a a' e1
            obtain ⟨h3, h4⟩ := hp b b' e2
            exact ⟨i_rng2 w hg hn h1 h3 h2 h4, rfl⟩
      · cases h
    · exact dflt h
  · exact dflt h
/-! ### targets -/
def setV (σ : L2.St) : List Nat → List V → L2.St
  | i :: is, v :: vs => setV (σ.set i (some v)) is vs
  | _, _ => σ
theorem wipe_set {σ : L2.St} {i : Nat} {v : Option V} : ∀ {vs : List Nat}, i ∈ vs → L2.wipe (σ.set i v) vs = L2.wipe σ vs
  | [], h => by cases h
  | j :: vs, h => by
    show (L2.wipe (σ.set i v) vs).set j none = (L2.wipe σ vs).set j none
    by_cases hm : i ∈ vs
    · rw [wipe_set hm]
    · have e : i = j := by
        rcases List.mem_cons.mp h with h | h
        · exact h
        · exact absurd h hm
      subst e
      have key : ∀ {vs : List Nat}, i ∉ vs → L2.wipe (σ.set i v) vs = (L2.wipe σ vs).set i v := fun {vs} => by
        induction vs with
        | nil => intro _; rfl
        | cons k vs ih =>
          intro hn
          show (L2.wipe (σ.set i v) vs).set k none = ((L2.wipe σ vs).set k none).set i v
          rw [ih fun z => hn (List.mem_cons_of_mem _ z)]
          exact List.set_comm _ _ fun z => hn (by rw [z]; exact List.mem_cons_self)
      rw [key hm, List.set_set]
theorem wipe_setV : ∀ {is : List Nat} {xs : List V} {σ : L2.St} {vs : List Nat}, (∀ i ∈ is, i ∈ vs) → L2.wipe (NL.setV σ is xs) vs = L2.wipe σ vs
  | [], _, _, _, _ => rfl
  | _ :: _, [], _, _, _ => rfl
  | i :: is, x :: xs, σ, vs, h => by
    show L2.wipe (NL.setV (σ.set i (some x)) is xs) vs = _
    rw [wipe_setV fun j hj => h j (List.mem_cons_of_mem _ hj), wipe_set (h i List.mem_cons_self)]
def tTg (K : PySem.W.Frag) (t : Tg) : TG := fun v σ H Q => ∃ Ex m en S d, ER m H en σ ∧ SR K m S H ∧ Rep m H d v ∧ post K Ex m H (bindT t d en S) (fun en' m' _ H' => ∀ σ', ER m' H' en' σ' → (∀ vs, (∀ i ∈ t.ixs, i ∈ vs) → L2.wipe σ' vs = L2.wipe σ vs) → Q σ' H')
theorem PG.imp {t t' : TG} (h : PG X tg t) (k : ∀ v σ H Q, t' v σ H Q → t v σ H Q) : PG X tg t' := ⟨fun pins s σ H v u Q I r q => h.run pins s σ H v u Q I r (k v σ H Q q)⟩
theorem PG.or {t t' : TG} (h : PG X tg t) (h' : PG X tg t') : PG X tg (fun v σ H Q => t v σ H Q ∨ t' v σ H Q) := ⟨fun pins s σ H v u Q I r q => q.elim (h.run pins s σ H v u Q I r) (h'.run pins s σ H v u Q I r)⟩
/-- where names may be stored -/
def Put (X : Cx) (f : Str → Option Nat) : Prop := ∀ x i, f x = some i → X.N[i]? = some x ∧ Loc X.env.scope x ∧ (X.fn x = true ∨ X.env.scope.names.lookup x = some .local)
theorem ER.setAll {m : List Addr} {H : Hp} : ∀ {is : List Nat} {ds : List D} {vs : List V} {en : NL.Env} {σ : L2.St}, ER m H en σ → Reps m H ds vs → ER m H (setAll en is ds) (setV σ is vs)
  | [], _, _, _, _, r, _ => r
  | _ :: _, [], _, _, _, r, h => by cases h; exact r
  | i :: is, d :: ds, _, en, σ, r, h => by
    cases h with
    | cons h1 h2 =>
      rename_i v vs
      exact ER.setAll (is := is) (ds := ds) (vs := vs) (en := en.set i (some d)) (σ := σ.set i (some v)) (r.set h1 i) h2
theorem names_pgs (nd : X.N.Nodup) {f : Str → Option Nat} (hf : Put X f) : ∀ {es : List Expr} {is : List Nat}, namesOf f es = some is → PGs X es (fun vs σ H Q => vs.length = is.length ∧ Q (setV σ is vs) H) ∧ (assignEach es X.env).length = is.length ∧ (assignEach es X.env).findIdx? (·.1) = none
  | [], _, h => by
    cases h
    refine ⟨⟨fun pins s σ H vs us Q I r ⟨hl, q⟩ => ?_⟩, rfl, rfl⟩
    have e : vs = [] := List.eq_nil_of_length_eq_zero hl
    subst e
    exact pgs_nil.run pins s σ H [] us Q I r ⟨rfl, q⟩
  | e :: es, is, h => by
    cases e <;> simp only [namesOf] at h <;> try cases h
    rename_i x p
    cases e1 : f x with
    | none => rw [e1] at h; cases h
    | some i =>
      cases e2 : namesOf f es with
      | none => rw [e1, e2] at h; cases h
      | some is' =>
        rw [e1, e2] at h
        cases h
        obtain ⟨h1, h2, h3⟩ := hf x i e1
        obtain ⟨k1, k2, k3⟩ := names_pgs nd hf e2
        refine ⟨⟨fun pins s σ H vs us Q I r ⟨hl, q⟩ => ?_⟩, by show _ + 1 = _; rw [k2]; rfl, ?_⟩
        · cases vs with
          | nil => cases hl
          | cons v vs => exact (pgs_cons (pg_name nd h1 h2 h3) k1 rfl).run pins s σ H (v :: vs) us Q I r ⟨v, vs, rfl, Nat.succ.inj hl, q⟩
        · show List.findIdx? (·.1) ((false, _) :: _) = none
          rw [List.findIdx?_cons]
          simp [k3]
theorem post_iteP {α : Type} {K : PySem.W.Frag} {Ex : Str → Option Nat → List Addr → Store → Hp → Prop} {m : List Addr} {H : Hp} {S : Store} {d : D} {n : Nat} {f : List D → M α} {F : α → List Addr → Store → Hp → Prop} (h : post K Ex m H ((unpD n d >>= f) S) F) :
    ∃ xs, xs.length = n ∧ post K Ex m H (f xs S) F ∧ (d = .tup xs ∨ ∃ l o, d = .ref l ∧ S[l]? = some o ∧ items o = xs) := by
  cases d <;> try exact (show False from h).elim
  · rename_i xs
    by_cases hc : xs.length = n
    · have e : unpD n (.tup xs) = pure xs := if_pos hc
      rw [e] at h
      exact ⟨xs, hc, h, .inl rfl⟩
    · have e : unpD n (.tup xs) = die := if_neg hc
      rw [e] at h
      exact (show False from h).elim
  · rename_i l
    have e : (unpD n (.ref l) >>= f) = getL l >>= fun xs => (if xs.length = n then pure xs else die) >>= f := bind_as _ _ _
    rw [e] at h
    obtain ⟨o, e0, h⟩ := getL_bind h
    by_cases hc : (items o).length = n
    · rw [if_pos hc] at h
      exact ⟨items o, hc, h, .inr ⟨l, o, rfl, e0, rfl⟩⟩
    · rw [if_neg hc] at h
      exact (show False from h).elim
theorem g_of (hc : X.calm = true) (nd : X.N.Nodup) {f : Str → Option Nat} (hf : Put X f) {t : Tg} (h : comTg f tg = some t) : PG X tg (tTg X.K t) := by
  cases tg <;> simp only [comTg] at h <;> try cases h
  · rename_i x p
    obtain ⟨i, hi, rfl⟩ := Option.map_eq_some_iff.mp h
    obtain ⟨h1, h2, h3⟩ := hf x i hi
    refine PG.imp (pg_name nd h1 h2 h3) fun v σ H Q ⟨Ex, m, en, S, d, er, sr, rd, q⟩ => ?_
    exact post_now sr (show post _ _ _ _ (R.ok (en.set i (some d)) S) _ from q) _ (er.set rd i) fun vs hv => wipe_set (hv i List.mem_cons_self)
  · rename_i es k p
    obtain ⟨is, hi, rfl⟩ := Option.map_eq_some_iff.mp h
    obtain ⟨k1, k2, k3⟩ := names_pgs nd hf hi
    refine PG.imp (PG.or (pg_tup hc k1 k2 k3) (pg_lst hc k1 k2 k3)) fun v σ H Q ⟨Ex, m, en, S, d, er, sr, rd, q⟩ => ?_
    obtain ⟨xs, hl, q2, hx⟩ := post_iteP (show post _ _ _ _ ((unpD is.length d >>= fun ds => pure (NL.setAll en is ds)) S) _ from q)
    have q3 := post_now sr (show post _ _ _ _ (R.ok (NL.setAll en is xs) S) _ from q2)
    rcases hx with rfl | ⟨l, o, rfl, e0, rfl⟩
    · cases rd with
      | tup ea ra => exact .inl ⟨_, _, rfl, SqT.of ea, by rw [← ra.length]; exact hl, by rw [← ra.length]; exact hl, q3 _ (er.setAll ra) fun vs hv => wipe_setV hv⟩
    · cases rd with
      | ref ea =>
        obtain ⟨vs, sq, rs⟩ := sr.sq_at e0 ea
        exact .inr ⟨_, vs, rfl, sq, by rw [← rs.length]; exact hl, by rw [← rs.length]; exact hl, q3 _ (er.setAll rs) fun vs hv => wipe_setV hv⟩
end
end NL

namespace NL
open PySem PySem.Spec PyProof.Rows L2
/-! ### comprehensions -/
theorem ok_bind {α β : Type} {m : M α} {f : α → M β} {S S2 : Store} {b : β} (h : (m >>= f) S = .ok b S2) : ∃ a S1, m S = .ok a S1 ∧ f a S1 = .ok b S2 := by
  rw [bind_eq] at h
  cases e : m S with
  | ok a S1 => rw [e] at h; exact ⟨a, S1, rfl, h⟩
  | exc c d S1 => rw [e] at h; cases h
  | stuck => rw [e] at h; cases h
theorem post_of {α : Type} {K : PySem.W.Frag} {Ex : Str → Option Nat → List Addr → Store → Hp → Prop} {m : List Addr} {H : Hp} {r : R α} {a : α} {S : Store} {F : α → List Addr → Store → Hp → Prop} (h : r = .ok a S) (k : ∀ m' H', Gr m m' H H' → SR K m' S H' → F a m' S H') : post K Ex m H r F := by
  rw [h]; exact k
theorem ckD_ok {p : Option (Nat × Ob)} {S S' : Store} {u : Unit} (h : ckD p S = .ok u S') : CkOk p S ∧ S' = S := by
  cases p with
  | none => cases h; exact ⟨trivial, rfl⟩
  | some q =>
    obtain ⟨l, o⟩ := q
    simp only [ckD] at h
    split at h
    · rename_i e; cases h; exact ⟨e, rfl⟩
    · cases h
theorem bindT_same {t : Tg} {d : D} {en en1 : NL.Env} {S S1 : Store} (h : bindT t d en S = .ok en1 S1) : S1 = S := by
  cases t with
  | nm i => cases h; rfl
  | tp is =>
    obtain ⟨xs, S2, h1, h2⟩ := ok_bind (show (unpD is.length d >>= fun ds => pure (NL.setAll en is ds)) S = .ok en1 S1 from h)
    cases h2
    cases d <;> try cases h1
    · simp only [unpD] at h1
      split at h1
      · cases h1; rfl
      · cases h1
    · obtain ⟨ys, S3, h3, h4⟩ := ok_bind (show (getL _ >>= fun xs => if xs.length = is.length then pure xs else die) S = .ok xs S1 from h1)
      unfold getL at h3
      split at h3
      · cases h3
        split at h4
        · cases h4; rfl
        · cases h4
      · cases h3
theorem wipe_wipe {σ : L2.St} {vs : List Nat} : ∀ {ws : List Nat}, (∀ i ∈ ws, i ∈ vs) → L2.wipe (L2.wipe σ ws) vs = L2.wipe σ vs
  | [], _ => rfl
  | i :: ws, h => by
    show L2.wipe ((L2.wipe σ ws).set i none) vs = _
    rw [wipe_set (h i List.mem_cons_self), wipe_wipe fun j hj => h j (List.mem_cons_of_mem _ hj)]
theorem pushD_ok {l : Nat} {d : D} {S S' : Store} {u : Unit} (h : pushD l d S = .ok u S') : ∃ xs, S[l]? = some (.lst xs) ∧ xs.length < sizeLine ∧ S' = S.set l (.lst (xs ++ [d])) := by
  unfold pushD at h
  split at h
  · rename_i xs e
    split at h
    · rename_i hl; cases h; exact ⟨xs, e, hl, rfl⟩
    · cases h
  · cases h
section
variable {X : Cx} {sc : Scope} {N : List Str} {C : Nat → List D → M D} {ft : FTab} {W : WX} {tg iter elt : Expr} {c' e' : E} {pos : Pos}
abbrev W0 : WX := fun _ _ _ _ => False
def CompOk (X : Cx) (W : WX) (C : Nat → List D → M D) (tg iter : Expr) (ifs : List Expr) (elt : Expr) (scope : Scope) (e' : E) : Prop := ∃ (own : List (Str × Nat)) (wi : TI) (g : TG) (tt : TT) (te : TE), PI X tg iter wi ∧ BlkOk X.N X.env.scope scope own ∧
  (∀ (s : Shared) (H : Hp) (Ca : Addr) (cl : List (Str × Addr)) (fp : List Addr), PG (X.blk s H scope (compEnvC scope cl Ca X.env) fp) tg g) ∧ (∀ (s : Shared) (H : Hp) (Ca : Addr) (cl : List (Str × Addr)) (fp : List Addr), PTs (X.blk s H scope (compEnvC scope cl Ca X.env) fp) ifs tt) ∧
  (∀ (s : Shared) (H : Hp) (Ca : Addr) (cl : List (Str × Addr)) (fp : List Addr), PE (X.blk s H scope (compEnvC scope cl Ca X.env) fp) elt te) ∧ (∀ x, foldedSetIterable iter X.env x = pure x) ∧ ∀ σ H Q, tE X.K X.mg W (evE C e') σ H Q → tLc wi g tt te (own.map (·.2)) σ H Q
theorem p_compC {scope : Scope} {own : List (Str × Nat)} {t : Tg} {it' : NL.It} {ifs : List Expr} (w : XOk X sc N C ft W) (hb : blkC N sc scope own = true) (hp : plainE iter = true) (hi : PI X tg iter (tI X.K X.mg W (evIt C it'))) (hix : ∀ i ∈ t.ixs, i ∈ own.map (·.2))
    (hg : ∀ (s : Shared) (H : Hp) (Ca : Addr) (cl : List (Str × Addr)) (fp : List Addr), PG (X.blk s H scope (compEnvC scope cl Ca X.env) fp) tg (tTg X.K t))
    (ht : ∀ (s : Shared) (H : Hp) (Ca : Addr) (cl : List (Str × Addr)) (fp : List Addr), PTs (X.blk s H scope (compEnvC scope cl Ca X.env) fp) ifs (tT X.K X.mg W0 fun en => evE C c' en >>= truD))
    (he : ∀ (s : Shared) (H : Hp) (Ca : Addr) (cl : List (Str × Addr)) (fp : List Addr), PE (X.blk s H scope (compEnvC scope cl Ca X.env) fp) elt (tE X.K X.mg W0 (evE C e'))) :
    CompOk X W C tg iter ifs elt scope (.comp (own.map (·.2)) t it' c' e') := by
  refine ⟨own, _, _, _, _, hi, (blkOk_by (by rw [w.hN, w.sc]; exact hb)), hg, ht, he, (fun x => folded_plain hp), fun σ H Q ⟨m, en, S, er, sr, q⟩ => ?_⟩
  unfold evE at q
  refine ⟨m, en, S, er, sr, post_mono (post_bind q) fun p m1 S1 H1 g1 sr1 q1 J gv D hD => ?_⟩
  -- the block answers
  have er1 := er.mono g1
  have q2 : post X.K (Wd X.mg W σ) m1 H1 (noX (cmpL (ckD p.2) (fun d => bindT t d (wipeD en (own.map (·.2)))) (fun en' => evE C c' en' >>= truD) (fun en' => evE C e' en') S1.length p.1 >>= fun _ => pure (.ref S1.length)) (S1 ++ [.lst []])) (fun d m' _ H' => ∀ w, Rep m' H' d w → Q w H') := q1
  have g2 : Gr m1 (m1 ++ [D]) H1 (upd H1 D (.lst [])) := Gr.push_new hD
  have sr2 : SR X.K (m1 ++ [D]) (S1 ++ [.lst []]) (upd H1 D (.lst [])) := sr1.alloc hD .nil
  have hl2 : (m1 ++ [D])[S1.length]? = some D := by rw [← sr1.len]; simp
  unfold noX at q2
  cases er2 : (cmpL (ckD p.2) (fun d => bindT t d (wipeD en (own.map (·.2)))) (fun en' => evE C c' en' >>= truD) (fun en' => evE C e' en') S1.length p.1 >>= fun _ => (pure (.ref S1.length) : M NL.D)) (S1 ++ [.lst []]) with
  | exc _ _ _ => rw [er2] at q2; exact q2.elim
  | stuck => rw [er2] at q2; exact q2.elim
  | ok r Sf =>
    rw [er2] at q2
    obtain ⟨u, Sf', hrun, hret⟩ := ok_bind er2
    cases hret
    have fin : ∀ m' H', Gr m1 m' H1 H' → SR X.K m' Sf H' → m'[S1.length]? = some D → Q (.ref D) H' := fun m' H' g s e => q2 m' H' g s _ (.ref e)
    let Wi : Nat → Nat → Hp → Prop := fun i k Hh => ∃ mm Sh, Gr m1 mm H1 Hh ∧ SR X.K mm Sh Hh ∧ i ≤ p.1.length ∧ k = p.1.length - i ∧ mm[S1.length]? = some D ∧
      cmpL (ckD p.2) (fun d => bindT t d (wipeD en (own.map (·.2)))) (fun en' => evE C c' en' >>= truD) (fun en' => evE C e' en') S1.length (p.1.drop i) Sh = .ok () Sf
    refine ⟨Wi, ⟨_, m1 ++ [D], _, g2, sr2, Nat.zero_le _, rfl, hl2, hrun⟩, ?_⟩
    rintro i k Hh ⟨mm, Sh, gm, sm, hi1, rfl, hD1, hr⟩
    by_cases hlt : i < p.1.length
    · right
      have hx : p.1[i]? = some p.1[i] := List.getElem?_eq_getElem hlt
      rw [List.drop_eq_getElem_cons hlt] at hr
      unfold cmpL at hr
      obtain ⟨u1, Sa, k1, hr1⟩ := ok_bind hr
      obtain ⟨ck, e1⟩ := ckD_ok k1
      rw [e1] at hr1
      obtain ⟨en1, Sb, k2, hr2⟩ := ok_bind hr1
      rw [bindT_same k2] at hr2 k2
      obtain ⟨tb, Sc, k3, hr3⟩ := ok_bind hr2
      have gi := (gv i mm Sh Hh gm sm ck).2 _ hx
      refine ⟨gi.1, fun H' => ∃ k', Wi (i + 1) k' H' ∧ k' = p.1.length - (i + 1), fun H' ⟨k', hw, hk⟩ => ⟨k', by omega, hw⟩, fun x H' hy => ?_⟩
      obtain ⟨ga, sa, ra⟩ := gi.2 x H' hy
      refine ⟨E0x, mm, wipeD en (own.map (·.2)), Sh, _, (er1.mono (gm.trans ga)).wipe _, sa, ra, post_of k2 fun mb Hb gb sb σ2 erb hsame => ⟨(hsame _ hix).trans (wipe_wipe fun i hi => hi), ?_⟩⟩
      refine ⟨mb, en1, Sh, erb, sb, post_of k3 fun mc Hc gc sc' b eb => ?_⟩
      subst eb
      have gall : Gr m1 mc H1 Hc := gm.trans (ga.trans (gb.trans gc))
      cases b with
      | false =>
        rw [if_neg Bool.false_ne_true] at hr3 ⊢
        exact ⟨_, ⟨mc, Sc, gall, sc', hlt, rfl, (ga.trans (gb.trans gc)).pre _ _ hD1, hr3⟩, rfl⟩
      | true =>
        rw [if_pos rfl] at hr3 ⊢
        obtain ⟨d, Sd, k4, hr4⟩ := ok_bind hr3
        obtain ⟨u2, Se, k5, hr5⟩ := ok_bind hr4
        obtain ⟨xs, p1, p2, rfl⟩ := pushD_ok k5
        refine ⟨mc, en1, Sc, erb.mono gc, sc', post_of k4 fun md Hd gd sd y ry => ?_⟩
        have hDd := (ga.trans (gb.trans (gc.trans gd))).pre _ _ hD1
        obtain ⟨vs, hv, rs⟩ := sd.lst_at p1 hDd
        refine ⟨vs, hv, by rw [← rs.length]; exact p2, _, ⟨md, _, (gall.trans gd).trans (Gr.write hv), sd.write p1 hDd hv (rs.append (.cons ry .nil)), hlt, rfl, hDd, hr5⟩, rfl⟩
    · left
      have e : i = p.1.length := by omega
      subst e
      rw [List.drop_length] at hr
      unfold cmpL at hr
      obtain ⟨ck, e1⟩ := ckD_ok hr
      subst e1
      exact ⟨(gv _ mm _ Hh gm sm ck).1 rfl, fin mm Hh gm sm hD1⟩
theorem p_compE {scope : Scope} {ifs : List Expr} (w : XOk X sc N C ft W) (h : CompOk X W C tg iter ifs elt scope e') : PE X (.ListComp elt [⟨tg, iter, ifs, 0⟩] scope pos) (tE X.K X.mg W (evE C e')) := by
  obtain ⟨own, wi, g, tt, te, hi, hb, hg, ht, he, hs, k⟩ := h
  exact PE.imp (pe_lc w.calm (by rw [w.hN]; exact w.nd) hi hb hg ht he hs) k
end
end NL

namespace NL
open PySem PySem.Spec PyProof.Rows L2
section
variable {N : List Str} {C : Nat → List D → M D} {ft : FTab}
theorem FOk.blk {X : Cx} (h : FOk X C ft) (s : Shared) (H : Hp) (scope : Scope) (ce : PySem.Env) (fp : List Addr) : FOk (X.blk s H scope ce fp) C ft := ⟨h.own, h.blt, h.isi, h.rng, h.ty⟩
theorem XOk.blk {X : Cx} {sc : Scope} {W : WX} (w : XOk X sc N C ft W) (s : Shared) (H : Hp) (scope : Scope) (cl : List (Str × Addr)) (Ca : Addr) (fp : List Addr) : XOk (X.blk s H scope (compEnvC scope cl Ca X.env) fp) (relS scope sc) N C ft W0 :=
  ⟨w.hN, by rw [← w.sc]; rfl, w.nd, w.calm, w.hu, w.fo.blk s H scope _ fp, takes0⟩
theorem put_blk {X : Cx} {sc : Scope} {W : WX} (w : XOk X sc N C ft W) (s : Shared) (H : Hp) (scope : Scope) (cl : List (Str × Addr)) (Ca : Addr) (fp : List Addr) : Put (X.blk s H scope (compEnvC scope cl Ca X.env) fp) (locOf scope N) := fun x i h => by
  obtain ⟨h1, h2⟩ := locOf_some h
  have e : (X.blk s H scope (compEnvC scope cl Ca X.env) fp).env.scope = relS scope X.env.scope := rfl
  refine ⟨by rw [← w.hN] at h1; exact h1, ?_, ?_⟩
  · rw [e]
    rcases h2 with h2 | h2
    · exact .inl (lookup_relS_keep (by decide) h2)
    · exact .inr (lookup_relS_keep (by decide) h2)
  · rcases h2 with h2 | h2
    · exact .inr (by rw [e]; exact lookup_relS_keep (by decide) h2)
    · exact .inl (by show (scope.names.lookup x == some .cell) = true; rw [h2]; rfl)
def valE : Expr → Bool
  | .Constant .. | .Name .. | .BinOp .. | .Tuple .. | .List .. | .Subscript .. | .Call .. | .ListComp .. => true
  | .UnaryOp .USub .. => true
  | _ => false
theorem val_plain {e : Expr} (h : valE e = true) (env : PySem.Env) : ∀ whole, isTrue e env whole = (do let v ← whole; standAt e.pos; holding [v] (truthy v)) := by
  intro whole
  cases e <;> first | rfl | (rename_i o a p; cases o <;> first | rfl | exact absurd h Bool.false_ne_true) | exact absurd h Bool.false_ne_true
abbrev Both (X : Cx) (C : Nat → List D → M D) (W : WX) (e : Expr) (e' : E) : Prop := PE X e (tE X.K X.mg W (evE C e')) ∧ PT X e (tT X.K X.mg W fun en => evE C e' en >>= truD)
theorem both_val {X : Cx} {W : WX} {e : Expr} {e' : E} (hp : PE X e (tE X.K X.mg W (evE C e'))) (h : valE e = true) : Both X C W e e' := ⟨hp, p_valT hp (val_plain h X.env)⟩
theorem comE_ok : ∀ (n : Nat) (X : Cx) (sc : Scope) (W : WX) (e : Expr) (e' : E), XOk X sc N C ft W → comE ft N n sc e = some e' → Both X C W e e' := by
  intro n
  induction n with
  | zero => intro X sc W e e' w h; unfold comE at h; cases h
  | succ n ih =>
    intro X sc W e e' w h
    have hpl := comE_plain h
    have many : ∀ {es : List Expr} {r : Es}, comL (comE ft N n sc) es = some r → PA X es (tA X.K X.mg W (evEs C r)) := fun {es r} hc => p_list hc fun x _ r hr => ⟨comE_plain hr, (ih X sc W x r w hr).1⟩
    cases e with
    | Constant c k pos =>
      simp only [comE] at h
      obtain ⟨d, hd, rfl⟩ := Option.map_eq_some_iff.mp h
      exact both_val (p_con hd) rfl
    | Name x pos =>
      simp only [comE] at h
      obtain ⟨i, hi, rfl⟩ := Option.map_eq_some_iff.mp h
      exact both_val (p_var w hi) rfl
    | BinOp a o b pos =>
      simp only [comE] at h
      split at h
      · rename_i o' a' b' e1 e2 e3
        cases h
        exact both_val (p_bin e1 (ih X sc W a a' w e2).1 (ih X sc W b b' w e3).1) rfl
      · cases h
    | UnaryOp o a pos =>
      cases o <;> simp only [comE] at h <;> try cases h
      · obtain ⟨a', ha, rfl⟩ := Option.map_eq_some_iff.mp h
        obtain ⟨k1, k2⟩ := ih X sc W a a' w ha
        exact ⟨p_not k2 k1, p_notT k2⟩
      · obtain ⟨a', ha, rfl⟩ := Option.map_eq_some_iff.mp h
        exact both_val (p_neg (ih X sc W a a' w ha).1) rfl
    | Compare a os bs pos =>
      rcases os with _ | ⟨o, _ | ⟨o2, _ | ⟨o3, os⟩⟩⟩ <;> rcases bs with _ | ⟨b, _ | ⟨b2, _ | ⟨b3, bs⟩⟩⟩ <;> simp only [comE] at h <;> try cases h
      · split at h
        · rename_i a' b' e1 e2
          cases h
          have k1 := (ih X sc W a a' w e1).1
          have k2 := (ih X sc W b b' w e2).1
          exact ⟨p_cmp w (comE_plain e2) k1 k2, p_cmpT w (comE_plain e2) k1 k2⟩
        · cases h
      · split at h
        · rename_i a' b' c' e1 e2 e3
          cases h
          have k1 := (ih X sc W a a' w e1).1
          have k2 := (ih X sc W b b' w e2).1
          have k3 := (ih X sc W b2 c' w e3).1
          exact ⟨p_chn w (comE_plain e3) k1 k2 k3, p_chnT w (comE_plain e3) k1 k2 k3⟩
        · cases h
    | BoolOp o es pos =>
      simp only [comE] at h
      exact ⟨p_boolE h fun x _ r hr => (ih X sc W x r w hr).1, (p_boolW h fun x _ r hr => (ih X sc W x r w hr).2).pt⟩
    | IfExp c a b pos =>
      simp only [comE] at h
      split at h
      · rename_i c' a' b' e1 e2 e3
        cases h
        obtain ⟨c1, c2⟩ := ih X sc W c c' w e1
        obtain ⟨a1, a2⟩ := ih X sc W a a' w e2
        obtain ⟨b1, b2⟩ := ih X sc W b b' w e3
        exact ⟨p_ite c2 a1 b1, p_iteT c2 a2 b2⟩
      · cases h
    | Tuple es k pos =>
      simp only [comE] at h
      obtain ⟨r, hr, rfl⟩ := Option.map_eq_some_iff.mp h
      exact both_val (p_tup (many hr)) rfl
    | List es pos =>
      simp only [comE] at h
      obtain ⟨r, hr, rfl⟩ := Option.map_eq_some_iff.mp h
      exact both_val (p_lst (many hr)) rfl
    | Subscript a i pos =>
      have idx : (if isSlice i = true then none else match comE ft N n sc a, comE ft N n sc i with
          | some a, some i => some (E.idx a i)
          | _, _ => none) = some e' → Both X C W (.Subscript a i pos) e' := fun h => by
        split at h
        · cases h
        · rename_i hs
          split at h
          · rename_i a' i' e1 e2
            cases h
            exact both_val (p_idx (by simpa using hs) (ih X sc W a a' w e1).1 (ih X sc W i i' w e2).1) rfl
          · cases h
      cases i with
      | Slice lo hi st p2 =>
        cases st with
        | none =>
          simp only [comE] at h
          split at h
          · rename_i a' l' h' e1 e2 e3
            cases h
            exact both_val (p_slc (ih X sc W a a' w e1).1 e2 e3 (fun x _ r hr => (ih X sc W x r w hr).1) (fun x _ r hr => (ih X sc W x r w hr).1)) rfl
          · cases h
        | some st => simp only [comE] at h; exact idx h
      | _ => simp only [comE] at h; exact idx h
    | Call f es kw pos =>
      cases f <;> simp only [comE] at h <;> try cases h
      rename_i f p
      cases kw with
      | cons _ _ => first | cases h | (dsimp only at h; cases h)
      | nil =>
        try dsimp only at h
        split at h
        · rename_i hg
          split at h
          · rename_i hf
            rcases es with _ | ⟨a, _ | ⟨b, _ | ⟨c, es⟩⟩⟩ <;> (try simp only at h) <;> try cases h
            cases b <;> (try simp only at h) <;> try cases h
            rename_i t p2
            split at h
            · rename_i hg2
              split at h
              · rename_i a' T e1 e2
                cases h
                exact both_val (p_isi w hg hf hg2 e2 (comE_plain e1) (ih X sc W a a' w e1).1) rfl
              · cases h
            · cases h
          · split at h
            · rename_i b x xs e1 e2
              cases h
              cases es with
              | nil => cases e2
              | cons e0 es => exact both_val (p_blt w hg e1 e2 (many e2)) rfl
            · cases h
            · rename_i x xs e1 e2
              split at h
              · rename_i id ar e3
                split at h
                · rename_i har
                  cases h
                  cases es with
                  | nil => cases e2
                  | cons e0 es => exact both_val (p_call w hg e3 har.symm e2 (many e2)) rfl
                · cases h
              · cases h
            · cases h
        · cases h
    | ListComp elt gens scope pos =>
      rcases gens with _ | ⟨⟨tg, it, ifs, as⟩, _ | ⟨g2, gens⟩⟩ <;> simp only [comE] at h <;> try cases h
      split at h
      · cases h
      · rename_i has
        have has : as = 0 := Decidable.not_not.mp has
        subst has
        split at h
        · rename_i hb
          split at h
          · rename_i t it' c' el' e1 e2 e3 e4
            cases h
            obtain ⟨e1a, e1b⟩ := Option.filter_eq_some_iff.mp e1
            obtain ⟨hi, hpi⟩ := i_of (tg := tg) w e2 fun x r hr => ⟨comE_plain hr, (ih X sc W x r w hr).1⟩
            refine both_val (p_compE w (p_compC w hb hpi hi ?_ ?_ ?_ ?_)) rfl
            · intro i hm
              rw [List.all_eq_true] at e1b
              exact of_decide_eq_true (e1b i hm)
            · intro s H Ca cl fp
              exact g_of (X := X.blk s H scope (compEnvC scope cl Ca X.env) fp) w.calm (by show X.N.Nodup; rw [w.hN]; exact w.nd) (put_blk w s H scope cl Ca fp) e1a
            · intro s H Ca cl fp
              have w2 := w.blk s H scope cl Ca fp
              rcases ifs with _ | ⟨c, _ | ⟨c2, ifs⟩⟩
              · cases e3
                exact ⟨fun pins s1 σ H1 Q I ⟨m, en, S, er, sr, q⟩ => pts_nil.run pins s1 σ H1 Q I (post_now sr (show post _ _ _ _ (R.ok true S) _ from q) true rfl)⟩
              · exact pts_one (ih _ _ W0 c c' w2 e3).2
              · cases e3
            · intro s H Ca cl fp
              exact (ih _ _ W0 elt el' (w.blk s H scope cl Ca fp) e4).1
          · cases h
        · cases h
    | _ => cases hpl
theorem comE_comp {n : Nat} {X : Cx} {sc : Scope} {W : WX} {elt : Expr} {gens : List Comprehension} {scope : Scope} {pos : Pos} {e' : E} (w : XOk X sc N C ft W) (h : comE ft N (n + 1) sc (.ListComp elt gens scope pos) = some e') :
    ∃ tg it ifs, gens = [⟨tg, it, ifs, 0⟩] ∧ CompOk X W C tg it ifs elt scope e' := by
  rcases gens with _ | ⟨⟨tg, it, ifs, as⟩, _ | ⟨g2, gens⟩⟩ <;> simp only [comE] at h <;> try cases h
  split at h
  · cases h
  · rename_i has
    have has : as = 0 := Decidable.not_not.mp has
    subst has
    split at h
    · rename_i hb
      split at h
      · rename_i t it' c' el' e1 e2 e3 e4
        cases h
        obtain ⟨e1a, e1b⟩ := Option.filter_eq_some_iff.mp e1
        obtain ⟨hi, hpi⟩ := i_of (tg := tg) w e2 fun x r hr => ⟨comE_plain hr, (comE_ok n X sc W x r w hr).1⟩
        refine ⟨_, _, _, rfl, p_compC w hb hpi hi ?_ ?_ ?_ ?_⟩
        · intro i hm
          rw [List.all_eq_true] at e1b
          exact of_decide_eq_true (e1b i hm)
        · intro s H Ca cl fp
          exact g_of (X := X.blk s H scope (compEnvC scope cl Ca X.env) fp) w.calm (by show X.N.Nodup; rw [w.hN]; exact w.nd) (put_blk w s H scope cl Ca fp) e1a
        · intro s H Ca cl fp
          have w2 := w.blk s H scope cl Ca fp
          rcases ifs with _ | ⟨c, _ | ⟨c2, ifs⟩⟩
          · cases e3
            exact ⟨fun pins s1 σ H1 Q I ⟨m, en, S, er, sr, q⟩ => pts_nil.run pins s1 σ H1 Q I (post_now sr (show post _ _ _ _ (R.ok true S) _ from q) true rfl)⟩
          · exact pts_one (comE_ok n _ _ W0 c c' w2 e3).2
          · cases e3
        · intro s H Ca cl fp
          exact (comE_ok n _ _ W0 elt el' (w.blk s H scope cl Ca fp) e4).1
      · cases h
    · cases h
end
end NL

/-! Statements. -/
namespace NL
open PySem PySem.Spec PyProof.Rows L2
def flowP (mg : Str → Option Value) (W : WX) (Dn : Ends) : Flow → List Addr → Store → Hp → Prop
  | .nx en, m, _, H => ∀ σ, ER m H en σ → Dn.nx σ H
  | .brk en, m, _, H => ∀ σ, ER m H en σ → Dn.bk σ H
  | .cnt en, m, _, H => ∀ σ, ER m H en σ → Dn.ct σ H
  | .ret d, m, _, H => ∀ v, Rep m H d v → Dn.rt v H
  | .exc c d en, m, _, H => ∀ σ cls dd, ER m H en σ → XR mg c d m cls dd → W cls dd σ H
def tS (K : PySem.W.Frag) (mg : Str → Option Value) (W : WX) (f : NL.Env → M Flow) : TS := fun Dn σ H => ∃ m en S, ER m H en σ ∧ SR K m S H ∧ post K E0x m H (f en S) (flowP mg W Dn)
theorem PS.imp {X : Cx} {s : Stmt} {t t' : TS} (h : PS X s t) (k : ∀ D σ H, t' D σ H → t D σ H) : PS X s t' := ⟨fun pins s σ H D I q => h.run pins s σ H D I (k D σ H q)⟩
theorem PSs.imp {X : Cx} {s : List Stmt} {t t' : TS} (h : PSs X s t) (k : ∀ D σ H, t' D σ H → t D σ H) : PSs X s t' := ⟨fun pins s σ H D I q => h.run pins s σ H D I (k D σ H q)⟩
theorem lift_post {α : Type} {K : PySem.W.Frag} {mg : Str → Option Value} {W : WX} {Dn : Ends} {m : List Addr} {H : Hp} {en : NL.Env} {f : M α} {k : α → M Flow} {S : Store} (h : post K E0x m H (lift en f k S) (flowP mg W Dn)) {σ : L2.St} (er : ER m H en σ) :
    post K (Wd mg W σ) m H (f S) (fun a m1 S1 H1 => post K E0x m1 H1 (k a S1) (flowP mg W Dn)) := by
  unfold lift at h
  cases e : f S with
  | ok a S1 =>
    rw [e] at h
    exact fun m' H' g s => post_later g (show post K E0x m H (k a S1) (flowP mg W Dn) from h)
  | exc c d S1 =>
    rw [e] at h
    exact fun m' H' g s cls dd hx => h m' H' g s σ cls dd (er.mono g) hx
  | stuck => rw [e] at h; exact h
theorem flow_nx {K : PySem.W.Frag} {mg : Str → Option Value} {W : WX} {Dn : Ends} {m : List Addr} {H : Hp} {en : NL.Env} {S : Store} {σ : L2.St} (s : SR K m S H) (h : post K E0x m H ((pure (.nx en) : M Flow) S) (flowP mg W Dn)) (er : ER m H en σ) : Dn.nx σ H :=
  post_now s (show post K E0x m H (.ok (Flow.nx en) S) _ from h) σ er
structure SOk (X : Cx) (sco : Scope) (N : List Str) (C : Nat → List D → M D) (ft : FTab) (W : WX) : Prop extends XOk X sco N C ft W where
  put : Put X (locOf sco N)
  pass : PassesOwn (model X.prog X.w) X.A X.env X.xe
  kind : sco.kind = ScopeKind.function
section
variable {X : Cx} {sc : Scope} {N : List Str} {C : Nat → List D → M D} {ft : FTab} {W : WX} {a b c e : Expr} {a' b' c' e' : E} {pos : Pos}
theorem SOk.nd' (w : SOk X sc N C ft W) : X.N.Nodup := by rw [w.hN]; exact w.nd
theorem swaps_plain {env : PySem.Env} {tg : Option Expr} {l : Nat} (h : plainE e = true) (hc : isComp e = false) : swapsWith e tg l env = pure false := by
  cases e <;> first | rfl | exact absurd h Bool.false_ne_true | exact absurd hc (by intro z; cases z)
theorem swaps_tup {env : PySem.Env} {ts : List Expr} {k : Nat} {p : Pos} {l : Nat} (h : plainE e = true) : swapsWith e (some (.Tuple ts k p)) l env = pure false := by
  cases e <;> first | rfl | exact absurd h Bool.false_ne_true
theorem swaps_sub {env : PySem.Env} {o i : Expr} {p : Pos} {l : Nat} (h : plainE e = true) : swapsWith e (some (.Subscript o i p)) l env = pure false := by
  cases e <;> first | rfl | exact absurd h Bool.false_ne_true
/-- x = e -/
theorem s_set {x : Str} {px : Pos} {i : Nat} (w : SOk X sc N C ft W) (hx : locOf sc N x = some i) (hp : plainE e = true) (hs : isComp e = false) (he : PE X e (tE X.K X.mg W (evE C e'))) : PS X (.Assign [.Name x px] e pos) (tS X.K X.mg W (exS C (.set i e'))) := by
  obtain ⟨h1, h2, h3⟩ := w.put x i hx
  refine PS.imp (ps_set w.nd' h1 h2 he (swaps_plain hp hs) h3) fun Dn σ H ⟨m, en, S, er, sr, q⟩ => ?_
  unfold exS at q
  refine tG_use er sr (lift_post q er) fun d m1 S1 H1 v g er1 sr1 q1 rx => ?_
  exact flow_nx sr1 q1 (er1.set rx i)
theorem s_expr (hp : plainE e = true) (hs : isComp e = false) (he : PE X e (tE X.K X.mg W (evE C e'))) : PS X (.Expr e pos) (tS X.K X.mg W (exS C (.expr e'))) := by
  refine PS.imp (ps_expr he (swaps_plain hp hs)) fun Dn σ H ⟨m, en, S, er, sr, q⟩ => ?_
  unfold exS at q
  refine tG_use er sr (lift_post q er) fun d m1 S1 H1 v g er1 sr1 q1 rx => ?_
  exact flow_nx sr1 q1 er1
theorem s_ret (he : PE X e (tE X.K X.mg W (evE C e'))) : PS X (.Return (some e) pos) (tS X.K X.mg W (exS C (.ret e'))) := by
  refine PS.imp (ps_ret he) fun Dn σ H ⟨m, en, S, er, sr, q⟩ => ?_
  unfold exS at q
  refine tG_use er sr (lift_post q er) fun d m1 S1 H1 v g er1 sr1 q1 rx => ?_
  exact post_now sr1 (show post _ _ _ _ (R.ok (Flow.ret d) S1) _ from q1) v rx
theorem s_ret0 : PS X (.Return none pos) (tS X.K X.mg W (exS C .ret0)) := by
  refine PS.imp ps_retN fun Dn σ H ⟨m, en, S, er, sr, q⟩ => ?_
  unfold exS at q
  exact post_now sr (show post _ _ _ _ (R.ok (Flow.ret .non) S) _ from q) _ .non
theorem s_pass : PS X (.Pass pos) (tS X.K X.mg W (exS C .pass)) := by
  refine PS.imp ps_pass fun Dn σ H ⟨m, en, S, er, sr, q⟩ => ?_
  unfold exS at q
  exact flow_nx sr q er
theorem s_doc {x : Str} {j : Nat} {p : Pos} : PS X (.Expr (.Constant (.str x) j p) pos) (tS X.K X.mg W (exS C .pass)) := by
  refine PS.imp ps_doc fun Dn σ H ⟨m, en, S, er, sr, q⟩ => ?_
  unfold exS at q
  exact flow_nx sr q er
theorem s_brk : PS X (.Break pos) (tS X.K X.mg W (exS C .brk)) := by
  refine PS.imp ps_break fun Dn σ H ⟨m, en, S, er, sr, q⟩ => ?_
  unfold exS at q
  exact post_now sr (show post _ _ _ _ (R.ok (Flow.brk en) S) _ from q) σ er
theorem s_cnt : PS X (.Continue pos) (tS X.K X.mg W (exS C .cnt)) := by
  refine PS.imp ps_continue fun Dn σ H ⟨m, en, S, er, sr, q⟩ => ?_
  unfold exS at q
  exact post_now sr (show post _ _ _ _ (R.ok (Flow.cnt en) S) _ from q) σ er
theorem s_if {sa sb : List Stmt} {ba bb : Sts} (hc : PT X c (tT X.K X.mg W fun en => evE C c' en >>= truD)) (ha : PSs X sa (tS X.K X.mg W (exB C ba))) (hb : PSs X sb (tS X.K X.mg W (exB C bb))) : PS X (.If c sa sb pos) (tS X.K X.mg W (exS C (.ifs c' ba bb))) := by
  refine PS.imp (ps_if hc ha hb) fun Dn σ H ⟨m, en, S, er, sr, q⟩ => ?_
  unfold exS at q
  refine tG_use er sr (lift_post q er) fun t m1 S1 H1 v g er1 sr1 q1 rx => ?_
  subst rx
  cases v with
  | true => rw [if_pos rfl] at q1 ⊢; exact ⟨m1, en, S1, er1, sr1, q1⟩
  | false => rw [if_neg Bool.false_ne_true] at q1 ⊢; exact ⟨m1, en, S1, er1, sr1, q1⟩
/-- a block -/
theorem seq_post {K : PySem.W.Frag} {mg : Str → Option Value} {W : WX} {Dn : Ends} {m : List Addr} {H : Hp} {S : Store} {f : M Flow} {k : NL.Env → M Flow} (h : post K E0x m H ((f >>= fun fl => match fl with
    | .nx en' => k en'
    | f => pure f) S) (flowP mg W Dn)) : post K E0x m H (f S) (flowP mg W { Dn with nx := fun σ H => ∃ m en S, ER m H en σ ∧ SR K m S H ∧ post K E0x m H (k en S) (flowP mg W Dn) }) := by
  rw [bind_eq] at h
  cases e : f S with
  | ok fl S =>
    rw [e] at h
    intro m' H' g s
    cases fl with
    | nx en => exact fun σ er => ⟨m', en, S, er, s, post_later g (show post K E0x m H (k en S) _ from h)⟩
    | brk en => exact (show post K E0x m H (.ok (Flow.brk en) S) (flowP mg W Dn) from h) m' H' g s
    | cnt en => exact (show post K E0x m H (.ok (Flow.cnt en) S) (flowP mg W Dn) from h) m' H' g s
    | ret d => exact (show post K E0x m H (.ok (Flow.ret d) S) (flowP mg W Dn) from h) m' H' g s
    | exc c d en => exact (show post K E0x m H (.ok (Flow.exc c d en) S) (flowP mg W Dn) from h) m' H' g s
  | exc c d S => rw [e] at h; exact h
  | stuck => rw [e] at h; exact h
theorem s_nil : PSs X [] (tS X.K X.mg W (exB C .nil)) := by
  refine PSs.imp pss_nil fun Dn σ H ⟨m, en, S, er, sr, q⟩ => ?_
  unfold exB at q
  exact flow_nx sr q er
theorem s_cons {s : Stmt} {r : List Stmt} {s' : NL.St} {r' : Sts} (h1 : PS X s (tS X.K X.mg W (exS C s'))) (h2 : PSs X r (tS X.K X.mg W (exB C r'))) : PSs X (s :: r) (tS X.K X.mg W (exB C (.cons s' r'))) := by
  refine PSs.imp (pss_cons h1 h2) fun Dn σ H ⟨m, en, S, er, sr, q⟩ => ?_
  unfold exB at q
  exact ⟨m, en, S, er, sr, seq_post q⟩
/-- x += e, ints -/
theorem s_aug {x : Str} {px : Pos} {i : Nat} (w : SOk X sc N C ft W) (hx : locOf sc N x = some i) (he : PE X e (tE X.K X.mg W (evE C e'))) : PS X (.AugAssign (.Name x px) .Add e pos) (tS X.K X.mg W (exS C (.aug i e'))) := by
  obtain ⟨h1, h2, h3⟩ := w.put x i hx
  refine PS.imp (ps_aug w.nd' h1 h2 he ip_add h3) fun Dn σ H ⟨m, en, S, er, sr, q⟩ => ?_
  unfold exS at q
  cases e0 : en[i]? with
  | none => rw [e0] at q; exact q.elim
  | some od =>
    rw [e0] at q
    cases od with
    | none => exact q.elim
    | some d =>
      cases d <;> try exact q.elim
      rename_i n
      obtain ⟨v, hv, rv⟩ := er.get i _ e0
      cases rv
      refine ⟨_, hv, tG_use er sr (lift_post q er) fun d m1 S1 H1 v g er1 sr1 q1 rx => ?_⟩
      cases rx <;> try exact (show False from q1).elim
      exact ⟨n, _, rfl, rfl, flow_nx sr1 q1 (er1.set (.int _) i)⟩
/-- x.append(e) -/
theorem s_app {x : Str} {px apos cpos : Pos} {i : Nat} (w : SOk X sc N C ft W) (hx : visOf sc N x = some i) (hl : (apos.endLine == cpos.line) = true) (hp : plainE e = true) (he : PE X e (tE X.K X.mg W (evE C e'))) :
    PS X (.Expr (.Call (.Attribute (.Name x px) "append" apos) [e] [] cpos) pos) (tS X.K X.mg W (exS C (.app i e'))) := by
  obtain ⟨h1, h2, h3, h4⟩ := visOf_some hx
  have pv : PE X (.Name x px) (tVar i) := pe_var (by rw [w.hN]; exact h1) (by rw [w.sc]; exact h2) h3 h4
  refine PS.imp (ps_expr (pe_bm PySem.F.plainAttrs_list PySem.F.slot_list_append PySem.F.type_list_append mt_append pv (pa_cons he pa_nil (star_plain hp)) rfl (by rw [star_plain hp]; rfl) hl (star_plain hp) rfl)) fun Dn σ H ⟨m, en, S, er, sr, q⟩ => ?_
  unfold exS at q
  cases e0 : en[i]? with
  | none => rw [e0] at q; exact q.elim
  | some od =>
    rw [e0] at q
    cases od with
    | none => exact q.elim
    | some d =>
      cases d <;> try exact q.elim
      rename_i l
      obtain ⟨v, hv, rv⟩ := er.get i _ e0
      cases rv with
      | ref ea =>
        rename_i ad
        obtain ⟨xs, e1, q1⟩ := getM_bind (lift_post q er)
        obtain ⟨ws, h5, _⟩ := sr.lst_at e1 ea
        refine ⟨_, hv, .inl ⟨rfl, ws, SqL.of h5⟩, tG_use er sr q1 fun d m1 S1 H1 v g er1 sr1 q2 rx => ?_⟩
        have q3 := lift_post q2 er1
        unfold pushD at q3
        cases e2 : S1[l]? with
        | none => rw [e2] at q3; exact q3.elim
        | some o =>
          rw [e2] at q3
          cases o with
          | frz _ => exact q3.elim
          | lst ys =>
            dsimp only at q3
            split at q3
            · rename_i hlen
              obtain ⟨us, h6, rs⟩ := sr1.lst_at e2 (g.pre _ _ ea)
              refine ⟨ad, us, v, rfl, rfl, h6, by rw [← rs.length]; exact hlen, ?_⟩
              have gw : Gr m1 m1 H1 (upd H1 ad (.lst (us ++ [v]))) := Gr.write h6
              have sw := sr1.write e2 (g.pre _ _ ea) h6 (rs.append (.cons rx .nil))
              exact flow_nx sw (post_gr q3 gw sw) (er1.mono gw)
            · exact q3.elim
end
end NL

namespace NL
open PySem PySem.Spec PyProof.Rows L2
theorem anyS (vs : List Expr) (f : Expr → Bool) (h : ∀ e, f e = isStar e) : vs.any f = vs.any isStar := by rw [show f = isStar from funext h]
theorem fmS (ts : List Expr) (sc : Scope) (l : Nat) (f : Expr → Option Str) (h : ∀ e, f e = nmOf sc l e) : ts.filterMap f = ts.filterMap (nmOf sc l) := by rw [show f = nmOf sc l from funext h]
theorem swapped_eq {sc : Scope} {ts vs : List Expr} {r : Option (List Str)} {k k2 : Nat} {p p2 : Pos} {env : PySem.Env} (h : swP sc ts vs = some r) (hs : env.scope = sc) (hk : sc.kind = ScopeKind.function) :
    swappedStores [.Tuple ts k p] (.Tuple vs k2 p2) env = pure r := by
  have hb : env.blockKind = ScopeKind.function := by
    unfold Env.blockKind
    rw [hs, hk]
    rfl
  have hn : ∀ x, env.kindOf x = sc.names.lookup x := fun x => by unfold Env.kindOf; rw [hs]
  unfold swappedStores
  unfold swP at h
  simp only [hb, hn]
  rw [anyS vs _ (by intro e; cases e <;> rfl), fmS ts sc (lineOf ts) _ (by intro e; cases e <;> rfl)]
  split at h
  · rename_i c1
    cases h
    have : (!(ts.length == 2 || ts.length == 3) || vs.length != ts.length || (ScopeKind.function != ScopeKind.function)) = true := by rw [c1]; rfl
    rw [if_pos this]
  · rename_i c1
    have : ¬ (!(ts.length == 2 || ts.length == 3) || vs.length != ts.length || (ScopeKind.function != ScopeKind.function)) = true := by
      rw [Bool.or_eq_true]
      rintro (z | z)
      · exact c1 z
      · cases z
    rw [if_neg this]
    split at h
    · rename_i c2
      cases h
      rw [if_pos c2]
    · rename_i c2
      rw [if_neg c2]
      split at h
      · rename_i c3
        cases h
        rw [if_pos c3]
      · rename_i c3
        rw [if_neg c3]
        split at h
        · rename_i c4
          cases h
          rw [if_pos c4]
        · rename_i c4
          rw [if_neg c4]
          split at h
          · cases h
          · rename_i c5
            cases h
            rw [if_neg c5]
/-! ### stores -/
section
variable {X : Cx} {sc : Scope} {N : List Str} {C : Nat → List D → M D} {ft : FTab} {W : WX} {a b c e : Expr} {a' b' c' e' : E} {pos : Pos}
theorem unpD_ok {K : PySem.W.Frag} {Ex : Str → Option Nat → List Addr → Store → Hp → Prop} {m : List Addr} {H : Hp} {S : Store} {d : D} {n : Nat} {F : List D → List Addr → Store → Hp → Prop} (h : post K Ex m H (unpD n d S) F) : ∃ xs, unpD n d S = .ok xs S := by
  cases d <;> try exact (show False from h).elim
  · rename_i xs
    by_cases hc : xs.length = n
    · have e : unpD n (.tup xs) = pure xs := if_pos hc
      exact ⟨xs, by rw [e]; rfl⟩
    · have e : unpD n (.tup xs) = die := if_neg hc
      rw [e] at h
      exact (show False from h).elim
  · rename_i l
    have e : unpD n (.ref l) = getL l >>= fun xs => if xs.length = n then pure xs else die := rfl
    rw [e] at h ⊢
    obtain ⟨o, e0, h⟩ := getL_bind h
    have e2 : (getL l >>= fun xs => if xs.length = n then (pure xs : M (List D)) else die) S = (if (items o).length = n then (pure (items o) : M (List D)) else die) S := by
      rw [bind_eq]
      unfold getL
      rw [e0]
      rfl
    by_cases hc : (items o).length = n
    · rw [e2, if_pos hc]
      exact ⟨_, rfl⟩
    · rw [if_neg hc] at h
      exact (show False from h).elim
theorem bindT_tp {is : List Nat} {d : D} {en : NL.Env} {S : Store} {xs : List D} (h : unpD is.length d S = .ok xs S) : bindT (.tp is) d en S = .ok (NL.setAll en is xs) S := by
  show (unpD is.length d >>= fun ds => (pure (NL.setAll en is ds) : M NL.Env)) S = _
  rw [bind_eq, h]
  rfl
/-- a, b = e -/
theorem s_unpG {ts : List Expr} {is : List Nat} {k : Nat} {p : Pos} (w : SOk X sc N C ft W) (hn : namesOf (locOf sc N) ts = some is) (he : PE X e (tE X.K X.mg W (evE C e')))
    (hs : swapsWithSole [.Tuple ts k p] e pos.line X.env = pure false) (hw : swappedStores [.Tuple ts k p] e X.env = pure none) : PS X (.Assign [.Tuple ts k p] e pos) (tS X.K X.mg W (exS C (.unp is e'))) := by
  refine PS.imp (ps_asg he (g_of (t := .tp is) w.calm w.nd' w.put (by simp only [comTg]; rw [hn]; rfl)) hs hw rfl) fun Dn σ H ⟨m, en, S, er, sr, q⟩ => ?_
  unfold exS at q
  refine tG_use er sr (post_bind (lift_post q er)) fun d m1 S1 H1 v g er1 sr1 q1 rx => ?_
  obtain ⟨xs, hx⟩ := unpD_ok q1
  have hx' : unpD (List.length is) d S1 = .ok xs S1 := hx
  rw [show unpD is.length d S1 = .ok xs S1 from hx] at q1
  have q2 := post_now sr1 q1
  refine ⟨E0x, m1, en, S1, d, er1, sr1, rx, ?_⟩
  rw [bindT_tp hx']
  exact fun m' H' g' s' σ' er' _ => (post_gr (show post _ _ _ _ (R.ok (Flow.nx (NL.setAll en is xs)) S1) _ from q2) g' s') σ' er'
/-- o[i] = e -/
theorem s_setIx {o i : Expr} {o' i' : E} {p : Pos} (w : SOk X sc N C ft W) (hsl : isSlice i = false) (hp : plainE e = true) (ho : PE X o (tE X.K X.mg W (evE C o'))) (hi : PE X i (tE X.K X.mg W (evE C i'))) (he : PE X e (tE X.K X.mg W (evE C e'))) :
    PS X (.Assign [.Subscript o i p] e pos) (tS X.K X.mg W (exS C (.setIx o' i' e'))) := by
  have ha : ∀ v, assign (.Subscript o i p) X.env v = (do
      let ov ← holding [v] (eval o X.env)
      let iv ← holding [v, ov] (eval i X.env)
      standAt p
      holding [v, ov, iv] (setItem ov iv v)
      release [v, ov, iv] []) := by
    intro v
    cases i <;> first | rfl | exact absurd hsl (by intro z; cases z)
  refine PS.imp (ps_asg he (pg_sub ho hi set_list ha) (show swapsWith e (some (.Subscript o i p)) pos.line X.env = pure false from swaps_sub hp) rfl rfl) fun Dn σ H ⟨m, en, S, er, sr, q⟩ => ?_
  unfold exS at q
  refine tG_use er sr (post_bind (lift_post q er)) fun d m1 S1 H1 v g er1 sr1 q1 rx => ?_
  refine tG_use er1 sr1 (post_bind q1) fun x m2 S2 H2 u g2 er2 sr2 q2 ru => ?_
  refine tG_use er2 sr2 (post_bind q2) fun y m3 S3 H3 t g3 er3 sr3 q3 rt => ?_
  have q3 : post X.K (Wd X.mg W σ) m3 H3 (setIxD x y d S3) _ := q3
  have ru := Rep.mono g3 _ _ ru
  have rx := Rep.mono (g2.trans g3) _ _ rx
  cases ru <;> try exact (show False from q3).elim
  rename_i l ad ea _
  cases rt <;> try exact (show False from q3).elim
  rename_i n _
  obtain ⟨xs, e1, q4⟩ := getM_bind (show post _ _ _ _ ((getM _ >>= fun xs => match ixN xs.length n with
    | some j => fun S => .ok () (S.set _ (.lst (xs.set j d)))
    | none => die) S3) _ from q3)
  obtain ⟨vs, h5, rs⟩ := sr3.lst_at e1 ea
  cases e2 : ixN xs.length n with
  | none => rw [e2] at q4; exact q4.elim
  | some j =>
    rw [e2] at q4
    refine ⟨ad, vs, n, j, rfl, rfl, h5, by rw [← rs.length]; exact e2, ?_⟩
    have gw : Gr m3 m3 H3 (upd H3 ad (.lst (vs.set j v))) := Gr.write h5
    have sw := sr3.write e1 ea h5 (rs.set rx j)
    have q5 := post_gr (show post _ _ _ _ (R.ok () (S3.set l (.lst (xs.set j d)))) _ from q4) gw sw
    exact flow_nx sw q5 (er3.mono gw)
/-! ### loops -/
theorem loop_post {K : PySem.W.Frag} {mg : Str → Option Value} {W : WX} {Dn : Ends} {m : List Addr} {H : Hp} {S : Store} {f : M Flow} {k : NL.Env → M Flow} {Nn : L2.St → Hp → Prop} (h : post K E0x m H ((f >>= fun fl => match fl with
    | .nx en' => k en'
    | .cnt en' => k en'
    | .brk en' => pure (.nx en')
    | f => pure f) S) (flowP mg W Dn)) (hN : ∀ m' H' en S' σ, Gr m m' H H' → ER m' H' en σ → SR K m' S' H' → post K E0x m' H' (k en S') (flowP mg W Dn) → Nn σ H') :
    post K E0x m H (f S) (flowP mg W { Dn with nx := Nn, ct := Nn, bk := Dn.nx }) := by
  rw [bind_eq] at h
  cases e : f S with
  | ok fl S =>
    rw [e] at h
    intro m' H' g s
    cases fl with
    | nx en => exact fun σ er => hN m' H' en S σ g er s (post_later g (show post K E0x m H (k en S) _ from h))
    | cnt en => exact fun σ er => hN m' H' en S σ g er s (post_later g (show post K E0x m H (k en S) _ from h))
    | brk en => exact (show post K E0x m H (.ok (Flow.nx en) S) (flowP mg W Dn) from h) m' H' g s
    | ret d => exact (show post K E0x m H (.ok (Flow.ret d) S) (flowP mg W Dn) from h) m' H' g s
    | exc c d en => exact (show post K E0x m H (.ok (Flow.exc c d en) S) (flowP mg W Dn) from h) m' H' g s
  | exc c d S => rw [e] at h; exact h
  | stuck => rw [e] at h; exact h
theorem s_whl {sb : List Stmt} {b' : Sts} (w : SOk X sc N C ft W) (hc : PT X c (tT X.K X.mg W fun en => evE C c' en >>= truD)) (hb : PSs X sb (tS X.K X.mg W (exB C b'))) : PS X (.While c sb [] pos) (tS X.K X.mg W (exS C (.whl c' b'))) := by
  refine PS.imp (ps_while w.pass hc hb) fun Dn σ H ⟨m, en, S, er, sr, q⟩ => ?_
  unfold exS at q
  refine ⟨fun n σ H => ∃ m en S, ER m H en σ ∧ SR X.K m S H ∧ post X.K E0x m H (whlL (fun en' => evE C c' en' >>= truD) (fun en' => exB C b' en') n en S) (flowP X.mg W Dn), ⟨_, m, en, S, er, sr, q⟩, ?_⟩
  rintro n σ H ⟨m, en, S, er, sr, q⟩
  cases n with
  | zero => exact (show False from q).elim
  | succ n =>
    unfold whlL at q
    refine tG_use er sr (lift_post q er) fun t m1 S1 H1 v g er1 sr1 q1 rx => ?_
    subst rx
    cases v with
    | true =>
      rw [if_pos rfl] at q1 ⊢
      refine ⟨fun σ H => ∃ m en S, ER m H en σ ∧ SR X.K m S H ∧ post X.K E0x m H (whlL (fun en' => evE C c' en' >>= truD) (fun en' => exB C b' en') n en S) (flowP X.mg W Dn), fun σ' H' h => ⟨n, Nat.lt_succ_self n, h⟩, m1, en, S1, er1, sr1, ?_⟩
      exact loop_post q1 fun m' H' en S' σ g er s p => ⟨m', en, S', er, s, p⟩
    | false =>
      rw [if_neg Bool.false_ne_true] at q1 ⊢
      exact flow_nx sr1 q1 er1
theorem ckD_post {α : Type} {K : PySem.W.Frag} {Ex : Str → Option Nat → List Addr → Store → Hp → Prop} {m : List Addr} {H : Hp} {p : Option (Nat × Ob)} {f : Unit → M α} {S : Store} {F : α → List Addr → Store → Hp → Prop} (h : post K Ex m H ((ckD p >>= f) S) F) : CkOk p S ∧ post K Ex m H (f () S) F := by
  rw [bind_eq] at h
  cases p with
  | none => exact ⟨trivial, h⟩
  | some q =>
    obtain ⟨l, o⟩ := q
    simp only [ckD] at h
    by_cases e : S[l]? = some o
    · rw [if_pos e] at h; exact ⟨e, h⟩
    · rw [if_neg e] at h; exact h.elim
theorem s_for {tg it : Expr} {t : Tg} {i' : NL.It} {sb : List Stmt} {b' : Sts} (w : SOk X sc N C ft W) (hp : plainE it = true) (ht : comTg (locOf sc N) tg = some t) (hi : PI X tg it (tI X.K X.mg W (evIt C i'))) (hb : PSs X sb (tS X.K X.mg W (exB C b'))) :
    PS X (.For tg it sb [] pos) (tS X.K X.mg W (exS C (.for_ t i' b'))) := by
  refine PS.imp (ps_for w.pass w.calm hi (g_of w.calm w.nd' w.put ht) hb (fun x => folded_plain hp)) fun Dn σ H ⟨m, en, S, er, sr, q⟩ => ?_
  unfold exS at q
  refine ⟨m, en, S, er, sr, post_mono (lift_post q er) fun p m1 S1 H1 g1 sr1 q1 J gv => ?_⟩
  have er1 := er.mono g1
  refine ⟨fun i k σ H => ∃ mm en S, Gr m1 mm H1 H ∧ ER mm H en σ ∧ SR X.K mm S H ∧ i ≤ p.1.length ∧ k = p.1.length - i ∧ post X.K E0x mm H (forL (ckD p.2) (fun d en' => bindT t d en') (fun en' => exB C b' en') (p.1.drop i) en S) (flowP X.mg W Dn),
    ⟨_, m1, en, S1, Gr.refl _ _, er1, sr1, Nat.zero_le _, rfl, q1⟩, ?_⟩
  rintro i k σ2 H2 ⟨mm, en2, S2, gm, er2, sr2, hil, rfl, q2⟩
  by_cases hlt : i < p.1.length
  · right
    have hx : p.1[i]? = some p.1[i] := List.getElem?_eq_getElem hlt
    rw [List.drop_eq_getElem_cons hlt] at q2
    unfold forL at q2
    obtain ⟨ck, q3⟩ := ckD_post (lift_post q2 er2)
    have gi := (gv i mm S2 H2 gm sr2 ck).2 _ hx
    refine ⟨gi.1, fun σ H => ∃ mm en S, Gr m1 mm H1 H ∧ ER mm H en σ ∧ SR X.K mm S H ∧ post X.K E0x mm H (forL (ckD p.2) (fun d en' => bindT t d en') (fun en' => exB C b' en') (p.1.drop (i + 1)) en S) (flowP X.mg W Dn),
      fun σ' H' ⟨mm, en, S, h1, h2, h3, h4⟩ => ⟨p.1.length - (i + 1), by omega, mm, en, S, h1, h2, h3, hlt, rfl, h4⟩, fun x H' hy => ?_⟩
    obtain ⟨ga, sa, ra⟩ := gi.2 x H' hy
    refine ⟨_, mm, en2, S2, _, er2.mono ga, sa, ra, post_mono (post_later ga q3) fun en' m3 S3 H3 g3 s3 q4 σ' er' _ => ?_⟩
    refine ⟨m3, en', S3, er', s3, loop_post q4 fun m' H' en S' σ g er s pp => ⟨m', en, S', gm.trans (ga.trans (g3.trans g)), er, s, pp⟩⟩
  · left
    have e : i = p.1.length := by omega
    subst e
    rw [List.drop_length] at q2
    unfold forL at q2
    have q3 := lift_post q2 er2
    obtain ⟨ck, _⟩ := ckD_post (f := fun _ => (pure () : M Unit)) (F := fun _ _ _ _ => True) (K := X.K) (Ex := fun _ _ _ _ _ => True) (m := mm) (H := H2) (p := p.2) (S := S2) (by
      cases hp : p.2 with
      | none => exact fun _ _ _ _ => trivial
      | some lo =>
        obtain ⟨l, o⟩ := lo
        rw [hp] at q3
        simp only [ckD] at q3
        rw [bind_eq]
        simp only [ckD]
        split at q3
        · rename_i e; rw [if_pos e]; exact fun _ _ _ _ => trivial
        · exact q3.elim)
    have q4 : post X.K E0x mm H2 ((pure (Flow.nx en2) : M Flow) S2) (flowP X.mg W Dn) := by
      cases hp : p.2 with
      | none => rw [hp] at q3; exact post_now sr2 q3
      | some lo =>
        obtain ⟨l, o⟩ := lo
        rw [hp] at q3
        simp only [ckD] at q3
        split at q3
        · exact post_now sr2 q3
        · exact q3.elim
    exact ⟨(gv _ mm S2 H2 gm sr2 ck).1 rfl, flow_nx sr2 q4 er2⟩
end
end NL

/-! Statements: what is read answers as the machine does. -/
namespace NL
open PySem PySem.Spec PyProof.Rows L2
section
variable {N : List Str} {C : Nat → List D → M D} {ft : FTab} {X : Cx} {sc : Scope} {W : WX}
theorem s_dead {s : Stmt} : PS X s (tS X.K X.mg W (exS C .dead)) := ⟨fun pins s σ H Dn I ⟨m, en, S, er, sr, q⟩ => by
  unfold exS at q
  exact q.elim⟩
theorem names_len {f : Str → Option Nat} : ∀ {es : List Expr} {is : List Nat}, namesOf f es = some is → es.length = is.length
  | [], _, h => by cases h; rfl
  | e :: es, is, h => by
    cases e <;> simp only [namesOf] at h <;> try cases h
    rename_i x p
    cases e1 : f x with
    | none => rw [e1] at h; cases h
    | some i =>
      cases e2 : namesOf f es with
      | none => rw [e1, e2] at h; cases h
      | some is' =>
        rw [e1, e2] at h
        cases h
        show _ + 1 = _ + 1
        rw [names_len e2]
theorem fm_len {α β : Type} (f : α → Option β) : ∀ ts : List α, (ts.filterMap f).length = ts.length → ∀ t ∈ ts, ∃ y, f t = some y
  | [], _, _, h => by cases h
  | t :: ts, hl, u, hu => by
    rw [List.filterMap_cons] at hl
    cases e : f t with
    | none =>
      rw [e] at hl
      have := List.length_filterMap_le f ts
      simp only [List.length_cons] at hl
      omega
    | some y =>
      rw [e] at hl
      rcases List.mem_cons.mp hu with rfl | hu
      · exact ⟨y, e⟩
      · exact fm_len f ts (by simpa using hl) u hu
theorem nmOf_some {l : Nat} {e : Expr} {x : Str} (h : nmOf sc l e = some x) : ∃ p, e = .Name x p ∧ sc.names.lookup x = some .local := by
  cases e <;> simp only [nmOf] at h <;> try cases h
  rename_i y p
  split at h
  · rename_i c
    cases h
    have key : ∀ o : Option NameKind, (o == some .local) = true → o = some .local := fun o h => by
      cases o with
      | none => cases h
      | some k => cases k <;> first | rfl | cases h
    exact ⟨p, rfl, key _ (Bool.and_eq_true_iff.mp c).1⟩
  · cases h
/-- what the right-to-left stores read -/
theorem swP_some {ts vs : List Expr} {nm : List Str} (h : swP sc ts vs = some (some nm)) : (ts.length = 2 ∨ ts.length = 3) ∧ vs.length = ts.length ∧ nm = ts.filterMap (nmOf sc (lineOf ts)) ∧ nm.length = ts.length := by
  unfold swP at h
  split at h
  · cases h
  · rename_i c1
    split at h
    · cases h
    · split at h
      · cases h
      · rename_i c3
        split at h
        · cases h
        · split at h
          · cases h
          · cases h
            simp only [Bool.or_eq_true, not_or, Bool.not_eq_true', bne_iff_ne, ne_eq, Decidable.not_not, beq_iff_eq, Bool.or_eq_false_iff, beq_eq_false_iff_ne, not_and] at c1 c3
            refine ⟨?_, c1.2, rfl, c3.1⟩
            have := c1.1
            omega
theorem s_unpV {s : Stmt} {is : List Nat} {es : Es} (h : PS X s (fun Dn σ H => tA X.K X.mg W (evEs C es) σ H fun vs H1 => vs.length = is.length ∧ Dn.nx (NL.setV σ is vs) H1)) : PS X s (tS X.K X.mg W (exS C (.unp is (.tup es)))) := by
  refine PS.imp h fun Dn σ H ⟨m, en, S, er, sr, q⟩ => ?_
  unfold exS evE at q
  have q0 := lift_post q er
  rw [bind_as] at q0
  refine tG_use er sr (post_bind q0) fun xs m1 S1 H1 vs g er1 sr1 q1 rx => ?_
  by_cases hz : xs.length ≤ sizeLine
  · rw [if_pos hz] at q1
    have q1 : post X.K (Wd X.mg W σ) m1 H1 (unpD is.length (.tup xs) S1) _ := q1
    by_cases hc : xs.length = is.length
    · have e : unpD is.length (.tup xs) = pure xs := if_pos hc
      rw [e] at q1
      exact ⟨by rw [← rx.length]; exact hc, flow_nx sr1 (post_now sr1 q1) (ER.setAll er1 rx)⟩
    · have e : unpD is.length (.tup xs) = die := if_neg hc
      rw [e] at q1
      exact q1.elim
  · rw [if_neg hz] at q1
    exact q1.elim
theorem two_of {α : Type} {xs : List α} (h : xs.length = 2) : ∃ a b, xs = [a, b] := by
  rcases xs with _ | ⟨a, _ | ⟨b, _ | ⟨c, xs⟩⟩⟩
  · cases h
  · cases h
  · exact ⟨a, b, rfl⟩
  · simp at h
theorem three_of {α : Type} {xs : List α} (h : xs.length = 3) : ∃ a b c, xs = [a, b, c] := by
  rcases xs with _ | ⟨a, _ | ⟨b, _ | ⟨c, _ | ⟨d, xs⟩⟩⟩⟩
  · cases h
  · cases h
  · cases h
  · exact ⟨a, b, c, rfl⟩
  · simp at h
theorem s_par {ts vs : List Expr} {nm : List Str} {is : List Nat} {es : Es} {k k2 : Nat} {p p2 pos : Pos} (w : SOk X sc N C ft W) (h : swP sc ts vs = some (some nm)) (hn : namesOf (locOf sc N) ts = some is) (nd : is.Nodup) (ha : PA X vs (tA X.K X.mg W (evEs C es))) :
    PS X (.Assign [.Tuple ts k p] (.Tuple vs k2 p2) pos) (tS X.K X.mg W (exS C (.unp is (.tup es)))) := by
  have hw := swapped_eq (k := k) (k2 := k2) (p := p) (p2 := p2) h w.sc w.kind
  obtain ⟨h1, h2, h3, h4⟩ := swP_some h
  have hlen := names_len hn
  have all := fm_len _ ts (by rw [← h3]; exact h4)
  have nmx : ∀ x i, locOf sc N x = some i → X.N[i]? = some x := fun x i hx => (w.put x i hx).1
  rcases h1 with h1 | h1
  · obtain ⟨t1, t2, rfl⟩ := two_of h1
    obtain ⟨a, b, rfl⟩ := two_of (h2.trans h1)
    obtain ⟨i, j, rfl⟩ := two_of (hlen.symm.trans h1)
    obtain ⟨x, ex⟩ := all t1 (by simp)
    obtain ⟨y, ey⟩ := all t2 (by simp)
    rw [List.filterMap_cons, ex, List.filterMap_cons, ey] at h3
    subst h3
    obtain ⟨px, rfl, lx⟩ := nmOf_some ex
    obtain ⟨py, rfl, ly⟩ := nmOf_some ey
    simp only [namesOf] at hn
    cases e1 : locOf sc N x with
    | none => rw [e1] at hn; cases hn
    | some i' =>
      cases e2 : locOf sc N y with
      | none => rw [e1, e2] at hn; cases hn
      | some j' =>
        rw [e1, e2] at hn
        cases hn
        have hij : i ≠ j := by simpa using nd
        refine s_unpV (PS.imp (ps_par w.calm w.nd' (nmx x i e1) (nmx y j e2) hij (by rw [w.sc]; exact lx) (by rw [w.sc]; exact ly) ha hw rfl) fun Dn σ H ⟨m, en, S, er, sr, q⟩ => ?_)
        refine ⟨m, en, S, er, sr, post_mono q fun xs m1 S1 H1 g s q1 vs rv => ?_⟩
        obtain ⟨hl, q2⟩ := q1 vs rv
        obtain ⟨u, v, rfl⟩ := two_of hl
        exact ⟨u, v, rfl, q2⟩
  · obtain ⟨t1, t2, t3, rfl⟩ := three_of h1
    obtain ⟨a, b, c, rfl⟩ := three_of (h2.trans h1)
    obtain ⟨i, j, l, rfl⟩ := three_of (hlen.symm.trans h1)
    obtain ⟨x, ex⟩ := all t1 (by simp)
    obtain ⟨y, ey⟩ := all t2 (by simp)
    obtain ⟨z, ez⟩ := all t3 (by simp)
    rw [List.filterMap_cons, ex, List.filterMap_cons, ey, List.filterMap_cons, ez] at h3
    subst h3
    obtain ⟨px, rfl, lx⟩ := nmOf_some ex
    obtain ⟨py, rfl, ly⟩ := nmOf_some ey
    obtain ⟨pz, rfl, lz⟩ := nmOf_some ez
    simp only [namesOf] at hn
    cases e1 : locOf sc N x with
    | none => rw [e1] at hn; cases hn
    | some i' =>
      cases e2 : locOf sc N y with
      | none => rw [e1, e2] at hn; cases hn
      | some j' =>
        cases e3 : locOf sc N z with
        | none => rw [e1, e2, e3] at hn; cases hn
        | some l' =>
          rw [e1, e2, e3] at hn
          cases hn
          have hne : i ≠ j ∧ i ≠ l ∧ j ≠ l := by
            simp only [List.nodup_cons, List.mem_cons, List.not_mem_nil, or_false, not_or] at nd
            exact ⟨nd.1.1, nd.1.2, nd.2.1⟩
          refine s_unpV (PS.imp (ps_par3 w.calm w.nd' (nmx x i e1) (nmx y j e2) (nmx z l e3) hne.1 hne.2.1 hne.2.2 (by rw [w.sc]; exact lx) (by rw [w.sc]; exact ly) (by rw [w.sc]; exact lz) ha hw rfl) fun Dn σ H ⟨m, en, S, er, sr, q⟩ => ?_)
          refine ⟨m, en, S, er, sr, post_mono q fun xs m1 S1 H1 g s q1 vs rv => ?_⟩
          obtain ⟨hl, q2⟩ := q1 vs rv
          obtain ⟨u, v, t, rfl⟩ := three_of hl
          exact ⟨u, v, t, rfl, q2⟩
theorem swapped_none {ts : List Expr} {e : Expr} {k : Nat} {p : Pos} {env : PySem.Env} (h : ∀ vs k2 p2, e ≠ .Tuple vs k2 p2) : swappedStores [.Tuple ts k p] e env = pure none := by
  cases e <;> first | rfl | exact absurd rfl (h _ _ _)
theorem sole_tup {ts : List Expr} {e : Expr} {k l : Nat} {p : Pos} {env : PySem.Env} (hp : plainE e = true) : swapsWithSole [.Tuple ts k p] e l env = pure false :=
  (show swapsWith e (some (.Tuple ts k p)) l env = pure false from swaps_tup hp)
theorem s_setA {x : Str} {px pos : Pos} {i n : Nat} {e : Expr} {e' : E} (w : SOk X sc N C ft W) (hx : locOf sc N x = some i) (hp : plainE e = true) (h : comE ft N n sc e = some e') : PS X (.Assign [.Name x px] e pos) (tS X.K X.mg W (exS C (.set i e'))) := by
  have he := (comE_ok n X sc W e e' w.toXOk h).1
  by_cases hc : isComp e = true
  · cases e <;> try cases hc
    rename_i elt gens scope p
    cases n with
    | zero => unfold comE at h; cases h
    | succ n =>
    obtain ⟨tg, it, ifs, rfl, own, wi, g, tt, te, hi, hb, hg, ht, hel, hs, k⟩ := comE_comp w.toXOk h
    obtain ⟨h1, h2, h3⟩ := w.put x i hx
    have fin : ∀ {t : TE}, PS X (.Assign [.Name x px] (.ListComp elt [⟨tg, it, ifs, 0⟩] scope p) pos) (tAsg t (gName i)) → (∀ σ H Q, tE X.K X.mg W (evE C e') σ H Q → t σ H Q) → PS X (.Assign [.Name x px] (.ListComp elt [⟨tg, it, ifs, 0⟩] scope p) pos) (tS X.K X.mg W (exS C (.set i e'))) := fun {t} h hk => by
      refine PS.imp h fun Dn σ H ⟨m, en, S, er, sr, q⟩ => ?_
      unfold exS at q
      refine hk σ H _ (tG_use er sr (lift_post q er) fun d m1 S1 H1 v g er1 sr1 q1 rx => ?_)
      exact flow_nx sr1 q1 (er1.set rx i)
    obtain ⟨b, hb2⟩ : ∃ b, swapsWith (.ListComp elt [⟨tg, it, ifs, 0⟩] scope p) (some (.Name x px)) pos.line X.env = pure b := ⟨_, rfl⟩
    cases b with
    | false => exact fin (ps_set w.nd' h1 h2 he hb2 h3) fun _ _ _ q => q
    | true =>
      by_cases hl : X.env.scope.names.lookup x = some .local
      · exact fin (ps_setLc w.calm w.nd' h1 hl hb2 hi hb hg ht hel hs) k
      · have : swapsWith (.ListComp elt [⟨tg, it, ifs, 0⟩] scope p) (some (.Name x px)) pos.line X.env = pure false := by
          have key : ∀ o : Option NameKind, ¬ o = some .local → (o == some .local) = false := fun o h => by
            cases o with
            | none => rfl
            | some k => cases k <;> first | rfl | exact absurd rfl h
          unfold swapsWith
          have e : (X.env.kindOf x == some .local) = false := key _ hl
          simp only [e]
          rw [Bool.and_false, Bool.false_and, Bool.false_and]
        exact fin (ps_set w.nd' h1 h2 he this h3) fun _ _ _ q => q
  · exact s_set w hx hp (by simpa using hc) he
theorem comSs_ok {f : Stmt → Option NL.St} : ∀ {ss : List Stmt} {r : Sts}, comS.comSs f ss = some r → (∀ s r, f s = some r → PS X s (tS X.K X.mg W (exS C r))) → PSs X ss (tS X.K X.mg W (exB C r))
  | [], _, h, _ => by cases h; exact s_nil
  | s :: ss, r, h, hf => by
    simp only [comS.comSs] at h
    cases e1 : f s with
    | none => rw [e1] at h; cases h
    | some a =>
      cases e2 : comS.comSs f ss with
      | none => rw [e1, e2] at h; cases h
      | some b =>
        rw [e1, e2] at h
        cases h
        exact s_cons (hf s a e1) (comSs_ok e2 hf)
theorem comS_ok (w : SOk X sc N C ft W) : ∀ (n : Nat) (s : Stmt) (s' : NL.St), comS ft N sc n s = some s' → PS X s (tS X.K X.mg W (exS C s')) := by
  intro n
  induction n with
  | zero => intro s s' h; unfold comS at h; cases h
  | succ n ih =>
    intro s s' h
    have ex : ∀ {e : Expr} {e' : E}, comE ft N n sc e = some e' → PE X e (tE X.K X.mg W (evE C e')) ∧ PT X e (tT X.K X.mg W fun en => evE C e' en >>= truD) ∧ plainE e = true := fun {e e'} h => ⟨(comE_ok n X sc W e e' w.toXOk h).1, (comE_ok n X sc W e e' w.toXOk h).2, comE_plain h⟩
    have many : ∀ {es : List Expr} {r : Es}, comL (comE ft N n sc) es = some r → PA X es (tA X.K X.mg W (evEs C r)) := fun {es r} hc => p_list hc fun x _ r hr => ⟨comE_plain hr, (ex hr).1⟩
    cases s with
    | Return v pos =>
      cases v with
      | none => simp only [comS] at h; cases h; exact s_ret0
      | some e =>
        simp only [comS] at h
        obtain ⟨e', he, rfl⟩ := Option.map_eq_some_iff.mp h
        exact s_ret (ex he).1
    | If c a b pos =>
      simp only [comS] at h
      split at h
      · rename_i c' a' b' e1 e2 e3
        cases h
        exact s_if (ex e1).2.1 (comSs_ok e2 ih) (comSs_ok e3 ih)
      · cases h
    | For tg it b orelse pos =>
      cases orelse with
      | cons _ _ => simp only [comS] at h; cases h
      | nil =>
        simp only [comS] at h
        split at h
        · rename_i t i b' e1 e2 e3
          cases h
          obtain ⟨hi, hp⟩ := i_of (tg := tg) w.toXOk e2 fun x r hr => ⟨(ex hr).2.2, (ex hr).1⟩
          exact s_for w hp e1 hi (comSs_ok e3 ih)
        · cases h
    | While c b orelse pos =>
      cases orelse with
      | cons _ _ => simp only [comS] at h; cases h
      | nil =>
        simp only [comS] at h
        split at h
        · rename_i c' b' e1 e2
          cases h
          exact s_whl w (ex e1).2.1 (comSs_ok e2 ih)
        · cases h
    | Break pos => simp only [comS] at h; cases h; exact s_brk
    | Continue pos => simp only [comS] at h; cases h; exact s_cnt
    | Pass pos => simp only [comS] at h; cases h; exact s_pass
    | Raise a b pos => simp only [comS] at h; cases h; exact s_dead
    | AugAssign tg op e pos =>
      cases tg <;> cases op <;> simp only [comS] at h <;> try cases h
      split at h
      · rename_i i e' e1 e2
        cases h
        exact s_aug w e1 (ex e2).1
      · cases h
    | Expr e pos =>
      have dflt : (if isComp e = true then none else (comE ft N n sc e).map NL.St.expr) = some s' → PS X (.Expr e pos) (tS X.K X.mg W (exS C s')) := fun h => by
        split at h
        · cases h
        · rename_i hc
          obtain ⟨e', he, rfl⟩ := Option.map_eq_some_iff.mp h
          exact s_expr (ex he).2.2 (by simpa using hc) (ex he).1
      unfold comS at h
      split at h
      all_goals try (cases h; done)
      all_goals try (exfalso; cases ‹Stmt.Expr e pos = _›; done)
      all_goals
        have hs := ‹Stmt.Expr e pos = _›
        injection hs with h1 h2
        subst h1
        subst h2
      · split at h
        · rename_i hm
          simp only [Bool.and_eq_true, decide_eq_true_eq] at hm
          split at h
          · rename_i i e' e1 e2
            cases h
            obtain ⟨hm1, hm2⟩ := hm
            subst hm1
            exact s_app w e1 hm2 (ex e2).2.2 (ex e2).1
          · cases h
        · cases h
      · cases h; exact s_doc
      · exact dflt h
    | Assign ts e pos =>
      unfold comS at h
      split at h
      all_goals try (cases h; done)
      all_goals try (exfalso; cases ‹Stmt.Assign ts e pos = _›; done)
      all_goals
        have hs := ‹Stmt.Assign ts e pos = _›
        injection hs with h1 h2 h3
        subst h1
        subst h2
        subst h3
      · split at h
        · rename_i i e' e1 e2
          cases h
          have hpl := (ex e2).2.2
          exact s_setA w e1 hpl e2
        · cases h
      · split at h
        · rename_i is es e1 e2 e3
          cases h
          have hE : ∀ k p, comE ft N (n + 1) sc (.Tuple _ k p) = some (.tup es) := fun k p => by simp only [comE]; rw [e3]; rfl
          exact s_unpG w e2 (comE_ok (n + 1) X sc W _ _ w.toXOk (hE _ _)).1 (sole_tup rfl) (swapped_eq e1 w.sc w.kind)
        · rename_i nm is es e1 e2 e3
          split at h
          · rename_i hc
            cases h
            exact s_par w e1 e2 hc.1 (many e3)
          · cases h
        · cases h
      · split at h
        · rename_i is e' e1 e2
          cases h
          have hpl := (ex e2).2.2
          refine s_unpG w e1 (ex e2).1 (sole_tup hpl) (swapped_none fun vs k2 p2 z => ?_)
          subst z
          rename_i hx _
          exact hx _ _ _ rfl
        · cases h
      · split at h
        · cases h
        · rename_i hc
          split at h
          · rename_i o' i' e' e1 e2 e3
            cases h
            exact s_setIx w (by simpa using hc) (ex e3).2.2 (ex e1).1 (ex e2).1 (ex e3).1
          · cases h
    | _ => simp only [comS] at h; cases h
end
end NL

/-! Defs, calls, the end of a law. -/
namespace NL
open PySem PySem.Spec PyProof.Rows L2
/-- a def of the program: its name, its text, its names (the parameters first), how it is read -/
structure Ent where
  name : Str
  st : Stmt
  N : List Str
  ps : List Str
  fn : Fn
def idxOf (x : Str) : List Ent → Option (Nat × Nat)
  | [] => none
  | e :: r => if e.name = x then some (0, e.ps.length) else (idxOf x r).map fun p => (p.1 + 1, p.2)
abbrev ftOf (tab : List Ent) : FTab := fun x => idxOf x tab
abbrev tabT (tab : List Ent) : Nat → Option Fn := fun i => (tab[i]?).map (·.fn)
theorem idxOf_some {x : Str} : ∀ {tab : List Ent} {i ar : Nat}, idxOf x tab = some (i, ar) → ∃ e, tab[i]? = some e ∧ e.name = x ∧ e.ps.length = ar
  | [], _, _, h => by cases h
  | e :: r, i, ar, h => by
    unfold idxOf at h
    split at h
    · rename_i hx
      cases h
      exact ⟨e, rfl, hx, rfl⟩
    · obtain ⟨⟨j, a⟩, hj, he⟩ := Option.map_eq_some_iff.mp h
      cases he
      obtain ⟨e', h1, h2, h3⟩ := idxOf_some hj
      exact ⟨e', by simpa using h1, h2, h3⟩
/-- the text reads so -/
structure EOk (ft : FTab) (e : Ent) : Prop where
  com : comF ft e.N e.st = some e.fn
  sc : FnScope e.N e.ps (defScope e.st)
  np : e.fn.np = e.ps.length
  nv : e.fn.nv = e.N.length
/-- it stands there -/
structure DAt (K : PySem.W.Frag) (mg : Str → Option Value) (e : Ent) (f : Addr) (fd : FuncData) : Prop where
  fn : Fun K e.name e.name e.st f fd
  mgf : mg e.name = some (.ref f)
  bind : ∀ us : List Value, us.length = e.ps.length → bindArgs fd ⟨us, []⟩ = pure (e.ps.zip us)
def DIn (K : PySem.W.Frag) (mg : Str → Option Value) (e : Ent) : Prop := ∃ f fd, DAt K mg e f fd
structure Blts (mg : Str → Option Value) : Prop where
  blt : ∀ b : Blt, mg b.name = none
  isi : mg "isinstance" = none
  rng : mg "range" = none
  ty : ∀ t : Ty, mg t.name = none
section
variable {P : Program} {w : World} {K : PySem.W.Frag} {mg : Str → Option Value} {base : Heap}
theorem ER.start {m : List Addr} {H : Hp} {ds : List D} {vs : List V} {N : List Str} {k : Nat} (r : Reps m H ds vs) (hl : ds.length = k) : ER m H (ds.map some ++ List.replicate (N.length - k) none) (L2.start N vs) := by
  subst hl
  refine ⟨by unfold L2.start; simp [r.length], fun i d h => ?_⟩
  unfold L2.start
  by_cases hi : i < ds.length
  · rw [List.getElem?_append_left (by simpa using hi), List.getElem?_map] at h
    rw [List.getElem?_append_left (by rw [List.length_map, ← r.length]; exact hi), List.getElem?_map]
    cases e : ds[i]? with
    | none => rw [e] at h; cases h
    | some d' =>
      rw [e] at h
      have h : some (some d') = some (some d) := h
      cases h
      obtain ⟨v, h1, h2⟩ := r.get e
      exact ⟨v, by rw [h1]; rfl, h2⟩
  · rw [List.getElem?_append_right (by simpa using Nat.le_of_not_lt hi), List.getElem?_replicate] at h
    split at h
    · cases h
    · cases h
theorem fn_ok {tab : List Ent} (hE : ∀ (i : Nat) (e : Ent), tab[i]? = some e → EOk (ftOf tab) e) (hD : ∀ (i : Nat) (e : Ent), tab[i]? = some e → DIn K mg e) (hb : Blts mg) :
    ∀ (n i : Nat) (e : Ent) (f : Addr) (fd : FuncData), tab[i]? = some e → DAt K mg e f fd → FnOk P w K mg base (L2.CX P w) n f fd e.ps (spM K mg e.ps.length (callT (tabT tab) n i)) := by
  intro n
  induction n with
  | zero =>
    intro i e f fd he dat
    have no : ∀ vs H Q E, ¬ spM K mg e.ps.length (callT (tabT tab) 0 i) vs H Q E := fun vs H Q E ⟨m, S, ds, h1, h2, h3, h4⟩ => h4
    exact ⟨fun vs H Q E h => absurd h (no vs H Q E), fun A outer s H args us vs Q E _ _ _ _ h => absurd h (no vs H Q E)⟩
  | succ n ih =>
    intro i e f fd he dat
    have ok := hE i e he
    refine dat.fn.okX ok.sc (fun vs H Q E ⟨m, S, ds, h1, h2, h3, h4⟩ => by rw [← h2.length, h3]) (fun cdv A outer s H vs Q E hr ⟨m, S, ds, h1, h2, h3, h4⟩ => ?_)
    have fo : FOk (cxOf (L2.CX P w) P w K mg base e.N e.name (defScope e.st) f cdv A outer s H E) (callT (tabT tab) n) (ftOf tab) := by
      refine ⟨fun g id ar hg => ?_, hb.blt, hb.isi, hb.rng, hb.ty⟩
      obtain ⟨e', q1, q2, q3⟩ := idxOf_some hg
      obtain ⟨a, fd', D'⟩ := hD id e' q1
      subst q2 q3
      exact ⟨a, fd', e'.ps, n, ih id e' a fd' q1 D', hr, D'.mgf, D'.fn.kp, .all D'.bind⟩
    have hcom := ok.com
    unfold comF at hcom
    split at hcom
    · rename_i b hb2
      have hfn : e.fn = ⟨(defArgs e.st).args.length, e.N.length, b⟩ := (Option.some.inj hcom).symm
      have hbody : e.fn.body = b := by rw [hfn]
      have w2 : SOk (cxOf (L2.CX P w) P w K mg base e.N e.name (defScope e.st) f cdv A outer s H E) (defScope e.st) e.N (callT (tabT tab) n) (ftOf tab) (fun cls d _ H => E cls d H) :=
        { hN := rfl, sc := rfl, nd := ok.sc.nd, calm := rfl, hu := (by
            have h := hr.un
            have e2 : (cxOf (L2.CX P w) P w K mg base e.N e.name (defScope e.st) f cdv A outer s H E).A = A.deeper (envOfC e.name (defScope e.st) s.heap.objs.size f cdv) := rfl
            rw [e2]
            omega),
          fo := fo, tk := takes_of rfl rfl rfl rfl, put := fun x j hx => ⟨(locOf_some hx).1, (locOf_some hx).2, .inl rfl⟩, pass := passes_of rfl, kind := ok.sc.kind }
      refine ⟨_, comSs_ok hb2 fun s0 r hr0 => comS_ok w2 _ s0 r hr0, m, _, S, ER.start h2 h3, h1, ?_⟩
      rw [show callT (tabT tab) (n + 1) i ds = runF (callT (tabT tab) n) e.fn ds by unfold callT; rw [show tabT tab i = some e.fn by unfold tabT; rw [he]; rfl]] at h4
      unfold runF at h4
      rw [if_pos (by rw [h3, ok.np])] at h4
      rw [ok.nv, ok.np, hbody] at h4
      cases er : exB (callT (tabT tab) n) b (ds.map some ++ List.replicate (e.N.length - e.ps.length) none) S with
      | stuck => rw [er] at h4; exact h4.elim
      | exc c d S1 => rw [er] at h4; exact h4.elim
      | ok fl S1 =>
        rw [er] at h4
        cases fl with
        | nx en => exact fun m' H' g sr σ er' => (show post K _ m H (.ok D.non S1) _ from h4) m' H' g sr _ .non
        | brk en => exact h4.elim
        | cnt en => exact h4.elim
        | ret d => exact fun m' H' g sr v rv => (show post K _ m H (.ok d S1) _ from h4) m' H' g sr v rv
        | exc c d en => exact fun m' H' g sr σ cls dd er' hx => (show post K _ m H (.exc c d S1) _ from h4) m' H' g sr cls dd hx
    · cases hcom
/-- THE END: the law's def answers True -/
theorem walk_nl {l : PySem.W.OpenLaw} {q : Program} {loose : List Str} {XP : (Str → Option Value) → Heap → Prop} {YP : World → Heap → Prop} {d : DefRec} {K : Params → PySem.W.Frag} {tab : List Ent} {n i : Nat} {e : Ent}
    (hn : l.most = some 63) (hdf : d.params.defaults = []) (hr : Room n callerA) (hY : ∀ (w : World) (h : Heap), YP w h → (K w.params).In h)
    (hi : tab[i]? = some e) (hnm : e.name = d.name) (hps : e.ps = [("_law_script" : Str)]) (hE : ∀ (i : Nat) (e : Ent), tab[i]? = some e → EOk (ftOf tab) e)
    (F : ∀ (w : World) (mg : Str → Option Value) (h : Heap), (K w.params).In h → h.Ns mainGlobals mg → Blts mg ∧ ∀ (i : Nat) (e : Ent), tab[i]? = some e → DIn (K w.params) mg e)
    (law : ∀ ns : List Int, ns.length ≤ 63 → (∀ z ∈ ns, Builtin.Int.intBits z ≤ 1048576) → ∃ S', callT (tabT tab) n i [.ref 0] [.frz (ns.map D.int)] = .ok (.bl true) S') :
    PySem.W.WalkO q loose XP YP l.row.toRowW d [] (fun f vs => PySem.call f vs) := by
  refine L2.walk_ofB (n := 63) (k := n) (x := "_law_script") (CX := fun w => L2.CX l.prog w) (sp := fun w vs H Q E => ∀ mg, spM (K w.params) mg 1 (callT (tabT tab) n i) vs H Q E) hn (by decide) hdf hr hY ?_ ?_ ?_
  · intro w mg fa h KX G hmg
    obtain ⟨hb, hD⟩ := F w mg h KX G
    obtain ⟨f0, fd0, D0⟩ := hD i e hi
    have hm0 := D0.mgf
    rw [hnm, hmg] at hm0
    cases hm0
    refine ⟨fd0, fun s u => ?_, fun base hK hN => ?_⟩
    · have hb1 := D0.bind [u] (by rw [hps]; rfl)
      rw [hps] at hb1
      exact .of_eq hb1
    · have G := fn_ok (P := l.prog) (w := w) (base := base) hE hD hb n i e _ _ hi D0
      rw [hps] at G
      exact G.imp fun vs H Q E h => h mg
  · intro w H a ns hlen hbits hO hS
    refine fun mg => ⟨[a], [.frz (ns.map D.int)], [.ref 0], ?_, .cons (.ref rfl) .nil, rfl, ?_⟩
    · refine ⟨rfl, fun l o b h1 h2 => ?_, fun l l' b o o' h1 h2 h3 h4 h5 h6 => ?_⟩
      · cases l with
        | succ l => simp at h1
        | zero =>
          cases h1
          cases h2
          refine ⟨ns.map V.int, ?_, Reps.ints ns⟩
          rcases hS with hS | hS
          · rcases hS with hS | ⟨ob, hS⟩
            · rcases hO a with h | ⟨o, xs, h⟩
              · rw [hS] at h; cases h
              · rw [hS] at h; cases h
            · exact .inl ⟨ob, hS⟩
          · exact .inr hS
      · cases l with
        | succ l => simp at h1
        | zero => cases h3; cases h5
    · obtain ⟨S', e⟩ := law ns hlen hbits
      rw [e]
      intro m' H' g s w hw
      cases hw
      rfl
  · intro w H s e s' h
    obtain ⟨_, _, _, _, _, _, _, _, _, _, _, _, z⟩ := h
    exact z.elim
end
end NL

/-! Rules by which a text of the small language is run on symbols (each rewrites the head, before what lies within). -/
namespace NL
open PySem PySem.Spec PyProof.Rows L2
/-- no rfl-rule: the kernel is not to unfold it -/
theorem nrf {α : Sort _} {a b : α} (h : a = b) : a = b := h
/-! ### answers, with what follows them -/
def R.lft {α β : Type} (r : R α) (k : α → Store → R β) (h : Str → Option Nat → Store → R β) : R β := match r with
  | .ok a S => k a S
  | .exc c d S => h c d S
  | .stuck => .stuck
def getE {β : Type} (en : Env) (i : Nat) (k : D → R β) : R β := match en[i]? with
  | some (some d) => k d
  | _ => .stuck
def setE {β : Type} (en : Env) (i : Nat) (d : D) (k : Env → R β) : R β := k (en.set i (some d))
def setsE {β : Type} (en : Env) (is : List Nat) (ds : List D) (k : Env → R β) : R β := k (setAll en is ds)
def retK : Flow → Store → R D
  | .nx _, S => .ok .non S
  | .ret d, S => .ok d S
  | .exc c d _, S => .exc c d S
  | _, _ => .stuck
noncomputable def seqK {β : Type} (C : Nat → List D → M D) (r : Sts) (k : Flow → Store → R β) (h : Str → Option Nat → Store → R β) : Flow → Store → R β := fun f S => match f with
  | .nx en => (exB C r en S).lft k h
  | f => k f S
section
variable {α β : Type} {k : α → Store → R β} {h : Str → Option Nat → Store → R β} {S : Store} {C : Nat → List D → M D} {en : Env}
theorem lft_ok {a : α} : (R.ok a S : R α).lft k h = k a S := nrf rfl
theorem lft_of {r : R α} {a : α} {S' : Store} (e : r = .ok a S') : r.lft k h = k a S' := by rw [e]; rfl
theorem pure_lft {a : α} : ((pure a : M α) S).lft k h = k a S := nrf rfl
theorem bind_lft {γ : Type} {m : M γ} {f : γ → M α} : ((m >>= f) S).lft k h = (m S).lft (fun a S => (f a S).lft k h) h := by
  rw [bind_eq]
  cases m S <;> rfl
theorem getE_0 {d : D} {k : D → R β} : getE (some d :: en) 0 k = k d := nrf rfl
theorem getE_s {o : Option D} {i : Nat} {k : D → R β} : getE (o :: en) (i + 1) k = getE en i k := by unfold getE; rw [List.getElem?_cons_succ]
theorem setE_0 {o : Option D} {d : D} {k : Env → R β} : setE (o :: en) 0 d k = k (some d :: en) := nrf rfl
theorem setE_s {o : Option D} {i : Nat} {d : D} {k : Env → R β} : setE (o :: en) (i + 1) d k = setE en i d fun e => k (o :: e) := nrf rfl
theorem setsE_0 {ds : List D} {k : Env → R β} : setsE en [] ds k = k en := nrf (by cases ds <;> rfl)
theorem setsE_s {i : Nat} {is : List Nat} {d : D} {ds : List D} {k : Env → R β} : setsE en (i :: is) (d :: ds) k = setE en i d fun e => setsE e is ds k := nrf rfl
end
section
variable {β : Type} {S : Store} {C : Nat → List D → M D} {en : Env} {h : Str → Option Nat → Store → R β}
section
variable {k : D → Store → R β}
theorem r_var {i : Nat} : (evE C (.var i) en S).lft k h = getE en i fun d => k d S := by
  rw [evE]; unfold getE
  cases en[i]? with
  | none => rfl
  | some o => cases o <;> rfl
theorem r_con {d : D} : (evE C (.con d) en S).lft k h = k d S := by rw [evE]; rfl
theorem r_bin {o : Bop} {a b : E} : (evE C (.bin o a b) en S).lft k h = (evE C a en S).lft (fun x S => (evE C b en S).lft (fun y S => (binD o x y S).lft k h) h) h := by
  rw [evE, bind_lft]; congr; funext x S; rw [bind_lft]
theorem r_neg {a : E} : (evE C (.neg a) en S).lft k h = (evE C a en S).lft (fun x S => (negD x S).lft k h) h := by rw [evE, bind_lft]
theorem tru_lft {m : M D} {f : Bool → M D} : ((m >>= truD >>= f) S).lft k h = (m S).lft (fun x S => (truD x S).lft (fun t S => (f t S).lft k h) h) h := by
  rw [bind_lft, bind_lft]
theorem r_not {a : E} : (evE C (.not a) en S).lft k h = (evE C a en S).lft (fun x S => (truD x S).lft (fun t S => k (.bl (!t)) S) h) h := by
  rw [evE, tru_lft]; rfl
theorem r_cmp {o : Cop} {a b : E} : (evE C (.cmp o a b) en S).lft k h = (evE C a en S).lft (fun x S => (evE C b en S).lft (fun y S => (cmpD o x y S).lft k h) h) h := by
  rw [evE, bind_lft]; congr; funext x S; rw [bind_lft]
theorem ite_lft {t : Bool} {m m' : M D} : ((if t = true then m else m') S).lft k h = if t = true then (m S).lft k h else (m' S).lft k h := nrf (by cases t <;> rfl)
theorem r_chn {o o' : Cop} {a b c : E} : (evE C (.chn o o' a b c) en S).lft k h = (evE C a en S).lft (fun x S => (evE C b en S).lft (fun y S => (cmpD o x y S).lft (fun z S => (truD z S).lft (fun t S => if t = true then (evE C c en S).lft (fun z S => (cmpD o' y z S).lft k h) h else k (.bl false) S) h) h) h) h := by
  rw [evE, bind_lft]; congr; funext x S; rw [bind_lft]; congr; funext y S; rw [tru_lft]; congr; funext z S; congr; funext t S
  cases t
  · rfl
  · rw [if_pos rfl, if_pos rfl, bind_lft]
theorem r_and {a b : E} : (evE C (.and a b) en S).lft k h = (evE C a en S).lft (fun x S => (truD x S).lft (fun t S => if t = true then (evE C b en S).lft k h else k (.bl false) S) h) h := by
  show ((evE C (.and a b) en) S).lft k h = _
  rw [evE, tru_lft]; congr; funext x S; congr; funext t S; cases t <;> rfl
theorem r_or {a b : E} : (evE C (.or a b) en S).lft k h = (evE C a en S).lft (fun x S => (truD x S).lft (fun t S => if t = true then k (.bl true) S else (evE C b en S).lft k h) h) h := by
  show ((evE C (.or a b) en) S).lft k h = _
  rw [evE, tru_lft]; congr; funext x S; congr; funext t S; cases t <;> rfl
theorem r_ite {c a b : E} : (evE C (.ite c a b) en S).lft k h = (evE C c en S).lft (fun x S => (truD x S).lft (fun t S => if t = true then (evE C a en S).lft k h else (evE C b en S).lft k h) h) h := by
  show ((evE C (.ite c a b) en) S).lft k h = _
  rw [evE, tru_lft]; congr; funext x S; congr; funext t S; cases t <;> rfl
theorem r_tup {es : Es} : (evE C (.tup es) en S).lft k h = (evEs C es en S).lft (fun xs S => if xs.length ≤ sizeLine then k (.tup xs) S else .stuck) h := by
  rw [evE, bind_lft]; congr; funext xs S; split <;> rfl
theorem r_lst {es : Es} : (evE C (.lst es) en S).lft k h = (evEs C es en S).lft (fun xs S => if xs.length ≤ sizeLine then k (.ref S.length) (S ++ [.lst xs]) else .stuck) h := by
  rw [evE, bind_lft]; congr; funext xs S; split <;> rfl
theorem r_idx {a i : E} : (evE C (.idx a i) en S).lft k h = (evE C a en S).lft (fun x S => (evE C i en S).lft (fun y S => (ixD x y S).lft k h) h) h := by
  rw [evE, bind_lft]; congr; funext x S; rw [bind_lft]
theorem r_slc {p q : Bool} {a lo hi : E} : (evE C (.slc p q a lo hi) en S).lft k h = (evE C a en S).lft (fun x S => (evE C lo en S).lft (fun y S => (bndM p y S).lft (fun y S => (evE C hi en S).lft (fun z S => (bndM q z S).lft (fun z S => (slcD x y z S).lft k h) h) h) h) h) h := by
  rw [evE, bind_lft]; congr; funext x S; rw [bind_lft, bind_lft]; congr; funext y S; congr; funext y S; rw [bind_lft, bind_lft]
theorem r_call {f : Nat} {es : Es} : (evE C (.call f es) en S).lft k h = (evEs C es en S).lft (fun xs S => (C f xs S).lft k h) h := by rw [evE, bind_lft]
theorem r_blt {b : Blt} {es : Es} : (evE C (.blt b es) en S).lft k h = (evEs C es en S).lft (fun xs S => (bltD b xs S).lft k h) h := by rw [evE, bind_lft]
theorem r_isi {a : E} {T : Ty} : (evE C (.isi a T) en S).lft k h = (evE C a en S).lft (fun x S => (isiD T x S).lft k h) h := by rw [evE, bind_lft]
/-! operations -/
theorem o_add {i j : Int} : (binD .add (.int i) (.int j) S).lft k h = k (.int (i + j)) S := nrf rfl
theorem o_sub {i j : Int} : (binD .sub (.int i) (.int j) S).lft k h = k (.int (i - j)) S := nrf rfl
theorem o_neg {i : Int} : (negD (.int i) S).lft k h = k (.int (-i)) S := nrf rfl
theorem o_mod {i j : Int} (hj : j ≠ 0) : (binD .mod (.int i) (.int j) S).lft k h = k (.int (i.fmod j)) S := by simp only [binD, if_pos hj]; rfl
theorem o_fdiv {i j : Int} (hj : j ≠ 0 ∧ j.natAbs.log2 < 9000) : (binD .fdiv (.int i) (.int j) S).lft k h = k (.int (i.fdiv j)) S := by simp only [binD, if_pos hj]; rfl
theorem o_pow {i j : Int} (hj : 0 ≤ j ∧ (Builtin.Int.intBits i : Int) * j ≤ 2 ^ 27) : (binD .pow (.int i) (.int j) S).lft k h = k (.int (i ^ j.toNat)) S := by simp only [binD, if_pos hj]; rfl
theorem o_mul0 {i j : Int} (hj : MulOk i j) : (binD .mul (.int i) (.int j) S).lft k h = k (.int (i * j)) S := by simp only [binD, if_pos hj]; rfl
theorem o_lt {i j : Int} : (cmpD .lt (.int i) (.int j) S).lft k h = k (.bl (decide (i < j))) S := nrf rfl
theorem o_le {i j : Int} : (cmpD .le (.int i) (.int j) S).lft k h = k (.bl (decide (i ≤ j))) S := nrf rfl
theorem o_gt {i j : Int} : (cmpD .gt (.int i) (.int j) S).lft k h = k (.bl (decide (j < i))) S := nrf rfl
theorem o_ge {i j : Int} : (cmpD .ge (.int i) (.int j) S).lft k h = k (.bl (decide (j ≤ i))) S := nrf rfl
theorem ieq (i j : Int) : (i == j) = decide (i = j) := by rw [Bool.eq_iff_iff]; simp
theorem eqv_int {i j : Int} : PyData.eqv (.int i) (.int j) = decide (i = j) := by simp only [PyData.eqv]; exact ieq i j
theorem o_eqG {x y : D} {b : Bool} (e : eqD S x y = some b) : (cmpD .eq x y S).lft k h = k (.bl b) S := by
  show (ofB (eqD S x y) S).lft k h = _
  rw [e]; rfl
theorem o_neG {x y : D} {b : Bool} (e : eqD S x y = some b) : (cmpD .ne x y S).lft k h = k (.bl (!b)) S := by
  show (ofB ((eqD S x y).map (!·)) S).lft k h = _
  rw [e]; rfl
theorem o_inG {x y : D} {b : Bool} (e : inD S x y = some b) : (cmpD .isIn x y S).lft k h = k (.bl b) S := by
  show (ofB (inD S x y) S).lft k h = _
  rw [e]; rfl
theorem o_notInG {x y : D} {b : Bool} (e : inD S x y = some b) : (cmpD .notIn x y S).lft k h = k (.bl (!b)) S := by
  show (ofB ((inD S x y).map (!·)) S).lft k h = _
  rw [e]; rfl
theorem eqD_int {i j : Int} : eqD S (.int i) (.int j) = some (decide (i = j)) := by simp only [eqD, pd, eqv_int]
theorem eqD_bl {i j : Bool} : eqD S (.bl i) (.bl j) = some (i == j) := by simp only [eqD, pd, PyData.eqv]
theorem eqD_pt {a b c d : Int} : eqD S (.tup [.int a, .int b]) (.tup [.int c, .int d]) = some (decide (a = c ∧ b = d)) := by
  simp only [eqD, pd, mapO, Option.map_some, PyData.eqv, PyData.eqvAll, Bool.and_true]
  congr 1
  rw [ieq, ieq, Bool.decide_and]
theorem eqD_pp {a b c d a' b' c' d' : Int} : eqD S (.tup [.tup [.int a, .int b], .tup [.int c, .int d]]) (.tup [.tup [.int a', .int b'], .tup [.int c', .int d']]) = some (decide (a = a' ∧ b = b' ∧ c = c' ∧ d = d')) := by
  simp only [eqD, pd, mapO, Option.map_some, PyData.eqv, PyData.eqvAll, Bool.and_true]
  congr 1
  simp only [ieq, ← Bool.decide_and, and_assoc]
theorem ord_pt {o : Cop} {k : Nat} {a b c d : Int} : ordD o (k + 1) (.tup [.int a, .int b]) (.tup [.int c, .int d]) = some (if a = c then (if b = d then ord4 o 0 0 else ord4 o b d) else ord4 o a c) := by
  simp only [ordD, List.zip_cons_cons, List.zip_nil_left, List.zip_nil_right, List.all_cons, List.all_nil, eqD_int]
  have q : ∀ x y : Int, (match some (decide (x = y)) with | some true => true | some false => (some (ord4 o x y)).isSome | none => false) = true := fun x y => by cases decide (x = y) <;> rfl
  have oi : ∀ (x y : Int), ordD o k (.int x) (.int y) = some (ord4 o x y) := fun x y => by cases k <;> rfl
  by_cases h1 : a = c
  · by_cases h2 : b = d
    · simp [h1, h2, oi, lexO, eqD_int]
    · simp [h1, h2, oi, lexO, eqD_int]
  · by_cases h2 : b = d
    · simp [h1, h2, oi, lexO, eqD_int]
    · simp [h1, h2, oi, lexO, eqD_int]
theorem o_ltP {a b c d : Int} {β : Type} {S : Store} {h : Str → Option Nat → Store → R β} {k : D → Store → R β} : (cmpD .lt (.tup [.int a, .int b]) (.tup [.int c, .int d]) S).lft k h = k (.bl (decide (a < c ∨ a = c ∧ b < d))) S := by
  have e : cmpD .lt (.tup [.int a, .int b]) (.tup [.int c, .int d]) S = .ok (.bl (decide (a < c ∨ a = c ∧ b < d))) S := by
    show ofB (ordD .lt 12 _ _) S = _
    rw [ord_pt]
    show R.ok _ S = _
    congr 2
    by_cases h1 : a = c
    · by_cases h2 : b = d
      · simp [h1, h2, ord4]
      · simp [h1, h2, ord4]
    · simp [h1, ord4]
  rw [e]; rfl
theorem o_eqP {a b c d : Int} {β : Type} {S : Store} {h : Str → Option Nat → Store → R β} {k : D → Store → R β} : (cmpD .eq (.tup [.int a, .int b]) (.tup [.int c, .int d]) S).lft k h = k (.bl (decide (a = c ∧ b = d))) S := o_eqG eqD_pt
theorem o_neP {a b c d : Int} {β : Type} {S : Store} {h : Str → Option Nat → Store → R β} {k : D → Store → R β} : (cmpD .ne (.tup [.int a, .int b]) (.tup [.int c, .int d]) S).lft k h = k (.bl (!decide (a = c ∧ b = d))) S := o_neG eqD_pt
theorem o_eqPP {a b c d a' b' c' d' : Int} {β : Type} {S : Store} {h : Str → Option Nat → Store → R β} {k : D → Store → R β} : (cmpD .eq (.tup [.tup [.int a, .int b], .tup [.int c, .int d]]) (.tup [.tup [.int a', .int b'], .tup [.int c', .int d']]) S).lft k h = k (.bl (decide (a = a' ∧ b = b' ∧ c = c' ∧ d = d'))) S := o_eqG eqD_pp
theorem o_nePP {a b c d a' b' c' d' : Int} {β : Type} {S : Store} {h : Str → Option Nat → Store → R β} {k : D → Store → R β} : (cmpD .ne (.tup [.tup [.int a, .int b], .tup [.int c, .int d]]) (.tup [.tup [.int a', .int b'], .tup [.int c', .int d']]) S).lft k h = k (.bl (!decide (a = a' ∧ b = b' ∧ c = c' ∧ d = d'))) S := o_neG eqD_pp
theorem inD_2 {x y a b c d : Int} : inD S (.tup [.int x, .int y]) (.tup [.tup [.int a, .int b], .tup [.int c, .int d]]) = some (decide ((a = x ∧ b = y) ∨ (c = x ∧ d = y))) := by
  simp only [inD, pd, mapO, Option.map_some, PyData.eqv, PyData.eqvAll, Bool.and_true, List.any_cons, List.any_nil, Bool.or_false]
  congr 1
  simp only [ieq, ← Bool.decide_and, ← Bool.decide_or]
theorem inD_3 {x y a b c d e f : Int} : inD S (.tup [.int x, .int y]) (.tup [.tup [.int a, .int b], .tup [.int c, .int d], .tup [.int e, .int f]]) = some (decide ((a = x ∧ b = y) ∨ (c = x ∧ d = y) ∨ (e = x ∧ f = y))) := by
  simp only [inD, pd, mapO, Option.map_some, PyData.eqv, PyData.eqvAll, Bool.and_true, List.any_cons, List.any_nil, Bool.or_false]
  congr 1
  simp only [ieq, ← Bool.decide_and, ← Bool.decide_or]
theorem o_in2 {x y a b c d : Int} : (cmpD .isIn (.tup [.int x, .int y]) (.tup [.tup [.int a, .int b], .tup [.int c, .int d]]) S).lft k h = k (.bl (decide ((a = x ∧ b = y) ∨ (c = x ∧ d = y)))) S := o_inG inD_2
theorem o_in3 {x y a b c d e f : Int} : (cmpD .isIn (.tup [.int x, .int y]) (.tup [.tup [.int a, .int b], .tup [.int c, .int d], .tup [.int e, .int f]]) S).lft k h = k (.bl (decide ((a = x ∧ b = y) ∨ (c = x ∧ d = y) ∨ (e = x ∧ f = y)))) S := o_inG inD_3
theorem o_eq {i j : Int} : (cmpD .eq (.int i) (.int j) S).lft k h = k (.bl (decide (i = j))) S := o_eqG eqD_int
theorem o_ne {i j : Int} : (cmpD .ne (.int i) (.int j) S).lft k h = k (.bl (!decide (i = j))) S := o_neG eqD_int
theorem o_eqB {i j : Bool} : (cmpD .eq (.bl i) (.bl j) S).lft k h = k (.bl (i == j)) S := o_eqG eqD_bl
theorem o_neB {i j : Bool} : (cmpD .ne (.bl i) (.bl j) S).lft k h = k (.bl (!(i == j))) S := o_neG eqD_bl
theorem o_isB {d : D} {b : Bool} : (cmpD .is_ d (.bl b) S).lft k h = k (.bl (match d with | .bl c => b == c | _ => false)) S := nrf rfl
theorem o_isNotB {d : D} {b : Bool} : (cmpD .isNot d (.bl b) S).lft k h = k (.bl (!(match d with | .bl c => b == c | _ => false))) S := nrf rfl
theorem o_isN {d : D} : (cmpD .is_ d .non S).lft k h = k (.bl (match d with | .non => true | _ => false)) S := nrf (by cases d <;> rfl)
theorem o_isNotN {d : D} : (cmpD .isNot d .non S).lft k h = k (.bl (!(match d with | .non => true | _ => false))) S := nrf (by cases d <;> rfl)
theorem o_ix0 {a : D} {r : List D} : (ixD (.tup (a :: r)) (.int 0) S).lft k h = k a S := by
  have e : atI (a :: r) 0 = some a := by unfold atI ixN; simp
  simp only [ixD, e]; rfl
theorem o_ix1 {a b : D} {r : List D} : (ixD (.tup (a :: b :: r)) (.int 1) S).lft k h = k b S := by
  have e : atI (a :: b :: r) 1 = some b := by
    unfold atI ixN
    rw [if_pos (by decide), if_pos (by simp only [List.length_cons]; omega)]; rfl
  simp only [ixD, e]; rfl
theorem o_ix2 {a b c : D} {r : List D} : (ixD (.tup (a :: b :: c :: r)) (.int 2) S).lft k h = k c S := by
  have e : atI (a :: b :: c :: r) 2 = some c := by
    unfold atI ixN
    rw [if_pos (by decide), if_pos (by simp only [List.length_cons]; omega)]; rfl
  simp only [ixD, e]; rfl
theorem o_ixL {l : Nat} {i : Int} {o : Ob} {d : D} (h1 : S[l]? = some o) (h2 : atI (items o) i = some d) : (ixD (.ref l) (.int i) S).lft k h = k d S := by
  show ((getL l >>= fun xs => match atI xs i with | some d => pure d | none => die) S).lft k h = _
  rw [bind_lft]
  unfold getL
  rw [h1]
  show ((match atI (items o) i with | some d => (pure d : M D) | none => die) S).lft k h = _
  rw [h2]; rfl
theorem o_lenT {xs : List D} : (bltD .len [.tup xs] S).lft k h = k (.int xs.length) S := nrf rfl
theorem o_lenL {l : Nat} {o : Ob} (h1 : S[l]? = some o) : (bltD .len [.ref l] S).lft k h = k (.int (items o).length) S := by
  show ((getL l >>= fun xs => pure (.int xs.length)) S).lft k h = _
  rw [bind_lft]
  unfold getL
  rw [h1]; rfl
theorem o_abs {i : Int} : (bltD .abs [.int i] S).lft k h = k (.int (if i < 0 then -i else i)) S := nrf rfl
theorem o_intI {i : Int} : (bltD .int [.int i] S).lft k h = k (.int i) S := nrf rfl
theorem o_intB {b : Bool} : (bltD .int [.bl b] S).lft k h = k (.int (if b = true then 1 else 0)) S := nrf rfl
theorem o_isiII {i : Int} : (isiD .int (.int i) S).lft k h = k (.bl true) S := nrf rfl
theorem o_isiBB {b : Bool} : (isiD .bool (.bl b) S).lft k h = k (.bl true) S := nrf rfl
theorem o_isiTT {xs : List D} : (isiD .tuple (.tup xs) S).lft k h = k (.bl true) S := nrf rfl
theorem o_isiLL {l : Nat} {o : Ob} (h1 : S[l]? = some o) : (isiD .list (.ref l) S).lft k h = k (.bl true) S := by
  have e : isiD .list (.ref l) S = .ok (.bl true) S := by simp only [isiD, tyD, h1]; rfl
  rw [e]; rfl
end
theorem r_nil {k : List D → Store → R β} : (evEs C .nil en S).lft k h = k [] S := by rw [evEs]; rfl
theorem r_cons {e : E} {es : Es} {k : List D → Store → R β} : (evEs C (.cons e es) en S).lft k h = (evE C e en S).lft (fun x S => (evEs C es en S).lft (fun xs S => k (x :: xs) S) h) h := by
  rw [evEs, bind_lft]; congr; funext x S; rw [bind_lft]; rfl
theorem r_tru {b : Bool} {k : Bool → Store → R β} : (truD (.bl b) S).lft k h = k b S := nrf rfl
section
variable {k : Flow → Store → R β}
theorem lift_lft {α : Type} {m : M α} {f : α → M Flow} : (lift en m f S).lft k h = (m S).lft (fun a S => (f a S).lft k h) (fun c d S => k (.exc c d en) S) := by
  unfold lift
  cases m S <;> rfl
theorem x_set {i : Nat} {e : E} : (exS C (.set i e) en S).lft k h = (evE C e en S).lft (fun d S => setE en i d fun en => k (.nx en) S) (fun c d S => k (.exc c d en) S) := by
  rw [exS, lift_lft]; rfl
theorem x_expr {e : E} : (exS C (.expr e) en S).lft k h = (evE C e en S).lft (fun d S => k (.nx en) S) (fun c d S => k (.exc c d en) S) := by
  rw [exS, lift_lft]; rfl
theorem x_ret {e : E} : (exS C (.ret e) en S).lft k h = (evE C e en S).lft (fun d S => k (.ret d) S) (fun c d S => k (.exc c d en) S) := by
  rw [exS, lift_lft]; rfl
theorem x_unp {is : List Nat} {e : E} : (exS C (.unp is e) en S).lft k h = (evE C e en S).lft (fun d S => (unpD is.length d S).lft (fun ds S => setsE en is ds fun en => k (.nx en) S) (fun c d S => k (.exc c d en) S)) (fun c d S => k (.exc c d en) S) := by
  rw [exS, lift_lft, bind_lft]; rfl
theorem unpT {xs : List D} {n : Nat} {k : List D → Store → R β} (hl : xs.length = n) : (unpD n (.tup xs) S).lft k h = k xs S := by
  have e : unpD n (.tup xs) = pure xs := if_pos hl
  rw [e]; rfl
theorem unpL {l n : Nat} {o : Ob} {k : List D → Store → R β} (h1 : S[l]? = some o) (hl : (items o).length = n) : (unpD n (.ref l) S).lft k h = k (items o) S := by
  show ((getL l >>= fun xs => if xs.length = n then pure xs else die) S).lft k h = _
  rw [bind_lft]
  unfold getL
  rw [h1]
  show ((if (items o).length = n then (pure (items o) : M (List D)) else die) S).lft k h = _
  rw [if_pos hl]; rfl
theorem x_if {c : E} {a b : Sts} : (exS C (.ifs c a b) en S).lft k h = (evE C c en S).lft (fun x S => (truD x S).lft (fun t S => if t = true then (exB C a en S).lft k h else (exB C b en S).lft k h) (fun c d S => k (.exc c d en) S)) (fun c d S => k (.exc c d en) S) := by
  rw [exS, lift_lft, bind_lft]; congr; funext x S; congr; funext t S; cases t <;> rfl
theorem x_brk : (exS C .brk en S).lft k h = k (.brk en) S := by rw [exS]; rfl
theorem x_cnt : (exS C .cnt en S).lft k h = k (.cnt en) S := by rw [exS]; rfl
theorem x_pass : (exS C .pass en S).lft k h = k (.nx en) S := by rw [exS]; rfl
theorem x_nil : (exB C .nil en S).lft k h = k (.nx en) S := by rw [exB]; rfl
theorem x_cons {s : St} {r : Sts} : (exB C (.cons s r) en S).lft k h = (exS C s en S).lft (seqK C r k h) h := by
  rw [exB, bind_lft]; congr; funext f S; cases f <;> rfl
theorem s_nx {r : Sts} {en : Env} : seqK C r k h (.nx en) S = (exB C r en S).lft k h := nrf rfl
theorem s_rt {r : Sts} {d : D} : seqK C r k h (.ret d) S = k (.ret d) S := nrf rfl
theorem s_bk {r : Sts} {en : Env} : seqK C r k h (.brk en) S = k (.brk en) S := nrf rfl
theorem s_ct {r : Sts} {en : Env} : seqK C r k h (.cnt en) S = k (.cnt en) S := nrf rfl
theorem s_xc {r : Sts} {c : Str} {d : Option Nat} {en : Env} : seqK C r k h (.exc c d en) S = k (.exc c d en) S := nrf rfl
/-! loops -/
noncomputable def forK {β : Type} (ck : M Unit) (bnd : D → Env → M Env) (b : Env → M Flow) (xs : List D) (k : Flow → Store → R β) (h : Str → Option Nat → Store → R β) : Flow → Store → R β := fun f S => match f with
  | .nx en' => (forL ck bnd b xs en' S).lft k h
  | .cnt en' => (forL ck bnd b xs en' S).lft k h
  | .brk en' => k (.nx en') S
  | f => k f S
theorem x_for {tg : Tg} {it : It} {b : Sts} : (exS C (.for_ tg it b) en S).lft k h = (evIt C it en S).lft (fun p S => (forL (ckD p.2) (fun d en' => bindT tg d en') (fun en' => exB C b en') p.1 en S).lft k h) (fun c d S => k (.exc c d en) S) := by
  rw [exS, lift_lft]
theorem f_nil {ck : M Unit} {bnd : D → Env → M Env} {b : Env → M Flow} : (forL ck bnd b [] en S).lft k h = (ck S).lft (fun _ S => k (.nx en) S) (fun c d S => k (.exc c d en) S) := by
  rw [forL, lift_lft]; rfl
theorem f_cons {ck : M Unit} {bnd : D → Env → M Env} {b : Env → M Flow} {x : D} {xs : List D} : (forL ck bnd b (x :: xs) en S).lft k h = (ck S).lft (fun _ S => (bnd x en S).lft (fun en1 S => (b en1 S).lft (forK ck bnd b xs k h) h) (fun c d S => k (.exc c d en) S)) (fun c d S => k (.exc c d en) S) := by
  rw [forL, lift_lft, bind_lft]; congr; funext _ S; congr; funext en1 S; rw [bind_lft]; congr; funext f S; cases f <;> rfl
theorem k_nx {ck : M Unit} {bnd : D → Env → M Env} {b : Env → M Flow} {xs : List D} : forK ck bnd b xs k h (.nx en) S = (forL ck bnd b xs en S).lft k h := nrf rfl
theorem k_ct {ck : M Unit} {bnd : D → Env → M Env} {b : Env → M Flow} {xs : List D} : forK ck bnd b xs k h (.cnt en) S = (forL ck bnd b xs en S).lft k h := nrf rfl
theorem k_bk {ck : M Unit} {bnd : D → Env → M Env} {b : Env → M Flow} {xs : List D} : forK ck bnd b xs k h (.brk en) S = k (.nx en) S := nrf rfl
theorem k_rt {ck : M Unit} {bnd : D → Env → M Env} {b : Env → M Flow} {xs : List D} {d : D} : forK ck bnd b xs k h (.ret d) S = k (.ret d) S := nrf rfl
theorem k_xc {ck : M Unit} {bnd : D → Env → M Env} {b : Env → M Flow} {xs : List D} {c : Str} {d : Option Nat} : forK ck bnd b xs k h (.exc c d en) S = k (.exc c d en) S := nrf rfl
end
section
variable {k : Env → Store → R β}
theorem b_nm {i : Nat} {d : D} : (bindT (.nm i) d en S).lft k h = setE en i d fun en => k en S := nrf rfl
theorem b_tp {is : List Nat} {d : D} : (bindT (.tp is) d en S).lft k h = (unpD is.length d S).lft (fun ds S => setsE en is ds fun en => k en S) h := by
  show ((unpD is.length d >>= fun ds => pure (setAll en is ds)) S).lft k h = _
  rw [bind_lft]; rfl
end
section
variable {k : Unit → Store → R β}
theorem ck_n : (ckD none S).lft k h = k () S := nrf rfl
theorem ck_s {l : Nat} {o : Ob} (h1 : S[l]? = some o) : (ckD (some (l, o)) S).lft k h = k () S := by simp only [ckD, if_pos h1]; rfl
end
section
variable {k : (List D × Option (Nat × Ob)) → Store → R β}
theorem i_val_ {e : E} : (evIt C (.val e) en S).lft k h = (evE C e en S).lft (fun d S => (iterD d S).lft k h) h := by rw [evIt, bind_lft]
theorem i_T {xs : List D} : (iterD (.tup xs) S).lft k h = k (xs, none) S := nrf rfl
theorem i_L {l : Nat} {o : Ob} (h1 : S[l]? = some o) : (iterD (.ref l) S).lft k h = k (items o, some (l, o)) S := by
  have e : iterD (.ref l) S = .ok (items o, some (l, o)) S := by
    show (match S[l]? with | some o => (R.ok (items o, some (l, o)) S : R (List D × Option (Nat × Ob))) | none => .stuck) = _
    rw [h1]
  rw [e]; rfl
theorem i_rng1_ {b : E} : (evIt C (.rng1 b) en S).lft k h = (evE C b en S).lft (fun y S => (rngD (.int 0) y S).lft (fun xs S => k (xs, none) S) h) h := by
  rw [evIt, bind_lft]; congr; funext y S; rw [bind_lft]; rfl
theorem i_rng2_ {a b : E} : (evIt C (.rng2 a b) en S).lft k h = (evE C a en S).lft (fun x S => (evE C b en S).lft (fun y S => (rngD x y S).lft (fun xs S => k (xs, none) S) h) h) h := by
  rw [evIt, bind_lft]; congr; funext x S; rw [bind_lft]; congr; funext y S; rw [bind_lft]; rfl
theorem o_rng {a b : Int} {k : List D → Store → R β} (h1 : -(2 ^ 62) ≤ a ∧ a < 2 ^ 62 ∧ -(2 ^ 62) ≤ b ∧ b < 2 ^ 62) : (rngD (.int a) (.int b) S).lft k h = k ((List.range (b - a).toNat).map fun k => .int (a + (k : Nat))) S := by
  have e : rngD (.int a) (.int b) = pure ((List.range (b - a).toNat).map fun k => .int (a + (k : Nat))) := if_pos h1
  rw [e]; rfl
end
end
/-! ### defs -/
theorem run_eq {C : Nat → List D → M D} {f : Fn} {ds : List D} {S : Store} (h : ds.length = f.np) : runF C f ds S = (exB C f.body (ds.map some ++ List.replicate (f.nv - f.np) none) S).lft retK (fun _ _ _ => .stuck) := by
  unfold runF
  rw [if_pos h]
  cases exB C f.body (ds.map some ++ List.replicate (f.nv - f.np) none) S with
  | ok fl S => cases fl <;> rfl
  | exc c d S => rfl
  | stuck => rfl
theorem call_eq {T : Nat → Option Fn} {n i : Nat} {fn : Fn} {ds : List D} (h : n ≠ 0) (hT : T i = some fn) : callT T n i ds = runF (callT T (n - 1)) fn ds := by
  cases n with
  | zero => exact absurd rfl h
  | succ n =>
    show (match T i with | some fn => runF (callT T n) fn ds | none => die) = _
    rw [hT]; rfl
theorem rt_ret {d : D} {S : Store} : retK (.ret d) S = .ok d S := nrf rfl
theorem rt_nx {en : Env} {S : Store} : retK (.nx en) S = .ok .non S := nrf rfl
theorem rt_xc {c : Str} {d : Option Nat} {en : Env} {S : Store} : retK (.exc c d en) S = .exc c d S := nrf rfl
/-! ### sizes -/
class Sz (n : outParam Nat) (i : Int) : Prop where
  lt : i.natAbs < 2 ^ n
theorem Sz.up {n m : Nat} {i : Int} (h : Sz n i) (l : n ≤ m) : Sz m i := ⟨Nat.lt_of_lt_of_le h.lt (Nat.pow_le_pow_right (by decide) l)⟩
theorem natAbs_add_lt {a b : Int} {n m : Nat} (h1 : a.natAbs < 2 ^ n) (h2 : b.natAbs < 2 ^ m) : (a + b).natAbs < 2 ^ (n + m + 1) := by
  have e : (a + b).natAbs ≤ a.natAbs + b.natAbs := Int.natAbs_add_le a b
  have p : 2 ^ (n + m + 1) = 2 * (2 ^ n * 2 ^ m) := by rw [Nat.pow_succ, Nat.pow_add]; omega
  have q1 : 2 ^ n ≤ 2 ^ n * 2 ^ m := Nat.le_mul_of_pos_right _ (Nat.pow_pos (by decide))
  have q2 : 2 ^ m ≤ 2 ^ n * 2 ^ m := Nat.le_mul_of_pos_left _ (Nat.pow_pos (by decide))
  omega
instance sz_add {n m : Nat} {i j : Int} [a : Sz n i] [b : Sz m j] : Sz (n + m + 1) (i + j) := ⟨natAbs_add_lt a.lt b.lt⟩
instance sz_sub {n m : Nat} {i j : Int} [a : Sz n i] [b : Sz m j] : Sz (n + m + 1) (i - j) := ⟨by rw [Int.sub_eq_add_neg]; exact natAbs_add_lt a.lt (by rw [Int.natAbs_neg]; exact b.lt)⟩
instance sz_neg {n : Nat} {i : Int} [a : Sz n i] : Sz n (-i) := ⟨by rw [Int.natAbs_neg]; exact a.lt⟩
instance sz_mul {n m : Nat} {i j : Int} [a : Sz n i] [b : Sz m j] : Sz (n + m) (i * j) := ⟨by
  rw [Int.natAbs_mul, Nat.pow_add]
  exact Nat.mul_lt_mul_of_lt_of_lt a.lt b.lt⟩
instance sz_0 : Sz 1 0 := ⟨by decide⟩
instance sz_1 : Sz 1 1 := ⟨by decide⟩
instance sz_2 : Sz 2 2 := ⟨by decide⟩
theorem mulOk {n m : Nat} {i j : Int} [a : Sz n i] [b : Sz m j] (h : n + m ≤ 130000000) : MulOk i j := ⟨n, m, a.lt, b.lt, h⟩
theorem o_mul {β : Type} {S : Store} {k : D → Store → R β} {h : Str → Option Nat → Store → R β} {n m : Nat} {i j : Int} [a : Sz n i] [b : Sz m j] (hh : n + m ≤ 130000000) : (binD .mul (.int i) (.int j) S).lft k h = k (.int (i * j)) S := o_mul0 (mulOk hh)
end NL

/-! Numerals, rests, powers (printed by gen22.py). -/
namespace NL
open PySem PySem.Spec PyProof.Rows L2
class Pz (j : Int) : Prop where
  pos : 0 < j
instance sz_emod {n : Nat} {i j : Int} [a : Sz n j] [p : Pz j] : Sz n (i % j) := ⟨by
  have h1 := Int.emod_nonneg i (Int.ne_of_gt p.pos)
  have h2 := Int.emod_lt_of_pos i p.pos
  have h3 := a.lt
  omega⟩
instance pz_tp {j : Int} [p : Pz j] : Pz (2 * j + 1) := ⟨by have := p.pos; omega⟩
instance pz_tm {j : Int} [p : Pz j] : Pz (2 * j - 1) := ⟨by have := p.pos; omega⟩
theorem sl {n : Nat} (h : n ≤ 1000) : (n ≤ sizeLine) = True := eq_true (Nat.le_of_lt (small1000 h))
instance pz_n1 : Pz 1 := ⟨by decide⟩
instance pz_n2 : Pz 2 := ⟨by decide⟩
instance pz_n3 : Pz 3 := ⟨by decide⟩
instance pz_n4 : Pz 4 := ⟨by decide⟩
instance pz_n5 : Pz 5 := ⟨by decide⟩
instance pz_n6 : Pz 6 := ⟨by decide⟩
instance pz_n7 : Pz 7 := ⟨by decide⟩
instance pz_n8 : Pz 8 := ⟨by decide⟩
instance pz_n9 : Pz 9 := ⟨by decide⟩
instance pz_n10 : Pz 10 := ⟨by decide⟩
instance pz_n11 : Pz 11 := ⟨by decide⟩
instance pz_n12 : Pz 12 := ⟨by decide⟩
instance pz_n13 : Pz 13 := ⟨by decide⟩
instance pz_n14 : Pz 14 := ⟨by decide⟩
instance pz_n15 : Pz 15 := ⟨by decide⟩
instance pz_n16 : Pz 16 := ⟨by decide⟩
instance pz_n17 : Pz 17 := ⟨by decide⟩
instance pz_n18 : Pz 18 := ⟨by decide⟩
instance pz_n19 : Pz 19 := ⟨by decide⟩
instance pz_n20 : Pz 20 := ⟨by decide⟩
instance pz_n21 : Pz 21 := ⟨by decide⟩
instance pz_n22 : Pz 22 := ⟨by decide⟩
instance pz_n23 : Pz 23 := ⟨by decide⟩
instance pz_n24 : Pz 24 := ⟨by decide⟩
instance pz_n25 : Pz 25 := ⟨by decide⟩
instance pz_n26 : Pz 26 := ⟨by decide⟩
instance pz_n27 : Pz 27 := ⟨by decide⟩
instance pz_n28 : Pz 28 := ⟨by decide⟩
instance pz_n29 : Pz 29 := ⟨by decide⟩
instance pz_n30 : Pz 30 := ⟨by decide⟩
instance pz_n31 : Pz 31 := ⟨by decide⟩
instance pz_n32 : Pz 32 := ⟨by decide⟩
instance pz_n33 : Pz 33 := ⟨by decide⟩
instance pz_n34 : Pz 34 := ⟨by decide⟩
instance pz_n35 : Pz 35 := ⟨by decide⟩
instance pz_n36 : Pz 36 := ⟨by decide⟩
instance pz_n37 : Pz 37 := ⟨by decide⟩
instance pz_n38 : Pz 38 := ⟨by decide⟩
instance pz_n39 : Pz 39 := ⟨by decide⟩
instance pz_n40 : Pz 40 := ⟨by decide⟩
instance pz_n41 : Pz 41 := ⟨by decide⟩
instance pz_n42 : Pz 42 := ⟨by decide⟩
instance pz_n43 : Pz 43 := ⟨by decide⟩
instance pz_n44 : Pz 44 := ⟨by decide⟩
instance pz_n45 : Pz 45 := ⟨by decide⟩
instance pz_n46 : Pz 46 := ⟨by decide⟩
instance pz_n47 : Pz 47 := ⟨by decide⟩
instance pz_n48 : Pz 48 := ⟨by decide⟩
instance pz_n49 : Pz 49 := ⟨by decide⟩
instance pz_n50 : Pz 50 := ⟨by decide⟩
instance pz_n51 : Pz 51 := ⟨by decide⟩
instance pz_n52 : Pz 52 := ⟨by decide⟩
instance pz_n53 : Pz 53 := ⟨by decide⟩
instance pz_n54 : Pz 54 := ⟨by decide⟩
instance pz_n55 : Pz 55 := ⟨by decide⟩
instance pz_n56 : Pz 56 := ⟨by decide⟩
instance pz_n57 : Pz 57 := ⟨by decide⟩
instance pz_n58 : Pz 58 := ⟨by decide⟩
instance pz_n59 : Pz 59 := ⟨by decide⟩
instance pz_n60 : Pz 60 := ⟨by decide⟩
instance pz_n61 : Pz 61 := ⟨by decide⟩
instance pz_n62 : Pz 62 := ⟨by decide⟩
instance pz_n63 : Pz 63 := ⟨by decide⟩
instance pz_n1000 : Pz 1000 := ⟨by decide⟩
instance pz_n2001 : Pz 2001 := ⟨by decide⟩
instance sz_n3 : Sz 6 3 := ⟨by decide⟩
instance sz_n4 : Sz 6 4 := ⟨by decide⟩
instance sz_n5 : Sz 6 5 := ⟨by decide⟩
instance sz_n6 : Sz 6 6 := ⟨by decide⟩
instance sz_n7 : Sz 6 7 := ⟨by decide⟩
instance sz_n8 : Sz 6 8 := ⟨by decide⟩
instance sz_n9 : Sz 6 9 := ⟨by decide⟩
instance sz_n10 : Sz 6 10 := ⟨by decide⟩
instance sz_n11 : Sz 6 11 := ⟨by decide⟩
instance sz_n12 : Sz 6 12 := ⟨by decide⟩
instance sz_n13 : Sz 6 13 := ⟨by decide⟩
instance sz_n14 : Sz 6 14 := ⟨by decide⟩
instance sz_n15 : Sz 6 15 := ⟨by decide⟩
instance sz_n16 : Sz 6 16 := ⟨by decide⟩
instance sz_n17 : Sz 6 17 := ⟨by decide⟩
instance sz_n18 : Sz 6 18 := ⟨by decide⟩
instance sz_n19 : Sz 6 19 := ⟨by decide⟩
instance sz_n20 : Sz 6 20 := ⟨by decide⟩
instance sz_n21 : Sz 6 21 := ⟨by decide⟩
instance sz_n22 : Sz 6 22 := ⟨by decide⟩
instance sz_n23 : Sz 6 23 := ⟨by decide⟩
instance sz_n24 : Sz 6 24 := ⟨by decide⟩
instance sz_n25 : Sz 6 25 := ⟨by decide⟩
instance sz_n26 : Sz 6 26 := ⟨by decide⟩
instance sz_n27 : Sz 6 27 := ⟨by decide⟩
instance sz_n28 : Sz 6 28 := ⟨by decide⟩
instance sz_n29 : Sz 6 29 := ⟨by decide⟩
instance sz_n30 : Sz 6 30 := ⟨by decide⟩
instance sz_n31 : Sz 6 31 := ⟨by decide⟩
instance sz_n32 : Sz 6 32 := ⟨by decide⟩
instance sz_n33 : Sz 6 33 := ⟨by decide⟩
instance sz_n34 : Sz 6 34 := ⟨by decide⟩
instance sz_n35 : Sz 6 35 := ⟨by decide⟩
instance sz_n36 : Sz 6 36 := ⟨by decide⟩
instance sz_n37 : Sz 6 37 := ⟨by decide⟩
instance sz_n38 : Sz 6 38 := ⟨by decide⟩
instance sz_n39 : Sz 6 39 := ⟨by decide⟩
instance sz_n40 : Sz 6 40 := ⟨by decide⟩
instance sz_n41 : Sz 6 41 := ⟨by decide⟩
instance sz_n42 : Sz 6 42 := ⟨by decide⟩
instance sz_n43 : Sz 6 43 := ⟨by decide⟩
instance sz_n44 : Sz 6 44 := ⟨by decide⟩
instance sz_n45 : Sz 6 45 := ⟨by decide⟩
instance sz_n46 : Sz 6 46 := ⟨by decide⟩
instance sz_n47 : Sz 6 47 := ⟨by decide⟩
instance sz_n48 : Sz 6 48 := ⟨by decide⟩
instance sz_n49 : Sz 6 49 := ⟨by decide⟩
instance sz_n50 : Sz 6 50 := ⟨by decide⟩
instance sz_n51 : Sz 6 51 := ⟨by decide⟩
instance sz_n52 : Sz 6 52 := ⟨by decide⟩
instance sz_n53 : Sz 6 53 := ⟨by decide⟩
instance sz_n54 : Sz 6 54 := ⟨by decide⟩
instance sz_n55 : Sz 6 55 := ⟨by decide⟩
instance sz_n56 : Sz 6 56 := ⟨by decide⟩
instance sz_n57 : Sz 6 57 := ⟨by decide⟩
instance sz_n58 : Sz 6 58 := ⟨by decide⟩
instance sz_n59 : Sz 6 59 := ⟨by decide⟩
instance sz_n60 : Sz 6 60 := ⟨by decide⟩
instance sz_n61 : Sz 6 61 := ⟨by decide⟩
instance sz_n62 : Sz 6 62 := ⟨by decide⟩
instance sz_n63 : Sz 6 63 := ⟨by decide⟩
instance sz_n1000 : Sz 11 1000 := ⟨by decide⟩
instance sz_n2001 : Sz 11 2001 := ⟨by decide⟩
@[irreducible] def P10 : Int := 10000000000
theorem P10_eq : P10 = 10000000000 := by unfold P10; rfl
instance pz_p10 : Pz P10 := ⟨by rw [P10_eq]; decide⟩
instance sz_p10 : Sz 34 P10 := ⟨by rw [P10_eq]; decide⟩
@[irreducible] def P20 : Int := 100000000000000000000
theorem P20_eq : P20 = 100000000000000000000 := by unfold P20; rfl
instance pz_p20 : Pz P20 := ⟨by rw [P20_eq]; decide⟩
instance sz_p20 : Sz 67 P20 := ⟨by rw [P20_eq]; decide⟩
@[irreducible] def P30 : Int := 1000000000000000000000000000000
theorem P30_eq : P30 = 1000000000000000000000000000000 := by unfold P30; rfl
instance pz_p30 : Pz P30 := ⟨by rw [P30_eq]; decide⟩
instance sz_p30 : Sz 100 P30 := ⟨by rw [P30_eq]; decide⟩
@[irreducible] def P38 : Int := 100000000000000000000000000000000000000
theorem P38_eq : P38 = 100000000000000000000000000000000000000 := by unfold P38; rfl
instance pz_p38 : Pz P38 := ⟨by rw [P38_eq]; decide⟩
instance sz_p38 : Sz 127 P38 := ⟨by rw [P38_eq]; decide⟩
@[irreducible] def P39 : Int := 1000000000000000000000000000000000000000
theorem P39_eq : P39 = 1000000000000000000000000000000000000000 := by unfold P39; rfl
instance pz_p39 : Pz P39 := ⟨by rw [P39_eq]; decide⟩
instance sz_p39 : Sz 130 P39 := ⟨by rw [P39_eq]; decide⟩
@[irreducible] def P40 : Int := 10000000000000000000000000000000000000000
theorem P40_eq : P40 = 10000000000000000000000000000000000000000 := by unfold P40; rfl
instance pz_p40 : Pz P40 := ⟨by rw [P40_eq]; decide⟩
instance sz_p40 : Sz 133 P40 := ⟨by rw [P40_eq]; decide⟩
@[irreducible] def P59 : Int := 100000000000000000000000000000000000000000000000000000000000
theorem P59_eq : P59 = 100000000000000000000000000000000000000000000000000000000000 := by unfold P59; rfl
instance pz_p59 : Pz P59 := ⟨by rw [P59_eq]; decide⟩
instance sz_p59 : Sz 196 P59 := ⟨by rw [P59_eq]; decide⟩
@[irreducible] def P60 : Int := 1000000000000000000000000000000000000000000000000000000000000
theorem P60_eq : P60 = 1000000000000000000000000000000000000000000000000000000000000 := by unfold P60; rfl
instance pz_p60 : Pz P60 := ⟨by rw [P60_eq]; decide⟩
instance sz_p60 : Sz 200 P60 := ⟨by rw [P60_eq]; decide⟩
@[irreducible] def P240 : Int := 1000000000000000000000000000000000000000000000000000000000000000000000000000000000000000000000000000000000000000000000000000000000000000000000000000000000000000000000000000000000000000000000000000000000000000000000000000000000000000000000000
theorem P240_eq : P240 = 1000000000000000000000000000000000000000000000000000000000000000000000000000000000000000000000000000000000000000000000000000000000000000000000000000000000000000000000000000000000000000000000000000000000000000000000000000000000000000000000000 := by unfold P240; rfl
instance pz_p240 : Pz P240 := ⟨by rw [P240_eq]; decide +kernel⟩
instance sz_p240 : Sz 798 P240 := ⟨by rw [P240_eq]; decide +kernel⟩
instance pz_1 {i j : Int} [p : Pz j] : Pz (1 + i % j) := ⟨by have := Int.emod_nonneg i (Int.ne_of_gt p.pos); omega⟩
instance pz_mul {i j : Int} [p : Pz i] [q : Pz j] : Pz (i * j) := ⟨Int.mul_pos p.pos q.pos⟩
section
variable {β : Type} {S : Store} {k : D → Store → R β} {h : Str → Option Nat → Store → R β}
theorem o_p10 : (binD .pow (.int 10) (.int 10) S).lft k h = k (.int P10) S := (o_pow ⟨by decide, by decide +kernel⟩).trans (by rw [show ((10 : Int) ^ (10 : Int).toNat) = P10 by rw [P10_eq]; decide +kernel])
theorem o_p20 : (binD .pow (.int 10) (.int 20) S).lft k h = k (.int P20) S := (o_pow ⟨by decide, by decide +kernel⟩).trans (by rw [show ((10 : Int) ^ (20 : Int).toNat) = P20 by rw [P20_eq]; decide +kernel])
theorem o_p30 : (binD .pow (.int 10) (.int 30) S).lft k h = k (.int P30) S := (o_pow ⟨by decide, by decide +kernel⟩).trans (by rw [show ((10 : Int) ^ (30 : Int).toNat) = P30 by rw [P30_eq]; decide +kernel])
theorem o_p38 : (binD .pow (.int 10) (.int 38) S).lft k h = k (.int P38) S := (o_pow ⟨by decide, by decide +kernel⟩).trans (by rw [show ((10 : Int) ^ (38 : Int).toNat) = P38 by rw [P38_eq]; decide +kernel])
theorem o_p39 : (binD .pow (.int 10) (.int 39) S).lft k h = k (.int P39) S := (o_pow ⟨by decide, by decide +kernel⟩).trans (by rw [show ((10 : Int) ^ (39 : Int).toNat) = P39 by rw [P39_eq]; decide +kernel])
theorem o_p40 : (binD .pow (.int 10) (.int 40) S).lft k h = k (.int P40) S := (o_pow ⟨by decide, by decide +kernel⟩).trans (by rw [show ((10 : Int) ^ (40 : Int).toNat) = P40 by rw [P40_eq]; decide +kernel])
theorem o_p59 : (binD .pow (.int 10) (.int 59) S).lft k h = k (.int P59) S := (o_pow ⟨by decide, by decide +kernel⟩).trans (by rw [show ((10 : Int) ^ (59 : Int).toNat) = P59 by rw [P59_eq]; decide +kernel])
theorem o_p60 : (binD .pow (.int 10) (.int 60) S).lft k h = k (.int P60) S := (o_pow ⟨by decide, by decide +kernel⟩).trans (by rw [show ((10 : Int) ^ (60 : Int).toNat) = P60 by rw [P60_eq]; decide +kernel])
theorem o_pq : (binD .pow (.int P60) (.int 4) S).lft k h = k (.int P240) S := by
  rw [P60_eq]
  exact (o_pow ⟨by decide, by decide +kernel⟩).trans (by rw [show ((1000000000000000000000000000000000000000000000000000000000000 : Int) ^ (4 : Int).toNat) = P240 by rw [P240_eq]; decide +kernel])
theorem o_modP {i j : Int} [p : Pz j] : (binD .mod (.int i) (.int j) S).lft k h = k (.int (i % j)) S := (o_mod (Int.ne_of_gt p.pos)).trans (by rw [Int.fmod_eq_emod_of_nonneg _ (Int.le_of_lt p.pos)])
theorem o_fdivP {n : Nat} {i j : Int} [s : Sz n j] [p : Pz j] (hj : n ≤ 9000) : (binD .fdiv (.int i) (.int j) S).lft k h = k (.int (i / j)) S := (o_fdiv ⟨Int.ne_of_gt p.pos, by
  have hp := p.pos
  have h0 : 0 < j.natAbs := by omega
  have l : j.natAbs.log2 < n := (Nat.log2_lt (by omega)).mpr s.lt
  omega⟩).trans (by rw [Int.fdiv_eq_ediv_of_nonneg _ (Int.le_of_lt p.pos)])
theorem o_unp2 {i j : Nat} {x y : D} {k : List D → Store → R β} : (unpD (List.length [i, j]) (.tup [x, y]) S).lft k h = k [x, y] S := unpT rfl
theorem o_unp3 {i j l : Nat} {x y z : D} {k : List D → Store → R β} : (unpD (List.length [i, j, l]) (.tup [x, y, z]) S).lft k h = k [x, y, z] S := unpT rfl
theorem o_unp4 {i j l m : Nat} {x y z w : D} {k : List D → Store → R β} : (unpD (List.length [i, j, l, m]) (.tup [x, y, z, w]) S).lft k h = k [x, y, z, w] S := unpT rfl
end
/-- the cell of a script, 0 behind its end -/
def nth (ns : List Int) (k : Int) : Int := ns.getD k.toNat 0
def sg (x : Int) : Int := if 0 < x then 1 else if x < 0 then -1 else 0
def Scr (ns : List Int) (S : Store) : Prop := S[0]? = some (.frz (ns.map D.int))
theorem Scr.app {ns : List Int} {S T : Store} (h : Scr ns S) : Scr ns (S ++ T) := by
  unfold Scr at h ⊢
  rw [List.getElem?_append_left (List.getElem?_eq_some_iff.mp h).1]
  exact h
theorem at_map {ns : List Int} {k : Int} (h0 : 0 ≤ k) (h1 : k < ns.length) : atI (ns.map D.int) k = some (.int (nth ns k)) := by
  unfold atI ixN nth
  rw [if_pos h0, if_pos (by simpa using h1)]
  have h2 : k.toNat < ns.length := by omega
  simp [h2]
instance sz_sg {x : Int} : Sz 1 (sg x) := ⟨by unfold sg; split; decide; split <;> decide⟩
end NL

/-! Loops and stores on symbols. -/
namespace NL
open PySem PySem.Spec PyProof.Rows L2
section
variable {β : Type} {S : Store} {C : Nat → List D → M D} {en : Env} {h : Str → Option Nat → Store → R β}
noncomputable def appK (C : Nat → List D → M D) (e : E) (en : Env) (k : Flow → Store → R β) (S : Store) (d : D) : R β := match d with
  | .ref l => (getM l S).lft (fun _ S => (evE C e en S).lft (fun d S => (pushD l d S).lft (fun _ S => k (.nx en) S) (fun c d S => k (.exc c d en) S)) (fun c d S => k (.exc c d en) S)) (fun c d S => k (.exc c d en) S)
  | _ => .stuck
theorem x_app {k : Flow → Store → R β} {i : Nat} {e : E} : (exS C (.app i e) en S).lft k h = getE en i fun d => appK C e en k S d := by
  rw [exS]
  unfold getE
  cases en[i]? with
  | none => rfl
  | some o =>
    cases o with
    | none => rfl
    | some d =>
      cases d <;> try rfl
      show ((lift en (getM _ >>= fun _ => evE C e en) fun d => lift en (pushD _ d) fun _ => pure (.nx en)) S).lft k h = _
      rw [lift_lft, bind_lft]
      show _ = (getM _ S).lft _ _
      congr; funext _ S; congr; funext d S; rw [lift_lft]; rfl
theorem app_ref {k : Flow → Store → R β} {e : E} {l : Nat} : appK C e en k S (.ref l) = (getM l S).lft (fun _ S => (evE C e en S).lft (fun d S => (pushD l d S).lft (fun _ S => k (.nx en) S) (fun c d S => k (.exc c d en) S)) (fun c d S => k (.exc c d en) S)) (fun c d S => k (.exc c d en) S) := nrf rfl
theorem get_mid {A U : Store} {o : Ob} : (A ++ o :: U)[A.length]? = some o := by simp
theorem set_mid {A U : Store} {o o' : Ob} : (A ++ o :: U).set A.length o' = A ++ o' :: U := by simp
theorem getM_mid {A U : Store} {xs : List D} {k : List D → Store → R β} : (getM A.length (A ++ .lst xs :: U)).lft k h = k xs (A ++ .lst xs :: U) := by
  unfold getM; rw [get_mid]; rfl
theorem push_mid {A U : Store} {xs : List D} {d : D} {k : Unit → Store → R β} (hl : xs.length < sizeLine) : (pushD A.length d (A ++ .lst xs :: U)).lft k h = k () (A ++ .lst (xs ++ [d]) :: U) := by
  unfold pushD; rw [get_mid]
  show R.lft (if xs.length < sizeLine then _ else _) k h = _
  rw [if_pos hl, set_mid]; rfl
theorem iL_end {xs : List D} {k : (List D × Option (Nat × Ob)) → Store → R β} : (iterD (.ref S.length) (S ++ [.lst xs])).lft k h = k (xs, some (S.length, .lst xs)) (S ++ [.lst xs]) := i_L (o := .lst xs) (by simp)
theorem ck_end {o : Ob} {k : Unit → Store → R β} : (ckD (some (S.length, o)) (S ++ [o])).lft k h = k () (S ++ [o]) := ck_s (by simp)
/-! while -/
noncomputable def whK (c : Env → M Bool) (b : Env → M Flow) (n : Nat) (k : Flow → Store → R β) (h : Str → Option Nat → Store → R β) : Flow → Store → R β := fun f S => match f with
  | .nx en' => (whlL c b n en' S).lft k h
  | .cnt en' => (whlL c b n en' S).lft k h
  | .brk en' => k (.nx en') S
  | f => k f S
theorem x_whl {k : Flow → Store → R β} {c : E} {b : Sts} : (exS C (.whl c b) en S).lft k h = (whlL (fun en' => evE C c en' >>= truD) (fun en' => exB C b en') fuel en S).lft k h := by rw [exS]
theorem w_succ {k : Flow → Store → R β} {c : E} {b : Env → M Flow} {n : Nat} : (whlL (fun en' => evE C c en' >>= truD) b (n + 1) en S).lft k h = (evE C c en S).lft (fun x S => (truD x S).lft (fun t S => if t = true then (b en S).lft (whK (fun en' => evE C c en' >>= truD) b n k h) h else k (.nx en) S) (fun c d S => k (.exc c d en) S)) (fun c d S => k (.exc c d en) S) := by
  rw [whlL, lift_lft, bind_lft]; congr; funext x S; congr; funext t S
  cases t
  · rfl
  · rw [if_pos rfl, if_pos rfl, bind_lft]; congr; funext f S; cases f <;> rfl
theorem wk_nx {k : Flow → Store → R β} {c : Env → M Bool} {b : Env → M Flow} {n : Nat} : whK c b n k h (.nx en) S = (whlL c b n en S).lft k h := nrf rfl
end
theorem fuel_ge {n m : Nat} (h : m < 2 ^ n) (hn : n ≤ 99999) : m + 1 ≤ fuel := by
  have e : fuel = 2 ^ 100000 := by unfold fuel; rfl
  rw [e]
  have := Nat.pow_le_pow_right (show 0 < 2 by decide) (show n ≤ 99999 from hn)
  have q : 2 ^ 99999 ≤ 2 ^ 100000 := Nat.pow_le_pow_right (by decide) (by decide)
  exact Nat.le_trans (Nat.succ_le_of_lt h) (Nat.le_trans this q)
/-! growing -/
def Gw (S S' : Store) : Prop := ∃ U, S' = S ++ U
theorem Gw.refl (S : Store) : Gw S S := ⟨[], by simp⟩
theorem Gw.trans {S S1 S2 : Store} (a : Gw S S1) (b : Gw S1 S2) : Gw S S2 := by
  obtain ⟨U, rfl⟩ := a
  obtain ⟨V, rfl⟩ := b
  exact ⟨U ++ V, by simp⟩
theorem Gw.get {S S' : Store} (g : Gw S S') {l : Nat} {o : Ob} (h : S[l]? = some o) : S'[l]? = some o := by
  obtain ⟨U, rfl⟩ := g
  rw [List.getElem?_append_left (List.getElem?_eq_some_iff.mp h).1]
  exact h
theorem Gw.scr {ns : List Int} {S S' : Store} (g : Gw S S') (h : Scr ns S) : Scr ns S' := Gw.get g h
theorem Gw.app {S U : Store} : Gw S (S ++ U) := ⟨U, rfl⟩
/-- a loop whose turns keep P of the names, and write only new lists -/
theorem for_grow {bnd : D → Env → M Env} {b : Env → M Flow} (P : Env → Store → Prop) (hP : ∀ en S S', Gw S S' → P en S → P en S') {l : Nat} {o : Ob} : ∀ {xs : List D} {en : Env} {S : Store}, S[l]? = some o → P en S →
    (∀ x ∈ xs, ∀ en S, P en S → ∃ en1, bnd x en S = .ok en1 S ∧ ∃ en2 S', b en1 S = .ok (.nx en2) S' ∧ Gw S S' ∧ P en2 S') → ∃ en' S', forL (ckD (some (l, o))) bnd b xs en S = .ok (.nx en') S' ∧ Gw S S' ∧ P en' S'
  | [], en, S, h1, h2, _ => by
    refine ⟨en, S, ?_, .refl _, h2⟩
    rw [forL]
    unfold lift
    simp only [ckD, if_pos h1]; rfl
  | x :: xs, en, S, h1, h2, hb => by
    obtain ⟨en1, e1, en2, S1, e2, g1, p1⟩ := hb x List.mem_cons_self en S h2
    obtain ⟨en', S', e3, g2, p2⟩ := for_grow P hP (xs := xs) (g1.get h1) p1 fun y hy => hb y (List.mem_cons_of_mem _ hy)
    refine ⟨en', S', ?_, g1.trans g2, p2⟩
    rw [forL]
    have c1 : (ckD (some (l, o)) >>= fun _ => bnd x en) S = .ok en1 S := by
      rw [bind_eq]; simp only [ckD, if_pos h1]; exact e1
    unfold lift
    rw [c1]
    show (b en1 >>= _) S = _
    rw [bind_eq, e2]
    exact e3
instance sz_div {m : Nat} {x y : Int} [s : Sz m x] : Sz m (x / y) := ⟨Nat.lt_of_le_of_lt (Int.natAbs_ediv_le_natAbs x y) s.lt⟩
theorem lft_id {α : Type} (r : R α) : r.lft R.ok R.exc = r := by cases r <;> rfl
theorem unp_mid2 {β : Type} {S U : Store} {x y : D} {i j : Nat} {k : List D → Store → R β} {h : Str → Option Nat → Store → R β} : (unpD (List.length [i, j]) (.ref S.length) (S ++ .lst [x, y] :: U)).lft k h = k [x, y] (S ++ .lst [x, y] :: U) := unpL (o := .lst [x, y]) (by simp) rfl
theorem unp_mid3 {β : Type} {S U : Store} {x y z : D} {i j l : Nat} {k : List D → Store → R β} {h : Str → Option Nat → Store → R β} : (unpD (List.length [i, j, l]) (.ref S.length) (S ++ .lst [x, y, z] :: U)).lft k h = k [x, y, z] (S ++ .lst [x, y, z] :: U) := unpL (o := .lst [x, y, z]) (by simp) rfl
theorem unp_mid4 {β : Type} {S U : Store} {x y z w : D} {i j l m : Nat} {k : List D → Store → R β} {h : Str → Option Nat → Store → R β} : (unpD (List.length [i, j, l, m]) (.ref S.length) (S ++ .lst [x, y, z, w] :: U)).lft k h = k [x, y, z, w] (S ++ .lst [x, y, z, w] :: U) := unpL (o := .lst [x, y, z, w]) (by simp) rfl
/-- for over a list that is written there -/
theorem for_lit {C : Nat → List D → M D} {tg : Tg} {b : Sts} {en : Env} {S : Store} {es : Es} {xs : List D} (P : Env → Store → Prop) (hP : ∀ en S S', Gw S S' → P en S → P en S')
    (hev : ∀ {β : Type} {k : List D → Store → R β} {h : Str → Option Nat → Store → R β}, (evEs C es en S).lft k h = k xs S) (hl : xs.length ≤ 1000) (hp : P en S)
    (hb : ∀ x ∈ xs, ∀ en S, P en S → ∃ en1, bindT tg x en S = .ok en1 S ∧ ∃ en2 S', exB C b en1 S = .ok (.nx en2) S' ∧ Gw S S' ∧ P en2 S') : ∃ en' S', exS C (.for_ tg (.val (.lst es)) b) en S = .ok (.nx en') S' ∧ Gw S S' ∧ P en' S' := by
  obtain ⟨en', S', e, g, p⟩ := for_grow (bnd := fun d en' => bindT tg d en') (b := fun en' => exB C b en') P hP (l := S.length) (o := .lst xs) (xs := xs) (en := en) (S := S ++ [.lst xs]) (by simp) (hP _ _ _ Gw.app hp) hb
  refine ⟨en', S', ?_, Gw.app.trans g, p⟩
  rw [← lft_id (exS C (.for_ tg (.val (.lst es)) b) en S), x_for, i_val_, r_lst, hev, if_pos (Nat.le_of_lt (small1000 hl)), iL_end, e]
  rfl
theorem sg_scale {k E m D : Int} (hk : 0 < k) (hm : 0 < m) (h : k * E = m * D) : sg E = sg D := by
  unfold sg
  rcases Int.lt_trichotomy D 0 with z | z | z
  · have h1 := Int.mul_neg_of_pos_of_neg hm z
    rw [← h] at h1
    have h2 : E < 0 := by
      rcases Int.lt_trichotomy E 0 with y | y | y
      · exact y
      · rw [y] at h1; omega
      · have := Int.mul_pos hk y; omega
    rw [if_neg (by omega), if_pos h2, if_neg (by omega), if_pos z]
  · rw [z, Int.mul_zero] at h
    have h2 : E = 0 := by
      rcases Int.mul_eq_zero.mp h with y | y
      · omega
      · exact y
    rw [h2, z]
  · have h1 := Int.mul_pos hm z
    rw [← h] at h1
    have h2 : 0 < E := by
      rcases Int.lt_trichotomy E 0 with y | y | y
      · have := Int.mul_neg_of_pos_of_neg hk y; omega
      · rw [y] at h1; omega
      · exact y
    rw [if_pos h2, if_pos z]
theorem sg_neg (x : Int) : sg (-x) = -sg x := by
  unfold sg
  rcases Int.lt_trichotomy x 0 with z | z | z
  · rw [if_pos (by omega), if_neg (by omega), if_pos z]; rfl
  · rw [z]; rfl
  · rw [if_neg (by omega), if_pos (by omega), if_pos z]
end NL

/-! Comprehensions and least of places, on symbols. -/
namespace NL
open PySem PySem.Spec PyProof.Rows L2
def wipeK {β : Type} (en : Env) (own : List Nat) (k : Env → R β) : R β := k (wipeD en own)
def clrE {β : Type} (en : Env) (i : Nat) (k : Env → R β) : R β := k (en.set i none)
section
variable {β : Type} {S : Store} {C : Nat → List D → M D} {en : Env} {h : Str → Option Nat → Store → R β}
theorem wipe_0 {k : Env → R β} : wipeK en [] k = k en := nrf rfl
theorem wipe_s {v : Nat} {vs : List Nat} {k : Env → R β} : wipeK en (v :: vs) k = wipeK en vs fun e => clrE e v k := nrf rfl
theorem clr_0 {o : Option D} {k : Env → R β} : clrE (o :: en) 0 k = k (none :: en) := nrf rfl
theorem clr_s {o : Option D} {i : Nat} {k : Env → R β} : clrE (o :: en) (i + 1) k = clrE en i fun e => k (o :: e) := nrf rfl
theorem noX_lft {α : Type} {m : M α} {k : α → Store → R β} : (noX m S).lft k h = (m S).lft k fun _ _ _ => .stuck := by
  unfold noX; cases m S <;> rfl
theorem r_comp {own : List Nat} {tg : Tg} {it : It} {c e : E} {k : D → Store → R β} : (evE C (.comp own tg it c e) en S).lft k h = (evIt C it en S).lft (fun p S => wipeK en own fun enw => (cmpL (ckD p.2) (fun d => bindT tg d enw) (fun en' => evE C c en' >>= truD) (fun en' => evE C e en') S.length p.1 (S ++ [.lst []])).lft (fun _ S' => k (.ref S.length) S') fun _ _ _ => .stuck) h := by
  rw [evE]
  show ((evIt C it en S).bind _).lft k h = _
  cases evIt C it en S with
  | ok p S1 =>
    show (noX (cmpL (ckD p.2) (fun d => bindT tg d (wipeD en own)) (fun en' => evE C c en' >>= truD) (fun en' => evE C e en') S1.length p.1 >>= fun _ => (pure (.ref S1.length) : M D)) (S1 ++ [.lst []])).lft k h = _
    rw [noX_lft, bind_lft]; rfl
  | exc _ _ _ => rfl
  | stuck => rfl
theorem c_nil {ck : M Unit} {bnd : D → M Env} {c : Env → M Bool} {e : Env → M D} {l : Nat} {k : Unit → Store → R β} : (cmpL ck bnd c e l [] S).lft k h = (ck S).lft k h := by rw [cmpL]
theorem c_cons {ck : M Unit} {bnd : D → M Env} {c : Env → M Bool} {e : Env → M D} {l : Nat} {x : D} {xs : List D} {k : Unit → Store → R β} : (cmpL ck bnd c e l (x :: xs) S).lft k h =
    (ck S).lft (fun _ S => (bnd x S).lft (fun en S => (c en S).lft (fun t S => if t = true then (e en S).lft (fun d S => (pushD l d S).lft (fun _ S => (cmpL ck bnd c e l xs S).lft k h) h) h else (cmpL ck bnd c e l xs S).lft k h) h) h) h := by
  rw [cmpL, bind_lft]; congr; funext _ S; rw [bind_lft]; congr; funext en S; rw [bind_lft]; congr; funext t S
  cases t
  · rfl
  · rw [if_pos rfl, if_pos rfl, bind_lft]; congr; funext d S; rw [bind_lft]
theorem push_e0 {d : D} {k : Unit → Store → R β} : (pushD S.length d (S ++ [.lst []])).lft k h = k () (S ++ [.lst [d]]) := push_mid (xs := []) (by decide)
theorem push_e1 {a d : D} {k : Unit → Store → R β} : (pushD S.length d (S ++ [.lst [a]])).lft k h = k () (S ++ [.lst [a, d]]) := push_mid (xs := [a]) (show 1 < sizeLine by decide)
theorem push_e2 {a b d : D} {k : Unit → Store → R β} : (pushD S.length d (S ++ [.lst [a, b]])).lft k h = k () (S ++ [.lst [a, b, d]]) := push_mid (xs := [a, b]) (show 2 < sizeLine by decide)
theorem push_e3 {a b c d : D} {k : Unit → Store → R β} : (pushD S.length d (S ++ [.lst [a, b, c]])).lft k h = k () (S ++ [.lst [a, b, c, d]]) := push_mid (xs := [a, b, c]) (show 3 < sizeLine by decide)
theorem ix_e0 {a : D} {r : List D} {k : D → Store → R β} : (ixD (.ref S.length) (.int 0) (S ++ [.lst (a :: r)])).lft k h = k a (S ++ [.lst (a :: r)]) := o_ixL (o := .lst (a :: r)) (by simp) (by unfold atI ixN; simp [items])
theorem ix_e1 {a b : D} {r : List D} {k : D → Store → R β} : (ixD (.ref S.length) (.int 1) (S ++ [.lst (a :: b :: r)])).lft k h = k b (S ++ [.lst (a :: b :: r)]) := o_ixL (o := .lst (a :: b :: r)) (by simp) (by
  unfold atI ixN items
  rw [if_pos (by decide), if_pos (by simp only [List.length_cons]; omega)]; rfl)
theorem ix_e2 {a b c : D} {r : List D} {k : D → Store → R β} : (ixD (.ref S.length) (.int 2) (S ++ [.lst (a :: b :: c :: r)])).lft k h = k c (S ++ [.lst (a :: b :: c :: r)]) := o_ixL (o := .lst (a :: b :: c :: r)) (by simp) (by
  unfold atI ixN items
  rw [if_pos (by decide), if_pos (by simp only [List.length_cons]; omega)]; rfl)
end
/-! ### the least of places -/
def lxP (ax ay bx by_ : Int) : Prop := ax < bx ∨ ax = bx ∧ ay < by_
instance {a b c d : Int} : Decidable (lxP a b c d) := by unfold lxP; infer_instance
theorem ord_lx {k : Nat} {a b c d : Int} : ordD .lt (k + 1) (.tup [.int a, .int b]) (.tup [.int c, .int d]) = some (decide (lxP a b c d)) := by
  rw [ord_pt]
  congr 1
  unfold lxP
  by_cases h1 : a = c
  · by_cases h2 : b = d
    · simp [h1, h2, ord4]
    · simp [h1, h2, ord4]
  · simp [h1, ord4]
theorem min3 {S : Store} {ax ay bx by_ cx cy : Int} : ∃ mx my : Int, bltD .min [.tup [.int ax, .int ay], .tup [.int bx, .int by_], .tup [.int cx, .int cy]] S = .ok (.tup [.int mx, .int my]) S ∧
    ((mx = ax ∧ my = ay) ∨ (mx = bx ∧ my = by_) ∨ (mx = cx ∧ my = cy)) ∧ ¬ lxP ax ay mx my ∧ ¬ lxP bx by_ mx my ∧ ¬ lxP cx cy mx my := by
  have e : ∀ S, bltD .min [.tup [.int ax, .int ay], .tup [.int bx, .int by_], .tup [.int cx, .int cy]] S = ofD (bestD .lt [.tup [.int ax, .int ay], .tup [.int bx, .int by_], .tup [.int cx, .int cy]]) S := fun S => rfl
  rw [e]
  unfold bestD
  have hall : ([D.tup [.int ax, .int ay], .tup [.int bx, .int by_], .tup [.int cx, .int cy]].all fun x => [D.tup [.int ax, .int ay], .tup [.int bx, .int by_], .tup [.int cx, .int cy]].all fun y => (ordD .lt 12 x y).isSome) = true := by
    simp [show (12 : Nat) = 11 + 1 from rfl, ord_lx]
  rw [if_pos hall]
  have o : ∀ a b c d : Int, ordD .lt 12 (.tup [.int a, .int b]) (.tup [.int c, .int d]) = some (decide (lxP a b c d)) := fun a b c d => ord_lx (k := 11)
  by_cases h1 : lxP bx by_ ax ay
  · by_cases h2 : lxP cx cy bx by_
    · refine ⟨cx, cy, ?_, by simp, ?_⟩
      · simp [argBest, o, h1, h2]; rfl
      · unfold lxP at *; omega
    · refine ⟨bx, by_, ?_, by simp, ?_⟩
      · simp [argBest, o, h1, h2]; rfl
      · unfold lxP at *; omega
  · by_cases h2 : lxP cx cy ax ay
    · refine ⟨cx, cy, ?_, by simp, ?_⟩
      · simp [argBest, o, h1, h2]; rfl
      · unfold lxP at *; omega
    · refine ⟨ax, ay, ?_, by simp, ?_⟩
      · simp [argBest, o, h1, h2]; rfl
      · unfold lxP at *; omega
theorem lx_trans {a b m n x y : Int} (h : ¬ lxP x y m n) (h2 : lxP a b m n) : lxP a b x y := by unfold lxP at *; omega
theorem lx_tot {a b m n : Int} (h : ¬ lxP a b m n) (h2 : ¬ (a = m ∧ b = n)) : lxP m n a b := by unfold lxP at *; omega
theorem lx_least {ax ay bx by_ cx cy mx my dx dy : Int} (hm : (mx = ax ∧ my = ay) ∨ (mx = bx ∧ my = by_) ∨ (mx = cx ∧ my = cy)) (l1 : ¬ lxP ax ay mx my) (l2 : ¬ lxP bx by_ mx my) (l3 : ¬ lxP cx cy mx my) :
    (lxP dx dy ax ay ∧ lxP dx dy bx by_ ∧ lxP dx dy cx cy) ↔ lxP dx dy mx my := by
  constructor
  · rintro ⟨h1, h2, h3⟩
    rcases hm with ⟨rfl, rfl⟩ | ⟨rfl, rfl⟩ | ⟨rfl, rfl⟩
    · exact h1
    · exact h2
    · exact h3
  · intro h
    exact ⟨lx_trans l1 h, lx_trans l2 h, lx_trans l3 h⟩
theorem o_ltL {a b c d : Int} {β : Type} {S : Store} {h : Str → Option Nat → Store → R β} {k : D → Store → R β} : (cmpD .lt (.tup [.int a, .int b]) (.tup [.int c, .int d]) S).lft k h = k (.bl (decide (lxP a b c d))) S := by
  rw [o_ltP]; rfl
theorem unp_lit2 {β : Type} {S U : Store} {x y : D} {k : List D → Store → R β} {h : Str → Option Nat → Store → R β} : (unpD 2 (.ref S.length) (S ++ .lst [x, y] :: U)).lft k h = k [x, y] (S ++ .lst [x, y] :: U) := unpL (o := .lst [x, y]) (by simp) rfl
theorem unp_lt2 {β : Type} {S : Store} {x y : D} {k : List D → Store → R β} {h : Str → Option Nat → Store → R β} : (unpD 2 (.tup [x, y]) S).lft k h = k [x, y] S := unpT rfl
theorem unp_lt3 {β : Type} {S : Store} {x y z : D} {k : List D → Store → R β} {h : Str → Option Nat → Store → R β} : (unpD 3 (.tup [x, y, z]) S).lft k h = k [x, y, z] S := unpT rfl
theorem unp_lt4 {β : Type} {S : Store} {x y z w : D} {k : List D → Store → R β} {h : Str → Option Nat → Store → R β} : (unpD 4 (.tup [x, y, z, w]) S).lft k h = k [x, y, z, w] S := unpT rfl
end NL

namespace NL
open PySem PySem.Spec PyProof.Rows L2
def top (i : Nat) : Stmt := PySem.Challenge.pw_nearland_k16_two_cuts.main.body.getD i (.Pass ⟨0, 0, 0, 0⟩)
-- 0: twice(a, b, c); 0 a, 1 b, 2 c
def f0 : Fn := ⟨3, 3, (.cons (.ret (.bin .sub (.bin .mul (.bin .sub (.idx (.var 1) (.con (.int 0))) (.idx (.var 0) (.con (.int 0)))) (.bin .sub (.idx (.var 2) (.con (.int 1))) (.idx (.var 0) (.con (.int 1))))) (.bin .mul (.bin .sub (.idx (.var 1) (.con (.int 1))) (.idx (.var 0) (.con (.int 1)))) (.bin .sub (.idx (.var 2) (.con (.int 0))) (.idx (.var 0) (.con (.int 0))))))) .nil)⟩
abbrev e0 : Ent := ⟨"twice", top 4, ["a", "b", "c"], ["a", "b", "c"], f0⟩
-- 1: sign_of(number); 0 number
def f1 : Fn := ⟨1, 1, (.cons (.ifs (.cmp .gt (.var 0) (.con (.int 0))) (.cons (.ret (.con (.int 1))) .nil) .nil) (.cons (.ifs (.cmp .lt (.var 0) (.con (.int 0))) (.cons (.ret (.neg (.con (.int 1)))) .nil) .nil) (.cons (.ret (.con (.int 0))) .nil)))⟩
abbrev e1 : Ent := ⟨"sign_of", top 5, ["number"], ["number"], f1⟩
-- 2: turn(a, b, c); 0 a, 1 b, 2 c
def f2 : Fn := ⟨3, 3, (.cons (.ret (.call 1 (.cons (.call 0 (.cons (.var 0) (.cons (.var 1) (.cons (.var 2) .nil)))) .nil))) .nil)⟩
abbrev e2 : Ent := ⟨"turn", top 6, ["a", "b", "c"], ["a", "b", "c"], f2⟩
-- 3: height(a, d); 0 a, 1 d
def f3 : Fn := ⟨2, 2, (.cons (.ret (.bin .add (.bin .mul (.bin .sub (.idx (.var 0) (.con (.int 0))) (.idx (.var 1) (.con (.int 0)))) (.bin .sub (.idx (.var 0) (.con (.int 0))) (.idx (.var 1) (.con (.int 0))))) (.bin .mul (.bin .sub (.idx (.var 0) (.con (.int 1))) (.idx (.var 1) (.con (.int 1)))) (.bin .sub (.idx (.var 0) (.con (.int 1))) (.idx (.var 1) (.con (.int 1))))))) .nil)⟩
abbrev e3 : Ent := ⟨"height", top 8, ["a", "d"], ["a", "d"], f3⟩
-- 4: ring(a, b, c, d); 0 a, 1 b, 2 c, 3 d, 4 hand, 5 bowl
def f4 : Fn := ⟨4, 6, (.cons (.set 4 (.call 2 (.cons (.var 0) (.cons (.var 1) (.cons (.var 2) .nil))))) (.cons (.ifs (.cmp .eq (.var 4) (.con (.int 0))) (.cons .dead .nil) .nil) (.cons (.set 5 (.bin .add (.bin .add (.bin .mul (.call 3 (.cons (.var 0) (.cons (.var 3) .nil))) (.call 0 (.cons (.var 3) (.cons (.var 1) (.cons (.var 2) .nil))))) (.bin .mul (.call 3 (.cons (.var 1) (.cons (.var 3) .nil))) (.call 0 (.cons (.var 3) (.cons (.var 2) (.cons (.var 0) .nil)))))) (.bin .mul (.call 3 (.cons (.var 2) (.cons (.var 3) .nil))) (.call 0 (.cons (.var 3) (.cons (.var 0) (.cons (.var 1) .nil))))))) (.cons (.ret (.bin .mul (.var 4) (.call 1 (.cons (.var 5) .nil)))) .nil))))⟩
abbrev e4 : Ent := ⟨"ring", top 9, ["a", "b", "c", "d", "hand", "bowl"], ["a", "b", "c", "d"], f4⟩
-- 5: spoils(a, b, c, d); 0 a, 1 b, 2 c, 3 d, 4 where, 5 least, 6 one, 7 other, 8 p
def f5 : Fn := ⟨4, 9, (.cons (.set 4 (.call 4 (.cons (.var 0) (.cons (.var 1) (.cons (.var 2) (.cons (.var 3) .nil)))))) (.cons (.ifs (.or (.cmp .ne (.var 4) (.con (.int 0))) (.cmp .isIn (.var 3) (.tup (.cons (.var 0) (.cons (.var 1) (.cons (.var 2) .nil)))))) (.cons (.ret (.cmp .eq (.var 4) (.con (.int 1)))) .nil) .nil) (.cons (.set 5 (.blt .min (.cons (.var 0) (.cons (.var 1) (.cons (.var 2) .nil))))) (.cons (.ifs (.cmp .lt (.var 3) (.var 5)) (.cons (.ret (.con (.bl true))) .nil) .nil) (.cons (.unp [6, 7] (.comp [8] (.nm 8) (.val (.tup (.cons (.var 0) (.cons (.var 1) (.cons (.var 2) .nil))))) (.cmp .ne (.var 8) (.var 5)) (.var 8))) (.cons (.ret (.cmp .lt (.bin .mul (.call 2 (.cons (.var 6) (.cons (.var 7) (.cons (.var 5) .nil)))) (.call 2 (.cons (.var 6) (.cons (.var 7) (.cons (.var 3) .nil))))) (.con (.int 0)))) .nil))))))⟩
abbrev e5 : Ent := ⟨"spoils", top 10, ["a", "b", "c", "d", "where", "least", "one", "other", "p"], ["a", "b", "c", "d"], f5⟩
-- 6: _law_nth(_law_script, _law_k); 0 _law_script, 1 _law_k
def f6 : Fn := ⟨2, 2, (.cons (.ret (.ite (.cmp .lt (.var 1) (.blt .len (.cons (.var 0) .nil))) (.idx (.var 0) (.var 1)) (.con (.int 0)))) .nil)⟩
abbrev e6 : Ent := ⟨"_law_nth", top 12, ["_law_script", "_law_k"], ["_law_script", "_law_k"], f6⟩
-- 7: _law_sign(_law_number); 0 _law_number
def f7 : Fn := ⟨1, 1, (.cons (.ret (.bin .sub (.blt .int (.cons (.cmp .gt (.var 0) (.con (.int 0))) .nil)) (.blt .int (.cons (.cmp .lt (.var 0) (.con (.int 0))) .nil)))) .nil)⟩
abbrev e7 : Ent := ⟨"_law_sign", top 13, ["_law_number"], ["_law_number"], f7⟩
-- 8: _law_area(_law_a, _law_b, _law_c); 0 _law_a, 1 _law_b, 2 _law_c, 3 _law_some
def f8 : Fn := ⟨3, 4, (.cons (.set 3 (.bin .add (.bin .mul (.idx (.var 0) (.con (.int 0))) (.bin .sub (.idx (.var 1) (.con (.int 1))) (.idx (.var 2) (.con (.int 1))))) (.bin .mul (.idx (.var 1) (.con (.int 0))) (.bin .sub (.idx (.var 2) (.con (.int 1))) (.idx (.var 0) (.con (.int 1))))))) (.cons (.ret (.bin .add (.var 3) (.bin .mul (.idx (.var 2) (.con (.int 0))) (.bin .sub (.idx (.var 0) (.con (.int 1))) (.idx (.var 1) (.con (.int 1))))))) .nil))⟩
abbrev e8 : Ent := ⟨"_law_area", top 14, ["_law_a", "_law_b", "_law_c", "_law_some"], ["_law_a", "_law_b", "_law_c"], f8⟩
-- 9: _law_spot(_law_kind, _law_one, _law_other, _law_heart, _law_by); 0 _law_kind, 1 _law_one, 2 _law_other, 3 _law_heart, 4 _law_by, 5 _law_x, 6 _law_y
def f9 : Fn := ⟨5, 7, (.cons (.set 5 (.bin .sub (.bin .mod (.var 1) (.con (.int 9))) (.con (.int 4)))) (.cons (.set 6 (.bin .mul (.con (.int 2)) (.var 5))) (.cons (.ifs (.cmp .eq (.var 0) (.con (.int 0))) (.cons (.ret (.tup (.cons (.bin .sub (.bin .mod (.var 1) (.con (.int 7))) (.con (.int 3))) (.cons (.bin .sub (.bin .mod (.var 2) (.con (.int 7))) (.con (.int 3))) .nil)))) .nil) .nil) (.cons (.ifs (.cmp .eq (.var 0) (.con (.int 1))) (.cons (.unp [5, 6] (.idx (.lst (.cons (.tup (.cons (.con (.int 5)) (.cons (.con (.int 0)) .nil))) (.cons (.tup (.cons (.con (.int 4)) (.cons (.con (.int 3)) .nil))) (.cons (.tup (.cons (.con (.int 3)) (.cons (.con (.int 4)) .nil))) (.cons (.tup (.cons (.con (.int 0)) (.cons (.con (.int 5)) .nil))) (.cons (.tup (.cons (.neg (.con (.int 3))) (.cons (.con (.int 4)) .nil))) (.cons (.tup (.cons (.neg (.con (.int 4))) (.cons (.con (.int 3)) .nil))) .nil))))))) (.bin .mod (.var 1) (.con (.int 6))))) (.cons (.ifs (.cmp .eq (.bin .mod (.bin .fdiv (.var 1) (.con (.int 6))) (.con (.int 2))) (.con (.int 1))) (.cons (.unp [5, 6] (.tup (.cons (.neg (.var 5)) (.cons (.neg (.var 6)) .nil)))) .nil) .nil) .nil)) .nil) (.cons (.ifs (.cmp .eq (.var 0) (.con (.int 2))) (.cons (.set 5 (.bin .mod (.var 1) (.con (.int 3)))) (.cons (.set 6 (.bin .mod (.var 2) (.con (.int 3)))) .nil)) .nil) (.cons (.ifs (.cmp .eq (.var 0) (.con (.int 3))) (.cons (.ret (.tup (.cons (.bin .add (.bin .sub (.bin .mod (.var 1) (.bin .sub (.bin .mul (.con (.int 2)) (.bin .pow (.con (.int 10)) (.con (.int 40)))) (.con (.int 1)))) (.bin .pow (.con (.int 10)) (.con (.int 40)))) (.con (.int 1))) (.cons (.bin .add (.bin .sub (.bin .mod (.var 2) (.bin .sub (.bin .mul (.con (.int 2)) (.bin .pow (.con (.int 10)) (.con (.int 40)))) (.con (.int 1)))) (.bin .pow (.con (.int 10)) (.con (.int 40)))) (.con (.int 1))) .nil)))) .nil) .nil) (.cons (.ifs (.cmp .eq (.var 0) (.con (.int 4))) (.cons (.ret (.tup (.cons (.bin .add (.idx (.var 3) (.con (.int 0))) (.bin .mul (.var 4) (.var 5))) (.cons (.bin .add (.bin .add (.idx (.var 3) (.con (.int 1))) (.bin .mul (.var 4) (.var 6))) (.blt .int (.cons (.cmp .eq (.bin .mod (.var 2) (.con (.int 4))) (.con (.int 1))) .nil))) .nil)))) .nil) .nil) (.cons (.ifs (.cmp .eq (.var 0) (.con (.int 5))) (.cons (.set 5 (.bin .sub (.bin .mod (.var 1) (.con (.int 11))) (.con (.int 5)))) (.cons (.set 6 (.bin .sub (.bin .mod (.var 2) (.con (.int 11))) (.con (.int 5)))) .nil)) .nil) (.cons (.ret (.tup (.cons (.bin .add (.idx (.var 3) (.con (.int 0))) (.bin .mul (.var 4) (.var 5))) (.cons (.bin .add (.idx (.var 3) (.con (.int 1))) (.bin .mul (.var 4) (.var 6))) .nil)))) .nil)))))))))⟩
abbrev e9 : Ent := ⟨"_law_spot", top 15, ["_law_kind", "_law_one", "_law_other", "_law_heart", "_law_by", "_law_x", "_law_y"], ["_law_kind", "_law_one", "_law_other", "_law_heart", "_law_by"], f9⟩
-- 10: _law_spots(_law_script, _law_start, _law_many); 0 _law_script, 1 _law_start, 2 _law_many, 3 _law_kind, 4 _law_right, 5 _law_up, 6 _law_by, 7 _law_found, 8 _law_k, 9 _law_one, 10 _law_other, 11 _law_here
def f10 : Fn := ⟨3, 12, (.cons (.set 3 (.bin .mod (.call 6 (.cons (.var 0) (.cons (.var 1) .nil))) (.con (.int 6)))) (.cons (.set 4 (.bin .sub (.bin .mod (.call 6 (.cons (.var 0) (.cons (.bin .add (.var 1) (.con (.int 1))) .nil))) (.bin .add (.bin .mul (.con (.int 2)) (.bin .pow (.con (.int 10)) (.con (.int 39)))) (.con (.int 1)))) (.bin .pow (.con (.int 10)) (.con (.int 39))))) (.cons (.set 5 (.bin .sub (.bin .mod (.call 6 (.cons (.var 0) (.cons (.bin .add (.var 1) (.con (.int 2))) .nil))) (.bin .add (.bin .mul (.con (.int 2)) (.bin .pow (.con (.int 10)) (.con (.int 39)))) (.con (.int 1)))) (.bin .pow (.con (.int 10)) (.con (.int 39))))) (.cons (.set 6 (.bin .add (.con (.int 1)) (.bin .mod (.call 6 (.cons (.var 0) (.cons (.bin .add (.var 1) (.con (.int 3))) .nil))) (.bin .pow (.con (.int 10)) (.con (.int 20)))))) (.cons (.set 7 (.lst .nil)) (.cons (.for_ (.nm 8) (.rng1 (.var 2)) (.cons (.set 9 (.call 6 (.cons (.var 0) (.cons (.bin .add (.bin .add (.var 1) (.con (.int 4))) (.bin .mul (.con (.int 2)) (.var 8))) .nil)))) (.cons (.set 10 (.call 6 (.cons (.var 0) (.cons (.bin .add (.bin .add (.var 1) (.con (.int 5))) (.bin .mul (.con (.int 2)) (.var 8))) .nil)))) (.cons (.set 11 (.var 3)) (.cons (.ifs (.and (.cmp .eq (.var 3) (.con (.int 5))) (.cmp .lt (.var 8) (.con (.int 3)))) (.cons (.set 11 (.con (.int 1))) .nil) .nil) (.cons (.app 7 (.call 9 (.cons (.var 11) (.cons (.var 9) (.cons (.var 10) (.cons (.tup (.cons (.var 4) (.cons (.var 5) .nil))) (.cons (.var 6) .nil))))))) .nil)))))) (.cons (.ret (.var 7)) .nil)))))))⟩
abbrev e10 : Ent := ⟨"_law_spots", top 16, ["_law_script", "_law_start", "_law_many", "_law_kind", "_law_right", "_law_up", "_law_by", "_law_found", "_law_k", "_law_one", "_law_other", "_law_here"], ["_law_script", "_law_start", "_law_many"], f10⟩
-- 11: _law_unlike(_law_p, _law_q, _law_r, _law_s); 0 _law_p, 1 _law_q, 2 _law_r, 3 _law_s
def f11 : Fn := ⟨4, 4, (.cons (.ret (.cmp .lt (.bin .mul (.call 7 (.cons (.call 8 (.cons (.var 0) (.cons (.var 1) (.cons (.var 2) .nil)))) .nil)) (.call 7 (.cons (.call 8 (.cons (.var 0) (.cons (.var 1) (.cons (.var 3) .nil)))) .nil))) (.con (.int 0)))) .nil)⟩
abbrev e11 : Ent := ⟨"_law_unlike", top 17, ["_law_p", "_law_q", "_law_r", "_law_s"], ["_law_p", "_law_q", "_law_r", "_law_s"], f11⟩
-- 12: law(_law_script); 0 _law_script, 1 _law_pairs, 2 _law_a, 3 _law_b, 4 _law_c, 5 _law_d, 6 _law_p, 7 _law_q, 8 _law_r, 9 _law_s, 10 _law_cut
def f12 : Fn := ⟨1, 11, (.cons (.unp [2, 3, 4, 5] (.call 10 (.cons (.var 0) (.cons (.con (.int 0)) (.cons (.con (.int 4)) .nil))))) (.cons (.set 1 (.lst (.cons (.tup (.cons (.var 2) (.cons (.var 3) (.cons (.var 4) (.cons (.var 5) .nil))))) (.cons (.tup (.cons (.var 2) (.cons (.var 4) (.cons (.var 3) (.cons (.var 5) .nil))))) (.cons (.tup (.cons (.var 2) (.cons (.var 5) (.cons (.var 3) (.cons (.var 4) .nil))))) (.cons (.tup (.cons (.var 3) (.cons (.var 4) (.cons (.var 2) (.cons (.var 5) .nil))))) (.cons (.tup (.cons (.var 3) (.cons (.var 5) (.cons (.var 2) (.cons (.var 4) .nil))))) (.cons (.tup (.cons (.var 4) (.cons (.var 5) (.cons (.var 2) (.cons (.var 3) .nil))))) .nil)))))))) (.cons (.for_ (.tp [6, 7, 8, 9]) (.val (.var 1)) (.cons (.ifs (.call 11 (.cons (.var 6) (.cons (.var 7) (.cons (.var 8) (.cons (.var 9) .nil))))) (.cons (.set 10 (.call 5 (.cons (.var 6) (.cons (.var 7) (.cons (.var 8) (.cons (.var 9) .nil)))))) (.cons (.ifs (.or (.not (.isi (.var 10) .bool)) (.cmp .ne (.call 5 (.cons (.var 6) (.cons (.var 7) (.cons (.var 9) (.cons (.var 8) .nil))))) (.var 10))) (.cons (.ret (.con (.bl false))) .nil) .nil) (.cons (.ifs (.call 11 (.cons (.var 8) (.cons (.var 9) (.cons (.var 6) (.cons (.var 7) .nil))))) (.cons (.ifs (.or (.cmp .eq (.call 5 (.cons (.var 8) (.cons (.var 9) (.cons (.var 6) (.cons (.var 7) .nil))))) (.var 10)) (.cmp .eq (.call 5 (.cons (.var 8) (.cons (.var 9) (.cons (.var 7) (.cons (.var 6) .nil))))) (.var 10))) (.cons (.ret (.con (.bl false))) .nil) .nil) .nil) .nil) .nil))) .nil) .nil)) (.cons (.ret (.con (.bl true))) .nil))))⟩
abbrev e12 : Ent := ⟨"law", top 18, ["_law_script", "_law_pairs", "_law_a", "_law_b", "_law_c", "_law_d", "_law_p", "_law_q", "_law_r", "_law_s", "_law_cut"], ["_law_script"], f12⟩
abbrev tab : List Ent := [e0, e1, e2, e3, e4, e5, e6, e7, e8, e9, e10, e11, e12]
theorem ok0 : EOk (ftOf tab) e0 := ⟨rfl, ⟨rfl, rfl, rfl, by decide +kernel, rfl, by decide +kernel, by decide +kernel⟩, rfl, rfl⟩
theorem ok1 : EOk (ftOf tab) e1 := ⟨rfl, ⟨rfl, rfl, rfl, by decide +kernel, rfl, by decide +kernel, by decide +kernel⟩, rfl, rfl⟩
theorem ok2 : EOk (ftOf tab) e2 := ⟨rfl, ⟨rfl, rfl, rfl, by decide +kernel, rfl, by decide +kernel, by decide +kernel⟩, rfl, rfl⟩
theorem ok3 : EOk (ftOf tab) e3 := ⟨rfl, ⟨rfl, rfl, rfl, by decide +kernel, rfl, by decide +kernel, by decide +kernel⟩, rfl, rfl⟩
theorem ok4 : EOk (ftOf tab) e4 := ⟨rfl, ⟨rfl, rfl, rfl, by decide +kernel, rfl, by decide +kernel, by decide +kernel⟩, rfl, rfl⟩
theorem ok5 : EOk (ftOf tab) e5 := ⟨rfl, ⟨rfl, rfl, rfl, by decide +kernel, rfl, by decide +kernel, by decide +kernel⟩, rfl, rfl⟩
theorem ok6 : EOk (ftOf tab) e6 := ⟨rfl, ⟨rfl, rfl, rfl, by decide +kernel, rfl, by decide +kernel, by decide +kernel⟩, rfl, rfl⟩
theorem ok7 : EOk (ftOf tab) e7 := ⟨rfl, ⟨rfl, rfl, rfl, by decide +kernel, rfl, by decide +kernel, by decide +kernel⟩, rfl, rfl⟩
theorem ok8 : EOk (ftOf tab) e8 := ⟨rfl, ⟨rfl, rfl, rfl, by decide +kernel, rfl, by decide +kernel, by decide +kernel⟩, rfl, rfl⟩
theorem ok9 : EOk (ftOf tab) e9 := ⟨rfl, ⟨rfl, rfl, rfl, by decide +kernel, rfl, by decide +kernel, by decide +kernel⟩, rfl, rfl⟩
theorem ok10 : EOk (ftOf tab) e10 := ⟨rfl, ⟨rfl, rfl, rfl, by decide +kernel, rfl, by decide +kernel, by decide +kernel⟩, rfl, rfl⟩
theorem ok11 : EOk (ftOf tab) e11 := ⟨rfl, ⟨rfl, rfl, rfl, by decide +kernel, rfl, by decide +kernel, by decide +kernel⟩, rfl, rfl⟩
theorem ok12 : EOk (ftOf tab) e12 := ⟨rfl, ⟨rfl, rfl, rfl, by decide +kernel, rfl, by decide +kernel, by decide +kernel⟩, rfl, rfl⟩
theorem okAll : ∀ (i : Nat) (e : Ent), tab[i]? = some e → EOk (ftOf tab) e
  | 0, _, h => by cases h; exact ok0
  | 1, _, h => by cases h; exact ok1
  | 2, _, h => by cases h; exact ok2
  | 3, _, h => by cases h; exact ok3
  | 4, _, h => by cases h; exact ok4
  | 5, _, h => by cases h; exact ok5
  | 6, _, h => by cases h; exact ok6
  | 7, _, h => by cases h; exact ok7
  | 8, _, h => by cases h; exact ok8
  | 9, _, h => by cases h; exact ok9
  | 10, _, h => by cases h; exact ok10
  | 11, _, h => by cases h; exact ok11
  | 12, _, h => by cases h; exact ok12
  | n + 13, _, h => by simp [tab] at h
theorem stands {K : PySem.W.Frag} {h : Heap} {mg : Str → Option Value} (X : K.In h) (G : h.Ns mainGlobals mg)
    {g0 : Addr} {od0 an0 : Option Addr} {sl0 : Array (Option Value)} {oc0 kV0 dc0 pm0 cd0 ct0 : Value} (a0 : PySem.W.nsIn K mainGlobals "twice" = some (some (.ref g0))) (l0 : K.lookup g0 = some ⟨oc0, od0, .func (PySem.W.fnOf "twice" "twice" (defArgs (top 4)) (defBody (top 4)) (defScope (top 4)) .none kV0 dc0 pm0 an0 cd0 ct0), sl0⟩) (c0 : PySem.W.codeIn K cd0 "twice" = true) (k0 : PySem.W.keepIn K (.ref g0) = true)
    {g1 : Addr} {od1 an1 : Option Addr} {sl1 : Array (Option Value)} {oc1 kV1 dc1 pm1 cd1 ct1 : Value} (a1 : PySem.W.nsIn K mainGlobals "sign_of" = some (some (.ref g1))) (l1 : K.lookup g1 = some ⟨oc1, od1, .func (PySem.W.fnOf "sign_of" "sign_of" (defArgs (top 5)) (defBody (top 5)) (defScope (top 5)) .none kV1 dc1 pm1 an1 cd1 ct1), sl1⟩) (c1 : PySem.W.codeIn K cd1 "sign_of" = true) (k1 : PySem.W.keepIn K (.ref g1) = true)
    {g2 : Addr} {od2 an2 : Option Addr} {sl2 : Array (Option Value)} {oc2 kV2 dc2 pm2 cd2 ct2 : Value} (a2 : PySem.W.nsIn K mainGlobals "turn" = some (some (.ref g2))) (l2 : K.lookup g2 = some ⟨oc2, od2, .func (PySem.W.fnOf "turn" "turn" (defArgs (top 6)) (defBody (top 6)) (defScope (top 6)) .none kV2 dc2 pm2 an2 cd2 ct2), sl2⟩) (c2 : PySem.W.codeIn K cd2 "turn" = true) (k2 : PySem.W.keepIn K (.ref g2) = true)
    {g3 : Addr} {od3 an3 : Option Addr} {sl3 : Array (Option Value)} {oc3 kV3 dc3 pm3 cd3 ct3 : Value} (a3 : PySem.W.nsIn K mainGlobals "height" = some (some (.ref g3))) (l3 : K.lookup g3 = some ⟨oc3, od3, .func (PySem.W.fnOf "height" "height" (defArgs (top 8)) (defBody (top 8)) (defScope (top 8)) .none kV3 dc3 pm3 an3 cd3 ct3), sl3⟩) (c3 : PySem.W.codeIn K cd3 "height" = true) (k3 : PySem.W.keepIn K (.ref g3) = true)
    {g4 : Addr} {od4 an4 : Option Addr} {sl4 : Array (Option Value)} {oc4 kV4 dc4 pm4 cd4 ct4 : Value} (a4 : PySem.W.nsIn K mainGlobals "ring" = some (some (.ref g4))) (l4 : K.lookup g4 = some ⟨oc4, od4, .func (PySem.W.fnOf "ring" "ring" (defArgs (top 9)) (defBody (top 9)) (defScope (top 9)) .none kV4 dc4 pm4 an4 cd4 ct4), sl4⟩) (c4 : PySem.W.codeIn K cd4 "ring" = true) (k4 : PySem.W.keepIn K (.ref g4) = true)
    {g5 : Addr} {od5 an5 : Option Addr} {sl5 : Array (Option Value)} {oc5 kV5 dc5 pm5 cd5 ct5 : Value} (a5 : PySem.W.nsIn K mainGlobals "spoils" = some (some (.ref g5))) (l5 : K.lookup g5 = some ⟨oc5, od5, .func (PySem.W.fnOf "spoils" "spoils" (defArgs (top 10)) (defBody (top 10)) (defScope (top 10)) .none kV5 dc5 pm5 an5 cd5 ct5), sl5⟩) (c5 : PySem.W.codeIn K cd5 "spoils" = true) (k5 : PySem.W.keepIn K (.ref g5) = true)
    {g6 : Addr} {od6 an6 : Option Addr} {sl6 : Array (Option Value)} {oc6 kV6 dc6 pm6 cd6 ct6 : Value} (a6 : PySem.W.nsIn K mainGlobals "_law_nth" = some (some (.ref g6))) (l6 : K.lookup g6 = some ⟨oc6, od6, .func (PySem.W.fnOf "_law_nth" "_law_nth" (defArgs (top 12)) (defBody (top 12)) (defScope (top 12)) .none kV6 dc6 pm6 an6 cd6 ct6), sl6⟩) (c6 : PySem.W.codeIn K cd6 "_law_nth" = true) (k6 : PySem.W.keepIn K (.ref g6) = true)
    {g7 : Addr} {od7 an7 : Option Addr} {sl7 : Array (Option Value)} {oc7 kV7 dc7 pm7 cd7 ct7 : Value} (a7 : PySem.W.nsIn K mainGlobals "_law_sign" = some (some (.ref g7))) (l7 : K.lookup g7 = some ⟨oc7, od7, .func (PySem.W.fnOf "_law_sign" "_law_sign" (defArgs (top 13)) (defBody (top 13)) (defScope (top 13)) .none kV7 dc7 pm7 an7 cd7 ct7), sl7⟩) (c7 : PySem.W.codeIn K cd7 "_law_sign" = true) (k7 : PySem.W.keepIn K (.ref g7) = true)
    {g8 : Addr} {od8 an8 : Option Addr} {sl8 : Array (Option Value)} {oc8 kV8 dc8 pm8 cd8 ct8 : Value} (a8 : PySem.W.nsIn K mainGlobals "_law_area" = some (some (.ref g8))) (l8 : K.lookup g8 = some ⟨oc8, od8, .func (PySem.W.fnOf "_law_area" "_law_area" (defArgs (top 14)) (defBody (top 14)) (defScope (top 14)) .none kV8 dc8 pm8 an8 cd8 ct8), sl8⟩) (c8 : PySem.W.codeIn K cd8 "_law_area" = true) (k8 : PySem.W.keepIn K (.ref g8) = true)
    {g9 : Addr} {od9 an9 : Option Addr} {sl9 : Array (Option Value)} {oc9 kV9 dc9 pm9 cd9 ct9 : Value} (a9 : PySem.W.nsIn K mainGlobals "_law_spot" = some (some (.ref g9))) (l9 : K.lookup g9 = some ⟨oc9, od9, .func (PySem.W.fnOf "_law_spot" "_law_spot" (defArgs (top 15)) (defBody (top 15)) (defScope (top 15)) .none kV9 dc9 pm9 an9 cd9 ct9), sl9⟩) (c9 : PySem.W.codeIn K cd9 "_law_spot" = true) (k9 : PySem.W.keepIn K (.ref g9) = true)
    {g10 : Addr} {od10 an10 : Option Addr} {sl10 : Array (Option Value)} {oc10 kV10 dc10 pm10 cd10 ct10 : Value} (a10 : PySem.W.nsIn K mainGlobals "_law_spots" = some (some (.ref g10))) (l10 : K.lookup g10 = some ⟨oc10, od10, .func (PySem.W.fnOf "_law_spots" "_law_spots" (defArgs (top 16)) (defBody (top 16)) (defScope (top 16)) .none kV10 dc10 pm10 an10 cd10 ct10), sl10⟩) (c10 : PySem.W.codeIn K cd10 "_law_spots" = true) (k10 : PySem.W.keepIn K (.ref g10) = true)
    {g11 : Addr} {od11 an11 : Option Addr} {sl11 : Array (Option Value)} {oc11 kV11 dc11 pm11 cd11 ct11 : Value} (a11 : PySem.W.nsIn K mainGlobals "_law_unlike" = some (some (.ref g11))) (l11 : K.lookup g11 = some ⟨oc11, od11, .func (PySem.W.fnOf "_law_unlike" "_law_unlike" (defArgs (top 17)) (defBody (top 17)) (defScope (top 17)) .none kV11 dc11 pm11 an11 cd11 ct11), sl11⟩) (c11 : PySem.W.codeIn K cd11 "_law_unlike" = true) (k11 : PySem.W.keepIn K (.ref g11) = true)
    {g12 : Addr} {od12 an12 : Option Addr} {sl12 : Array (Option Value)} {oc12 kV12 dc12 pm12 cd12 ct12 : Value} (a12 : PySem.W.nsIn K mainGlobals "law" = some (some (.ref g12))) (l12 : K.lookup g12 = some ⟨oc12, od12, .func (PySem.W.fnOf "law" "law" (defArgs (top 18)) (defBody (top 18)) (defScope (top 18)) .none kV12 dc12 pm12 an12 cd12 ct12), sl12⟩) (c12 : PySem.W.codeIn K cd12 "law" = true) (k12 : PySem.W.keepIn K (.ref g12) = true)
    (z0 : PySem.W.nsIn K mainGlobals "abs" = some none)
    (z1 : PySem.W.nsIn K mainGlobals "int" = some none)
    (z2 : PySem.W.nsIn K mainGlobals "len" = some none)
    (z3 : PySem.W.nsIn K mainGlobals "min" = some none)
    (z4 : PySem.W.nsIn K mainGlobals "max" = some none)
    (z5 : PySem.W.nsIn K mainGlobals "list" = some none)
    (z6 : PySem.W.nsIn K mainGlobals "tuple" = some none)
    (z7 : PySem.W.nsIn K mainGlobals "sum" = some none)
    (z8 : PySem.W.nsIn K mainGlobals "isinstance" = some none)
    (z9 : PySem.W.nsIn K mainGlobals "range" = some none)
    (z10 : PySem.W.nsIn K mainGlobals "bool" = some none)
    (z11 : PySem.W.nsIn K mainGlobals "str" = some none)
    : Blts mg ∧ ∀ (i : Nat) (e : Ent), tab[i]? = some e → DIn K mg e := by
  have y0 := PySem.W.mg_none_of X G z0
  have y1 := PySem.W.mg_none_of X G z1
  have y2 := PySem.W.mg_none_of X G z2
  have y3 := PySem.W.mg_none_of X G z3
  have y4 := PySem.W.mg_none_of X G z4
  have y5 := PySem.W.mg_none_of X G z5
  have y6 := PySem.W.mg_none_of X G z6
  have y7 := PySem.W.mg_none_of X G z7
  have y8 := PySem.W.mg_none_of X G z8
  have y9 := PySem.W.mg_none_of X G z9
  have y10 := PySem.W.mg_none_of X G z10
  have y11 := PySem.W.mg_none_of X G z11
  refine ⟨⟨fun b => ?_, y8, y9, fun t => ?_⟩, fun i e he => ?_⟩
  · cases b
    · exact y0
    · exact y1
    · exact y2
    · exact y3
    · exact y4
    · exact y5
    · exact y6
    · exact y7
  · cases t
    · exact y1
    · exact y10
    · exact y6
    · exact y5
    · exact y11
  · match i, e, he with
    | 0, _, h => cases h; exact ⟨g0, _, fun_mk (st := top 4) l0 c0 k0, PySem.W.mg_of X G a0, fun us hl => match us, hl with | [_, _, _], _ => rfl⟩
    | 1, _, h => cases h; exact ⟨g1, _, fun_mk (st := top 5) l1 c1 k1, PySem.W.mg_of X G a1, fun us hl => match us, hl with | [_], _ => rfl⟩
    | 2, _, h => cases h; exact ⟨g2, _, fun_mk (st := top 6) l2 c2 k2, PySem.W.mg_of X G a2, fun us hl => match us, hl with | [_, _, _], _ => rfl⟩
    | 3, _, h => cases h; exact ⟨g3, _, fun_mk (st := top 8) l3 c3 k3, PySem.W.mg_of X G a3, fun us hl => match us, hl with | [_, _], _ => rfl⟩
    | 4, _, h => cases h; exact ⟨g4, _, fun_mk (st := top 9) l4 c4 k4, PySem.W.mg_of X G a4, fun us hl => match us, hl with | [_, _, _, _], _ => rfl⟩
    | 5, _, h => cases h; exact ⟨g5, _, fun_mk (st := top 10) l5 c5 k5, PySem.W.mg_of X G a5, fun us hl => match us, hl with | [_, _, _, _], _ => rfl⟩
    | 6, _, h => cases h; exact ⟨g6, _, fun_mk (st := top 12) l6 c6 k6, PySem.W.mg_of X G a6, fun us hl => match us, hl with | [_, _], _ => rfl⟩
    | 7, _, h => cases h; exact ⟨g7, _, fun_mk (st := top 13) l7 c7 k7, PySem.W.mg_of X G a7, fun us hl => match us, hl with | [_], _ => rfl⟩
    | 8, _, h => cases h; exact ⟨g8, _, fun_mk (st := top 14) l8 c8 k8, PySem.W.mg_of X G a8, fun us hl => match us, hl with | [_, _, _], _ => rfl⟩
    | 9, _, h => cases h; exact ⟨g9, _, fun_mk (st := top 15) l9 c9 k9, PySem.W.mg_of X G a9, fun us hl => match us, hl with | [_, _, _, _, _], _ => rfl⟩
    | 10, _, h => cases h; exact ⟨g10, _, fun_mk (st := top 16) l10 c10 k10, PySem.W.mg_of X G a10, fun us hl => match us, hl with | [_, _, _], _ => rfl⟩
    | 11, _, h => cases h; exact ⟨g11, _, fun_mk (st := top 17) l11 c11 k11, PySem.W.mg_of X G a11, fun us hl => match us, hl with | [_, _, _, _], _ => rfl⟩
    | 12, _, h => cases h; exact ⟨g12, _, fun_mk (st := top 18) l12 c12 k12, PySem.W.mg_of X G a12, fun us hl => match us, hl with | [_], _ => rfl⟩
    | n + 13, _, h => simp [tab] at h
abbrev T := tabT tab
abbrev lawI : Nat := 12
abbrev twV (ax ay bx by_ cx cy : Int) : Int := (bx - ax) * (cy - ay) - (by_ - ay) * (cx - ax)
theorem twice_ok {n : Nat} (hn : 1 ≤ n) {S : Store} {ax ay bx by_ cx cy : Int} {m1 m2 m3 m4 m5 m6 : Nat} [Sz m1 ax] [Sz m2 ay] [Sz m3 bx] [Sz m4 by_] [Sz m5 cx] [Sz m6 cy] (hm : m1 ≤ 1000000 ∧ m2 ≤ 1000000 ∧ m3 ≤ 1000000 ∧ m4 ≤ 1000000 ∧ m5 ≤ 1000000 ∧ m6 ≤ 1000000) :
    callT T n 0 [.tup [.int ax, .int ay], .tup [.int bx, .int by_], .tup [.int cx, .int cy]] S = .ok (.int (twV ax ay bx by_ cx cy)) S := by
  rw [call_eq (by omega) (show T 0 = some f0 from rfl), run_eq rfl]
  simp (disch := omega) only [f0, ↓r_var, ↓r_con, ↓r_bin, ↓r_neg, ↓r_not, ↓r_cmp, ↓r_chn, ↓r_and, ↓r_or, ↓r_ite, ↓r_tup, ↓r_lst, ↓r_idx, ↓r_slc, ↓r_call, ↓r_blt, ↓r_isi, ↓o_add, ↓o_sub, ↓o_neg, ↓o_lt, ↓o_le, ↓o_gt, ↓o_ge, ↓o_eq, ↓o_ne, ↓o_eqB, ↓o_neB, ↓o_isB, ↓o_isNotB, ↓o_isN, ↓o_isNotN, ↓o_ix0, ↓o_ix1, ↓o_ix2, ↓o_lenT, ↓o_abs, ↓o_intI, ↓o_intB, ↓o_isiII, ↓o_isiBB, ↓o_isiTT, ↓o_ltP, ↓o_eqP, ↓o_neP, ↓o_eqPP, ↓o_nePP, ↓o_in2, ↓o_in3, ↓r_nil, ↓r_cons, ↓r_tru, ↓x_set, ↓x_expr, ↓x_ret, ↓x_unp, ↓x_if, ↓x_brk, ↓x_cnt, ↓x_pass, ↓x_nil, ↓x_cons, ↓s_nx, ↓s_rt, ↓s_bk, ↓s_ct, ↓s_xc, ↓x_for, ↓f_nil, ↓f_cons, ↓k_nx, ↓k_ct, ↓k_bk, ↓k_rt, ↓k_xc, ↓b_nm, ↓b_tp, ↓ck_n, ↓i_val_, ↓i_T, ↓i_rng1_, ↓i_rng2_, ↓rt_ret, ↓rt_nx, ↓rt_xc, ↓getE_0, ↓getE_s, ↓setE_0, ↓setE_s, ↓setsE_0, ↓setsE_s, ↓lft_ok, ↓reduceIte, List.map_cons, List.map_nil, List.cons_append, List.nil_append, List.replicate, ↓o_modP, ↓o_fdivP, ↓o_mul, ↓o_unp2, ↓o_unp3, ↓o_unp4, ↓o_pq, ↓o_p10, ↓o_p20, ↓o_p30, ↓o_p38, ↓o_p39, ↓o_p40, ↓o_p59, ↓o_p60, sl, List.length_cons, List.length_nil, decide_true, decide_false, Bool.false_eq_true, Bool.not_true, Bool.not_false, decide_eq_true_eq, Int.reduceEq, Int.reduceNe, Int.reduceLT, Int.reduceLE, Int.reduceNeg, Int.reduceAdd, Int.reduceSub, Int.reduceMul, Nat.reduceAdd, Nat.reduceLeDiff, Nat.reduceSub, Nat.reduceMul, Int.reduceToNat, ↓x_app, ↓app_ref, ↓wk_nx, ↓iL_end, ↓ck_end, Int.cast_ofNat_Int, ↓wipe_0, ↓wipe_s, ↓clr_0, ↓clr_s, ↓r_comp, ↓c_nil, ↓c_cons, ↓bind_lft, ↓push_e0, ↓push_e1, ↓push_e2, ↓push_e3, ↓ix_e0, ↓ix_e1, ↓ix_e2, ↓unp_lit2, ↓unp_lt2, ↓unp_lt3, ↓unp_lt4]
theorem twice_k {n : Nat} (hn : 1 ≤ n) {S : Store} {ax ay bx by_ cx cy : Int} {m1 m2 m3 m4 m5 m6 : Nat} [Sz m1 ax] [Sz m2 ay] [Sz m3 bx] [Sz m4 by_] [Sz m5 cx] [Sz m6 cy] (hm : m1 ≤ 1000000 ∧ m2 ≤ 1000000 ∧ m3 ≤ 1000000 ∧ m4 ≤ 1000000 ∧ m5 ≤ 1000000 ∧ m6 ≤ 1000000) {β : Type} {q : D → Store → R β} {h : Str → Option Nat → Store → R β} :
    (callT T n 0 [.tup [.int ax, .int ay], .tup [.int bx, .int by_], .tup [.int cx, .int cy]] S).lft q h = q (.int (twV ax ay bx by_ cx cy)) S := lft_of (twice_ok hn hm)

theorem sign_ok {n : Nat} (hn : 1 ≤ n) {S : Store} {k : Int} : callT T n 1 [.int k] S = .ok (.int (sg k)) S := by
  rw [call_eq (by omega) (show T 1 = some f1 from rfl), run_eq rfl]
  simp (disch := omega) only [f1, ↓r_var, ↓r_con, ↓r_bin, ↓r_neg, ↓r_not, ↓r_cmp, ↓r_chn, ↓r_and, ↓r_or, ↓r_ite, ↓r_tup, ↓r_lst, ↓r_idx, ↓r_slc, ↓r_call, ↓r_blt, ↓r_isi, ↓o_add, ↓o_sub, ↓o_neg, ↓o_lt, ↓o_le, ↓o_gt, ↓o_ge, ↓o_eq, ↓o_ne, ↓o_eqB, ↓o_neB, ↓o_isB, ↓o_isNotB, ↓o_isN, ↓o_isNotN, ↓o_ix0, ↓o_ix1, ↓o_ix2, ↓o_lenT, ↓o_abs, ↓o_intI, ↓o_intB, ↓o_isiII, ↓o_isiBB, ↓o_isiTT, ↓o_ltP, ↓o_eqP, ↓o_neP, ↓o_eqPP, ↓o_nePP, ↓o_in2, ↓o_in3, ↓r_nil, ↓r_cons, ↓r_tru, ↓x_set, ↓x_expr, ↓x_ret, ↓x_unp, ↓x_if, ↓x_brk, ↓x_cnt, ↓x_pass, ↓x_nil, ↓x_cons, ↓s_nx, ↓s_rt, ↓s_bk, ↓s_ct, ↓s_xc, ↓x_for, ↓f_nil, ↓f_cons, ↓k_nx, ↓k_ct, ↓k_bk, ↓k_rt, ↓k_xc, ↓b_nm, ↓b_tp, ↓ck_n, ↓i_val_, ↓i_T, ↓i_rng1_, ↓i_rng2_, ↓rt_ret, ↓rt_nx, ↓rt_xc, ↓getE_0, ↓getE_s, ↓setE_0, ↓setE_s, ↓setsE_0, ↓setsE_s, ↓lft_ok, ↓reduceIte, List.map_cons, List.map_nil, List.cons_append, List.nil_append, List.replicate, ↓o_modP, ↓o_fdivP, ↓o_mul, ↓o_unp2, ↓o_unp3, ↓o_unp4, ↓o_pq, ↓o_p10, ↓o_p20, ↓o_p30, ↓o_p38, ↓o_p39, ↓o_p40, ↓o_p59, ↓o_p60, sl, List.length_cons, List.length_nil, decide_true, decide_false, Bool.false_eq_true, Bool.not_true, Bool.not_false, decide_eq_true_eq, Int.reduceEq, Int.reduceNe, Int.reduceLT, Int.reduceLE, Int.reduceNeg, Int.reduceAdd, Int.reduceSub, Int.reduceMul, Nat.reduceAdd, Nat.reduceLeDiff, Nat.reduceSub, Nat.reduceMul, Int.reduceToNat, ↓x_app, ↓app_ref, ↓wk_nx, ↓iL_end, ↓ck_end, Int.cast_ofNat_Int, ↓wipe_0, ↓wipe_s, ↓clr_0, ↓clr_s, ↓r_comp, ↓c_nil, ↓c_cons, ↓bind_lft, ↓push_e0, ↓push_e1, ↓push_e2, ↓push_e3, ↓ix_e0, ↓ix_e1, ↓ix_e2, ↓unp_lit2, ↓unp_lt2, ↓unp_lt3, ↓unp_lt4]
  unfold sg
  by_cases h : 0 < k
  · simp [h]
  · by_cases h2 : k < 0 <;> simp [h, h2]
theorem sign_k {n : Nat} (hn : 1 ≤ n) {S : Store} {k : Int} {β : Type} {q : D → Store → R β} {h : Str → Option Nat → Store → R β} : (callT T n 1 [.int k] S).lft q h = q (.int (sg k)) S := lft_of (sign_ok hn)

theorem turn_ok {n : Nat} (hn : 2 ≤ n) {S : Store} {ax ay bx by_ cx cy : Int} {m1 m2 m3 m4 m5 m6 : Nat} [Sz m1 ax] [Sz m2 ay] [Sz m3 bx] [Sz m4 by_] [Sz m5 cx] [Sz m6 cy] (hm : m1 ≤ 1000000 ∧ m2 ≤ 1000000 ∧ m3 ≤ 1000000 ∧ m4 ≤ 1000000 ∧ m5 ≤ 1000000 ∧ m6 ≤ 1000000) :
    callT T n 2 [.tup [.int ax, .int ay], .tup [.int bx, .int by_], .tup [.int cx, .int cy]] S = .ok (.int (sg (twV ax ay bx by_ cx cy))) S := by
  rw [call_eq (by omega) (show T 2 = some f2 from rfl), run_eq rfl]
  simp (disch := omega) only [f2, ↓r_var, ↓r_con, ↓r_bin, ↓r_neg, ↓r_not, ↓r_cmp, ↓r_chn, ↓r_and, ↓r_or, ↓r_ite, ↓r_tup, ↓r_lst, ↓r_idx, ↓r_slc, ↓r_call, ↓r_blt, ↓r_isi, ↓o_add, ↓o_sub, ↓o_neg, ↓o_lt, ↓o_le, ↓o_gt, ↓o_ge, ↓o_eq, ↓o_ne, ↓o_eqB, ↓o_neB, ↓o_isB, ↓o_isNotB, ↓o_isN, ↓o_isNotN, ↓o_ix0, ↓o_ix1, ↓o_ix2, ↓o_lenT, ↓o_abs, ↓o_intI, ↓o_intB, ↓o_isiII, ↓o_isiBB, ↓o_isiTT, ↓o_ltP, ↓o_eqP, ↓o_neP, ↓o_eqPP, ↓o_nePP, ↓o_in2, ↓o_in3, ↓r_nil, ↓r_cons, ↓r_tru, ↓x_set, ↓x_expr, ↓x_ret, ↓x_unp, ↓x_if, ↓x_brk, ↓x_cnt, ↓x_pass, ↓x_nil, ↓x_cons, ↓s_nx, ↓s_rt, ↓s_bk, ↓s_ct, ↓s_xc, ↓x_for, ↓f_nil, ↓f_cons, ↓k_nx, ↓k_ct, ↓k_bk, ↓k_rt, ↓k_xc, ↓b_nm, ↓b_tp, ↓ck_n, ↓i_val_, ↓i_T, ↓i_rng1_, ↓i_rng2_, ↓rt_ret, ↓rt_nx, ↓rt_xc, ↓getE_0, ↓getE_s, ↓setE_0, ↓setE_s, ↓setsE_0, ↓setsE_s, ↓lft_ok, ↓reduceIte, List.map_cons, List.map_nil, List.cons_append, List.nil_append, List.replicate, ↓o_modP, ↓o_fdivP, ↓o_mul, ↓o_unp2, ↓o_unp3, ↓o_unp4, ↓o_pq, ↓o_p10, ↓o_p20, ↓o_p30, ↓o_p38, ↓o_p39, ↓o_p40, ↓o_p59, ↓o_p60, sl, List.length_cons, List.length_nil, decide_true, decide_false, Bool.false_eq_true, Bool.not_true, Bool.not_false, decide_eq_true_eq, Int.reduceEq, Int.reduceNe, Int.reduceLT, Int.reduceLE, Int.reduceNeg, Int.reduceAdd, Int.reduceSub, Int.reduceMul, Nat.reduceAdd, Nat.reduceLeDiff, Nat.reduceSub, Nat.reduceMul, Int.reduceToNat, ↓x_app, ↓app_ref, ↓wk_nx, ↓iL_end, ↓ck_end, Int.cast_ofNat_Int, ↓wipe_0, ↓wipe_s, ↓clr_0, ↓clr_s, ↓r_comp, ↓c_nil, ↓c_cons, ↓bind_lft, ↓push_e0, ↓push_e1, ↓push_e2, ↓push_e3, ↓ix_e0, ↓ix_e1, ↓ix_e2, ↓unp_lit2, ↓unp_lt2, ↓unp_lt3, ↓unp_lt4, ↓twice_k, ↓sign_k]
theorem turn_k {n : Nat} (hn : 2 ≤ n) {S : Store} {ax ay bx by_ cx cy : Int} {m1 m2 m3 m4 m5 m6 : Nat} [Sz m1 ax] [Sz m2 ay] [Sz m3 bx] [Sz m4 by_] [Sz m5 cx] [Sz m6 cy] (hm : m1 ≤ 1000000 ∧ m2 ≤ 1000000 ∧ m3 ≤ 1000000 ∧ m4 ≤ 1000000 ∧ m5 ≤ 1000000 ∧ m6 ≤ 1000000) {β : Type} {q : D → Store → R β} {h : Str → Option Nat → Store → R β} :
    (callT T n 2 [.tup [.int ax, .int ay], .tup [.int bx, .int by_], .tup [.int cx, .int cy]] S).lft q h = q (.int (sg (twV ax ay bx by_ cx cy))) S := lft_of (turn_ok hn hm)

abbrev heV (ax ay dx dy : Int) : Int := (ax - dx) * (ax - dx) + (ay - dy) * (ay - dy)
theorem height_ok {n : Nat} (hn : 1 ≤ n) {S : Store} {ax ay dx dy : Int} {m1 m2 m3 m4 : Nat} [Sz m1 ax] [Sz m2 ay] [Sz m3 dx] [Sz m4 dy] (hm : m1 ≤ 1000000 ∧ m2 ≤ 1000000 ∧ m3 ≤ 1000000 ∧ m4 ≤ 1000000) :
    callT T n 3 [.tup [.int ax, .int ay], .tup [.int dx, .int dy]] S = .ok (.int (heV ax ay dx dy)) S := by
  rw [call_eq (by omega) (show T 3 = some f3 from rfl), run_eq rfl]
  simp (disch := omega) only [f3, ↓r_var, ↓r_con, ↓r_bin, ↓r_neg, ↓r_not, ↓r_cmp, ↓r_chn, ↓r_and, ↓r_or, ↓r_ite, ↓r_tup, ↓r_lst, ↓r_idx, ↓r_slc, ↓r_call, ↓r_blt, ↓r_isi, ↓o_add, ↓o_sub, ↓o_neg, ↓o_lt, ↓o_le, ↓o_gt, ↓o_ge, ↓o_eq, ↓o_ne, ↓o_eqB, ↓o_neB, ↓o_isB, ↓o_isNotB, ↓o_isN, ↓o_isNotN, ↓o_ix0, ↓o_ix1, ↓o_ix2, ↓o_lenT, ↓o_abs, ↓o_intI, ↓o_intB, ↓o_isiII, ↓o_isiBB, ↓o_isiTT, ↓o_ltP, ↓o_eqP, ↓o_neP, ↓o_eqPP, ↓o_nePP, ↓o_in2, ↓o_in3, ↓r_nil, ↓r_cons, ↓r_tru, ↓x_set, ↓x_expr, ↓x_ret, ↓x_unp, ↓x_if, ↓x_brk, ↓x_cnt, ↓x_pass, ↓x_nil, ↓x_cons, ↓s_nx, ↓s_rt, ↓s_bk, ↓s_ct, ↓s_xc, ↓x_for, ↓f_nil, ↓f_cons, ↓k_nx, ↓k_ct, ↓k_bk, ↓k_rt, ↓k_xc, ↓b_nm, ↓b_tp, ↓ck_n, ↓i_val_, ↓i_T, ↓i_rng1_, ↓i_rng2_, ↓rt_ret, ↓rt_nx, ↓rt_xc, ↓getE_0, ↓getE_s, ↓setE_0, ↓setE_s, ↓setsE_0, ↓setsE_s, ↓lft_ok, ↓reduceIte, List.map_cons, List.map_nil, List.cons_append, List.nil_append, List.replicate, ↓o_modP, ↓o_fdivP, ↓o_mul, ↓o_unp2, ↓o_unp3, ↓o_unp4, ↓o_pq, ↓o_p10, ↓o_p20, ↓o_p30, ↓o_p38, ↓o_p39, ↓o_p40, ↓o_p59, ↓o_p60, sl, List.length_cons, List.length_nil, decide_true, decide_false, Bool.false_eq_true, Bool.not_true, Bool.not_false, decide_eq_true_eq, Int.reduceEq, Int.reduceNe, Int.reduceLT, Int.reduceLE, Int.reduceNeg, Int.reduceAdd, Int.reduceSub, Int.reduceMul, Nat.reduceAdd, Nat.reduceLeDiff, Nat.reduceSub, Nat.reduceMul, Int.reduceToNat, ↓x_app, ↓app_ref, ↓wk_nx, ↓iL_end, ↓ck_end, Int.cast_ofNat_Int, ↓wipe_0, ↓wipe_s, ↓clr_0, ↓clr_s, ↓r_comp, ↓c_nil, ↓c_cons, ↓bind_lft, ↓push_e0, ↓push_e1, ↓push_e2, ↓push_e3, ↓ix_e0, ↓ix_e1, ↓ix_e2, ↓unp_lit2, ↓unp_lt2, ↓unp_lt3, ↓unp_lt4]
theorem height_k {n : Nat} (hn : 1 ≤ n) {S : Store} {ax ay dx dy : Int} {m1 m2 m3 m4 : Nat} [Sz m1 ax] [Sz m2 ay] [Sz m3 dx] [Sz m4 dy] (hm : m1 ≤ 1000000 ∧ m2 ≤ 1000000 ∧ m3 ≤ 1000000 ∧ m4 ≤ 1000000) {β : Type} {q : D → Store → R β} {h : Str → Option Nat → Store → R β} :
    (callT T n 3 [.tup [.int ax, .int ay], .tup [.int dx, .int dy]] S).lft q h = q (.int (heV ax ay dx dy)) S := lft_of (height_ok hn hm)

abbrev boV (ax ay bx by_ cx cy dx dy : Int) : Int := heV ax ay dx dy * twV dx dy bx by_ cx cy + heV bx by_ dx dy * twV dx dy cx cy ax ay + heV cx cy dx dy * twV dx dy ax ay bx by_
abbrev riV (ax ay bx by_ cx cy dx dy : Int) : Int := sg (twV ax ay bx by_ cx cy) * sg (boV ax ay bx by_ cx cy dx dy)
theorem ring_ok {n : Nat} (hn : 3 ≤ n) {S : Store} {ax ay bx by_ cx cy dx dy : Int} [Sz 1000 ax] [Sz 1000 ay] [Sz 1000 bx] [Sz 1000 by_] [Sz 1000 cx] [Sz 1000 cy] [Sz 1000 dx] [Sz 1000 dy] (h0 : sg (twV ax ay bx by_ cx cy) ≠ 0) :
    callT T n 4 [.tup [.int ax, .int ay], .tup [.int bx, .int by_], .tup [.int cx, .int cy], .tup [.int dx, .int dy]] S = .ok (.int (riV ax ay bx by_ cx cy dx dy)) S := by
  rw [call_eq (by omega) (show T 4 = some f4 from rfl), run_eq rfl]
  simp (maxSteps := 10000000) (disch := omega) only [f4, ↓r_var, ↓r_con, ↓r_bin, ↓r_neg, ↓r_not, ↓r_cmp, ↓r_chn, ↓r_and, ↓r_or, ↓r_ite, ↓r_tup, ↓r_lst, ↓r_idx, ↓r_slc, ↓r_call, ↓r_blt, ↓r_isi, ↓o_add, ↓o_sub, ↓o_neg, ↓o_lt, ↓o_le, ↓o_gt, ↓o_ge, ↓o_eq, ↓o_ne, ↓o_eqB, ↓o_neB, ↓o_isB, ↓o_isNotB, ↓o_isN, ↓o_isNotN, ↓o_ix0, ↓o_ix1, ↓o_ix2, ↓o_lenT, ↓o_abs, ↓o_intI, ↓o_intB, ↓o_isiII, ↓o_isiBB, ↓o_isiTT, ↓o_ltP, ↓o_eqP, ↓o_neP, ↓o_eqPP, ↓o_nePP, ↓o_in2, ↓o_in3, ↓r_nil, ↓r_cons, ↓r_tru, ↓x_set, ↓x_expr, ↓x_ret, ↓x_unp, ↓x_if, ↓x_brk, ↓x_cnt, ↓x_pass, ↓x_nil, ↓x_cons, ↓s_nx, ↓s_rt, ↓s_bk, ↓s_ct, ↓s_xc, ↓x_for, ↓f_nil, ↓f_cons, ↓k_nx, ↓k_ct, ↓k_bk, ↓k_rt, ↓k_xc, ↓b_nm, ↓b_tp, ↓ck_n, ↓i_val_, ↓i_T, ↓i_rng1_, ↓i_rng2_, ↓rt_ret, ↓rt_nx, ↓rt_xc, ↓getE_0, ↓getE_s, ↓setE_0, ↓setE_s, ↓setsE_0, ↓setsE_s, ↓lft_ok, ↓reduceIte, List.map_cons, List.map_nil, List.cons_append, List.nil_append, List.replicate, ↓o_modP, ↓o_fdivP, ↓o_mul, ↓o_unp2, ↓o_unp3, ↓o_unp4, ↓o_pq, ↓o_p10, ↓o_p20, ↓o_p30, ↓o_p38, ↓o_p39, ↓o_p40, ↓o_p59, ↓o_p60, sl, List.length_cons, List.length_nil, decide_true, decide_false, Bool.false_eq_true, Bool.not_true, Bool.not_false, decide_eq_true_eq, Int.reduceEq, Int.reduceNe, Int.reduceLT, Int.reduceLE, Int.reduceNeg, Int.reduceAdd, Int.reduceSub, Int.reduceMul, Nat.reduceAdd, Nat.reduceLeDiff, Nat.reduceSub, Nat.reduceMul, Int.reduceToNat, ↓x_app, ↓app_ref, ↓wk_nx, ↓iL_end, ↓ck_end, Int.cast_ofNat_Int, ↓wipe_0, ↓wipe_s, ↓clr_0, ↓clr_s, ↓r_comp, ↓c_nil, ↓c_cons, ↓bind_lft, ↓push_e0, ↓push_e1, ↓push_e2, ↓push_e3, ↓ix_e0, ↓ix_e1, ↓ix_e2, ↓unp_lit2, ↓unp_lt2, ↓unp_lt3, ↓unp_lt4, ↓height_k, ↓twice_k, ↓turn_k, ↓sign_k, h0]
theorem ring_k {n : Nat} (hn : 3 ≤ n) {S : Store} {ax ay bx by_ cx cy dx dy : Int} [Sz 1000 ax] [Sz 1000 ay] [Sz 1000 bx] [Sz 1000 by_] [Sz 1000 cx] [Sz 1000 cy] [Sz 1000 dx] [Sz 1000 dy] (h0 : sg (twV ax ay bx by_ cx cy) ≠ 0) {β : Type} {q : D → Store → R β} {h : Str → Option Nat → Store → R β} :
    (callT T n 4 [.tup [.int ax, .int ay], .tup [.int bx, .int by_], .tup [.int cx, .int cy], .tup [.int dx, .int dy]] S).lft q h = q (.int (riV ax ay bx by_ cx cy dx dy)) S := lft_of (ring_ok hn h0)
theorem sg_zero {x : Int} : sg x = 0 ↔ x = 0 := by
  unfold sg
  constructor
  · intro h
    split at h
    · omega
    · split at h
      · omega
      · omega
  · intro h; rw [h]; rfl

/-- who spoils, the answer of spoils -/
def spV (ax ay bx by_ cx cy dx dy : Int) : Bool := decide (
  if riV ax ay bx by_ cx cy dx dy ≠ 0 ∨ (ax = dx ∧ ay = dy) ∨ (bx = dx ∧ by_ = dy) ∨ (cx = dx ∧ cy = dy) then riV ax ay bx by_ cx cy dx dy = 1
  else if lxP dx dy ax ay ∧ lxP dx dy bx by_ ∧ lxP dx dy cx cy then True
  else if ¬ lxP bx by_ ax ay ∧ ¬ lxP cx cy ax ay then sg (twV bx by_ cx cy ax ay) * sg (twV bx by_ cx cy dx dy) < 0
  else if ¬ lxP ax ay bx by_ ∧ ¬ lxP cx cy bx by_ then sg (twV ax ay cx cy bx by_) * sg (twV ax ay cx cy dx dy) < 0
  else sg (twV ax ay bx by_ cx cy) * sg (twV ax ay bx by_ dx dy) < 0)
theorem spoils_ok {n : Nat} (hn : 4 ≤ n) {S : Store} {ax ay bx by_ cx cy dx dy : Int} [Sz 1000 ax] [Sz 1000 ay] [Sz 1000 bx] [Sz 1000 by_] [Sz 1000 cx] [Sz 1000 cy] [Sz 1000 dx] [Sz 1000 dy] (h0 : sg (twV ax ay bx by_ cx cy) ≠ 0) :
    ∃ U, callT T n 5 [.tup [.int ax, .int ay], .tup [.int bx, .int by_], .tup [.int cx, .int cy], .tup [.int dx, .int dy]] S = .ok (.bl (spV ax ay bx by_ cx cy dx dy)) (S ++ U) := by
  have h0' : twV ax ay bx by_ cx cy ≠ 0 := fun z => h0 (by rw [z]; rfl)
  have nab : ¬ (bx = ax ∧ by_ = ay) := fun ⟨a, b⟩ => h0' (by subst a b; unfold twV; grind)
  have nac : ¬ (cx = ax ∧ cy = ay) := fun ⟨a, b⟩ => h0' (by subst a b; unfold twV; grind)
  have nbc : ¬ (cx = bx ∧ cy = by_) := fun ⟨a, b⟩ => h0' (by subst a b; unfold twV; grind)
  have nba : ¬ (ax = bx ∧ ay = by_) := fun ⟨a, b⟩ => nab ⟨a.symm, b.symm⟩
  have nca : ¬ (ax = cx ∧ ay = cy) := fun ⟨a, b⟩ => nac ⟨a.symm, b.symm⟩
  have ncb : ¬ (bx = cx ∧ by_ = cy) := fun ⟨a, b⟩ => nbc ⟨a.symm, b.symm⟩
  have q1 : ∀ {S : Store} {β : Type} {q : D → Store → R β} {h : Str → Option Nat → Store → R β}, _ := fun {S β q h} => ring_k (n := n - 1) (by omega) (S := S) (dx := dx) (dy := dy) h0 (q := q) (h := h)
  rw [call_eq (by omega) (show T 5 = some f5 from rfl), run_eq rfl]
  unfold spV
  by_cases h1 : riV ax ay bx by_ cx cy dx dy = 0
  · by_cases h2 : (ax = dx ∧ ay = dy) ∨ (bx = dx ∧ by_ = dy) ∨ (cx = dx ∧ cy = dy)
    · simp (maxSteps := 10000000) (disch := omega) only [f5, ↓r_var, ↓r_con, ↓r_bin, ↓r_neg, ↓r_not, ↓r_cmp, ↓r_chn, ↓r_and, ↓r_or, ↓r_ite, ↓r_tup, ↓r_lst, ↓r_idx, ↓r_slc, ↓r_call, ↓r_blt, ↓r_isi, ↓o_add, ↓o_sub, ↓o_neg, ↓o_lt, ↓o_le, ↓o_gt, ↓o_ge, ↓o_eq, ↓o_ne, ↓o_eqB, ↓o_neB, ↓o_isB, ↓o_isNotB, ↓o_isN, ↓o_isNotN, ↓o_ix0, ↓o_ix1, ↓o_ix2, ↓o_lenT, ↓o_abs, ↓o_intI, ↓o_intB, ↓o_isiII, ↓o_isiBB, ↓o_isiTT, ↓o_ltL, ↓o_eqP, ↓o_neP, ↓o_eqPP, ↓o_nePP, ↓o_in2, ↓o_in3, ↓r_nil, ↓r_cons, ↓r_tru, ↓x_set, ↓x_expr, ↓x_ret, ↓x_unp, ↓x_if, ↓x_brk, ↓x_cnt, ↓x_pass, ↓x_nil, ↓x_cons, ↓s_nx, ↓s_rt, ↓s_bk, ↓s_ct, ↓s_xc, ↓x_for, ↓f_nil, ↓f_cons, ↓k_nx, ↓k_ct, ↓k_bk, ↓k_rt, ↓k_xc, ↓b_nm, ↓b_tp, ↓ck_n, ↓i_val_, ↓i_T, ↓i_rng1_, ↓i_rng2_, ↓rt_ret, ↓rt_nx, ↓rt_xc, ↓getE_0, ↓getE_s, ↓setE_0, ↓setE_s, ↓setsE_0, ↓setsE_s, ↓lft_ok, ↓reduceIte, List.map_cons, List.map_nil, List.cons_append, List.nil_append, List.replicate, ↓o_modP, ↓o_fdivP, ↓o_mul, ↓o_unp2, ↓o_unp3, ↓o_unp4, ↓o_pq, ↓o_p10, ↓o_p20, ↓o_p30, ↓o_p38, ↓o_p39, ↓o_p40, ↓o_p59, ↓o_p60, sl, List.length_cons, List.length_nil, decide_true, decide_false, Bool.false_eq_true, Bool.not_true, Bool.not_false, decide_eq_true_eq, Int.reduceEq, Int.reduceNe, Int.reduceLT, Int.reduceLE, Int.reduceNeg, Int.reduceAdd, Int.reduceSub, Int.reduceMul, Nat.reduceAdd, Nat.reduceLeDiff, Nat.reduceSub, Nat.reduceMul, Int.reduceToNat, ↓x_app, ↓app_ref, ↓wk_nx, ↓iL_end, ↓ck_end, Int.cast_ofNat_Int, ↓wipe_0, ↓wipe_s, ↓clr_0, ↓clr_s, ↓r_comp, ↓c_nil, ↓c_cons, ↓bind_lft, ↓push_e0, ↓push_e1, ↓push_e2, ↓push_e3, ↓ix_e0, ↓ix_e1, ↓ix_e2, ↓unp_lit2, ↓unp_lt2, ↓unp_lt3, ↓unp_lt4, ↓q1, h1, h2, or_true, not_true_eq_false, ne_eq, false_or]
      exact ⟨[], by simp⟩
    · obtain ⟨mx, my, em, hm, l1, l2, l3⟩ := min3 (S := S) (ax := ax) (ay := ay) (bx := bx) (by_ := by_) (cx := cx) (cy := cy)
      have em' : ∀ {β : Type} {q : D → Store → R β} {h : Str → Option Nat → Store → R β}, _ := fun {β q h} => lft_of (k := q) (h := h) em
      have dd := lx_least (dx := dx) (dy := dy) hm l1 l2 l3
      have e2 : ((ax = dx ∧ ay = dy) ∨ (bx = dx ∧ by_ = dy) ∨ (cx = dx ∧ cy = dy)) = False := eq_false h2
      clear h2
      have fab := eq_false nab
      have fac := eq_false nac
      have fbc := eq_false nbc
      have fba := eq_false nba
      have fca := eq_false nca
      have fcb := eq_false ncb
      by_cases h3 : lxP dx dy mx my
      · have h3' : (lxP dx dy ax ay ∧ lxP dx dy bx by_ ∧ lxP dx dy cx cy) = True := eq_true (dd.mpr h3)
        clear nab nac nbc nba nca ncb hm dd
        simp (maxSteps := 10000000) (disch := omega) only [f5, ↓r_var, ↓r_con, ↓r_bin, ↓r_neg, ↓r_not, ↓r_cmp, ↓r_chn, ↓r_and, ↓r_or, ↓r_ite, ↓r_tup, ↓r_lst, ↓r_idx, ↓r_slc, ↓r_call, ↓r_blt, ↓r_isi, ↓o_add, ↓o_sub, ↓o_neg, ↓o_lt, ↓o_le, ↓o_gt, ↓o_ge, ↓o_eq, ↓o_ne, ↓o_eqB, ↓o_neB, ↓o_isB, ↓o_isNotB, ↓o_isN, ↓o_isNotN, ↓o_ix0, ↓o_ix1, ↓o_ix2, ↓o_lenT, ↓o_abs, ↓o_intI, ↓o_intB, ↓o_isiII, ↓o_isiBB, ↓o_isiTT, ↓o_ltL, ↓o_eqP, ↓o_neP, ↓o_eqPP, ↓o_nePP, ↓o_in2, ↓o_in3, ↓r_nil, ↓r_cons, ↓r_tru, ↓x_set, ↓x_expr, ↓x_ret, ↓x_unp, ↓x_if, ↓x_brk, ↓x_cnt, ↓x_pass, ↓x_nil, ↓x_cons, ↓s_nx, ↓s_rt, ↓s_bk, ↓s_ct, ↓s_xc, ↓x_for, ↓f_nil, ↓f_cons, ↓k_nx, ↓k_ct, ↓k_bk, ↓k_rt, ↓k_xc, ↓b_nm, ↓b_tp, ↓ck_n, ↓i_val_, ↓i_T, ↓i_rng1_, ↓i_rng2_, ↓rt_ret, ↓rt_nx, ↓rt_xc, ↓getE_0, ↓getE_s, ↓setE_0, ↓setE_s, ↓setsE_0, ↓setsE_s, ↓lft_ok, ↓reduceIte, List.map_cons, List.map_nil, List.cons_append, List.nil_append, List.replicate, ↓o_modP, ↓o_fdivP, ↓o_mul, ↓o_unp2, ↓o_unp3, ↓o_unp4, ↓o_pq, ↓o_p10, ↓o_p20, ↓o_p30, ↓o_p38, ↓o_p39, ↓o_p40, ↓o_p59, ↓o_p60, sl, List.length_cons, List.length_nil, decide_true, decide_false, Bool.false_eq_true, Bool.not_true, Bool.not_false, decide_eq_true_eq, Int.reduceEq, Int.reduceNe, Int.reduceLT, Int.reduceLE, Int.reduceNeg, Int.reduceAdd, Int.reduceSub, Int.reduceMul, Nat.reduceAdd, Nat.reduceLeDiff, Nat.reduceSub, Nat.reduceMul, Int.reduceToNat, ↓x_app, ↓app_ref, ↓wk_nx, ↓iL_end, ↓ck_end, Int.cast_ofNat_Int, ↓wipe_0, ↓wipe_s, ↓clr_0, ↓clr_s, ↓r_comp, ↓c_nil, ↓c_cons, ↓bind_lft, ↓push_e0, ↓push_e1, ↓push_e2, ↓push_e3, ↓ix_e0, ↓ix_e1, ↓ix_e2, ↓unp_lit2, ↓unp_lt2, ↓unp_lt3, ↓unp_lt4, ↓q1, h1, e2, ↓em', h3, h3', not_true_eq_false, ne_eq, false_or]
        exact ⟨[], by simp⟩
      · have h3'' : (lxP dx dy ax ay ∧ lxP dx dy bx by_ ∧ lxP dx dy cx cy) = False := eq_false (fun z => h3 (dd.mp z))
        clear dd
        rcases hm with ⟨rfl, rfl⟩ | ⟨rfl, rfl⟩ | ⟨rfl, rfl⟩
        · have c1 : (¬ lxP bx by_ mx my ∧ ¬ lxP cx cy mx my) = True := eq_true ⟨l2, l3⟩
          clear nab nac nbc nba nca ncb
          simp (maxSteps := 10000000) (disch := omega) only [f5, ↓r_var, ↓r_con, ↓r_bin, ↓r_neg, ↓r_not, ↓r_cmp, ↓r_chn, ↓r_and, ↓r_or, ↓r_ite, ↓r_tup, ↓r_lst, ↓r_idx, ↓r_slc, ↓r_call, ↓r_blt, ↓r_isi, ↓o_add, ↓o_sub, ↓o_neg, ↓o_lt, ↓o_le, ↓o_gt, ↓o_ge, ↓o_eq, ↓o_ne, ↓o_eqB, ↓o_neB, ↓o_isB, ↓o_isNotB, ↓o_isN, ↓o_isNotN, ↓o_ix0, ↓o_ix1, ↓o_ix2, ↓o_lenT, ↓o_abs, ↓o_intI, ↓o_intB, ↓o_isiII, ↓o_isiBB, ↓o_isiTT, ↓o_ltL, ↓o_eqP, ↓o_neP, ↓o_eqPP, ↓o_nePP, ↓o_in2, ↓o_in3, ↓r_nil, ↓r_cons, ↓r_tru, ↓x_set, ↓x_expr, ↓x_ret, ↓x_unp, ↓x_if, ↓x_brk, ↓x_cnt, ↓x_pass, ↓x_nil, ↓x_cons, ↓s_nx, ↓s_rt, ↓s_bk, ↓s_ct, ↓s_xc, ↓x_for, ↓f_nil, ↓f_cons, ↓k_nx, ↓k_ct, ↓k_bk, ↓k_rt, ↓k_xc, ↓b_nm, ↓b_tp, ↓ck_n, ↓i_val_, ↓i_T, ↓i_rng1_, ↓i_rng2_, ↓rt_ret, ↓rt_nx, ↓rt_xc, ↓getE_0, ↓getE_s, ↓setE_0, ↓setE_s, ↓setsE_0, ↓setsE_s, ↓lft_ok, ↓reduceIte, List.map_cons, List.map_nil, List.cons_append, List.nil_append, List.replicate, ↓o_modP, ↓o_fdivP, ↓o_mul, ↓o_unp2, ↓o_unp3, ↓o_unp4, ↓o_pq, ↓o_p10, ↓o_p20, ↓o_p30, ↓o_p38, ↓o_p39, ↓o_p40, ↓o_p59, ↓o_p60, sl, List.length_cons, List.length_nil, decide_true, decide_false, Bool.false_eq_true, Bool.not_true, Bool.not_false, decide_eq_true_eq, Int.reduceEq, Int.reduceNe, Int.reduceLT, Int.reduceLE, Int.reduceNeg, Int.reduceAdd, Int.reduceSub, Int.reduceMul, Nat.reduceAdd, Nat.reduceLeDiff, Nat.reduceSub, Nat.reduceMul, Int.reduceToNat, ↓x_app, ↓app_ref, ↓wk_nx, ↓iL_end, ↓ck_end, Int.cast_ofNat_Int, ↓wipe_0, ↓wipe_s, ↓clr_0, ↓clr_s, ↓r_comp, ↓c_nil, ↓c_cons, ↓bind_lft, ↓push_e0, ↓push_e1, ↓push_e2, ↓push_e3, ↓ix_e0, ↓ix_e1, ↓ix_e2, ↓unp_lit2, ↓unp_lt2, ↓unp_lt3, ↓unp_lt4, ↓q1, h1, e2, ↓em', h3, h3'', c1, fab, fac, ↓unp_mid2, ↓turn_k, and_self, false_and, and_false, not_true_eq_false, ne_eq, false_or]
          exact ⟨_, rfl⟩
        · have c1 : (¬ lxP mx my ax ay ∧ ¬ lxP cx cy ax ay) = False := eq_false (fun ⟨z, _⟩ => z (lx_tot l1 nba))
          have c2 : (¬ lxP ax ay mx my ∧ ¬ lxP cx cy mx my) = True := eq_true ⟨l1, l3⟩
          clear nab nac nbc nba nca ncb
          simp (maxSteps := 10000000) (disch := omega) only [f5, ↓r_var, ↓r_con, ↓r_bin, ↓r_neg, ↓r_not, ↓r_cmp, ↓r_chn, ↓r_and, ↓r_or, ↓r_ite, ↓r_tup, ↓r_lst, ↓r_idx, ↓r_slc, ↓r_call, ↓r_blt, ↓r_isi, ↓o_add, ↓o_sub, ↓o_neg, ↓o_lt, ↓o_le, ↓o_gt, ↓o_ge, ↓o_eq, ↓o_ne, ↓o_eqB, ↓o_neB, ↓o_isB, ↓o_isNotB, ↓o_isN, ↓o_isNotN, ↓o_ix0, ↓o_ix1, ↓o_ix2, ↓o_lenT, ↓o_abs, ↓o_intI, ↓o_intB, ↓o_isiII, ↓o_isiBB, ↓o_isiTT, ↓o_ltL, ↓o_eqP, ↓o_neP, ↓o_eqPP, ↓o_nePP, ↓o_in2, ↓o_in3, ↓r_nil, ↓r_cons, ↓r_tru, ↓x_set, ↓x_expr, ↓x_ret, ↓x_unp, ↓x_if, ↓x_brk, ↓x_cnt, ↓x_pass, ↓x_nil, ↓x_cons, ↓s_nx, ↓s_rt, ↓s_bk, ↓s_ct, ↓s_xc, ↓x_for, ↓f_nil, ↓f_cons, ↓k_nx, ↓k_ct, ↓k_bk, ↓k_rt, ↓k_xc, ↓b_nm, ↓b_tp, ↓ck_n, ↓i_val_, ↓i_T, ↓i_rng1_, ↓i_rng2_, ↓rt_ret, ↓rt_nx, ↓rt_xc, ↓getE_0, ↓getE_s, ↓setE_0, ↓setE_s, ↓setsE_0, ↓setsE_s, ↓lft_ok, ↓reduceIte, List.map_cons, List.map_nil, List.cons_append, List.nil_append, List.replicate, ↓o_modP, ↓o_fdivP, ↓o_mul, ↓o_unp2, ↓o_unp3, ↓o_unp4, ↓o_pq, ↓o_p10, ↓o_p20, ↓o_p30, ↓o_p38, ↓o_p39, ↓o_p40, ↓o_p59, ↓o_p60, sl, List.length_cons, List.length_nil, decide_true, decide_false, Bool.false_eq_true, Bool.not_true, Bool.not_false, decide_eq_true_eq, Int.reduceEq, Int.reduceNe, Int.reduceLT, Int.reduceLE, Int.reduceNeg, Int.reduceAdd, Int.reduceSub, Int.reduceMul, Nat.reduceAdd, Nat.reduceLeDiff, Nat.reduceSub, Nat.reduceMul, Int.reduceToNat, ↓x_app, ↓app_ref, ↓wk_nx, ↓iL_end, ↓ck_end, Int.cast_ofNat_Int, ↓wipe_0, ↓wipe_s, ↓clr_0, ↓clr_s, ↓r_comp, ↓c_nil, ↓c_cons, ↓bind_lft, ↓push_e0, ↓push_e1, ↓push_e2, ↓push_e3, ↓ix_e0, ↓ix_e1, ↓ix_e2, ↓unp_lit2, ↓unp_lt2, ↓unp_lt3, ↓unp_lt4, ↓q1, h1, e2, ↓em', h3, h3'', c1, c2, fba, fbc, ↓unp_mid2, ↓turn_k, and_self, false_and, and_false, not_true_eq_false, ne_eq, false_or]
          exact ⟨_, rfl⟩
        · have c1 : (¬ lxP bx by_ ax ay ∧ ¬ lxP mx my ax ay) = False := eq_false (fun ⟨_, z⟩ => z (lx_tot l1 nca))
          have c2 : (¬ lxP ax ay bx by_ ∧ ¬ lxP mx my bx by_) = False := eq_false (fun ⟨_, z⟩ => z (lx_tot l2 ncb))
          clear nab nac nbc nba nca ncb
          simp (maxSteps := 10000000) (disch := omega) only [f5, ↓r_var, ↓r_con, ↓r_bin, ↓r_neg, ↓r_not, ↓r_cmp, ↓r_chn, ↓r_and, ↓r_or, ↓r_ite, ↓r_tup, ↓r_lst, ↓r_idx, ↓r_slc, ↓r_call, ↓r_blt, ↓r_isi, ↓o_add, ↓o_sub, ↓o_neg, ↓o_lt, ↓o_le, ↓o_gt, ↓o_ge, ↓o_eq, ↓o_ne, ↓o_eqB, ↓o_neB, ↓o_isB, ↓o_isNotB, ↓o_isN, ↓o_isNotN, ↓o_ix0, ↓o_ix1, ↓o_ix2, ↓o_lenT, ↓o_abs, ↓o_intI, ↓o_intB, ↓o_isiII, ↓o_isiBB, ↓o_isiTT, ↓o_ltL, ↓o_eqP, ↓o_neP, ↓o_eqPP, ↓o_nePP, ↓o_in2, ↓o_in3, ↓r_nil, ↓r_cons, ↓r_tru, ↓x_set, ↓x_expr, ↓x_ret, ↓x_unp, ↓x_if, ↓x_brk, ↓x_cnt, ↓x_pass, ↓x_nil, ↓x_cons, ↓s_nx, ↓s_rt, ↓s_bk, ↓s_ct, ↓s_xc, ↓x_for, ↓f_nil, ↓f_cons, ↓k_nx, ↓k_ct, ↓k_bk, ↓k_rt, ↓k_xc, ↓b_nm, ↓b_tp, ↓ck_n, ↓i_val_, ↓i_T, ↓i_rng1_, ↓i_rng2_, ↓rt_ret, ↓rt_nx, ↓rt_xc, ↓getE_0, ↓getE_s, ↓setE_0, ↓setE_s, ↓setsE_0, ↓setsE_s, ↓lft_ok, ↓reduceIte, List.map_cons, List.map_nil, List.cons_append, List.nil_append, List.replicate, ↓o_modP, ↓o_fdivP, ↓o_mul, ↓o_unp2, ↓o_unp3, ↓o_unp4, ↓o_pq, ↓o_p10, ↓o_p20, ↓o_p30, ↓o_p38, ↓o_p39, ↓o_p40, ↓o_p59, ↓o_p60, sl, List.length_cons, List.length_nil, decide_true, decide_false, Bool.false_eq_true, Bool.not_true, Bool.not_false, decide_eq_true_eq, Int.reduceEq, Int.reduceNe, Int.reduceLT, Int.reduceLE, Int.reduceNeg, Int.reduceAdd, Int.reduceSub, Int.reduceMul, Nat.reduceAdd, Nat.reduceLeDiff, Nat.reduceSub, Nat.reduceMul, Int.reduceToNat, ↓x_app, ↓app_ref, ↓wk_nx, ↓iL_end, ↓ck_end, Int.cast_ofNat_Int, ↓wipe_0, ↓wipe_s, ↓clr_0, ↓clr_s, ↓r_comp, ↓c_nil, ↓c_cons, ↓bind_lft, ↓push_e0, ↓push_e1, ↓push_e2, ↓push_e3, ↓ix_e0, ↓ix_e1, ↓ix_e2, ↓unp_lit2, ↓unp_lt2, ↓unp_lt3, ↓unp_lt4, ↓q1, h1, e2, ↓em', h3, h3'', c1, c2, fca, fcb, ↓unp_mid2, ↓turn_k, and_self, false_and, and_false, not_true_eq_false, ne_eq, false_or]
          exact ⟨_, rfl⟩
  · simp (maxSteps := 10000000) (disch := omega) only [f5, ↓r_var, ↓r_con, ↓r_bin, ↓r_neg, ↓r_not, ↓r_cmp, ↓r_chn, ↓r_and, ↓r_or, ↓r_ite, ↓r_tup, ↓r_lst, ↓r_idx, ↓r_slc, ↓r_call, ↓r_blt, ↓r_isi, ↓o_add, ↓o_sub, ↓o_neg, ↓o_lt, ↓o_le, ↓o_gt, ↓o_ge, ↓o_eq, ↓o_ne, ↓o_eqB, ↓o_neB, ↓o_isB, ↓o_isNotB, ↓o_isN, ↓o_isNotN, ↓o_ix0, ↓o_ix1, ↓o_ix2, ↓o_lenT, ↓o_abs, ↓o_intI, ↓o_intB, ↓o_isiII, ↓o_isiBB, ↓o_isiTT, ↓o_ltL, ↓o_eqP, ↓o_neP, ↓o_eqPP, ↓o_nePP, ↓o_in2, ↓o_in3, ↓r_nil, ↓r_cons, ↓r_tru, ↓x_set, ↓x_expr, ↓x_ret, ↓x_unp, ↓x_if, ↓x_brk, ↓x_cnt, ↓x_pass, ↓x_nil, ↓x_cons, ↓s_nx, ↓s_rt, ↓s_bk, ↓s_ct, ↓s_xc, ↓x_for, ↓f_nil, ↓f_cons, ↓k_nx, ↓k_ct, ↓k_bk, ↓k_rt, ↓k_xc, ↓b_nm, ↓b_tp, ↓ck_n, ↓i_val_, ↓i_T, ↓i_rng1_, ↓i_rng2_, ↓rt_ret, ↓rt_nx, ↓rt_xc, ↓getE_0, ↓getE_s, ↓setE_0, ↓setE_s, ↓setsE_0, ↓setsE_s, ↓lft_ok, ↓reduceIte, List.map_cons, List.map_nil, List.cons_append, List.nil_append, List.replicate, ↓o_modP, ↓o_fdivP, ↓o_mul, ↓o_unp2, ↓o_unp3, ↓o_unp4, ↓o_pq, ↓o_p10, ↓o_p20, ↓o_p30, ↓o_p38, ↓o_p39, ↓o_p40, ↓o_p59, ↓o_p60, sl, List.length_cons, List.length_nil, decide_true, decide_false, Bool.false_eq_true, Bool.not_true, Bool.not_false, decide_eq_true_eq, Int.reduceEq, Int.reduceNe, Int.reduceLT, Int.reduceLE, Int.reduceNeg, Int.reduceAdd, Int.reduceSub, Int.reduceMul, Nat.reduceAdd, Nat.reduceLeDiff, Nat.reduceSub, Nat.reduceMul, Int.reduceToNat, ↓x_app, ↓app_ref, ↓wk_nx, ↓iL_end, ↓ck_end, Int.cast_ofNat_Int, ↓wipe_0, ↓wipe_s, ↓clr_0, ↓clr_s, ↓r_comp, ↓c_nil, ↓c_cons, ↓bind_lft, ↓push_e0, ↓push_e1, ↓push_e2, ↓push_e3, ↓ix_e0, ↓ix_e1, ↓ix_e2, ↓unp_lit2, ↓unp_lt2, ↓unp_lt3, ↓unp_lt4, ↓q1, h1, not_false_eq_true, ne_eq, true_or]
    exact ⟨[], by simp⟩

theorem nth_ok {n : Nat} (hn : 1 ≤ n) {S : Store} {ns : List Int} (hS : Scr ns S) {k : Int} (hk : 0 ≤ k) : callT T n 6 [.ref 0, .int k] S = .ok (.int (nth ns k)) S := by
  have hS' : S[0]? = some (.frz (ns.map D.int)) := hS
  rw [call_eq (by omega) (show T 6 = some f6 from rfl), run_eq rfl]
  simp (disch := omega) only [f6, ↓r_var, ↓r_con, ↓r_bin, ↓r_neg, ↓r_not, ↓r_cmp, ↓r_chn, ↓r_and, ↓r_or, ↓r_ite, ↓r_tup, ↓r_lst, ↓r_idx, ↓r_slc, ↓r_call, ↓r_blt, ↓r_isi, ↓o_add, ↓o_sub, ↓o_neg, ↓o_lt, ↓o_le, ↓o_gt, ↓o_ge, ↓o_eq, ↓o_ne, ↓o_eqB, ↓o_neB, ↓o_isB, ↓o_isNotB, ↓o_isN, ↓o_isNotN, ↓o_ix0, ↓o_ix1, ↓o_ix2, ↓o_lenT, ↓o_abs, ↓o_intI, ↓o_intB, ↓o_isiII, ↓o_isiBB, ↓o_isiTT, ↓o_ltP, ↓o_eqP, ↓o_neP, ↓o_eqPP, ↓o_nePP, ↓o_in2, ↓o_in3, ↓r_nil, ↓r_cons, ↓r_tru, ↓x_set, ↓x_expr, ↓x_ret, ↓x_unp, ↓x_if, ↓x_brk, ↓x_cnt, ↓x_pass, ↓x_nil, ↓x_cons, ↓s_nx, ↓s_rt, ↓s_bk, ↓s_ct, ↓s_xc, ↓x_for, ↓f_nil, ↓f_cons, ↓k_nx, ↓k_ct, ↓k_bk, ↓k_rt, ↓k_xc, ↓b_nm, ↓b_tp, ↓ck_n, ↓i_val_, ↓i_T, ↓i_rng1_, ↓i_rng2_, ↓rt_ret, ↓rt_nx, ↓rt_xc, ↓getE_0, ↓getE_s, ↓setE_0, ↓setE_s, ↓setsE_0, ↓setsE_s, ↓lft_ok, ↓reduceIte, List.map_cons, List.map_nil, List.cons_append, List.nil_append, List.replicate, ↓o_modP, ↓o_fdivP, ↓o_mul, ↓o_unp2, ↓o_unp3, ↓o_unp4, ↓o_pq, ↓o_p10, ↓o_p20, ↓o_p30, ↓o_p38, ↓o_p39, ↓o_p40, ↓o_p59, ↓o_p60, sl, List.length_cons, List.length_nil, decide_true, decide_false, Bool.false_eq_true, Bool.not_true, Bool.not_false, decide_eq_true_eq, Int.reduceEq, Int.reduceNe, Int.reduceLT, Int.reduceLE, Int.reduceNeg, Int.reduceAdd, Int.reduceSub, Int.reduceMul, Nat.reduceAdd, Nat.reduceLeDiff, Nat.reduceSub, Nat.reduceMul, Int.reduceToNat, ↓x_app, ↓app_ref, ↓wk_nx, ↓iL_end, ↓ck_end, Int.cast_ofNat_Int, ↓wipe_0, ↓wipe_s, ↓clr_0, ↓clr_s, ↓r_comp, ↓c_nil, ↓c_cons, ↓bind_lft, ↓push_e0, ↓push_e1, ↓push_e2, ↓push_e3, ↓ix_e0, ↓ix_e1, ↓ix_e2, ↓unp_lit2, ↓unp_lt2, ↓unp_lt3, ↓unp_lt4, ↓o_lenL hS', items, List.length_map]
  by_cases h : k < (ns.length : Int)
  · rw [if_pos h, o_ixL hS' (at_map hk h)]
  · rw [if_neg h]
    have e : nth ns k = 0 := by
      unfold nth
      rw [List.getD_eq_getElem?_getD, List.getElem?_eq_none (by omega)]; rfl
    rw [e]
theorem nth_k {n : Nat} (hn : 1 ≤ n) {S : Store} {ns : List Int} (hS : Scr ns S) {k : Int} (hk : 0 ≤ k) {β : Type} {q : D → Store → R β} {h : Str → Option Nat → Store → R β} : (callT T n 6 [.ref 0, .int k] S).lft q h = q (.int (nth ns k)) S := lft_of (nth_ok hn hS hk)

theorem lsign_ok {n : Nat} (hn : 1 ≤ n) {S : Store} {k : Int} : callT T n 7 [.int k] S = .ok (.int (sg k)) S := by
  rw [call_eq (by omega) (show T 7 = some f7 from rfl), run_eq rfl]
  simp (disch := omega) only [f7, ↓r_var, ↓r_con, ↓r_bin, ↓r_neg, ↓r_not, ↓r_cmp, ↓r_chn, ↓r_and, ↓r_or, ↓r_ite, ↓r_tup, ↓r_lst, ↓r_idx, ↓r_slc, ↓r_call, ↓r_blt, ↓r_isi, ↓o_add, ↓o_sub, ↓o_neg, ↓o_lt, ↓o_le, ↓o_gt, ↓o_ge, ↓o_eq, ↓o_ne, ↓o_eqB, ↓o_neB, ↓o_isB, ↓o_isNotB, ↓o_isN, ↓o_isNotN, ↓o_ix0, ↓o_ix1, ↓o_ix2, ↓o_lenT, ↓o_abs, ↓o_intI, ↓o_intB, ↓o_isiII, ↓o_isiBB, ↓o_isiTT, ↓o_ltP, ↓o_eqP, ↓o_neP, ↓o_eqPP, ↓o_nePP, ↓o_in2, ↓o_in3, ↓r_nil, ↓r_cons, ↓r_tru, ↓x_set, ↓x_expr, ↓x_ret, ↓x_unp, ↓x_if, ↓x_brk, ↓x_cnt, ↓x_pass, ↓x_nil, ↓x_cons, ↓s_nx, ↓s_rt, ↓s_bk, ↓s_ct, ↓s_xc, ↓x_for, ↓f_nil, ↓f_cons, ↓k_nx, ↓k_ct, ↓k_bk, ↓k_rt, ↓k_xc, ↓b_nm, ↓b_tp, ↓ck_n, ↓i_val_, ↓i_T, ↓i_rng1_, ↓i_rng2_, ↓rt_ret, ↓rt_nx, ↓rt_xc, ↓getE_0, ↓getE_s, ↓setE_0, ↓setE_s, ↓setsE_0, ↓setsE_s, ↓lft_ok, ↓reduceIte, List.map_cons, List.map_nil, List.cons_append, List.nil_append, List.replicate, ↓o_modP, ↓o_fdivP, ↓o_mul, ↓o_unp2, ↓o_unp3, ↓o_unp4, ↓o_pq, ↓o_p10, ↓o_p20, ↓o_p30, ↓o_p38, ↓o_p39, ↓o_p40, ↓o_p59, ↓o_p60, sl, List.length_cons, List.length_nil, decide_true, decide_false, Bool.false_eq_true, Bool.not_true, Bool.not_false, decide_eq_true_eq, Int.reduceEq, Int.reduceNe, Int.reduceLT, Int.reduceLE, Int.reduceNeg, Int.reduceAdd, Int.reduceSub, Int.reduceMul, Nat.reduceAdd, Nat.reduceLeDiff, Nat.reduceSub, Nat.reduceMul, Int.reduceToNat, ↓x_app, ↓app_ref, ↓wk_nx, ↓iL_end, ↓ck_end, Int.cast_ofNat_Int, ↓wipe_0, ↓wipe_s, ↓clr_0, ↓clr_s, ↓r_comp, ↓c_nil, ↓c_cons, ↓bind_lft, ↓push_e0, ↓push_e1, ↓push_e2, ↓push_e3, ↓ix_e0, ↓ix_e1, ↓ix_e2, ↓unp_lit2, ↓unp_lt2, ↓unp_lt3, ↓unp_lt4]
  unfold sg
  by_cases h : 0 < k
  · have h2 : ¬ k < 0 := by omega
    simp [h, h2]
  · by_cases h2 : k < 0 <;> simp [h, h2]
theorem lsign_k {n : Nat} (hn : 1 ≤ n) {S : Store} {k : Int} {β : Type} {q : D → Store → R β} {h : Str → Option Nat → Store → R β} : (callT T n 7 [.int k] S).lft q h = q (.int (sg k)) S := lft_of (lsign_ok hn)

abbrev arV (ax ay bx by_ cx cy : Int) : Int := ax * (by_ - cy) + bx * (cy - ay) + cx * (ay - by_)
theorem area_ok {n : Nat} (hn : 1 ≤ n) {S : Store} {ax ay bx by_ cx cy : Int} {m1 m2 m3 m4 m5 m6 : Nat} [Sz m1 ax] [Sz m2 ay] [Sz m3 bx] [Sz m4 by_] [Sz m5 cx] [Sz m6 cy] (hm : m1 ≤ 1000000 ∧ m2 ≤ 1000000 ∧ m3 ≤ 1000000 ∧ m4 ≤ 1000000 ∧ m5 ≤ 1000000 ∧ m6 ≤ 1000000) :
    callT T n 8 [.tup [.int ax, .int ay], .tup [.int bx, .int by_], .tup [.int cx, .int cy]] S = .ok (.int (arV ax ay bx by_ cx cy)) S := by
  rw [call_eq (by omega) (show T 8 = some f8 from rfl), run_eq rfl]
  simp (disch := omega) only [f8, ↓r_var, ↓r_con, ↓r_bin, ↓r_neg, ↓r_not, ↓r_cmp, ↓r_chn, ↓r_and, ↓r_or, ↓r_ite, ↓r_tup, ↓r_lst, ↓r_idx, ↓r_slc, ↓r_call, ↓r_blt, ↓r_isi, ↓o_add, ↓o_sub, ↓o_neg, ↓o_lt, ↓o_le, ↓o_gt, ↓o_ge, ↓o_eq, ↓o_ne, ↓o_eqB, ↓o_neB, ↓o_isB, ↓o_isNotB, ↓o_isN, ↓o_isNotN, ↓o_ix0, ↓o_ix1, ↓o_ix2, ↓o_lenT, ↓o_abs, ↓o_intI, ↓o_intB, ↓o_isiII, ↓o_isiBB, ↓o_isiTT, ↓o_ltP, ↓o_eqP, ↓o_neP, ↓o_eqPP, ↓o_nePP, ↓o_in2, ↓o_in3, ↓r_nil, ↓r_cons, ↓r_tru, ↓x_set, ↓x_expr, ↓x_ret, ↓x_unp, ↓x_if, ↓x_brk, ↓x_cnt, ↓x_pass, ↓x_nil, ↓x_cons, ↓s_nx, ↓s_rt, ↓s_bk, ↓s_ct, ↓s_xc, ↓x_for, ↓f_nil, ↓f_cons, ↓k_nx, ↓k_ct, ↓k_bk, ↓k_rt, ↓k_xc, ↓b_nm, ↓b_tp, ↓ck_n, ↓i_val_, ↓i_T, ↓i_rng1_, ↓i_rng2_, ↓rt_ret, ↓rt_nx, ↓rt_xc, ↓getE_0, ↓getE_s, ↓setE_0, ↓setE_s, ↓setsE_0, ↓setsE_s, ↓lft_ok, ↓reduceIte, List.map_cons, List.map_nil, List.cons_append, List.nil_append, List.replicate, ↓o_modP, ↓o_fdivP, ↓o_mul, ↓o_unp2, ↓o_unp3, ↓o_unp4, ↓o_pq, ↓o_p10, ↓o_p20, ↓o_p30, ↓o_p38, ↓o_p39, ↓o_p40, ↓o_p59, ↓o_p60, sl, List.length_cons, List.length_nil, decide_true, decide_false, Bool.false_eq_true, Bool.not_true, Bool.not_false, decide_eq_true_eq, Int.reduceEq, Int.reduceNe, Int.reduceLT, Int.reduceLE, Int.reduceNeg, Int.reduceAdd, Int.reduceSub, Int.reduceMul, Nat.reduceAdd, Nat.reduceLeDiff, Nat.reduceSub, Nat.reduceMul, Int.reduceToNat, ↓x_app, ↓app_ref, ↓wk_nx, ↓iL_end, ↓ck_end, Int.cast_ofNat_Int, ↓wipe_0, ↓wipe_s, ↓clr_0, ↓clr_s, ↓r_comp, ↓c_nil, ↓c_cons, ↓bind_lft, ↓push_e0, ↓push_e1, ↓push_e2, ↓push_e3, ↓ix_e0, ↓ix_e1, ↓ix_e2, ↓unp_lit2, ↓unp_lt2, ↓unp_lt3, ↓unp_lt4]
theorem area_k {n : Nat} (hn : 1 ≤ n) {S : Store} {ax ay bx by_ cx cy : Int} {m1 m2 m3 m4 m5 m6 : Nat} [Sz m1 ax] [Sz m2 ay] [Sz m3 bx] [Sz m4 by_] [Sz m5 cx] [Sz m6 cy] (hm : m1 ≤ 1000000 ∧ m2 ≤ 1000000 ∧ m3 ≤ 1000000 ∧ m4 ≤ 1000000 ∧ m5 ≤ 1000000 ∧ m6 ≤ 1000000) {β : Type} {q : D → Store → R β} {h : Str → Option Nat → Store → R β} :
    (callT T n 8 [.tup [.int ax, .int ay], .tup [.int bx, .int by_], .tup [.int cx, .int cy]] S).lft q h = q (.int (arV ax ay bx by_ cx cy)) S := lft_of (area_ok hn hm)

def hexa : List D := [.tup [.int 5, .int 0], .tup [.int 4, .int 3], .tup [.int 3, .int 4], .tup [.int 0, .int 5], .tup [.int (-3), .int 4], .tup [.int (-4), .int 3]]
theorem hexa_at (k : Int) : ∃ x y : Int, atI hexa (k % 6) = some (.tup [.int x, .int y]) ∧ -5 ≤ x ∧ x ≤ 5 ∧ -5 ≤ y ∧ y ≤ 5 := by
  have h : k % 6 = 0 ∨ k % 6 = 1 ∨ k % 6 = 2 ∨ k % 6 = 3 ∨ k % 6 = 4 ∨ k % 6 = 5 := by omega
  rcases h with h | h | h | h | h | h <;> rw [h]
  · exact ⟨5, 0, rfl, by decide⟩
  · exact ⟨4, 3, rfl, by decide⟩
  · exact ⟨3, 4, rfl, by decide⟩
  · exact ⟨0, 5, rfl, by decide⟩
  · exact ⟨-3, 4, rfl, by decide⟩
  · exact ⟨-4, 3, rfl, by decide⟩
theorem spot_ok {n : Nat} (hn : 1 ≤ n) {S : Store} {kind one other hx hy by_ : Int} [Sz 131 hx] [Sz 131 hy] [Sz 68 by_] :
    ∃ (x y : Int) (U : Store), Sz 1000 x ∧ Sz 1000 y ∧ callT T n 9 [.int kind, .int one, .int other, .tup [.int hx, .int hy], .int by_] S = .ok (.tup [.int x, .int y]) (S ++ U) := by
  have lin : ∀ (b t : Int), Sz 131 b → -100 ≤ t → t ≤ 100 → Sz 1000 (b + by_ * t) := fun b t sb h1 h2 => by
    have s7 : Sz 7 t := ⟨by omega⟩
    exact (inferInstance : Sz (131 + (68 + 7) + 1) (b + by_ * t)).up (by decide)
  have lin1 : ∀ (b t c : Int), Sz 131 b → -100 ≤ t → t ≤ 100 → 0 ≤ c → c ≤ 1 → Sz 1000 (b + by_ * t + c) := fun b t c sb h1 h2 h3 h4 => by
    have s7 : Sz 7 t := ⟨by omega⟩
    have s1 : Sz 1 c := ⟨by omega⟩
    exact (inferInstance : Sz (131 + (68 + 7) + 1 + 1 + 1) (b + by_ * t + c)).up (by decide)
  have big : ∀ t : Int, Sz 1000 (t % (2 * P40 - 1) - P40 + 1) := fun t => (inferInstance : Sz (2 + 133 + 1 + 1 + 133 + 1 + 1 + 1) (t % (2 * P40 - 1) - P40 + 1)).up (by decide)
  have sm : ∀ t : Int, -100 ≤ t → t ≤ 100 → Sz 1000 t := fun t h1 h2 => (⟨by omega⟩ : Sz 7 t).up (by decide)
  rw [call_eq (by omega) (show T 9 = some f9 from rfl), run_eq rfl]
  by_cases h0 : kind = 0
  · subst h0
    simp (maxSteps := 10000000) (disch := omega) only [f9, ↓r_var, ↓r_con, ↓r_bin, ↓r_neg, ↓r_not, ↓r_cmp, ↓r_chn, ↓r_and, ↓r_or, ↓r_ite, ↓r_tup, ↓r_lst, ↓r_idx, ↓r_slc, ↓r_call, ↓r_blt, ↓r_isi, ↓o_add, ↓o_sub, ↓o_neg, ↓o_lt, ↓o_le, ↓o_gt, ↓o_ge, ↓o_eq, ↓o_ne, ↓o_eqB, ↓o_neB, ↓o_isB, ↓o_isNotB, ↓o_isN, ↓o_isNotN, ↓o_ix0, ↓o_ix1, ↓o_ix2, ↓o_lenT, ↓o_abs, ↓o_intI, ↓o_intB, ↓o_isiII, ↓o_isiBB, ↓o_isiTT, ↓o_ltP, ↓o_eqP, ↓o_neP, ↓o_eqPP, ↓o_nePP, ↓o_in2, ↓o_in3, ↓r_nil, ↓r_cons, ↓r_tru, ↓x_set, ↓x_expr, ↓x_ret, ↓x_unp, ↓x_if, ↓x_brk, ↓x_cnt, ↓x_pass, ↓x_nil, ↓x_cons, ↓s_nx, ↓s_rt, ↓s_bk, ↓s_ct, ↓s_xc, ↓x_for, ↓f_nil, ↓f_cons, ↓k_nx, ↓k_ct, ↓k_bk, ↓k_rt, ↓k_xc, ↓b_nm, ↓b_tp, ↓ck_n, ↓i_val_, ↓i_T, ↓i_rng1_, ↓i_rng2_, ↓rt_ret, ↓rt_nx, ↓rt_xc, ↓getE_0, ↓getE_s, ↓setE_0, ↓setE_s, ↓setsE_0, ↓setsE_s, ↓lft_ok, ↓reduceIte, List.map_cons, List.map_nil, List.cons_append, List.nil_append, List.replicate, ↓o_modP, ↓o_fdivP, ↓o_mul, ↓o_unp2, ↓o_unp3, ↓o_unp4, ↓o_pq, ↓o_p10, ↓o_p20, ↓o_p30, ↓o_p38, ↓o_p39, ↓o_p40, ↓o_p59, ↓o_p60, sl, List.length_cons, List.length_nil, decide_true, decide_false, Bool.false_eq_true, Bool.not_true, Bool.not_false, decide_eq_true_eq, Int.reduceEq, Int.reduceNe, Int.reduceLT, Int.reduceLE, Int.reduceNeg, Int.reduceAdd, Int.reduceSub, Int.reduceMul, Nat.reduceAdd, Nat.reduceLeDiff, Nat.reduceSub, Nat.reduceMul, Int.reduceToNat, ↓x_app, ↓app_ref, ↓wk_nx, ↓iL_end, ↓ck_end, Int.cast_ofNat_Int, ↓wipe_0, ↓wipe_s, ↓clr_0, ↓clr_s, ↓r_comp, ↓c_nil, ↓c_cons, ↓bind_lft, ↓push_e0, ↓push_e1, ↓push_e2, ↓push_e3, ↓ix_e0, ↓ix_e1, ↓ix_e2, ↓unp_lit2, ↓unp_lt2, ↓unp_lt3, ↓unp_lt4]
    exact ⟨_, _, [], sm (one % 7 - 3) (by omega) (by omega), sm (other % 7 - 3) (by omega) (by omega), by rw [List.append_nil]⟩
  by_cases h1 : kind = 1
  · subst h1
    obtain ⟨x, y, hxy, b1, b2, b3, b4⟩ := hexa_at one
    have hk : ∀ {β : Type} {q : D → Store → R β} {h : Str → Option Nat → Store → R β}, (ixD (.ref S.length) (.int (one % 6)) (S ++ [.lst [.tup [.int 5, .int 0], .tup [.int 4, .int 3], .tup [.int 3, .int 4], .tup [.int 0, .int 5], .tup [.int (-3), .int 4], .tup [.int (-4), .int 3]]])).lft q h = q (.tup [.int x, .int y]) (S ++ [.lst hexa]) := o_ixL (o := .lst hexa) (by simp [hexa]) hxy
    have s1 : Sz 7 x := ⟨by omega⟩
    have s2 : Sz 7 y := ⟨by omega⟩
    by_cases hs : one / 6 % 2 = 1
    · simp (maxSteps := 10000000) (disch := omega) only [f9, ↓r_var, ↓r_con, ↓r_bin, ↓r_neg, ↓r_not, ↓r_cmp, ↓r_chn, ↓r_and, ↓r_or, ↓r_ite, ↓r_tup, ↓r_lst, ↓r_idx, ↓r_slc, ↓r_call, ↓r_blt, ↓r_isi, ↓o_add, ↓o_sub, ↓o_neg, ↓o_lt, ↓o_le, ↓o_gt, ↓o_ge, ↓o_eq, ↓o_ne, ↓o_eqB, ↓o_neB, ↓o_isB, ↓o_isNotB, ↓o_isN, ↓o_isNotN, ↓o_ix0, ↓o_ix1, ↓o_ix2, ↓o_lenT, ↓o_abs, ↓o_intI, ↓o_intB, ↓o_isiII, ↓o_isiBB, ↓o_isiTT, ↓o_ltP, ↓o_eqP, ↓o_neP, ↓o_eqPP, ↓o_nePP, ↓o_in2, ↓o_in3, ↓r_nil, ↓r_cons, ↓r_tru, ↓x_set, ↓x_expr, ↓x_ret, ↓x_unp, ↓x_if, ↓x_brk, ↓x_cnt, ↓x_pass, ↓x_nil, ↓x_cons, ↓s_nx, ↓s_rt, ↓s_bk, ↓s_ct, ↓s_xc, ↓x_for, ↓f_nil, ↓f_cons, ↓k_nx, ↓k_ct, ↓k_bk, ↓k_rt, ↓k_xc, ↓b_nm, ↓b_tp, ↓ck_n, ↓i_val_, ↓i_T, ↓i_rng1_, ↓i_rng2_, ↓rt_ret, ↓rt_nx, ↓rt_xc, ↓getE_0, ↓getE_s, ↓setE_0, ↓setE_s, ↓setsE_0, ↓setsE_s, ↓lft_ok, ↓reduceIte, List.map_cons, List.map_nil, List.cons_append, List.nil_append, List.replicate, ↓o_modP, ↓o_fdivP, ↓o_mul, ↓o_unp2, ↓o_unp3, ↓o_unp4, ↓o_pq, ↓o_p10, ↓o_p20, ↓o_p30, ↓o_p38, ↓o_p39, ↓o_p40, ↓o_p59, ↓o_p60, sl, List.length_cons, List.length_nil, decide_true, decide_false, Bool.false_eq_true, Bool.not_true, Bool.not_false, decide_eq_true_eq, Int.reduceEq, Int.reduceNe, Int.reduceLT, Int.reduceLE, Int.reduceNeg, Int.reduceAdd, Int.reduceSub, Int.reduceMul, Nat.reduceAdd, Nat.reduceLeDiff, Nat.reduceSub, Nat.reduceMul, Int.reduceToNat, ↓x_app, ↓app_ref, ↓wk_nx, ↓iL_end, ↓ck_end, Int.cast_ofNat_Int, ↓wipe_0, ↓wipe_s, ↓clr_0, ↓clr_s, ↓r_comp, ↓c_nil, ↓c_cons, ↓bind_lft, ↓push_e0, ↓push_e1, ↓push_e2, ↓push_e3, ↓ix_e0, ↓ix_e1, ↓ix_e2, ↓unp_lit2, ↓unp_lt2, ↓unp_lt3, ↓unp_lt4, ↓hk, hs]
      refine ⟨_, _, _, ?_, ?_, rfl⟩ <;> exact lin _ _ inferInstance (by omega) (by omega)
    · simp (maxSteps := 10000000) (disch := omega) only [f9, ↓r_var, ↓r_con, ↓r_bin, ↓r_neg, ↓r_not, ↓r_cmp, ↓r_chn, ↓r_and, ↓r_or, ↓r_ite, ↓r_tup, ↓r_lst, ↓r_idx, ↓r_slc, ↓r_call, ↓r_blt, ↓r_isi, ↓o_add, ↓o_sub, ↓o_neg, ↓o_lt, ↓o_le, ↓o_gt, ↓o_ge, ↓o_eq, ↓o_ne, ↓o_eqB, ↓o_neB, ↓o_isB, ↓o_isNotB, ↓o_isN, ↓o_isNotN, ↓o_ix0, ↓o_ix1, ↓o_ix2, ↓o_lenT, ↓o_abs, ↓o_intI, ↓o_intB, ↓o_isiII, ↓o_isiBB, ↓o_isiTT, ↓o_ltP, ↓o_eqP, ↓o_neP, ↓o_eqPP, ↓o_nePP, ↓o_in2, ↓o_in3, ↓r_nil, ↓r_cons, ↓r_tru, ↓x_set, ↓x_expr, ↓x_ret, ↓x_unp, ↓x_if, ↓x_brk, ↓x_cnt, ↓x_pass, ↓x_nil, ↓x_cons, ↓s_nx, ↓s_rt, ↓s_bk, ↓s_ct, ↓s_xc, ↓x_for, ↓f_nil, ↓f_cons, ↓k_nx, ↓k_ct, ↓k_bk, ↓k_rt, ↓k_xc, ↓b_nm, ↓b_tp, ↓ck_n, ↓i_val_, ↓i_T, ↓i_rng1_, ↓i_rng2_, ↓rt_ret, ↓rt_nx, ↓rt_xc, ↓getE_0, ↓getE_s, ↓setE_0, ↓setE_s, ↓setsE_0, ↓setsE_s, ↓lft_ok, ↓reduceIte, List.map_cons, List.map_nil, List.cons_append, List.nil_append, List.replicate, ↓o_modP, ↓o_fdivP, ↓o_mul, ↓o_unp2, ↓o_unp3, ↓o_unp4, ↓o_pq, ↓o_p10, ↓o_p20, ↓o_p30, ↓o_p38, ↓o_p39, ↓o_p40, ↓o_p59, ↓o_p60, sl, List.length_cons, List.length_nil, decide_true, decide_false, Bool.false_eq_true, Bool.not_true, Bool.not_false, decide_eq_true_eq, Int.reduceEq, Int.reduceNe, Int.reduceLT, Int.reduceLE, Int.reduceNeg, Int.reduceAdd, Int.reduceSub, Int.reduceMul, Nat.reduceAdd, Nat.reduceLeDiff, Nat.reduceSub, Nat.reduceMul, Int.reduceToNat, ↓x_app, ↓app_ref, ↓wk_nx, ↓iL_end, ↓ck_end, Int.cast_ofNat_Int, ↓wipe_0, ↓wipe_s, ↓clr_0, ↓clr_s, ↓r_comp, ↓c_nil, ↓c_cons, ↓bind_lft, ↓push_e0, ↓push_e1, ↓push_e2, ↓push_e3, ↓ix_e0, ↓ix_e1, ↓ix_e2, ↓unp_lit2, ↓unp_lt2, ↓unp_lt3, ↓unp_lt4, ↓hk, hs]
      refine ⟨_, _, _, ?_, ?_, rfl⟩ <;> exact lin _ _ inferInstance (by omega) (by omega)
  by_cases h2 : kind = 2
  · subst h2
    simp (maxSteps := 10000000) (disch := omega) only [f9, ↓r_var, ↓r_con, ↓r_bin, ↓r_neg, ↓r_not, ↓r_cmp, ↓r_chn, ↓r_and, ↓r_or, ↓r_ite, ↓r_tup, ↓r_lst, ↓r_idx, ↓r_slc, ↓r_call, ↓r_blt, ↓r_isi, ↓o_add, ↓o_sub, ↓o_neg, ↓o_lt, ↓o_le, ↓o_gt, ↓o_ge, ↓o_eq, ↓o_ne, ↓o_eqB, ↓o_neB, ↓o_isB, ↓o_isNotB, ↓o_isN, ↓o_isNotN, ↓o_ix0, ↓o_ix1, ↓o_ix2, ↓o_lenT, ↓o_abs, ↓o_intI, ↓o_intB, ↓o_isiII, ↓o_isiBB, ↓o_isiTT, ↓o_ltP, ↓o_eqP, ↓o_neP, ↓o_eqPP, ↓o_nePP, ↓o_in2, ↓o_in3, ↓r_nil, ↓r_cons, ↓r_tru, ↓x_set, ↓x_expr, ↓x_ret, ↓x_unp, ↓x_if, ↓x_brk, ↓x_cnt, ↓x_pass, ↓x_nil, ↓x_cons, ↓s_nx, ↓s_rt, ↓s_bk, ↓s_ct, ↓s_xc, ↓x_for, ↓f_nil, ↓f_cons, ↓k_nx, ↓k_ct, ↓k_bk, ↓k_rt, ↓k_xc, ↓b_nm, ↓b_tp, ↓ck_n, ↓i_val_, ↓i_T, ↓i_rng1_, ↓i_rng2_, ↓rt_ret, ↓rt_nx, ↓rt_xc, ↓getE_0, ↓getE_s, ↓setE_0, ↓setE_s, ↓setsE_0, ↓setsE_s, ↓lft_ok, ↓reduceIte, List.map_cons, List.map_nil, List.cons_append, List.nil_append, List.replicate, ↓o_modP, ↓o_fdivP, ↓o_mul, ↓o_unp2, ↓o_unp3, ↓o_unp4, ↓o_pq, ↓o_p10, ↓o_p20, ↓o_p30, ↓o_p38, ↓o_p39, ↓o_p40, ↓o_p59, ↓o_p60, sl, List.length_cons, List.length_nil, decide_true, decide_false, Bool.false_eq_true, Bool.not_true, Bool.not_false, decide_eq_true_eq, Int.reduceEq, Int.reduceNe, Int.reduceLT, Int.reduceLE, Int.reduceNeg, Int.reduceAdd, Int.reduceSub, Int.reduceMul, Nat.reduceAdd, Nat.reduceLeDiff, Nat.reduceSub, Nat.reduceMul, Int.reduceToNat, ↓x_app, ↓app_ref, ↓wk_nx, ↓iL_end, ↓ck_end, Int.cast_ofNat_Int, ↓wipe_0, ↓wipe_s, ↓clr_0, ↓clr_s, ↓r_comp, ↓c_nil, ↓c_cons, ↓bind_lft, ↓push_e0, ↓push_e1, ↓push_e2, ↓push_e3, ↓ix_e0, ↓ix_e1, ↓ix_e2, ↓unp_lit2, ↓unp_lt2, ↓unp_lt3, ↓unp_lt4]
    refine ⟨_, _, [], ?_, ?_, by rw [List.append_nil]⟩ <;> exact lin _ _ inferInstance (by omega) (by omega)
  by_cases h3 : kind = 3
  · subst h3
    simp (maxSteps := 10000000) (disch := omega) only [f9, ↓r_var, ↓r_con, ↓r_bin, ↓r_neg, ↓r_not, ↓r_cmp, ↓r_chn, ↓r_and, ↓r_or, ↓r_ite, ↓r_tup, ↓r_lst, ↓r_idx, ↓r_slc, ↓r_call, ↓r_blt, ↓r_isi, ↓o_add, ↓o_sub, ↓o_neg, ↓o_lt, ↓o_le, ↓o_gt, ↓o_ge, ↓o_eq, ↓o_ne, ↓o_eqB, ↓o_neB, ↓o_isB, ↓o_isNotB, ↓o_isN, ↓o_isNotN, ↓o_ix0, ↓o_ix1, ↓o_ix2, ↓o_lenT, ↓o_abs, ↓o_intI, ↓o_intB, ↓o_isiII, ↓o_isiBB, ↓o_isiTT, ↓o_ltP, ↓o_eqP, ↓o_neP, ↓o_eqPP, ↓o_nePP, ↓o_in2, ↓o_in3, ↓r_nil, ↓r_cons, ↓r_tru, ↓x_set, ↓x_expr, ↓x_ret, ↓x_unp, ↓x_if, ↓x_brk, ↓x_cnt, ↓x_pass, ↓x_nil, ↓x_cons, ↓s_nx, ↓s_rt, ↓s_bk, ↓s_ct, ↓s_xc, ↓x_for, ↓f_nil, ↓f_cons, ↓k_nx, ↓k_ct, ↓k_bk, ↓k_rt, ↓k_xc, ↓b_nm, ↓b_tp, ↓ck_n, ↓i_val_, ↓i_T, ↓i_rng1_, ↓i_rng2_, ↓rt_ret, ↓rt_nx, ↓rt_xc, ↓getE_0, ↓getE_s, ↓setE_0, ↓setE_s, ↓setsE_0, ↓setsE_s, ↓lft_ok, ↓reduceIte, List.map_cons, List.map_nil, List.cons_append, List.nil_append, List.replicate, ↓o_modP, ↓o_fdivP, ↓o_mul, ↓o_unp2, ↓o_unp3, ↓o_unp4, ↓o_pq, ↓o_p10, ↓o_p20, ↓o_p30, ↓o_p38, ↓o_p39, ↓o_p40, ↓o_p59, ↓o_p60, sl, List.length_cons, List.length_nil, decide_true, decide_false, Bool.false_eq_true, Bool.not_true, Bool.not_false, decide_eq_true_eq, Int.reduceEq, Int.reduceNe, Int.reduceLT, Int.reduceLE, Int.reduceNeg, Int.reduceAdd, Int.reduceSub, Int.reduceMul, Nat.reduceAdd, Nat.reduceLeDiff, Nat.reduceSub, Nat.reduceMul, Int.reduceToNat, ↓x_app, ↓app_ref, ↓wk_nx, ↓iL_end, ↓ck_end, Int.cast_ofNat_Int, ↓wipe_0, ↓wipe_s, ↓clr_0, ↓clr_s, ↓r_comp, ↓c_nil, ↓c_cons, ↓bind_lft, ↓push_e0, ↓push_e1, ↓push_e2, ↓push_e3, ↓ix_e0, ↓ix_e1, ↓ix_e2, ↓unp_lit2, ↓unp_lt2, ↓unp_lt3, ↓unp_lt4]
    refine ⟨_, _, [], ?_, ?_, by rw [List.append_nil]⟩ <;> exact big _
  by_cases h4 : kind = 4
  · subst h4
    simp (maxSteps := 10000000) (disch := omega) only [f9, ↓r_var, ↓r_con, ↓r_bin, ↓r_neg, ↓r_not, ↓r_cmp, ↓r_chn, ↓r_and, ↓r_or, ↓r_ite, ↓r_tup, ↓r_lst, ↓r_idx, ↓r_slc, ↓r_call, ↓r_blt, ↓r_isi, ↓o_add, ↓o_sub, ↓o_neg, ↓o_lt, ↓o_le, ↓o_gt, ↓o_ge, ↓o_eq, ↓o_ne, ↓o_eqB, ↓o_neB, ↓o_isB, ↓o_isNotB, ↓o_isN, ↓o_isNotN, ↓o_ix0, ↓o_ix1, ↓o_ix2, ↓o_lenT, ↓o_abs, ↓o_intI, ↓o_intB, ↓o_isiII, ↓o_isiBB, ↓o_isiTT, ↓o_ltP, ↓o_eqP, ↓o_neP, ↓o_eqPP, ↓o_nePP, ↓o_in2, ↓o_in3, ↓r_nil, ↓r_cons, ↓r_tru, ↓x_set, ↓x_expr, ↓x_ret, ↓x_unp, ↓x_if, ↓x_brk, ↓x_cnt, ↓x_pass, ↓x_nil, ↓x_cons, ↓s_nx, ↓s_rt, ↓s_bk, ↓s_ct, ↓s_xc, ↓x_for, ↓f_nil, ↓f_cons, ↓k_nx, ↓k_ct, ↓k_bk, ↓k_rt, ↓k_xc, ↓b_nm, ↓b_tp, ↓ck_n, ↓i_val_, ↓i_T, ↓i_rng1_, ↓i_rng2_, ↓rt_ret, ↓rt_nx, ↓rt_xc, ↓getE_0, ↓getE_s, ↓setE_0, ↓setE_s, ↓setsE_0, ↓setsE_s, ↓lft_ok, ↓reduceIte, List.map_cons, List.map_nil, List.cons_append, List.nil_append, List.replicate, ↓o_modP, ↓o_fdivP, ↓o_mul, ↓o_unp2, ↓o_unp3, ↓o_unp4, ↓o_pq, ↓o_p10, ↓o_p20, ↓o_p30, ↓o_p38, ↓o_p39, ↓o_p40, ↓o_p59, ↓o_p60, sl, List.length_cons, List.length_nil, decide_true, decide_false, Bool.false_eq_true, Bool.not_true, Bool.not_false, decide_eq_true_eq, Int.reduceEq, Int.reduceNe, Int.reduceLT, Int.reduceLE, Int.reduceNeg, Int.reduceAdd, Int.reduceSub, Int.reduceMul, Nat.reduceAdd, Nat.reduceLeDiff, Nat.reduceSub, Nat.reduceMul, Int.reduceToNat, ↓x_app, ↓app_ref, ↓wk_nx, ↓iL_end, ↓ck_end, Int.cast_ofNat_Int, ↓wipe_0, ↓wipe_s, ↓clr_0, ↓clr_s, ↓r_comp, ↓c_nil, ↓c_cons, ↓bind_lft, ↓push_e0, ↓push_e1, ↓push_e2, ↓push_e3, ↓ix_e0, ↓ix_e1, ↓ix_e2, ↓unp_lit2, ↓unp_lt2, ↓unp_lt3, ↓unp_lt4]
    refine ⟨_, _, [], ?_, ?_, by rw [List.append_nil]⟩
    · exact lin _ _ inferInstance (by omega) (by omega)
    · exact lin1 _ _ _ inferInstance (by omega) (by omega) (by split <;> decide) (by split <;> decide)
  by_cases h5 : kind = 5
  · subst h5
    simp (maxSteps := 10000000) (disch := omega) only [f9, ↓r_var, ↓r_con, ↓r_bin, ↓r_neg, ↓r_not, ↓r_cmp, ↓r_chn, ↓r_and, ↓r_or, ↓r_ite, ↓r_tup, ↓r_lst, ↓r_idx, ↓r_slc, ↓r_call, ↓r_blt, ↓r_isi, ↓o_add, ↓o_sub, ↓o_neg, ↓o_lt, ↓o_le, ↓o_gt, ↓o_ge, ↓o_eq, ↓o_ne, ↓o_eqB, ↓o_neB, ↓o_isB, ↓o_isNotB, ↓o_isN, ↓o_isNotN, ↓o_ix0, ↓o_ix1, ↓o_ix2, ↓o_lenT, ↓o_abs, ↓o_intI, ↓o_intB, ↓o_isiII, ↓o_isiBB, ↓o_isiTT, ↓o_ltP, ↓o_eqP, ↓o_neP, ↓o_eqPP, ↓o_nePP, ↓o_in2, ↓o_in3, ↓r_nil, ↓r_cons, ↓r_tru, ↓x_set, ↓x_expr, ↓x_ret, ↓x_unp, ↓x_if, ↓x_brk, ↓x_cnt, ↓x_pass, ↓x_nil, ↓x_cons, ↓s_nx, ↓s_rt, ↓s_bk, ↓s_ct, ↓s_xc, ↓x_for, ↓f_nil, ↓f_cons, ↓k_nx, ↓k_ct, ↓k_bk, ↓k_rt, ↓k_xc, ↓b_nm, ↓b_tp, ↓ck_n, ↓i_val_, ↓i_T, ↓i_rng1_, ↓i_rng2_, ↓rt_ret, ↓rt_nx, ↓rt_xc, ↓getE_0, ↓getE_s, ↓setE_0, ↓setE_s, ↓setsE_0, ↓setsE_s, ↓lft_ok, ↓reduceIte, List.map_cons, List.map_nil, List.cons_append, List.nil_append, List.replicate, ↓o_modP, ↓o_fdivP, ↓o_mul, ↓o_unp2, ↓o_unp3, ↓o_unp4, ↓o_pq, ↓o_p10, ↓o_p20, ↓o_p30, ↓o_p38, ↓o_p39, ↓o_p40, ↓o_p59, ↓o_p60, sl, List.length_cons, List.length_nil, decide_true, decide_false, Bool.false_eq_true, Bool.not_true, Bool.not_false, decide_eq_true_eq, Int.reduceEq, Int.reduceNe, Int.reduceLT, Int.reduceLE, Int.reduceNeg, Int.reduceAdd, Int.reduceSub, Int.reduceMul, Nat.reduceAdd, Nat.reduceLeDiff, Nat.reduceSub, Nat.reduceMul, Int.reduceToNat, ↓x_app, ↓app_ref, ↓wk_nx, ↓iL_end, ↓ck_end, Int.cast_ofNat_Int, ↓wipe_0, ↓wipe_s, ↓clr_0, ↓clr_s, ↓r_comp, ↓c_nil, ↓c_cons, ↓bind_lft, ↓push_e0, ↓push_e1, ↓push_e2, ↓push_e3, ↓ix_e0, ↓ix_e1, ↓ix_e2, ↓unp_lit2, ↓unp_lt2, ↓unp_lt3, ↓unp_lt4]
    refine ⟨_, _, [], ?_, ?_, by rw [List.append_nil]⟩ <;> exact lin _ _ inferInstance (by omega) (by omega)
  · simp (maxSteps := 10000000) (disch := omega) only [f9, ↓r_var, ↓r_con, ↓r_bin, ↓r_neg, ↓r_not, ↓r_cmp, ↓r_chn, ↓r_and, ↓r_or, ↓r_ite, ↓r_tup, ↓r_lst, ↓r_idx, ↓r_slc, ↓r_call, ↓r_blt, ↓r_isi, ↓o_add, ↓o_sub, ↓o_neg, ↓o_lt, ↓o_le, ↓o_gt, ↓o_ge, ↓o_eq, ↓o_ne, ↓o_eqB, ↓o_neB, ↓o_isB, ↓o_isNotB, ↓o_isN, ↓o_isNotN, ↓o_ix0, ↓o_ix1, ↓o_ix2, ↓o_lenT, ↓o_abs, ↓o_intI, ↓o_intB, ↓o_isiII, ↓o_isiBB, ↓o_isiTT, ↓o_ltP, ↓o_eqP, ↓o_neP, ↓o_eqPP, ↓o_nePP, ↓o_in2, ↓o_in3, ↓r_nil, ↓r_cons, ↓r_tru, ↓x_set, ↓x_expr, ↓x_ret, ↓x_unp, ↓x_if, ↓x_brk, ↓x_cnt, ↓x_pass, ↓x_nil, ↓x_cons, ↓s_nx, ↓s_rt, ↓s_bk, ↓s_ct, ↓s_xc, ↓x_for, ↓f_nil, ↓f_cons, ↓k_nx, ↓k_ct, ↓k_bk, ↓k_rt, ↓k_xc, ↓b_nm, ↓b_tp, ↓ck_n, ↓i_val_, ↓i_T, ↓i_rng1_, ↓i_rng2_, ↓rt_ret, ↓rt_nx, ↓rt_xc, ↓getE_0, ↓getE_s, ↓setE_0, ↓setE_s, ↓setsE_0, ↓setsE_s, ↓lft_ok, ↓reduceIte, List.map_cons, List.map_nil, List.cons_append, List.nil_append, List.replicate, ↓o_modP, ↓o_fdivP, ↓o_mul, ↓o_unp2, ↓o_unp3, ↓o_unp4, ↓o_pq, ↓o_p10, ↓o_p20, ↓o_p30, ↓o_p38, ↓o_p39, ↓o_p40, ↓o_p59, ↓o_p60, sl, List.length_cons, List.length_nil, decide_true, decide_false, Bool.false_eq_true, Bool.not_true, Bool.not_false, decide_eq_true_eq, Int.reduceEq, Int.reduceNe, Int.reduceLT, Int.reduceLE, Int.reduceNeg, Int.reduceAdd, Int.reduceSub, Int.reduceMul, Nat.reduceAdd, Nat.reduceLeDiff, Nat.reduceSub, Nat.reduceMul, Int.reduceToNat, ↓x_app, ↓app_ref, ↓wk_nx, ↓iL_end, ↓ck_end, Int.cast_ofNat_Int, ↓wipe_0, ↓wipe_s, ↓clr_0, ↓clr_s, ↓r_comp, ↓c_nil, ↓c_cons, ↓bind_lft, ↓push_e0, ↓push_e1, ↓push_e2, ↓push_e3, ↓ix_e0, ↓ix_e1, ↓ix_e2, ↓unp_lit2, ↓unp_lt2, ↓unp_lt3, ↓unp_lt4, h0, h1, h2, h3, h4, h5]
    refine ⟨_, _, [], ?_, ?_, by rw [List.append_nil]⟩ <;> exact lin _ _ inferInstance (by omega) (by omega)

abbrev pt (p : Int × Int) : D := .tup [.int p.1, .int p.2]
def Bd (p : Int × Int) : Prop := Sz 1000 p.1 ∧ Sz 1000 p.2
theorem spots_loop {n : Nat} (hn : 2 ≤ n) {ns : List Int} {start many kind right up by_ : Int} (h0 : 0 ≤ start) [Sz 131 right] [Sz 131 up] [Sz 68 by_] {A : Store} (hA : Scr ns A) :
    ∀ (ks : List Nat) (acc : List (Int × Int)) (U : Store) (o1 o2 o3 o4 : Option D), acc.length + ks.length ≤ 1000 → (∀ k ∈ ks, k ≤ 1000) → start ≤ 1000 → (∀ p ∈ acc, Bd p) →
    ∃ (acc' : List (Int × Int)) (U' : Store) (o1' o2' o3' o4' : Option D), acc'.length = acc.length + ks.length ∧ (∀ p ∈ acc', Bd p) ∧
      ∀ {β : Type} {q : Flow → Store → R β} {h : Str → Option Nat → Store → R β}, (forL (ckD none) (fun d en' => bindT (.nm 8) d en') (fun en' => exB (callT T (n - 1)) (.cons (.set 9 (.call 6 (.cons (.var 0) (.cons (.bin .add (.bin .add (.var 1) (.con (.int 4))) (.bin .mul (.con (.int 2)) (.var 8))) .nil)))) (.cons (.set 10 (.call 6 (.cons (.var 0) (.cons (.bin .add (.bin .add (.var 1) (.con (.int 5))) (.bin .mul (.con (.int 2)) (.var 8))) .nil)))) (.cons (.set 11 (.var 3)) (.cons (.ifs (.and (.cmp .eq (.var 3) (.con (.int 5))) (.cmp .lt (.var 8) (.con (.int 3)))) (.cons (.set 11 (.con (.int 1))) .nil) .nil) (.cons (.app 7 (.call 9 (.cons (.var 11) (.cons (.var 9) (.cons (.var 10) (.cons (.tup (.cons (.var 4) (.cons (.var 5) .nil))) (.cons (.var 6) .nil))))))) .nil))))) en') (ks.map fun k => .int (0 + (k : Nat)))
        [some (.ref 0), some (.int start), some (.int many), some (.int kind), some (.int right), some (.int up), some (.int by_), some (.ref A.length), o1, o2, o3, o4] (A ++ .lst (acc.map pt) :: U)).lft q h =
        q (.nx [some (.ref 0), some (.int start), some (.int many), some (.int kind), some (.int right), some (.int up), some (.int by_), some (.ref A.length), o1', o2', o3', o4']) (A ++ .lst (acc'.map pt) :: U')
  | [], acc, U, o1, o2, o3, o4, _, _, _, hb => ⟨acc, U, o1, o2, o3, o4, rfl, hb, by
      intro β q h
      simp (disch := omega) only [↓r_var, ↓r_con, ↓r_bin, ↓r_neg, ↓r_not, ↓r_cmp, ↓r_chn, ↓r_and, ↓r_or, ↓r_ite, ↓r_tup, ↓r_lst, ↓r_idx, ↓r_slc, ↓r_call, ↓r_blt, ↓r_isi, ↓o_add, ↓o_sub, ↓o_neg, ↓o_lt, ↓o_le, ↓o_gt, ↓o_ge, ↓o_eq, ↓o_ne, ↓o_eqB, ↓o_neB, ↓o_isB, ↓o_isNotB, ↓o_isN, ↓o_isNotN, ↓o_ix0, ↓o_ix1, ↓o_ix2, ↓o_lenT, ↓o_abs, ↓o_intI, ↓o_intB, ↓o_isiII, ↓o_isiBB, ↓o_isiTT, ↓o_ltP, ↓o_eqP, ↓o_neP, ↓o_eqPP, ↓o_nePP, ↓o_in2, ↓o_in3, ↓r_nil, ↓r_cons, ↓r_tru, ↓x_set, ↓x_expr, ↓x_ret, ↓x_unp, ↓x_if, ↓x_brk, ↓x_cnt, ↓x_pass, ↓x_nil, ↓x_cons, ↓s_nx, ↓s_rt, ↓s_bk, ↓s_ct, ↓s_xc, ↓x_for, ↓f_nil, ↓f_cons, ↓k_nx, ↓k_ct, ↓k_bk, ↓k_rt, ↓k_xc, ↓b_nm, ↓b_tp, ↓ck_n, ↓i_val_, ↓i_T, ↓i_rng1_, ↓i_rng2_, ↓rt_ret, ↓rt_nx, ↓rt_xc, ↓getE_0, ↓getE_s, ↓setE_0, ↓setE_s, ↓setsE_0, ↓setsE_s, ↓lft_ok, ↓reduceIte, List.map_cons, List.map_nil, List.cons_append, List.nil_append, List.replicate, ↓o_modP, ↓o_fdivP, ↓o_mul, ↓o_unp2, ↓o_unp3, ↓o_unp4, ↓o_pq, ↓o_p10, ↓o_p20, ↓o_p30, ↓o_p38, ↓o_p39, ↓o_p40, ↓o_p59, ↓o_p60, sl, List.length_cons, List.length_nil, decide_true, decide_false, Bool.false_eq_true, Bool.not_true, Bool.not_false, decide_eq_true_eq, Int.reduceEq, Int.reduceNe, Int.reduceLT, Int.reduceLE, Int.reduceNeg, Int.reduceAdd, Int.reduceSub, Int.reduceMul, Nat.reduceAdd, Nat.reduceLeDiff, Nat.reduceSub, Nat.reduceMul, Int.reduceToNat, ↓x_app, ↓app_ref, ↓wk_nx, ↓iL_end, ↓ck_end, Int.cast_ofNat_Int, ↓wipe_0, ↓wipe_s, ↓clr_0, ↓clr_s, ↓r_comp, ↓c_nil, ↓c_cons, ↓bind_lft, ↓push_e0, ↓push_e1, ↓push_e2, ↓push_e3, ↓ix_e0, ↓ix_e1, ↓ix_e2, ↓unp_lit2, ↓unp_lt2, ↓unp_lt3, ↓unp_lt4]⟩
  | k :: ks, acc, U, o1, o2, o3, o4, hl, hk, hs, hb => by
    have sk : Sz 10 (0 + (k : Int)) := ⟨by have := hk k List.mem_cons_self; omega⟩
    have hS : Scr ns (A ++ .lst (acc.map pt) :: U) := hA.app
    have hl2 : (acc.map pt).length < sizeLine := by
      rw [List.length_map]
      simp only [List.length_cons] at hl
      exact small1000 (by omega)
    obtain ⟨x, y, V, sx, sy, hsp⟩ := spot_ok (n := n - 1) (by omega) (S := A ++ .lst (acc.map pt) :: U) (kind := if kind = 5 ∧ 0 + (k : Int) < 3 then 1 else kind) (one := nth ns (start + 4 + 2 * (0 + (k : Int)))) (other := nth ns (start + 5 + 2 * (0 + (k : Int)))) (hx := right) (hy := up) (by_ := by_)
    rw [List.append_assoc, List.cons_append] at hsp
    obtain ⟨acc', U', o1', o2', o3', o4', e1, e2, e3⟩ := spots_loop hn (many := many) (kind := kind) (right := right) (up := up) (by_ := by_) h0 hA ks (acc ++ [(x, y)]) (U ++ V) (some (.int (0 + (k : Int)))) (some (.int (nth ns (start + 4 + 2 * (0 + (k : Int)))))) (some (.int (nth ns (start + 5 + 2 * (0 + (k : Int)))))) (some (.int (if kind = 5 ∧ 0 + (k : Int) < 3 then 1 else kind))) (by simp only [List.length_append, List.length_cons, List.length_nil] at hl ⊢; omega) (fun k hk' => hk k (List.mem_cons_of_mem _ hk')) hs (fun p hp => by
      rcases List.mem_append.mp hp with hp | hp
      · exact hb p hp
      · rw [List.mem_singleton.mp hp]; exact ⟨sx, sy⟩)
    refine ⟨acc', U', o1', o2', o3', o4', by rw [e1]; simp only [List.length_append, List.length_cons, List.length_nil]; omega, e2, ?_⟩
    intro β q h
    rw [← @e3 β q h]
    clear e3
    rw [List.map_append]
    have hsk : ∀ {β : Type} {q : D → Store → R β} {h : Str → Option Nat → Store → R β}, _ := fun {β q h} => lft_of (k := q) (h := h) hsp
    have nk : ∀ {k0 : Int} (hk0 : 0 ≤ k0) {β : Type} {q : D → Store → R β} {h : Str → Option Nat → Store → R β}, (callT T (n - 1) 6 [.ref 0, .int k0] (A ++ .lst (acc.map pt) :: U)).lft q h = q (.int (nth ns k0)) (A ++ .lst (acc.map pt) :: U) := fun {k0} hk0 => nth_k (by omega) hS hk0
    by_cases c5 : kind = 5
    · subst c5
      by_cases c3 : 0 + (k : Int) < 3
      · rw [if_pos ⟨rfl, c3⟩] at hsk ⊢
        simp (maxSteps := 10000000) (disch := omega) only [↓r_var, ↓r_con, ↓r_bin, ↓r_neg, ↓r_not, ↓r_cmp, ↓r_chn, ↓r_and, ↓r_or, ↓r_ite, ↓r_tup, ↓r_lst, ↓r_idx, ↓r_slc, ↓r_call, ↓r_blt, ↓r_isi, ↓o_add, ↓o_sub, ↓o_neg, ↓o_lt, ↓o_le, ↓o_gt, ↓o_ge, ↓o_eq, ↓o_ne, ↓o_eqB, ↓o_neB, ↓o_isB, ↓o_isNotB, ↓o_isN, ↓o_isNotN, ↓o_ix0, ↓o_ix1, ↓o_ix2, ↓o_lenT, ↓o_abs, ↓o_intI, ↓o_intB, ↓o_isiII, ↓o_isiBB, ↓o_isiTT, ↓o_ltP, ↓o_eqP, ↓o_neP, ↓o_eqPP, ↓o_nePP, ↓o_in2, ↓o_in3, ↓r_nil, ↓r_cons, ↓r_tru, ↓x_set, ↓x_expr, ↓x_ret, ↓x_unp, ↓x_if, ↓x_brk, ↓x_cnt, ↓x_pass, ↓x_nil, ↓x_cons, ↓s_nx, ↓s_rt, ↓s_bk, ↓s_ct, ↓s_xc, ↓x_for, ↓f_nil, ↓f_cons, ↓k_nx, ↓k_ct, ↓k_bk, ↓k_rt, ↓k_xc, ↓b_nm, ↓b_tp, ↓ck_n, ↓i_val_, ↓i_T, ↓i_rng1_, ↓i_rng2_, ↓rt_ret, ↓rt_nx, ↓rt_xc, ↓getE_0, ↓getE_s, ↓setE_0, ↓setE_s, ↓setsE_0, ↓setsE_s, ↓lft_ok, ↓reduceIte, List.map_cons, List.map_nil, List.cons_append, List.nil_append, List.replicate, ↓o_modP, ↓o_fdivP, ↓o_mul, ↓o_unp2, ↓o_unp3, ↓o_unp4, ↓o_pq, ↓o_p10, ↓o_p20, ↓o_p30, ↓o_p38, ↓o_p39, ↓o_p40, ↓o_p59, ↓o_p60, sl, List.length_cons, List.length_nil, decide_true, decide_false, Bool.false_eq_true, Bool.not_true, Bool.not_false, decide_eq_true_eq, Int.reduceEq, Int.reduceNe, Int.reduceLT, Int.reduceLE, Int.reduceNeg, Int.reduceAdd, Int.reduceSub, Int.reduceMul, Nat.reduceAdd, Nat.reduceLeDiff, Nat.reduceSub, Nat.reduceMul, Int.reduceToNat, ↓x_app, ↓app_ref, ↓wk_nx, ↓iL_end, ↓ck_end, Int.cast_ofNat_Int, ↓wipe_0, ↓wipe_s, ↓clr_0, ↓clr_s, ↓r_comp, ↓c_nil, ↓c_cons, ↓bind_lft, ↓push_e0, ↓push_e1, ↓push_e2, ↓push_e3, ↓ix_e0, ↓ix_e1, ↓ix_e2, ↓unp_lit2, ↓unp_lt2, ↓unp_lt3, ↓unp_lt4, ↓nk, ↓hsk, c3, ↓getM_mid, ↓push_mid hl2]
      · rw [if_neg (fun z => c3 z.2)] at hsk ⊢
        simp (maxSteps := 10000000) (disch := omega) only [↓r_var, ↓r_con, ↓r_bin, ↓r_neg, ↓r_not, ↓r_cmp, ↓r_chn, ↓r_and, ↓r_or, ↓r_ite, ↓r_tup, ↓r_lst, ↓r_idx, ↓r_slc, ↓r_call, ↓r_blt, ↓r_isi, ↓o_add, ↓o_sub, ↓o_neg, ↓o_lt, ↓o_le, ↓o_gt, ↓o_ge, ↓o_eq, ↓o_ne, ↓o_eqB, ↓o_neB, ↓o_isB, ↓o_isNotB, ↓o_isN, ↓o_isNotN, ↓o_ix0, ↓o_ix1, ↓o_ix2, ↓o_lenT, ↓o_abs, ↓o_intI, ↓o_intB, ↓o_isiII, ↓o_isiBB, ↓o_isiTT, ↓o_ltP, ↓o_eqP, ↓o_neP, ↓o_eqPP, ↓o_nePP, ↓o_in2, ↓o_in3, ↓r_nil, ↓r_cons, ↓r_tru, ↓x_set, ↓x_expr, ↓x_ret, ↓x_unp, ↓x_if, ↓x_brk, ↓x_cnt, ↓x_pass, ↓x_nil, ↓x_cons, ↓s_nx, ↓s_rt, ↓s_bk, ↓s_ct, ↓s_xc, ↓x_for, ↓f_nil, ↓f_cons, ↓k_nx, ↓k_ct, ↓k_bk, ↓k_rt, ↓k_xc, ↓b_nm, ↓b_tp, ↓ck_n, ↓i_val_, ↓i_T, ↓i_rng1_, ↓i_rng2_, ↓rt_ret, ↓rt_nx, ↓rt_xc, ↓getE_0, ↓getE_s, ↓setE_0, ↓setE_s, ↓setsE_0, ↓setsE_s, ↓lft_ok, ↓reduceIte, List.map_cons, List.map_nil, List.cons_append, List.nil_append, List.replicate, ↓o_modP, ↓o_fdivP, ↓o_mul, ↓o_unp2, ↓o_unp3, ↓o_unp4, ↓o_pq, ↓o_p10, ↓o_p20, ↓o_p30, ↓o_p38, ↓o_p39, ↓o_p40, ↓o_p59, ↓o_p60, sl, List.length_cons, List.length_nil, decide_true, decide_false, Bool.false_eq_true, Bool.not_true, Bool.not_false, decide_eq_true_eq, Int.reduceEq, Int.reduceNe, Int.reduceLT, Int.reduceLE, Int.reduceNeg, Int.reduceAdd, Int.reduceSub, Int.reduceMul, Nat.reduceAdd, Nat.reduceLeDiff, Nat.reduceSub, Nat.reduceMul, Int.reduceToNat, ↓x_app, ↓app_ref, ↓wk_nx, ↓iL_end, ↓ck_end, Int.cast_ofNat_Int, ↓wipe_0, ↓wipe_s, ↓clr_0, ↓clr_s, ↓r_comp, ↓c_nil, ↓c_cons, ↓bind_lft, ↓push_e0, ↓push_e1, ↓push_e2, ↓push_e3, ↓ix_e0, ↓ix_e1, ↓ix_e2, ↓unp_lit2, ↓unp_lt2, ↓unp_lt3, ↓unp_lt4, ↓nk, ↓hsk, c3, ↓getM_mid, ↓push_mid hl2]
    · rw [if_neg (fun z => c5 z.1)] at hsk ⊢
      simp (maxSteps := 10000000) (disch := omega) only [↓r_var, ↓r_con, ↓r_bin, ↓r_neg, ↓r_not, ↓r_cmp, ↓r_chn, ↓r_and, ↓r_or, ↓r_ite, ↓r_tup, ↓r_lst, ↓r_idx, ↓r_slc, ↓r_call, ↓r_blt, ↓r_isi, ↓o_add, ↓o_sub, ↓o_neg, ↓o_lt, ↓o_le, ↓o_gt, ↓o_ge, ↓o_eq, ↓o_ne, ↓o_eqB, ↓o_neB, ↓o_isB, ↓o_isNotB, ↓o_isN, ↓o_isNotN, ↓o_ix0, ↓o_ix1, ↓o_ix2, ↓o_lenT, ↓o_abs, ↓o_intI, ↓o_intB, ↓o_isiII, ↓o_isiBB, ↓o_isiTT, ↓o_ltP, ↓o_eqP, ↓o_neP, ↓o_eqPP, ↓o_nePP, ↓o_in2, ↓o_in3, ↓r_nil, ↓r_cons, ↓r_tru, ↓x_set, ↓x_expr, ↓x_ret, ↓x_unp, ↓x_if, ↓x_brk, ↓x_cnt, ↓x_pass, ↓x_nil, ↓x_cons, ↓s_nx, ↓s_rt, ↓s_bk, ↓s_ct, ↓s_xc, ↓x_for, ↓f_nil, ↓f_cons, ↓k_nx, ↓k_ct, ↓k_bk, ↓k_rt, ↓k_xc, ↓b_nm, ↓b_tp, ↓ck_n, ↓i_val_, ↓i_T, ↓i_rng1_, ↓i_rng2_, ↓rt_ret, ↓rt_nx, ↓rt_xc, ↓getE_0, ↓getE_s, ↓setE_0, ↓setE_s, ↓setsE_0, ↓setsE_s, ↓lft_ok, ↓reduceIte, List.map_cons, List.map_nil, List.cons_append, List.nil_append, List.replicate, ↓o_modP, ↓o_fdivP, ↓o_mul, ↓o_unp2, ↓o_unp3, ↓o_unp4, ↓o_pq, ↓o_p10, ↓o_p20, ↓o_p30, ↓o_p38, ↓o_p39, ↓o_p40, ↓o_p59, ↓o_p60, sl, List.length_cons, List.length_nil, decide_true, decide_false, Bool.false_eq_true, Bool.not_true, Bool.not_false, decide_eq_true_eq, Int.reduceEq, Int.reduceNe, Int.reduceLT, Int.reduceLE, Int.reduceNeg, Int.reduceAdd, Int.reduceSub, Int.reduceMul, Nat.reduceAdd, Nat.reduceLeDiff, Nat.reduceSub, Nat.reduceMul, Int.reduceToNat, ↓x_app, ↓app_ref, ↓wk_nx, ↓iL_end, ↓ck_end, Int.cast_ofNat_Int, ↓wipe_0, ↓wipe_s, ↓clr_0, ↓clr_s, ↓r_comp, ↓c_nil, ↓c_cons, ↓bind_lft, ↓push_e0, ↓push_e1, ↓push_e2, ↓push_e3, ↓ix_e0, ↓ix_e1, ↓ix_e2, ↓unp_lit2, ↓unp_lt2, ↓unp_lt3, ↓unp_lt4, ↓nk, ↓hsk, c5, ↓getM_mid, ↓push_mid hl2]
theorem spots_ok {n : Nat} (hn : 2 ≤ n) {ns : List Int} {start : Int} {many : Nat} (h0 : 0 ≤ start) (h1 : start ≤ 900) (hm : many ≤ 900) {S : Store} (hS : Scr ns S) :
    ∃ (ps : List (Int × Int)) (U : Store), ps.length = many ∧ (∀ p ∈ ps, Bd p) ∧ callT T n 10 [.ref 0, .int start, .int (many : Int)] S = .ok (.ref S.length) (S ++ .lst (ps.map pt) :: U) := by
  have nk : ∀ {k0 : Int} (hk0 : 0 ≤ k0) {β : Type} {q : D → Store → R β} {h : Str → Option Nat → Store → R β}, (callT T (n - 1) 6 [.ref 0, .int k0] S).lft q h = q (.int (nth ns k0)) S := fun {k0} hk0 => nth_k (by omega) hS hk0
  have s1 : ∀ t : Int, Sz 131 (t % (2 * P39 + 1) - P39) := fun t => ⟨by
    have h1 := Int.emod_nonneg t (show 2 * P39 + 1 ≠ 0 by rw [P39_eq]; decide)
    have h2 := Int.emod_lt_of_pos t (show (0 : Int) < 2 * P39 + 1 by rw [P39_eq]; decide)
    rw [P39_eq] at *
    omega⟩
  have s2 : ∀ t : Int, Sz 68 (1 + t % P20) := fun t => ⟨by
    have h1 := Int.emod_nonneg t (show P20 ≠ 0 by rw [P20_eq]; decide)
    have h2 := Int.emod_lt_of_pos t (show (0 : Int) < P20 by rw [P20_eq]; decide)
    rw [P20_eq] at *
    omega⟩
  obtain ⟨acc', U', o1, o2, o3, o4, e1, e2, e3⟩ := @spots_loop n hn ns start (many : Int) (nth ns start % 6) (nth ns (start + 1) % (2 * P39 + 1) - P39) (nth ns (start + 2) % (2 * P39 + 1) - P39) (1 + nth ns (start + 3) % P20) h0 (s1 _) (s1 _) (s2 _) S hS (List.range many) [] [] none none none none (by simp; omega) (fun k hk => by have := List.mem_range.mp hk; omega) (by omega) (fun p hp => by cases hp)
  refine ⟨acc', U', by rw [e1]; simp, e2, ?_⟩
  have er : ((many : Int) - 0).toNat = many := by omega
  rw [call_eq (by omega) (show T 10 = some f10 from rfl), run_eq rfl]
  have rg : ∀ {S : Store} {β : Type} {q : List D → Store → R β} {h : Str → Option Nat → Store → R β}, (rngD (.int 0) (.int (many : Int)) S).lft q h = q ((List.range many).map fun k => .int (0 + (k : Nat))) S := fun {S β q h} => by
    rw [o_rng ⟨by decide, by decide, by omega, by omega⟩, er]
  have e3' : ∀ {β : Type} {q : Flow → Store → R β} {h : Str → Option Nat → Store → R β}, _ := fun {β q h} => @e3 β q h
  simp (maxSteps := 10000000) (disch := omega) only [f10, ↓r_var, ↓r_con, ↓r_bin, ↓r_neg, ↓r_not, ↓r_cmp, ↓r_chn, ↓r_and, ↓r_or, ↓r_ite, ↓r_tup, ↓r_lst, ↓r_idx, ↓r_slc, ↓r_call, ↓r_blt, ↓r_isi, ↓o_add, ↓o_sub, ↓o_neg, ↓o_lt, ↓o_le, ↓o_gt, ↓o_ge, ↓o_eq, ↓o_ne, ↓o_eqB, ↓o_neB, ↓o_isB, ↓o_isNotB, ↓o_isN, ↓o_isNotN, ↓o_ix0, ↓o_ix1, ↓o_ix2, ↓o_lenT, ↓o_abs, ↓o_intI, ↓o_intB, ↓o_isiII, ↓o_isiBB, ↓o_isiTT, ↓o_ltP, ↓o_eqP, ↓o_neP, ↓o_eqPP, ↓o_nePP, ↓o_in2, ↓o_in3, ↓r_nil, ↓r_cons, ↓r_tru, ↓x_set, ↓x_expr, ↓x_ret, ↓x_unp, ↓x_if, ↓x_brk, ↓x_cnt, ↓x_pass, ↓x_nil, ↓x_cons, ↓s_nx, ↓s_rt, ↓s_bk, ↓s_ct, ↓s_xc, ↓x_for, ↓f_nil, ↓f_cons, ↓k_nx, ↓k_ct, ↓k_bk, ↓k_rt, ↓k_xc, ↓b_nm, ↓b_tp, ↓ck_n, ↓i_val_, ↓i_T, ↓i_rng1_, ↓i_rng2_, ↓rt_ret, ↓rt_nx, ↓rt_xc, ↓getE_0, ↓getE_s, ↓setE_0, ↓setE_s, ↓setsE_0, ↓setsE_s, ↓lft_ok, ↓reduceIte, List.map_cons, List.map_nil, List.cons_append, List.nil_append, List.replicate, ↓o_modP, ↓o_fdivP, ↓o_mul, ↓o_unp2, ↓o_unp3, ↓o_unp4, ↓o_pq, ↓o_p10, ↓o_p20, ↓o_p30, ↓o_p38, ↓o_p39, ↓o_p40, ↓o_p59, ↓o_p60, sl, List.length_cons, List.length_nil, decide_true, decide_false, Bool.false_eq_true, Bool.not_true, Bool.not_false, decide_eq_true_eq, Int.reduceEq, Int.reduceNe, Int.reduceLT, Int.reduceLE, Int.reduceNeg, Int.reduceAdd, Int.reduceSub, Int.reduceMul, Nat.reduceAdd, Nat.reduceLeDiff, Nat.reduceSub, Nat.reduceMul, Int.reduceToNat, ↓x_app, ↓app_ref, ↓wk_nx, ↓iL_end, ↓ck_end, Int.cast_ofNat_Int, ↓wipe_0, ↓wipe_s, ↓clr_0, ↓clr_s, ↓r_comp, ↓c_nil, ↓c_cons, ↓bind_lft, ↓push_e0, ↓push_e1, ↓push_e2, ↓push_e3, ↓ix_e0, ↓ix_e1, ↓ix_e2, ↓unp_lit2, ↓unp_lt2, ↓unp_lt3, ↓unp_lt4, ↓nk, ↓rg]
  simp only [List.map_nil] at e3'
  rw [e3']
  simp (maxSteps := 10000000) (disch := omega) only [↓r_var, ↓r_con, ↓r_bin, ↓r_neg, ↓r_not, ↓r_cmp, ↓r_chn, ↓r_and, ↓r_or, ↓r_ite, ↓r_tup, ↓r_lst, ↓r_idx, ↓r_slc, ↓r_call, ↓r_blt, ↓r_isi, ↓o_add, ↓o_sub, ↓o_neg, ↓o_lt, ↓o_le, ↓o_gt, ↓o_ge, ↓o_eq, ↓o_ne, ↓o_eqB, ↓o_neB, ↓o_isB, ↓o_isNotB, ↓o_isN, ↓o_isNotN, ↓o_ix0, ↓o_ix1, ↓o_ix2, ↓o_lenT, ↓o_abs, ↓o_intI, ↓o_intB, ↓o_isiII, ↓o_isiBB, ↓o_isiTT, ↓o_ltP, ↓o_eqP, ↓o_neP, ↓o_eqPP, ↓o_nePP, ↓o_in2, ↓o_in3, ↓r_nil, ↓r_cons, ↓r_tru, ↓x_set, ↓x_expr, ↓x_ret, ↓x_unp, ↓x_if, ↓x_brk, ↓x_cnt, ↓x_pass, ↓x_nil, ↓x_cons, ↓s_nx, ↓s_rt, ↓s_bk, ↓s_ct, ↓s_xc, ↓x_for, ↓f_nil, ↓f_cons, ↓k_nx, ↓k_ct, ↓k_bk, ↓k_rt, ↓k_xc, ↓b_nm, ↓b_tp, ↓ck_n, ↓i_val_, ↓i_T, ↓i_rng1_, ↓i_rng2_, ↓rt_ret, ↓rt_nx, ↓rt_xc, ↓getE_0, ↓getE_s, ↓setE_0, ↓setE_s, ↓setsE_0, ↓setsE_s, ↓lft_ok, ↓reduceIte, List.map_cons, List.map_nil, List.cons_append, List.nil_append, List.replicate, ↓o_modP, ↓o_fdivP, ↓o_mul, ↓o_unp2, ↓o_unp3, ↓o_unp4, ↓o_pq, ↓o_p10, ↓o_p20, ↓o_p30, ↓o_p38, ↓o_p39, ↓o_p40, ↓o_p59, ↓o_p60, sl, List.length_cons, List.length_nil, decide_true, decide_false, Bool.false_eq_true, Bool.not_true, Bool.not_false, decide_eq_true_eq, Int.reduceEq, Int.reduceNe, Int.reduceLT, Int.reduceLE, Int.reduceNeg, Int.reduceAdd, Int.reduceSub, Int.reduceMul, Nat.reduceAdd, Nat.reduceLeDiff, Nat.reduceSub, Nat.reduceMul, Int.reduceToNat, ↓x_app, ↓app_ref, ↓wk_nx, ↓iL_end, ↓ck_end, Int.cast_ofNat_Int, ↓wipe_0, ↓wipe_s, ↓clr_0, ↓clr_s, ↓r_comp, ↓c_nil, ↓c_cons, ↓bind_lft, ↓push_e0, ↓push_e1, ↓push_e2, ↓push_e3, ↓ix_e0, ↓ix_e1, ↓ix_e2, ↓unp_lit2, ↓unp_lt2, ↓unp_lt3, ↓unp_lt4]

theorem unlike_ok {n : Nat} (hn : 2 ≤ n) {S : Store} {ax ay bx by_ cx cy dx dy : Int} [Sz 1000 ax] [Sz 1000 ay] [Sz 1000 bx] [Sz 1000 by_] [Sz 1000 cx] [Sz 1000 cy] [Sz 1000 dx] [Sz 1000 dy] :
    callT T n 11 [.tup [.int ax, .int ay], .tup [.int bx, .int by_], .tup [.int cx, .int cy], .tup [.int dx, .int dy]] S = .ok (.bl (decide (sg (arV ax ay bx by_ cx cy) * sg (arV ax ay bx by_ dx dy) < 0))) S := by
  rw [call_eq (by omega) (show T 11 = some f11 from rfl), run_eq rfl]
  simp (maxSteps := 10000000) (disch := omega) only [f11, ↓r_var, ↓r_con, ↓r_bin, ↓r_neg, ↓r_not, ↓r_cmp, ↓r_chn, ↓r_and, ↓r_or, ↓r_ite, ↓r_tup, ↓r_lst, ↓r_idx, ↓r_slc, ↓r_call, ↓r_blt, ↓r_isi, ↓o_add, ↓o_sub, ↓o_neg, ↓o_lt, ↓o_le, ↓o_gt, ↓o_ge, ↓o_eq, ↓o_ne, ↓o_eqB, ↓o_neB, ↓o_isB, ↓o_isNotB, ↓o_isN, ↓o_isNotN, ↓o_ix0, ↓o_ix1, ↓o_ix2, ↓o_lenT, ↓o_abs, ↓o_intI, ↓o_intB, ↓o_isiII, ↓o_isiBB, ↓o_isiTT, ↓o_ltP, ↓o_eqP, ↓o_neP, ↓o_eqPP, ↓o_nePP, ↓o_in2, ↓o_in3, ↓r_nil, ↓r_cons, ↓r_tru, ↓x_set, ↓x_expr, ↓x_ret, ↓x_unp, ↓x_if, ↓x_brk, ↓x_cnt, ↓x_pass, ↓x_nil, ↓x_cons, ↓s_nx, ↓s_rt, ↓s_bk, ↓s_ct, ↓s_xc, ↓x_for, ↓f_nil, ↓f_cons, ↓k_nx, ↓k_ct, ↓k_bk, ↓k_rt, ↓k_xc, ↓b_nm, ↓b_tp, ↓ck_n, ↓i_val_, ↓i_T, ↓i_rng1_, ↓i_rng2_, ↓rt_ret, ↓rt_nx, ↓rt_xc, ↓getE_0, ↓getE_s, ↓setE_0, ↓setE_s, ↓setsE_0, ↓setsE_s, ↓lft_ok, ↓reduceIte, List.map_cons, List.map_nil, List.cons_append, List.nil_append, List.replicate, ↓o_modP, ↓o_fdivP, ↓o_mul, ↓o_unp2, ↓o_unp3, ↓o_unp4, ↓o_pq, ↓o_p10, ↓o_p20, ↓o_p30, ↓o_p38, ↓o_p39, ↓o_p40, ↓o_p59, ↓o_p60, sl, List.length_cons, List.length_nil, decide_true, decide_false, Bool.false_eq_true, Bool.not_true, Bool.not_false, decide_eq_true_eq, Int.reduceEq, Int.reduceNe, Int.reduceLT, Int.reduceLE, Int.reduceNeg, Int.reduceAdd, Int.reduceSub, Int.reduceMul, Nat.reduceAdd, Nat.reduceLeDiff, Nat.reduceSub, Nat.reduceMul, Int.reduceToNat, ↓x_app, ↓app_ref, ↓wk_nx, ↓iL_end, ↓ck_end, Int.cast_ofNat_Int, ↓wipe_0, ↓wipe_s, ↓clr_0, ↓clr_s, ↓r_comp, ↓c_nil, ↓c_cons, ↓bind_lft, ↓push_e0, ↓push_e1, ↓push_e2, ↓push_e3, ↓ix_e0, ↓ix_e1, ↓ix_e2, ↓unp_lit2, ↓unp_lt2, ↓unp_lt3, ↓unp_lt4, ↓area_k, ↓lsign_k]

theorem tw_ar (ax ay bx by_ cx cy : Int) : twV ax ay bx by_ cx cy = arV ax ay bx by_ cx cy := by unfold twV arV; grind
theorem sgm {x y : Int} (h : sg x * sg y < 0) : (0 < x ∧ y < 0) ∨ (x < 0 ∧ 0 < y) := by
  unfold sg at h
  by_cases a : 0 < x
  · by_cases b : 0 < y
    · rw [if_pos a, if_pos b] at h; omega
    · by_cases c : y < 0
      · exact .inl ⟨a, c⟩
      · rw [if_pos a, if_neg b, if_neg c] at h; omega
  · by_cases a2 : x < 0
    · by_cases b : 0 < y
      · exact .inr ⟨a2, b⟩
      · by_cases c : y < 0
        · rw [if_neg a, if_pos a2, if_neg b, if_pos c] at h; omega
        · rw [if_neg a, if_pos a2, if_neg b, if_neg c] at h; omega
    · rw [if_neg a, if_neg a2] at h; omega
theorem sg_pos {x : Int} (h : 0 < x) : sg x = 1 := by unfold sg; rw [if_pos h]
theorem sg_lt {x : Int} (h : x < 0) : sg x = -1 := by unfold sg; rw [if_neg (by omega), if_pos h]
theorem sg_prod {t w : Int} (h : sg t * sg w ≠ 0) : sg t * sg w = 1 ∨ sg t * sg w = -1 := by
  have s : ∀ t : Int, sg t = 1 ∨ sg t = 0 ∨ sg t = -1 := fun t => by
    unfold sg
    split
    · exact .inl rfl
    · split
      · exact .inr (.inr rfl)
      · exact .inr (.inl rfl)
  rcases s t with a | a | a <;> rcases s w with b | b | b <;> rw [a, b] at h ⊢ <;> first | exact .inl rfl | exact .inr rfl | exact absurd rfl h
theorem opp {p q A B : Int} (hv : (0 < p ∧ q < 0) ∨ (p < 0 ∧ 0 < q)) (lin : q - p = A - B) : (0 < A → B < 0 → p < 0) ∧ (A < 0 → 0 < B → 0 < p) := by omega
theorem neg1 {r : Int} (h : r = 1 ∨ r = -1) : -r = 1 ↔ ¬ r = 1 := by omega
theorem nz_of {a b : Int} (hu : (0 < a ∧ b < 0) ∨ (a < 0 ∧ 0 < b)) : a ≠ 0 ∧ b ≠ 0 := by omega
theorem sq_nn (a : Int) : 0 ≤ a * a := by
  rcases Int.lt_trichotomy a 0 with z | z | z
  · exact Int.le_of_lt (Int.mul_pos_of_neg_of_neg z z)
  · rw [z]; decide
  · exact Int.le_of_lt (Int.mul_pos z z)
theorem sq_p {a : Int} (h : a ≠ 0) : 0 < a * a := by
  rcases Int.lt_trichotomy a 0 with z | z | z
  · exact Int.mul_pos_of_neg_of_neg z z
  · exact absurd z h
  · exact Int.mul_pos z z
theorem he_pos {ax ay dx dy : Int} (h : ¬ (ax = dx ∧ ay = dy)) : 0 < heV ax ay dx dy := by
  unfold heV
  have a := sq_nn (ax - dx)
  have b := sq_nn (ay - dy)
  by_cases e : ax = dx
  · have := sq_p (show ay - dy ≠ 0 by intro z; exact h ⟨e, by omega⟩)
    omega
  · have := sq_p (show ax - dx ≠ 0 by omega)
    omega
theorem neg_of {a b c : Int} (ha : 0 < a) (hs : a * b + c = 0) (hc : 0 < c) : b < 0 := by
  rcases Int.lt_trichotomy b 0 with z | z | z
  · exact z
  · rw [z] at hs; omega
  · have := Int.mul_pos ha z; omega
section
variable {px py qx qy rx ry sx sy : Int}
theorem ne_of_tw (h : twV px py qx qy rx ry ≠ 0) : ¬ (qx = px ∧ qy = py) ∧ ¬ (rx = px ∧ ry = py) ∧ ¬ (rx = qx ∧ ry = qy) := by
  refine ⟨fun ⟨a, b⟩ => h ?_, fun ⟨a, b⟩ => h ?_, fun ⟨a, b⟩ => h ?_⟩ <;> subst a b <;> unfold twV <;> grind
theorem bo_swap : boV px py qx qy sx sy rx ry = -boV px py qx qy rx ry sx sy := by unfold boV heV twV; grind
theorem bo_cross : boV rx ry sx sy px py qx qy = boV px py qx qy rx ry sx sy := by unfold boV heV twV; grind
/-- four of one ring, r left and s right of pq: the other side, too -/
theorem cvx (hA : 0 < twV px py qx qy rx ry) (hB : twV px py qx qy sx sy < 0) (h0 : boV px py qx qy rx ry sx sy = 0) : twV px py rx ry sx sy < 0 ∧ 0 < twV qx qy rx ry sx sy := by
  obtain ⟨n1, n2, n3⟩ := ne_of_tw (show twV px py qx qy rx ry ≠ 0 by omega)
  have e1 : heV qx qy px py * twV px py rx ry sx sy + (heV rx ry px py * (-twV px py qx qy sx sy) + heV sx sy px py * twV px py qx qy rx ry) = 0 := by
    have : boV px py qx qy rx ry sx sy = -(heV qx qy px py * twV px py rx ry sx sy + (heV rx ry px py * (-twV px py qx qy sx sy) + heV sx sy px py * twV px py qx qy rx ry)) := by unfold boV heV twV; grind
    omega
  have e2 : heV px py qx qy * (-twV qx qy rx ry sx sy) + (heV rx ry qx qy * (-twV px py qx qy sx sy) + heV sx sy qx qy * twV px py qx qy rx ry) = 0 := by
    have : boV px py qx qy rx ry sx sy = -(heV px py qx qy * (-twV qx qy rx ry sx sy) + (heV rx ry qx qy * (-twV px py qx qy sx sy) + heV sx sy qx qy * twV px py qx qy rx ry)) := by unfold boV heV twV; grind
    omega
  have s1 : 0 ≤ heV sx sy px py := by unfold heV; have := sq_nn (sx - px); have := sq_nn (sy - py); omega
  have s2 : 0 ≤ heV sx sy qx qy := by unfold heV; have := sq_nn (sx - qx); have := sq_nn (sy - qy); omega
  have p1 := Int.mul_pos (he_pos n2) (show 0 < -twV px py qx qy sx sy by omega)
  have p2 := Int.mul_nonneg s1 (Int.le_of_lt hA)
  have p3 := Int.mul_pos (he_pos n3) (show 0 < -twV px py qx qy sx sy by omega)
  have p4 := Int.mul_nonneg s2 (Int.le_of_lt hA)
  have k1 := neg_of (he_pos n1) e1 (by omega)
  have k2 := neg_of (he_pos (fun ⟨a, b⟩ => n1 ⟨a.symm, b.symm⟩)) e2 (by omega)
  exact ⟨k1, by omega⟩
theorem lx_tr {a b c d e f : Int} (h : lxP a b c d) (h2 : lxP c d e f) : lxP a b e f := by unfold lxP at *; omega
theorem lx_as {a b c d : Int} (h : lxP a b c d) : ¬ lxP c d a b := by unfold lxP at *; omega
theorem lx_or {a b c d : Int} (h : ¬ (a = c ∧ b = d)) : lxP a b c d ∨ lxP c d a b := by unfold lxP; omega
abbrev tieV (px py qx qy rx ry sx sy : Int) : Prop := (lxP rx ry px py ∧ lxP rx ry qx qy) ∨ (lxP sx sy px py ∧ lxP sx sy qx qy)
theorem sp_tie (hu : (0 < twV px py qx qy rx ry ∧ twV px py qx qy sx sy < 0) ∨ (twV px py qx qy rx ry < 0 ∧ 0 < twV px py qx qy sx sy)) (h0 : boV px py qx qy rx ry sx sy = 0) : spV px py qx qy rx ry sx sy = decide (tieV px py qx qy rx ry sx sy) := by
  obtain ⟨n1, n2, n3⟩ := ne_of_tw (show twV px py qx qy rx ry ≠ 0 by omega)
  obtain ⟨_, m2, m3⟩ := ne_of_tw (show twV px py qx qy sx sy ≠ 0 by omega)
  have nrs : ¬ (rx = sx ∧ ry = sy) := fun ⟨a, b⟩ => by subst a b; omega
  have cv : (twV px py rx ry sx sy < 0 ∧ 0 < twV qx qy rx ry sx sy ∧ 0 < twV px py qx qy rx ry) ∨ (0 < twV px py rx ry sx sy ∧ twV qx qy rx ry sx sy < 0 ∧ twV px py qx qy rx ry < 0) := by
    rcases hu with ⟨a, b⟩ | ⟨a, b⟩
    · have := cvx a b h0
      exact .inl ⟨this.1, this.2, a⟩
    · have e1 : twV qx qy px py rx ry = -twV px py qx qy rx ry := by unfold twV; grind
      have e2 : twV qx qy px py sx sy = -twV px py qx qy sx sy := by unfold twV; grind
      have e3 : boV qx qy px py rx ry sx sy = -boV px py qx qy rx ry sx sy := by unfold boV heV twV; grind
      have := cvx (px := qx) (py := qy) (qx := px) (qy := py) (rx := rx) (ry := ry) (sx := sx) (sy := sy) (by omega) (by omega) (by omega)
      exact .inr ⟨this.2, this.1, a⟩
  have f1 : ¬ sg (twV qx qy rx ry px py) * sg (twV qx qy rx ry sx sy) < 0 := fun z => by
    have e : twV qx qy rx ry px py = twV px py qx qy rx ry := by unfold twV; grind
    have := sgm z
    omega
  have f2 : ¬ sg (twV px py rx ry qx qy) * sg (twV px py rx ry sx sy) < 0 := fun z => by
    have e : twV px py rx ry qx qy = -twV px py qx qy rx ry := by unfold twV; grind
    have := sgm z
    omega
  have f3 : sg (twV px py qx qy rx ry) * sg (twV px py qx qy sx sy) < 0 := by
    rcases hu with ⟨a, b⟩ | ⟨a, b⟩
    · rw [sg_pos a, sg_lt b]; decide
    · rw [sg_lt a, sg_pos b]; decide
  have r0 : riV px py qx qy rx ry sx sy = 0 := by
    show _ * sg (boV px py qx qy rx ry sx sy) = 0
    rw [h0]; exact Int.mul_zero _
  have d0 : ¬ (riV px py qx qy rx ry sx sy ≠ 0 ∨ (px = sx ∧ py = sy) ∨ (qx = sx ∧ qy = sy) ∨ (rx = sx ∧ ry = sy)) := by
    rintro (z | ⟨a, b⟩ | ⟨a, b⟩ | z)
    · exact z r0
    · exact m2 ⟨a.symm, b.symm⟩
    · exact m3 ⟨a.symm, b.symm⟩
    · exact nrs z
  unfold spV
  apply decide_eq_decide.mpr
  rw [if_neg d0]
  by_cases c1 : lxP sx sy px py ∧ lxP sx sy qx qy ∧ lxP sx sy rx ry
  · rw [if_pos c1]
    exact ⟨fun _ => .inr ⟨c1.1, c1.2.1⟩, fun _ => trivial⟩
  · rw [if_neg c1]
    have toR : (lxP sx sy px py ∧ lxP sx sy qx qy) → (lxP rx ry px py ∧ lxP rx ry qx qy) := fun ⟨a, b⟩ => by
      rcases lx_or (fun z => nrs ⟨z.1.symm, z.2.symm⟩ : ¬ (sx = rx ∧ sy = ry)) with z | z
      · exact absurd ⟨a, b, z⟩ c1
      · exact ⟨lx_tr z a, lx_tr z b⟩
    by_cases c2 : ¬ lxP qx qy px py ∧ ¬ lxP rx ry px py
    · rw [if_pos c2]
      constructor
      · intro z; exact absurd z f1
      · rintro (z | z)
        · exact absurd z.1 c2.2
        · exact absurd (toR z).1 c2.2
    · rw [if_neg c2]
      by_cases c3 : ¬ lxP px py qx qy ∧ ¬ lxP rx ry qx qy
      · rw [if_pos c3]
        constructor
        · intro z; exact absurd z f2
        · rintro (z | z)
          · exact absurd z.2 c3.2
          · exact absurd (toR z).2 c3.2
      · rw [if_neg c3]
        refine ⟨fun _ => .inl ?_, fun _ => f3⟩
        rcases lx_or (fun z => n1 ⟨z.1.symm, z.2.symm⟩ : ¬ (px = qx ∧ py = qy)) with z | z
        · have a : lxP rx ry px py := Decidable.byContradiction fun y => c2 ⟨lx_as z, y⟩
          exact ⟨a, lx_tr a z⟩
        · have a : lxP rx ry qx qy := Decidable.byContradiction fun y => c3 ⟨lx_as z, y⟩
          exact ⟨lx_tr a z, a⟩
theorem sp_gen (h : riV px py qx qy rx ry sx sy ≠ 0) : spV px py qx qy rx ry sx sy = decide (riV px py qx qy rx ry sx sy = 1) := by
  unfold spV
  apply decide_eq_decide.mpr
  rw [if_pos (.inl h)]
theorem ri_of : riV px py qx qy rx ry sx sy = sg (twV px py qx qy rx ry) * sg (boV px py qx qy rx ry sx sy) := rfl
theorem sp_swap (hu : (0 < twV px py qx qy rx ry ∧ twV px py qx qy sx sy < 0) ∨ (twV px py qx qy rx ry < 0 ∧ 0 < twV px py qx qy sx sy)) : spV px py qx qy sx sy rx ry = spV px py qx qy rx ry sx sy := by
  by_cases h0 : boV px py qx qy rx ry sx sy = 0
  · rw [sp_tie hu h0, sp_tie (by omega) (by rw [bo_swap, h0]; rfl)]
    apply decide_eq_decide.mpr
    exact or_comm
  · have e : riV px py qx qy sx sy rx ry = riV px py qx qy rx ry sx sy := by
      rw [ri_of, ri_of, bo_swap, sg_neg]
      rcases hu with ⟨a, b⟩ | ⟨a, b⟩
      · rw [sg_pos a, sg_lt b]; omega
      · rw [sg_lt a, sg_pos b]; omega
    have nz : riV px py qx qy rx ry sx sy ≠ 0 := by
      rw [ri_of]
      intro z
      rcases Int.mul_eq_zero.mp z with z | z
      · have := sg_zero.mp z; omega
      · exact h0 (sg_zero.mp z)
    rw [sp_gen nz, sp_gen (by rw [e]; exact nz), e]
theorem sp_cross (hu : (0 < twV px py qx qy rx ry ∧ twV px py qx qy sx sy < 0) ∨ (twV px py qx qy rx ry < 0 ∧ 0 < twV px py qx qy sx sy)) (hv : (0 < twV rx ry sx sy px py ∧ twV rx ry sx sy qx qy < 0) ∨ (twV rx ry sx sy px py < 0 ∧ 0 < twV rx ry sx sy qx qy)) :
    spV rx ry sx sy px py qx qy = !spV px py qx qy rx ry sx sy := by
  have lin : twV rx ry sx sy qx qy - twV rx ry sx sy px py = twV px py qx qy rx ry - twV px py qx qy sx sy := by unfold twV; grind
  obtain ⟨n1, n2, n3⟩ := ne_of_tw (nz_of hu).1
  obtain ⟨_, m2, m3⟩ := ne_of_tw (nz_of hu).2
  obtain ⟨nsr, _, _⟩ := ne_of_tw (nz_of hv).1
  by_cases h0 : boV px py qx qy rx ry sx sy = 0
  · rw [sp_tie hu h0, sp_tie hv (by rw [bo_cross]; exact h0), ← decide_not]
    apply decide_eq_decide.mpr
    constructor
    · rintro (⟨a, b⟩ | ⟨a, b⟩) (⟨c, d⟩ | ⟨c, d⟩)
      · exact lx_as a c
      · exact lx_as b c
      · exact lx_as a d
      · exact lx_as b d
    · intro z
      have pq := lx_or n1
      have rs := lx_or nsr
      have rp := lx_or n2
      have rq := lx_or n3
      have sp := lx_or m2
      have sq := lx_or m3
      rcases pq with pq | pq
      · -- q before p
        refine .inr ⟨?_, ?_⟩
        · rcases rq with y | y
          · exact absurd (.inl ⟨lx_tr y pq, y⟩) z
          · exact y
        · rcases sq with y | y
          · exact absurd (.inr ⟨lx_tr y pq, y⟩) z
          · exact y
      · refine .inl ⟨?_, ?_⟩
        · rcases rp with y | y
          · exact absurd (.inl ⟨y, lx_tr y pq⟩) z
          · exact y
        · rcases sp with y | y
          · exact absurd (.inr ⟨y, lx_tr y pq⟩) z
          · exact y
  · have e : riV rx ry sx sy px py qx qy = -riV px py qx qy rx ry sx sy := by
      rw [ri_of, ri_of, bo_cross]
      rcases hu with ⟨a, b⟩ | ⟨a, b⟩
      · rw [sg_pos a, sg_lt ((opp hv lin).1 a b), Int.one_mul, Int.neg_one_mul]
      · rw [sg_lt a, sg_pos ((opp hv lin).2 a b), Int.one_mul, Int.neg_one_mul, Int.neg_neg]
    have nz : riV px py qx qy rx ry sx sy ≠ 0 := by
      rw [ri_of]
      intro z
      rcases Int.mul_eq_zero.mp z with z | z
      · exact (nz_of hu).1 (sg_zero.mp z)
      · exact h0 (sg_zero.mp z)
    have pm : riV px py qx qy rx ry sx sy = 1 ∨ riV px py qx qy rx ry sx sy = -1 := by
      rw [ri_of] at nz ⊢
      exact sg_prod nz
    have nz2 : riV rx ry sx sy px py qx qy ≠ 0 := by rw [e]; exact Int.neg_ne_zero.mpr nz
    rw [sp_gen nz, sp_gen nz2, e, ← decide_not]
    apply decide_eq_decide.mpr
    exact neg1 pm
end
theorem sg_iff {x y : Int} : sg x * sg y < 0 ↔ (0 < x ∧ y < 0) ∨ (x < 0 ∧ 0 < y) := ⟨sgm, fun h => by
  rcases h with ⟨a, b⟩ | ⟨a, b⟩
  · rw [sg_pos a, sg_lt b]; decide
  · rw [sg_lt a, sg_pos b]; decide⟩
theorem law_body {S : Store} {L : Nat} {A B Cc Dd : D} {w10 : Option D} {px py qx qy rx ry sx sy : Int} [Sz 1000 px] [Sz 1000 py] [Sz 1000 qx] [Sz 1000 qy] [Sz 1000 rx] [Sz 1000 ry] [Sz 1000 sx] [Sz 1000 sy] :
    ∃ (w : Option D) (S' : Store), exB (callT T 19) (.cons (.ifs (.call 11 (.cons (.var 6) (.cons (.var 7) (.cons (.var 8) (.cons (.var 9) .nil))))) (.cons (.set 10 (.call 5 (.cons (.var 6) (.cons (.var 7) (.cons (.var 8) (.cons (.var 9) .nil)))))) (.cons (.ifs (.or (.not (.isi (.var 10) .bool)) (.cmp .ne (.call 5 (.cons (.var 6) (.cons (.var 7) (.cons (.var 9) (.cons (.var 8) .nil))))) (.var 10))) (.cons (.ret (.con (.bl false))) .nil) .nil) (.cons (.ifs (.call 11 (.cons (.var 8) (.cons (.var 9) (.cons (.var 6) (.cons (.var 7) .nil))))) (.cons (.ifs (.or (.cmp .eq (.call 5 (.cons (.var 8) (.cons (.var 9) (.cons (.var 6) (.cons (.var 7) .nil))))) (.var 10)) (.cmp .eq (.call 5 (.cons (.var 8) (.cons (.var 9) (.cons (.var 7) (.cons (.var 6) .nil))))) (.var 10))) (.cons (.ret (.con (.bl false))) .nil) .nil) .nil) .nil) .nil))) .nil) .nil) [some (.ref 0), some (.ref L), some A, some B, some Cc, some Dd, some (.tup [.int px, .int py]), some (.tup [.int qx, .int qy]), some (.tup [.int rx, .int ry]), some (.tup [.int sx, .int sy]), w10] S =
      .ok (.nx [some (.ref 0), some (.ref L), some A, some B, some Cc, some Dd, some (.tup [.int px, .int py]), some (.tup [.int qx, .int qy]), some (.tup [.int rx, .int ry]), some (.tup [.int sx, .int sy]), w]) S' ∧ Gw S S' := by
  have u1 : ∀ {S : Store} {β : Type} {q : D → Store → R β} {h : Str → Option Nat → Store → R β}, _ := fun {S β q h} => lft_of (k := q) (h := h) (unlike_ok (n := 19) (by omega) (S := S) (ax := px) (ay := py) (bx := qx) (by_ := qy) (cx := rx) (cy := ry) (dx := sx) (dy := sy))
  have u2 : ∀ {S : Store} {β : Type} {q : D → Store → R β} {h : Str → Option Nat → Store → R β}, _ := fun {S β q h} => lft_of (k := q) (h := h) (unlike_ok (n := 19) (by omega) (S := S) (ax := rx) (ay := ry) (bx := sx) (by_ := sy) (cx := px) (cy := py) (dx := qx) (dy := qy))
  by_cases c1 : sg (arV px py qx qy rx ry) * sg (arV px py qx qy sx sy) < 0
  · have hu := sg_iff.mp c1
    rw [← tw_ar, ← tw_ar] at hu
    have z1 : sg (twV px py qx qy rx ry) ≠ 0 := fun z => (nz_of hu).1 (sg_zero.mp z)
    have z2 : sg (twV px py qx qy sx sy) ≠ 0 := fun z => (nz_of hu).2 (sg_zero.mp z)
    obtain ⟨U1, e1⟩ := spoils_ok (n := 19) (by omega) (S := S) (dx := sx) (dy := sy) z1
    obtain ⟨U2, e2⟩ := spoils_ok (n := 19) (by omega) (S := S ++ U1) (dx := rx) (dy := ry) z2
    have k1 : ∀ {β : Type} {q : D → Store → R β} {h : Str → Option Nat → Store → R β}, _ := fun {β q h} => lft_of (k := q) (h := h) e1
    have k2 : ∀ {β : Type} {q : D → Store → R β} {h : Str → Option Nat → Store → R β}, _ := fun {β q h} => lft_of (k := q) (h := h) e2
    have sw := sp_swap hu
    by_cases c2 : sg (arV rx ry sx sy px py) * sg (arV rx ry sx sy qx qy) < 0
    · have hv := sg_iff.mp c2
      rw [← tw_ar, ← tw_ar] at hv
      have z3 : sg (twV rx ry sx sy px py) ≠ 0 := fun z => (nz_of hv).1 (sg_zero.mp z)
      have z4 : sg (twV rx ry sx sy qx qy) ≠ 0 := fun z => (nz_of hv).2 (sg_zero.mp z)
      obtain ⟨U3, e3⟩ := spoils_ok (n := 19) (by omega) (S := S ++ U1 ++ U2) (dx := qx) (dy := qy) z3
      obtain ⟨U4, e4⟩ := spoils_ok (n := 19) (by omega) (S := S ++ U1 ++ U2 ++ U3) (dx := px) (dy := py) z4
      have k3 : ∀ {β : Type} {q : D → Store → R β} {h : Str → Option Nat → Store → R β}, _ := fun {β q h} => lft_of (k := q) (h := h) e3
      have k4 : ∀ {β : Type} {q : D → Store → R β} {h : Str → Option Nat → Store → R β}, _ := fun {β q h} => lft_of (k := q) (h := h) e4
      have cr := sp_cross hu hv
      have sw2 := sp_swap hv
      rw [cr] at sw2
      have nb : ∀ b : Bool, ((!b) == b) = false := fun b => by cases b <;> rfl
      refine ⟨some (.bl (spV px py qx qy rx ry sx sy)), S ++ U1 ++ U2 ++ U3 ++ U4, ?_, ⟨U1 ++ U2 ++ U3 ++ U4, by simp⟩⟩
      rw [← lft_id (exB _ _ _ _)]
      clear hu hv e1 e2 e3 e4
      simp (maxSteps := 10000000) (disch := omega) only [↓r_var, ↓r_con, ↓r_bin, ↓r_neg, ↓r_not, ↓r_cmp, ↓r_chn, ↓r_and, ↓r_or, ↓r_ite, ↓r_tup, ↓r_lst, ↓r_idx, ↓r_slc, ↓r_call, ↓r_blt, ↓r_isi, ↓o_add, ↓o_sub, ↓o_neg, ↓o_lt, ↓o_le, ↓o_gt, ↓o_ge, ↓o_eq, ↓o_ne, ↓o_eqB, ↓o_neB, ↓o_isB, ↓o_isNotB, ↓o_isN, ↓o_isNotN, ↓o_ix0, ↓o_ix1, ↓o_ix2, ↓o_lenT, ↓o_abs, ↓o_intI, ↓o_intB, ↓o_isiII, ↓o_isiBB, ↓o_isiTT, ↓o_ltP, ↓o_eqP, ↓o_neP, ↓o_eqPP, ↓o_nePP, ↓o_in2, ↓o_in3, ↓r_nil, ↓r_cons, ↓r_tru, ↓x_set, ↓x_expr, ↓x_ret, ↓x_unp, ↓x_if, ↓x_brk, ↓x_cnt, ↓x_pass, ↓x_nil, ↓x_cons, ↓s_nx, ↓s_rt, ↓s_bk, ↓s_ct, ↓s_xc, ↓x_for, ↓f_nil, ↓f_cons, ↓k_nx, ↓k_ct, ↓k_bk, ↓k_rt, ↓k_xc, ↓b_nm, ↓b_tp, ↓ck_n, ↓i_val_, ↓i_T, ↓i_rng1_, ↓i_rng2_, ↓rt_ret, ↓rt_nx, ↓rt_xc, ↓getE_0, ↓getE_s, ↓setE_0, ↓setE_s, ↓setsE_0, ↓setsE_s, ↓lft_ok, ↓reduceIte, List.map_cons, List.map_nil, List.cons_append, List.nil_append, List.replicate, ↓o_modP, ↓o_fdivP, ↓o_mul, ↓o_unp2, ↓o_unp3, ↓o_unp4, ↓o_pq, ↓o_p10, ↓o_p20, ↓o_p30, ↓o_p38, ↓o_p39, ↓o_p40, ↓o_p59, ↓o_p60, sl, List.length_cons, List.length_nil, decide_true, decide_false, Bool.false_eq_true, Bool.not_true, Bool.not_false, decide_eq_true_eq, Int.reduceEq, Int.reduceNe, Int.reduceLT, Int.reduceLE, Int.reduceNeg, Int.reduceAdd, Int.reduceSub, Int.reduceMul, Nat.reduceAdd, Nat.reduceLeDiff, Nat.reduceSub, Nat.reduceMul, Int.reduceToNat, ↓x_app, ↓app_ref, ↓wk_nx, ↓iL_end, ↓ck_end, Int.cast_ofNat_Int, ↓wipe_0, ↓wipe_s, ↓clr_0, ↓clr_s, ↓r_comp, ↓c_nil, ↓c_cons, ↓bind_lft, ↓push_e0, ↓push_e1, ↓push_e2, ↓push_e3, ↓ix_e0, ↓ix_e1, ↓ix_e2, ↓unp_lit2, ↓unp_lt2, ↓unp_lt3, ↓unp_lt4, ↓u1, ↓u2, ↓k1, ↓k2, ↓k3, ↓k4, c1, c2, sw, cr, sw2, beq_self_eq_true, nb]
    · refine ⟨some (.bl (spV px py qx qy rx ry sx sy)), S ++ U1 ++ U2, ?_, ⟨U1 ++ U2, by simp⟩⟩
      rw [← lft_id (exB _ _ _ _)]
      clear hu e1 e2
      simp (maxSteps := 10000000) (disch := omega) only [↓r_var, ↓r_con, ↓r_bin, ↓r_neg, ↓r_not, ↓r_cmp, ↓r_chn, ↓r_and, ↓r_or, ↓r_ite, ↓r_tup, ↓r_lst, ↓r_idx, ↓r_slc, ↓r_call, ↓r_blt, ↓r_isi, ↓o_add, ↓o_sub, ↓o_neg, ↓o_lt, ↓o_le, ↓o_gt, ↓o_ge, ↓o_eq, ↓o_ne, ↓o_eqB, ↓o_neB, ↓o_isB, ↓o_isNotB, ↓o_isN, ↓o_isNotN, ↓o_ix0, ↓o_ix1, ↓o_ix2, ↓o_lenT, ↓o_abs, ↓o_intI, ↓o_intB, ↓o_isiII, ↓o_isiBB, ↓o_isiTT, ↓o_ltP, ↓o_eqP, ↓o_neP, ↓o_eqPP, ↓o_nePP, ↓o_in2, ↓o_in3, ↓r_nil, ↓r_cons, ↓r_tru, ↓x_set, ↓x_expr, ↓x_ret, ↓x_unp, ↓x_if, ↓x_brk, ↓x_cnt, ↓x_pass, ↓x_nil, ↓x_cons, ↓s_nx, ↓s_rt, ↓s_bk, ↓s_ct, ↓s_xc, ↓x_for, ↓f_nil, ↓f_cons, ↓k_nx, ↓k_ct, ↓k_bk, ↓k_rt, ↓k_xc, ↓b_nm, ↓b_tp, ↓ck_n, ↓i_val_, ↓i_T, ↓i_rng1_, ↓i_rng2_, ↓rt_ret, ↓rt_nx, ↓rt_xc, ↓getE_0, ↓getE_s, ↓setE_0, ↓setE_s, ↓setsE_0, ↓setsE_s, ↓lft_ok, ↓reduceIte, List.map_cons, List.map_nil, List.cons_append, List.nil_append, List.replicate, ↓o_modP, ↓o_fdivP, ↓o_mul, ↓o_unp2, ↓o_unp3, ↓o_unp4, ↓o_pq, ↓o_p10, ↓o_p20, ↓o_p30, ↓o_p38, ↓o_p39, ↓o_p40, ↓o_p59, ↓o_p60, sl, List.length_cons, List.length_nil, decide_true, decide_false, Bool.false_eq_true, Bool.not_true, Bool.not_false, decide_eq_true_eq, Int.reduceEq, Int.reduceNe, Int.reduceLT, Int.reduceLE, Int.reduceNeg, Int.reduceAdd, Int.reduceSub, Int.reduceMul, Nat.reduceAdd, Nat.reduceLeDiff, Nat.reduceSub, Nat.reduceMul, Int.reduceToNat, ↓x_app, ↓app_ref, ↓wk_nx, ↓iL_end, ↓ck_end, Int.cast_ofNat_Int, ↓wipe_0, ↓wipe_s, ↓clr_0, ↓clr_s, ↓r_comp, ↓c_nil, ↓c_cons, ↓bind_lft, ↓push_e0, ↓push_e1, ↓push_e2, ↓push_e3, ↓ix_e0, ↓ix_e1, ↓ix_e2, ↓unp_lit2, ↓unp_lt2, ↓unp_lt3, ↓unp_lt4, ↓u1, ↓u2, ↓k1, ↓k2, c1, c2, sw, beq_self_eq_true]
  · refine ⟨w10, S, ?_, .refl _⟩
    rw [← lft_id (exB _ _ _ _)]
    simp (maxSteps := 10000000) (disch := omega) only [↓r_var, ↓r_con, ↓r_bin, ↓r_neg, ↓r_not, ↓r_cmp, ↓r_chn, ↓r_and, ↓r_or, ↓r_ite, ↓r_tup, ↓r_lst, ↓r_idx, ↓r_slc, ↓r_call, ↓r_blt, ↓r_isi, ↓o_add, ↓o_sub, ↓o_neg, ↓o_lt, ↓o_le, ↓o_gt, ↓o_ge, ↓o_eq, ↓o_ne, ↓o_eqB, ↓o_neB, ↓o_isB, ↓o_isNotB, ↓o_isN, ↓o_isNotN, ↓o_ix0, ↓o_ix1, ↓o_ix2, ↓o_lenT, ↓o_abs, ↓o_intI, ↓o_intB, ↓o_isiII, ↓o_isiBB, ↓o_isiTT, ↓o_ltP, ↓o_eqP, ↓o_neP, ↓o_eqPP, ↓o_nePP, ↓o_in2, ↓o_in3, ↓r_nil, ↓r_cons, ↓r_tru, ↓x_set, ↓x_expr, ↓x_ret, ↓x_unp, ↓x_if, ↓x_brk, ↓x_cnt, ↓x_pass, ↓x_nil, ↓x_cons, ↓s_nx, ↓s_rt, ↓s_bk, ↓s_ct, ↓s_xc, ↓x_for, ↓f_nil, ↓f_cons, ↓k_nx, ↓k_ct, ↓k_bk, ↓k_rt, ↓k_xc, ↓b_nm, ↓b_tp, ↓ck_n, ↓i_val_, ↓i_T, ↓i_rng1_, ↓i_rng2_, ↓rt_ret, ↓rt_nx, ↓rt_xc, ↓getE_0, ↓getE_s, ↓setE_0, ↓setE_s, ↓setsE_0, ↓setsE_s, ↓lft_ok, ↓reduceIte, List.map_cons, List.map_nil, List.cons_append, List.nil_append, List.replicate, ↓o_modP, ↓o_fdivP, ↓o_mul, ↓o_unp2, ↓o_unp3, ↓o_unp4, ↓o_pq, ↓o_p10, ↓o_p20, ↓o_p30, ↓o_p38, ↓o_p39, ↓o_p40, ↓o_p59, ↓o_p60, sl, List.length_cons, List.length_nil, decide_true, decide_false, Bool.false_eq_true, Bool.not_true, Bool.not_false, decide_eq_true_eq, Int.reduceEq, Int.reduceNe, Int.reduceLT, Int.reduceLE, Int.reduceNeg, Int.reduceAdd, Int.reduceSub, Int.reduceMul, Nat.reduceAdd, Nat.reduceLeDiff, Nat.reduceSub, Nat.reduceMul, Int.reduceToNat, ↓x_app, ↓app_ref, ↓wk_nx, ↓iL_end, ↓ck_end, Int.cast_ofNat_Int, ↓wipe_0, ↓wipe_s, ↓clr_0, ↓clr_s, ↓r_comp, ↓c_nil, ↓c_cons, ↓bind_lft, ↓push_e0, ↓push_e1, ↓push_e2, ↓push_e3, ↓ix_e0, ↓ix_e1, ↓ix_e2, ↓unp_lit2, ↓unp_lt2, ↓unp_lt3, ↓unp_lt4, ↓u1, c1]
theorem law_run {ns : List Int} {S : Store} (hS : Scr ns S) : ∃ S', callT T 20 12 [.ref 0] S = .ok (.bl true) S' := by
  obtain ⟨ps, U, hl, hb, e⟩ := spots_ok (n := 19) (by omega) (start := 0) (many := 4) (by omega) (by omega) (by omega) hS
  obtain ⟨⟨ax, ay⟩, ⟨bx, by_⟩, ⟨cx, cy⟩, ⟨dx, dy⟩, rfl⟩ : ∃ a b c d, ps = [a, b, c, d] := by
    rcases ps with _ | ⟨a, _ | ⟨b, _ | ⟨c, _ | ⟨d, _ | ⟨f, r⟩⟩⟩⟩⟩ <;> simp at hl
    exact ⟨a, b, c, d, rfl⟩
  obtain ⟨s1, s2⟩ : Sz 1000 ax ∧ Sz 1000 ay := hb (ax, ay) (by simp)
  obtain ⟨s3, s4⟩ : Sz 1000 bx ∧ Sz 1000 by_ := hb (bx, by_) (by simp)
  obtain ⟨s5, s6⟩ : Sz 1000 cx ∧ Sz 1000 cy := hb (cx, cy) (by simp)
  obtain ⟨s7, s8⟩ : Sz 1000 dx ∧ Sz 1000 dy := hb (dx, dy) (by simp)
  have e'' : ∀ {β : Type} {q : D → Store → R β} {h : Str → Option Nat → Store → R β}, (callT T 19 10 [.ref 0, .int 0, .int 4] S).lft q h = q (.ref S.length) (S ++ .lst [.tup [.int ax, .int ay], .tup [.int bx, .int by_], .tup [.int cx, .int cy], .tup [.int dx, .int dy]] :: U) := fun {β q h} => lft_of e
  rw [call_eq (by omega) (show T 12 = some f12 from rfl), run_eq rfl]
  generalize hS1 : S ++ Ob.lst [.tup [.int ax, .int ay], .tup [.int bx, .int by_], .tup [.int cx, .int cy], .tup [.int dx, .int dy]] :: U = S1 at e''
  have um : ∀ {β : Type} {k : List D → Store → R β} {h : Str → Option Nat → Store → R β}, (unpD (List.length [2, 3, 4, 5]) (.ref S.length) S1).lft k h = k [.tup [.int ax, .int ay], .tup [.int bx, .int by_], .tup [.int cx, .int cy], .tup [.int dx, .int dy]] S1 := fun {β k h} => by rw [← hS1]; exact unp_mid4
  let prs : List D := [.tup [.tup [.int ax, .int ay], .tup [.int bx, .int by_], .tup [.int cx, .int cy], .tup [.int dx, .int dy]], .tup [.tup [.int ax, .int ay], .tup [.int cx, .int cy], .tup [.int bx, .int by_], .tup [.int dx, .int dy]], .tup [.tup [.int ax, .int ay], .tup [.int dx, .int dy], .tup [.int bx, .int by_], .tup [.int cx, .int cy]], .tup [.tup [.int bx, .int by_], .tup [.int cx, .int cy], .tup [.int ax, .int ay], .tup [.int dx, .int dy]], .tup [.tup [.int bx, .int by_], .tup [.int dx, .int dy], .tup [.int ax, .int ay], .tup [.int cx, .int cy]], .tup [.tup [.int cx, .int cy], .tup [.int dx, .int dy], .tup [.int ax, .int ay], .tup [.int bx, .int by_]]]
  let P : Env → Store → Prop := fun en _ => ∃ w6 w7 w8 w9 w10 : Option D, en = [some (.ref 0), some (.ref S1.length), some (.tup [.int ax, .int ay]), some (.tup [.int bx, .int by_]), some (.tup [.int cx, .int cy]), some (.tup [.int dx, .int dy]), w6, w7, w8, w9, w10]
  obtain ⟨en', S', ef, g, _⟩ := for_grow (bnd := fun d en' => bindT (.tp [6, 7, 8, 9]) d en') (b := fun en' => exB (callT T 19) (.cons (.ifs (.call 11 (.cons (.var 6) (.cons (.var 7) (.cons (.var 8) (.cons (.var 9) .nil))))) (.cons (.set 10 (.call 5 (.cons (.var 6) (.cons (.var 7) (.cons (.var 8) (.cons (.var 9) .nil)))))) (.cons (.ifs (.or (.not (.isi (.var 10) .bool)) (.cmp .ne (.call 5 (.cons (.var 6) (.cons (.var 7) (.cons (.var 9) (.cons (.var 8) .nil))))) (.var 10))) (.cons (.ret (.con (.bl false))) .nil) .nil) (.cons (.ifs (.call 11 (.cons (.var 8) (.cons (.var 9) (.cons (.var 6) (.cons (.var 7) .nil))))) (.cons (.ifs (.or (.cmp .eq (.call 5 (.cons (.var 8) (.cons (.var 9) (.cons (.var 6) (.cons (.var 7) .nil))))) (.var 10)) (.cmp .eq (.call 5 (.cons (.var 8) (.cons (.var 9) (.cons (.var 7) (.cons (.var 6) .nil))))) (.var 10))) (.cons (.ret (.con (.bl false))) .nil) .nil) .nil) .nil) .nil))) .nil) .nil) en') P (fun _ _ _ _ h => h) (l := S1.length) (o := .lst prs) (xs := prs) (S := S1 ++ [.lst prs]) (en := [some (.ref 0), some (.ref S1.length), some (.tup [.int ax, .int ay]), some (.tup [.int bx, .int by_]), some (.tup [.int cx, .int cy]), some (.tup [.int dx, .int dy]), none, none, none, none, none]) (by simp) ⟨_, _, _, _, _, rfl⟩ (by
    intro x hx en S hp
    obtain ⟨w6, w7, w8, w9, w10, rfl⟩ := hp
    have go : ∀ {px py qx qy rx ry sx sy : Int}, Sz 1000 px → Sz 1000 py → Sz 1000 qx → Sz 1000 qy → Sz 1000 rx → Sz 1000 ry → Sz 1000 sx → Sz 1000 sy → x = .tup [.tup [.int px, .int py], .tup [.int qx, .int qy], .tup [.int rx, .int ry], .tup [.int sx, .int sy]] → ∃ en1, bindT (.tp [6, 7, 8, 9]) x [some (.ref 0), some (.ref S1.length), some (.tup [.int ax, .int ay]), some (.tup [.int bx, .int by_]), some (.tup [.int cx, .int cy]), some (.tup [.int dx, .int dy]), w6, w7, w8, w9, w10] S = .ok en1 S ∧ ∃ en2 S', exB (callT T 19) (.cons (.ifs (.call 11 (.cons (.var 6) (.cons (.var 7) (.cons (.var 8) (.cons (.var 9) .nil))))) (.cons (.set 10 (.call 5 (.cons (.var 6) (.cons (.var 7) (.cons (.var 8) (.cons (.var 9) .nil)))))) (.cons (.ifs (.or (.not (.isi (.var 10) .bool)) (.cmp .ne (.call 5 (.cons (.var 6) (.cons (.var 7) (.cons (.var 9) (.cons (.var 8) .nil))))) (.var 10))) (.cons (.ret (.con (.bl false))) .nil) .nil) (.cons (.ifs (.call 11 (.cons (.var 8) (.cons (.var 9) (.cons (.var 6) (.cons (.var 7) .nil))))) (.cons (.ifs (.or (.cmp .eq (.call 5 (.cons (.var 8) (.cons (.var 9) (.cons (.var 6) (.cons (.var 7) .nil))))) (.var 10)) (.cmp .eq (.call 5 (.cons (.var 8) (.cons (.var 9) (.cons (.var 7) (.cons (.var 6) .nil))))) (.var 10))) (.cons (.ret (.con (.bl false))) .nil) .nil) .nil) .nil) .nil))) .nil) .nil) en1 S = .ok (.nx en2) S' ∧ Gw S S' ∧ P en2 S' := by
      intro px py qx qy rx ry sx sy i1 i2 i3 i4 i5 i6 i7 i8 hx
      subst hx
      obtain ⟨w, S', eb, gb⟩ := law_body (S := S) (L := S1.length) (A := .tup [.int ax, .int ay]) (B := .tup [.int bx, .int by_]) (Cc := .tup [.int cx, .int cy]) (Dd := .tup [.int dx, .int dy]) (w10 := w10) (px := px) (py := py) (qx := qx) (qy := qy) (rx := rx) (ry := ry) (sx := sx) (sy := sy)
      exact ⟨_, rfl, _, S', eb, gb, _, _, _, _, _, rfl⟩
    simp only [prs, List.mem_cons, List.not_mem_nil, or_false] at hx
    rcases hx with hx | hx | hx | hx | hx | hx
    · exact go s1 s2 s3 s4 s5 s6 s7 s8 hx
    · exact go s1 s2 s5 s6 s3 s4 s7 s8 hx
    · exact go s1 s2 s7 s8 s3 s4 s5 s6 hx
    · exact go s3 s4 s5 s6 s1 s2 s7 s8 hx
    · exact go s3 s4 s7 s8 s1 s2 s5 s6 hx
    · exact go s5 s6 s7 s8 s1 s2 s3 s4 hx)
  refine ⟨S', ?_⟩
  have ef' : ∀ {β : Type} {q : Flow → Store → R β} {h : Str → Option Nat → Store → R β}, _ := fun {β q h} => lft_of (k := q) (h := h) ef
  simp only [prs] at ef'
  simp (maxSteps := 10000000) (disch := omega) only [f12, ↓r_var, ↓r_con, ↓r_bin, ↓r_neg, ↓r_not, ↓r_cmp, ↓r_chn, ↓r_and, ↓r_or, ↓r_ite, ↓r_tup, ↓r_lst, ↓r_idx, ↓r_slc, ↓r_call, ↓r_blt, ↓r_isi, ↓o_add, ↓o_sub, ↓o_neg, ↓o_lt, ↓o_le, ↓o_gt, ↓o_ge, ↓o_eq, ↓o_ne, ↓o_eqB, ↓o_neB, ↓o_isB, ↓o_isNotB, ↓o_isN, ↓o_isNotN, ↓o_ix0, ↓o_ix1, ↓o_ix2, ↓o_lenT, ↓o_abs, ↓o_intI, ↓o_intB, ↓o_isiII, ↓o_isiBB, ↓o_isiTT, ↓o_ltP, ↓o_eqP, ↓o_neP, ↓o_eqPP, ↓o_nePP, ↓o_in2, ↓o_in3, ↓r_nil, ↓r_cons, ↓r_tru, ↓x_set, ↓x_expr, ↓x_ret, ↓x_unp, ↓x_if, ↓x_brk, ↓x_cnt, ↓x_pass, ↓x_nil, ↓x_cons, ↓s_nx, ↓s_rt, ↓s_bk, ↓s_ct, ↓s_xc, ↓x_for, ↓k_nx, ↓k_ct, ↓k_bk, ↓k_rt, ↓k_xc, ↓b_nm, ↓b_tp, ↓ck_n, ↓i_val_, ↓i_T, ↓i_rng1_, ↓i_rng2_, ↓rt_ret, ↓rt_nx, ↓rt_xc, ↓getE_0, ↓getE_s, ↓setE_0, ↓setE_s, ↓setsE_0, ↓setsE_s, ↓lft_ok, ↓reduceIte, List.map_cons, List.map_nil, List.cons_append, List.nil_append, List.replicate, ↓o_modP, ↓o_fdivP, ↓o_mul, ↓o_unp2, ↓o_unp3, ↓o_unp4, ↓o_pq, ↓o_p10, ↓o_p20, ↓o_p30, ↓o_p38, ↓o_p39, ↓o_p40, ↓o_p59, ↓o_p60, sl, List.length_cons, List.length_nil, decide_true, decide_false, Bool.false_eq_true, Bool.not_true, Bool.not_false, decide_eq_true_eq, Int.reduceEq, Int.reduceNe, Int.reduceLT, Int.reduceLE, Int.reduceNeg, Int.reduceAdd, Int.reduceSub, Int.reduceMul, Nat.reduceAdd, Nat.reduceLeDiff, Nat.reduceSub, Nat.reduceMul, Int.reduceToNat, ↓x_app, ↓app_ref, ↓wk_nx, ↓iL_end, ↓ck_end, Int.cast_ofNat_Int, ↓wipe_0, ↓wipe_s, ↓clr_0, ↓clr_s, ↓r_comp, ↓c_nil, ↓c_cons, ↓bind_lft, ↓push_e0, ↓push_e1, ↓push_e2, ↓push_e3, ↓ix_e0, ↓ix_e1, ↓ix_e2, ↓unp_lit2, ↓unp_lt2, ↓unp_lt3, ↓unp_lt4, ↓e'', ↓um, ↓ef']
theorem law_true : ∀ ns : List Int, ns.length ≤ 63 → (∀ z ∈ ns, Builtin.Int.intBits z ≤ 1048576) → ∃ S', callT (tabT tab) 20 12 [.ref 0] [.frz (ns.map D.int)] = .ok (.bl true) S' := fun ns _ _ => law_run (ns := ns) rfl

end NL
open PySem PySem.W PyProof.Rows
set_option maxRecDepth 100000 in
set_option maxHeartbeats 0 in
theorem PySem.Challenge.cw_nearland_k16_two_cuts_holds : PySem.Challenge.rw_nearland_k16_two_cuts.Holds := by
  w_on; o_law; k_head; (case hw => w_witness2)
  k_fill
  refine NL.walk_nl (l := PySem.Challenge.rw_nearland_k16_two_cuts) (tab := NL.tab) (n := 20) (i := 12) (e := NL.e12) rfl rfl ⟨rfl, by decide, by decide⟩ (fun w h Y => PySem.W.kIn_of Y) rfl rfl rfl NL.okAll ?F NL.law_true
  case F =>
    intro w mg h KX G
    refine' NL.stands KX G ?a0 ?l0 ?c0 ?k0 ?a1 ?l1 ?c1 ?k1 ?a2 ?l2 ?c2 ?k2 ?a3 ?l3 ?c3 ?k3 ?a4 ?l4 ?c4 ?k4 ?a5 ?l5 ?c5 ?k5 ?a6 ?l6 ?c6 ?k6 ?a7 ?l7 ?c7 ?k7 ?a8 ?l8 ?c8 ?k8 ?a9 ?l9 ?c9 ?k9 ?a10 ?l10 ?c10 ?k10 ?a11 ?l11 ?c11 ?k11 ?a12 ?l12 ?c12 ?k12 ?z0 ?z1 ?z2 ?z3 ?z4 ?z5 ?z6 ?z7 ?z8 ?z9 ?z10 ?z11
    (case a0 => k_is)
    (case l0 => k_is)
    (case c0 => k_is)
    (case k0 => k_is)
    (case a1 => k_is)
    (case l1 => k_is)
    (case c1 => k_is)
    (case k1 => k_is)
    (case a2 => k_is)
    (case l2 => k_is)
    (case c2 => k_is)
    (case k2 => k_is)
    (case a3 => k_is)
    (case l3 => k_is)
    (case c3 => k_is)
    (case k3 => k_is)
    (case a4 => k_is)
    (case l4 => k_is)
    (case c4 => k_is)
    (case k4 => k_is)
    (case a5 => k_is)
    (case l5 => k_is)
    (case c5 => k_is)
    (case k5 => k_is)
    (case a6 => k_is)
    (case l6 => k_is)
    (case c6 => k_is)
    (case k6 => k_is)
    (case a7 => k_is)
    (case l7 => k_is)
    (case c7 => k_is)
    (case k7 => k_is)
    (case a8 => k_is)
    (case l8 => k_is)
    (case c8 => k_is)
    (case k8 => k_is)
    (case a9 => k_is)
    (case l9 => k_is)
    (case c9 => k_is)
    (case k9 => k_is)
    (case a10 => k_is)
    (case l10 => k_is)
    (case c10 => k_is)
    (case k10 => k_is)
    (case a11 => k_is)
    (case l11 => k_is)
    (case c11 => k_is)
    (case k11 => k_is)
    (case a12 => k_is)
    (case l12 => k_is)
    (case c12 => k_is)
    (case k12 => k_is)
    (case z0 => k_is)
    (case z1 => k_is)
    (case z2 => k_is)
    (case z3 => k_is)
    (case z4 => k_is)
    (case z5 => k_is)
    (case z6 => k_is)
    (case z7 => k_is)
    (case z8 => k_is)
    (case z9 => k_is)
    (case z10 => k_is)
    (case z11 => k_is)
#print axioms PySem.Challenge.cw_nearland_k16_two_cuts_holds
