import PyProof.Rows.All
import Wide.All
import OpenK.AllK
import Wide.FinOn
import HandS.ForMost
import HandS.TupLe
import HandS.SortOrd
import KE.KDictKeyed
import HandS.SortRule
import HandS.SortKw
import HandS.TupSets
import HandS.SetFor
import HandS.Strs
import HandS.TupAny
import HandS.Rev
import HandS.RevTup
import HandS.Lambda
import HandS.EndTab
import HandS.ExcInit
import HandS.ExcOwn
import HandS.TryOnly
import HandS.Deep
import HandS.Walk
import HandS.Flow
import HandS.Style
import HandS.Defaults
import PySem.Challenge.RW_pileduel_k27_whole_read_just_what_is_bro
import KE.GoesEnum
import HandS.CallSlots
import HandS.WordsExc
import HandS.StrMore
import HandS.Conv
import HandS.Evl
section
set_option Elab.async false
set_option linter.all false
set_option maxHeartbeats 4000000
/-! K27a: data (ints and tuples) with Python's order. -/
namespace K27

inductive D where
  | i (n : Int)
  | t (l : List D)

mutual
def deq : D → D → Bool
  | .i a, .i b => decide (a = b)
  | .t xs, .t ys => deqL xs ys
  | .i _, .t _ => false
  | .t _, .i _ => false
def deqL : List D → List D → Bool
  | [], [] => true
  | x :: xs, y :: ys => deq x y && deqL xs ys
  | [], _ :: _ => false
  | _ :: _, [] => false
end
mutual
theorem deq_self : ∀ a : D, deq a a = true
  | .i a => by simp [deq]
  | .t xs => by rw [deq]; exact deqL_self xs
theorem deqL_self : ∀ xs : List D, deqL xs xs = true
  | [] => by rw [deqL]
  | x :: xs => by rw [deqL, deq_self x, deqL_self xs]; rfl
end
mutual
theorem eq_of_deq : ∀ a b : D, deq a b = true → a = b
  | .i a, .i b, h => by rw [deq] at h; rw [of_decide_eq_true h]
  | .t xs, .t ys, h => by rw [deq] at h; rw [eq_of_deqL xs ys h]
  | .i _, .t _, h => by rw [deq] at h; cases h
  | .t _, .i _, h => by rw [deq] at h; cases h
theorem eq_of_deqL : ∀ xs ys : List D, deqL xs ys = true → xs = ys
  | [], [], _ => rfl
  | x :: xs, y :: ys, h => by
    rw [deqL, Bool.and_eq_true] at h
    rw [eq_of_deq x y h.1, eq_of_deqL xs ys h.2]
  | [], _ :: _, h => by rw [deqL] at h; cases h
  | _ :: _, [], h => by rw [deqL] at h; cases h
end
theorem deq_iff {a b : D} : deq a b = true ↔ a = b := ⟨eq_of_deq a b, fun e => by rw [e]; exact deq_self b⟩
instance : DecidableEq D := fun a b => if h : deq a b = true then isTrue (deq_iff.mp h) else isFalse fun e => h (deq_iff.mpr e)
theorem deq_dec (a b : D) : deq a b = decide (a = b) := by
  by_cases h : a = b
  · rw [decide_eq_true h]; exact deq_iff.mpr h
  · rw [decide_eq_false h]
    cases q : deq a b with
    | true => exact absurd (deq_iff.mp q) h
    | false => rfl

mutual
def dlt : D → D → Bool
  | .i a, .i b => decide (a < b)
  | .i _, .t _ => true
  | .t _, .i _ => false
  | .t xs, .t ys => dltL xs ys
def dltL : List D → List D → Bool
  | [], [] => false
  | [], _ :: _ => true
  | _ :: _, [] => false
  | x :: xs, y :: ys => if deq x y = true then dltL xs ys else dlt x y
end
mutual
theorem dlt_irr : ∀ a : D, dlt a a = false
  | .i a => by simp [dlt]
  | .t xs => by rw [dlt]; exact dltL_irr xs
theorem dltL_irr : ∀ xs : List D, dltL xs xs = false
  | [] => by rw [dltL]
  | x :: xs => by rw [dltL, if_pos (deq_self x)]; exact dltL_irr xs
end
mutual
theorem dlt_tot : ∀ a b : D, dlt a b = false → dlt b a = false → a = b
  | .i a, .i b, h, k => by
    simp only [dlt, decide_eq_false_iff_not] at h k
    rw [show a = b by omega]
  | .i _, .t _, h, _ => by rw [dlt] at h; cases h
  | .t _, .i _, _, k => by rw [dlt] at k; cases k
  | .t xs, .t ys, h, k => by rw [dlt] at h k; rw [dltL_tot xs ys h k]
theorem dltL_tot : ∀ xs ys : List D, dltL xs ys = false → dltL ys xs = false → xs = ys
  | [], [], _, _ => rfl
  | [], _ :: _, h, _ => by rw [dltL] at h; cases h
  | _ :: _, [], _, k => by rw [dltL] at k; cases k
  | x :: xs, y :: ys, h, k => by
    rw [dltL] at h k
    by_cases e : deq x y = true
    · have e2 : deq y x = true := by rw [eq_of_deq x y e]; exact deq_self y
      rw [if_pos e] at h
      rw [if_pos e2] at k
      rw [eq_of_deq x y e, dltL_tot xs ys h k]
    · have e2 : ¬ deq y x = true := fun z => e (by rw [eq_of_deq y x z]; exact deq_self x)
      rw [if_neg e] at h
      rw [if_neg e2] at k
      exact absurd (deq_iff.mpr (dlt_tot x y h k)) e
end
mutual
theorem dlt_asym : ∀ a b : D, dlt a b = true → dlt b a = false
  | .i a, .i b, h => by
    simp only [dlt, decide_eq_true_eq] at h
    simp only [dlt, decide_eq_false_iff_not]
    omega
  | .i _, .t _, _ => by rw [dlt]
  | .t _, .i _, h => by rw [dlt] at h; cases h
  | .t xs, .t ys, h => by
    rw [dlt] at h ⊢
    exact dltL_asym xs ys h
theorem dltL_asym : ∀ xs ys : List D, dltL xs ys = true → dltL ys xs = false
  | [], [], h => by rw [dltL] at h; cases h
  | [], _ :: _, _ => by rw [dltL]
  | _ :: _, [], h => by rw [dltL] at h; cases h
  | x :: xs, y :: ys, h => by
    rw [dltL] at h ⊢
    by_cases e : deq x y = true
    · rw [if_pos e] at h
      rw [if_pos (show deq y x = true by rw [eq_of_deq x y e]; exact deq_self y)]
      exact dltL_asym xs ys h
    · rw [if_neg e] at h
      rw [if_neg (show ¬ deq y x = true from fun z => e (by rw [eq_of_deq y x z]; exact deq_self x))]
      exact dlt_asym x y h
end
mutual
theorem dlt_trans : ∀ a b c : D, dlt a b = true → dlt b c = true → dlt a c = true
  | .i a, .i b, .i c, h, k => by
    simp only [dlt, decide_eq_true_eq] at h k ⊢
    omega
  | .i _, .i _, .t _, _, _ => by rw [dlt]
  | .i _, .t _, .t _, _, _ => by rw [dlt]
  | .i _, .t _, .i _, _, k => by rw [dlt] at k; cases k
  | .t _, .i _, _, h, _ => by rw [dlt] at h; cases h
  | .t _, .t _, .i _, _, k => by rw [dlt] at k; cases k
  | .t xs, .t ys, .t zs, h, k => by
    rw [dlt] at h k ⊢
    exact dltL_trans xs ys zs h k
theorem dltL_trans : ∀ xs ys zs : List D, dltL xs ys = true → dltL ys zs = true → dltL xs zs = true
  | [], [], _, h, _ => by rw [dltL] at h; cases h
  | _ :: _, [], _, h, _ => by rw [dltL] at h; cases h
  | _, _ :: _, [], _, k => by rw [dltL] at k; cases k
  | [], _ :: _, _ :: _, _, _ => by rw [dltL]
  | x :: xs, y :: ys, z :: zs, h, k => by
    rw [dltL] at h k ⊢
    by_cases e : deq x y = true
    · rw [if_pos e] at h
      have ex := eq_of_deq x y e
      rw [ex]
      by_cases f : deq y z = true
      · rw [if_pos f] at k ⊢
        exact dltL_trans xs ys zs h k
      · rw [if_neg f] at k ⊢
        exact k
    · rw [if_neg e] at h
      by_cases f : deq y z = true
      · have ez := eq_of_deq y z f
        rw [← ez, if_neg e]
        exact h
      · rw [if_neg f] at k
        have t := dlt_trans x y z h k
        have n : ¬ deq x z = true := fun q => by
          have a := dlt_asym x y h
          rw [eq_of_deq x z q, k] at a
          cases a
        rw [if_neg n]
        exact t
end
theorem dlt_tr (x y z : D) (h1 : dlt y x = false) (h2 : dlt z y = false) : dlt z x = false := by
  cases q : dlt z x with
  | false => rfl
  | true =>
    cases r : dlt x y with
    | true =>
      have := dlt_trans z x y q r
      rw [h2] at this
      cases this
    | false =>
      rw [dlt_tot x y r h1] at q
      rw [h2] at q
      cases q

/-! two data that Python can compare -/
mutual
def cpt : D → D → Prop
  | .i _, .i _ => True
  | .t xs, .t ys => cptL xs ys
  | .i _, .t _ => False
  | .t _, .i _ => False
def cptL : List D → List D → Prop
  | x :: xs, y :: ys => cpt x y ∧ cptL xs ys
  | [], _ => True
  | _ :: _, [] => True
end
/-! how deep -/
mutual
def dep : D → Nat
  | .i _ => 0
  | .t xs => depL xs + 1
def depL : List D → Nat
  | [] => 0
  | x :: xs => max (dep x) (depL xs)
end
def dTs (l : List Int) : D := .t (l.map D.i)
theorem cptL_ints : ∀ l m : List Int, cptL (l.map D.i) (m.map D.i)
  | [], _ => by rw [List.map_nil, cptL]; trivial
  | _ :: _, [] => by rw [List.map_nil, List.map_cons, cptL]; trivial
  | x :: l, y :: m => by
    rw [List.map_cons, List.map_cons, cptL]
    exact ⟨by rw [cpt]; trivial, cptL_ints l m⟩
theorem cpt_ints (l m : List Int) : cpt (dTs l) (dTs m) := by
  unfold dTs
  rw [cpt]
  exact cptL_ints l m
theorem cpt_i (a b : Int) : cpt (.i a) (.i b) := by rw [cpt]; trivial
theorem cpt_t {xs ys : List D} (h : cptL xs ys) : cpt (.t xs) (.t ys) := by rw [cpt]; exact h
theorem cptL_nil {ys : List D} : cptL [] ys := by rw [cptL]; trivial
theorem cptL_cons {x y : D} {xs ys : List D} (h : cpt x y) (t : cptL xs ys) : cptL (x :: xs) (y :: ys) := by rw [cptL]; exact ⟨h, t⟩
theorem map_i_inj : ∀ {l m : List Int}, l.map D.i = m.map D.i → l = m
  | [], [], _ => rfl
  | [], _ :: _, h => by cases h
  | _ :: _, [], h => by cases h
  | x :: l, y :: m, h => by
    rw [List.map_cons, List.map_cons] at h
    injection h with h1 h2
    injection h1 with h1
    rw [h1, map_i_inj h2]
theorem dTs_inj {l m : List Int} (h : dTs l = dTs m) : l = m := by
  unfold dTs at h
  injection h with h
  exact map_i_inj h
theorem depL_ints : ∀ l : List Int, depL (l.map D.i) = 0
  | [] => by rw [List.map_nil, depL]
  | x :: l => by rw [List.map_cons, depL, dep, depL_ints l]; rfl
theorem dep_ints (l : List Int) : dep (dTs l) = 1 := by
  unfold dTs
  rw [dep, depL_ints]

/-! ### the shapes -/
abbrev Pair := List Int × Int
abbrev Arr := Int × Int × List Int × Int
abbrev Say := Int × Int × List Int
abbrev Rule := Int × Int × Int × List Int
def dPair (p : Pair) : D := .t [dTs p.1, .i p.2]
def dArr (a : Arr) : D := .t [.i a.1, .i a.2.1, dTs a.2.2.1, .i a.2.2.2]
def dSay (a : Say) : D := .t [.i a.1, .i a.2.1, dTs a.2.2]
def dHead (a : Int × Int) : D := .t [.i a.1, .i a.2]
def dRule (r : Rule) : D := .t [.i r.1, .i r.2.1, .i r.2.2.1, dTs r.2.2.2]
def dKey (p : Pair) : D := .t [.i p.2, .i p.1.length, dPair p]
theorem dPair_inj {p q : Pair} (h : dPair p = dPair q) : p = q := by
  unfold dPair at h
  injection h with h
  injection h with h1 h
  injection h with h2 h
  injection h2 with h2
  exact Prod.ext (dTs_inj h1) h2
theorem dArr_inj {p q : Arr} (h : dArr p = dArr q) : p = q := by
  unfold dArr at h
  injection h with h
  injection h with h1 h
  injection h with h2 h
  injection h with h3 h
  injection h with h4 h
  injection h1 with h1
  injection h2 with h2
  injection h4 with h4
  exact Prod.ext h1 (Prod.ext h2 (Prod.ext (dTs_inj h3) h4))
theorem dSay_inj {p q : Say} (h : dSay p = dSay q) : p = q := by
  unfold dSay at h
  injection h with h
  injection h with h1 h
  injection h with h2 h
  injection h with h3 h
  injection h1 with h1
  injection h2 with h2
  exact Prod.ext h1 (Prod.ext h2 (dTs_inj h3))
theorem dHead_inj {p q : Int × Int} (h : dHead p = dHead q) : p = q := by
  unfold dHead at h
  injection h with h
  injection h with h1 h
  injection h with h2 h
  injection h1 with h1
  injection h2 with h2
  exact Prod.ext h1 h2
theorem cpt_pair (p q : Pair) : cpt (dPair p) (dPair q) := cpt_t (cptL_cons (cpt_ints _ _) (cptL_cons (cpt_i _ _) cptL_nil))
theorem cpt_arr (p q : Arr) : cpt (dArr p) (dArr q) := cpt_t (cptL_cons (cpt_i _ _) (cptL_cons (cpt_i _ _) (cptL_cons (cpt_ints _ _) (cptL_cons (cpt_i _ _) cptL_nil))))
theorem cpt_say (p q : Say) : cpt (dSay p) (dSay q) := cpt_t (cptL_cons (cpt_i _ _) (cptL_cons (cpt_i _ _) (cptL_cons (cpt_ints _ _) cptL_nil)))
theorem cpt_head (p q : Int × Int) : cpt (dHead p) (dHead q) := cpt_t (cptL_cons (cpt_i _ _) (cptL_cons (cpt_i _ _) cptL_nil))
theorem cpt_key (p q : Pair) : cpt (dKey p) (dKey q) := cpt_t (cptL_cons (cpt_i _ _) (cptL_cons (cpt_i _ _) (cptL_cons (cpt_pair _ _) cptL_nil)))
theorem dep_pair (p : Pair) : dep (dPair p) = 2 := by simp [dPair, dep, depL, dep_ints]
theorem dep_key (p : Pair) : dep (dKey p) = 3 := by simp [dKey, dep, depL, dep_pair]
theorem dep_arr (p : Arr) : dep (dArr p) = 2 := by simp [dArr, dep, depL, dep_ints]
theorem dep_say (p : Say) : dep (dSay p) = 2 := by simp [dSay, dep, depL, dep_ints]
theorem dep_rule (p : Rule) : dep (dRule p) = 2 := by simp [dRule, dep, depL, dep_ints]
theorem dep_head (p : Int × Int) : dep (dHead p) = 1 := by simp [dHead, dep, depL]

/-- a permutation of an image is the image of a permutation -/
theorem perm_img {α β : Type} {f : α → β} {l' l : List β} (h : l'.Perm l) : ∀ xs : List α, l = xs.map f → ∃ ys : List α, l' = ys.map f ∧ ys.Perm xs := by
  induction h with
  | nil => intro xs e; exact ⟨xs, e, List.Perm.refl _⟩
  | cons x _ ih =>
    intro xs e
    cases xs with
    | nil => cases e
    | cons y xs =>
      rw [List.map_cons] at e
      injection e with e1 e2
      obtain ⟨ys, h1, h2⟩ := ih xs e2
      exact ⟨y :: ys, by rw [List.map_cons, h1, e1], h2.cons y⟩
  | swap x y l =>
    intro xs e
    match xs, e with
    | [], e => cases e
    | [_], e => cases e
    | a :: b :: xs, e =>
      rw [List.map_cons, List.map_cons] at e
      injection e with e1 e2
      injection e2 with e2 e3
      exact ⟨b :: a :: xs, by rw [List.map_cons, List.map_cons, e1, e2, e3], List.Perm.swap a b xs⟩
  | trans _ _ ih1 ih2 =>
    intro xs e
    obtain ⟨ys, h1, h2⟩ := ih2 xs e
    obtain ⟨zs, h3, h4⟩ := ih1 ys h1
    exact ⟨zs, h3, h4.trans h2⟩
/-- two lists, item by item -/
inductive F2 {α β : Type} (R : α → β → Prop) : List α → List β → Prop where
  | nil : F2 R [] []
  | cons {a : α} {b : β} {l : List α} {m : List β} : R a b → F2 R l m → F2 R (a :: l) (b :: m)
theorem F2.len {α β : Type} {R : α → β → Prop} {l : List α} {m : List β} (h : F2 R l m) : l.length = m.length := by
  induction h with
  | nil => rfl
  | cons _ _ ih => rw [List.length_cons, List.length_cons, ih]
theorem F2.imp {α β : Type} {R S : α → β → Prop} (hi : ∀ a b, R a b → S a b) {l : List α} {m : List β} (h : F2 R l m) : F2 S l m := by
  induction h with
  | nil => exact .nil
  | cons r _ ih => exact .cons (hi _ _ r) ih
theorem F2.snoc {α β : Type} {R : α → β → Prop} {l : List α} {m : List β} {a : α} {b : β} (h : F2 R l m) (r : R a b) : F2 R (l ++ [a]) (m ++ [b]) := by
  induction h with
  | nil => exact .cons r .nil
  | cons q _ ih => exact .cons q ih
theorem F2.app {α β : Type} {R : α → β → Prop} {l l2 : List α} {m m2 : List β} (h : F2 R l m) (k : F2 R l2 m2) : F2 R (l ++ l2) (m ++ m2) := by
  induction h with
  | nil => exact k
  | cons q _ ih => exact .cons q ih
theorem F2.get_l {α β : Type} {R : α → β → Prop} {l : List α} {m : List β} (h : F2 R l m) : ∀ {i : Nat} {a : α}, l[i]? = some a → ∃ b, m[i]? = some b ∧ R a b := by
  induction h with
  | nil => intro i a e; simp at e
  | cons q _ ih =>
    intro i a e
    cases i with
    | zero => simp at e; subst e; exact ⟨_, by simp, q⟩
    | succ i => simp at e; obtain ⟨b, h1, h2⟩ := ih e; exact ⟨b, by simpa using h1, h2⟩
theorem F2.get_r {α β : Type} {R : α → β → Prop} {l : List α} {m : List β} (h : F2 R l m) : ∀ {i : Nat} {b : β}, m[i]? = some b → ∃ a, l[i]? = some a ∧ R a b := by
  induction h with
  | nil => intro i a e; simp at e
  | cons q _ ih =>
    intro i a e
    cases i with
    | zero => simp at e; subst e; exact ⟨_, by simp, q⟩
    | succ i => simp at e; obtain ⟨b, h1, h2⟩ := ih e; exact ⟨b, by simpa using h1, h2⟩
theorem F2.mem_l {α β : Type} {R : α → β → Prop} {l : List α} {m : List β} (h : F2 R l m) : ∀ a ∈ l, ∃ b ∈ m, R a b := by
  induction h with
  | nil => intro a h; cases h
  | cons q _ ih =>
    intro a h
    rcases List.mem_cons.mp h with e | e
    · subst e; exact ⟨_, List.mem_cons_self, q⟩
    · obtain ⟨b, hb, r⟩ := ih a e
      exact ⟨b, List.mem_cons_of_mem _ hb, r⟩
theorem F2.mem_r {α β : Type} {R : α → β → Prop} {l : List α} {m : List β} (h : F2 R l m) : ∀ b ∈ m, ∃ a ∈ l, R a b := by
  induction h with
  | nil => intro a h; cases h
  | cons q _ ih =>
    intro a h
    rcases List.mem_cons.mp h with e | e
    · subst e; exact ⟨_, List.mem_cons_self, q⟩
    · obtain ⟨b, hb, r⟩ := ih a e
      exact ⟨b, List.mem_cons_of_mem _ hb, r⟩
theorem F2.map_l {α β γ : Type} {R : α → β → Prop} {f : γ → α} : ∀ {l : List γ} {m : List β}, F2 R (l.map f) m → F2 (fun c b => R (f c) b) l m
  | [], _, h => by cases h; exact .nil
  | c :: l, _, h => by
    rw [List.map_cons] at h
    cases h with
    | cons r t => exact .cons r t.map_l
theorem F2.to_map {α β γ : Type} {R : α → β → Prop} {f : γ → α} {l : List γ} {m : List β} (h : F2 (fun c b => R (f c) b) l m) : F2 R (l.map f) m := by
  induction h with
  | nil => exact .nil
  | cons r _ ih => exact .cons r ih
theorem F2.take {α β : Type} {R : α → β → Prop} : ∀ {l : List α} {m : List β} (n : Nat), F2 R l m → F2 R (l.take n) (m.take n)
  | _, _, 0, _ => by rw [List.take_zero, List.take_zero]; exact .nil
  | _, _, _ + 1, .nil => .nil
  | _, _, n + 1, .cons r t => .cons r (F2.take n t)
theorem F2.drop {α β : Type} {R : α → β → Prop} : ∀ {l : List α} {m : List β} (n : Nat), F2 R l m → F2 R (l.drop n) (m.drop n)
  | _, _, 0, h => h
  | _, _, _ + 1, .nil => .nil
  | _, _, n + 1, .cons _ t => F2.drop n t
end K27
end

section
set_option Elab.async false
set_option linter.all false
set_option maxHeartbeats 4000000
/-! K27b: the mathematics of the machine. -/
namespace K27
/-! ### lists -/
theorem nodup_len {α : Type} [DecidableEq α] : ∀ (xs ys : List α), xs.Nodup → (∀ x ∈ xs, x ∈ ys) → xs.length ≤ ys.length
  | [], _, _, _ => Nat.zero_le _
  | x :: xs, ys, hn, hs => by
    have hx := hs x List.mem_cons_self
    obtain ⟨h1, h2⟩ := List.nodup_cons.mp hn
    have := nodup_len xs (ys.erase x) h2 fun y hy => (List.mem_erase_of_ne (fun e => h1 (by rw [← e]; exact hy))).mpr (hs y (List.mem_cons_of_mem _ hy))
    rw [List.length_erase_of_mem hx] at this
    have : 0 < ys.length := List.length_pos_of_mem hx
    rw [List.length_cons]
    omega
/-- strictly rising lists with the same members are the same -/
theorem srt_ext {α : Type} {r : α → α → Prop} (ir : ∀ a, ¬ r a a) (asym : ∀ a b, r a b → ¬ r b a) : ∀ {xs ys : List α}, xs.Pairwise r → ys.Pairwise r → (∀ x, x ∈ xs ↔ x ∈ ys) → xs = ys
  | [], [], _, _, _ => rfl
  | [], y :: ys, _, _, h => by have := (h y).mpr List.mem_cons_self; cases this
  | x :: xs, [], _, _, h => by have := (h x).mp List.mem_cons_self; cases this
  | x :: xs, y :: ys, hx, hy, h => by
    obtain ⟨x1, x2⟩ := List.pairwise_cons.mp hx
    obtain ⟨y1, y2⟩ := List.pairwise_cons.mp hy
    have e : x = y := by
      rcases List.mem_cons.mp ((h x).mp List.mem_cons_self) with e | e
      · exact e
      · rcases List.mem_cons.mp ((h y).mpr List.mem_cons_self) with e2 | e2
        · exact e2.symm
        · exact absurd (x1 y e2) (asym _ _ (y1 x e))
    subst e
    rw [srt_ext ir asym x2 y2 fun z => ⟨fun hz => ?_, fun hz => ?_⟩]
    · rcases List.mem_cons.mp ((h z).mp (List.mem_cons_of_mem _ hz)) with e | e
      · subst e; exact absurd (x1 z hz) (ir z)
      · exact e
    · rcases List.mem_cons.mp ((h z).mpr (List.mem_cons_of_mem _ hz)) with e | e
      · subst e; exact absurd (y1 z hz) (ir z)
      · exact e
theorem srt_int {xs ys : List Int} (hx : xs.Pairwise (· < ·)) (hy : ys.Pairwise (· < ·)) (h : ∀ x, x ∈ xs ↔ x ∈ ys) : xs = ys :=
  srt_ext (fun a => by omega) (fun a b _ => by omega) hx hy h
theorem nodup_int {xs : List Int} (h : xs.Pairwise (· < ·)) : xs.Nodup := h.imp fun {a b} h => by omega
def pwr : List Int → List (List Int)
  | [] => [[]]
  | x :: l => pwr l ++ (pwr l).map (x :: ·)
theorem mem_pwr (f : Int → Bool) : ∀ l : List Int, l.filter f ∈ pwr l
  | [] => by simp [pwr]
  | x :: l => by
    rw [pwr, List.filter_cons, List.mem_append]
    cases f x with
    | true => exact .inr (List.mem_map.mpr ⟨_, mem_pwr f l, rfl⟩)
    | false => exact .inl (mem_pwr f l)
def five : List Int := [0, 1, 2, 3, 4]
theorem pwr_five : (pwr five).length = 32 := by decide +kernel

structure OkT (S : Int) (T : List Int) : Prop where
  srt : T.Pairwise (· < ·)
  rng : ∀ t ∈ T, 0 ≤ t ∧ t < S
theorem OkT.in_pwr {S : Int} {T : List Int} (h : OkT S T) (hS : S ≤ 5) : T ∈ pwr five := by
  have e : T = five.filter fun z => decide (z ∈ T) := by
    refine srt_int h.srt (List.Pairwise.filter _ (by decide +kernel)) fun x => ?_
    rw [List.mem_filter, decide_eq_true_eq]
    refine ⟨fun hx => ⟨?_, hx⟩, fun hx => hx.2⟩
    have := h.rng x hx
    have : x = 0 ∨ x = 1 ∨ x = 2 ∨ x = 3 ∨ x = 4 := by omega
    rcases this with e | e | e | e | e <;> subst e <;> decide +kernel
  rw [e]
  exact mem_pwr _ _
def OkP (S : Int) (ps : List Pair) : Prop := ∀ p ∈ ps, OkT S p.1 ∧ 0 ≤ p.2

/-! ### under -/
def under (a b : Pair) : Prop := a.2 ≤ b.2 ∧ ∀ t ∈ a.1, t ∈ b.1
def underB (a b : Pair) : Bool := decide (a.2 ≤ b.2) && a.1.all fun t => decide (t ∈ b.1)
theorem underB_iff {a b : Pair} : underB a b = true ↔ under a b := by
  unfold underB under
  rw [Bool.and_eq_true, decide_eq_true_eq, List.all_eq_true]
  simp only [decide_eq_true_eq]
theorem under_refl (a : Pair) : under a a := ⟨Int.le_refl _, fun _ h => h⟩
theorem under_trans {a b c : Pair} (h : under a b) (k : under b c) : under a c := ⟨Int.le_trans h.1 k.1, fun t ht => k.2 t (h.2 t ht)⟩
theorem under_antisymm {a b : Pair} (ha : a.1.Pairwise (· < ·)) (hb : b.1.Pairwise (· < ·)) (h : under a b) (k : under b a) : a = b :=
  Prod.ext (srt_int ha hb fun x => ⟨h.2 x, k.2 x⟩) (Int.le_antisymm h.1 k.1)

structure Thin (ps ys : List Pair) : Prop where
  sub : ∀ y ∈ ys, y ∈ ps
  cov : ∀ p ∈ ps, ∃ y ∈ ys, under y p
  srt : ys.Pairwise fun a b => dlt (dPair a) (dPair b) = true
  anti : ∀ y ∈ ys, ∀ z ∈ ys, under y z → y = z

theorem key_le {a b : Pair} (h : dlt (dKey b) (dKey a) = false) : a.2 ≤ b.2 ∧ (a.2 = b.2 → a.1.length ≤ b.1.length) := by
  unfold dKey at h
  rw [dlt, dltL] at h
  by_cases e : deq (.i b.2) (.i a.2) = true
  · rw [if_pos e, dltL] at h
    have e2 : b.2 = a.2 := by rw [deq] at e; exact of_decide_eq_true e
    refine ⟨by omega, fun _ => ?_⟩
    by_cases f : deq (.i (b.1.length : Int)) (.i (a.1.length : Int)) = true
    · rw [deq] at f
      have := of_decide_eq_true f
      omega
    · rw [if_neg f, dlt, decide_eq_false_iff_not] at h
      omega
  · rw [if_neg e, dlt, decide_eq_false_iff_not] at h
    have e2 : ¬ b.2 = a.2 := fun z => e (by rw [deq]; exact decide_eq_true z)
    exact ⟨by omega, fun z => absurd z.symm e2⟩

def kstep (found : List Pair) (p : Pair) : List Pair := if (found.any fun y => underB y p) = true then found else found ++ [p]
def keepers (l : List Pair) : List Pair := l.foldl kstep []
theorem keepers_snoc (l : List Pair) (p : Pair) : keepers (l ++ [p]) = kstep (keepers l) p := by unfold keepers; rw [List.foldl_append]; rfl
structure KpI (l found : List Pair) : Prop where
  sub : ∀ y ∈ found, y ∈ l
  cov : ∀ p ∈ l, ∃ y ∈ found, under y p
  nd : found.Nodup
  anti : ∀ y ∈ found, ∀ z ∈ found, under y z → y = z
theorem KpI.nil : KpI [] [] := ⟨fun _ h => h, fun _ h => (by cases h), List.nodup_nil, fun _ h => (by cases h)⟩
theorem KpI.step {l found : List Pair} {p : Pair} (I : KpI l found) (hs : ∀ y ∈ l, dlt (dKey p) (dKey y) = false) (hl : ∀ y ∈ l, y.1.Pairwise (· < ·)) (hp : p.1.Pairwise (· < ·)) : KpI (l ++ [p]) (kstep found p) := by
  unfold kstep
  by_cases c : (found.any fun y => underB y p) = true
  · rw [if_pos c]
    obtain ⟨y, hy, hu⟩ := List.any_eq_true.mp c
    refine ⟨fun y hy => List.mem_append_left _ (I.sub y hy), fun q hq => ?_, I.nd, I.anti⟩
    rcases List.mem_append.mp hq with hq | hq
    · exact I.cov q hq
    · rw [List.mem_singleton.mp hq]
      exact ⟨y, hy, underB_iff.mp hu⟩
  · rw [if_neg c]
    have no : ∀ y ∈ found, ¬ under y p := fun y hy hu => c (List.any_eq_true.mpr ⟨y, hy, underB_iff.mpr hu⟩)
    have no2 : ∀ y ∈ found, ¬ under p y := fun y hy hu => by
      have hyl := I.sub y hy
      obtain ⟨k1, k2⟩ := key_le (hs y hyl)
      have ec : y.2 = p.2 := Int.le_antisymm k1 hu.1
      have el := k2 ec
      have nd1 := nodup_int hp
      have all : ∀ t ∈ y.1, t ∈ p.1 := fun t ht => by
        by_cases q : t ∈ p.1
        · exact q
        · have := nodup_len p.1 (y.1.erase t) nd1 fun x hx => (List.mem_erase_of_ne (fun e => q (by rw [← e]; exact hx))).mpr (hu.2 x hx)
          rw [List.length_erase_of_mem ht] at this
          have := List.length_pos_of_mem ht
          omega
      exact no y hy ⟨k1, all⟩
    refine ⟨fun y hy => ?_, fun q hq => ?_, ?_, fun y hy z hz hu => ?_⟩
    · rcases List.mem_append.mp hy with hy | hy
      · exact List.mem_append_left _ (I.sub y hy)
      · exact List.mem_append_right _ hy
    · rcases List.mem_append.mp hq with hq | hq
      · obtain ⟨y, hy, hu⟩ := I.cov q hq
        exact ⟨y, List.mem_append_left _ hy, hu⟩
      · rw [List.mem_singleton.mp hq]
        exact ⟨p, List.mem_append_right _ List.mem_cons_self, under_refl p⟩
    · refine List.nodup_append.mpr ⟨I.nd, List.nodup_cons.mpr ⟨fun h => (by cases h), List.nodup_nil⟩, fun a ha b hb e => ?_⟩
      rw [List.mem_singleton.mp hb] at e
      exact no a ha (by rw [e]; exact under_refl p)
    · rcases List.mem_append.mp hy with hy | hy
      · rcases List.mem_append.mp hz with hz | hz
        · exact I.anti y hy z hz hu
        · rw [List.mem_singleton.mp hz] at hu
          exact absurd hu (no y hy)
      · rcases List.mem_append.mp hz with hz | hz
        · rw [List.mem_singleton.mp hy] at hu
          exact absurd hu (no2 z hz)
        · rw [List.mem_singleton.mp hy, List.mem_singleton.mp hz]
theorem keepers_ok : ∀ (l r : List Pair), (∀ p ∈ l ++ r, p.1.Pairwise (· < ·)) → (l ++ r).Pairwise (fun a b => dlt (dKey b) (dKey a) = false) → KpI l (keepers l) → KpI (l ++ r) (keepers (l ++ r))
  | l, [], _, _, h => by rw [List.append_nil]; exact h
  | l, p :: r, hl, hs, h => by
    have e : l ++ p :: r = (l ++ [p]) ++ r := by rw [List.append_assoc]; rfl
    rw [e] at hl hs ⊢
    refine keepers_ok (l ++ [p]) r hl hs ?_
    rw [keepers_snoc]
    refine h.step (fun y hy => ?_) (fun y hy => hl y (List.mem_append_left _ (List.mem_append_left _ hy))) (hl p (List.mem_append_left _ (List.mem_append_right _ List.mem_cons_self)))
    have := (List.pairwise_append.mp hs).1
    exact (List.pairwise_append.mp this).2.2 y hy p List.mem_cons_self
theorem thin_of {ps sp ys : List Pair} (hp : sp.Perm ps) (hs : sp.Pairwise (fun a b => dlt (dKey b) (dKey a) = false)) (hok : ∀ p ∈ ps, p.1.Pairwise (· < ·)) (hy : ys.Perm (keepers sp))
    (hys : ys.Pairwise (fun a b => dlt (dPair b) (dPair a) = false)) : Thin ps ys := by
  have I : KpI sp (keepers sp) := keepers_ok [] sp (fun p h => hok p (hp.mem_iff.mp h)) hs KpI.nil
  have nd : ys.Nodup := hy.nodup_iff.mpr I.nd
  refine ⟨fun y h => hp.mem_iff.mp (I.sub y (hy.mem_iff.mp h)), fun p h => ?_, ?_, fun y h z k u => I.anti y (hy.mem_iff.mp h) z (hy.mem_iff.mp k) u⟩
  · obtain ⟨y, h1, h2⟩ := I.cov p (hp.mem_iff.mpr h)
    exact ⟨y, hy.mem_iff.mpr h1, h2⟩
  · refine List.Pairwise.imp_of_mem (R := fun a b => dlt (dPair b) (dPair a) = false ∧ a ≠ b) (fun {a b} _ _ h => ?_) (hys.and nd)
    cases q : dlt (dPair a) (dPair b) with
    | true => rfl
    | false => exact absurd (dPair_inj (dlt_tot _ _ q h.1)) h.2
theorem keepers_len (l : List Pair) : (keepers l).length ≤ l.length := by
  have : ∀ (l found : List Pair), (l.foldl kstep found).length ≤ found.length + l.length := by
    intro l
    induction l with
    | nil => intro f; exact Nat.le_refl _
    | cons p l ih =>
      intro f
      rw [List.foldl_cons, List.length_cons]
      refine Nat.le_trans (ih _) ?_
      unfold kstep
      split
      · omega
      · rw [List.length_append, List.length_singleton]; omega
  have := this l []
  rw [List.length_nil, Nat.zero_add] at this
  exact this
theorem Thin.okP {S : Int} {ps ys : List Pair} (h : Thin ps ys) (k : OkP S ps) : OkP S ys := fun y hy => k y (h.sub y hy)
theorem Thin.nd {ps ys : List Pair} (h : Thin ps ys) : ys.Nodup := h.srt.imp fun {a b} q e => by rw [e, dlt_irr] at q; cases q
theorem Thin.len {S : Int} {ps ys : List Pair} (h : Thin ps ys) (k : OkP S ps) (hS : S ≤ 5) : ys.length ≤ 32 := by
  have nd : (ys.map Prod.fst).Nodup := by
    refine List.pairwise_map.mpr (List.Pairwise.imp_of_mem (R := fun a b => a ≠ b) (fun {a b} ha hb hne e => ?_) h.nd)
    rcases Int.le_total a.2 b.2 with q | q
    · exact hne (h.anti a ha b hb ⟨q, fun t ht => by rw [← e]; exact ht⟩)
    · exact hne (h.anti b hb a ha ⟨q, fun t ht => by rw [e]; exact ht⟩).symm
  have := nodup_len _ (pwr five) nd fun x hx => by
    obtain ⟨y, hy, e⟩ := List.mem_map.mp hx
    rw [← e]
    exact (k y (h.sub y hy)).1.in_pwr hS
  rw [List.length_map, pwr_five] at this
  exact this

/-! ### together -/
def ins (x : Int) : List Int → List Int
  | [] => [x]
  | y :: l => if x < y then x :: y :: l else if x = y then y :: l else y :: ins x l
theorem mem_ins {x z : Int} : ∀ {l : List Int}, z ∈ ins x l ↔ z = x ∨ z ∈ l
  | [] => by simp [ins]
  | y :: l => by
    unfold ins
    split
    · simp
    · split
      · rename_i e; subst e; simp
      · rw [List.mem_cons, mem_ins, List.mem_cons]
        constructor
        · rintro (h | h | h)
          · exact .inr (.inl h)
          · exact .inl h
          · exact .inr (.inr h)
        · rintro (h | h | h)
          · exact .inr (.inl h)
          · exact .inl h
          · exact .inr (.inr h)
theorem srt_ins {x : Int} : ∀ {l : List Int}, l.Pairwise (· < ·) → (ins x l).Pairwise (· < ·)
  | [], _ => List.pairwise_singleton _ _
  | y :: l, h => by
    obtain ⟨h1, h2⟩ := List.pairwise_cons.mp h
    unfold ins
    split
    · rename_i c
      refine List.pairwise_cons.mpr ⟨fun z hz => ?_, h⟩
      rcases List.mem_cons.mp hz with e | e
      · rw [e]; exact c
      · have := h1 z e; omega
    · split
      · exact h
      · refine List.pairwise_cons.mpr ⟨fun z hz => ?_, srt_ins h2⟩
        rcases mem_ins.mp hz with e | e
        · rw [e]; omega
        · exact h1 z e
def mrg (l : List Int) : List Int := l.foldr ins []
theorem mem_mrg {z : Int} : ∀ {l : List Int}, z ∈ mrg l ↔ z ∈ l
  | [] => by simp [mrg]
  | x :: l => by
    show z ∈ ins x (mrg l) ↔ _
    rw [mem_ins, mem_mrg, List.mem_cons]
theorem srt_mrg : ∀ l : List Int, (mrg l).Pairwise (· < ·)
  | [] => List.Pairwise.nil
  | x :: l => srt_ins (srt_mrg l)
theorem mrg_uniq {l ys : List Int} (h : ys.Pairwise (· < ·)) (k : ∀ z, z ∈ ys ↔ z ∈ l) : ys = mrg l := srt_int h (srt_mrg l) fun z => by rw [k, mem_mrg]
def mx (a b : Int) : Int := if b > a then b else a
theorem mx_l (a b : Int) : a ≤ mx a b := by unfold mx; split <;> omega
theorem mx_r (a b : Int) : b ≤ mx a b := by unfold mx; split <;> omega
def comb1 (a b : Pair) : Pair := (mrg (a.1 ++ b.1), mx a.2 b.2)
def combos (ones others : List Pair) : List Pair := ones.flatMap fun a => others.map fun b => comb1 a b
theorem mem_combos {ones others : List Pair} {p : Pair} : p ∈ combos ones others ↔ ∃ a ∈ ones, ∃ b ∈ others, p = comb1 a b := by
  unfold combos
  rw [List.mem_flatMap]
  constructor
  · rintro ⟨a, ha, h⟩
    obtain ⟨b, hb, e⟩ := List.mem_map.mp h
    exact ⟨a, ha, b, hb, e.symm⟩
  · rintro ⟨a, ha, b, hb, e⟩
    exact ⟨a, ha, List.mem_map.mpr ⟨b, hb, e.symm⟩⟩
theorem combos_len (ones others : List Pair) : (combos ones others).length = ones.length * others.length := by
  unfold combos
  induction ones with
  | nil => simp
  | cons a l ih => rw [List.flatMap_cons, List.length_append, ih, List.length_map, List.length_cons, Nat.add_mul, Nat.one_mul, Nat.add_comm]
theorem combos_ok {S : Int} {ones others : List Pair} (h : OkP S ones) (k : OkP S others) : OkP S (combos ones others) := fun p hp => by
  obtain ⟨a, ha, b, hb, e⟩ := mem_combos.mp hp
  subst e
  refine ⟨⟨srt_mrg _, fun t ht => ?_⟩, Int.le_trans (h a ha).2 (mx_l _ _)⟩
  rcases List.mem_append.mp (mem_mrg.mp ht) with q | q
  · exact (h a ha).1.rng t q
  · exact (k b hb).1.rng t q

/-- one of each of the lists of pairs, put together -/
structure AllS (L : List (List Pair)) (ys : List Pair) : Prop where
  snd : ∀ y ∈ ys, 0 ≤ y.2 ∧ ∀ l ∈ L, ∃ p ∈ l, under p y
  cpl : ∀ Pd : Int → Prop, (∀ l ∈ L, ∃ p ∈ l, ∀ u ∈ p.1, Pd u) → ∃ y ∈ ys, ∀ u ∈ y.1, Pd u
theorem AllS.nil : AllS [] [([], 0)] := ⟨fun y hy => ⟨by rw [List.mem_singleton.mp hy]; exact Int.le_refl _, fun l hl => by cases hl⟩, fun _ _ => ⟨([], 0), List.mem_cons_self, fun u hu => by cases hu⟩⟩
theorem AllS.step {L : List (List Pair)} {ys l ys' : List Pair} (h : AllS L ys) (t : Thin (combos ys l) ys') : AllS (L ++ [l]) ys' := by
  refine ⟨fun y hy => ?_, fun Pd hP => ?_⟩
  · obtain ⟨a, ha, b, hb, e⟩ := mem_combos.mp (t.sub y hy)
    subst e
    obtain ⟨h0, h1⟩ := h.snd a ha
    refine ⟨Int.le_trans h0 (mx_l _ _), fun m hm => ?_⟩
    rcases List.mem_append.mp hm with hm | hm
    · obtain ⟨p, hp, hu⟩ := h1 m hm
      exact ⟨p, hp, Int.le_trans hu.1 (mx_l _ _), fun t ht => mem_mrg.mpr (List.mem_append_left _ (hu.2 t ht))⟩
    · rw [List.mem_singleton.mp hm]
      exact ⟨b, hb, mx_r _ _, fun t ht => mem_mrg.mpr (List.mem_append_right _ ht)⟩
  · obtain ⟨a, ha, qa⟩ := h.cpl Pd fun m hm => hP m (List.mem_append_left _ hm)
    obtain ⟨b, hb, qb⟩ := hP l (List.mem_append_right _ List.mem_cons_self)
    obtain ⟨y, hy, hu⟩ := t.cov _ (mem_combos.mpr ⟨a, ha, b, hb, rfl⟩)
    refine ⟨y, hy, fun u hu' => ?_⟩
    rcases List.mem_append.mp (mem_mrg.mp (hu.2 u hu')) with q | q
    · exact qa u q
    · exact qb u q

/-! ### reading -/
def Rd (K : List Arr) (E : Int → Prop) : List Int → Int → Int → Prop
  | [], s, c => E s ∧ 0 ≤ c
  | x :: w, s, c => ∃ T k, (s, x, T, k) ∈ K ∧ ∃ d, 0 ≤ d ∧ k + d ≤ c ∧ ∀ t ∈ T, Rd K E w t d
theorem Rd.le {K : List Arr} {E : Int → Prop} : ∀ {w : List Int} {s c c' : Int}, Rd K E w s c → c ≤ c' → Rd K E w s c'
  | [], _, _, _, h, k => ⟨h.1, Int.le_trans h.2 k⟩
  | _ :: _, _, _, _, ⟨T, k0, hm, d, h0, h1, h2⟩, k => ⟨T, k0, hm, d, h0, Int.le_trans h1 k, h2⟩
theorem Rd.mono {K : List Arr} {E E' : Int → Prop} (hE : ∀ t, E t → E' t) : ∀ {w : List Int} {s c : Int}, Rd K E w s c → Rd K E' w s c
  | [], _, _, h => ⟨hE _ h.1, h.2⟩
  | _ :: _, _, _, ⟨T, k0, hm, d, h0, h1, h2⟩ => ⟨T, k0, hm, d, h0, h1, fun t ht => Rd.mono hE (h2 t ht)⟩
theorem Rd.nonneg {K : List Arr} {E : Int → Prop} (hK : ∀ a ∈ K, 0 ≤ a.2.2.2) : ∀ {w : List Int} {s c : Int}, Rd K E w s c → 0 ≤ c
  | [], _, _, h => h.2
  | _ :: _, _, _, ⟨T, k0, hm, d, h0, h1, h2⟩ => by have : 0 ≤ k0 := hK _ hm; omega
/-- arrows under those of K -/
theorem Rd.under {K K' : List Arr} {E : Int → Prop} (hK : ∀ a ∈ K, ∃ b ∈ K', b.1 = a.1 ∧ b.2.1 = a.2.1 ∧ under b.2.2 a.2.2) : ∀ {w : List Int} {s c : Int}, Rd K E w s c → Rd K' E w s c
  | [], _, _, h => h
  | x :: _, s, _, ⟨T, k0, hm, d, h0, h1, h2⟩ => by
    obtain ⟨⟨s', x', T', k'⟩, hb, e1, e2, hu⟩ := hK _ hm
    simp only at e1 e2
    subst e1
    subst e2
    exact ⟨T', k', hb, d, h0, (by have : k' ≤ k0 := hu.1; omega), fun t ht => Rd.under hK (h2 t (hu.2 t ht))⟩
/-- a common cost for a list of stands -/
theorem common {P : Int → Int → Prop} (mono : ∀ t c c', P t c → c ≤ c' → P t c') : ∀ T : List Int, (∀ t ∈ T, ∃ c, P t c) → ∃ d, 0 ≤ d ∧ ∀ t ∈ T, P t d
  | [], _ => ⟨0, Int.le_refl _, fun _ h => by cases h⟩
  | t :: T, h => by
    obtain ⟨d, h0, hd⟩ := common mono T fun u hu => h u (List.mem_cons_of_mem _ hu)
    obtain ⟨c, hc⟩ := h t List.mem_cons_self
    refine ⟨mx d c, Int.le_trans h0 (mx_l _ _), fun u hu => ?_⟩
    rcases List.mem_cons.mp hu with e | e
    · rw [e]; exact mono _ _ _ hc (mx_r _ _)
    · exact mono _ _ _ (hd u e) (mx_l _ _)
/-- what reads w and a rest, reads w to the stands that read the rest -/
theorem Rd.split {K : List Arr} {E : Int → Prop} {r : List Int} : ∀ {w : List Int} {s c : Int}, Rd K E (w ++ r) s c → ∃ c', Rd K (fun t => ∃ d, Rd K E r t d) w s c'
  | [], _, _, h => ⟨0, ⟨_, h⟩, Int.le_refl _⟩
  | x :: w, s, c, ⟨T, k0, hm, d, h0, h1, h2⟩ => by
    obtain ⟨d', h0', hd'⟩ := common (P := fun t c => Rd K (fun t => ∃ d, Rd K E r t d) w t c) (fun t c c' h k => h.le k) T fun t ht => (h2 t ht).split
    exact ⟨k0 + d', T, k0, hm, d', h0', Int.le_refl _, hd'⟩

def afrom (K : List Arr) (s x : Int) : List Pair := (K.filter fun a => decide (a.1 = s) && decide (a.2.1 = x)).map fun a => a.2.2
theorem mem_afrom {K : List Arr} {s x : Int} {p : Pair} : p ∈ afrom K s x ↔ (s, x, p) ∈ K := by
  unfold afrom
  rw [List.mem_map]
  constructor
  · rintro ⟨⟨s', x', q⟩, ha, e⟩
    rw [List.mem_filter, Bool.and_eq_true, decide_eq_true_eq, decide_eq_true_eq] at ha
    obtain ⟨h1, h2, h3⟩ := ha
    simp only at h2 h3 e
    subst h2
    subst h3
    subst e
    exact h1
  · intro h
    exact ⟨(s, x, p), List.mem_filter.mpr ⟨h, by simp⟩, rfl⟩

/-- what letters w come to from a stand -/
structure ReadS (K : List Arr) (s : Int) (w : List Int) (ys : List Pair) : Prop where
  snd : ∀ y ∈ ys, Rd K (fun t => t ∈ y.1) w s y.2
  cpl : ∀ (Pd : Int → Prop) (c : Int), Rd K Pd w s c → ∃ y ∈ ys, ∀ u ∈ y.1, Pd u
theorem ReadS.nil (K : List Arr) (s : Int) : ReadS K s [] [([s], 0)] := by
  refine ⟨fun y hy => ?_, fun Pd c h => ⟨([s], 0), List.mem_cons_self, fun u hu => by rw [List.mem_singleton.mp hu]; exact h.1⟩⟩
  rw [List.mem_singleton.mp hy]
  exact ⟨List.mem_cons_self, Int.le_refl _⟩
theorem ReadS.one {K : List Arr} {s x : Int} {ys : List Pair} (hK : ∀ a ∈ K, 0 ≤ a.2.2.2) (t : Thin (afrom K s x) ys) : ReadS K s [x] ys := by
  refine ⟨fun y hy => ?_, fun Pd c h => ?_⟩
  · have := mem_afrom.mp (t.sub y hy)
    exact ⟨y.1, y.2, this, 0, Int.le_refl _, by omega, fun t ht => ⟨ht, Int.le_refl _⟩⟩
  · obtain ⟨T, k, hm, d, h0, h1, h2⟩ := h
    obtain ⟨y, hy, hu⟩ := t.cov (T, k) (mem_afrom.mpr hm)
    exact ⟨y, hy, fun u q => (h2 u (hu.2 u q)).1⟩
/-- the pairs of two letters, ahead of the thinning: done, the pairs of the first letter that were gone through -/
structure TwoS (K : List Arr) (x : Int) (don found : List Pair) : Prop where
  snd : ∀ f ∈ found, ∃ o ∈ don, ∃ par, AllS (o.1.map fun t => afrom K t x) par ∧ ∃ q ∈ par, f = (q.1, o.2 + q.2)
  cpl : ∀ o ∈ don, ∃ par, AllS (o.1.map fun t => afrom K t x) par ∧ ∀ q ∈ par, (q.1, o.2 + q.2) ∈ found
theorem TwoS.nil (K : List Arr) (x : Int) : TwoS K x [] [] := ⟨fun _ h => (by cases h), fun _ h => (by cases h)⟩
theorem TwoS.step {K : List Arr} {x : Int} {don found par : List Pair} {o : Pair} (h : TwoS K x don found) (p : AllS (o.1.map fun t => afrom K t x) par) : TwoS K x (don ++ [o]) (found ++ par.map fun q => (q.1, o.2 + q.2)) := by
  refine ⟨fun f hf => ?_, fun o' ho => ?_⟩
  · rcases List.mem_append.mp hf with hf | hf
    · obtain ⟨o', ho, par', hp, q, hq, e⟩ := h.snd f hf
      exact ⟨o', List.mem_append_left _ ho, par', hp, q, hq, e⟩
    · obtain ⟨q, hq, e⟩ := List.mem_map.mp hf
      exact ⟨o, List.mem_append_right _ List.mem_cons_self, par, p, q, hq, e.symm⟩
  · rcases List.mem_append.mp ho with ho | ho
    · obtain ⟨par', hp, hq⟩ := h.cpl o' ho
      exact ⟨par', hp, fun q hq' => List.mem_append_left _ (hq q hq')⟩
    · rw [List.mem_singleton.mp ho]
      exact ⟨par, p, fun q hq => List.mem_append_right _ (List.mem_map.mpr ⟨q, hq, rfl⟩)⟩
theorem ReadS.two {K : List Arr} {s x z : Int} {found ys : List Pair} (h : TwoS K z (afrom K s x) found) (t : Thin found ys) : ReadS K s [x, z] ys := by
  refine ⟨fun y hy => ?_, fun Pd c hr => ?_⟩
  · obtain ⟨o, ho, par, hp, q, hq, e⟩ := h.snd y (t.sub y hy)
    subst e
    obtain ⟨h0, h1⟩ := hp.snd q hq
    refine ⟨o.1, o.2, mem_afrom.mp ho, q.2, h0, Int.le_refl _, fun u hu => ?_⟩
    obtain ⟨p, hp', hu'⟩ := h1 _ (List.mem_map.mpr ⟨u, hu, rfl⟩)
    exact ⟨p.1, p.2, mem_afrom.mp hp', 0, Int.le_refl _, by have := hu'.1; omega, fun v hv => ⟨hu'.2 v hv, Int.le_refl _⟩⟩
  · obtain ⟨T, k, hm, d, h0, h1, h2⟩ := hr
    obtain ⟨par, hp, hq⟩ := h.cpl (T, k) (mem_afrom.mpr hm)
    obtain ⟨q, hq', hu⟩ := hp.cpl Pd fun l hl => by
      obtain ⟨u, hu, e⟩ := List.mem_map.mp hl
      subst e
      obtain ⟨T', k', hm', d', _, _, h2'⟩ := h2 u hu
      exact ⟨(T', k'), mem_afrom.mpr hm', fun v hv => (h2' v hv).1⟩
    obtain ⟨y, hy, hy'⟩ := t.cov _ (hq q hq')
    exact ⟨y, hy, fun u hu' => hu u (hy'.2 u hu')⟩

/-! ### a game, what follows -/
structure Gm where
  hands : List Int
  rules : List Rule
def Gm.hand (g : Gm) (p : Int) : Int := g.hands.getD p.toNat 0
def Gm.at (g : Gm) (p x : Int) : List Rule := g.rules.filter fun r => decide (r.1 = p) && decide (r.2.1 = x)
theorem mem_at {g : Gm} {p x : Int} {r : Rule} : r ∈ g.at p x ↔ r ∈ g.rules ∧ r.1 = p ∧ r.2.1 = x := by
  unfold Gm.at
  rw [List.mem_filter, Bool.and_eq_true, decide_eq_true_eq, decide_eq_true_eq]
def Step (g : Gm) (K : List Arr) (p x : Int) (E : Int → Prop) (c : Int) : Prop :=
  (g.hand p = 0 ∧ ∃ r ∈ g.at p x, ∃ c', 1 + c' ≤ c ∧ Rd K E r.2.2.2 r.2.2.1 c') ∨
  (g.hand p ≠ 0 ∧ g.at p x ≠ [] ∧ ∃ c', 0 ≤ c' ∧ 1 + c' ≤ c ∧ ∀ r ∈ g.at p x, Rd K E r.2.2.2 r.2.2.1 c')
structure AtS (g : Gm) (K : List Arr) (p x : Int) (ys : List Pair) : Prop where
  snd : ∀ y ∈ ys, Step g K p x (fun t => t ∈ y.1) y.2
  cpl : ∀ (Pd : Int → Prop) (c : Int), Step g K p x Pd c → ∃ y ∈ ys, ∀ u ∈ y.1, Pd u
/-- the readings of each rule, in order -/
def Some_ (g : Gm) (K : List Arr) (p x : Int) (some : List (List Pair)) : Prop := F2 (fun (r : Rule) ys => ReadS K r.2.2.1 r.2.2.2 ys) (g.at p x) some
def plus1 (ys : List Pair) : List Pair := ys.map fun y => (y.1, 1 + y.2)
theorem AtS.first {g : Gm} {K : List Arr} {p x : Int} {some : List (List Pair)} {ys : List Pair} (hs : Some_ g K p x some) (h0 : g.hand p = 0) (t : Thin some.flatten ys) : AtS g K p x (plus1 ys) := by
  refine ⟨fun y hy => ?_, fun Pd c h => ?_⟩
  · obtain ⟨q, hq, e⟩ := List.mem_map.mp hy
    subst e
    obtain ⟨l, hl, hq'⟩ := List.mem_flatten.mp (t.sub q hq)
    obtain ⟨r, hr, R⟩ := F2.mem_r hs l hl
    exact .inl ⟨h0, r, hr, q.2, Int.le_refl _, R.snd q hq'⟩
  · rcases h with ⟨_, r, hr, c', _, R⟩ | ⟨hn, _⟩
    · obtain ⟨l, hl, RS⟩ := F2.mem_l hs r hr
      obtain ⟨q, hq, hu⟩ := RS.cpl Pd c' R
      obtain ⟨y, hy, hy'⟩ := t.cov q (List.mem_flatten.mpr ⟨l, hl, hq⟩)
      exact ⟨_, List.mem_map.mpr ⟨y, hy, rfl⟩, fun u hu' => hu u (hy'.2 u hu')⟩
    · exact absurd h0 hn
theorem AtS.other {g : Gm} {K : List Arr} {p x : Int} {some : List (List Pair)} {ys : List Pair} (hs : Some_ g K p x some) (h0 : g.hand p ≠ 0) (hr : g.at p x ≠ []) (t : AllS some ys) : AtS g K p x (plus1 ys) := by
  refine ⟨fun y hy => ?_, fun Pd c h => ?_⟩
  · obtain ⟨q, hq, e⟩ := List.mem_map.mp hy
    subst e
    obtain ⟨n0, h1⟩ := t.snd q hq
    refine .inr ⟨h0, hr, q.2, n0, Int.le_refl _, fun r hr' => ?_⟩
    obtain ⟨l, hl, RS⟩ := F2.mem_l hs r hr'
    obtain ⟨z, hz, hu⟩ := h1 l hl
    exact ((RS.snd z hz).mono fun t ht => hu.2 t ht).le hu.1
  · rcases h with ⟨h, _⟩ | ⟨_, _, c', _, _, R⟩
    · exact absurd h h0
    · obtain ⟨q, hq, hu⟩ := t.cpl Pd fun l hl => by
        obtain ⟨r, hr', RS⟩ := F2.mem_r hs l hl
        exact RS.cpl Pd c' (R r hr')
      exact ⟨_, List.mem_map.mpr ⟨q, hq, rfl⟩, hu⟩
theorem AtS.none {g : Gm} {K : List Arr} {p x : Int} (hr : g.at p x = []) : AtS g K p x [] := by
  refine ⟨fun y hy => (by cases hy), fun Pd c h => ?_⟩
  rcases h with ⟨_, r, hr', _⟩ | ⟨_, hn, _⟩
  · rw [hr] at hr'; cases hr'
  · exact absurd hr hn
end K27
end

section
set_option Elab.async false
set_option linter.all false
set_option maxHeartbeats 4000000
/-! K27c: what follows everywhere, what is kept, the machine's end, soundness, completeness. -/
namespace K27
/-! ### followed -/
structure FolP (g : Gm) (K : List Arr) (don : List (Int × Int)) (F : List Arr) : Prop where
  snd : ∀ a ∈ F, (a.1, a.2.1) ∈ don ∧ Step g K a.1 a.2.1 (fun t => t ∈ a.2.2.1) a.2.2.2
  cpl : ∀ h ∈ don, ∀ (Pd : Int → Prop) (c : Int), Step g K h.1 h.2 Pd c → ∃ a ∈ F, a.1 = h.1 ∧ a.2.1 = h.2 ∧ ∀ u ∈ a.2.2.1, Pd u
theorem FolP.nil (g : Gm) (K : List Arr) : FolP g K [] [] := ⟨fun _ h => (by cases h), fun _ h => (by cases h)⟩
theorem FolP.step {g : Gm} {K : List Arr} {don : List (Int × Int)} {F : List Arr} {p x : Int} {ys : List Pair} (h : FolP g K don F) (t : AtS g K p x ys) : FolP g K (don ++ [(p, x)]) (F ++ ys.map fun y => (p, x, y)) := by
  refine ⟨fun a ha => ?_, fun hd hh Pd c hs => ?_⟩
  · rcases List.mem_append.mp ha with ha | ha
    · obtain ⟨h1, h2⟩ := h.snd a ha
      exact ⟨List.mem_append_left _ h1, h2⟩
    · obtain ⟨y, hy, e⟩ := List.mem_map.mp ha
      subst e
      exact ⟨List.mem_append_right _ List.mem_cons_self, t.snd y hy⟩
  · rcases List.mem_append.mp hh with hh | hh
    · obtain ⟨a, ha, q⟩ := h.cpl hd hh Pd c hs
      exact ⟨a, List.mem_append_left _ ha, q⟩
    · rw [List.mem_singleton.mp hh] at hs ⊢
      obtain ⟨y, hy, q⟩ := t.cpl Pd c hs
      exact ⟨_, List.mem_append_right _ (List.mem_map.mpr ⟨y, hy, rfl⟩), rfl, rfl, q⟩
theorem FolP.perm {g : Gm} {K : List Arr} {don : List (Int × Int)} {F F' : List Arr} (h : FolP g K don F) (p : F'.Perm F) : FolP g K don F' :=
  ⟨fun a ha => h.snd a (p.mem_iff.mp ha), fun hd hh Pd c hs => let ⟨a, ha, q⟩ := h.cpl hd hh Pd c hs; ⟨a, p.mem_iff.mpr ha, q⟩⟩
/-- an arrow that is as it should be -/
structure OkA (S X : Int) (a : Arr) : Prop where
  st : 0 ≤ a.1 ∧ a.1 < S
  lt : 0 ≤ a.2.1 ∧ a.2.1 < X
  tg : OkT S a.2.2.1
  co : 0 ≤ a.2.2.2

/-! ### kept -/
structure KepP (A : List Arr) (hs : List (Int × Int)) (ys : List Arr) : Prop where
  sub : ∀ y ∈ ys, y ∈ A ∧ (y.1, y.2.1) ∈ hs
  cov : ∀ a ∈ A, (a.1, a.2.1) ∈ hs → ∃ y ∈ ys, y.1 = a.1 ∧ y.2.1 = a.2.1 ∧ under y.2.2 a.2.2
  srt : ys.Pairwise fun a b => dlt (dArr a) (dArr b) = true
  anti : ∀ y ∈ ys, ∀ z ∈ ys, y.1 = z.1 → y.2.1 = z.2.1 → under y.2.2 z.2.2 → y = z
theorem KepP.nil (A : List Arr) : KepP A [] [] := ⟨fun _ h => (by cases h), fun _ _ h => (by cases h), List.Pairwise.nil, fun _ h => (by cases h)⟩
theorem head_lt {a b : Arr} (h : dlt (dHead (a.1, a.2.1)) (dHead (b.1, b.2.1)) = true) : dlt (dArr a) (dArr b) = true := by
  unfold dHead at h
  unfold dArr
  rw [dlt, dltL] at h ⊢
  split at h
  · rename_i e
    rw [if_pos e]
    rw [dltL] at h ⊢
    split at h
    · rw [dltL] at h; cases h
    · rename_i e2
      rw [if_neg e2]
      exact h
  · rename_i e
    rw [if_neg e]
    exact h
theorem pair_lt {s x : Int} {a b : Pair} (h : dlt (dPair a) (dPair b) = true) : dlt (dArr (s, x, a)) (dArr (s, x, b)) = true := by
  unfold dPair at h
  unfold dArr
  rw [dlt] at h ⊢
  rw [dltL, if_pos (deq_self _), dltL, if_pos (deq_self _)]
  exact h
theorem KepP.step {A : List Arr} {hs : List (Int × Int)} {ys : List Arr} {s x : Int} {th : List Pair} (h : KepP A hs ys) (hl : ∀ q ∈ hs, dlt (dHead q) (dHead (s, x)) = true) (t : Thin (afrom A s x) th) :
    KepP A (hs ++ [(s, x)]) (ys ++ th.map fun p => (s, x, p)) := by
  have ne : ∀ y ∈ ys, ¬ (y.1 = s ∧ y.2.1 = x) := fun y hy ⟨e1, e2⟩ => by
    have := hl _ (h.sub y hy).2
    rw [e1, e2, dlt_irr] at this
    cases this
  refine ⟨fun y hy => ?_, fun a ha hh => ?_, ?_, fun y hy z hz e1 e2 hu => ?_⟩
  · rcases List.mem_append.mp hy with hy | hy
    · exact ⟨(h.sub y hy).1, List.mem_append_left _ (h.sub y hy).2⟩
    · obtain ⟨p, hp, e⟩ := List.mem_map.mp hy
      subst e
      exact ⟨mem_afrom.mp (t.sub p hp), List.mem_append_right _ List.mem_cons_self⟩
  · rcases List.mem_append.mp hh with hh | hh
    · obtain ⟨y, hy, q⟩ := h.cov a ha hh
      exact ⟨y, List.mem_append_left _ hy, q⟩
    · have e := List.mem_singleton.mp hh
      obtain ⟨s', x', p⟩ := a
      simp only [Prod.mk.injEq] at e
      obtain ⟨e1, e2⟩ := e
      subst e1
      subst e2
      obtain ⟨y, hy, q⟩ := t.cov p (mem_afrom.mpr ha)
      exact ⟨_, List.mem_append_right _ (List.mem_map.mpr ⟨y, hy, rfl⟩), rfl, rfl, q⟩
  · refine List.pairwise_append.mpr ⟨h.srt, List.pairwise_map.mpr (t.srt.imp fun {a b} q => pair_lt q), fun a ha b hb => ?_⟩
    obtain ⟨p, hp, e⟩ := List.mem_map.mp hb
    subst e
    exact head_lt (hl _ (h.sub a ha).2)
  · rcases List.mem_append.mp hy with hy | hy
    · rcases List.mem_append.mp hz with hz | hz
      · exact h.anti y hy z hz e1 e2 hu
      · obtain ⟨p, hp, e⟩ := List.mem_map.mp hz
        subst e
        exact absurd ⟨e1, e2⟩ (ne y hy)
    · obtain ⟨p, hp, e⟩ := List.mem_map.mp hy
      subst e
      rcases List.mem_append.mp hz with hz | hz
      · exact absurd ⟨e1.symm, e2.symm⟩ (ne z hz)
      · obtain ⟨q, hq, e⟩ := List.mem_map.mp hz
        subst e
        rw [t.anti p hp q hq hu]
/-- what is kept of all -/
structure KeptS (A ys : List Arr) : Prop where
  sub : ∀ y ∈ ys, y ∈ A
  cov : ∀ a ∈ A, ∃ y ∈ ys, y.1 = a.1 ∧ y.2.1 = a.2.1 ∧ under y.2.2 a.2.2
  srt : ys.Pairwise fun a b => dlt (dArr a) (dArr b) = true
  anti : ∀ y ∈ ys, ∀ z ∈ ys, y.1 = z.1 → y.2.1 = z.2.1 → under y.2.2 z.2.2 → y = z
theorem KepP.all {A : List Arr} {hs : List (Int × Int)} {ys : List Arr} (h : KepP A hs ys) (hh : ∀ a ∈ A, (a.1, a.2.1) ∈ hs) : KeptS A ys :=
  ⟨fun y hy => (h.sub y hy).1, fun a ha => h.cov a ha (hh a ha), h.srt, h.anti⟩

/-! ### the machine's end: a potential that falls -/
def idx (S X : Nat) : List (Int × Int × List Int) := (List.range S).flatMap fun (s : Nat) => (List.range X).flatMap fun (x : Nat) => (pwr five).map fun T => ((s : Int), (x : Int), T)
theorem mem_idx {S X : Nat} {s x : Int} {T : List Int} (hs : 0 ≤ s ∧ s < S) (hx : 0 ≤ x ∧ x < X) (hT : T ∈ pwr five) : (s, x, T) ∈ idx S X := by
  unfold idx
  refine List.mem_flatMap.mpr ⟨s.toNat, List.mem_range.mpr (by omega), List.mem_flatMap.mpr ⟨x.toNat, List.mem_range.mpr (by omega), List.mem_map.mpr ⟨T, hT, ?_⟩⟩⟩
  rw [Int.toNat_of_nonneg hs.1, Int.toNat_of_nonneg hx.1]
/-- the costs of the arrows of K at s, x with targets among T -/
def cs (K : List Arr) (i : Int × Int × List Int) : List Nat := (K.filter fun a => decide (a.1 = i.1) && (decide (a.2.1 = i.2.1) && a.2.2.1.all fun t => decide (t ∈ i.2.2))).map fun a => a.2.2.2.toNat
theorem mem_cs {K : List Arr} {s x : Int} {T : List Int} {n : Nat} : n ∈ cs K (s, x, T) ↔ ∃ T' c, (s, x, T', c) ∈ K ∧ (∀ t ∈ T', t ∈ T) ∧ n = c.toNat := by
  unfold cs
  rw [List.mem_map]
  constructor
  · rintro ⟨⟨s', x', T', c⟩, ha, e⟩
    rw [List.mem_filter, Bool.and_eq_true, Bool.and_eq_true, decide_eq_true_eq, decide_eq_true_eq, List.all_eq_true] at ha
    obtain ⟨h1, h2, h3, h4⟩ := ha
    simp only at h2 h3 h4 e
    subst h2
    subst h3
    exact ⟨T', c, h1, fun t ht => of_decide_eq_true (h4 t ht), e.symm⟩
  · rintro ⟨T', c, h1, h2, e⟩
    refine ⟨(s, x, T', c), List.mem_filter.mpr ⟨h1, ?_⟩, e.symm⟩
    rw [Bool.and_eq_true, Bool.and_eq_true, decide_eq_true_eq, decide_eq_true_eq, List.all_eq_true]
    exact ⟨rfl, rfl, fun t ht => decide_eq_true (h2 t ht)⟩
def mn : List Nat → Option Nat
  | [] => none
  | n :: l => match mn l with
    | none => some n
    | some m => some (min n m)
theorem mn_none {l : List Nat} : mn l = none ↔ l = [] := by
  cases l with
  | nil => simp [mn]
  | cons n l =>
    unfold mn
    cases mn l <;> simp
theorem mn_some : ∀ {l : List Nat} {m : Nat}, mn l = some m → m ∈ l ∧ ∀ n ∈ l, m ≤ n
  | [], _, h => by simp [mn] at h
  | n :: l, m, h => by
    unfold mn at h
    cases q : mn l with
    | none =>
      rw [q] at h
      have e := Option.some.inj h
      rw [mn_none.mp q, e]
      exact ⟨List.mem_cons_self, fun k hk => by rw [List.mem_singleton.mp hk]; exact Nat.le_refl _⟩
    | some k =>
      rw [q] at h
      have e : min n k = m := Option.some.inj h
      obtain ⟨h1, h2⟩ := mn_some q
      refine ⟨?_, fun j hj => ?_⟩
      · rcases Nat.le_total n k with c | c
        · rw [Nat.min_eq_left c] at e; rw [← e]; exact List.mem_cons_self
        · rw [Nat.min_eq_right c] at e; rw [← e]; exact List.mem_cons_of_mem _ h1
      · rcases List.mem_cons.mp hj with c | c
        · omega
        · have := h2 j c; omega
def val (K : List Arr) (i : Int × Int × List Int) : Option Nat := mn (cs K i)
def infs (K : List Arr) (l : List (Int × Int × List Int)) : Nat := (l.filter fun i => (val K i).isNone).length
def sums (K : List Arr) (l : List (Int × Int × List Int)) : Nat := (l.map fun i => (val K i).getD 0).sum
def OLe : Option Nat → Option Nat → Prop
  | _, none => True
  | some m, some n => m ≤ n
  | none, some _ => False
theorem pot_fall {K K' : List Arr} : ∀ l : List (Int × Int × List Int), (∀ i ∈ l, OLe (val K' i) (val K i)) → (infs K' l ≤ infs K l) ∧ (infs K' l = infs K l → sums K' l ≤ sums K l ∧ (sums K' l = sums K l → ∀ i ∈ l, val K' i = val K i))
  | [], _ => ⟨Nat.le_refl _, fun _ => ⟨Nat.le_refl _, fun _ i h => by cases h⟩⟩
  | i :: l, h => by
    obtain ⟨h1, h2⟩ := pot_fall l fun j hj => h j (List.mem_cons_of_mem _ hj)
    have hi := h i List.mem_cons_self
    have e1 : ∀ K, infs K (i :: l) = (if (val K i).isNone = true then 1 else 0) + infs K l := fun K => by
      unfold infs
      rw [List.filter_cons]
      split
      · rw [List.length_cons]; omega
      · omega
    have e2 : ∀ K, sums K (i :: l) = (val K i).getD 0 + sums K l := fun K => by
      unfold sums
      rw [List.map_cons, List.sum_cons]
    rw [e1, e1, e2, e2]
    cases q' : val K' i with
    | none =>
      cases q : val K i with
      | none =>
        refine ⟨by omega, fun e => ?_⟩
        obtain ⟨h3, h4⟩ := h2 (by omega)
        refine ⟨by omega, fun e' j hj => ?_⟩
        rcases List.mem_cons.mp hj with c | c
        · rw [c, q', q]
        · exact h4 (by omega) j c
      | some n => rw [q', q] at hi; exact hi.elim
    | some m =>
      cases q : val K i with
      | none =>
        simp only [Option.isNone_some, Option.isNone_none, Bool.false_eq_true, if_false, if_true]
        exact ⟨by omega, fun e => by omega⟩
      | some n =>
        rw [q', q] at hi
        have hi : m ≤ n := hi
        simp only [Option.isNone_some, Bool.false_eq_true, if_false, Option.getD_some]
        refine ⟨by omega, fun e => ?_⟩
        obtain ⟨h3, h4⟩ := h2 (by omega)
        refine ⟨by omega, fun e' j hj => ?_⟩
        rcases List.mem_cons.mp hj with c | c
        · rw [c, q', q]
          rw [show m = n by omega]
        · exact h4 (by omega) j c
/-- the order in which the loop falls -/
def Fall (S X : Nat) (K' K : List Arr) : Prop := infs K' (idx S X) < infs K (idx S X) ∨ (infs K' (idx S X) = infs K (idx S X) ∧ sums K' (idx S X) < sums K (idx S X))
theorem fall_wf (S X : Nat) : WellFounded (Fall S X) := by
  have w : WellFounded (fun a b : Nat × Nat => a.1 < b.1 ∨ (a.1 = b.1 ∧ a.2 < b.2)) := by
    refine ⟨fun ⟨a, b⟩ => ?_⟩
    induction a using Nat.strongRecOn generalizing b with
    | ind a ih =>
      induction b using Nat.strongRecOn with
      | ind b ih2 =>
        refine ⟨_, fun ⟨c, d⟩ h => ?_⟩
        rcases h with h | ⟨h1, h2⟩
        · exact ih c h d
        · simp only at h1 h2
          subst h1
          exact ih2 d h2
  exact InvImage.wf (fun K => (infs K (idx S X), sums K (idx S X))) w
theorem val_le {K K' : List Arr} (hc : ∀ a ∈ K, ∃ y ∈ K', y.1 = a.1 ∧ y.2.1 = a.2.1 ∧ under y.2.2 a.2.2) (i : Int × Int × List Int) : OLe (val K' i) (val K i) := by
  obtain ⟨s, x, T⟩ := i
  cases q : val K (s, x, T) with
  | none => cases val K' (s, x, T) <;> trivial
  | some n =>
    obtain ⟨T1, c, h1, h2, e⟩ := mem_cs.mp (mn_some q).1
    obtain ⟨⟨s', x', T2, c2⟩, hy, e1, e2, hu⟩ := hc _ h1
    simp only at e1 e2
    subst e1
    subst e2
    have hm : c2.toNat ∈ cs K' (s', x', T) := mem_cs.mpr ⟨T2, c2, hy, fun t ht => h2 t (hu.2 t ht), rfl⟩
    cases q' : val K' (s', x', T) with
    | none =>
      rw [mn_none.mp q'] at hm
      cases hm
    | some m =>
      have := (mn_some q').2 _ hm
      have h3 : c2 ≤ c := hu.1
      show m ≤ n
      omega
/-- K' is another one than K and covers it: it falls -/
theorem falls {S X : Nat} {K K' : List Arr} (hS : (S : Int) ≤ 5) (h1 : ∀ a ∈ K, OkA S X a) (h2 : ∀ a ∈ K', OkA S X a) (hc : ∀ a ∈ K, ∃ y ∈ K', y.1 = a.1 ∧ y.2.1 = a.2.1 ∧ under y.2.2 a.2.2)
    (s1 : K.Pairwise fun a b => dlt (dArr a) (dArr b) = true) (s2 : K'.Pairwise fun a b => dlt (dArr a) (dArr b) = true)
    (a1 : ∀ y ∈ K, ∀ z ∈ K, y.1 = z.1 → y.2.1 = z.2.1 → under y.2.2 z.2.2 → y = z) (a2 : ∀ y ∈ K', ∀ z ∈ K', y.1 = z.1 → y.2.1 = z.2.1 → under y.2.2 z.2.2 → y = z) (ne : K' ≠ K) : Fall S X K' K := by
  obtain ⟨p1, p2⟩ := pot_fall (idx S X) fun i _ => val_le hc i
  rcases Nat.lt_or_ge (infs K' (idx S X)) (infs K (idx S X)) with q | q
  · exact .inl q
  have e := Nat.le_antisymm p1 q
  obtain ⟨p3, p4⟩ := p2 e
  rcases Nat.lt_or_ge (sums K' (idx S X)) (sums K (idx S X)) with q | q
  · exact .inr ⟨e, q⟩
  have all := p4 (Nat.le_antisymm p3 q)
  refine absurd ?_ ne
  -- each arrow of the one is under one of the other
  have cov : ∀ {A B : List Arr}, (∀ a ∈ A, OkA S X a) → (∀ a ∈ B, OkA S X a) → (∀ i ∈ idx S X, val A i = val B i) → ∀ a ∈ A, ∃ b ∈ B, b.1 = a.1 ∧ b.2.1 = a.2.1 ∧ under b.2.2 a.2.2 := by
    intro A B hA hB hv ⟨s, x, T, c⟩ ha
    have o := hA _ ha
    have hi := hv (s, x, T) (mem_idx o.st o.lt (o.tg.in_pwr hS))
    have hm : c.toNat ∈ cs A (s, x, T) := mem_cs.mpr ⟨T, c, ha, fun _ h => h, rfl⟩
    cases r : val A (s, x, T) with
    | none =>
      rw [mn_none.mp r] at hm
      cases hm
    | some m =>
      rw [r] at hi
      obtain ⟨T', c', b1, b2, b3⟩ := mem_cs.mp (mn_some hi.symm).1
      have le := (mn_some r).2 _ hm
      have n0 : 0 ≤ c' := (hB _ b1).co
      have n1 : 0 ≤ c := o.co
      exact ⟨_, b1, rfl, rfl, by show c' ≤ c; omega, b2⟩
  have sub : ∀ {A B : List Arr}, (∀ a ∈ A, OkA S X a) → (∀ a ∈ B, OkA S X a) → (∀ a ∈ A, ∃ b ∈ B, b.1 = a.1 ∧ b.2.1 = a.2.1 ∧ under b.2.2 a.2.2) → (∀ a ∈ B, ∃ b ∈ A, b.1 = a.1 ∧ b.2.1 = a.2.1 ∧ under b.2.2 a.2.2) →
      (∀ y ∈ A, ∀ z ∈ A, y.1 = z.1 → y.2.1 = z.2.1 → under y.2.2 z.2.2 → y = z) → ∀ a ∈ A, a ∈ B := by
    intro A B hA hB h h' an a ha
    obtain ⟨b, hb, e1, e2, u1⟩ := h a ha
    obtain ⟨a', ha', e3, e4, u2⟩ := h' b hb
    have ea := an a' ha' a ha (e3.trans e1) (e4.trans e2) (under_trans u2 u1)
    subst ea
    have : b.2.2 = a'.2.2 := under_antisymm (hB b hb).tg.srt (hA a' ha').tg.srt u1 u2
    have : b = a' := Prod.ext e1 (Prod.ext e2 this)
    rw [← this]
    exact hb
  have c1 := cov h1 h2 fun i hi => (all i hi).symm
  have c2 := cov h2 h1 all
  refine srt_ext (r := fun a b => dlt (dArr a) (dArr b) = true) (fun a h => by rw [dlt_irr] at h; cases h) (fun a b h k => ?_) s2 s1 fun a => ⟨sub h2 h1 c2 c1 a2 a, sub h1 h2 c1 c2 a1 a⟩
  rw [dlt_asym _ _ h] at k
  cases k
end K27
end

section
set_option Elab.async false
set_option linter.all false
set_option maxHeartbeats 4000000
/-! K27d: plain play, soundness, completeness. -/
namespace K27
/-- where one stands is in the saying, by arrows of cost 0 -/
def InSay (B : List Arr) (ends : List Int) (p : Int) (w : List Int) : Prop := Rd B (fun t => t ∈ ends) w p 0
def Brings (g : Gm) (B : List Arr) (ends : List Int) : Nat → Int → List Int → Prop
  | 0, p, w => InSay B ends p w
  | n + 1, p, w => InSay B ends p w ∨ ∃ x r, w = x :: r ∧
      ((g.hand p = 0 ∧ ∃ u ∈ g.at p x, Brings g B ends n u.2.2.1 (u.2.2.2 ++ r)) ∨ (g.hand p ≠ 0 ∧ g.at p x ≠ [] ∧ ∀ u ∈ g.at p x, Brings g B ends n u.2.2.1 (u.2.2.2 ++ r)))
theorem Brings.of_say {g : Gm} {B : List Arr} {ends : List Int} {p : Int} {w : List Int} (h : InSay B ends p w) : ∀ n, Brings g B ends n p w
  | 0 => h
  | _ + 1 => .inl h
theorem Brings.succ {g : Gm} {B : List Arr} {ends : List Int} : ∀ {n : Nat} {p : Int} {w : List Int}, Brings g B ends n p w → Brings g B ends (n + 1) p w
  | 0, _, _, h => .inl h
  | n + 1, _, _, h => by
    rcases h with h | ⟨x, r, e, h⟩
    · exact .inl h
    · refine .inr ⟨x, r, e, ?_⟩
      rcases h with ⟨h0, u, hu, hb⟩ | ⟨h0, h1, hb⟩
      · exact .inl ⟨h0, u, hu, hb.succ⟩
      · exact .inr ⟨h0, h1, fun u hu => (hb u hu).succ⟩
theorem Brings.le {g : Gm} {B : List Arr} {ends : List Int} {n m : Nat} {p : Int} {w : List Int} (h : Brings g B ends n p w) (k : n ≤ m) : Brings g B ends m p w := by
  induction k with
  | refl => exact h
  | step _ ih => exact ih.succ

/-- a game, a saying's arrows (with cost 0) and ends, as they should be: P places, S stands, X letters -/
structure OkG (P S X : Nat) (g : Gm) (B : List Arr) (ends : List Int) : Prop where
  p1 : 1 ≤ P
  p3 : P ≤ 3
  ps : P ≤ S
  s5 : S ≤ 5
  x3 : X ≤ 3
  hl : g.hands.length = P
  hh : ∀ h ∈ g.hands, h = 0 ∨ h = 1
  ru : ∀ r ∈ g.rules, (0 ≤ r.1 ∧ r.1 < P) ∧ (0 ≤ r.2.1 ∧ r.2.1 < X) ∧ (0 ≤ r.2.2.1 ∧ r.2.2.1 < P) ∧ (∀ z ∈ r.2.2.2, 0 ≤ z ∧ z < (X : Int)) ∧ r.2.2.2.length ≤ 2
  rl : g.rules.length ≤ 8
  bo : ∀ a ∈ B, OkA S X a
  b0 : ∀ a ∈ B, a.2.2.2 = 0 ∧ ∀ t ∈ a.2.2.1, (P : Int) ≤ t
  bl : B.length ≤ 8
  en : ∀ t ∈ ends, 0 ≤ t ∧ t < S

theorem say0 {B : List Arr} {E : Int → Prop} (b0 : ∀ a ∈ B, a.2.2.2 = 0) : ∀ {w : List Int} {s c : Int}, Rd B E w s c → Rd B E w s 0
  | [], _, _, h => ⟨h.1, Int.le_refl _⟩
  | _ :: _, _, _, ⟨T, k, hm, d, h0, h1, h2⟩ => by
    have e : k = 0 := b0 _ hm
    exact ⟨T, k, hm, 0, Int.le_refl _, by omega, fun t ht => say0 b0 (h2 t ht)⟩

/-! ### soundness -/
def Sem (P : Nat) (g : Gm) (B : List Arr) (ends : List Int) (t : Int) (w : List Int) (d : Int) : Prop :=
  0 ≤ d ∧ if t < P then ∃ n : Nat, (n : Int) ≤ d ∧ Brings g B ends n t w else InSay B ends t w
theorem Sem.le {P : Nat} {g : Gm} {B : List Arr} {ends : List Int} {t : Int} {w : List Int} {d d' : Int} (h : Sem P g B ends t w d) (k : d ≤ d') : Sem P g B ends t w d' := by
  refine ⟨Int.le_trans h.1 k, ?_⟩
  have h2 := h.2
  split
  · rename_i c
    rw [if_pos c] at h2
    obtain ⟨n, h3, h4⟩ := h2
    exact ⟨n, Int.le_trans h3 k, h4⟩
  · rename_i c
    rw [if_neg c] at h2
    exact h2
theorem Sem.say {P : Nat} {g : Gm} {B : List Arr} {ends : List Int} {t : Int} {w : List Int} {d : Int} (h : InSay B ends t w) (hd : 0 ≤ d) : Sem P g B ends t w d := by
  refine ⟨hd, ?_⟩
  split
  · exact ⟨0, hd, h⟩
  · exact h
def SoundA (P : Nat) (g : Gm) (B : List Arr) (ends : List Int) (a : Arr) : Prop := 0 ≤ a.2.2.2 ∧ ∀ w d, 0 ≤ d → (∀ t ∈ a.2.2.1, Sem P g B ends t w d) → Sem P g B ends a.1 (a.2.1 :: w) (a.2.2.2 + d)
def SoundK (P : Nat) (g : Gm) (B : List Arr) (ends : List Int) (K : List Arr) : Prop := ∀ a ∈ K, SoundA P g B ends a
section
variable {P S X : Nat} {g : Gm} {B K : List Arr} {ends : List Int}
theorem Rd.sem (hK : SoundK P g B ends K) {E : Int → Prop} {r : List Int} {d : Int} (hd : 0 ≤ d) (hE : ∀ t, E t → Sem P g B ends t r d) : ∀ {w : List Int} {s c : Int}, Rd K E w s c → Sem P g B ends s (w ++ r) (c + d)
  | [], _, c, h => (hE _ h.1).le (by have := h.2; omega)
  | x :: w, s, c, ⟨T, k, hm, d1, h0, h1, h2⟩ => by
    have := (hK _ hm).2 (w ++ r) (d1 + d) (by omega) fun t ht => Rd.sem hK hd hE (h2 t ht)
    exact this.le (by show k + (d1 + d) ≤ c + d; omega)
theorem begun_sound (o : OkG P S X g B ends) : SoundK P g B ends B := by
  intro a ha
  obtain ⟨b0, b1⟩ := o.b0 a ha
  refine ⟨by omega, fun w d hd h => Sem.say ?_ (by omega)⟩
  refine ⟨a.2.2.1, a.2.2.2, ha, 0, Int.le_refl _, by omega, fun t ht => ?_⟩
  have := (h t ht).2
  rw [if_neg (by have := b1 t ht; omega)] at this
  exact this
theorem step_sound (o : OkG P S X g B ends) (hK : SoundK P g B ends K) {p x c : Int} {T : List Int} (hp : 0 ≤ p ∧ p < P) (h : Step g K p x (fun t => t ∈ T) c) : SoundA P g B ends (p, x, T, c) := by
  have pos : ∀ {w : List Int} {s c : Int} {E : Int → Prop}, Rd K E w s c → 0 ≤ c := fun h => h.nonneg fun a ha => (hK a ha).1
  have one : ∀ {r : Rule} {c' : Int} {w : List Int} {d : Int}, r ∈ g.at p x → Rd K (fun t => t ∈ T) r.2.2.2 r.2.2.1 c' → 0 ≤ d → (∀ t ∈ T, Sem P g B ends t w d) → ∃ n : Nat, (n : Int) ≤ c' + d ∧ Brings g B ends n r.2.2.1 (r.2.2.2 ++ w) := by
    intro r c' w d hr R hd ht
    have := (Rd.sem hK hd ht R).2
    rw [if_pos (o.ru r (mem_at.mp hr).1).2.2.1.2] at this
    exact this
  rcases h with ⟨h0, r, hr, c', hc, R⟩ | ⟨h0, hne, c', hc0, hc, R⟩
  · have := pos R
    refine ⟨by show 0 ≤ c; omega, fun w d hd ht => ?_⟩
    obtain ⟨n, n1, n2⟩ := one hr R hd ht
    refine ⟨by show 0 ≤ c + d; omega, ?_⟩
    rw [if_pos (show p < P from hp.2)]
    exact ⟨n + 1, by show ((n + 1 : Nat) : Int) ≤ c + d; omega, .inr ⟨x, w, rfl, .inl ⟨h0, r, hr, n2⟩⟩⟩
  · refine ⟨by show 0 ≤ c; omega, fun w d hd ht => ?_⟩
    refine ⟨by show 0 ≤ c + d; omega, ?_⟩
    rw [if_pos (show p < P from hp.2)]
    refine ⟨(c' + d).toNat + 1, by show (((c' + d).toNat + 1 : Nat) : Int) ≤ c + d; omega, .inr ⟨x, w, rfl, .inr ⟨h0, hne, fun r hr => ?_⟩⟩⟩
    obtain ⟨n, n1, n2⟩ := one hr (R r hr) hd ht
    exact n2.le (by omega)

/-! ### the loop's turns -/
/-- heads of what follows -/
def heads (P X : Nat) : List (Int × Int) := (List.range P).flatMap fun (p : Nat) => (List.range X).map fun (x : Nat) => ((p : Int), (x : Int))
theorem mem_heads {p x : Int} : (p, x) ∈ heads P X ↔ (0 ≤ p ∧ p < P) ∧ (0 ≤ x ∧ x < X) := by
  unfold heads
  rw [List.mem_flatMap]
  constructor
  · rintro ⟨a, ha, h⟩
    obtain ⟨b, hb, e⟩ := List.mem_map.mp h
    rw [List.mem_range] at ha hb
    simp only [Prod.mk.injEq] at e
    omega
  · rintro ⟨h1, h2⟩
    refine ⟨p.toNat, List.mem_range.mpr (by omega), List.mem_map.mpr ⟨x.toNat, List.mem_range.mpr (by omega), ?_⟩⟩
    rw [Int.toNat_of_nonneg h1.1, Int.toNat_of_nonneg h2.1]
theorem heads_len : (heads P X).length = P * X := by
  unfold heads
  have : ∀ l : List Nat, (l.flatMap fun (p : Nat) => (List.range X).map fun (x : Nat) => ((p : Int), (x : Int))).length = l.length * X := by
    intro l
    induction l with
    | nil => simp
    | cons a l ih => rw [List.flatMap_cons, List.length_append, ih, List.length_map, List.length_range, List.length_cons, Nat.add_mul, Nat.one_mul, Nat.add_comm]
  rw [this, List.length_range]
/-- the loop's invariant -/
structure KI (P S X : Nat) (g : Gm) (B : List Arr) (ends : List Int) (K : List Arr) : Prop where
  ok : ∀ a ∈ K, OkA S X a
  snd : SoundK P g B ends K
  bg : ∀ a ∈ B, ∃ y ∈ K, y.1 = a.1 ∧ y.2.1 = a.2.1 ∧ under y.2.2 a.2.2
  srt : K.Pairwise fun a b => dlt (dArr a) (dArr b) = true
  anti : ∀ y ∈ K, ∀ z ∈ K, y.1 = z.1 → y.2.1 = z.2.1 → under y.2.2 z.2.2 → y = z
theorem KI.first (o : OkG P S X g B ends) {K : List Arr} (h : KeptS B K) : KI P S X g B ends K :=
  ⟨fun a ha => o.bo a (h.sub a ha), fun a ha => begun_sound o a (h.sub a ha), h.cov, h.srt, h.anti⟩
theorem KI.next (o : OkG P S X g B ends) {K F K' : List Arr} (I : KI P S X g B ends K) (hF : FolP g K (heads P X) F) (fo : ∀ a ∈ F, OkT S a.2.2.1 ∧ 0 ≤ a.2.2.2) (h : KeptS (B ++ K ++ F) K') : KI P S X g B ends K' := by
  refine ⟨fun a ha => ?_, fun a ha => ?_, fun a ha => h.cov a (List.mem_append_left _ (List.mem_append_left _ ha)), h.srt, h.anti⟩
  · rcases List.mem_append.mp (h.sub a ha) with q | q
    · rcases List.mem_append.mp q with q | q
      · exact o.bo a q
      · exact I.ok a q
    · obtain ⟨h1, _⟩ := hF.snd a q
      have h2 := mem_heads.mp h1
      have := o.ps
      exact ⟨by omega, h2.2, (fo a q).1, (fo a q).2⟩
  · rcases List.mem_append.mp (h.sub a ha) with q | q
    · rcases List.mem_append.mp q with q | q
      · exact begun_sound o a q
      · exact I.snd a q
    · obtain ⟨h1, h2⟩ := hF.snd a q
      exact step_sound o I.snd (mem_heads.mp h1).1 h2
theorem KI.fall (o : OkG P S X g B ends) {K F K' : List Arr} (I : KI P S X g B ends K) (I' : KI P S X g B ends K') (h : KeptS (B ++ K ++ F) K') (ne : K' ≠ K) : Fall S X K' K :=
  falls (by have := o.s5; omega) I.ok I'.ok (fun a ha => h.cov a (List.mem_append_left _ (List.mem_append_right _ ha))) I.srt I'.srt I.anti I'.anti ne
/-- what the machine is -/
structure Mach (P S X : Nat) (g : Gm) (B : List Arr) (ends : List Int) (K : List Arr) : Prop extends KI P S X g B ends K where
  clo : ∀ h ∈ heads P X, ∀ (Pd : Int → Prop) (c : Int), Step g K h.1 h.2 Pd c → ∃ a ∈ K, a.1 = h.1 ∧ a.2.1 = h.2 ∧ ∀ u ∈ a.2.2.1, Pd u
theorem KI.mach {K F : List Arr} (I : KI P S X g B ends K) (hF : FolP g K (heads P X) F) (h : KeptS (B ++ K ++ F) K) : Mach P S X g B ends K := by
  refine ⟨I, fun hd hh Pd c hs => ?_⟩
  obtain ⟨a, ha, e1, e2, hu⟩ := hF.cpl hd hh Pd c hs
  obtain ⟨y, hy, e3, e4, hu'⟩ := h.cov a (List.mem_append_right _ ha)
  exact ⟨y, hy, e3.trans e1, e4.trans e2, fun u q => hu u (hu'.2 u q)⟩

/-! ### how many -/
theorem afrom_len {K : List Arr} (ok : ∀ a ∈ K, OkA S X a) (hS : S ≤ 5) (srt : K.Pairwise fun a b => dlt (dArr a) (dArr b) = true) (anti : ∀ y ∈ K, ∀ z ∈ K, y.1 = z.1 → y.2.1 = z.2.1 → under y.2.2 z.2.2 → y = z) (s x : Int) : (afrom K s x).length ≤ 32 := by
  have nd : (afrom K s x).Pairwise fun a b => a ≠ b := by
    unfold afrom
    refine List.pairwise_map.mpr (List.Pairwise.imp_of_mem (R := fun a b => dlt (dArr a) (dArr b) = true) (fun {a b} ha hb h e => ?_) (List.Pairwise.filter _ srt))
    rw [List.mem_filter, Bool.and_eq_true, decide_eq_true_eq, decide_eq_true_eq] at ha hb
    have : a = b := Prod.ext (ha.2.1.trans hb.2.1.symm) (Prod.ext (ha.2.2.trans hb.2.2.symm) e)
    rw [this, dlt_irr] at h
    cases h
  have nd2 : ((afrom K s x).map Prod.fst).Nodup := by
    refine List.pairwise_map.mpr (List.Pairwise.imp_of_mem (R := fun a b => a ≠ b) (fun {a b} ha hb hne e => ?_) nd)
    have ha' := mem_afrom.mp ha
    have hb' := mem_afrom.mp hb
    rcases Int.le_total a.2 b.2 with q | q
    · have := anti _ ha' _ hb' rfl rfl ⟨q, fun t ht => by rw [← e]; exact ht⟩
      exact hne (congrArg (fun z : Arr => z.2.2) this)
    · have := anti _ hb' _ ha' rfl rfl ⟨q, fun t ht => by rw [e]; exact ht⟩
      exact hne (congrArg (fun z : Arr => z.2.2) this).symm
  have := nodup_len _ (pwr five) nd2 fun T hT => by
    obtain ⟨y, hy, e⟩ := List.mem_map.mp hT
    rw [← e]
    exact (ok _ (mem_afrom.mp hy)).tg.in_pwr (by omega)
  rw [List.length_map, pwr_five] at this
  exact this
theorem afrom_ok {K : List Arr} (ok : ∀ a ∈ K, OkA S X a) (s x : Int) : OkP S (afrom K s x) := fun p hp => ⟨(ok _ (mem_afrom.mp hp)).tg, (ok _ (mem_afrom.mp hp)).co⟩
theorem K_len {K : List Arr} (ok : ∀ a ∈ K, OkA S X a) (hS : S ≤ 5) (hX : X ≤ 3) (srt : K.Pairwise fun a b => dlt (dArr a) (dArr b) = true) (anti : ∀ y ∈ K, ∀ z ∈ K, y.1 = z.1 → y.2.1 = z.2.1 → under y.2.2 z.2.2 → y = z) : K.length ≤ 480 := by
  have nd : (K.map fun a => (a.1, a.2.1, a.2.2.1)).Nodup := by
    refine List.pairwise_map.mpr (List.Pairwise.imp_of_mem (R := fun a b => dlt (dArr a) (dArr b) = true) (fun {a b} ha hb h e => ?_) srt)
    simp only [Prod.mk.injEq] at e
    obtain ⟨e1, e2, e3⟩ := e
    have : a = b := by
      rcases Int.le_total a.2.2.2 b.2.2.2 with q | q
      · exact anti a ha b hb e1 e2 ⟨q, fun t ht => by rw [← e3]; exact ht⟩
      · exact (anti b hb a ha e1.symm e2.symm ⟨q, fun t ht => by rw [e3]; exact ht⟩).symm
    rw [this, dlt_irr] at h
    cases h
  have h1 := nodup_len _ ((heads S X).flatMap fun h => (pwr five).map fun T => (h.1, h.2, T)) nd fun z hz => by
    obtain ⟨a, ha, e⟩ := List.mem_map.mp hz
    rw [← e]
    have o := ok a ha
    exact List.mem_flatMap.mpr ⟨(a.1, a.2.1), mem_heads.mpr ⟨o.st, o.lt⟩, List.mem_map.mpr ⟨_, o.tg.in_pwr (by omega), rfl⟩⟩
  have h2 : ∀ l : List (Int × Int), (l.flatMap fun h => (pwr five).map fun T => (h.1, h.2, T)).length = l.length * 32 := by
    intro l
    induction l with
    | nil => simp
    | cons a l ih => rw [List.flatMap_cons, List.length_append, ih, List.length_map, pwr_five, List.length_cons, Nat.add_mul, Nat.one_mul, Nat.add_comm]
  rw [List.length_map, h2, heads_len] at h1
  have : S * X ≤ 5 * 3 := Nat.mul_le_mul hS hX
  omega

/-! ### completeness -/
theorem Mach.reads (o : OkG P S X g B ends) (M : Mach P S X g B ends K) : ∀ {n : Nat} {p : Int} {w : List Int}, (0 ≤ p ∧ p < (P : Int)) → (∀ z ∈ w, 0 ≤ z ∧ z < (X : Int)) → Brings g B ends n p w → ∃ c, Rd K (fun t => t ∈ ends) w p c
  | 0, p, w, _, _, h => ⟨0, Rd.under M.bg h⟩
  | n + 1, p, w, hp, hw, h => by
    rcases h with h | ⟨x, r, e, h⟩
    · exact ⟨0, Rd.under M.bg h⟩
    · subst e
      have hx := hw x List.mem_cons_self
      have hr : ∀ z ∈ r, 0 ≤ z ∧ z < (X : Int) := fun z hz => hw z (List.mem_cons_of_mem _ hz)
      have one : ∀ u ∈ g.at p x, Brings g B ends n u.2.2.1 (u.2.2.2 ++ r) → ∃ c, Rd K (fun t => ∃ d, Rd K (fun t => t ∈ ends) r t d) u.2.2.2 u.2.2.1 c := by
        intro u hu hb
        have q := o.ru u (mem_at.mp hu).1
        obtain ⟨c, hc⟩ := Mach.reads o M (p := u.2.2.1) (w := u.2.2.2 ++ r) q.2.2.1 (fun z hz => by
          rcases List.mem_append.mp hz with hz | hz
          · exact q.2.2.2.1 z hz
          · exact hr z hz) hb
        exact hc.split
      have st : ∃ c, Step g K p x (fun t => ∃ d, Rd K (fun t => t ∈ ends) r t d) c := by
        rcases h with ⟨h0, u, hu, hb⟩ | ⟨h0, hne, hb⟩
        · obtain ⟨c, hc⟩ := one u hu hb
          exact ⟨1 + c, .inl ⟨h0, u, hu, c, Int.le_refl _, hc⟩⟩
        · have : ∀ l : List Rule, (∀ u ∈ l, u ∈ g.at p x) → ∃ d, 0 ≤ d ∧ ∀ u ∈ l, Rd K (fun t => ∃ d, Rd K (fun t => t ∈ ends) r t d) u.2.2.2 u.2.2.1 d := by
            intro l
            induction l with
            | nil => intro _; exact ⟨0, Int.le_refl _, fun _ h => by cases h⟩
            | cons u l ih =>
              intro hl
              obtain ⟨d, d0, hd⟩ := ih fun v hv => hl v (List.mem_cons_of_mem _ hv)
              obtain ⟨c, hc⟩ := one u (hl u List.mem_cons_self) (hb u (hl u List.mem_cons_self))
              refine ⟨mx d c, Int.le_trans d0 (mx_l _ _), fun v hv => ?_⟩
              rcases List.mem_cons.mp hv with e | e
              · rw [e]; exact hc.le (mx_r _ _)
              · exact (hd v e).le (mx_l _ _)
          obtain ⟨d, d0, hd⟩ := this _ fun _ h => h
          exact ⟨1 + d, .inr ⟨h0, hne, d, d0, Int.le_refl _, hd⟩⟩
      obtain ⟨c, hc⟩ := st
      obtain ⟨⟨s', x', T, k⟩, ha, e1, e2, hu⟩ := M.clo (p, x) (mem_heads.mpr ⟨hp, hx⟩) _ c hc
      simp only at e1 e2
      subst e1
      subst e2
      obtain ⟨d, d0, hd⟩ := common (P := fun t c => Rd K (fun t => t ∈ ends) r t c) (fun t c c' h k => h.le k) T hu
      exact ⟨k + d, T, k, ha, d, d0, Int.le_refl _, hd⟩

/-! ### the law's three questions -/
/-- the least costs of the stands that read w -/
def IsCosts (K : List Arr) (E : Int → Prop) (w : List Int) (f : Int → Option Int) : Prop := ∀ s, (∀ c, f s = some c → Rd K E w s c ∧ ∀ c', Rd K E w s c' → c ≤ c') ∧ (f s = none → ∀ c, ¬ Rd K E w s c)
theorem ask_say (o : OkG P S X g B ends) (M : Mach P S X g B ends K) {w : List Int} {f : Int → Option Int} {p : Int} (hf : IsCosts K (fun t => t ∈ ends) w f) (h : Brings g B ends 0 p w) : f p = some 0 := by
  have r : Rd K (fun t => t ∈ ends) w p 0 := Rd.under M.bg h
  cases q : f p with
  | none => exact absurd r ((hf p).2 q 0)
  | some c =>
    obtain ⟨h1, h2⟩ := (hf p).1 c q
    have a := h2 0 r
    have b := h1.nonneg fun a ha => (M.ok a ha).co
    rw [show c = 0 by omega]
theorem ask_four (o : OkG P S X g B ends) (M : Mach P S X g B ends K) {w : List Int} {f : Int → Option Int} {p : Int} {n : Nat} (hf : IsCosts K (fun t => t ∈ ends) w f) (hp : 0 ≤ p ∧ p < (P : Int)) (hw : ∀ z ∈ w, 0 ≤ z ∧ z < (X : Int)) (h : Brings g B ends n p w) : ∃ c, f p = some c ∧ 0 ≤ c := by
  obtain ⟨c, r⟩ := M.reads o hp hw h
  cases q : f p with
  | none => exact absurd r ((hf p).2 q c)
  | some c => exact ⟨c, rfl, ((hf p).1 c q).1.nonneg fun a ha => (M.ok a ha).co⟩
theorem ask_cost (o : OkG P S X g B ends) (M : Mach P S X g B ends K) {w : List Int} {f : Int → Option Int} {p c : Int} (hf : IsCosts K (fun t => t ∈ ends) w f) (hp : 0 ≤ p ∧ p < (P : Int)) (h : f p = some c) : 0 ≤ c ∧ Brings g B ends c.toNat p w := by
  obtain ⟨h1, _⟩ := (hf p).1 c h
  have c0 := h1.nonneg fun a ha => (M.ok a ha).co
  have := (Rd.sem (E := fun t => t ∈ ends) (r := []) (d := 0) M.snd (Int.le_refl _) (fun t ht => Sem.say (P := P) (g := g) (B := B) (ends := ends) (w := []) ⟨ht, Int.le_refl _⟩ (Int.le_refl _)) h1).2
  rw [if_pos hp.2, List.append_nil] at this
  obtain ⟨n, h2, h3⟩ := this
  exact ⟨c0, h3.le (by omega)⟩
end
end K27
end

section
set_option Elab.async false
set_option linter.all false
set_option maxRecDepth 100000
set_option maxHeartbeats 4000000
/-! K27e: data in the heap: ==, <, what a sort asks. -/
namespace K27
open PySem PyProof.Rows

mutual
inductive HD (h : Heap) : D → Value → Prop
  | i (n : Int) (t : Tok) : HD h (.i n) (.int n t)
  | t {a : Addr} {o : Obj} {vs : Array Value} {n : Nat} {ds : List D} : h.get? a = some o → o.cls = .type "tuple" → o.data = .seq vs n → HDs h ds vs.toList → HD h (.t ds) (.ref a)
inductive HDs (h : Heap) : List D → List Value → Prop
  | nil : HDs h [] []
  | cons {d : D} {v : Value} {ds : List D} {vs : List Value} : HD h d v → HDs h ds vs → HDs h (d :: ds) (v :: vs)
end
mutual
def toKey : D → NestedKey
  | .i n => .num n
  | .t ds => .tup (toKeys ds)
def toKeys : List D → List NestedKey
  | [] => []
  | d :: ds => toKey d :: toKeys ds
end
mutual
theorem HD.key {h : Heap} : ∀ (d : D) (v : Value), HD h d v → NestedIs h (toKey d) v
  | .i n, _, x => by cases x; exact .int n _
  | .t ds, _, x => by
    cases x with
    | t h1 h2 h3 h4 => exact .tup h1 h2 h3 (HDs.keys ds _ h4)
theorem HDs.keys {h : Heap} : ∀ (ds : List D) (vs : List Value), HDs h ds vs → NestedAll h (toKeys ds) vs
  | [], _, x => by cases x; exact .nil
  | d :: ds, _, x => by
    cases x with
    | cons x1 x2 => exact .cons (HD.key d _ x1) (HDs.keys ds _ x2)
end
mutual
theorem beq_key : ∀ d e : D, NestedKey.beq (toKey d) (toKey e) = deq d e
  | .i a, .i b => by rw [deq, toKey, toKey, NestedKey.beq]
  | .i _, .t _ => by rw [deq, toKey, toKey, NestedKey.beq]
  | .t _, .i _ => by rw [deq, toKey, toKey, NestedKey.beq]
  | .t xs, .t ys => by rw [deq, toKey, toKey, NestedKey.beq]; exact beq_keys xs ys
theorem beq_keys : ∀ xs ys : List D, NestedKey.beqAll (toKeys xs) (toKeys ys) = deqL xs ys
  | [], [] => by rw [deqL, toKeys, NestedKey.beqAll]
  | [], _ :: _ => by rw [deqL, toKeys, toKeys, NestedKey.beqAll]
  | _ :: _, [] => by rw [deqL, toKeys, toKeys, NestedKey.beqAll]
  | x :: xs, y :: ys => by rw [deqL, toKeys, toKeys, NestedKey.beqAll, beq_key x y, beq_keys xs ys]
end
mutual
theorem dep_key_ : ∀ d : D, (toKey d).depth = dep d
  | .i _ => by rw [dep, toKey, NestedKey.depth]
  | .t xs => by rw [dep, toKey, NestedKey.depth, dep_keys xs]
theorem dep_keys : ∀ xs : List D, NestedKey.depthAll (toKeys xs) = depL xs
  | [] => by rw [depL, toKeys, NestedKey.depthAll]
  | x :: xs => by rw [depL, toKeys, NestedKey.depthAll, dep_key_ x, dep_keys xs]
end
theorem toKey_inj {d e : D} (h : toKey d = toKey e) : d = e := eq_of_deq d e (by rw [← beq_key, h]; exact NestedKey.beq_self _)
mutual
theorem HD.at {h h' : Heap} (hk : ∀ a o vs n, h.get? a = some o → o.cls = .type "tuple" → o.data = .seq vs n → h'.get? a = some o) : ∀ (d : D) (v : Value), HD h d v → HD h' d v
  | .i n, _, x => by cases x; exact .i n _
  | .t ds, _, x => by
    cases x with
    | t h1 h2 h3 h4 => exact .t (hk _ _ _ _ h1 h2 h3) h2 h3 (HDs.at hk ds _ h4)
theorem HDs.at {h h' : Heap} (hk : ∀ a o vs n, h.get? a = some o → o.cls = .type "tuple" → o.data = .seq vs n → h'.get? a = some o) : ∀ (ds : List D) (vs : List Value), HDs h ds vs → HDs h' ds vs
  | [], _, x => by cases x; exact .nil
  | d :: ds, _, x => by
    cases x with
    | cons x1 x2 => exact .cons (HD.at hk d _ x1) (HDs.at hk ds _ x2)
end
mutual
theorem HD.inj {h : Heap} : ∀ (x y : D) (v : Value), HD h x v → HD h y v → x = y
  | .i n, _, _, hx, hy => by cases hx; cases hy; rfl
  | .t ks, _, _, hx, hy => by
    cases hx with
    | t h1 h2 h3 h4 =>
      cases hy with
      | t k1 k2 k3 k4 =>
        rw [h1] at k1; cases k1
        rw [h3] at k3; cases k3
        rw [HDs.inj ks _ _ h4 k4]
theorem HDs.inj {h : Heap} : ∀ (xs ys : List D) (vs : List Value), HDs h xs vs → HDs h ys vs → xs = ys
  | [], _, _, hx, hy => by cases hx; cases hy; rfl
  | x :: xs, _, _, hx, hy => by
    cases hx with
    | cons h1 h2 =>
      cases hy with
      | cons k1 k2 => rw [HD.inj x _ _ h1 k1, HDs.inj xs _ _ h2 k2]
end
theorem HDs.len {h : Heap} : ∀ {ds : List D} {vs : List Value}, HDs h ds vs → ds.length = vs.length
  | [], _, x => by cases x; rfl
  | d :: ds, _, x => by
    cases x with
    | cons x1 x2 => rw [List.length_cons, List.length_cons, HDs.len x2]
theorem HDs.get {h : Heap} : ∀ {ds : List D} {vs : List Value} (_ : HDs h ds vs) (j : Nat) (hj : j < vs.length), HD h (ds.getD j (.i 0)) vs[j]
  | [], _, x, j, hj => by cases x; exact absurd hj (by simp)
  | d :: ds, _, x, j, hj => by
    cases x with
    | cons x1 x2 =>
      cases j with
      | zero => exact x1
      | succ j => simpa using HDs.get x2 j (by simpa using hj)

/-! ### == and < -/
theorem eqAt_D {A : Around} {s : Shared} {d e : D} {a b : Value} (h1 : HD s.heap d a) (h2 : HD s.heap e b) (hu : A.units + min (dep d) (dep e) < cLine) : SeqAt.EqAt A s a b (deq d e) := by
  rw [← beq_key]
  exact eqAt_key _ _ A s a b (HD.key _ _ h1) (HD.key _ _ h2) (by rw [dep_key_, dep_key_]; exact hu)
theorem lexAt_L (ds es : List D) : ∀ (k : Nat) (xs ys : List D) (i : Nat), xs = ds.drop i → ys = es.drop i → k = min xs.length ys.length →
    Ob.lexAt (fun j => deq (ds.getD j (.i 0)) (es.getD j (.i 0))) (fun j => dlt (ds.getD j (.i 0)) (es.getD j (.i 0))) (decide (xs.length < ys.length)) i k = dltL xs ys
  | 0, [], [], i, _, _, _ => by rw [Ob.lexAt_zero, dltL]; rfl
  | 0, [], _ :: _, i, _, _, _ => by rw [Ob.lexAt_zero, dltL]; simp
  | 0, _ :: _, [], i, _, _, _ => by rw [Ob.lexAt_zero, dltL]; simp
  | 0, _ :: _, _ :: _, i, _, _, h => by simp only [List.length_cons] at h; omega
  | k + 1, [], _, i, _, _, h => by simp at h
  | k + 1, _ :: _, [], i, _, _, h => by simp at h
  | k + 1, x :: xs, y :: ys, i, hx, hy, h => by
    have gx : ds.getD i (.i 0) = x := by
      have := congrArg (fun l : List D => l[0]?) hx
      simp only [List.getElem?_cons_zero, List.getElem?_drop, Nat.add_zero] at this
      rw [List.getD_eq_getElem?_getD, ← this]; rfl
    have gy : es.getD i (.i 0) = y := by
      have := congrArg (fun l : List D => l[0]?) hy
      simp only [List.getElem?_cons_zero, List.getElem?_drop, Nat.add_zero] at this
      rw [List.getD_eq_getElem?_getD, ← this]; rfl
    have dx : xs = ds.drop (i + 1) := by
      have := congrArg List.tail hx
      rw [List.tail_cons, List.tail_drop] at this
      exact this
    have dy : ys = es.drop (i + 1) := by
      have := congrArg List.tail hy
      rw [List.tail_cons, List.tail_drop] at this
      exact this
    rw [Ob.lexAt_succ, gx, gy, dltL]
    have ih := lexAt_L ds es k xs ys (i + 1) dx dy (by simp only [List.length_cons] at h; omega)
    rw [show decide ((x :: xs).length < (y :: ys).length) = decide (xs.length < ys.length) by simp]
    rw [ih]
theorem depL_get : ∀ (ds : List D) (j : Nat), j < ds.length → dep (ds.getD j (.i 0)) ≤ depL ds
  | [], j, h => absurd h (by simp)
  | d :: ds, 0, _ => by rw [depL]; exact Nat.le_max_left _ _
  | d :: ds, j + 1, h => by
    rw [depL]
    have := depL_get ds j (by simpa using h)
    have e : (d :: ds).getD (j + 1) (.i 0) = ds.getD j (.i 0) := by simp
    rw [e]
    omega
theorem cptL_get : ∀ (ds es : List D) (j : Nat), j < ds.length → j < es.length → cptL ds es → cpt (ds.getD j (.i 0)) (es.getD j (.i 0))
  | [], _, j, h, _, _ => absurd h (by simp)
  | _ :: _, [], j, _, h, _ => absurd h (by simp)
  | d :: ds, e :: es, 0, _, _, h => by rw [cptL] at h; exact h.1
  | d :: ds, e :: es, j + 1, h1, h2, h => by
    rw [cptL] at h
    have := cptL_get ds es j (by simpa using h1) (by simpa using h2) h.2
    simpa using this
theorem rc_lt_n : ∀ (n : Nat) (d e : D) (A : Around) (s : Shared) (a b : Value), dep d ≤ n → HD s.heap d a → HD s.heap e b → cpt d e → A.units + n < cLine → Ob.RcOp .Lt A s a b (dlt d e)
  | n, .i x, .i y, A, s, a, b, _, h1, h2, _, _ => by
    cases h1
    cases h2
    rw [dlt]
    exact Ob.RcOp.lt_int _ _ _ _
  | _, .i _, .t _, _, _, _, _, _, _, _, h, _ => by rw [cpt] at h; exact h.elim
  | _, .t _, .i _, _, _, _, _, _, _, _, h, _ => by rw [cpt] at h; exact h.elim
  | 0, .t ds, .t es, A, s, a, b, hd, _, _, _, _ => by rw [dep] at hd; omega
  | n + 1, .t ds, .t es, A, s, a, b, hd, h1, h2, hc, hu => by
    rw [dep] at hd
    cases h1 with
    | t g1 g2 g3 g4 =>
    cases h2 with
    | t k1 k2 k3 k4 =>
    rename_i l o vs m l2 o2 vs2 m2
    have l1 : ds.length = vs.size := g4.len.trans Array.length_toList
    have l2 : es.length = vs2.size := k4.len.trans Array.length_toList
    rw [cpt] at hc
    have r := Ob.RcOp.tuples_lt (A := A) (s := s) (l := l) (items := vs) (items2 := vs2) (e := fun j => deq (ds.getD j (.i 0)) (es.getD j (.i 0))) (r := fun j => dlt (ds.getD j (.i 0)) (es.getD j (.i 0))) ⟨o, g1, g2, m, g3⟩ ⟨o2, k1, k2, m2, k3⟩ (by omega)
      (fun j h1 h2 => by
        have x := g4.get j (by rw [Array.length_toList]; exact h1)
        have y := k4.get j (by rw [Array.length_toList]; exact h2)
        rw [Array.getElem_toList] at x y
        have := depL_get ds j (by omega)
        refine eqAt_D (s := s) x y ?_
        show A.units + 1 + _ < cLine
        omega)
      (fun j h1 h2 _ => by
        have x := g4.get j (by rw [Array.length_toList]; exact h1)
        have y := k4.get j (by rw [Array.length_toList]; exact h2)
        rw [Array.getElem_toList] at x y
        have := depL_get ds j (by omega)
        exact rc_lt_n n _ _ A.in1 s _ _ (by omega) x y (cptL_get ds es j (by omega) (by omega) hc) (by show A.units + 1 + n < cLine; omega))
    have e := lexAt_L ds es (min vs.size vs2.size) ds es 0 rfl rfl (by omega)
    rw [dlt]
    rw [← e]
    rw [show decide (ds.length < es.length) = decide (vs.size < vs2.size) by rw [l1, l2]]
    exact r
theorem rc_lt {d e : D} {A : Around} {s : Shared} {a b : Value} (h1 : HD s.heap d a) (h2 : HD s.heap e b) (hc : cpt d e) (hu : A.units + dep d < cLine) : Ob.RcOp .Lt A s a b (dlt d e) := rc_lt_n _ d e A s a b (Nat.le_refl _) h1 h2 hc hu

/-! ### what a sort asks -/
section
variable {prog : Program} {w : World} {A : Around} {E : Value → Shared → Prop} {s : Shared}
/-- the first item's kind -/
def Fst (b : Bool) : D → Prop
  | .t (.i _ :: _) => b = true
  | .t (.t _ :: _) => b = false
  | _ => False
theorem lex_D {b : Bool} {Q : Bool → Shared → Prop} : ∀ (ds es : List D) (vs ws : List Value) (i : Nat), HDs s.heap ds vs → HDs s.heap es ws → cptL ds es → A.units + max (depL ds) (depL es) < cLine →
    ((b && i == 0) = true → ∀ x y xs ys, ds = x :: xs → es = y :: ys → ∃ n m, x = .i n ∧ y = .i m) → Q (dltL ds es) s → PySem.W.KatLex prog w A b (decide (ds.length < es.length)) Q (vs.zip ws) i s
  | [], es, _, ws, i, h1, h2, _, _, _, hq => by
    cases h1
    rw [List.zip_nil_left]
    refine PySem.W.kat_nil ?_
    cases es with
    | nil => rw [dltL] at hq; exact hq
    | cons e es => rw [dltL] at hq; simpa using hq
  | d :: ds, [], vs, _, i, _, h2, _, _, _, hq => by
    cases h2
    rw [List.zip_nil_right]
    refine PySem.W.kat_nil ?_
    rw [dltL] at hq
    simpa using hq
  | d :: ds, e :: es, _, _, i, h1, h2, hc, hu, hb, hq => by
    cases h1 with
    | cons x1 x2 =>
    cases h2 with
    | cons y1 y2 =>
    rename_i v vs w' ws
    rw [List.zip_cons_cons]
    rw [cptL] at hc
    rw [depL, depL] at hu
    refine PySem.W.kat_cons (eqAt_D x1 y1 (by omega) prog w _ _ ?_)
    refine PySem.W.kat_go (fun c => PySem.W.kat_yes ?_) (fun c => PySem.W.kat_no ?_)
    · rw [dltL, if_pos c] at hq
      have := lex_D (b := b) ds es vs ws (i + 1) x2 y2 hc.2 (by omega) (fun z => by simp at z) hq
      rw [show decide ((d :: ds).length < (e :: es).length) = decide (ds.length < es.length) by simp]
      exact this
    · rw [dltL, if_neg (by rw [c]; exact Bool.false_ne_true)] at hq
      cases hf : (b && i == 0) with
      | true =>
        obtain ⟨n, m, e1, e2⟩ := hb hf d e ds es rfl rfl
        subst e1
        subst e2
        cases x1
        cases y1
        rw [dlt] at hq
        exact TS.oneLt_ints _ hq
      | false =>
        refine PySem.W.kat_one _ _ ?_
        exact rc_lt x1 y1 hc.1 (by omega) prog w _ _ (show PySem.W.BoolBack Q (.bool (dlt d e)) s from hq)
theorem keyLt_D {b : Bool} {Q : Bool → Shared → Prop} {d e : D} {v u : Value} (h1 : HD s.heap d v) (h2 : HD s.heap e u) (f1 : Fst b d) (f2 : Fst b e) (hc : cpt d e) (hu : A.units + max (dep d) (dep e) < cLine) (hq : Q (dlt d e) s) :
    wpAny (model prog w) A (keyLt' (tuples' b) v u) Q E s := by
  cases h1 with
  | i => exact f1.elim
  | t g1 g2 g3 g4 =>
  cases h2 with
  | i => exact f2.elim
  | t k1 k2 k3 k4 =>
  rename_i l o vs m ds l2 o2 vs2 m2 es
  have l1 : ds.length = vs.size := g4.len.trans Array.length_toList
  have l2 : es.length = vs2.size := k4.len.trans Array.length_toList
  rw [cpt] at hc
  rw [dep, dep] at hu
  rw [dlt] at hq
  refine PySem.W.kat_lt g1 g3 k1 k3 ?_
  rw [show decide (vs.size < vs2.size) = decide (ds.length < es.length) by rw [l1, l2]]
  refine lex_D ds es _ _ 0 g4 k4 hc (by omega) (fun z x y xs ys e1 e2 => ?_) hq
  have hb : b = true := by simpa using z
  subst hb
  subst e1
  subst e2
  cases x with
  | t _ => cases f1
  | i n =>
    cases y with
    | t _ => cases f2
    | i m => exact ⟨n, m, rfl, rfl⟩
theorem kind_tups {b : Bool} : ∀ {vs : List Value} {k : Value → D}, (∀ v ∈ vs, HD s.heap (k v) v ∧ Fst b (k v)) → ∃ fs, PySem.W.KatTups s.heap vs fs ∧ fs.length = vs.length ∧ ∀ f ∈ fs, (b = true ∧ ∃ n t, f = Value.int n t) ∨ (b = false ∧ ∃ (a : Addr) (o : Obj), f = .ref a ∧ s.heap.get? a = some o ∧ o.cls = .type "tuple")
  | [], _, _ => ⟨[], PySem.W.KatTups.nil, rfl, fun f hf => by cases hf⟩
  | v :: vs, k, h => by
    obtain ⟨fs, h1, h2, h3⟩ := kind_tups fun u hu => h u (List.mem_cons_of_mem _ hu)
    obtain ⟨hv, hf⟩ := h v List.mem_cons_self
    generalize k v = d at hv hf
    cases hv with
    | i => exact hf.elim
    | t g1 g2 g3 g4 =>
      rename_i a o xs n ds
      match ds, hf, g4 with
      | [], hf, _ => exact hf.elim
      | x :: ds, hf, g4 =>
        generalize hz : xs.toList = zs at g4
        cases g4 with
        | cons q1 q2 =>
          rename_i f0 rest
          have h0 : xs[0]? = some f0 := by
            rw [← Array.getElem?_toList, hz]; rfl
          refine ⟨f0 :: fs, PySem.W.KatTups.cons g1 g2 g3 h0 h1, by rw [List.length_cons, List.length_cons, h2], fun f hf' => ?_⟩
          rcases List.mem_cons.mp hf' with e | e
          · subst e
            cases q1 with
            | i m t => exact .inl ⟨hf, _, _, rfl⟩
            | t w1 w2 _ _ => exact .inr ⟨hf, _, _, rfl, w1, w2⟩
          · exact h3 f e
theorem kind_D {b : Bool} {vs : List Value} {k : Value → D} {Q : SortKind → Shared → Prop} (h : ∀ v ∈ vs, HD s.heap (k v) v ∧ Fst b (k v)) (h0 : 0 < vs.length) (hq : Q (tuples' b) s) : wpAny (model prog w) A (keyKind' vs.toArray) Q E s := by
  obtain ⟨fs, h1, h2, h3⟩ := kind_tups h
  cases b with
  | true =>
    refine PySem.W.kat_kind (T := .type "int") h1 (by omega) (fun f hf => ?_) (by rfl) ?_
    · rcases h3 f hf with ⟨_, n, t, rfl⟩ | ⟨e, _⟩
      · exact PySem.W.Looks.now
      · cases e
    · have e : (Value.type "int" != Value.type "tuple") = true := by first | decide +kernel | rfl | decide
      rw [e]
      exact hq
  | false =>
    refine PySem.W.kat_kind (T := .type "tuple") h1 (by omega) (fun f hf => ?_) (by rfl) ?_
    · rcases h3 f hf with ⟨e, _⟩ | ⟨_, a, o, rfl, ho, hc⟩
      · cases e
      · rw [← hc]
        exact (PySem.W.Looks.ld ho).andThen .now
    · have e : (Value.type "tuple" != Value.type "tuple") = false := by first | decide +kernel | rfl | decide
      rw [e]
      exact hq
theorem swo_D {β : Type} (k : β → D) : SrtO.Swo fun v u => dlt (k v) (k u) := ⟨fun x y h => dlt_asym _ _ h, fun x y z h1 h2 => dlt_tr _ _ _ h1 h2⟩
theorem cmp_D {b : Bool} {vs : List Value} {k : Value → D} (h : ∀ v ∈ vs, HD s.heap (k v) v ∧ Fst b (k v)) (hc : ∀ v ∈ vs, ∀ u ∈ vs, cpt (k v) (k u)) (hu : ∀ v ∈ vs, A.units + dep (k v) < cLine) :
    SrtO.Cmp prog w A s (tuples' b) (fun p => p.1 ∈ vs) (SrtO.lt2 fun v u => dlt (k v) (k u)) := by
  intro p q hp hq
  obtain ⟨a1, a2⟩ := h _ hp
  obtain ⟨b1, b2⟩ := h _ hq
  have u1 := hu _ hp
  have u2 := hu _ hq
  exact keyLt_D (Q := fun r s' => s' = s ∧ r = dlt (k p.1) (k q.1)) a1 b1 a2 b2 (hc _ hp _ hq) (by omega) ⟨rfl, rfl⟩
end
end K27
end

section
set_option Elab.async false
set_option linter.all false
set_option maxRecDepth 100000
set_option maxHeartbeats 4000000
/-! K27f: data over the layer's heap; sorted, ==. -/
namespace K27
open PySem PySem.Spec PyProof.Rows L2

mutual
inductive RD (H : Hp) : D → V → Prop
  | i (n : Int) : RD H (.i n) (.int n)
  | t {a : Addr} {xs : List V} {ds : List D} : H a = some (.tup xs) → RDs H ds xs → RD H (.t ds) (.ref a)
inductive RDs (H : Hp) : List D → List V → Prop
  | nil : RDs H [] []
  | cons {d : D} {v : V} {ds : List D} {vs : List V} : RD H d v → RDs H ds vs → RDs H (d :: ds) (v :: vs)
end
mutual
theorem RD.hd {X : Cx} {pins : List (Addr × Obj)} {σ : L2.St} {H : Hp} {s : Shared} (I : Inv X pins σ H s) : ∀ (d : D) (v : V) (u : Value), RD H d v → RelV v u → HD s.heap d u
  | .i n, _, _, h, r => by
    cases h
    obtain ⟨t, rfl⟩ := r
    exact .i n t
  | .t ds, _, _, h, r => by
    cases h with
    | t ha hx =>
      cases r
      obtain ⟨its, rv, ⟨o, ho, hc, n, hd⟩, _⟩ := I.tuple (SqT.of ha)
      exact .t ho hc hd (RDs.hds I ds _ _ hx (by simpa using rv))
theorem RDs.hds {X : Cx} {pins : List (Addr × Obj)} {σ : L2.St} {H : Hp} {s : Shared} (I : Inv X pins σ H s) : ∀ (ds : List D) (vs : List V) (us : List Value), RDs H ds vs → Vals vs us → HDs s.heap ds us
  | [], _, _, h, r => by
    cases h
    cases r
    exact .nil
  | d :: ds, _, _, h, r => by
    cases h with
    | cons h1 h2 =>
      cases r with
      | cons r1 r2 => exact .cons (RD.hd I d _ _ h1 r1) (RDs.hds I ds _ _ h2 r2)
end
/-- tuples stay -/
def TupK (H H' : Hp) : Prop := ∀ a xs, H a = some (.tup xs) → H' a = some (.tup xs)
mutual
theorem RD.mono {H H' : Hp} (k : TupK H H') : ∀ (d : D) (v : V), RD H d v → RD H' d v
  | .i n, _, h => by cases h; exact .i n
  | .t ds, _, h => by
    cases h with
    | t h1 h2 => exact .t (k _ _ h1) (RDs.mono k ds _ h2)
theorem RDs.mono {H H' : Hp} (k : TupK H H') : ∀ (ds : List D) (vs : List V), RDs H ds vs → RDs H' ds vs
  | [], _, h => by cases h; exact .nil
  | d :: ds, _, h => by
    cases h with
    | cons h1 h2 => exact .cons (RD.mono k d _ h1) (RDs.mono k ds _ h2)
end
mutual
theorem RD.inj {H : Hp} : ∀ (x y : D) (v : V), RD H x v → RD H y v → x = y
  | .i n, _, _, hx, hy => by cases hx; cases hy; rfl
  | .t ks, _, _, hx, hy => by
    cases hx with
    | t h1 h2 =>
      cases hy with
      | t k1 k2 =>
        rw [h1] at k1; cases k1
        rw [RDs.inj ks _ _ h2 k2]
theorem RDs.inj {H : Hp} : ∀ (xs ys : List D) (vs : List V), RDs H xs vs → RDs H ys vs → xs = ys
  | [], _, _, hx, hy => by cases hx; cases hy; rfl
  | x :: xs, _, _, hx, hy => by
    cases hx with
    | cons h1 h2 =>
      cases hy with
      | cons k1 k2 => rw [RD.inj x _ _ h1 k1, RDs.inj xs _ _ h2 k2]
end
theorem RDs.len {H : Hp} : ∀ {ds : List D} {vs : List V}, RDs H ds vs → ds.length = vs.length
  | [], _, x => by cases x; rfl
  | d :: ds, _, x => by
    cases x with
    | cons x1 x2 => rw [List.length_cons, List.length_cons, RDs.len x2]
theorem RDs.f2 {H : Hp} : ∀ {ds : List D} {vs : List V}, RDs H ds vs → F2 (RD H) ds vs
  | [], _, x => by cases x; exact .nil
  | d :: ds, _, x => by
    cases x with
    | cons x1 x2 => exact .cons x1 x2.f2
theorem RDs.of_f2 {H : Hp} {ds : List D} {vs : List V} (h : F2 (RD H) ds vs) : RDs H ds vs := by
  induction h with
  | nil => exact .nil
  | cons r _ ih => exact .cons r ih
theorem rd_ints {H : Hp} : ∀ l : List Int, RDs H (l.map D.i) (l.map V.int)
  | [] => .nil
  | n :: l => .cons (.i n) (rd_ints l)
theorem rd_ints_eq {H : Hp} : ∀ {l : List Int} {vs : List V}, RDs H (l.map D.i) vs → vs = l.map V.int
  | [], _, h => by cases h; rfl
  | n :: l, _, h => by
    rw [List.map_cons] at h
    cases h with
    | cons h1 h2 =>
      cases h1
      rw [rd_ints_eq h2]; rfl
/-- the datum of a value -/
noncomputable def kOf (H : Hp) (v : V) : D := open Classical in if h : ∃ d, RD H d v then h.choose else .i 0
theorem kOf_eq {H : Hp} {d : D} {v : V} (h : RD H d v) : kOf H v = d := by
  have e : ∃ d, RD H d v := ⟨d, h⟩
  unfold kOf
  rw [dif_pos e]
  exact RD.inj _ _ _ e.choose_spec h
theorem F2.perm {α β : Type} {R : α → β → Prop} {m' m : List β} (hp : m'.Perm m) : ∀ {l : List α}, F2 R l m → ∃ l', F2 R l' m' ∧ l'.Perm l := by
  induction hp with
  | nil => intro l h; exact ⟨l, h, List.Perm.refl _⟩
  | cons x _ ih =>
    intro l h
    cases h with
    | cons r t =>
      obtain ⟨l', h1, h2⟩ := ih t
      exact ⟨_, .cons r h1, h2.cons _⟩
  | swap x y l0 =>
    intro l h
    cases h with
    | cons r t =>
      cases t with
      | cons r2 t2 => exact ⟨_, .cons r2 (.cons r t2), List.Perm.swap _ _ _⟩
  | trans _ _ ih1 ih2 =>
    intro l h
    obtain ⟨l1, h1, p1⟩ := ih2 h
    obtain ⟨l2, h2, p2⟩ := ih1 h1
    exact ⟨l2, h2, p2.trans p1⟩
theorem F2.pw {α β : Type} {R : α → β → Prop} {S : α → α → Prop} {T : β → β → Prop} (hi : ∀ a a' b b', R a b → R a' b' → T b b' → S a a') {l : List α} {m : List β} (h : F2 R l m) (t : m.Pairwise T) : l.Pairwise S := by
  induction h with
  | nil => exact List.Pairwise.nil
  | cons r h ih =>
    obtain ⟨t1, t2⟩ := List.pairwise_cons.mp t
    refine List.pairwise_cons.mpr ⟨fun a ha => ?_, ih t2⟩
    obtain ⟨b, hb, q⟩ := h.mem_l a ha
    exact hi _ _ _ _ r q (t1 b hb)

/-! ### sorted(xs), xs a list of data, of any length -/
def rSortD (K : PySem.W.Frag) : List V → Hp → VK → Prop := fun vs H Q => ∃ (a : Addr) (xs : List V) (ds : List D) (b : Bool), vs = [V.ref a] ∧ SqL K H a xs ∧ F2 (RD H) ds xs ∧ (∀ d ∈ ds, Fst b d ∧ dep d ≤ 8) ∧ (∀ d ∈ ds, ∀ e ∈ ds, cpt d e) ∧
  ∀ es ys p, es.Perm ds → es.Pairwise (fun d e => dlt e d = false) → F2 (RD H) es ys → H p = none → Q (.ref p) (upd H p (.lst ys))
section
variable {X : Cx}
theorem backV_rel {v : V} {u : Value} (r : RelV v u) (h : ∃ a, v = .ref a) : backV u = v ∧ ∃ a, u = .ref a := by
  obtain ⟨a, rfl⟩ := h
  obtain rfl : u = Value.ref a := r
  exact ⟨rfl, a, rfl⟩
theorem cr_sortD (hu : X.A.units + 64 < cLine) : CallR X (.builtin "sorted") (rSortD X.K) := by
  intro pins s σ H vs us Q I r h
  obtain ⟨a, xs, ds, b, rfl, hs, hx, hf, hc, q⟩ := h
  obtain ⟨its, rv, hl, hz⟩ := I.list hs
  obtain ⟨u, rfl, ru⟩ := vals1 r
  obtain rfl : u = Value.ref a := ru
  have isref : ∀ x ∈ xs, ∃ a, x = V.ref a := fun x hm => by
    obtain ⟨d, hd, hr⟩ := hx.mem_r x hm
    have := (hf d hd).1
    cases hr with
    | i => exact this.elim
    | t _ _ => exact ⟨_, rfl⟩
  obtain ⟨e1, e2⟩ := refs_back rv isref
  -- each item's datum
  have item : ∀ {h' : Heap}, (∀ b o, s.heap.get? b = some o → o.cls = .type "tuple" → h'.get? b = some o) → ∀ v ∈ its, HD h' (kOf H (backV v)) v ∧ Fst b (kOf H (backV v)) ∧ kOf H (backV v) ∈ ds := fun {h'} kp v hv => by
    obtain ⟨t, rfl⟩ := e2 v hv
    have hm : V.ref t ∈ xs := by rw [e1]; exact List.mem_map.mpr ⟨_, hv, rfl⟩
    obtain ⟨d, hd, hr⟩ := hx.mem_r _ hm
    have ek : kOf H (backV (.ref t)) = d := kOf_eq hr
    rw [ek]
    exact ⟨HD.at (fun c o vs n ho hc _ => kp c o ho hc) d _ (RD.hd I d _ _ hr rfl), (hf d hd).1, hd⟩
  refine SrtO.sorted_ord (swo_D fun v => kOf H (backV v)) hl.isList (by rw [← rv.length]; exact hz) (fun h2 h₁ a₁ ha kk h' keep => ?_) fun out h1 h2 => ?_
  · have kp : ∀ b o, s.heap.get? b = some o → o.cls = .type "tuple" → h'.get? b = some o := fun b o e c => keep b o (kk b o e).1 (kk b o e).2
    refine ⟨tuples' b, fun Q E hq => ?_, ?_⟩
    · exact kind_D (s := { s with heap := h' }) (k := fun v => kOf H (backV v)) (b := b) (fun v hv => ⟨(item kp v hv).1, (item kp v hv).2.1⟩) (by omega) hq
    · refine cmp_D (s := { s with heap := h' }) (k := fun v => kOf H (backV v)) (b := b) (fun v hv => ⟨(item kp v hv).1, (item kp v hv).2.1⟩) (fun v hv u hu => hc _ (item kp v hv).2.2 _ (item kp u hu).2.2) fun v hv => ?_
      have := (hf _ (item kp v hv).2.2).2
      show X.A.units + 1 + 1 + _ < cLine
      omega
  · have h3 : ∀ u ∈ out, ∃ a, u = Value.ref a := fun u hu => e2 u (h2.perm.mem_iff.mp hu)
    have pm : (out.map backV).Perm xs := by rw [e1]; exact h2.perm.map backV
    obtain ⟨es, f1, f2⟩ := F2.perm pm hx
    obtain ⟨n, hn⟩ := sortedAll_at s.heap its out.toArray
    have fr : H (s.heap.objs.size + 1) = none := I.hok.fresh (Nat.le_succ _)
    refine ⟨.ref (s.heap.objs.size + 1), upd H (s.heap.objs.size + 1) (.lst (out.map backV)), I.laid (t' := s.toks) (fun b o e => sortedAll_old e) (Nat.le_succ _) ⟨?_, out, n, vals_back h3, hn⟩, rfl, q es _ _ f2 ?_ f1 fr⟩
    · rw [pm.length_eq]
      exact hz
    · refine F2.pw (T := fun x y => dlt (kOf H y) (kOf H x) = false) (fun d d' x x' r r' t => ?_) f1 (List.pairwise_map.mpr h1)
      rw [kOf_eq r, kOf_eq r'] at t
      exact t
end
end K27
end

section
set_option Elab.async false
set_option linter.all false
set_option maxRecDepth 100000
set_option maxHeartbeats 4000000
/-! K27g: sorted by a key that a lambda tells. -/
namespace K27
open PySem PySem.Spec PyProof.Rows L2

section
variable {X : Cx} {pins : List (Addr × Obj)} {σ : L2.St} {H H' : Hp} {s : Shared}
theorem _root_.L2.Inv.pin1 {a : Addr} {o : Obj} (I : Inv X pins σ H s) (e : s.heap.get? a = some o) (f : FpOk X pins H a) (d : ∀ v, o.data ≠ .cell v) : Inv X ((a, o) :: pins) σ H s := by
  refine I.pins_of fun p hp => ?_
  rcases List.mem_cons.mp hp with q | q
  · subst q
    exact ⟨e, f.1, f.2.1, f.2.2.1, d⟩
  · exact I.pin p (List.mem_append_right _ q)
theorem _root_.L2.Inv.unpin {a : Addr} {o : Obj} (I : Inv X ((a, o) :: pins) σ H s) : Inv X pins σ H s := I.pins_of fun p hp => I.pin p (List.mem_append_right _ (List.mem_cons_of_mem _ hp))
theorem _root_.L2.Inv.pinHd {a : Addr} {o : Obj} (I : Inv X ((a, o) :: pins) σ H s) : s.heap.get? a = some o ∧ H a = none := by
  have q := I.pin (a, o) (List.mem_append_right _ List.mem_cons_self)
  exact ⟨q.1, q.2.1⟩
theorem _root_.L2.FpOk.unpin {a b : Addr} {o : Obj} (f : FpOk X ((a, o) :: pins) H b) : FpOk X pins H b :=
  ⟨f.1, f.2.1, f.2.2.1, f.2.2.2.1, f.2.2.2.2.1, fun p hp => f.2.2.2.2.2 p (by
    rcases List.mem_append.mp hp with q | q
    · exact List.mem_append_left _ q
    · exact List.mem_append_right _ (List.mem_cons_of_mem _ q))⟩
theorem _root_.L2.FpOk.pin {a b : Addr} {o : Obj} (f : FpOk X pins H b) (ne : a ≠ b) : FpOk X ((a, o) :: pins) H b :=
  ⟨f.1, f.2.1, f.2.2.1, f.2.2.2.1, f.2.2.2.2.1, fun p hp => by
    rcases List.mem_append.mp hp with q | q
    · exact f.2.2.2.2.2 p (List.mem_append_left _ q)
    · rcases List.mem_cons.mp q with e | q
      · subst e; exact ne
      · exact f.2.2.2.2.2 p (List.mem_append_right _ q)⟩
theorem _root_.L2.FpOk.hp {b : Addr} (f : FpOk X pins H b) (h : H' b = none) : FpOk X pins H' b := ⟨h, f.2⟩
/-- an untracked object of ours is changed -/
theorem _root_.L2.Inv.updU {a : Addr} {g : Obj → Obj} (I : Inv X pins σ H s) (f : FpOk X pins H a) : Inv X pins σ H { s with heap := s.heap.update a g } :=
  I.turned (t' := s.toks) (fun b o hb e => (Heap.get?_update_ne _ _ _ _ hb).trans e) f.1 f.2.1 f.2.2.2.1 f.2.2.2.2.1 f.2.2.2.2.2
/-- an untracked object of ours is tracked from now on -/
theorem _root_.L2.Inv.track {a : Addr} {o : HO} (I : Inv X pins σ H s) (f : FpOk X pins H a) (new : ObjOk X.prog X.w (upd H a o) s.heap a o) : Inv X pins σ (upd H a o) s := by
  have ne : ∀ {b u}, H b = some u → b ≠ a := fun e => ne_of_none e f.1
  refine ⟨I.ok, I.os, I.bare, ⟨I.base.keep, I.base.slot, fun b u e n hx => ?_, I.base.there, fun b xs e => ?_, fun b u v e => ?_, fun b ps e => ?_⟩, I.loc, I.cell, ?_, fun x c e => ?_, fun p hp => ?_, fun b u e => ?_, I.len⟩
  · have nb : b ≠ a := fun z => by
      subst z
      rcases f.2.2.2.1 with q | q
      · exact hx q
      · exact absurd (Heap.lt_size e) (Nat.not_lt.mpr q)
    rw [upd_ne nb]
    exact I.base.free b u e n hx
  · have q := I.base.tups b xs e
    rw [upd_ne (ne q)]
    exact q
  · have q := I.base.frzs b u v e
    rw [upd_ne (ne q)]
    exact q
  · obtain ⟨m, q⟩ := I.base.tbls b ps e
    exact ⟨m, by rw [upd_ne (ne q)]; exact q⟩
  · rw [upd_ne (Ne.symm f.2.1)]
    exact I.free
  · rw [upd_ne (f.2.2.2.2.1 x c e)]
    exact I.freeC x c e
  · obtain ⟨e, n, r⟩ := I.pin p hp
    exact ⟨e, by rw [upd_ne (f.2.2.2.2.2 p hp)]; exact n, r⟩
  · by_cases hb : b = a
    · subst hb
      rw [upd_same] at e
      cases e
      exact new
    · rw [upd_ne hb] at e
      exact (I.hok b u e).stay (fun c v _ q => q) (fun c q => by rw [upd_ne (ne q)]; exact q) fun c xs q => by rw [upd_ne (ne q)]; exact q
end

/-! ### the lambda as a value -/
/-- the object at f is the lambda of the code object at c' -/
def LamO (f c' : Addr) (q : Str) (params : Arguments) (body : Expr) (scope : Scope) : HO := .ext fun h => ∃ (pm ctv : Value), h.get? f = some (PySem.W.kla_obj "<lambda>" q params body scope [] pm c' ctv)
theorem lamO_ne {f c' : Addr} {q : Str} {params : Arguments} {body : Expr} {scope : Scope} (ps : Array Value) : LamO f c' q params body scope ≠ .tbl ps := fun z => by
  unfold LamO at z
  cases z
theorem lamO_at {P : Program} {w : World} {H : Hp} {h : Heap} {f c' : Addr} {q : Str} {params : Arguments} {body : Expr} {scope : Scope} (hok : HOk P w H h) (e : H f = some (LamO f c' q params body scope)) :
    ∃ (pm ctv : Value), h.get? f = some (PySem.W.kla_obj "<lambda>" q params body scope [] pm c' ctv) := (hok f _ e).1
section
variable {X : Cx} {pins : List (Addr × Obj)} {σ : L2.St} {H H' : Hp} {s : Shared}
open LamX
/-- a new object is known as the lambda from now on -/
theorem inv_lam {c' : Addr} {q : Str} {params : Arguments} {body : Expr} {scope : Scope} {pm ctv : Value} {h' : Heap} {t' : Nat} (I : Inv X pins σ H s) (k : ∀ b o, s.heap.get? b = some o → h'.get? b = some o) (hz : s.heap.objs.size ≤ h'.objs.size) :
    Inv X pins σ (upd H h'.objs.size (LamO h'.objs.size c' q params body scope)) { s with heap := h'.push (PySem.W.kla_obj "<lambda>" q params body scope [] pm c' ctv), toks := t' } := by
  have at_ : (h'.push (PySem.W.kla_obj "<lambda>" q params body scope [] pm c' ctv)).get? h'.objs.size = some (PySem.W.kla_obj "<lambda>" q params body scope [] pm c' ctv) := Heap.get?_push_size _ rfl
  refine I.laid (fun b o e => Heap.get?_push_of_some _ (k b o e)) hz ?_
  exact ⟨⟨pm, ctv, at_⟩, ⟨_, at_⟩, fun h1 h2 ⟨p, c, e⟩ st => ⟨p, c, st _ e⟩⟩
/-- what the reading of a lambda asks; what it gives -/
def tLamV (T : List (Addr × Str)) (q : Str) (params : Arguments) (body : Expr) (scope : Scope) : TE := fun _ H Q => Tabs T H ∧ ∀ f c' H1, ExtN H H1 → Tabs T H1 → H f = none → H1 f = some (LamO f c' q params body scope) → H1 c' = some (CodeO c' q) → Q (.ref f) H1
theorem pe_lam {T : List (Addr × Str)} {c P : Addr} {params : Arguments} {body : Expr} {scope : Scope} {pos : Pos} (TB : TabB X.base X.mg c P) (hcode : X.env.code = .ref c) (hm : (P, X.env.qual ++ "<lambda>") ∈ T) (hu : ∀ p ∈ T, p.1 = P → p.2 = X.env.qual ++ "<lambda>")
    (hdef : defaultsOf params X.env = ([], [])) (hfree : ∀ y ∈ scope.names, y.2 ≠ .free) (hcl : cloFrom X.env.cells scope.names [] = []) : PE X (.Lambda params body scope pos) (tLamV T (X.env.qual ++ "<lambda>") params body scope) := by
  refine ⟨fun pins s σ H Q I ⟨hT, h⟩ => ?_⟩
  obtain ⟨ps, hP, ht, ha⟩ := hT _ hm
  refine PySem.W.kla_eval hdef ?_
  have bP := TB.bm.keeps I.bk
  have gP : s.heap.get? P = some { cls := .none, data := .fields ps } := I.hok P _ hP
  have cl0 : closureFor scope X.env = pure [] := by
    have := closure_ok (env := X.env) (scope := scope) fun y hy e => absurd e (hfree y hy)
    rw [this, hcl]
  -- the tables behind a step that keeps all tracked
  cases hc : codeAmong pos ps.toList with
  | some cv =>
    obtain ⟨c', e, hco⟩ := ha pos cv hc
    subst e
    refine PySem.W.kla_makeFunctionHit (mg := X.mg) (c := c) (P := P) (ps := ps) cl0 I.ok.glob (I.mod.glob.keeps I.bk) hcode (TB.code.keeps I.bk) gP ht hc bP fun ctv h' tk hx hsz => ?_
    have fr : H h'.objs.size = none := I.hok.fresh hsz
    have kp : ∀ b o, H b = some o → upd H h'.objs.size (LamO h'.objs.size c' (X.env.qual ++ "<lambda>") params body scope) b = some o := fun b o e => by rw [upd_ne (ne_of_none e fr)]; exact e
    exact ⟨.ref h'.objs.size, _, inv_lam (t' := tk) I hx hsz, rfl, h _ c' _ (ExtN.of kp) (hT.ext kp) fr upd_same (kp _ _ hco)⟩
  | none =>
    refine PySem.W.kla_makeFunction (mg := X.mg) (c := c) (P := P) (ps := ps) cl0 I.ok.glob (I.mod.glob.keeps I.bk) hcode (TB.code.keeps I.bk) gP ht hc TB.gP bP fun c' ctv h' tk hx hge hlt hrec htb => ?_
    obtain ⟨c2, oc, vs, t, e2, hoc, hd, hv⟩ := hrec
    cases e2
    have nC : H c' = none := I.hok.fresh hge
    have nPc : P ≠ c' := ne_of_none hP nC
    have hsz : s.heap.objs.size ≤ h'.objs.size := Nat.le_trans hge (Nat.le_of_lt hlt)
    have I1 := inv_table (t' := tk) (more := #[rawInt pos.line, rawInt pos.col, .ref c']) (h' := h') (q := X.env.qual ++ "<lambda>") I hP (fun b o hb e => hx b o hb e) htb hge ⟨oc, vs, t, hoc, hd, hv⟩
    generalize hG : upd (upd H P (.tbl (ps ++ #[rawInt pos.line, rawInt pos.col, .ref c']))) c' (CodeO c' (X.env.qual ++ "<lambda>")) = G at I1
    have gk : ExtN H G := fun b o e n => by
      rw [← hG, upd_ne (ne_of_none e nC), upd_ne (fun z => n ps (Option.some.inj (e.symm.trans (by rw [z]; exact hP))))]
      exact e
    have gT : Tabs T G := fun p hp => by
      by_cases hb : p.1 = P
      · have ep := hu p hp hb
        rw [ep, hb]
        refine ⟨ps ++ #[rawInt pos.line, rawInt pos.col, .ref c'], by rw [← hG, upd_ne nPc, upd_same], ?_, fun p' cv hcv => ?_⟩
        · rw [Array.toList_append]
          exact PySem.TriplesOk_snoc _ _ _ _ ht
        · rw [Array.toList_append] at hcv
          rcases among_app _ ht hcv with z | z
          · obtain ⟨c0, e1, e2⟩ := ha p' cv z
            exact ⟨c0, e1, gk _ _ e2 codeO_ne⟩
          · exact ⟨c', z, by rw [← hG, upd_same]⟩
      · obtain ⟨ps', a1, a2, a3⟩ := hT p hp
        refine ⟨ps', by rw [← hG, upd_ne (ne_of_none a1 nC), upd_ne hb]; exact a1, a2, fun p' cv hcv => ?_⟩
        obtain ⟨c0, e1, e2⟩ := a3 p' cv hcv
        exact ⟨c0, e1, gk _ _ e2 codeO_ne⟩
    have frG : G h'.objs.size = none := I1.hok.fresh (Nat.le_refl _)
    have frH : H h'.objs.size = none := I.hok.fresh hsz
    have kp : ∀ b o, G b = some o → upd G h'.objs.size (LamO h'.objs.size c' (X.env.qual ++ "<lambda>") params body scope) b = some o := fun b o e => by rw [upd_ne (ne_of_none e frG)]; exact e
    have I2 := inv_lam (t' := tk) (h' := h') (c' := c') (q := X.env.qual ++ "<lambda>") (params := params) (body := body) (scope := scope) (pm := (X.mg "__name__").getD .none) (ctv := ctv) I1 (fun b o e => e) (Nat.le_refl _)
    exact ⟨.ref h'.objs.size, _, I2, rfl, h _ c' _ (fun b o e n => kp _ _ (gk b o e n)) (gT.ext kp) frH upd_same (kp _ _ (by rw [← hG, upd_same]))⟩
/-- the lambda is called with one value, at any context of the same frames -/
theorem lam_call {A : Around} {f c' : Addr} {q : Str} {params : Arguments} {body : Expr} {scope : Scope} {N : List Str} {p : Str} {k : Nat} {x : V} {u : Value} {t : TE} {Q : VK} {E : Value → Shared → Prop} (I : Inv X pins σ H s) (hfr : A.frames = X.A.frames) (hr : Room (k + 1) A) (hf : H f = some (LamO f c' q params body scope))
    (hc : H c' = some (CodeO c' q)) (S : FnScope N [p] scope) (hbind : ∀ (pm cv ctv : Value) (u : Value), bindArgs (PySem.W.kla_fn "<lambda>" q params body scope [] pm cv ctv) ⟨[u], []⟩ = pure [(p, u)]) (rx : RelV x u)
    (hbody : ∀ (A : Around) (outer : List Env) (s : Shared) (H : Hp), Room k A → PE (cxOf C8.CX0 X.prog X.w X.K X.mg X.base N q scope f (.ref c') A outer s H C8.E0) body t) (ht : t (L2.start N [x]) H Q) :
    wpAny (model X.prog X.w) A (call (.ref f) [u]) (EP X pins σ Q) E s := by
  obtain ⟨pm, ctv, hof⟩ := lamO_at I.hok hf
  obtain ⟨⟨oc, vs, tk0, hoc, hdc, hvc⟩, _, _⟩ := I.hok c' _ hc
  have e0 : Env0 X.prog X.w X.K X.mg X.base A X.stack s H := { I.env0 with frames := hfr.trans I.env0.frames }
  have lim := I.nolimit
  have rc : codeAny (model X.prog X.w) A (.call (.ref f) ⟨[u], []⟩) (CR C8.CX0 X.stack X.prog X.w H s Q C8.E0) s := by
    refine PySem.W.kla_callFunE hr.depth hof rfl S.co S.gen rfl ⟨c', oc, vs, tk0, rfl, hoc, hdc, hvc⟩ ?_
    rw [hbind]
    refine wpAny_pure ?_
    refine wpAny_newFunctionEnv_cells S.kind (fun y hy => ?_) fun env he s1 z => ?_
    · rw [List.mem_singleton.mp hy]
      rcases S.par p List.mem_cons_self with q' | q'
      · exact .inl q'
      · exact .inr ⟨q', PySem.W.cellsFrom_some _ _ _ (.inl q')⟩
    subst he
    refine ⟨lim.keeps z.toInCall.keep, ?_⟩
    have J : Inv (cxOf C8.CX0 X.prog X.w X.K X.mg X.base N q scope f (.ref c') A X.stack s H C8.E0) [] (L2.start N [x]) H s1 := inv_start (us := [u]) S hr.hd e0 rfl (.cons rx .nil) z
    refine PySem.W.kla_codeExpr (wpAny_mono ((hbody A X.stack s H (hr.mono (Nat.le_succ k))).run [] s1 _ H Q J ht) (fun v s' hq => ?_) fun e s' hq => hq)
    obtain ⟨w', H', J', rv, q'⟩ := hq
    exact ⟨w', H', J'.os, J'.bare, J'.base, J'.hok, rv, q'⟩
  refine wpAny_call (codeAny_mono rc fun r s' hq => ?_)
  cases r with
  | error e => exact (show False from hq).elim
  | ok fl =>
    cases fl with
    | ret v => exact I.after hq
    | next => exact False.elim hq
    | brk => exact False.elim hq
    | cont => exact False.elim hq
end
end K27
end

section
set_option Elab.async false
set_option linter.all false
set_option maxRecDepth 100000
set_option maxHeartbeats 4000000
/-! K27h: sorted(xs, key=f) of data, f told by what its call gives. -/
namespace K27
open PySem PySem.Spec PyProof.Rows L2
/-- the datum of a value in the heap -/
noncomputable def kH (h : Heap) (v : Value) : D := open Classical in if e : ∃ d, HD h d v then e.choose else .i 0
theorem kH_eq {h : Heap} {d : D} {v : Value} (e : HD h d v) : kH h v = d := by
  have z : ∃ d, HD h d v := ⟨d, e⟩
  unfold kH
  rw [dif_pos z]
  exact HD.inj _ _ _ z.choose_spec e
theorem F2.zip {α β γ : Type} {R : α → β → Prop} {S : α → γ → Prop} {l : List α} {m : List β} {n : List γ} (h : F2 R l m) (k : F2 S l n) : F2 (fun a (p : β × γ) => R a p.1 ∧ S a p.2) l (m.zip n) := by
  induction h generalizing n with
  | nil => cases k; exact .nil
  | cons r _ ih =>
    cases k with
    | cons s t => exact .cons ⟨r, s⟩ (ih t)
theorem F2.map_r {α β γ : Type} {R : α → γ → Prop} {f : β → γ} {l : List α} {m : List β} (h : F2 (fun a b => R a (f b)) l m) : F2 R l (m.map f) := by
  induction h with
  | nil => exact .nil
  | cons r _ ih => exact .cons r ih
/-- what the key's call does: at any state of the context it gives the key of the item -/
def KeyCall (X : Cx) (A : Around) (f : Value) {α : Type} (enc key : α → D) (G : Hp → Prop) : Prop :=
  ∀ (pins : List (Addr × Obj)) (s : Shared) (σ : L2.St) (H : Hp) (z : α) (x : V) (u : Value), Inv X pins σ H s → G H → RD H (enc z) x → RelV x u →
    wpAny (model X.prog X.w) A (call f [u]) (EP X pins σ fun k H' => Same H H' ∧ RD H' (key z) k) (fun _ _ => False) s
section
variable {X : Cx} {pins : List (Addr × Obj)} {σ : L2.St} {H : Hp} {s : Shared} {A : Around} {E : Value → Shared → Prop} {α : Type} {enc key : α → D} {G : Hp → Prop}
theorem _root_.L2.Same.tupK {H H' : Hp} (h : Same H H') : TupK H H' := fun a xs e => h a _ e
/-- one item's pair: its key and itself -/
def KR (h : Heap) (H : Hp) (enc key : α → D) (z : α) (p : Keyed) : Prop := HD h (key z) p.1 ∧ RD H (enc z) (backV p.2) ∧ ∃ t, p.2 = .ref t
theorem list_sort_key {q a : Addr} {its : List Value} {n : Nat} {xs : List V} {zs : List α} {b : Bool} {P : PySem.Fin → Shared → Prop} (hK : KeyCall X A (.ref q) enc key G) (hG : ∀ H H', G H → Same H H' → G H')
    (I : Inv X pins σ H s) (g0 : G H) (ho : s.heap.get? a = some (seqObj "list" its.toArray n)) (fa : FpOk X pins H a) (rv : Vals xs its) (hx : F2 (fun z x => RD H (enc z) x) zs xs) (hr : ∀ x ∈ xs, ∃ t, x = V.ref t) (hz : its.length ≤ sizeLine)
    (hk : ∀ z ∈ zs, Fst b (key z) ∧ dep (key z) ≤ 8) (hc : ∀ z ∈ zs, ∀ z' ∈ zs, cpt (key z) (key z')) (hu : A.units + 16 < cLine)
    (h : ∀ (H' : Hp) (s' : Shared) (out : List Value) (ys : List V) (zs' : List α) (n' : Nat), Inv X pins σ H' s' → Same H H' → H' a = none → s'.heap.get? a = some (seqObj "list" out.toArray n') → Vals ys out → zs'.Perm zs →
      zs'.Pairwise (fun z z' => dlt (key z') (key z) = false) → F2 (fun z x => RD H' (enc z) x) zs' ys → P (.done (.ret .none)) s') :
    wpAny (model X.prog X.w) A (ksk_tree a (.ref q) false) P E s := by
  have hlen : zs.length = its.length := hx.len.trans rv.length
  unfold ksk_tree
  refine wpAny_bind (listItems_at ho rfl ?_)
  refine wpAny_bind (listUpdate_at ho rfl ?_ (by rw [List.size_toArray]; exact hz) (Nat.zero_le _))
  obtain ⟨e1, ho1⟩ : ∃ e1, (s.heap.update a (Obj.mapSeq fun _ => (#[] : Array Value))).get? a = some (seqObj "list" #[] e1) := ⟨_, get?_update_seq ho fun _ => #[]⟩
  refine wpAny_bind (seqEpoch_at ho1 rfl ?_)
  refine wpAny_bind (wpAny_newTuple ?_ (by show its.length ≤ _; exact hz))
  refine wpAny_bind (wpAny_newList ?_ (Nat.zero_le _))
  refine wpAny_holding ?_
  show wpAny (model X.prog X.w) A (ksk_rest a (.ref q) false its.toArray e1 (.ref ((s.heap.update a (Obj.mapSeq fun _ => (#[] : Array Value))).push (seqObj "tuple" its.toArray 0)).objs.size)) P E
    { s with heap := ((s.heap.update a (Obj.mapSeq fun _ => (#[] : Array Value))).push (seqObj "tuple" its.toArray 0)).push (seqObj "list" #[] 0) }
  -- the state ahead of the keys
  have I1 := I.updU (g := Obj.mapSeq fun _ => (#[] : Array Value)) fa
  have sz1 : (s.heap.update a (Obj.mapSeq fun _ => (#[] : Array Value))).objs.size = s.heap.objs.size := Heap.size_update _ _ _
  generalize hg1 : s.heap.update a (Obj.mapSeq fun _ => (#[] : Array Value)) = h1 at I1 ho1 sz1 ⊢
  have I2 : Inv X pins σ H { s with heap := (h1.push (seqObj "tuple" its.toArray 0)).push (seqObj "list" #[] 0) } := I1.kept (t' := s.toks) fun b o e => Heap.get?_push_of_some _ (Heap.get?_push_of_some _ e)
  generalize hkS : (h1.push (seqObj "tuple" its.toArray 0)).objs.size = kS at *
  have hkS' : kS = s.heap.objs.size + 1 := by rw [← hkS, size_push', sz1]
  have oS : ((h1.push (seqObj "tuple" its.toArray 0)).push (seqObj "list" #[] 0)).get? kS = some (seqObj "list" #[] 0) := by rw [← hkS]; exact Heap.get?_push_size _ rfl
  have oA : ((h1.push (seqObj "tuple" its.toArray 0)).push (seqObj "list" #[] 0)).get? a = some (seqObj "list" #[] e1) := Heap.get?_push_of_some _ (Heap.get?_push_of_some _ ho1)
  have alt : a < s.heap.objs.size := Heap.lt_size ho
  have nka : a ≠ kS := by rw [hkS']; exact Nat.ne_of_lt (Nat.lt_succ_of_lt alt)
  have fk : FpOk X pins H kS := I.fpOk (by rw [hkS']; exact Nat.le_succ _) (I.hok.fresh (by rw [hkS']; exact Nat.le_succ _))
  have nc : ∀ (T : String) (vs : Array Value) (m : Nat) (v : Option Value), (seqObj T vs m).data ≠ .cell v := fun T vs m v z => by cases z
  have I3 : Inv X ((kS, seqObj "list" #[] 0) :: (a, seqObj "list" #[] e1) :: pins) σ H { s with heap := (h1.push (seqObj "tuple" its.toArray 0)).push (seqObj "list" #[] 0) } :=
    (I2.pin1 oA fa (nc _ _ _)).pin1 oS (fk.pin nka) (nc _ _ _)
  generalize hs3 : ({ s with heap := (h1.push (seqObj "tuple" its.toArray 0)).push (seqObj "list" #[] 0) } : Shared) = s3 at I3
  unfold ksk_rest
  refine wpAny_bind (wpAny_rule ?_)
  rw [← Array.forIn_toList]
  refine wpAny_bind (ksk_fold (fun i s' => ∃ (H' : Hp) (kA : Array Value) (e : Nat) (ks : List V), Inv X ((kS, seqObj "list" kA e) :: (a, seqObj "list" #[] e1) :: pins) σ H' s' ∧ Same H H' ∧ H' a = none ∧ H' kS = none ∧ Vals ks kA.toList ∧ F2 (fun z k => RD H' (key z) k) (zs.take i) ks) its.toArray.toList 0 s3
    ⟨H, #[], 0, [], I3, Same.refl H, fa.1, fk.1, .nil, by rw [List.take_zero]; exact .nil⟩ (fun j u s' hj hJ => ?_) fun s' hJ => ?_)
  · -- one key
    rw [Nat.zero_add] at hJ ⊢
    obtain ⟨H1, kA, e, ks, J, sm, na, nk, rk, fk2⟩ := hJ
    have hj' : its[j]? = some u := by simpa using hj
    have hjl : j < its.length := (List.getElem?_eq_some_iff.mp hj').1
    have hjz : zs[j]? = some (zs[j]'(by omega)) := List.getElem?_eq_getElem (by omega)
    generalize zs[j]'(by omega) = z at hjz
    obtain ⟨x, hxj, rx⟩ := hx.get_l hjz
    obtain ⟨u', hu', ru⟩ := rv.get hxj
    rw [hj'] at hu'
    have eu : u = u' := Option.some.inj hu'
    subst eu
    have kl : kA.size ≤ its.length := by
      have a1 := rk.length.trans Array.length_toList
      have a2 := fk2.len
      rw [List.length_take] at a2
      omega
    refine wpAny_bind (wpAny_attempt (wpAny_mono (hK _ s' σ H1 z x u J (hG _ _ g0 sm) (RD.mono sm.tupK _ _ rx) ru) (fun k s2 hk2 => ?_) fun _ _ hF => hF.elim))
    obtain ⟨kv, H2, J2, rkv, sm2, rd2⟩ := hk2
    have p1 := J2.pinHd
    have J3 := J2.unpin
    have p2 := J3.pinHd
    have fA2 : FpOk X pins H2 a := fa.hp p2.2
    have fK2 : FpOk X pins H2 kS := fk.hp p1.2
    try dsimp only
    refine wpAny_bind (listUpdate_at p1.1 rfl ?_ (Nat.le_trans kl hz) (Nat.le_trans (Nat.le_of_eq (Array.size_push ..)) (Nat.succ_le_succ (Nat.le_trans kl hz))))
    obtain ⟨e', he'⟩ : ∃ e', (s2.heap.update kS (Obj.mapSeq (·.push k))).get? kS = some (seqObj "list" (kA.push k) e') := ⟨_, get?_update_seq p1.1 (·.push k)⟩
    have J4 := J3.updU (g := Obj.mapSeq (·.push k)) (fK2.pin nka)
    refine wpAny_pure ⟨rfl, H2, kA.push k, e', ks ++ [kv], J4.pin1 he' (fK2.pin nka) (nc _ _ _), sm.trans sm2, p2.2, p1.2, ?_, ?_⟩
    · rw [Array.toList_push]
      exact Vals.append rk (.cons rkv .nil)
    · rw [List.take_add_one, hjz]
      exact (fk2.imp fun z k r => RD.mono sm2.tupK _ _ r).snoc rd2
  · -- the keys are there
    obtain ⟨H1, kA, e, ks, J, sm, na, nk, rk, fk2⟩ := hJ
    rw [List.take_of_length_le (by rw [Nat.zero_add]; simp; omega)] at fk2
    have p1 := J.pinHd
    have J3 := J.unpin
    have p2 := J3.pinHd
    have hkl : kA.size = its.length := by
      have a1 := rk.length.trans Array.length_toList
      have a2 := fk2.len
      omega
    refine wpAny_bind (listItems_at p1.1 rfl ?_)
    unfold ksk_end
    try dsimp only
    rw [if_neg Bool.false_ne_true]
    -- the pairs
    have e1' : xs = its.map backV ∧ ∀ u ∈ its, ∃ a, u = Value.ref a := refs_back rv hr
    have hks : F2 (fun z u => HD s'.heap (key z) u) zs kA.toList := by
      have : ∀ {zs : List α} {ks : List V} {us : List Value}, F2 (fun z k => RD H1 (key z) k) zs ks → Vals ks us → F2 (fun z u => HD s'.heap (key z) u) zs us := by
        intro zs ks us h
        induction h generalizing us with
        | nil => intro r; cases r; exact .nil
        | cons r t ih =>
          intro r2
          cases r2 with
          | cons q1 q2 => exact .cons (RD.hd J _ _ _ r q1) (ih q2)
      exact this fk2 rk
    have hits : F2 (fun z u => RD H1 (enc z) (backV u) ∧ ∃ t, u = Value.ref t) zs its := by
      have h1 : F2 (fun z u => RD H1 (enc z) (backV u)) zs its := by
        have q := hx.imp fun z x r => RD.mono sm.tupK _ _ r
        rw [e1'.1] at q
        have : ∀ {zs : List α} {us : List Value}, F2 (fun z x => RD H1 (enc z) x) zs (us.map backV) → F2 (fun z u => RD H1 (enc z) (backV u)) zs us := by
          intro zs us
          induction us generalizing zs with
          | nil => intro h; cases h; exact .nil
          | cons u us ih => intro h; cases h with | cons r t => exact .cons r (ih t)
        exact this q
      have : ∀ {zs : List α} {us : List Value}, F2 (fun z u => RD H1 (enc z) (backV u)) zs us → (∀ u ∈ us, ∃ a, u = Value.ref a) → F2 (fun z u => RD H1 (enc z) (backV u) ∧ ∃ t, u = Value.ref t) zs us := by
        intro zs us h
        induction h with
        | nil => intro _; exact .nil
        | cons r _ ih => intro hr; exact .cons ⟨r, hr _ List.mem_cons_self⟩ (ih fun u hu => hr u (List.mem_cons_of_mem _ hu))
      exact this h1 e1'.2
    have hL : F2 (KR s'.heap H1 enc key) zs (kA.zip its.toArray).toList := by
      rw [ksk_zip]
      exact (F2.zip hks hits).imp fun z p r => ⟨r.1, r.2.1, r.2.2⟩
    generalize hLd : kA.zip its.toArray = L at hL
    have hLs : L.size = its.length := by rw [← hLd, Array.size_zip, hkl, List.size_toArray, Nat.min_self]
    -- the end, of any arrangement
    have fin : ∀ st' : SortSt, failedOf st' = none → SrtO.Srtd (fun p q => dlt (kH s'.heap p.1) (kH s'.heap q.1)) (arrOf st').toList → (arrOf st').toList.Perm L.toList → wpAny (model X.prog X.w) A (ksk_tail a false e1 (.ref kS) st') P E s' := by
      intro st' hf hs hp
      obtain ⟨zs', f1, f2⟩ := F2.perm hp hL
      have hsz : (arrOf st').size = its.length := by
        have := hp.length_eq
        rw [Array.length_toList, Array.length_toList] at this
        omega
      unfold ksk_tail
      try dsimp only
      refine wpAny_bind (listUpdate_at p1.1 rfl ?_ (by rw [hkl]; exact hz) (Nat.zero_le _))
      refine wpAny_bind (wpAny_letGo ?_)
      have J5 := J3.updU (g := Obj.mapSeq fun _ => (#[] : Array Value)) ((fk.hp p1.2).pin nka)
      have p3 := J5.pinHd
      refine wpAny_bind (seqEpoch_at p3.1 rfl ?_)
      rw [if_neg Bool.false_ne_true]
      refine wpAny_bind (listUpdate_at p3.1 rfl ?_ (Nat.zero_le _) (by rw [Array.size_map, hsz]; exact Nat.le_trans hz (Nat.le_succ _)))
      rw [hf]
      simp only [bne_self_eq_false, Bool.false_eq_true, if_false]
      have J6 := J5.unpin.updU (g := Obj.mapSeq fun _ => (arrOf st').map (·.2)) (fa.hp p2.2)
      obtain ⟨n', hn'⟩ : ∃ n', ((s'.heap.update kS (Obj.mapSeq fun _ => (#[] : Array Value))).update a (Obj.mapSeq fun _ => (arrOf st').map (·.2))).get? a = some (seqObj "list" ((arrOf st').map (·.2)) n') := ⟨_, get?_update_seq p3.1 fun _ => (arrOf st').map (·.2)⟩
      refine wpAny_pure (h H1 _ ((arrOf st').map (·.2)).toList (((arrOf st').map (·.2)).toList.map backV) zs' n' J6 sm p2.2 (by rw [Array.toArray_toList]; exact hn') ?_ f2 ?_ ?_)
      · refine vals_back fun u hu => ?_
        rw [Array.toList_map] at hu
        obtain ⟨p, hp', ep⟩ := List.mem_map.mp hu
        obtain ⟨z, _, r⟩ := f1.mem_r p hp'
        obtain ⟨t, et⟩ := r.2.2
        exact ⟨t, by rw [← ep]; exact et⟩
      · refine F2.pw (T := fun p q => dlt (kH s'.heap q.1) (kH s'.heap p.1) = false) (fun z z' p p' r r' t => ?_) f1 hs
        rw [kH_eq r.1, kH_eq r'.1] at t
        exact t
      · rw [Array.toList_map, List.map_map]
        exact F2.map_r (f1.imp fun z p r => r.2.1)
    by_cases h2 : its.toArray.size < 2
    · rw [if_pos h2, if_pos h2]
      refine wpAny_bind (wpAny_pure ?_)
      rw [StateT.run_pure]
      refine wpAny_bind (wpAny_pure ?_)
      try dsimp only
      refine fin (SortSt.mk' general' L #[] 7 none) rfl ?_ (List.Perm.refl _)
      rw [List.size_toArray] at h2
      have : L.toList.length < 2 := by rw [Array.length_toList, hLs]; exact h2
      show SrtO.Srtd _ L.toList
      match hl : L.toList, this with
      | [], _ => exact List.Pairwise.nil
      | [_], _ => exact List.pairwise_singleton _ _
      | _ :: _ :: _, hh => exact absurd hh (by simp only [List.length_cons]; omega)
    · rw [if_neg h2, if_neg h2]
      rw [List.size_toArray] at h2
      have kk : ∀ v ∈ kA.toList, HD s'.heap (kH s'.heap v) v ∧ Fst b (kH s'.heap v) ∧ ∃ z ∈ zs, kH s'.heap v = key z := fun v hv => by
        obtain ⟨z, hz', r⟩ := hks.mem_r v hv
        rw [kH_eq r]
        exact ⟨r, (hk z hz').1, z, hz', rfl⟩
      refine wpAny_bind ?_
      have kd := kind_D (prog := X.prog) (w := X.w) (A := A) (E := E) (s := s') (b := b) (vs := kA.toList) (k := kH s'.heap) (Q := fun κ s2 => wpAny (model X.prog X.w) A (do
        let ((), st) ← sortRuns'.run (SortSt.mk' κ L #[] 7 none)
        ksk_tail a false e1 (.ref kS) st) P E s2) (fun v hv => ⟨(kk v hv).1, (kk v hv).2.1⟩) (by rw [Array.length_toList]; omega) ?_
      · rw [Array.toArray_toList] at kd
        exact kd
      refine wpAny_bind (wpAny_mono (SrtO.wpS_sortO (st0 := SortSt.mk' (tuples' b) L #[] 7 none) (lt := fun p q => dlt (kH s'.heap p.1) (kH s'.heap q.1)) (P := fun p => p.1 ∈ kA.toList)
        (Q := fun _ st' => SrtO.Srtd (fun p q => dlt (kH s'.heap p.1) (kH s'.heap q.1)) (arrOf st').toList ∧ (arrOf st').toList.Perm L.toList ∧ failedOf st' = none) (swo_D fun p : Keyed => kH s'.heap p.1) ?cmp rfl ?all rfl rfl fun st' a1 a2 a3 => ⟨a1, a2.perm, a3⟩) ?_ fun _ _ e => e)
      case cmp =>
        intro p p' hp hp'
        obtain ⟨a1, a2, z, hz1, ez⟩ := kk _ hp
        obtain ⟨b1, b2, z', hz2, ez'⟩ := kk _ hp'
        refine keyLt_D (Q := fun r s2 => s2 = s' ∧ r = dlt (kH s'.heap p.1) (kH s'.heap p'.1)) a1 b1 a2 b2 (by rw [ez, ez']; exact hc z hz1 z' hz2) ?_ ⟨rfl, rfl⟩
        rw [ez, ez']
        have := (hk z hz1).2
        have := (hk z' hz2).2
        omega
      case all =>
        intro p hp
        have hp : p ∈ L.toList := hp
        rw [← hLd, ksk_zip] at hp
        exact (List.of_mem_zip hp).1
      rintro ⟨⟨⟩, st'⟩ s2 ⟨rfl, q1, q2, q3⟩
      try dsimp only
      exact fin st' q3 q1 q2
/-- sorted(xs, key=f) -/
theorem sorted_key {q l : Addr} {xs : List V} {zs : List α} {b : Bool} {Q : VK} (hK : KeyCall X X.A.in1.in1 (.ref q) enc key G) (hG : ∀ H H', G H → Same H H' → G H') (I : Inv X pins σ H s) (g0 : G H) (hl : SqL X.K H l xs) (hx : F2 (fun z x => RD H (enc z) x) zs xs)
    (hr : ∀ x ∈ xs, ∃ t, x = V.ref t) (hk : ∀ z ∈ zs, Fst b (key z) ∧ dep (key z) ≤ 8) (hc : ∀ z ∈ zs, ∀ z' ∈ zs, cpt (key z) (key z')) (hu : X.A.units + 64 < cLine)
    (h : ∀ (H' : Hp) (p : Addr) (ys : List V) (zs' : List α), Same H H' → H p = none → H' p = some (.lst ys) → zs'.Perm zs → zs'.Pairwise (fun z z' => dlt (key z') (key z) = false) → F2 (fun z x => RD H' (enc z) x) zs' ys → Q (.ref p) H') :
    wpAny (model X.prog X.w) X.A (call (.builtin "sorted") [.ref l] [(Str.ofString "key", .ref q)]) (EP X pins σ Q) E s := by
  obtain ⟨its, rv, pl, hzx⟩ := I.list hl
  have hz : its.length ≤ sizeLine := by rw [← rv.length]; exact hzx
  refine call_function_entry_kw kind_sorted plain_sorted entry_sorted (ksk_s1 _ _) ?_
  unfold Builtin.«sorted»
  refine wpAny_bind (m := checkCount "sorted" 1 1 _) (wpAny_pure ?_)
  refine wpAny_bind (collect_list pl.isList ?_ hz)
  refine wpAny_bind (wpAny_newList ?_ hz)
  have hsz : ((s.heap.push (seqObj "list" #[] 0)).update s.heap.objs.size (Obj.mapSeq (· ++ its.toArray))).objs.size = s.heap.objs.size + 1 := by rw [Heap.size_update, size_push']
  have hoL : (((s.heap.push (seqObj "list" #[] 0)).update s.heap.objs.size (Obj.mapSeq (· ++ its.toArray))).push (seqObj "list" its.toArray 0)).get? (s.heap.objs.size + 1) = some (seqObj "list" its.toArray 0) := by
    rw [← hsz]; exact Heap.get?_push_size _ rfl
  have keep : ∀ b o, s.heap.get? b = some o → (((s.heap.push (seqObj "list" #[] 0)).update s.heap.objs.size (Obj.mapSeq (· ++ its.toArray))).push (seqObj "list" its.toArray 0)).get? b = some o := fun b o q => by
    have hlt : b < s.heap.objs.size := Heap.lt_size q
    refine Heap.get?_push_of_some _ ?_
    rw [Heap.get?_update_ne _ _ _ _ (Nat.ne_of_lt hlt)]
    exact Heap.get?_push_of_some _ q
  show wpAny _ _ _ _ _ { s with heap := ((s.heap.push (seqObj "list" #[] 0)).update s.heap.objs.size (Obj.mapSeq (· ++ its.toArray))).push (seqObj "list" its.toArray 0) }
  rw [hsz]
  have I1 := I.kept (t' := s.toks) keep
  have fa : FpOk X pins H (s.heap.objs.size + 1) := I.fpOk (Nat.le_succ _) (I.hok.fresh (Nat.le_succ _))
  refine wpAny_bind (wpAny_holding (wpAny_call_entry_kw slot_list_sort ⟨_, hoL, rfl⟩ entry_list_sort ?_ (ksk_l1 _ _)))
  rw [ksk_t1]
  refine list_sort_key (A := X.A.in1.in1) hK hG I1 g0 hoL fa rv hx hr hz hk hc (by show X.A.units + 1 + 1 + 16 < cLine; omega) fun H' s' out ys zs' n' J sm na hn ry pm srt fy => ⟨_, rfl, ?_⟩
  refine wpAny_pure ⟨_, rfl, ?_⟩
  have kp : ∀ b o, H' b = some o → upd H' (s.heap.objs.size + 1) (.lst ys) b = some o := fun b o e => by rw [upd_ne (ne_of_none e na)]; exact e
  refine ⟨.ref _, upd H' (s.heap.objs.size + 1) (.lst ys), ?_, rfl, h _ _ ys zs' (sm.trans kp) fa.1 upd_same pm srt (fy.imp fun z x r => RD.mono (fun a xs e => kp _ _ e) _ _ r)⟩
  have hl := pm.length_eq
  have hy := fy.len
  have hxz := hx.len
  refine J.track (fa.hp na) ⟨by omega, out, n', ry, hn⟩
end
end K27
end

section
set_option Elab.async false
set_option linter.all false
set_option maxRecDepth 100000
set_option maxHeartbeats 4000000
/-! K27i: sets whose members are tuples (data): searching, adding. -/
namespace K27
open PySem PySem.Spec PyProof.Rows L2

abbrev dh (w : World) (d : D) : Int := (toKey d).hash w
/-- the datum d, a tuple, stands at a -/
def HT_ (h : Heap) (d : D) (a : Addr) : Prop := HD h d (.ref a) ∧ dep d ≤ 8
section
variable {P : Program} {w : World} {A : Around} {E : Value → Shared → Prop} {s : Shared}
theorem HD.seq {h : Heap} {d : D} {a : Addr} (x : HD h d (.ref a)) : ∃ o vs n ds, d = .t ds ∧ h.get? a = some o ∧ o.cls = .type "tuple" ∧ o.data = .seq vs n ∧ HDs h ds vs.toList := by
  cases x with
  | t h1 h2 h3 h4 => exact ⟨_, _, _, _, rfl, h1, h2, h3, h4⟩
theorem HDs.each {h : Heap} : ∀ {ds : List D} {vs : List Value}, HDs h ds vs → ∀ v ∈ vs, ∃ d, HD h d v ∧ dep d ≤ depL ds
  | [], _, x, v, hv => by cases x; cases hv
  | d :: ds, _, x, v, hv => by
    cases x with
    | cons x1 x2 =>
      rw [depL]
      rcases List.mem_cons.mp hv with e | hv
      · subst e; exact ⟨d, x1, Nat.le_max_left _ _⟩
      · obtain ⟨e, h1, h2⟩ := x2.each v hv
        exact ⟨e, h1, Nat.le_trans h2 (Nat.le_max_right _ _)⟩
theorem ofA_i (n : Nat) (k : Int) (t : Tok) : ofAClassStatement n (.int k t) = pure false := by cases n <;> rfl
theorem hashBy_i (n : Nat) (k : Int) (t : Tok) : hashByValue n (.int k t) = pure true := by cases n <;> rfl
theorem ofA_D : ∀ (n : Nat) (d : D) (v : Value) (A : Around) (E : Value → Shared → Prop) (Q : Bool → Shared → Prop), dep d ≤ n → HD s.heap d v → Q false s → wpAny (model P w) A (ofAClassStatement n v) Q E s
  | 0, d, v, A, E, Q, hd, x, hq => by
    cases x with
    | i k t => rw [ofA_i]; exact wpAny_pure hq
    | t h1 h2 h3 h4 => rw [dep] at hd; omega
  | n + 1, d, v, A, E, Q, hd, x, hq => by
    cases x with
    | i k t => rw [ofA_i]; exact wpAny_pure hq
    | t h1 h2 h3 h4 =>
    rename_i a o vs m ds
    rw [dep] at hd
    have hT : s.TypeIs (.ref a) "tuple" := ⟨o, h1, h2⟩
    unfold ofAClassStatement
    refine wpAny_bind (wpAny_typeOf hT ?_)
    dsimp only
    rw [if_pos (by decide)]
    refine wpAny_bind (wpAny_pure ?_)
    refine wp_if_neg (by decide) ?_
    refine wpAny_bind (wpAny_seqItems h1 h3 ?_)
    dsimp only
    refine wpAny_bind ?_
    show wpAny _ _ (forIn vs _ _) _ _ s
    rw [← Array.forIn_toList]
    refine wpAny_forIn_list _ (fun rest r s' => r.1 = none ∧ s' = s ∧ ∀ v ∈ rest, ∃ d, HD s.heap d v ∧ dep d ≤ depL ds) _ ?_ ?_ _ _ ⟨rfl, rfl, h4.each⟩
    · rintro v rest r s' ⟨hr, e, hall⟩
      have e' := e.symm
      subst e'
      obtain ⟨d, x, hx⟩ := hall v List.mem_cons_self
      refine wpAny_bind (ofA_D n d v A E _ (by omega) x ?_)
      refine wp_if_neg (by decide) ?_
      exact wpAny_pure ⟨rfl, rfl, fun u hu' => hall u (List.mem_cons_of_mem _ hu')⟩
    · rintro ⟨r1, r2⟩ s' ⟨hr, e, _⟩
      subst e
      have hr : r1 = none := hr
      subst hr
      exact wpAny_pure hq
theorem hashBy_D : ∀ (n : Nat) (d : D) (v : Value) (A : Around) (E : Value → Shared → Prop) (Q : Bool → Shared → Prop), dep d ≤ n → HD s.heap d v → Q true s → wpAny (model P w) A (hashByValue n v) Q E s
  | 0, d, v, A, E, Q, hd, x, hq => by
    cases x with
    | i k t => rw [hashBy_i]; exact wpAny_pure hq
    | t h1 h2 h3 h4 => rw [dep] at hd; omega
  | n + 1, d, v, A, E, Q, hd, x, hq => by
    cases x with
    | i k t => rw [hashBy_i]; exact wpAny_pure hq
    | t h1 h2 h3 h4 =>
    rename_i a o vs m ds
    rw [dep] at hd
    have hT : s.TypeIs (.ref a) "tuple" := ⟨o, h1, h2⟩
    unfold hashByValue
    refine wpAny_bind (wpAny_specialOf hT F.slot_tuple_hash.lookup ?_)
    show wpAny _ _ (seqItems? (.ref a) >>= _) _ _ s
    refine wpAny_bind (wpAny_seqItems h1 h3 ?_)
    refine wpAny_bind ?_
    show wpAny _ _ (forIn vs _ _) _ _ s
    rw [← Array.forIn_toList]
    refine wpAny_forIn_list _ (fun rest r s' => r.1 = none ∧ s' = s ∧ ∀ v ∈ rest, ∃ d, HD s.heap d v ∧ dep d ≤ depL ds) _ ?_ ?_ _ _ ⟨rfl, rfl, h4.each⟩
    · rintro v rest r s' ⟨hr, e, hall⟩
      have e' := e.symm
      subst e'
      obtain ⟨d, x, hx⟩ := hall v List.mem_cons_self
      refine wpAny_bind (hashBy_D n d v A E _ (by omega) x ?_)
      refine wp_if_neg (by decide) ?_
      exact wpAny_pure ⟨rfl, rfl, fun u hu' => hall u (List.mem_cons_of_mem _ hu')⟩
    · rintro ⟨r1, r2⟩ s' ⟨hr, e, _⟩
      subst e
      have hr : r1 = none := hr
      subst hr
      exact wpAny_pure hq
theorem quiet_D {d : D} {a : Addr} {Q : Bool → Shared → Prop} (x : HT_ s.heap d a) (hq : Q true s) : wpAny (model P w) A (eqIsQuiet 8 (.ref a)) Q E s := quiet_key (toKey d) (.ref a) 8 s (HD.key _ _ x.1) (by rw [dep_key_]; exact x.2) A E Q hq
theorem seen_D {d : D} {b : Addr} {Q : Bool → Shared → Prop} (hk : HT_ s.heap d b) {ys : List Value} (hy : ∀ y ∈ ys, ∃ e c, y = Value.ref c ∧ HT_ s.heap e c) (hq : Q false s) : wpAny (model P w) A (searchCouldBeSeen (.ref b) ys) Q E s := by
  unfold searchCouldBeSeen
  refine wpAny_bind ?_
  refine wpAny_forIn_list _ (fun rest r s' => r.1 = none ∧ s' = s ∧ ∀ y ∈ rest, ∃ e c, y = Value.ref c ∧ HT_ s.heap e c) _ ?_ ?_ _ _ ⟨rfl, rfl, hy⟩
  · rintro v rest r s' ⟨hr, e0, hall⟩
    subst e0
    obtain ⟨e, c, e1, hc⟩ := hall v List.mem_cons_self
    subst e1
    have more : ∀ y ∈ rest, ∃ e c, y = Value.ref c ∧ HT_ s'.heap e c := fun u hu' => hall u (List.mem_cons_of_mem _ hu')
    dsimp only
    by_cases hv : (b == c || (carriedByValue (.ref b) && carriedByValue (.ref c))) = true
    · exact wp_if_pos hv (wpAny_pure ⟨rfl, rfl, more⟩)
    · refine wp_if_neg hv (wpAny_bind (quiet_D hk ?_))
      refine wp_if_neg (by decide) (wpAny_bind (quiet_D hc ?_))
      refine wp_if_neg (by decide) (wpAny_bind (ofA_D 8 d _ _ _ _ hk.2 hk.1 ?_))
      refine wp_if_neg (by decide) (wpAny_bind (ofA_D 8 e _ _ _ _ hc.2 hc.1 ?_))
      exact wp_if_neg (by decide) (wpAny_pure ⟨rfl, rfl, more⟩)
  · rintro ⟨r1, r2⟩ s' ⟨hr, e, _⟩
    subst e
    have hr : r1 = none := hr
    subst hr
    exact wpAny_pure hq

/-! ### the set -/
abbrev DL := List (Addr × D)
def rowD (w : World) (L : DL) : List (Int × Value) := L.map fun p => (dh w p.2, Value.ref p.1)
structure SetD (w : World) (h : Heap) (a : Addr) (L : DL) (es : Array (Int × Value)) (ep : Nat) (t : SetTable) : Prop where
  ob : ∃ o, h.get? a = some o ∧ o.ExactSet ∧ o.data = .set es ep t
  rows : es.toList = rowD w L
  tab : TabOk t (L.map fun p => dh w p.2)
  nd : (L.map Prod.snd).Nodup
  mem : ∀ p ∈ L, HT_ h p.2 p.1
  plain : t.plain = true
  led : w.params.followText "set-order" = true ∨ t.led = true
  room : L.length * 5 < t.mask * 3
  few : L.length < 64
variable {a : Addr} {L : DL} {es : Array (Int × Value)} {ep : Nat} {t : SetTable}
theorem rowD_size {es : Array (Int × Value)} {L : DL} (h : es.toList = rowD w L) : es.size = L.length := by
  have q := congrArg List.length h
  unfold rowD at q
  rw [List.length_map] at q
  rw [← q]
  simp
theorem rowD_get {es : Array (Int × Value)} {L : DL} (h : es.toList = rowD w L) {i : Nat} {p : Addr × D} (e : L[i]? = some p) : es[i]? = some (dh w p.2, Value.ref p.1) := by
  rw [← Array.getElem?_toList, h]
  unfold rowD
  rw [List.getElem?_map, e]
  rfl
theorem fits_of {n : Nat} (h1 : t.place.size = n) (h2 : t.dummies = #[]) (h3 : n ≤ t.mask) : t.fits n = true := by
  unfold SetTable.fits SetTable.fill
  rw [h2, Bool.and_eq_true, beq_iff_eq, decide_eq_true_eq]
  exact ⟨h1, by show t.place.size + 0 ≤ t.mask; omega⟩
theorem SetD.size (R : SetD w s.heap a L es ep t) : es.size = L.length := rowD_size R.rows
theorem SetD.fits (R : SetD w s.heap a L es ep t) : t.fits es.size = true := by
  have h1 := R.tab.sz
  rw [List.length_map] at h1
  have h3 := R.room
  rw [R.size]
  exact fits_of h1 R.tab.dm (by omega)
/-- the search from the c-th step of the way on -/
theorem find_D (R : SetD w s.heap a L es ep t) {x : Addr} {k : D} (hx : HT_ s.heap k x) (hu : A.units + 8 < cLine) {K : Nat} (hKf : K < 10 * SetTable.turns t.mask) (hK : way t.mask (dh w k) K ∉ t.place.toList)
    (hKb : ∀ c, c < K → way t.mask (dh w k) c ∈ t.place.toList) {Q : SetFound → Shared → Prop} (hin : k ∈ L.map Prod.snd → Q (.there none) s) (hout : k ∉ L.map Prod.snd → Q (.free (way t.mask (dh w k) K) false) s) :
    ∀ (f c : Nat) (stand : Option SetTable.Probe), stand.getD (t.probeStart (dh w k)) = nth t.mask (runAt t.mask (SetTable.bits (dh w k) % (t.mask + 1)) (SetTable.bits (dh w k))) c → c ≤ K → K - c < f →
      (∀ (i : Nat) (p : Addr × D), L[i]? = some p → p.2 = k → ∃ c', c ≤ c' ∧ c' < K ∧ t.place.toList[i]? = some (way t.mask (dh w k) c')) → wpAny (model P w) A (setSearchFrom a (.ref x) (dh w k) true f stand) Q E s
  | 0, _, _, _, _, hf, _ => absurd hf (Nat.not_lt_zero _)
  | f + 1, c, stand, hst, hc, hf, hre => by
    obtain ⟨o, ho, _, hd⟩ := R.ob
    have gw : ¬ t.gaveWay = true := by
      unfold SetTable.gaveWay
      rw [mask_odd R.tab.mok]
      decide
    rw [setSearchFrom_succ]
    refine wpAny_bind (wpAny_setState_of ho hd R.fits ?_)
    dsimp only
    refine wp_if_neg gw ?_
    try refine wpAny_bind (wpAny_pure ?_)
    generalize hst0 : runAt t.mask (SetTable.bits (dh w k) % (t.mask + 1)) (SetTable.bits (dh w k)) = st0 at hst
    have wy : ∀ q, (nth t.mask st0 q).j = way t.mask (dh w k) q := fun q => by rw [← hst0]
    have hnd : (nth t.mask st0 c).dummy = none := by
      have key : ∀ (n : Nat) (p : SetTable.Probe), p.dummy = none → (nth t.mask p n).dummy = none := by
        intro n
        induction n with
        | zero => exact fun p h => h
        | succ n ih =>
          intro p h
          refine ih (adv t.mask p) ?_
          unfold adv
          split
          · exact h
          · exact h
      refine key c st0 ?_
      rw [← hst0]
      rfl
    have e1 : ∀ q, (nth t.mask (nth t.mask st0 c) q).j = way t.mask (dh w k) (c + q) := fun q => by rw [← nth_add t.mask c st0 q, wy]
    obtain ⟨hA, ehA⟩ : ∃ hA : Nat → Int, hA = fun i => (es[i]?.map (·.1)).getD 0 := ⟨_, rfl⟩
    rw [← ehA]
    have hashAt : ∀ (i : Nat) (p : Addr × D), L[i]? = some p → hA i = dh w p.2 := fun i p hp => by
      rw [ehA]
      show (es[i]?.map (·.1)).getD 0 = _
      rw [rowD_get R.rows hp]
      rfl
    -- where an equal one stands the probe does not pass it
    have nopass : ∀ q, (∀ k' i', k' < q → t.place.toList[i']? = some (nth t.mask (nth t.mask st0 c) k').j → hA i' ≠ dh w k) → ∀ (i0 : Nat) (p0 : Addr × D) (c' : Nat), L[i0]? = some p0 → p0.2 = k → c ≤ c' → t.place.toList[i0]? = some (way t.mask (dh w k) c') → c + q ≤ c' := by
      intro q hno i0 p0 c' h0 hk0 hcc h3
      rcases Nat.lt_or_ge c' (c + q) with z | z
      · refine absurd ((hashAt i0 p0 h0).trans (congrArg (dh w) hk0)) (hno (c' - c) i0 (by omega) ?_)
        rw [e1, show c + (c' - c) = c' by omega]
        exact h3
      · exact z
    have pr : t.probe hA (dh w k) (stand.getD (t.probeStart (dh w k))) = SetTable.probe.go t hA (dh w k) (10 * SetTable.turns t.mask) (nth t.mask st0 c) := by
      rw [hst]
      rfl
    rcases go_spec t R.tab.ris R.tab.dm hA (dh w k) (10 * SetTable.turns t.mask) (K - c) (nth t.mask st0 c) hnd (by omega) (fun q hq => by rw [e1]; exact hKb (c + q) (by omega))
      (by rw [e1, show c + (K - c) = K by omega]; exact hK) with ⟨q, i, hq, hi, hh, hno, hpr⟩ | ⟨hno, hpr⟩
    · rw [pr, hpr]
      dsimp only
      rw [e1] at hi
      have hil : i < L.length := by
        have h1 : i < t.place.toList.length := (List.getElem?_eq_some_iff.mp hi).1
        have h2 := R.tab.sz
        rw [List.length_map] at h2
        have h3 : t.place.toList.length = t.place.size := Array.length_toList
        omega
      obtain ⟨p, hp⟩ : ∃ p, L[i]? = some p := ⟨_, List.getElem?_eq_getElem hil⟩
      have hmem : p ∈ L := List.mem_of_getElem? hp
      have hpt := R.mem p hmem
      have hsl : t.slot (way t.mask (dh w k) (c + q)) = .live i := slot_live R.tab.ris hi
      rw [e1]
      have go : wpAny (model P w) A (searchRest a (.ref x) (dh w k) true f es t (way t.mask (dh w k) (c + q)) i (nth t.mask (nth t.mask st0 c) (q + 1))) Q E s := by
        unfold searchRest
        rw [rowD_get R.rows hp]
        dsimp only
        have hxd := hx.2
        refine wpAny_bind (wpAny_holding (eqAt_D hpt.1 hx.1 (by omega) P w E _ ?_))
        refine wpAny_bind (wpAny_setState_of ho hd R.fits ?_)
        dsimp only
        by_cases hkk : p.2 = k
        · have : deq p.2 k = true := deq_iff.mpr hkk
          refine wp_if_pos (by rw [this]; rfl) ?_
          exact wpAny_pure (hin (List.mem_map.mpr ⟨p, hmem, hkk⟩))
        · have nk : deq p.2 k = false := by
            cases z : deq p.2 k with
            | false => rfl
            | true => exact absurd (deq_iff.mp z) hkk
          refine wp_if_neg (by rw [nk]; decide) ?_
          try refine wpAny_bind (wpAny_pure ?_)
          rw [sameMem]
          dsimp only
          simp only [if_true, hsl, rowD_get R.rows hp]
          refine wpAny_bind (wpAny_isSame_ref_self (wpAny_bind (wpAny_pure ?_)))
          simp only [if_true]
          refine wp_if_neg (by rw [nk]; decide) ?_
          refine find_D R hx hu hKf hK hKb hin hout f (c + (q + 1)) _ ?_ (by omega) (by omega) fun i0 p0 h0 hk0 => ?_
          · rw [hst0, Option.getD_some, ← nth_add t.mask c st0 (q + 1)]
          · obtain ⟨c', a1, a2, a3⟩ := hre i0 p0 h0 hk0
            have np := nopass q hno i0 p0 c' h0 hk0 a1 a3
            refine ⟨c', ?_, a2, a3⟩
            rcases Nat.lt_or_ge (c + q) c' with y | y
            · omega
            · exfalso
              have ec : c' = c + q := Nat.le_antisymm y np
              rw [ec] at a3
              have s0 := slot_live R.tab.ris a3
              rw [hsl] at s0
              injection s0 with s0
              rw [← s0, hp] at h0
              exact hkk ((congrArg Prod.snd (Option.some.inj h0)).trans hk0)
      by_cases hl : t.led = true
      · refine wp_if_neg (by simp [hl]) ?_
        try refine wpAny_bind (wpAny_pure ?_)
        exact go
      · refine wp_if_pos (by simp [hl]) ?_
        refine wpAny_bind (seen_D hx (fun y hy => ?_) ?_)
        · obtain ⟨e, he, ee⟩ := List.mem_map.mp hy
          have he1 : e ∈ es ∧ e.1 = dh w k := by simpa using he
          have he2 : e ∈ es.toList := by simpa using he1.1
          rw [R.rows] at he2
          obtain ⟨p2, hp2, e2⟩ := List.mem_map.mp he2
          exact ⟨p2.2, p2.1, by rw [← ee, ← e2], R.mem p2 hp2⟩
        · refine wp_if_neg (by decide) ?_
          try refine wpAny_bind (wpAny_pure ?_)
          exact go
    · rw [pr, hpr]
      dsimp only
      rw [e1, show c + (K - c) = K by omega]
      refine wpAny_pure (hout fun hm => ?_)
      obtain ⟨p0, h0, hk0⟩ := List.mem_map.mp hm
      obtain ⟨i0, hi0, e0⟩ := List.getElem_of_mem h0
      have h00 : L[i0]? = some p0 := by rw [List.getElem?_eq_getElem hi0, e0]
      obtain ⟨c', a1, a2, a3⟩ := hre i0 p0 h00 hk0
      have := nopass (K - c) hno i0 p0 c' h00 hk0 a1 a3
      omega
theorem search_D (R : SetD w s.heap a L es ep t) {x : Addr} {k : D} (hx : HT_ s.heap k x) (hu : A.units + 8 < cLine) {Q : SetFound → Shared → Prop} (hin : k ∈ L.map Prod.snd → Q (.there none) s)
    (hout : ∀ K, k ∉ L.map Prod.snd → way t.mask (dh w k) K ∉ t.place.toList → (∀ c, c < K → way t.mask (dh w k) c ∈ t.place.toList) → Q (.free (way t.mask (dh w k) K) false) s) : wpAny (model P w) A (setSearch a (.ref x) (dh w k) true) Q E s := by
  have hroom := R.room
  obtain ⟨K, hKf, hK, hKb⟩ := R.tab.first (by rw [List.length_map]; omega) (dh w k)
  have hbig : K < 100000 := by
    have : 10 * SetTable.turns t.mask ≤ 1420 := by
      unfold SetTable.turns
      rcases R.tab.mok with e | e | e <;> omega
    omega
  unfold setSearch
  refine find_D R hx hu hKf hK hKb hin (fun hn => hout K hn hK hKb) 100000 0 none rfl (Nat.zero_le _) (by omega) fun i p hp hk => ?_
  have hi : (L.map fun p => dh w p.2)[i]? = some (dh w k) := by
    rw [List.getElem?_map, hp, ← hk]
    rfl
  have hil : i < t.place.toList.length := by
    have h1 : i < L.length := (List.getElem?_eq_some_iff.mp hp).1
    have h2 := R.tab.sz
    rw [List.length_map] at h2
    have h3 : t.place.toList.length = t.place.size := Array.length_toList
    omega
  have hj := List.getElem?_eq_getElem hil
  obtain ⟨c, hc, e⟩ := R.tab.before hK hi hj
  exact ⟨c, Nat.zero_le _, hc, by rw [hj, e]⟩
end
end K27
end

section
set_option Elab.async false
set_option linter.all false
set_option maxRecDepth 100000
set_option maxHeartbeats 4000000
/-! K27j: sets whose members are tuples (data): adding, making of a list, sorting. -/
namespace K27
open PySem PySem.Spec PyProof.Rows L2
section
variable {P : Program} {w : World} {A : Around} {E : Value → Shared → Prop} {s : Shared} {a : Addr} {L : DL} {es : Array (Int × Value)} {ep : Nat} {t : SetTable}
theorem HT_.keep {h h' : Heap} {d : D} {b : Addr} (x : HT_ h d b) (hk : ∀ c o vs n, h.get? c = some o → o.cls = .type "tuple" → o.data = .seq vs n → h'.get? c = some o) : HT_ h' d b := ⟨HD.at hk d _ x.1, x.2⟩
/-- the set's own change leaves the tuples -/
theorem tups_kept {h h' : Heap} {o : Obj} (ho : h.get? a = some o) (hd : o.data = .set es ep t) (hs : Heap.SameBut a h h') : ∀ c u vs n, h.get? c = some u → u.cls = .type "tuple" → u.data = .seq vs n → h'.get? c = some u := fun c u vs n e _ hdat => by
  refine (hs.2 c fun z => ?_).trans e
  subst z
  rw [ho] at e
  cases e
  rw [hd] at hdat
  cases hdat
theorem rowD_put (L : DL) (p : Nat) (x : Addr × D) : rowD w (L.take p ++ x :: L.drop p) = (rowD w L).take p ++ (dh w x.2, Value.ref x.1) :: (rowD w L).drop p := by
  unfold rowD
  rw [List.map_append, List.map_cons, List.map_take, List.map_drop]
theorem pick_rows {es : Array (Int × Value)} (hr : es.toList = rowD w L) : ∀ l : List Nat, (∀ i ∈ l, i < L.length) → l.filterMap (fun i => es[i]?) = rowD w (l.filterMap fun i => L[i]?) ∧ ((l.filterMap fun i => L[i]?).map fun p => dh w p.2) = l.map fun i => (es.map (·.1)).getD i 0
  | [], _ => ⟨rfl, rfl⟩
  | i :: l, hl => by
    have hi := hl i List.mem_cons_self
    obtain ⟨e1, e2⟩ := pick_rows hr l fun j hj => hl j (List.mem_cons_of_mem _ hj)
    have g := List.getElem?_eq_getElem hi
    have ge := rowD_get hr g
    refine ⟨?_, ?_⟩
    · rw [List.filterMap_cons_some ge, List.filterMap_cons_some g, e1]
      rfl
    · rw [List.filterMap_cons_some g, List.map_cons, List.map_cons, e2]
      have e5 : (es.map (·.1))[i]? = some (dh w L[i].2) := by
        rw [Array.getElem?_map, ge]
        rfl
      rw [Array.getD_eq_getD_getElem?, e5]
      rfl
theorem range_all {α : Type} (l : List α) : ∀ n, n ≤ l.length → (List.range n).filterMap (fun i => l[i]?) = l.take n
  | 0, _ => rfl
  | n + 1, hn => by
    rw [List.range_succ, List.filterMap_append, range_all l n (Nat.le_of_lt hn), List.take_succ, List.getElem?_eq_getElem hn, List.filterMap_cons_some (List.getElem?_eq_getElem hn)]
    rfl
theorem order_D {es : Array (Int × Value)} (hr : es.toList = rowD w L) {order : Array Nat} (hp : order.toList.Perm (List.range L.length)) :
    ∃ L2 : DL, (order.filterMap (es[·]?)).toList = rowD w L2 ∧ L2.Perm L ∧ (L2.map fun p => dh w p.2) = order.toList.map fun i => (es.map (·.1)).getD i 0 := by
  obtain ⟨e1, e2⟩ := pick_rows hr order.toList fun i hi => List.mem_range.mp (hp.mem_iff.mp hi)
  refine ⟨_, by rw [Array.toList_filterMap]; exact e1, ?_, e2⟩
  have h1 := hp.filterMap fun i => L[i]?
  rw [range_all L L.length (Nat.le_refl _), List.take_length] at h1
  exact h1
/-- the table laid anew -/
theorem relay_D {o : Obj} (ho : s.heap.get? a = some o) (hex : o.ExactSet) (hd : o.data = .set es ep t) (hrows : es.toList = rowD w L) (hsz : t.place.size = L.length) (hdm : t.dummies = #[]) (hfl : L.length ≤ t.mask) (nd : (L.map Prod.snd).Nodup)
    (mem : ∀ p ∈ L, HT_ s.heap p.2 p.1) (pl : t.plain = true) (ld : w.params.followText "set-order" = true ∨ t.led = true) (few : L.length < 64) {wanted M : Nat} (hw : SetTable.sizeAbove wanted - 1 = M) (hM : MaskOk M) (hw2 : SetTable.sizeAbove wanted ≤ 128)
    (hn : L.length * 5 < M * 3) {Q : Unit → Shared → Prop} (hQ : ∀ h' L' es' ep' t', Heap.SameBut a s.heap h' → SetD w h' a L' es' ep' t' → L'.Perm L → Q () { s with heap := h' }) : wpAny (model P w) A (setRelay a wanted) Q E s := by
  have hsl := rowD_size hrows
  obtain ⟨t', order, e, hp, T, em, el, ep', ed⟩ := relaid_ok t (hs := es.map (·.1)) (wanted := wanted) hw hM (by rw [Array.size_map, hsl]; omega)
  rw [Array.size_map, hsl] at hp
  obtain ⟨L2, r1, r2, r3⟩ := order_D hrows hp
  rw [← r3] at T
  have hs2 : (order.filterMap (es[·]?)).size = es.size := (rowD_size r1).trans (r2.length_eq.trans hsl.symm)
  rw [setRelay_eq]
  refine wpAny_bind (wpAny_setState_of ho hd (by rw [hsl]; exact fits_of hsz hdm hfl) ?_)
  dsimp only
  refine wp_if_neg (by rw [sizeLine_eq]; omega) ?_
  try refine wpAny_bind (wpAny_pure ?_)
  rw [e]
  dsimp only
  refine wpAny_bind ?_
  refine wp_if_neg (by rw [hs2]; simp) ?_
  try refine wpAny_bind (wpAny_pure ?_)
  refine wpAny_pure ?_
  dsimp only
  refine wpAny_storeSet_of ho hd ?_ (by rw [hs2, hsl, sizeLine_eq]; omega)
  have sb : Heap.SameBut a s.heap (s.heap.update a (Obj.putSet (order.filterMap (es[·]?)) t')) := Heap.SameBut.update ..
  refine hQ _ L2 (order.filterMap (es[·]?)) (ep + 1) t' sb ⟨⟨_, store_at ho hd, ⟨hex.1, hex.2.1, hex.2.2⟩, rfl⟩, r1, T, (r2.map _).nodup_iff.mpr nd, fun p hpm => (mem p (r2.mem_iff.mp hpm)).keep (tups_kept ho hd sb), by rw [ep']; exact pl, by rw [el]; exact ld, ?_, by rw [r2.length_eq]; exact few⟩ r2
  rw [r2.length_eq, em]
  exact hn
theorem add_D (R : SetD w s.heap a L es ep t) {x : Addr × D} (hx : HT_ s.heap x.2 x.1) (hu : A.units + 8 < cLine) (hfew : x.2 ∉ L.map Prod.snd → L.length + 1 < 64) {Q : Bool → Shared → Prop}
    (hQ : ∀ b h' L' es' ep' t', Heap.SameBut a s.heap h' → SetD w h' a L' es' ep' t' → (x.2 ∈ L.map Prod.snd → L' = L) → (x.2 ∉ L.map Prod.snd → L'.Perm (x :: L)) → Q b { s with heap := h' }) : wpAny (model P w) A (setAddHashed a (.ref x.1) (dh w x.2)) Q E s := by
  obtain ⟨o, ho, hex, hd⟩ := R.ob
  have hsl := R.size
  have hroom := R.room
  unfold setAddHashed
  refine wpAny_holding ?_
  rw [show (100000 : Nat) = 99999 + 1 from rfl, setAddHashedIn_succ]
  refine wpAny_bind (wpAny_setState_of ho hd R.fits ?_)
  dsimp only
  refine wp_if_neg (by simp [byScan, Value.scannable]) ?_
  try refine wpAny_bind (wpAny_pure ?_)
  refine wpAny_bind (search_D R hx hu (fun hm => ?_) fun K hm hK hb => ?_)
  · dsimp only
    exact wpAny_pure (hQ false s.heap L es ep t (Heap.SameBut.refl a s.heap) R (fun _ => rfl) fun z => absurd hm z)
  · dsimp only
    refine wpAny_bind (wpAny_setState_of ho hd R.fits ?_)
    dsimp only
    have few1 := hfew hm
    obtain ⟨q1, q2, q3, q4, q5, q6, q7, q8, q9⟩ := R.tab.put hK hb
    have hp1 : (t.put (way t.mask (dh w x.2) K)).1.plain = true := by rw [q6]; exact R.plain
    generalize hpt : t.put (way t.mask (dh w x.2) K) = pt at q1 q3 q4 q5 q6 q7 q8 q9 hp1 ⊢
    obtain ⟨t1, p⟩ := pt
    dsimp only at q1 q3 q4 q5 q6 q7 q8 q9 hp1 ⊢
    subst q1
    refine wp_if_pos hp1 (wpAny_bind (hashBy_D 8 _ _ _ _ _ hx.2 hx.1 ?_))
    simp only [if_true]
    have hin : (SetTable.insertAt es (SetTable.below t.place (way t.mask (dh w x.2) K)) (dh w x.2, Value.ref x.1)).toList = rowD w (L.take (SetTable.below t.place (way t.mask (dh w x.2) K)) ++ x :: L.drop (SetTable.below t.place (way t.mask (dh w x.2) K))) := by
      rw [SetTable.toList_insertAt, rowD_put, R.rows]
    generalize SetTable.below t.place (way t.mask (dh w x.2) K) = p at q2 q3 hin ⊢
    have pm := put_perm L p x
    have hlen : (L.take p ++ x :: L.drop p).length = L.length + 1 := pm.length_eq
    have hhs : (L.take p ++ x :: L.drop p).map (fun p => dh w p.2) = (L.map fun p => dh w p.2).take p ++ dh w x.2 :: (L.map fun p => dh w p.2).drop p := by rw [List.map_append, List.map_cons, List.map_take, List.map_drop]
    rw [← hhs] at q3
    have nd1 : ((L.take p ++ x :: L.drop p).map Prod.snd).Nodup := (pm.map Prod.snd).nodup_iff.mpr (List.nodup_cons.mpr ⟨hm, R.nd⟩)
    have hes := (rowD_size hin).trans hlen
    generalize SetTable.insertAt es p (dh w x.2, Value.ref x.1) = es1 at hin hes ⊢
    generalize L.take p ++ x :: L.drop p = L1 at pm hlen q3 nd1 hin
    refine wpAny_bind (wpAny_storeSet_of ho hd ?_ (by rw [hes, sizeLine_eq]; omega))
    have sb : Heap.SameBut a s.heap (s.heap.update a (Obj.putSet es1 t1)) := Heap.SameBut.update ..
    have ho1 := store_at (es' := es1) (t' := t1) ho hd
    generalize s.heap.update a (Obj.putSet es1 t1) = h1 at sb ho1 ⊢
    have mem1 : ∀ p ∈ L1, HT_ h1 p.2 p.1 := fun p hp => by
      rcases List.mem_cons.mp (pm.mem_iff.mp hp) with e | hp
      · rw [e]; exact hx.keep (tups_kept ho hd sb)
      · exact (R.mem p hp).keep (tups_kept ho hd sb)
    have ld1 : w.params.followText "set-order" = true ∨ t1.led = true := by rw [q5]; exact R.led
    by_cases hf : t1.tooFull = true
    · refine wp_if_pos (by simp [hf]) ?_
      refine wpAny_bind ?_
      have hfull : (L.length + 1) * 5 ≥ t1.mask * 3 := by
        have h := hf
        unfold SetTable.tooFull at h
        rw [decide_eq_true_eq, q9, List.length_map] at h
        exact h
      rw [hsl]
      have hsz1 : t1.place.size = L1.length := by
        have h := q3.sz
        rw [List.length_map] at h
        exact h
      have two : (t.mask = 7 ∧ L.length = 4) ∨ (t.mask = 31 ∧ L.length = 18) := by
        rcases R.tab.mok with e | e | e
        · left; rw [q4, e] at hfull; rw [e] at hroom; exact ⟨e, by omega⟩
        · right; rw [q4, e] at hfull; rw [e] at hroom; exact ⟨e, by omega⟩
        · exfalso; rw [q4, e] at hfull; omega
      have go : ∀ M, SetTable.sizeAbove (SetTable.grown (L.length + 1)) - 1 = M → MaskOk M → SetTable.sizeAbove (SetTable.grown (L.length + 1)) ≤ 128 → (L.length + 1) * 5 < M * 3 →
          wpAny (model P w) A (setRelay a (SetTable.grown (L.length + 1))) (fun _ s' => wpAny (model P w) A (pure true) Q E s') E { s with heap := h1 } := fun M h1' h2' h3' h4' => by
        refine relay_D (s := { s with heap := h1 }) ho1 ⟨hex.1, hex.2.1, hex.2.2⟩ rfl hin hsz1 q3.dm (by rw [q4, hlen]; rcases two with ⟨e, e2⟩ | ⟨e, e2⟩ <;> omega) nd1 mem1 hp1 ld1 (by rw [hlen]; exact few1) h1' h2' h3' (by rw [hlen]; exact h4') ?_
        intro h2 L2 es2 ep2 t2 sb2 R2 pm2
        exact wpAny_pure (hQ true h2 L2 es2 ep2 t2 (sb.trans sb2) R2 (fun z => absurd z hm) fun _ => pm2.trans pm)
      rcases two with ⟨_, e2⟩ | ⟨_, e2⟩
      · exact go 31 (by rw [e2, size_20]) (.inr (.inl rfl)) (by rw [e2, size_20]; decide) (by omega)
      · exact go 127 (by rw [e2, size_76]) (.inr (.inr rfl)) (by rw [e2, size_76]; decide) (by omega)
    · refine wp_if_neg (by simp [hf]) ?_
      refine wpAny_pure (hQ true h1 L1 es1 (ep + 1) t1 sb ⟨⟨_, ho1, ⟨hex.1, hex.2.1, hex.2.2⟩, rfl⟩, hin, q3, nd1, mem1, hp1, ld1, ?_, by rw [hlen]; exact few1⟩ (fun z => absurd z hm) fun _ => pm)
      have h := hf
      unfold SetTable.tooFull at h
      rw [decide_eq_true_eq, q9, List.length_map] at h
      rw [hlen]
      omega
theorem SetD.keep {h h' : Heap} (R : SetD w h a L es ep t) (ha : ∀ o, h.get? a = some o → h'.get? a = some o) (ht : ∀ p ∈ L, HT_ h' p.2 p.1) : SetD w h' a L es ep t := by
  obtain ⟨o, ho, r⟩ := R.ob
  exact ⟨⟨o, ha o ho, r⟩, R.rows, R.tab, R.nd, ht, R.plain, R.led, R.room, R.few⟩
theorem setD_fresh {h : Heap} (ho : h.get? a = some { cls := .type "set", dict := none, data := .set #[] 0 (.fresh 0 0 (!w.params.followText "set-order")) }) : SetD w h a [] #[] 0 (.fresh 0 0 (!w.params.followText "set-order")) where
  ob := ⟨_, ho, ⟨rfl, rfl, rfl⟩, rfl⟩
  rows := rfl
  tab := ⟨List.Pairwise.nil, rfl, rfl, .inl rfl, fun x hx => (by cases hx), fun i h j hi => (by simp at hi)⟩
  nd := List.nodup_nil
  mem := fun p hp => (by cases hp)
  plain := rfl
  led := by
    show _ ∨ (!w.params.followText "set-order") = true
    cases w.params.followText "set-order"
    · exact .inr rfl
    · exact .inl rfl
  room := by
    show 0 * 5 < 7 * 3
    decide
  few := by
    show 0 < 64
    decide
/-- what the set has of the first i items -/
structure Gt (ks : DL) (i : Nat) (L : DL) : Prop where
  sub : ∀ p ∈ L, p ∈ ks.take i
  all : ∀ p ∈ ks.take i, p.2 ∈ L.map Prod.snd
theorem Gt.next {ks L L' : DL} {i : Nat} {x : Addr × D} (g : Gt ks i L) (h : ks[i]? = some x) (c1 : x.2 ∈ L.map Prod.snd → L' = L) (c2 : x.2 ∉ L.map Prod.snd → L'.Perm (x :: L)) : Gt ks (i + 1) L' := by
  have e : ks.take (i + 1) = ks.take i ++ [x] := by
    rw [List.take_succ, h]
    rfl
  refine ⟨fun p hp => ?_, fun p hp => ?_⟩
  · rw [e]
    by_cases c : x.2 ∈ L.map Prod.snd
    · rw [c1 c] at hp
      exact List.mem_append_left _ (g.sub p hp)
    · rcases List.mem_cons.mp ((c2 c).mem_iff.mp hp) with z | z
      · rw [z]; exact List.mem_append_right _ List.mem_cons_self
      · exact List.mem_append_left _ (g.sub p z)
  · rw [e] at hp
    by_cases c : x.2 ∈ L.map Prod.snd
    · rw [c1 c]
      rcases List.mem_append.mp hp with z | z
      · exact g.all p z
      · rw [List.mem_singleton.mp z]; exact c
    · rw [((c2 c).map Prod.snd).mem_iff, List.map_cons]
      rcases List.mem_append.mp hp with z | z
      · exact List.mem_cons_of_mem _ (g.all p z)
      · rw [List.mem_singleton.mp z]; exact List.mem_cons_self
/-- the members of the set lie among few data -/
theorem few_of {U : List D} (hU : U.length < 63) {ks L : DL} {i : Nat} (g : Gt ks i L) (hk : ∀ p ∈ ks, p.2 ∈ U) (nd : (L.map Prod.snd).Nodup) : L.length + 1 < 64 := by
  have := nodup_len _ U nd fun d hd => by
    obtain ⟨p, hp, e⟩ := List.mem_map.mp hd
    rw [← e]
    exact hk p (List.mem_of_mem_take (g.sub p hp))
  rw [List.length_map] at this
  omega
/-- set.update's loop -/
theorem update_D {I : Addr} {fp wr : List Addr} {G : Array GenState → Array GenState → Prop} {n : Nat} {Pv : Nat → Value → Prop} {St : Nat → Shared → Prop} {R : Result → Shared → Prop} (W : WalksS P w A.in1 I fp wr G n Pv St) (S : Addr) (hSf : S ∉ fp) (ks : DL) {U : List D}
    (hn : n = ks.length) (hU : U.length < 63) (hkU : ∀ p ∈ ks, p.2 ∈ U) (hval : ∀ i v, Pv i v → ∃ p, ks[i]? = some p ∧ v = .ref p.1) (h0 : Heap) (hk : ∀ p ∈ ks, HT_ h0 p.2 p.1) (hS0 : h0.get? S = none) (hw0 : ∀ b ∈ wr, h0.get? b = none) (hu : A.in1.units + 8 < cLine) :
    ∀ (k i : Nat) (s : Shared), n - i = k → i ≤ n → St i s → (∀ b o, h0.get? b = some o → s.heap.get? b = some o) → (∃ L es ep t, SetD w s.heap S L es ep t ∧ Gt ks i L) →
      (∀ s' L es ep t, Moved (S :: wr) G s s' → SetD w s'.heap S L es ep t → Gt ks n L → (∀ b o, h0.get? b = some o → s'.heap.get? b = some o) → R (.ok (.ret .none)) s') → codeAny (model P w) A (.builtin "set.update.loop" ⟨[.ref S, .ref I], []⟩) R s := by
  have hSw : S ∉ wr := fun h => hSf (W.sub _ h)
  have hsub : ∀ b ∈ wr, b ∈ S :: wr := fun b hb => List.mem_cons_of_mem _ hb
  have keepM : ∀ {s s' : Shared}, Moved wr G s s' → (∀ b o, h0.get? b = some o → s.heap.get? b = some o) → ∀ b o, h0.get? b = some o → s'.heap.get? b = some o := fun hm hkp b o e =>
    hm.heap b o (fun hb => by rw [hw0 b hb] at e; cases e) (hkp b o e)
  have at_ : ∀ {h : Heap}, (∀ b o, h0.get? b = some o → h.get? b = some o) → ∀ p ∈ ks, HT_ h p.2 p.1 := fun hkp p hp => (hk p hp).keep fun c o _ _ e _ _ => hkp c o e
  intro k
  induction k with
  | zero =>
    intro i s hk' hi hst hkp ⟨L, es, ep, t, hS, g⟩ hR
    have hin : i = n := by omega
    subst hin
    refine codeAny_builtin F.entry_set_update_loop ?_
    rw [Around.under_plainId F.plain_set_update_loop _]
    show wpAny _ A.in1 (pyNext (.ref I) >>= _) _ _ s
    refine wpAny_bind (W.done s _ _ hst fun s' hm => ?_)
    show wpAny _ A.in1 (ret Value.none) _ _ s'
    have hkp' := keepM hm hkp
    exact wpAny_pure (hR s' L es ep t (hm.mono hsub) (hS.keep (fun o e => hm.heap S o hSw e) fun p hp => at_ hkp' p (List.mem_of_mem_take (g.sub p hp))) g hkp')
  | succ k ih =>
    intro i s hk' hi hst hkp ⟨L, es, ep, t, hS, g⟩ hR
    have hlt : i < n := by omega
    refine codeAny_builtin F.entry_set_update_loop ?_
    rw [Around.under_plainId F.plain_set_update_loop _]
    show wpAny _ A.in1 (pyNext (.ref I) >>= _) _ _ s
    refine wpAny_bind (W.item i s _ _ hlt hst fun v s' hP hst' hm => ?_)
    obtain ⟨p, hp, rfl⟩ := hval i v hP
    have hkp' := keepM hm hkp
    have hS' : SetD w s'.heap S L es ep t := hS.keep (fun o e => hm.heap S o hSw e) fun q hq => at_ hkp' q (List.mem_of_mem_take (g.sub q hq))
    have hx := at_ hkp' p (List.mem_of_getElem? hp)
    show wpAny _ A.in1 (holding [Value.ref p.1] (setAdd S (.ref p.1)) >>= _) _ _ s'
    refine wpAny_bind (wpAny_holding ?_)
    unfold setAdd
    refine wpAny_holding ?_
    have hxd := hx.2
    refine wpAny_bind (pyHash_key (toKey p.2) (.ref p.1) A.in1 s' _ (HD.key _ _ hx.1) (by rw [dep_key_]; omega) ?_)
    refine add_D (s := { s' with toks := s'.toks + (toKey p.2).draws }) hS' hx hu (fun _ => few_of hU g hkU hS'.nd) fun b h' L' es' ep' t' hsb hS2 c1 c2 => ?_
    have hkp2 : ∀ b o, h0.get? b = some o → h'.get? b = some o := fun b o e => (hsb.2 b (fun z => by rw [z, hS0] at e; cases e)).trans (hkp' b o e)
    refine wpAny_pure ⟨plainId_quiet F.plain_set_update_loop _, ih (i + 1) _ (by omega) hlt (W.frame _ s' _ _ hst' (Nat.le_add_right _ _) fun b hb o e => ?_) hkp2 ⟨L', es', ep', t', hS2, g.next hp c1 c2⟩ fun s'' L2 es2 ep2 t2 hm'' hS'' g'' hkp'' => ?_⟩
    · rw [hsb.2 b (fun h : b = S => hSf (by rw [← h]; exact hb))]
      exact e
    · refine hR s'' L2 es2 ep2 t2 (Moved.trans W.gtrans ((hm.mono hsub).then_heap (Nat.le_add_right _ _) fun b o hb e => ?_) hm'') hS'' g'' hkp''
      rw [hsb.2 b (fun h : b = S => hb (by rw [h]; exact List.mem_cons_self))]
      exact e
end
end K27
end

section
set_option Elab.async false
set_option linter.all false
set_option maxRecDepth 100000
set_option maxHeartbeats 4000000
/-! K27k: set(xs), sorted(set). -/
namespace K27
open PySem PySem.Spec PyProof.Rows L2
/-- the object of a new set -/
abbrev freshSet (w : World) : Obj := { cls := .type "set", dict := none, data := .set #[] 0 (.fresh 0 0 (!w.params.followText "set-order")) }
section
variable {P : Program} {w : World} {A : Around} {E : Value → Shared → Prop} {s : Shared}
/-- set(xs) of a list: what its loop leaves is left -/
theorem call_set_core {l : Addr} {items : Array Value} {Good : Heap → Prop} {Q : Value → Shared → Prop} (hh : A.handled = none) (hl : s.heap.IsList l items)
    (loop : ∀ {A' : Around} {I : Addr} {fp wr : List Addr} {G : Array GenState → Array GenState → Prop} {St : Nat → Shared → Prop} {R : Result → Shared → Prop} (s2 : Shared) (W : WalksS P w A'.in1 I fp wr G items.size (fun i v => items[i]? = some v) St), A'.units ≤ A.units + 4 → s.heap.objs.size ∉ fp →
      (∀ b ∈ wr, s.heap.get? b = none) → St 0 s2 → (∀ b o, s.heap.get? b = some o → s2.heap.get? b = some o) → s2.heap.get? s.heap.objs.size = some (freshSet w) →
      (∀ s', Moved (s.heap.objs.size :: wr) G s2 s' → Good s'.heap → (∀ b o, s.heap.get? b = some o → s'.heap.get? b = some o) → R (.ok (.ret .none)) s') → codeAny (model P w) A' (.builtin "set.update.loop" ⟨[.ref s.heap.objs.size, .ref I], []⟩) R s2)
    (h : ∀ (h' : Heap) (tk : Nat), Good h' → (∀ b o, s.heap.get? b = some o → h'.get? b = some o) → Q (.ref s.heap.objs.size) { s with heap := h', toks := tk }) : wpAny (model P w) A (call (.type "set") [.ref l]) Q E s := by
  have new_ : ∀ b, s.heap.objs.size ≤ b → s.heap.get? b = none := fun b hb => Heap.get?_none_of_le hb
  obtain ⟨_, _, hmro⟩ := F.called_set.mro
  have hmade := F.called_set.made
  have hsub := F.called_set.sub
  refine wpAny_call (codeAny_of_tree ?_)
  show wpAny _ _ (callAny (.type "set") _) _ _ _
  refine wpAny_pure ⟨Code.quiet_builtin _ (by decide +kernel), codeAny_builtin F.entry_type_call ?_⟩
  rw [Around.under_plain (weight_type_call_type "set" [.ref l] []) rfl]
  have h1 := F.called_set.notType
  have h2 := F.called_set.canCreate
  have hct := F.typeCall_set_1 (.ref l)
  repeat (any_goals (first | assumption | wp_step))
  refine codeAny_mono (code_set_led1 (.ref l) (E := E) (Q₁ := fun obj s₁ => obj = .ref s.heap.objs.size ∧ s₁ = { s with heap := s.heap.push (freshSet w) }) ⟨rfl, rfl⟩) fun r s₁ hr => ?_
  cases r with
  | error e => exact hr
  | ok fl =>
    cases fl with
    | next => exact hr.elim
    | brk => exact hr.elim
    | cont => exact hr.elim
    | ret obj =>
      obtain ⟨rfl, rfl⟩ := hr
      have hS : (s.heap.push (freshSet w)).get? s.heap.objs.size = some (freshSet w) := Heap.get?_push_size _ rfl
      have hT : Shared.TypeIs { s with heap := s.heap.push (freshSet w) } (.ref s.heap.objs.size) "set" := ⟨_, hS, rfl⟩
      have hli := F.called_set.init.lookup
      have hbi := F.called_set.init.bind (.ref s.heap.objs.size)
      repeat (any_goals (first | assumption | wp_step))
      refine codeAny_mono (codeAny_call_builtin (R := wants (fun r s₂ => r = .none ∧ ∃ h' tk, s₂ = { s with heap := h', toks := tk } ∧ Good h' ∧ ∀ b o, s.heap.get? b = some o → h'.get? b = some o) E) F.called_set.init.plain F.entry_set_init (check_set_init_1 hT ?_)) fun r₂ s₂ hr₂ => ?_
      · obtain ⟨⟨ocls, odict, odata, oslots⟩, hol, hcl, nl, hdl⟩ := hl
        simp only at hcl hdl
        subst hcl
        subst hdl
        have hol' : (s.heap.push (freshSet w)).get? l = some { cls := .type "list", dict := odict, data := .seq items nl, slots := oslots } := Heap.get?_push_of_some _ hol
        have hsls := F.sub_list_set
        have hslf := F.sub_list_frozenset
        have hne : (Value.type "list" == Value.type "dict") = false := by decide
        have hl1 : (s.heap.push (freshSet w)).IsList l items := ⟨_, hol', rfl, nl, rfl⟩
        unfold Builtin.«set.__init__» noKeywords Builtin.Frozenset.updateFrom
        generalize hPI : pyIter = PI
        wp_walk
        subst hPI
        refine wpAny_pyIter_list hl1 (wpAny_bind (wpAny_runValue ?_))
        have hlS : l < s.heap.objs.size := Heap.lt_size hol
        have hz : (s.heap.push (freshSet w)).objs.size = s.heap.objs.size + 1 := Heap.size_push _ _
        have hh3 : A.in1.in1.in1.handled = none := by simp [hh]
        have hneI : l ≠ (s.heap.push (freshSet w)).objs.size := by rw [hz]; exact Nat.ne_of_lt (Nat.lt_succ_of_lt hlS)
        refine loop _ ((Walks.list hh3 _ l hneI items).toS) (by simp) ?_ (fun b hb => ?_) ⟨⟨_, Heap.get?_push_size _ rfl, rfl, rfl⟩, (hl1.push _)⟩ (fun b o e => Heap.get?_push_of_some _ (Heap.get?_push_of_some _ e)) (Heap.get?_push_of_some _ hS) fun s' hm hG hk => ?_
        · rw [hz]
          simp only [List.mem_cons, List.not_mem_nil, or_false, not_or]
          exact ⟨Nat.ne_of_lt (Nat.lt_succ_self _), Nat.ne_of_gt hlS⟩
        · rw [List.mem_singleton.mp hb, hz]
          exact new_ _ (Nat.le_succ _)
        · obtain ⟨h', g2, d', tk', os'⟩ := s'
          have eg : g2 = s.gens := hm.gens
          have ed : d' = s.drawn := hm.drawn
          have eo : os' = s.os := hm.os
          subst eg
          subst ed
          subst eo
          show wpAny _ _ _ _ _ _
          refine wpAny_pure ?_
          show wpAny _ _ (ret Value.none) _ _ _
          exact wpAny_pure ⟨rfl, h', tk', rfl, hG, hk⟩
      · cases r₂ with
        | error e => exact hr₂
        | ok fl₂ =>
          cases fl₂ with
          | next => exact hr₂.elim
          | brk => exact hr₂.elim
          | cont => exact hr₂.elim
          | ret r =>
            obtain ⟨rfl, h', tk, rfl, hG, hk'⟩ := hr₂
            repeat (any_goals (first | assumption | wp_step))
            exact h _ _ hG hk'
/-- .. of ints -/
theorem call_set_listI {l : Addr} {items : Array Value} (ns : List Int) {Q : Value → Shared → Prop} (hh : A.handled = none) (hl : s.heap.IsList l items) (hit : IntsAre items.toList ns) (hb : ns.length + 1 < scanBound)
    (h : ∀ (h' : Heap) (tk c : Nat), SetR w h' s.heap.objs.size (fun j => decide (j ∈ ns)) c → (∀ b o, s.heap.get? b = some o → h'.get? b = some o) → Q (.ref s.heap.objs.size) { s with heap := h', toks := tk }) : wpAny (model P w) A (call (.type "set") [.ref l]) Q E s := by
  have hisz : items.size = ns.length := Array.length_toList.symm.trans hit.length
  refine call_set_core (Good := fun h' => ∃ c, SetR w h' s.heap.objs.size (fun j => decide (j ∈ ns)) c) hh hl (fun {A' I fp wr G St R} s2 W _ hSf hwr hst hkp hS hR => ?_) fun h' tk ⟨c, hc⟩ hk => h h' tk c hc hk
  refine set_update_ints W s.heap.objs.size hSf ns hisz hb (fun i v hv => ?_) (items.size - 0) 0 s2 rfl (Nat.zero_le _) hst ⟨0, Nat.le_refl 0, setR_new_at hS⟩ fun s' c hm _ hc => hR s' hm ⟨c, hc⟩ fun b o e => ?_
  · have hi : i < ns.length := by rw [← hisz]; exact (Array.getElem?_eq_some_iff.mp hv).1
    obtain ⟨t, e⟩ := PyProof.Rows.IntsAre.int_at hit i v (by rw [Array.getElem?_toList]; exact hv)
    refine ⟨ns[i], t, List.getElem?_eq_getElem hi, ?_⟩
    rw [e, List.getD_eq_getElem?_getD, List.getElem?_eq_getElem hi]
    rfl
  · refine hm.heap b o (fun hb => ?_) (hkp b o e)
    rcases List.mem_cons.mp hb with z | z
    · rw [z] at e
      exact absurd (Heap.lt_size e) (Nat.lt_irrefl _)
    · rw [hwr b z] at e
      cases e
/-- .. of data -/
theorem call_set_D {l : Addr} {items : Array Value} (ks : DL) {U : List D} {Q : Value → Shared → Prop} (hh : A.handled = none) (hl : s.heap.IsList l items) (hit : items.toList = ks.map fun p => Value.ref p.1) (hk : ∀ p ∈ ks, HT_ s.heap p.2 p.1) (hU : U.length < 63) (hkU : ∀ p ∈ ks, p.2 ∈ U)
    (hu : A.units + 16 < cLine) (h : ∀ (h' : Heap) (tk : Nat) L es ep t, SetD w h' s.heap.objs.size L es ep t → Gt ks ks.length L → (∀ b o, s.heap.get? b = some o → h'.get? b = some o) → Q (.ref s.heap.objs.size) { s with heap := h', toks := tk }) :
    wpAny (model P w) A (call (.type "set") [.ref l]) Q E s := by
  have hisz : items.size = ks.length := by
    have q := congrArg List.length hit
    rw [List.length_map] at q
    rw [← q]
    simp
  refine call_set_core (Good := fun h' => ∃ L es ep t, SetD w h' s.heap.objs.size L es ep t ∧ Gt ks ks.length L) hh hl (fun {A' I fp wr G St R} s2 W hA hSf hwr hst hkp hS hR => ?_) fun h' tk ⟨L, es, ep, t, hc, g⟩ hk => h h' tk L es ep t hc g hk
  refine update_D W s.heap.objs.size hSf ks hisz hU hkU (fun i v hv => ?_) s.heap hk (Heap.get?_none_of_le (Nat.le_refl _)) hwr (by show A'.units + 1 + 8 < cLine; omega) (items.size - 0) 0 s2 rfl (Nat.zero_le _) hst hkp ⟨[], #[], 0, _, setD_fresh hS, ⟨fun p hp => (by cases hp), fun p hp => (by simp at hp)⟩⟩
    fun s' L es ep t hm hD g hkp' => hR s' hm ⟨L, es, ep, t, hD, by rw [← hisz]; exact g⟩ hkp'
  have q : items.toList[i]? = some v := by rw [Array.getElem?_toList]; exact hv
  rw [hit, List.getElem?_map] at q
  cases hq : ks[i]? with
  | none => rw [hq] at q; cases q
  | some p =>
    rw [hq] at q
    exact ⟨p, rfl, (Option.some.inj q).symm⟩
/-- sorted(set) of data -/
theorem sorted_set_D {a : Addr} {L : DL} {es : Array (Int × Value)} {ep : Nat} {t : SetTable} {b : Bool} {Q : Value → Shared → Prop} (R : SetD w s.heap a L es ep t) (hh : A.handled = none) (hf : ∀ p ∈ L, Fst b p.2) (hc : ∀ p ∈ L, ∀ q ∈ L, cpt p.2 q.2) (hu : A.units + 16 < cLine)
    (hQ : ∀ s' p (out : List Value) (c : Nat), (∀ b o, s.heap.get? b = some o → s'.heap.get? b = some o) → s'.gens = s.gens → s'.os = s.os → s.heap.objs.size ≤ p → s'.heap.get? p = some (seqObj "list" out.toArray c) → out.Perm (L.map fun q => Value.ref q.1) →
      out.Pairwise (fun v u => dlt (kH s.heap u) (kH s.heap v) = false) → Q (.ref p) s') : wpAny (model P w) A (call (.builtin "sorted") [.ref a]) Q E s := by
  obtain ⟨o, ho, hex, hd⟩ := R.ob
  have hsz := R.size
  have hfew := R.few
  refine Calls.call_function_entry kind_sorted plain_sorted entry_sorted (args_sorted1 _) ?_
  unfold Builtin.«sorted»
  refine wpAny_bind (m := checkCount "sorted" 1 1 _) (wpAny_pure ?_)
  refine wpAny_bind (collect_set (A := A.in1) hh ⟨o, ho, hex.1, hd⟩ R.fits (by unfold scanBound; omega) R.tab.ris R.led fun s1 vs k1 hz g1 o1 pm => ?_)
  have hes : es.toList.map (·.2) = L.map fun q => Value.ref q.1 := by
    rw [R.rows]
    unfold rowD
    rw [List.map_map]
    rfl
  rw [hes] at pm
  have hvl : vs.length < 64 := by rw [pm.length_eq, List.length_map]; exact hfew
  refine wpAny_bind (wpAny_newList ?_ (by rw [sizeLine_eq]; omega))
  have hoL : (s1.heap.push (seqObj "list" vs.toArray 0)).get? s1.heap.objs.size = some (seqObj "list" vs.toArray 0) := Heap.get?_push_size _ rfl
  have item : ∀ {h' : Heap}, (∀ c u, s.heap.get? c = some u → u.cls = .type "tuple" → h'.get? c = some u) → ∀ v ∈ vs, HD h' (kH s.heap v) v ∧ dep (kH s.heap v) ≤ 8 ∧ ∃ p ∈ L, kH s.heap v = p.2 := fun {h'} kp v hv => by
    obtain ⟨p, hp, e⟩ := List.mem_map.mp (pm.mem_iff.mp hv)
    subst e
    have x := R.mem p hp
    have ek := kH_eq x.1
    rw [ek]
    exact ⟨HD.at (fun c u vs n e1 e2 _ => kp c u e1 e2) _ _ x.1, x.2, p, hp, rfl⟩
  refine wpAny_bind (wpAny_holding (wpAny_call_entry slot_list_sort ⟨_, hoL, rfl⟩ entry_list_sort (SrtO.list_sort_ord (swo_D fun v => kH s.heap v) hoL (by rw [sizeLine_eq]; omega) (fun h2 h' keep => ?_) fun out a1 a2 => ⟨_, rfl, ?_⟩) (args_list_sort _)))
  · have kp : ∀ c u, s.heap.get? c = some u → u.cls = .type "tuple" → h'.get? c = some u := fun c u e _ => by
      have q := k1 c u e
      exact keep c u (Nat.ne_of_lt (Heap.lt_size q)) (Heap.get?_push_of_some _ q)
    refine ⟨tuples' b, fun Q E hq => ?_, ?_⟩
    · refine kind_D (k := kH s.heap) (b := b) (fun v hv => ⟨(item kp v hv).1, ?_⟩) (by omega) hq
      obtain ⟨_, _, p, hp, e⟩ := item kp v hv
      rw [e]
      exact hf p hp
    · refine cmp_D (k := kH s.heap) (b := b) (fun v hv => ⟨(item kp v hv).1, ?_⟩) (fun v hv u hu => ?_) fun v hv => ?_
      · obtain ⟨_, _, p, hp, e⟩ := item kp v hv
        rw [e]
        exact hf p hp
      · obtain ⟨_, _, p, hp, e⟩ := item kp v hv
        obtain ⟨_, _, q, hq, e'⟩ := item kp u hu
        rw [e, e']
        exact hc p hp q hq
      · have := (item kp v hv).2.1
        show A.units + 1 + 1 + _ < cLine
        omega
  · obtain ⟨c, hc'⟩ := sortedHeap_at (vs := vs) (out := out.toArray) hoL
    refine wpAny_pure ⟨_, rfl, hQ _ s1.heap.objs.size out c (fun b u e => ?_) g1 o1 hz hc' (a2.perm.trans pm) a1⟩
    have q := k1 b u e
    have hlt := Heap.lt_size q
    show (sortedHeap (s1.heap.push (seqObj "list" vs.toArray 0)) s1.heap.objs.size vs out.toArray).get? b = some u
    rw [sortedHeap_old (Nat.ne_of_lt hlt) (by rw [size_push']; exact Nat.lt_succ_of_lt hlt)]
    exact Heap.get?_push_of_some _ q
end

/-! ### as rules of the layer -/
section
variable {X : Cx}
/-- set(xs), xs a list or tuple of ints, of few kinds -/
def rSetI (K : PySem.W.Frag) (w : World) : List V → Hp → VK → Prop := fun xs H Q => ∃ (l : Addr) (ns U : List Int), xs = [.ref l] ∧ (SqL K H l (ns.map V.int) ∨ SqT K H l (ns.map V.int)) ∧ ns.length ≤ 1000 ∧ (∀ n ∈ ns, n ∈ U) ∧ U.length < 64 ∧
  ∀ a c, H a = none → c < 64 → Q (.ref a) (upd H a (SetO w a (fun j => decide (j ∈ ns)) c))
theorem few_ints {w : World} {h : Heap} {a : Addr} {ns U : List Int} {c : Nat} (R : SetR w h a (fun j => decide (j ∈ ns)) c) (hU : ∀ n ∈ ns, n ∈ U) : c ≤ U.length := by
  obtain ⟨o, es, ep, t, _, _, _, _, nd, hm, _, _, hc, _⟩ := R
  have := nodup_len _ U nd fun k hk => hU k (of_decide_eq_true ((hm k).mpr hk))
  rw [List.length_map, Array.length_toList] at this
  omega
theorem cr_setI (hc : X.calm = true) : CallR X (.type "set") (rSetI X.K X.w) := by
  intro pins s σ H xs us Q I r h
  obtain ⟨l, ns, U, rfl, hl, hlen, hU, hUl, q⟩ := h
  rw [Vals.ref1 r]
  have hn : H s.heap.objs.size = none := I.hok.fresh (Nat.le_refl _)
  have hb : ns.length + 1 < scanBound := Nat.lt_of_le_of_lt (Nat.succ_le_succ hlen) (by decide)
  have fin : ∀ (h' : Heap) (tk c : Nat), SetR X.w h' s.heap.objs.size (fun j => decide (j ∈ ns)) c → (∀ b o, s.heap.get? b = some o → h'.get? b = some o) → EP X pins σ Q (.ref s.heap.objs.size) { s with heap := h', toks := tk } := fun h' tk c R k =>
    ⟨.ref s.heap.objs.size, upd H s.heap.objs.size (SetO X.w s.heap.objs.size (fun j => decide (j ∈ ns)) c), I.laid (t' := tk) k (Nat.le_refl _) (setO_new R), rfl, q _ c hn (Nat.lt_of_le_of_lt (few_ints R hU) hUl)⟩
  rcases hl with hl | hl
  · obtain ⟨its, rv, pl, hz⟩ := I.list hl
    exact call_set_listI ns (I.ok.hd hc) pl.isList (by simpa using rv.ints) hb fin
  · obtain ⟨its, rv, pl, hz⟩ := I.tuple hl
    exact call_set_tupI ns (I.ok.hd hc) pl (by simpa using rv.ints) hb fun h' tk c R _ k => fin h' tk c R k
/-- the set at a, without its tuples -/
structure Set0 (w : World) (h : Heap) (a : Addr) (L : DL) : Prop where
  ex : ∃ (es : Array (Int × Value)) (ep : Nat) (t : SetTable), (∃ o, h.get? a = some o ∧ o.ExactSet ∧ o.data = .set es ep t) ∧ es.toList = rowD w L ∧ TabOk t (L.map fun p => dh w p.2) ∧ (L.map Prod.snd).Nodup ∧ t.plain = true ∧
    (w.params.followText "set-order" = true ∨ t.led = true) ∧ L.length * 5 < t.mask * 3 ∧ L.length < 64
def SetDO (w : World) (a : Addr) (L : DL) : HO := .ext fun h => Set0 w h a L
theorem setDO_new {P : Program} {w : World} {H : Hp} {h : Heap} {a : Addr} {L : DL} {es : Array (Int × Value)} {ep : Nat} {t : SetTable} (R : SetD w h a L es ep t) : ObjOk P w H h a (SetDO w a L) := by
  have ⟨o, ho, r⟩ := R.ob
  refine ⟨⟨es, ep, t, R.ob, R.rows, R.tab, R.nd, R.plain, R.led, R.room, R.few⟩, ⟨o, ho⟩, fun h1 h2 p k => ?_⟩
  have ⟨es', ep', t', ⟨o', ho', r'⟩, q'⟩ := Set0.ex p
  exact ⟨es', ep', t', ⟨o', k o' ho', r'⟩, q'⟩
/-- set(xs), xs a list of tuples (data), of few kinds -/
def rSetD (K : PySem.W.Frag) (w : World) : List V → Hp → VK → Prop := fun xs H Q => ∃ (l : Addr) (ks : DL) (U : List D), xs = [.ref l] ∧ SqL K H l (ks.map fun p => V.ref p.1) ∧ (∀ p ∈ ks, RD H p.2 (.ref p.1) ∧ dep p.2 ≤ 8) ∧ (∀ p ∈ ks, p.2 ∈ U) ∧ U.length < 63 ∧
  ∀ a L, H a = none → (∀ p ∈ L, p ∈ ks) → (∀ p ∈ ks, p.2 ∈ L.map Prod.snd) → (L.map Prod.snd).Nodup → Q (.ref a) (upd H a (SetDO w a L))
theorem vrefs_of : ∀ {ks : DL} {us : List Value}, Vals (ks.map fun p => V.ref p.1) us → us = ks.map fun p => Value.ref p.1
  | [], _, .nil => rfl
  | p :: ks, _, .cons r t => by
    cases r
    rw [vrefs_of t]
    rfl
theorem cr_setD (hc : X.calm = true) (hu : X.A.units + 64 < cLine) : CallR X (.type "set") (rSetD X.K X.w) := by
  intro pins s σ H xs us Q I r h
  obtain ⟨l, ks, U, rfl, hl, hk, hkU, hU, q⟩ := h
  rw [Vals.ref1 r]
  obtain ⟨its, rv, pl, hz⟩ := I.list hl
  have hn : H s.heap.objs.size = none := I.hok.fresh (Nat.le_refl _)
  refine call_set_D ks (I.ok.hd hc) pl.isList (by simpa using vrefs_of rv) (fun p hp => ⟨RD.hd I _ _ _ (hk p hp).1 rfl, (hk p hp).2⟩) hU hkU (by omega) fun h' tk L es ep t R g k => ?_
  refine ⟨.ref s.heap.objs.size, upd H s.heap.objs.size (SetDO X.w s.heap.objs.size L), I.laid (t' := tk) k (Nat.le_refl _) (setDO_new R), rfl, q _ L hn (fun p hp => List.mem_of_mem_take (g.sub p hp)) (fun p hp => g.all p (by rw [List.take_length]; exact hp)) R.nd⟩
/-- sorted(set) -/
def rSortSetD (w : World) : List V → Hp → VK → Prop := fun vs H Q => ∃ (a : Addr) (L : DL) (b : Bool), vs = [V.ref a] ∧ H a = some (SetDO w a L) ∧ (∀ p ∈ L, RD H p.2 (.ref p.1) ∧ dep p.2 ≤ 8 ∧ Fst b p.2) ∧ (∀ p ∈ L, ∀ q ∈ L, cpt p.2 q.2) ∧
  ∀ (ds : List D) (ys : List V) (p : Addr), ds.Perm (L.map Prod.snd) → ds.Nodup → ds.length < 64 → ds.Pairwise (fun d e => dlt e d = false) → F2 (RD H) ds ys → H p = none → Q (.ref p) (upd H p (.lst ys))
theorem cr_sortSetD (hc : X.calm = true) (hu : X.A.units + 64 < cLine) : CallR X (.builtin "sorted") (rSortSetD X.w) := by
  intro pins s σ H vs us Q I r h
  obtain ⟨a, L, b, rfl, ha, hk, hcp, q⟩ := h
  rw [Vals.ref1 r]
  have R0 : Set0 X.w s.heap a L := (I.hok a _ ha).1
  obtain ⟨es, ep, t, h1, h2, h3, h4, h5, h6, h7, h8⟩ := R0.ex
  have R : SetD X.w s.heap a L es ep t := ⟨h1, h2, h3, h4, fun p hp => ⟨RD.hd I _ _ _ (hk p hp).1 rfl, (hk p hp).2.1⟩, h5, h6, h7, h8⟩
  refine sorted_set_D (b := b) R (I.ok.hd hc) (fun p hp => (hk p hp).2.2) hcp (by omega) fun s' p out c k g o hp hg pm srt => ?_
  have hn : H p = none := I.hok.fresh hp
  have isr : ∀ u ∈ out, ∃ a, u = Value.ref a := fun u hu => by
    obtain ⟨q, _, e⟩ := List.mem_map.mp (pm.mem_iff.mp hu)
    exact ⟨q.1, e.symm⟩
  have hlen : (out.map backV).length ≤ sizeLine := by rw [List.length_map, pm.length_eq, List.length_map, sizeLine_eq]; omega
  have J : Inv X pins σ (upd H p (.lst (out.map backV))) { s with heap := s'.heap, gens := s'.gens, drawn := s'.drawn, toks := s'.toks } :=
    I.call (ch := []) (Un.laid k hp hn) (I.hok.laid k hp ⟨hlen, out, c, vals_back isr, hg⟩) (by rw [g]; exact I.bare) (fun _ z => nomatch z)
  have e : s' = { s with heap := s'.heap, gens := s'.gens, drawn := s'.drawn, toks := s'.toks } := by
    cases s'
    cases s
    cases o
    rfl
  rw [e]
  have pmV : (out.map backV).Perm (L.map fun q => V.ref q.1) := by
    have z := pm.map backV
    rw [List.map_map] at z
    exact z
  have base : F2 (RD H) (L.map Prod.snd) (L.map fun q => V.ref q.1) := by
    have : ∀ l : DL, (∀ p ∈ l, RD H p.2 (.ref p.1)) → F2 (RD H) (l.map Prod.snd) (l.map fun q => V.ref q.1) := by
      intro l
      induction l with
      | nil => intro _; exact .nil
      | cons p l ih => intro hl; exact .cons (hl p List.mem_cons_self) (ih fun q hq => hl q (List.mem_cons_of_mem _ hq))
    exact this L fun p hp => (hk p hp).1
  obtain ⟨ds, f1, f2⟩ := F2.perm pmV base
  refine ⟨.ref p, _, J, rfl, q ds _ p f2 (f2.nodup_iff.mpr R.nd) (by rw [f2.length_eq, List.length_map]; exact h8) ?_ f1 hn⟩
  refine F2.pw (T := fun x y => ∀ d e, RD H d x → RD H e y → dlt e d = false) (fun d d' x x' r r' t => t d d' r r') f1 (List.pairwise_map.mpr (List.Pairwise.imp_of_mem (fun {u v} hu hv t d e rd re => ?_) srt))
  obtain ⟨a1, rfl⟩ := isr u hu
  obtain ⟨a2, rfl⟩ := isr v hv
  have k1 := kH_eq (RD.hd I d _ (.ref a1) rd rfl)
  have k2 := kH_eq (RD.hd I e _ (.ref a2) re rfl)
  rw [k1, k2] at t
  exact t
end
end K27
end

section
set_option Elab.async false
set_option linter.all false
set_option maxRecDepth 100000
set_option maxHeartbeats 4000000
/-! K27l: a dict from data (tuples) to truths. -/
namespace K27
open PySem PySem.Spec PyProof.Rows L2
abbrev KL := List (D × Addr × Bool)
def rawK (L : KL) : List (NestedKey × Addr × Value) := L.map fun p => (toKey p.1, p.2.1, Value.bool p.2.2)
/-- what is known at d -/
def klook (L : KL) (d : D) : Option Bool := (L.find? fun p => decide (p.1 = d)).map fun p => p.2.2
def Kn0 (P : Program) (w : World) (h : Heap) (a : Addr) (L : KL) : Prop := (a == sysModules) = false ∧ ∃ o es ep, h.get? a = some o ∧ o.ExactDict ∧ o.data = .dict es ep ∧ es.toList = (rawK L).map (entryOfKey (nestedKind P w)) ∧ (L.map Prod.fst).Nodup
def KnO (P : Program) (w : World) (a : Addr) (L : KL) : HO := .ext fun h => Kn0 P w h a L
/-- the keys stand -/
def KeysAt (H : Hp) (L : KL) : Prop := ∀ p ∈ L, RD H p.1 (.ref p.2.1) ∧ dep p.1 ≤ 8
theorem KeysAt.mono {H H' : Hp} {L : KL} (k : KeysAt H L) (t : TupK H H') : KeysAt H' L := fun p hp => ⟨RD.mono t _ _ (k p hp).1, (k p hp).2⟩
section
variable {P : Program} {w : World}
theorem kn_new {H : Hp} {h : Heap} {a : Addr} {L : KL} (R : Kn0 P w h a L) : ObjOk P w H h a (KnO P w a L) := by
  obtain ⟨hs, o, es, ep, ho, r⟩ := id R
  refine ⟨R, ⟨o, ho⟩, fun h1 h2 p k => ?_⟩
  obtain ⟨hs', o', es', ep', ho', r'⟩ := p
  exact ⟨hs', o', es', ep', k o' ho', r'⟩
theorem at_raw (L : KL) (d : D) : atKey (rawK L) (toKey d) = (L.find? fun p => decide (p.1 = d)).map fun p => (p.2.1, Value.bool p.2.2) := by
  unfold atKey rawK
  induction L with
  | nil => rfl
  | cons p L ih =>
    rw [List.map_cons, List.find?_cons, List.find?_cons]
    have e : decide (toKey p.1 = toKey d) = decide (p.1 = d) := by
      by_cases q : p.1 = d
      · rw [decide_eq_true q, decide_eq_true (by rw [q])]
      · rw [decide_eq_false q, decide_eq_false fun z => q (toKey_inj z)]
    show Option.map _ (match decide (toKey p.1 = toKey d) with | true => some _ | false => _) = _
    rw [e]
    cases decide (p.1 = d) with
    | true => rfl
    | false => exact ih
theorem raw_nodup {L : KL} (h : (L.map Prod.fst).Nodup) : ((rawK L).map (·.1)).Nodup := by
  unfold rawK
  rw [List.map_map]
  refine List.pairwise_map.mpr ((List.pairwise_map.mp h).imp fun {a b} hne e => hne (toKey_inj e))
end
section
variable {X : Cx} {pins : List (Addr × Obj)} {σ : L2.St} {H : Hp} {s : Shared} {a : Addr} {L : KL}
theorem kn_at (I : Inv X pins σ H s) (ha : H a = some (KnO X.prog X.w a L)) (hk : KeysAt H L) : (a == sysModules) = false ∧ s.heap.DictOfH (nestedKind X.prog X.w) a (rawK L) := by
  obtain ⟨hs, o, es, ep, ho, he, hd, hr, nd⟩ := (I.hok a _ ha).1
  refine ⟨hs, o, es, ep, ho, he, hd, hr, fun x hx => ?_, raw_nodup nd⟩
  obtain ⟨p, hp, e⟩ := List.mem_map.mp hx
  subst e
  obtain ⟨h1, h2⟩ := hk p hp
  exact ⟨HD.key _ _ (RD.hd I _ _ _ h1 rfl), by rw [dep_key_]; exact h2⟩
/-- what a look-up asks: the dict, its keys, the key -/
def KnAsk (P : Program) (w : World) (x y : V) (H : Hp) (a : Addr) (L : KL) (d : D) (b : Addr) : Prop := x = .ref b ∧ y = .ref a ∧ H a = some (KnO P w a L) ∧ KeysAt H L ∧ RD H d (.ref b) ∧ dep d ≤ 8
def rInKn (P : Program) (w : World) : R2 := fun x y H Q => ∃ a L d b, KnAsk P w x y H a L d b ∧ Q (.bl (klook L d).isSome) H
theorem op_inKn (hu : X.A.units + 64 < cLine) : OpR X (compareOp .In) (rInKn X.prog X.w) := by
  intro pins s σ H x y v u Q I rx ry h
  obtain ⟨a, L, d, b, ⟨rfl, rfl, ha, hk, hd, hp⟩, q⟩ := h
  obtain rfl : v = Value.ref b := rx
  obtain rfl : u = Value.ref a := ry
  obtain ⟨hs, hm⟩ := kn_at I ha hk
  refine wpAny_in_heap (knd := nestedKind X.prog X.w) (k := toKey d) (by show X.A.units + 1 + 8 < cLine; omega) ⟨HD.key _ _ (RD.hd I _ _ _ hd rfl), by rw [dep_key_]; exact hp⟩ hs hm ?_
  refine ⟨.bl (klook L d).isSome, H, I.tok _, ?_, q⟩
  show Value.bool _ = Value.bool _
  rw [at_raw]
  unfold klook
  cases L.find? fun p => decide (p.1 = d) <;> rfl
def rIxKn (P : Program) (w : World) : R2 := fun y x H Q => ∃ a L d b t, KnAsk P w x y H a L d b ∧ klook L d = some t ∧ Q (.bl t) H
theorem ix_Kn (hu : X.A.units + 64 < cLine) : IxR X (rIxKn X.prog X.w) := by
  intro value slice pins s σ H y x u v Q I ry rx h hs
  obtain ⟨a, L, d, b, t, ⟨rfl, rfl, ha, hk, hd, hp⟩, hl, q⟩ := h
  obtain rfl : v = Value.ref b := rx
  obtain rfl : u = Value.ref a := ry
  obtain ⟨hsm, hm⟩ := kn_at I ha hk
  obtain ⟨p, hp1, hp2⟩ : ∃ p, atKey (rawK L) (toKey d) = some p ∧ p.2 = Value.bool t := by
    rw [at_raw]
    unfold klook at hl
    cases z : L.find? fun p => decide (p.1 = d) with
    | none => rw [z] at hl; cases hl
    | some p0 =>
      rw [z] at hl
      exact ⟨_, rfl, congrArg Value.bool (Option.some.inj hl)⟩
  refine tail_any hm.typeIs PySem.F.slot_dict_getitem.lookup (wpAny_getItem_heap (knd := nestedKind X.prog X.w) (k := toKey d) (by show X.A.units + 1 + 8 < cLine; omega) ⟨HD.key _ _ (RD.hd I _ _ _ hd rfl), by rw [dep_key_]; exact hp⟩ hm hp1 ?_) hs
  exact ⟨.bl t, H, I.tok _, by rw [hp2]; rfl, q⟩
/-- the dict with one more truth -/
def kput (L : KL) (d : D) (b : Addr) (t : Bool) : KL := if (klook L d).isSome = true then L.map fun p => if p.1 = d then (p.1, p.2.1, t) else p else L ++ [(d, b, t)]
theorem kput_keys {L : KL} {d : D} {b : Addr} {t : Bool} : ∀ p ∈ kput L d b t, (p.1 = d ∧ p.2.1 = b) ∨ ∃ q ∈ L, q.1 = p.1 ∧ q.2.1 = p.2.1 := fun p hp => by
  unfold kput at hp
  split at hp
  · obtain ⟨q, hq, e⟩ := List.mem_map.mp hp
    refine .inr ⟨q, hq, ?_⟩
    rw [← e]
    split <;> exact ⟨rfl, rfl⟩
  · rcases List.mem_append.mp hp with z | z
    · exact .inr ⟨p, z, rfl, rfl⟩
    · rw [List.mem_singleton.mp z]
      exact .inl ⟨rfl, rfl⟩
theorem kput_len {L : KL} {d : D} {b : Addr} {t : Bool} : (kput L d b t).length ≤ L.length + 1 := by
  unfold kput
  split
  · rw [List.length_map]; omega
  · rw [List.length_append]; exact Nat.le_refl _
theorem klook_put {d : D} {b : Addr} {t : Bool} (e : D) : ∀ L : KL, klook (kput L d b t) e = if d = e then some t else klook L e := by
  have old : ∀ L : KL, (klook L d).isSome = true → klook (L.map fun p => if p.1 = d then (p.1, p.2.1, t) else p) e = if d = e then some t else klook L e := by
    intro L
    induction L with
    | nil => intro h; cases h
    | cons p L ih =>
      intro h
      unfold klook at h ih ⊢
      rw [List.map_cons, List.find?_cons]
      rw [List.find?_cons] at h
      by_cases q : p.1 = d
      · rw [if_pos q]
        by_cases c : d = e
        · rw [if_pos c]
          have : decide (p.1 = e) = true := decide_eq_true (q.trans c)
          simp only [this]
          rfl
        · rw [if_neg c]
          have n : decide (p.1 = e) = false := decide_eq_false fun z => c (q.symm.trans z)
          rw [List.find?_cons]
          simp only [n]
          by_cases hh : (L.find? fun p => decide (p.1 = d)).isSome = true
          · have := ih (by rw [Option.isSome_map]; exact hh)
            rw [if_neg c] at this
            exact this
          · have nod : ∀ p ∈ L, ¬ p.1 = d := fun p hp z => hh (by rw [List.find?_isSome]; exact ⟨p, hp, decide_eq_true z⟩)
            have : (L.map fun p => if p.1 = d then (p.1, p.2.1, t) else p) = L := by
              refine (List.map_congr_left fun p hp => ?_).trans (List.map_id L)
              rw [if_neg (nod p hp)]
              rfl
            rw [this]
      · have n : decide (p.1 = d) = false := decide_eq_false q
        simp only [n] at h
        rw [if_neg q]
        rw [List.find?_cons]
        cases c : decide (p.1 = e) with
        | true =>
          have ne : ¬ d = e := fun z => q ((of_decide_eq_true c).trans z.symm)
          rw [if_neg ne]
        | false => exact ih h
  intro L
  unfold kput
  split
  · rename_i h
    exact old L h
  · rename_i h
    have hn : klook L d = none := by
      cases z : klook L d with
      | none => rfl
      | some v => rw [z] at h; exact absurd rfl h
    unfold klook at hn ⊢
    rw [List.find?_append]
    by_cases c : d = e
    · subst c
      rw [if_pos rfl]
      cases z : L.find? fun p => decide (p.1 = d) with
      | some v => rw [z] at hn; cases hn
      | none => simp
    · rw [if_neg c]
      cases z : L.find? fun p => decide (p.1 = e) with
      | some v => rfl
      | none => simp [c]
theorem raw_put {L : KL} {d : D} {b : Addr} {t : Bool} : rawK (kput L d b t) = storedH (rawK L) (toKey d) b (Value.bool t) := by
  unfold kput storedH
  have e : (atKey (rawK L) (toKey d)).isSome = (klook L d).isSome := by
    rw [at_raw]
    unfold klook
    rw [Option.isSome_map, Option.isSome_map]
  rw [e]
  split
  · unfold rawK
    rw [List.map_map, List.map_map]
    refine List.map_congr_left fun p hp => ?_
    show _ = putAt (toKey d) (Value.bool t) (toKey p.1, p.2.1, Value.bool p.2.2)
    unfold putAt
    by_cases q : p.1 = d
    · rw [if_pos (show toKey p.1 = toKey d by rw [q])]
      simp only [Function.comp_apply, if_pos q]
    · rw [if_neg (show ¬ toKey p.1 = toKey d from fun z => q (toKey_inj z))]
      simp only [Function.comp_apply, if_neg q]
  · unfold rawK
    rw [List.map_append]
    rfl
/-- d[k] = truth -/
def tSetKn (P : Program) (w : World) : TSet := fun y x v H Q => ∃ a L d b t, KnAsk P w x y H a L d b ∧ v = .bl t ∧ L.length < sizeLine ∧ Q (upd H a (KnO P w a (kput L d b t)))
theorem set_Kn (hu : X.A.units + 64 < cLine) : PSet X (tSetKn X.prog X.w) := by
  intro pins s σ H y x v u i z Q I ry rx rv h
  obtain ⟨a, L, d, b, t, ⟨rfl, rfl, ha, hk, hd, hp⟩, rfl, hlen, q⟩ := h
  obtain rfl : i = Value.ref b := rx
  obtain rfl : u = Value.ref a := ry
  obtain rfl : z = Value.bool t := rv
  obtain ⟨hsm, hm⟩ := kn_at I ha hk
  have hmk : (rawK L).length ≤ sizeLine := by
    unfold rawK
    rw [List.length_map]
    exact Nat.le_of_lt hlen
  refine wpAny_setItem_heap (knd := nestedKind X.prog X.w) (k := toKey d) (by show X.A.units + 1 + 8 < cLine; omega) ⟨HD.key _ _ (RD.hd I _ _ _ hd rfl), by rw [dep_key_]; exact hp⟩ hm (fun h' hm' hs => ?_) hmk
  rw [← raw_put] at hm'
  obtain ⟨o, es, ep, ho, he, hdat, hr, _, nd⟩ := id hm'
  have nd' : ((kput L d b t).map Prod.fst).Nodup := by
    unfold rawK at nd
    rw [List.map_map] at nd
    exact List.pairwise_map.mpr ((List.pairwise_map.mp nd).imp fun {p q} hne e => hne (congrArg toKey e))
  exact ⟨_, I.write (x := a) (e := a) (t' := s.toks + (nestedKind X.prog X.w).draws (toKey d)) (by rw [ha]; trivial) (.inl rfl) (fun b u hb e => (hs.2 b hb).trans e) ⟨o, ho⟩ (kn_new ⟨hsm, o, es, ep, ho, he, hdat, hr, nd'⟩), q⟩
/-- {} -/
def tNewKn (P : Program) (w : World) : TE := fun _ H Q => ∀ p, H p = none → Q (.ref p) (upd H p (KnO P w p []))
theorem pe_newKn {pos : Pos} : PE X (.Dict [] [] pos) (tNewKn X.prog X.w) := ⟨fun pins s σ H Q I h =>
  wpAny_Dict_empty ⟨.ref s.heap.objs.size, _, I.laid (a := s.heap.objs.size) (t' := s.toks) (fun _ _ q => Heap.get?_push_of_some _ q) (Nat.le_refl _) (kn_new (L := []) ⟨beq_eq_false_iff_ne.mpr (Ne.symm (Nat.ne_of_lt I.big)), _, #[], 0, Heap.get?_push_size _ rfl, ⟨rfl, rfl, rfl⟩, rfl, rfl, List.nodup_nil⟩), rfl, h _ (I.hok.fresh (Nat.le_refl _))⟩⟩
end
end K27
end

section
set_option Elab.async false
set_option linter.all false
set_option maxRecDepth 100000
set_option maxHeartbeats 4000000
/-! K27m: the text by places; how heaps go on; is_under. -/
namespace K27
open PySem PySem.Spec PyProof.Rows L2
def top (i : Nat) : Stmt := PySem.Challenge.pw_pileduel_k27_whole_read_just_what_is_bro.main.body.getD i (.Pass ⟨0, 0, 0, 0⟩)
abbrev sMost : Stmt := inClass (top 2) 0
abbrev sRulesAt : Stmt := top 4
abbrev sUnder : Stmt := top 6
abbrev sThin : Stmt := top 7
abbrev sOnce : Stmt := top 8
abbrev sTog : Stmt := top 9
abbrev sFrom : Stmt := top 10
abbrev sParted : Stmt := top 11
abbrev sRead : Stmt := top 12
abbrev sAt : Stmt := top 14
abbrev sFol : Stmt := top 15
abbrev sKept : Stmt := top 16
abbrev sMach : Stmt := top 17
abbrev sDeal : Stmt := top 19
abbrev sDraw : Stmt := top 20
abbrev sNames : Stmt := top 21
abbrev sGame : Stmt := top 22
abbrev sSome : Stmt := top 23
abbrev sSaying : Stmt := top 24
abbrev sCosts : Stmt := top 25
abbrev sBrings : Stmt := top 26
abbrev sRight : Stmt := top 27
abbrev sLaw : Stmt := top 28

/-! ### how heaps go on: all but the tables and what stands at B is kept -/
abbrev Tb := List (Addr × Str)
structure Go (T : Tb) (B : Addr → Prop) (H H' : Hp) : Prop where
  kept : ∀ b o, H b = some o → ¬ B b → (∀ ps, o ≠ .tbl ps) → H' b = some o
  tabs : LamX.Tabs T H → LamX.Tabs T H'
/-- nothing stands there, or a table -/
def New (H : Hp) (p : Addr) : Prop := ∀ o, H p = some o → ∃ ps, o = .tbl ps
abbrev N0 : Addr → Prop := fun _ => False
section
variable {T : Tb} {B B' : Addr → Prop} {H H1 H2 H' : Hp} {p : Addr}
theorem Go.refl (H : Hp) : Go T B H H := ⟨fun _ _ h _ _ => h, fun h => h⟩
theorem Go.trans (h : Go T B H H1) (k : Go T B H1 H2) : Go T B H H2 := ⟨fun b o e n m => k.kept b o (h.kept b o e n m) n m, fun t => k.tabs (h.tabs t)⟩
theorem Go.same (h : Same H H') : Go T B H H' := ⟨fun b o e _ _ => h b o e, fun t => t.ext h⟩
theorem Go.wide (h : Go T N0 H H') : Go T B H H' := ⟨fun b o e _ n => h.kept b o e (fun z => z) n, h.tabs⟩
theorem Go.ext (h : LamX.ExtN H H') (t : LamX.Tabs T H → LamX.Tabs T H') : Go T B H H' := ⟨fun b o e _ n => h b o e n, t⟩
theorem Go.new (h : H p = none) {o : HO} : Go T B H (upd H p o) := .same fun b u e => by rw [upd_ne (ne_of_none e h)]; exact e
theorem Go.add (g : Go T B H H1) (h : H1 p = none) {o : HO} : Go T B H (upd H1 p o) := g.trans (.new h)
theorem new_of (h : H p = none) : New H p := fun o e => by rw [h] at e; cases e
theorem Go.fresh (g : Go T N0 H H1) (h : H1 p = none) : New H p := fun o e => by
  by_cases q : ∀ ps, o ≠ .tbl ps
  · have := g.kept p o e (fun z => z) q
    rw [h] at this
    cases this
  · exact Classical.byContradiction fun z => q fun ps e => z ⟨ps, e⟩
theorem Go.newB (g : Go T N0 H H1) (h : New H1 p) : New H p := fun o e => by
  by_cases q : ∀ ps, o ≠ .tbl ps
  · exact h o (g.kept p o e (fun z => z) q)
  · exact Classical.byContradiction fun z => q fun ps e => z ⟨ps, e⟩
/-- a change of what is neither a table nor a code object -/
theorem tabs_upd {o u : HO} (h : H1 p = some u) (hn : ∀ ps, u ≠ .tbl ps) (hc : ∀ q, u ≠ LamX.CodeO p q) (t : LamX.Tabs T H1) : LamX.Tabs T (upd H1 p o) := fun x hx => by
  obtain ⟨ps, e1, e2, e3⟩ := t x hx
  have n1 : x.1 ≠ p := fun z => by rw [z, h] at e1; exact hn ps (Option.some.inj e1)
  refine ⟨ps, by rw [upd_ne n1]; exact e1, e2, fun pos cv hcv => ?_⟩
  obtain ⟨c, e4, e5⟩ := e3 pos cv hcv
  have n2 : c ≠ p := fun z => by
    subst z
    rw [h] at e5
    exact hc x.2 (Option.some.inj e5)
  exact ⟨c, e4, by rw [upd_ne n2]; exact e5⟩
theorem Go.mut {xs ys : List V} (g : Go T B H H1) (n : New H p) (h : H1 p = some (.lst xs)) : Go T B H (upd H1 p (.lst ys)) := by
  refine ⟨fun b o e nb nt => ?_, fun t => tabs_upd h (fun ps z => by cases z) (fun q z => by unfold LamX.CodeO at z; cases z) (g.tabs t)⟩
  have ne : b ≠ p := fun z => by
    subst z
    obtain ⟨ps, e2⟩ := n o e
    exact nt ps e2
  rw [upd_ne ne]
  exact g.kept b o e nb nt
theorem Go.put {o u : HO} (g : Go T B H H1) (hb : B p) (h : H1 p = some u) (hn : ∀ ps, u ≠ .tbl ps) (hc : ∀ q, u ≠ LamX.CodeO p q) : Go T B H (upd H1 p o) := by
  refine ⟨fun b x e nb nt => ?_, fun t => tabs_upd h hn hc (g.tabs t)⟩
  have ne : b ≠ p := fun z => nb (by rw [z]; exact hb)
  rw [upd_ne ne]
  exact g.kept b x e nb nt
theorem Go.tupK (g : Go T N0 H H') : TupK H H' := fun a xs e => g.kept a _ e (fun z => z) fun ps z => by cases z
theorem Go.lst {xs : List V} (g : Go T N0 H H') (h : H p = some (.lst xs)) : H' p = some (.lst xs) := g.kept p _ h (fun z => z) fun ps z => by cases z
theorem Go.tup {xs : List V} (g : Go T N0 H H') (h : H p = some (.tup xs)) : H' p = some (.tup xs) := g.kept p _ h (fun z => z) fun ps z => by cases z
theorem Go.seq {K : PySem.W.Frag} {xs : List V} (g : Go T N0 H H') (h : SqL K H p xs) : SqL K H' p xs := by
  rcases h with (h | ⟨o, h⟩) | h
  · exact .inl (.inl (g.lst h))
  · exact .inl (.inr ⟨o, g.kept _ _ h (fun z => z) fun ps z => by cases z⟩)
  · exact .inr h
theorem Go.seqT {K : PySem.W.Frag} {xs : List V} (g : Go T N0 H H') (h : SqT K H p xs) : SqT K H' p xs := by
  rcases h with (h | ⟨o, h⟩) | h
  · exact .inl (.inl (g.tup h))
  · exact .inl (.inr ⟨o, g.kept _ _ h (fun z => z) fun ps z => by cases z⟩)
  · exact .inr h
theorem tupK_upd {xs : List V} {o : HO} (h : H1 p = some (.lst xs)) : TupK H1 (upd H1 p o) := fun a ys e => by
  have : a ≠ p := fun z => by rw [z, h] at e; cases e
  rw [upd_ne this]
  exact e
theorem tupK_new {o : HO} (h : H1 p = none) : TupK H1 (upd H1 p o) := fun a ys e => by rw [upd_ne (ne_of_none e h)]; exact e
theorem TupK.refl (H : Hp) : TupK H H := fun _ _ h => h
theorem TupK.trans (h : TupK H H1) (k : TupK H1 H2) : TupK H H2 := fun a xs e => k a xs (h a xs e)
theorem rd_tup {l : List D} {v : V} (h : RD H (.t l) v) : ∃ a xs, v = .ref a ∧ H a = some (.tup xs) ∧ RDs H l xs := by
  cases h with
  | t h1 h2 => exact ⟨_, _, rfl, h1, h2⟩
theorem rd_int {n : Int} {v : V} (h : RD H (.i n) v) : v = .int n := by cases h; rfl
/-- a tuple of ints -/
theorem rd_ts {l : List Int} {v : V} (h : RD H (dTs l) v) : ∃ a, v = .ref a ∧ H a = some (.tup (l.map V.int)) := by
  obtain ⟨a, xs, e, h1, h2⟩ := rd_tup h
  rw [rd_ints_eq h2] at h1
  exact ⟨a, e, h1⟩
theorem rd_mk_ts {l : List Int} {a : Addr} (h : H a = some (.tup (l.map V.int))) : RD H (dTs l) (.ref a) := .t h (rd_ints l)
theorem rd_pair {q : Pair} {v : V} (h : RD H (dPair q) v) : ∃ a b, v = .ref a ∧ H a = some (.tup [.ref b, .int q.2]) ∧ H b = some (.tup (q.1.map V.int)) := by
  obtain ⟨a, xs, e, h1, h2⟩ := rd_tup h
  cases h2 with
  | cons r1 r2 =>
    cases r2 with
    | cons r3 r4 =>
      cases r4
      obtain ⟨b, rfl, hb⟩ := rd_ts r1
      rw [rd_int r3] at h1
      exact ⟨a, b, e, h1, hb⟩
theorem rd_mk_pair {q : Pair} {a b : Addr} (h : H a = some (.tup [.ref b, .int q.2])) (hb : H b = some (.tup (q.1.map V.int))) : RD H (dPair q) (.ref a) := .t h (.cons (rd_mk_ts hb) (.cons (.i _) .nil))
theorem rd_arr {q : Arr} {v : V} (h : RD H (dArr q) v) : ∃ a b, v = .ref a ∧ H a = some (.tup [.int q.1, .int q.2.1, .ref b, .int q.2.2.2]) ∧ H b = some (.tup (q.2.2.1.map V.int)) := by
  obtain ⟨a, xs, e, h1, h2⟩ := rd_tup h
  cases h2 with
  | cons r1 r2 =>
  cases r2 with
  | cons r3 r4 =>
  cases r4 with
  | cons r5 r6 =>
  cases r6 with
  | cons r7 r8 =>
  cases r8
  obtain ⟨b, rfl, hb⟩ := rd_ts r5
  rw [rd_int r1, rd_int r3, rd_int r7] at h1
  exact ⟨a, b, e, h1, hb⟩
theorem rd_mk_arr {q : Arr} {a b : Addr} (h : H a = some (.tup [.int q.1, .int q.2.1, .ref b, .int q.2.2.2])) (hb : H b = some (.tup (q.2.2.1.map V.int))) : RD H (dArr q) (.ref a) :=
  .t h (.cons (.i _) (.cons (.i _) (.cons (rd_mk_ts hb) (.cons (.i _) .nil))))
theorem rd_rule {q : Rule} {v : V} (h : RD H (dRule q) v) : ∃ a b, v = .ref a ∧ H a = some (.tup [.int q.1, .int q.2.1, .int q.2.2.1, .ref b]) ∧ H b = some (.tup (q.2.2.2.map V.int)) := by
  obtain ⟨a, xs, e, h1, h2⟩ := rd_tup h
  cases h2 with
  | cons r1 r2 =>
  cases r2 with
  | cons r3 r4 =>
  cases r4 with
  | cons r5 r6 =>
  cases r6 with
  | cons r7 r8 =>
  cases r8
  obtain ⟨b, rfl, hb⟩ := rd_ts r7
  rw [rd_int r1, rd_int r3, rd_int r5] at h1
  exact ⟨a, b, e, h1, hb⟩
theorem rd_mk_rule {q : Rule} {a b : Addr} (h : H a = some (.tup [.int q.1, .int q.2.1, .int q.2.2.1, .ref b])) (hb : H b = some (.tup (q.2.2.2.map V.int))) : RD H (dRule q) (.ref a) :=
  .t h (.cons (.i _) (.cons (.i _) (.cons (.i _) (.cons (rd_mk_ts hb) .nil))))
theorem rd_say {q : Say} {v : V} (h : RD H (dSay q) v) : ∃ a b, v = .ref a ∧ H a = some (.tup [.int q.1, .int q.2.1, .ref b]) ∧ H b = some (.tup (q.2.2.map V.int)) := by
  obtain ⟨a, xs, e, h1, h2⟩ := rd_tup h
  cases h2 with
  | cons r1 r2 =>
  cases r2 with
  | cons r3 r4 =>
  cases r4 with
  | cons r5 r6 =>
  cases r6
  obtain ⟨b, rfl, hb⟩ := rd_ts r5
  rw [rd_int r1, rd_int r3] at h1
  exact ⟨a, b, e, h1, hb⟩
theorem rd_mk_say {q : Say} {a b : Addr} (h : H a = some (.tup [.int q.1, .int q.2.1, .ref b])) (hb : H b = some (.tup (q.2.2.map V.int))) : RD H (dSay q) (.ref a) :=
  .t h (.cons (.i _) (.cons (.i _) (.cons (rd_mk_ts hb) .nil)))
theorem rd_head {q : Int × Int} {v : V} (h : RD H (dHead q) v) : ∃ a, v = .ref a ∧ H a = some (.tup [.int q.1, .int q.2]) := by
  obtain ⟨a, xs, e, h1, h2⟩ := rd_tup h
  cases h2 with
  | cons r1 r2 =>
  cases r2 with
  | cons r3 r4 =>
  cases r4
  rw [rd_int r1, rd_int r3] at h1
  exact ⟨a, e, h1⟩
theorem rd_mk_head {q : Int × Int} {a : Addr} (h : H a = some (.tup [.int q.1, .int q.2])) : RD H (dHead q) (.ref a) := .t h (.cons (.i _) (.cons (.i _) .nil))

/-! ### lists of data -/
abbrev Ls {α : Type} (H : Hp) (enc : α → D) (ps : List α) (xs : List V) : Prop := F2 (fun p x => RD H (enc p) x) ps xs
theorem Ls.mono {α : Type} {enc : α → D} {ps : List α} {xs : List V} (h : Ls H enc ps xs) (k : TupK H H') : Ls H' enc ps xs := F2.imp (fun _ _ r => RD.mono k _ _ r) h
theorem Ls.app {α : Type} {enc : α → D} {ps : List α} {xs : List V} {p : α} {v : V} (h : Ls H enc ps xs) (r : RD H (enc p) v) : Ls H enc (ps ++ [p]) (xs ++ [v]) := F2.snoc h r
theorem sz_le {n : Nat} (h : n ≤ 100000) : n ≤ sizeLine := Nat.le_trans h (by decide)
theorem sz_lt {n : Nat} (h : n < 100000) : n < sizeLine := Nat.lt_of_lt_of_le h (by decide)
theorem inV_ints (n : Int) : ∀ l : List Int, inV (.int n) (l.map V.int) = decide (n ∈ l)
  | [] => by simp [inV]
  | m :: l => by
    have ih := inV_ints n l
    unfold inV at ih ⊢
    rw [List.map_cons, List.any_cons, ih]
    have e : eqV (.int m) (.int n) = (m == n) := rfl
    rw [e]
    by_cases q : n = m
    · subst q; simp
    · have : (m == n) = false := by simp; omega
      rw [this, Bool.false_or]
      simp [List.mem_cons, q]
theorem flat_ints (l : List Int) : (l.map V.int).all flatV = true := by
  rw [List.all_map, List.all_eq_true]
  intro x _
  rfl
end
section
variable {X : Cx}
theorem ixT (K : PySem.W.Frag) (h : X.K = K := by rfl) : IxR X (rIxT K) := by subst h; exact ix_tup
theorem ixL (K : PySem.W.Frag) (h : X.K = K := by rfl) : IxR X (rIxL K) := by subst h; exact ix_list
theorem opIn (K : PySem.W.Frag) (h : X.K = K := by rfl) : OpR X (compareOp .In) (rIn K false) := by subst h; exact op_in_seq
theorem slT (K : PySem.W.Frag) (h : X.K = K := by rfl) : SlR X (rSlT K) := by subst h; exact sl_tup
theorem lenS (K : PySem.W.Frag) (h : X.K = K := by rfl) : CallR X (.builtin "len") (fun xs H Q => ∃ p ys, xs = [.ref p] ∧ (SqL K H p ys ∨ SqT K H p ys) ∧ Q (.int ys.length) H) := by subst h; exact call_len_seq
end
/-! ### comprehensions: what is made so far -/
theorem yesIf {σ : L2.St} {H : Hp} {A B : Hp → Prop} (h : A H) : tYes σ H fun b H3 => if b = true then A H3 else B H3 := by
  show ite (true = true) (A H) (B H)
  exact iteT h
def LcI (T : Tb) (H1 : Hp) (D : Addr) (R : Nat → List V → Hp → Prop) (i : Nat) (H : Hp) : Prop := Go T N0 H1 H ∧ ∃ acc, H D = some (.lst acc) ∧ acc.length ≤ i ∧ R i acc H
section
variable {T : Tb} {H H1 H4 : Hp} {D : Addr} {R : Nat → List V → Hp → Prop} {i : Nat} {acc : List V} {y : V}
theorem LcI.start (h : H1 D = none) (r : R 0 [] (upd H1 D (.lst []))) : LcI T H1 D R 0 (upd H1 D (.lst [])) := ⟨.new h, [], upd_same, Nat.le_refl _, r⟩
theorem LcI.add (h : H1 D = none) (g : Go T N0 H1 H) (ha : H D = some (.lst acc)) (hl : acc.length ≤ i) (hi : i < 100000) (g4 : Go T N0 H H4) (r : R (i + 1) (acc ++ [y]) (upd H4 D (.lst (acc ++ [y])))) :
    ∃ acc, H4 D = some (.lst acc) ∧ acc.length < sizeLine ∧ LcI T H1 D R (i + 1) (upd H4 D (.lst (acc ++ [y]))) :=
  ⟨acc, g4.lst ha, sz_lt (by omega), (g.trans g4).mut (new_of h) (g4.lst ha), _, upd_same, by rw [List.length_append, List.length_singleton]; omega, r⟩
theorem LcI.skip (g : Go T N0 H1 H) (ha : H D = some (.lst acc)) (hl : acc.length ≤ i) (g4 : Go T N0 H H4) (r : R (i + 1) acc H4) : LcI T H1 D R (i + 1) H4 := ⟨g.trans g4, acc, g4.lst ha, by omega, r⟩
theorem lcg_list {K : PySem.W.Frag} {a : Addr} {xs : List V} {g : TG} {tt : TT} {te : TE} {vs : List Nat} {σ : L2.St} {Qd : Hp → Prop} (T : Tb) (R : Nat → List V → Hp → Prop) (hD : H1 D = none) (hx : SqL K H1 a xs) (h0 : R 0 [] (upd H1 D (.lst [])))
    (hs : ∀ i x H acc, xs[i]? = some x → Go T N0 H1 H → H D = some (.lst acc) → acc.length ≤ i → R i acc H → g x (wipe σ vs) H fun σ2 H2 => wipe σ2 vs = wipe σ vs ∧ tt σ2 H2 fun b H3 =>
      if b = true then te σ2 H3 fun y H4 => ∃ acc, H4 D = some (.lst acc) ∧ acc.length < sizeLine ∧ LcI T H1 D R (i + 1) (upd H4 D (.lst (acc ++ [y]))) else LcI T H1 D R (i + 1) H3)
    (hd : ∀ H acc, Go T N0 H1 H → H D = some (.lst acc) → acc.length ≤ xs.length → R xs.length acc H → Qd H) :
    ∃ W : Nat → Nat → Hp → Prop, (∃ m, W 0 m (upd H1 D (.lst []))) ∧ ∀ i m H, W i m H →
      ((Itl K a).stop i H ∧ Qd H) ∨ ((Itl K a).go i H ∧ ∃ Nx : Hp → Prop, (∀ H', Nx H' → ∃ m', m' < m ∧ W (i + 1) m' H') ∧ ∀ x H', (Itl K a).yld i H x H' → g x (wipe σ vs) H' fun σ2 H2 => wipe σ2 vs = wipe σ vs ∧ tt σ2 H2 fun b H3 =>
        if b = true then te σ2 H3 fun y H4 => ∃ acc, H4 D = some (.lst acc) ∧ acc.length < sizeLine ∧ Nx (upd H4 D (.lst (acc ++ [y]))) else Nx H3) :=
  lc_list (K := K) (a := a) (LcI T H1 D R) (LcI.start hD h0) (fun i H _ p => p.1.seq hx)
    (fun i x H hi ⟨g, acc, ha, hl, r⟩ => hs i x H acc hi g ha hl r) fun H ⟨g, acc, ha, hl, r⟩ => hd H acc g ha hl r
theorem lcg_tup {K : PySem.W.Frag} {a : Addr} {xs : List V} {g : TG} {tt : TT} {te : TE} {vs : List Nat} {σ : L2.St} {Qd : Hp → Prop} (T : Tb) (R : Nat → List V → Hp → Prop) (hD : H1 D = none) (hx : SqT K H1 a xs) (h0 : R 0 [] (upd H1 D (.lst [])))
    (hs : ∀ i x H acc, xs[i]? = some x → Go T N0 H1 H → H D = some (.lst acc) → acc.length ≤ i → R i acc H → g x (wipe σ vs) H fun σ2 H2 => wipe σ2 vs = wipe σ vs ∧ tt σ2 H2 fun b H3 =>
      if b = true then te σ2 H3 fun y H4 => ∃ acc, H4 D = some (.lst acc) ∧ acc.length < sizeLine ∧ LcI T H1 D R (i + 1) (upd H4 D (.lst (acc ++ [y]))) else LcI T H1 D R (i + 1) H3)
    (hd : ∀ H acc, Go T N0 H1 H → H D = some (.lst acc) → acc.length ≤ xs.length → R xs.length acc H → Qd H) :
    ∃ W : Nat → Nat → Hp → Prop, (∃ m, W 0 m (upd H1 D (.lst []))) ∧ ∀ i m H, W i m H →
      ((Itt K a).stop i H ∧ Qd H) ∨ ((Itt K a).go i H ∧ ∃ Nx : Hp → Prop, (∀ H', Nx H' → ∃ m', m' < m ∧ W (i + 1) m' H') ∧ ∀ x H', (Itt K a).yld i H x H' → g x (wipe σ vs) H' fun σ2 H2 => wipe σ2 vs = wipe σ vs ∧ tt σ2 H2 fun b H3 =>
        if b = true then te σ2 H3 fun y H4 => ∃ acc, H4 D = some (.lst acc) ∧ acc.length < sizeLine ∧ Nx (upd H4 D (.lst (acc ++ [y]))) else Nx H3) :=
  lc_tup (K := K) (a := a) (LcI T H1 D R) (LcI.start hD h0) (fun i H _ p => p.1.seqT hx)
    (fun i x H hi ⟨g, acc, ha, hl, r⟩ => hs i x H acc hi g ha hl r) fun H ⟨g, acc, ha, hl, r⟩ => hd H acc g ha hl r
end
end K27
end

section
set_option Elab.async false
set_option linter.all false
set_option maxRecDepth 100000
set_option maxHeartbeats 4000000
/-! K27n: is_under. -/
namespace K27
open PySem PySem.Spec PyProof.Rows L2
section
variable {P : Program} {w : World} {K : PySem.W.Frag} {mg : Str → Option Value} {base : Heap} {T : Tb}
theorem scUnder : FnScope ["one", "other", "target"] ["one", "other"] (defScope sUnder) := ⟨rfl, rfl, rfl, by decide +kernel, rfl, by decide +kernel, by decide +kernel⟩
def spUnder (T : Tb) : Sp := fun vs H Q _ => ∃ (a b : Pair) (x y : V), vs = [x, y] ∧ RD H (dPair a) x ∧ RD H (dPair b) y ∧ a.1.length ≤ 1000 ∧ ∀ H', Go T N0 H H' → Q (.bl (underB a b)) H'
theorem ok_under {f : Addr} {fd : FuncData} (F : Fun K "is_under" "is_under" sUnder f fd) (mAll : mg "all" = none) : FnOk P w K mg base CX0 1 f fd ["one", "other"] (spUnder T) := by
  refine F.ok scUnder (fun vs H Q E h => ?_) (fun cdv A outer s H vs Q E hr h => ?_)
  · obtain ⟨a, b, x, y, rfl, _⟩ := h
    rfl
  · obtain ⟨a, b, x, y, rfl, rx, ry, hl, k⟩ := h
    refine ⟨_, pss_one (ps_ret (pe_and (pe_cmpR op_le (pe_ix (ixT K) (pv 0) pe_int (fun _ _ => rfl)) (pe_ix (ixT K) (pv 1) pe_int (fun _ _ => rfl)) (nomark _)) (pe_one (pe_callB (cr_all rfl) (by rfl) mAll (by decide +kernel) (pa_cons
      (pe_lc (own := [("target", 2)]) (g := gName 2) (tt := tYes) rfl scUnder.nd (pi_tup (pe_ix (ixT K) (pv 0) pe_int (fun _ _ => rfl))) (blkOk_by (N := ["one", "other", "target"]) (sc := defScope sUnder) (by decide +kernel)) (fun _ _ _ _ _ => pg_name (i := 2) scUnder.nd rfl (Or.inl rfl)) (fun _ _ _ _ _ => pts_nil)
        (fun _ _ _ _ _ => pe_cmpR (opIn K) (pv 2) (pe_ix (ixT K) (pv 1) pe_int (fun _ _ => rfl)) (by rfl))) pa_nil))))), ?_⟩
    obtain ⟨pa, ta, rfl, h1, h2⟩ := rd_pair rx
    obtain ⟨pb, tb, rfl, h3, h4⟩ := rd_pair ry
    refine ⟨_, rfl, pa, _, _, _, rfl, rfl, SqT.of h1, atI_nat (j := 1) rfl, _, rfl, pb, _, _, _, rfl, rfl, SqT.of h3, atI_nat (j := 1) rfl, _, _, rfl, rfl, _, rfl, ?_⟩
    refine ite2 (fun c => ?_) (fun c => ?_)
    · refine ⟨_, rfl, pa, _, _, _, rfl, rfl, SqT.of h1, atI_nat (j := 0) rfl, ta, rfl, ⟨_, SqT.of h2⟩, fun D hD => ?_⟩
      refine lcg_tup T (fun i acc H' => acc = ((a.1.take i).map fun t => decide (t ∈ b.1)).map V.bl) hD (SqT.of h2) (by simp) (fun i x H' acc hi g ha hl r => ?_) (fun H' acc g ha hl r => ?_)
      · rw [List.getElem?_map] at hi
        obtain ⟨t, ht, rfl⟩ := Option.map_eq_some_iff.mp hi
        have hit := (List.getElem?_eq_some_iff.mp ht).1
        refine ⟨rfl, yesIf ?_⟩
        refine ⟨_, rfl, _, rfl, pb, _, _, _, rfl, rfl, SqT.of (g.tup h3), atI_nat (j := 0) rfl, tb, _, rfl, .inr (SqT.of (g.tup h4)), rfl, flat_ints _, ?_⟩
        refine LcI.add hD g ha hl (by omega) (Go.refl _) ?_
        rw [r, List.take_add_one, ht, List.map_append, List.map_append]
        show _ ++ [V.bl (inV (V.int t) (b.1.map V.int))] = _
        rw [inV_ints]
        rfl
      · rw [List.length_map, List.take_length] at r
        refine ⟨D, _, rfl, SqL.of (by rw [r] at ha; exact ha), ?_⟩
        have := k H' g
        unfold underB at this
        rw [c, Bool.true_and] at this
        rw [List.all_map]
        exact this
    · have := k H (Go.refl _)
      unfold underB at this
      rw [Bool.not_eq_true] at c
      rw [c, Bool.false_and] at this
      exact this
end
end K27
end

section
set_option Elab.async false
set_option linter.all false
set_option maxRecDepth 100000
set_option maxHeartbeats 4000000
/-! K27o: thinned. -/
namespace K27
open PySem PySem.Spec PyProof.Rows L2
theorem fst_pair (p : Pair) : Fst false (dPair p) := rfl
theorem fst_key (p : Pair) : Fst true (dKey p) := rfl
theorem fst_arr (p : Arr) : Fst true (dArr p) := rfl
theorem fst_say (p : Say) : Fst true (dSay p) := rfl
theorem fst_head (p : Int × Int) : Fst true (dHead p) := rfl
/-- the key's lambda -/
def lamE : Expr := match (defBody sThin).getD 1 (.Pass ⟨0, 0, 0, 0⟩) with
  | .For _ (.Call _ _ [⟨_, e, _⟩] _) _ _ _ => e
  | _ => .Name "" ⟨0, 0, 0, 0⟩
def lamParams : Arguments := match lamE with
  | .Lambda a _ _ _ => a
  | _ => { posonlyargs := [], args := [], vararg := none, kwonlyargs := [], kw_defaults := [], kwarg := none, defaults := [] }
def lamBody : Expr := match lamE with
  | .Lambda _ b _ _ => b
  | _ => .Name "" ⟨0, 0, 0, 0⟩
def lamScope : Scope := match lamE with
  | .Lambda _ _ sc _ => sc
  | _ => { kind := .function, names := [], isGenerator := false, isCoroutine := false }
section
variable {X : Cx}
def rSortLam (K : PySem.W.Frag) (q : Str) (params : Arguments) (body : Expr) (scope : Scope) : List V → List V → Hp → VK → Prop := fun vs zs H Q => ∃ (l f c' : Addr) (xs : List V) (ps : List Pair), vs = [.ref l] ∧ zs = [.ref f] ∧ SqL K H l xs ∧ Ls H dPair ps xs ∧
  H f = some (LamO f c' q params body scope) ∧ H c' = some (LamX.CodeO c' q) ∧ ∀ (H' : Hp) (p : Addr) (ys : List V) (ps' : List Pair), Same H H' → H p = none → H' p = some (.lst ys) → ps'.Perm ps → ps'.Pairwise (fun z z' => dlt (dKey z') (dKey z) = false) → Ls H' dPair ps' ys → Q (.ref p) H'
theorem cr_sortLam {q : Str} {params : Arguments} {body : Expr} {scope : Scope} {N : List Str} {p : Str} {t : TE} (hr : Room 3 X.A) (S : FnScope N [p] scope) (hbind : ∀ (pm cv ctv : Value) (u : Value), bindArgs (PySem.W.kla_fn "<lambda>" q params body scope [] pm cv ctv) ⟨[u], []⟩ = pure [(p, u)])
    (hbody : ∀ (f : Addr) (cv : Value) (A : Around) (outer : List Env) (s : Shared) (H : Hp), Room 0 A → PE (cxOf C8.CX0 X.prog X.w X.K X.mg X.base N q scope f cv A outer s H C8.E0) body t)
    (ht : ∀ (H : Hp) (z : Pair) (x : V), RD H (dPair z) x → t (L2.start N [x]) H fun k H' => Same H H' ∧ RD H' (dKey z) k) : CallRK X (.builtin "sorted") [Str.ofString "key"] (rSortLam X.K q params body scope) := by
  intro pins s σ H vs zs us ws Q I r1 r2 h
  obtain ⟨l, f, c', xs, ps, rfl, rfl, hs, hx, hf, hc, k⟩ := h
  rw [Vals.ref1 r1, Vals.ref1 r2]
  refine sorted_key (α := Pair) (enc := dPair) (key := dKey) (b := true) (G := fun H => H f = some (LamO f c' q params body scope) ∧ H c' = some (LamX.CodeO c' q)) ?_ (fun H H' g sm => ⟨sm _ _ g.1, sm _ _ g.2⟩) I ⟨hf, hc⟩ hs hx (fun x hm => ?_) (fun z _ => ⟨fst_key z, by rw [dep_key]; decide⟩) (fun z _ z' _ => cpt_key z z') hr.units k
  · intro pins s σ H z x u I g rz rx
    exact lam_call I rfl hr.in1.in1 g.1 g.2 S hbind rx (fun A outer s H hr0 => hbody f (.ref c') A outer s H hr0) (ht H z x rz)
  · obtain ⟨d, _, hr⟩ := hx.mem_r x hm
    obtain ⟨a, b, e, _⟩ := rd_pair hr
    exact ⟨a, e⟩
end
section
variable {P : Program} {w : World} {K : PySem.W.Frag} {mg : Str → Option Value} {base : Heap} {T : Tb}
/-- a def whose code object stands at c -/
structure FunC (K : PySem.W.Frag) (x qual : Str) (st : Stmt) (f : Addr) (fd : FuncData) (c : Addr) : Prop where
  ex : ∃ (oc : Value) (od : Option Addr) (kV doc pm : Value) (an : Option Addr) (ct : Value) (osl : Array (Option Value)),
    fd = PySem.W.fnOf x qual (defArgs st) (defBody st) (defScope st) .none kV doc pm an (.ref c) ct ∧ K.lookup f = some ⟨oc, od, .func fd, osl⟩ ∧ PySem.W.codeIn K (.ref c) qual = true
theorem FunC.ok {x qual : Str} {st : Stmt} {f c : Addr} {fd : FuncData} {N ps : List Str} {k : Nat} {sp : Sp} (F : FunC K x qual st f fd c) (S : FnScope N ps (defScope st)) (len : ∀ vs H Q E, sp vs H Q E → vs.length = ps.length)
    (hbody : ∀ (A : Around) (outer : List Env) (s : Shared) (H : Hp) (vs : List V) (Q : VK) (E : XK), Room k (A.deeper (envOfC qual (defScope st) s.heap.objs.size f (.ref c))) → sp vs H Q E →
      ∃ t, PSs (cxOf CX0 P w K mg base N qual (defScope st) f (.ref c) A outer s H E).nox (defBody st) t ∧ t { nx := fun _ H' => Q .non H', rt := Q } (L2.start N vs) H) : FnOk P w K mg base CX0 (k + 1) f fd ps sp := by
  obtain ⟨oc, od, kV, doc, pm, an, ct, osl, rfl, lk, hcd⟩ := F.ex
  refine fn_of lk hcd S len fun A outer s H vs Q E hr hsp => ?_
  obtain ⟨t, h, q⟩ := hbody A outer s H vs Q E hr hsp
  exact ⟨t, h.nox, q⟩
/-- a list of pairs, put in order, thinned: what is made -/
def spThin (T : Tb) (K : PySem.W.Frag) : Sp := fun vs H Q _ => ∃ (l : Addr) (xs : List V) (ps : List Pair), vs = [.ref l] ∧ SqL K H l xs ∧ Ls H dPair ps xs ∧ (∀ p ∈ ps, p.1.Pairwise (· < ·) ∧ p.1.length ≤ 1000) ∧ ps.length ≤ 50000 ∧ LamX.Tabs T H ∧
  ∀ (H' : Hp) (p : Addr) (ys : List V) (qs : List Pair), Go T N0 H H' → New H p → H' p = some (.lst ys) → Ls H' dPair qs ys → Thin ps qs → Q (.ref p) H'
theorem scThin : FnScope ["pairs", "found", "one", "kept"] ["pairs"] (defScope sThin) := ⟨rfl, rfl, rfl, by decide +kernel, rfl, by decide +kernel, by decide +kernel⟩
theorem ok_thin {f fU c Pt : Addr} {fd fdU : FuncData} (F : FunC K "thinned" "thinned" sThin f fd c) (TB : LamX.TabB base mg c Pt) (hT1 : T = [(Pt, Str.ofString "thinned.<locals>.<lambda>")]) (GU : FnOk P w K mg base CX0 1 fU fdU ["one", "other"] (spUnder T)) (kU : PySem.W.keepIn K (.ref fU) = true) (bU : Binds K fdU ["one", "other"] []) (mU : mg "is_under" = some (.ref fU))
    (mAny : mg "any" = none) (mLen : mg "len" = none) (mSorted : mg "sorted" = none) : FnOk P w K mg base CX0 4 f fd ["pairs"] (spThin T K) := by
  refine F.ok scThin (fun vs H Q E h => ?_) (fun A outer s H vs Q E hr h => ?_)
  · obtain ⟨l, xs, ps, rfl, _⟩ := h
    rfl
  · obtain ⟨l, xs, ps, rfl, hl, hx, hp, hz, hT, k⟩ := h
    have hr1 : Room 1 (A.deeper (envOfC "thinned" (defScope sThin) s.heap.objs.size f (.ref c))) := hr.mono (by decide)
    refine ⟨_, pss_cons (ps_set (i := 1) scThin.nd rfl (.inl rfl) (pe_lst pa_nil)) (pss_cons (ps_for PassesOwn.never rfl (pi_list (pe_callBK (cr_sortLam (q := "thinned.<locals>.<lambda>") (params := lamParams) (body := lamBody) (scope := lamScope) (N := ["pair"]) (p := "pair") hr ⟨rfl, rfl, rfl, by decide +kernel, rfl, by decide +kernel, by decide +kernel⟩ (fun _ _ _ _ => rfl)
            (fun f cv A outer s H hr => pe_tup (pa_cons (pe_ix (ixT K) (pv 0) pe_int (fun _ _ => rfl)) (pa_cons (pe_callB (lenS K) (by rfl) mLen PySem.boot_len (pa_cons (pe_ix (ixT K) (pv 0) pe_int (fun _ _ => rfl)) pa_nil)) (pa_cons (pv 0) pa_nil)))) ?ht) (by rfl) mSorted (by decide +kernel) (pa_cons (pv 0) pa_nil)
          (pk_cons (pe_lam (T := T) (c := c) (P := Pt) (params := lamParams) (body := lamBody) (scope := lamScope) ?TB ?hcode ?hm ?hu rfl ?hfree rfl) pk_nil)))
        (pg_name (i := 2) scThin.nd rfl (Or.inr rfl))
        (pss_one (ps_if (pt_not (pt_val (pe_callB (cr_any rfl) (by rfl) mAny (by decide +kernel) (pa_cons
          (pe_lc (own := [("kept", 3)]) (g := gName 3) (tt := tYes) rfl scThin.nd (pi_list (pv 1)) (blkOk_by (N := ["pairs", "found", "one", "kept"]) (sc := defScope sThin) (by decide +kernel)) (fun _ _ _ _ _ => pg_name (i := 3) scThin.nd rfl (Or.inl rfl)) (fun _ _ _ _ _ => pts_nil)
            (fun _ _ _ _ _ => pe_call GU hr1 (by rfl) mU kU bU .nil pass0 (pa_cons (pv 3) (pa_cons (pv 2) pa_nil)))) pa_nil))))
          (pss_one (ps_expr (pe_bm PySem.F.plainAttrs_list PySem.F.slot_list_append PySem.F.type_list_append mt_append (pv 1) (pa_cons (pv 2) pa_nil)))) pss_nil)))
      (pss_one (ps_ret (pe_callB (cr_sortD hr.units) (by rfl) mSorted (by decide +kernel) (pa_cons (pv 1) pa_nil))))), ?_⟩
    case ht =>
      intro H z x rx
      obtain ⟨a, b, rfl, h1, h2⟩ := rd_pair rx
      refine ⟨_, rfl, a, _, _, _, rfl, rfl, SqT.of h1, atI_nat (j := 1) rfl, _, rfl, a, _, _, _, rfl, rfl, SqT.of h1, atI_nat (j := 0) rfl, b, _, rfl, .inr (SqT.of h2), _, rfl, (by show 3 ≤ sizeLine; decide), fun p np => ?_⟩
      refine ⟨fun b o e => by rw [upd_ne (ne_of_none e np)]; exact e, ?_⟩
      rw [List.length_map]
      exact .t upd_same (.cons (.i _) (.cons (.i _) (.cons (RD.mono (tupK_new np) _ _ rx) .nil)))
    case TB => exact TB
    case hcode => rfl
    case hm => rw [hT1]; exact List.mem_singleton.mpr rfl
    case hu =>
      intro p hp _
      rw [hT1] at hp
      rw [List.mem_singleton.mp hp]
      rfl
    case hfree =>
      intro y hy
      have : ∀ y ∈ lamScope.names, y.2 ≠ .free := by decide +kernel
      exact this y hy
    refine ⟨Nat.zero_le _, fun p1 n1 => ?_⟩
    have ga : Go T N0 H (upd H p1 (.lst [])) := .new n1
    refine ⟨_, rfl, ga.tabs hT, fun f c' H1 eN T1 nf hlf hc' => ?_⟩
    have gb : Go T N0 (upd H p1 (.lst [])) H1 := .ext eN fun _ => T1
    have g1 := ga.trans gb
    refine ⟨l, f, c', xs, ps, rfl, rfl, g1.seq hl, hx.mono g1.tupK, hlf, hc', fun H2 L ys sp sm nL hL pm srt hy => ?_⟩
    have gc : Go T N0 H1 H2 := .same sm
    have hps : ∀ p ∈ sp, p.1.Pairwise (· < ·) ∧ p.1.length ≤ 1000 := fun p q => hp p (pm.mem_iff.mp q)
    have hl2 : sp.length ≤ 50000 := by rw [pm.length_eq]; exact hz
    refine ⟨L, rfl, ⟨_, SqL.of hL⟩, for_list (K := K) (a := L) (xs := ys) (fun i σ H' => ∃ (o kv : Option V) (acc : List V), σ = [some (.ref l), some (.ref p1), o, kv] ∧ Go T N0 H H' ∧ H' L = some (.lst ys) ∧ Ls H' dPair sp ys ∧ H' p1 = some (.lst acc) ∧ Ls H' dPair (keepers (sp.take i)) acc)
      ⟨none, none, [], rfl, g1.trans gc, hL, hy, gc.lst (gb.lst upd_same), by rw [List.take_zero]; exact .nil⟩ (fun i σ H' _ ⟨_, _, _, _, _, h, _⟩ => SqL.of h) ?_ ?_⟩
    · rintro i y σ H' hi ⟨o, kv, acc, rfl, g, hL', hy', hp1, hk⟩
      obtain ⟨p, hpi, rp⟩ := hy'.get_r hi
      have hil : i < sp.length := (List.getElem?_eq_some_iff.mp hpi).1
      have hpm : p ∈ sp := List.mem_of_getElem? hpi
      have kl := keepers_len (sp.take i)
      rw [List.length_take] at kl
      have al := hk.len
      refine ⟨_, rfl, p1, rfl, ⟨_, SqL.of hp1⟩, fun D hD => ?_⟩
      refine lcg_list T (fun j bs H3 => bs = (((keepers (sp.take i)).take j).map fun q => underB q p).map V.bl) hD (SqL.of hp1) (by simp) (fun j x H3 bs hj g3 ha hbl r => ?_) (fun H3 bs g3 ha hbl r => ?_)
      · obtain ⟨q, hqj, rq⟩ := hk.get_r hj
        have hqm : q ∈ sp := List.mem_of_mem_take ((keepers_ok [] (sp.take i) (fun p h => (hps p (List.mem_of_mem_take h)).1) (srt.sublist (List.take_sublist _ _)) KpI.nil).sub q (List.mem_of_getElem? hqj))
        have hjl := (List.getElem?_eq_some_iff.mp hj).1
        refine ⟨rfl, yesIf ?_⟩
        refine ⟨_, rfl, _, rfl, q, p, _, _, rfl, RD.mono g3.tupK _ _ rq, RD.mono g3.tupK _ _ rp, (hps q hqm).2, fun H4 g4 => ?_⟩
        refine LcI.add hD g3 ha hbl (by omega) g4 ?_
        rw [r, List.take_add_one, hqj, List.map_append, List.map_append]
        rfl
      · rw [show acc.length = (keepers (sp.take i)).length from hk.len.symm, List.take_length] at r
        refine ⟨D, _, rfl, SqL.of (by rw [r] at ha; exact ha), _, rfl, ?_⟩
        have e : ((keepers (sp.take i)).map fun q => underB q p).any id = (keepers (sp.take i)).any fun q => underB q p := by rw [List.any_map]; rfl
        rw [e]
        have nx : keepers (sp.take (i + 1)) = kstep (keepers (sp.take i)) p := by
          rw [List.take_add_one, hpi]
          exact keepers_snoc _ _
        refine ite2 (fun c => ?_) (fun c => ?_)
        · have c' : ((keepers (sp.take i)).any fun q => underB q p) = false := by
            cases z : (keepers (sp.take i)).any fun q => underB q p with
            | false => rfl
            | true => rw [z] at c; cases c
          refine ⟨_, rfl, .inl ⟨rfl, _, SqL.of (g3.lst hp1)⟩, _, rfl, p1, _, _, rfl, rfl, g3.lst hp1, sz_lt (by omega), ?_⟩
          refine ⟨_, _, _, rfl, (g.trans g3).mut (new_of n1) (g3.lst hp1), ?_, (hy'.mono g3.tupK).mono (tupK_upd (g3.lst hp1)), upd_same, ?_⟩
          · have : L ≠ p1 := fun z => by
              rw [z] at nL
              rw [gb.lst upd_same] at nL
              cases nL
            rw [upd_ne this]
            exact g3.lst hL'
          · rw [nx]
            unfold kstep
            rw [c', if_neg Bool.false_ne_true]
            exact ((hk.mono g3.tupK).mono (tupK_upd (g3.lst hp1))).app (RD.mono (tupK_upd (g3.lst hp1)) _ _ (RD.mono g3.tupK _ _ rp))
        · have c' : ((keepers (sp.take i)).any fun q => underB q p) = true := by
            cases z : (keepers (sp.take i)).any fun q => underB q p with
            | true => rfl
            | false => rw [z] at c; exact absurd rfl c
          refine ⟨_, _, _, rfl, g.trans g3, g3.lst hL', hy'.mono g3.tupK, g3.lst hp1, ?_⟩
          rw [nx]
          unfold kstep
          rw [if_pos c']
          exact hk.mono g3.tupK
    · rintro σ H' ⟨o, kv, acc, rfl, g, hL', hy', hp1, hk⟩
      rw [show ys.length = sp.length from hy.len.symm, List.take_length] at hk
      refine ⟨_, rfl, p1, acc, (keepers sp).map dPair, false, rfl, SqL.of hp1, F2.to_map hk, fun d hd => ?_, fun d hd e he => ?_, fun es zs p per srt2 f2 np => ?_⟩
      · obtain ⟨q, _, rfl⟩ := List.mem_map.mp hd
        exact ⟨fst_pair q, by rw [dep_pair]; decide⟩
      · obtain ⟨q, _, rfl⟩ := List.mem_map.mp hd
        obtain ⟨q2, _, rfl⟩ := List.mem_map.mp he
        exact cpt_pair q q2
      · obtain ⟨qs, e1, e2⟩ := perm_img per _ rfl
        subst e1
        refine k _ p zs qs (g.add np) (g.fresh np) upd_same (Ls.mono (enc := dPair) (F2.map_l f2) (tupK_new np)) ?_
        exact thin_of pm srt (fun p h => (hp p h).1) e2 (List.pairwise_map.mp srt2)
end
end K27
end

section
set_option Elab.async false
set_option linter.all false
set_option maxRecDepth 100000
set_option maxHeartbeats 4000000
/-! K27p: each_once, arrows_from, together, parted. -/
namespace K27
open PySem PySem.Spec PyProof.Rows L2
/-- a new list of pairs is given back, of which C holds -/
def PL (T : Tb) (H : Hp) (Q : VK) (C : List Pair → Prop) : Prop := ∀ (H' : Hp) (p : Addr) (ys : List V) (qs : List Pair), Go T N0 H H' → New H p → H' p = some (.lst ys) → Ls H' dPair qs ys → C qs → Q (.ref p) H'
theorem PL.back {T : Tb} {H H1 : Hp} {Q : VK} {C : List Pair → Prop} (k : PL T H Q C) (g : Go T N0 H H1) : PL T H1 Q C := fun H' p ys qs g2 n h l c => k H' p ys qs (g.trans g2) (g.newB n) h l c
theorem PL.imp {T : Tb} {H : Hp} {Q : VK} {C C' : List Pair → Prop} (k : PL T H Q C) (i : ∀ qs, C' qs → C qs) : PL T H Q C' := fun H' p ys qs g2 n h l c => k H' p ys qs g2 n h l (i qs c)
theorem OkT.len {S : Int} {T : List Int} (h : OkT S T) (hS : S ≤ 5) : T.length ≤ 5 := by
  have := nodup_len T five (nodup_int h.srt) fun t ht => by
    have := h.rng t ht
    have e : t = 0 ∨ t = 1 ∨ t = 2 ∨ t = 3 ∨ t = 4 := by omega
    unfold five
    simpa using e
  exact this
section
variable {P : Program} {w : World} {K : PySem.W.Frag} {mg : Str → Option Value} {base : Heap} {T : Tb}
/-! ### each_once -/
theorem scOnce : FnScope ["pairs", "is_thin"] ["pairs", "is_thin"] (defScope sOnce) := ⟨rfl, rfl, rfl, by decide +kernel, rfl, by decide +kernel, by decide +kernel⟩
def spOnce (T : Tb) (K : PySem.W.Frag) : Sp := fun vs H Q _ => ∃ (l : Addr) (xs : List V) (ps : List Pair), vs = [.ref l, .bl true] ∧ SqL K H l xs ∧ Ls H dPair ps xs ∧ (∀ p ∈ ps, p.1.Pairwise (· < ·) ∧ p.1.length ≤ 1000) ∧ ps.length ≤ 50000 ∧ LamX.Tabs T H ∧ PL T H Q (Thin ps)
theorem ok_once {f fT : Addr} {fd fdT : FuncData} (F : Fun K "each_once" "each_once" sOnce f fd) (GT : FnOk P w K mg base CX0 4 fT fdT ["pairs"] (spThin T K)) (kT : PySem.W.keepIn K (.ref fT) = true) (bT : Binds K fdT ["pairs"] []) (mT : mg "thinned" = some (.ref fT)) :
    FnOk P w K mg base CX0 5 f fd ["pairs", "is_thin"] (spOnce T K) := by
  refine F.ok scOnce (fun vs H Q E h => ?_) (fun cdv A outer s H vs Q E hr h => ?_)
  · obtain ⟨l, xs, ps, rfl, _⟩ := h
    rfl
  · obtain ⟨l, xs, ps, rfl, hl, hx, hp, hz, hT, k⟩ := h
    refine ⟨_, pss_cons (ps_if (pt_val (pv 1)) (pss_one (ps_ret (pe_call GT hr (by rfl) mT kT bT .nil pass0 (pa_cons (pv 0) pa_nil)))) pss_nil) pss_never, ?_⟩
    refine ⟨_, rfl, _, rfl, ?_⟩
    exact iteT ⟨_, rfl, l, xs, ps, rfl, hl, hx, hp, hz, hT, k⟩
/-! ### arrows_from -/
theorem scFrom : FnScope ["arrows", "stand", "letter", "one"] ["arrows", "stand", "letter"] (defScope sFrom) := ⟨rfl, rfl, rfl, by decide +kernel, rfl, by decide +kernel, by decide +kernel⟩
def spFrom (T : Tb) (K : PySem.W.Frag) : Sp := fun vs H Q _ => ∃ (l : Addr) (xs : List V) (A : List Arr) (s x : Int), vs = [.ref l, .int s, .int x] ∧ SqL K H l xs ∧ Ls H dArr A xs ∧ A.length ≤ 50000 ∧ PL T H Q fun qs => qs = afrom A s x
theorem afrom_snoc (A : List Arr) (a : Arr) (s x : Int) : afrom (A ++ [a]) s x = afrom A s x ++ if (decide (a.1 = s) && decide (a.2.1 = x)) = true then [a.2.2] else [] := by
  unfold afrom
  rw [List.filter_append, List.map_append, List.filter_cons]
  split <;> rfl
theorem dec_i (a b : Int) : decide (V.int a = V.int b) = decide (a = b) := by
  by_cases h : a = b
  · subst h; simp
  · rw [decide_eq_false h, decide_eq_false fun z => h (by injection z)]
theorem ok_from {f : Addr} {fd : FuncData} (F : Fun K "arrows_from" "arrows_from" sFrom f fd) : FnOk P w K mg base CX0 1 f fd ["arrows", "stand", "letter"] (spFrom T K) := by
  refine F.ok scFrom (fun vs H Q E h => ?_) (fun cdv A outer s H vs Q E hr h => ?_)
  · obtain ⟨l, xs, A, s, x, rfl, _⟩ := h
    rfl
  · obtain ⟨l, xs, AA, st, le, rfl, hl, hx, hz, k⟩ := h
    refine ⟨_, pss_one (ps_ret (pe_lc (own := [("one", 3)]) (g := gName 3) rfl scFrom.nd (pi_list (pv 0)) (blkOk_by (N := ["arrows", "stand", "letter", "one"]) (sc := defScope sFrom) (by decide +kernel)) (fun _ _ _ _ _ => pg_name (i := 3) scFrom.nd rfl (Or.inl rfl))
      (fun _ _ _ _ _ => pts_one (PW.pt (pw_and (pt_cmpR op_eq (pe_ix (ixT K) (pv 3) pe_int (fun _ _ => rfl)) (pv 1) (nomark _)) (pw_and1 (pt_cmpR op_eq (pe_ix (ixT K) (pv 3) pe_int (fun _ _ => rfl)) (pv 2) (nomark _))))))
      (fun _ _ _ _ _ => pe_tup (pa_cons (pe_ix (ixT K) (pv 3) pe_int (fun _ _ => rfl)) (pa_cons (pe_ix (ixT K) (pv 3) pe_int (fun _ _ => rfl)) pa_nil))))), ?_⟩
    refine ⟨_, rfl, l, rfl, ⟨_, hl⟩, fun D hD => ?_⟩
    refine lcg_list T (fun i acc H' => Ls H' dPair (afrom (AA.take i) st le) acc) hD hl (by rw [List.take_zero]; exact .nil) (fun i y H' acc hi g ha hal r => ?_) (fun H' acc g ha hal r => ?_)
    · obtain ⟨a, hai, ra⟩ := hx.get_r hi
      have hil := (List.getElem?_eq_some_iff.mp hai).1
      obtain ⟨q, b, rfl, h1, h2⟩ := rd_arr (RD.mono g.tupK _ _ ra)
      have nx : afrom (AA.take (i + 1)) st le = afrom (AA.take i) st le ++ if (decide (a.1 = st) && decide (a.2.1 = le)) = true then [a.2.2] else [] := by
        rw [List.take_add_one, hai]
        exact afrom_snoc _ _ _ _
      have no : (decide (a.1 = st) && decide (a.2.1 = le)) = false → LcI T H D (fun i acc H' => Ls H' dPair (afrom (AA.take i) st le) acc) (i + 1) H' := fun c => by
        refine LcI.skip g ha hal (Go.refl _) ?_
        rw [nx, c, if_neg Bool.false_ne_true, List.append_nil]
        exact r
      refine ⟨rfl, ?_⟩
      refine ⟨_, rfl, q, _, _, _, rfl, rfl, SqT.of h1, atI_nat (j := 0) rfl, _, rfl, rfl, _, rfl, ?_⟩
      rw [dec_i]
      refine ite2 (fun c1 => ?_) (fun c1 => ?_)
      · refine ⟨_, rfl, q, _, _, _, rfl, rfl, SqT.of h1, atI_nat (j := 1) rfl, _, rfl, rfl, _, rfl, ?_⟩
        rw [dec_i]
        refine ite2 (fun c2 => ?_) (fun c2 => ?_)
        · refine ⟨_, rfl, q, _, _, _, rfl, rfl, SqT.of h1, atI_nat (j := 2) rfl, _, rfl, q, _, _, _, rfl, rfl, SqT.of h1, atI_nat (j := 3) rfl, (by show 2 ≤ sizeLine; decide), fun t nt => ?_⟩
          have hD' : upd H' t (.tup [V.ref b, V.int a.2.2.2]) D = some (.lst acc) := by rw [upd_ne (ne_of_none ha nt)]; exact ha
          refine LcI.add hD g ha hal (by omega) (Go.new nt) ?_
          rw [nx, c1, c2, Bool.and_self, if_pos rfl]
          refine Ls.mono (H := upd H' t (.tup [V.ref b, V.int a.2.2.2])) ((r.mono (tupK_new nt)).app ?_) (tupK_upd hD')
          exact rd_mk_pair (q := a.2.2) upd_same (by rw [upd_ne (ne_of_none h2 nt)]; exact h2)
        · exact no (by rw [c1, Bool.true_and]; simpa using c2)
      · exact no (by simp at c1; simp [c1])
    · rw [show xs.length = AA.length from hx.len.symm, List.take_length] at r
      exact k H' D acc _ g (new_of hD) ha r rfl
end
end K27
end

section
set_option Elab.async false
set_option linter.all false
set_option maxRecDepth 100000
set_option maxHeartbeats 4000000
/-! K27q: together, parted. -/
namespace K27
open PySem PySem.Spec PyProof.Rows L2
section
variable {X : Cx}
theorem opCat (K : PySem.W.Frag) (h : X.K = K := by rfl) : OpR X (binaryOp .Add) (rCatA K) := by subst h; exact op_catA
theorem setI (K : PySem.W.Frag) (w : World) (hc : X.calm = true) (h : X.K = K := by rfl) (h2 : X.w = w := by rfl) : CallR X (.type "set") (rSetI K w) := by subst h; subst h2; exact cr_setI hc
theorem sortedSet (w : World) (hc : X.calm = true) (h2 : X.w = w := by rfl) : CallR X (.builtin "sorted") (rSortedSet w) := by subst h2; exact cr_sortedSet hc
theorem tupOf (K : PySem.W.Frag) (h : X.K = K := by rfl) : CallR X (.type "tuple") (fun xs H Q => ∃ p ys, xs = [.ref p] ∧ ((SqL K H p ys ∧ ∀ l, H l = none → Q (.ref l) (upd H l (.tup ys))) ∨ (SqT K H p ys ∧ Q (.ref p) H))) := by subst h; exact call_tuple_of
end
theorem tupleG {es : List Expr} {k : Nat} {t : TGs} {n : Nat} {X : Cx} {pos : Pos} (K : PySem.W.Frag) (hc : X.calm = true) (h : PGs X es t) (hk : X.K = K := by rfl)
    (hn : (assignEach es X.env).length = n := by rfl) (hst : (assignEach es X.env).findIdx? (·.1) = none := by rfl) : PG X (.Tuple es k pos) (gTup K n t) := by subst hk; exact pg_tup hc h hn hst
theorem cat_ints {T : Tb} {K : PySem.W.Frag} {H : Hp} {a b : Addr} {l m : List Int} {Q : VK} (ha : H a = some (.tup (l.map V.int))) (hb : H b = some (.tup (m.map V.int))) (hz : l.length + m.length ≤ 1000)
    (h : ∀ u H3, Go T N0 H H3 → H3 u = some (.tup ((l ++ m).map V.int)) → Q (.ref u) H3) : rCatA K (.ref a) (.ref b) H Q := by
  refine ⟨a, b, _, _, rfl, rfl, SqT.of ha, SqT.of hb, sz_le (by rw [List.length_map, List.length_map]; omega), fun e => ?_, fun _ e => ?_, fun _ _ p np => ?_⟩
  · have : l = [] := by simpa using e
    subst this
    exact h b H (Go.refl _) hb
  · have : m = [] := by simpa using e
    subst this
    exact h a H (Go.refl _) (by rw [List.append_nil]; exact ha)
  · exact h p _ (Go.new np) (by rw [List.map_append]; exact upd_same)
theorem combos_row (l r : List Pair) (a : Pair) : combos (l ++ [a]) r = combos l r ++ r.map fun b => comb1 a b := by
  unfold combos
  rw [List.flatMap_append]
  simp
section
variable {P : Program} {w : World} {K : PySem.W.Frag} {mg : Str → Option Value} {base : Heap} {T : Tb}
theorem scTog : FnScope ["ones", "others", "is_thin", "found", "targets", "cost", "more", "other"] ["ones", "others", "is_thin"] (defScope sTog) := ⟨rfl, rfl, rfl, by decide +kernel, rfl, by decide +kernel, by decide +kernel⟩
def spTog (T : Tb) (K : PySem.W.Frag) : Sp := fun vs H Q _ => ∃ (l m : Addr) (xs ys : List V) (ps qs : List Pair) (S : Int), vs = [.ref l, .ref m, .bl true] ∧ SqL K H l xs ∧ SqL K H m ys ∧ Ls H dPair ps xs ∧ Ls H dPair qs ys ∧ OkP S ps ∧ OkP S qs ∧ S ≤ 5 ∧ ps.length ≤ 32 ∧ qs.length ≤ 32 ∧ LamX.Tabs T H ∧ PL T H Q (Thin (combos ps qs))
theorem ok_tog {f fO : Addr} {fd fdO : FuncData} (F : Fun K "together" "together" sTog f fd) (GO : FnOk P w K mg base CX0 5 fO fdO ["pairs", "is_thin"] (spOnce T K)) (kO : PySem.W.keepIn K (.ref fO) = true) (bO : Binds K fdO ["pairs", "is_thin"] []) (mO : mg "each_once" = some (.ref fO))
    (mTuple : mg "tuple" = none) (mSorted : mg "sorted" = none) (mSet : mg "set" = none) (mMax : mg "max" = none) : FnOk P w K mg base CX0 6 f fd ["ones", "others", "is_thin"] (spTog T K) := by
  refine F.ok scTog (fun vs H Q E h => ?_) (fun cdv A outer s H vs Q E hr h => ?_)
  · obtain ⟨l, m, xs, ys, ps, qs, S, rfl, _⟩ := h
    rfl
  · obtain ⟨l, m, xs, ys, ps, qs, S, rfl, hl, hm, hx, hy, op, oq, hS, lp, lq, hT, k⟩ := h
    refine ⟨_, pss_cons (ps_set (i := 3) scTog.nd rfl (.inl rfl) (pe_lst pa_nil)) (pss_cons (ps_for PassesOwn.never rfl (pi_list (pv 0)) (pg_tup rfl (pgs_cons (pg_name (i := 4) scTog.nd rfl (Or.inl rfl)) (pgs_cons (pg_name (i := 5) scTog.nd rfl (Or.inl rfl)) pgs_nil)))
        (pss_one (ps_for PassesOwn.never rfl (pi_list (pv 1)) (pg_tup rfl (pgs_cons (pg_name (i := 6) scTog.nd rfl (Or.inl rfl)) (pgs_cons (pg_name (i := 7) scTog.nd rfl (Or.inl rfl)) pgs_nil)))
          (pss_one (ps_expr (pe_bm PySem.F.plainAttrs_list PySem.F.slot_list_append PySem.F.type_list_append mt_append (pv 3) (pa_cons (pe_tup (pa_cons
            (pe_callTy (tupOf K) (by rfl) mTuple (by decide +kernel) (pa_cons (pe_callB (sortedSet w rfl) (by rfl) mSorted (by decide +kernel) (pa_cons (pe_callTy (setI K w rfl) (by rfl) mSet (by decide +kernel) (pa_cons (pe_op (opCat K) (pv 4) (pv 6)) pa_nil)) pa_nil)) pa_nil))
            (pa_cons (pe_callB (call_max2 rfl) (by rfl) mMax (by decide +kernel) (pa_cons (pv 5) (pa_cons (pv 7) pa_nil))) pa_nil))) pa_nil)))))))
      (pss_one (ps_ret (pe_call GO hr (by rfl) mO kO bO .nil pass0 (pa_cons (pv 3) (pa_cons (pv 2) pa_nil)))))), ?_⟩
    refine ⟨Nat.zero_le _, fun p1 n1 => ?_⟩
    have ga : Go T N0 H (upd H p1 (.lst [])) := .new n1
    refine ⟨_, rfl, l, rfl, ⟨_, ga.seq hl⟩, for_list (K := K) (a := l) (xs := xs) (fun i σ H' => ∃ (a4 a5 a6 a7 : Option V) (acc : List V), σ = [some (.ref l), some (.ref m), some (.bl true), some (.ref p1), a4, a5, a6, a7] ∧ Go T N0 H H' ∧ H' p1 = some (.lst acc) ∧ Ls H' dPair (combos (ps.take i) qs) acc)
      ⟨none, none, none, none, [], rfl, ga, upd_same, by rw [List.take_zero]; exact .nil⟩ (fun i σ H' _ ⟨_, _, _, _, _, _, g, _⟩ => g.seq hl) ?_ ?_⟩
    · rintro i y σ H' hi ⟨a4, a5, a6, a7, acc, rfl, g, hp1, hk⟩
      obtain ⟨a, hai, ra⟩ := hx.get_r hi
      have ham : a ∈ ps := List.mem_of_getElem? hai
      obtain ⟨q, b, rfl, h1, h2⟩ := rd_pair (RD.mono g.tupK _ _ ra)
      refine ⟨q, _, rfl, SqT.of h1, rfl, _, _, rfl, _, _, rfl, rfl, ?_⟩
      refine ⟨_, rfl, m, rfl, ⟨_, g.seq hm⟩, for_list (K := K) (a := m) (xs := ys) (fun j σ H2 => ∃ (a6 a7 : Option V) (acc : List V), σ = [some (.ref l), some (.ref m), some (.bl true), some (.ref p1), some (.ref b), some (.int a.2), a6, a7] ∧ Go T N0 H H2 ∧ H2 p1 = some (.lst acc) ∧ H2 b = some (.tup (a.1.map V.int)) ∧ Ls H2 dPair (combos (ps.take i) qs ++ (qs.take j).map fun b => comb1 a b) acc)
        ⟨a6, a7, acc, rfl, g, hp1, h2, by rw [List.take_zero, List.map_nil, List.append_nil]; exact hk⟩ (fun j σ H2 _ ⟨_, _, _, _, g, _⟩ => g.seq hm) ?_ ?_⟩
      · rintro j z σ H2 hj ⟨b6, b7, acc2, rfl, g2, hp2, hb2, hk2⟩
        obtain ⟨c, hcj, rc⟩ := hy.get_r hj
        have hcm : c ∈ qs := List.mem_of_getElem? hcj
        obtain ⟨q2, d, rfl, h3, h4⟩ := rd_pair (RD.mono g2.tupK _ _ rc)
        have la := (op a ham).1.len hS
        have lc := (oq c hcm).1.len hS
        refine ⟨q2, _, rfl, SqT.of h3, rfl, _, _, rfl, _, _, rfl, rfl, ?_⟩
        have al : acc2.length ≤ 5000 := by
          rw [← hk2.len, List.length_append, combos_len, List.length_map, List.length_take, List.length_take]
          have : min i ps.length * qs.length ≤ 32 * 32 := Nat.mul_le_mul (by omega) lq
          omega
        have nx : combos (ps.take i) qs ++ ((qs.take (j + 1)).map fun b => comb1 a b) = (combos (ps.take i) qs ++ (qs.take j).map fun b => comb1 a b) ++ [comb1 a c] := by
          rw [List.take_add_one, hcj, List.map_append, ← List.append_assoc]
          rfl
        refine ⟨_, rfl, .inl ⟨rfl, _, SqL.of hp2⟩, _, rfl, _, rfl, cat_ints (T := T) hb2 h4 (by omega) fun u H3 g3 hu => ?_⟩
        refine ⟨u, a.1 ++ c.1, five, rfl, .inr (SqT.of hu), by rw [List.length_append]; omega, fun t ht => ?_, by decide, fun sa cn ns hc => ?_⟩
        · have r : 0 ≤ t ∧ t < S := by
            rcases List.mem_append.mp ht with z | z
            · exact (op a ham).1.rng t z
            · exact (oq c hcm).1.rng t z
          have e : t = 0 ∨ t = 1 ∨ t = 2 ∨ t = 3 ∨ t = 4 := by omega
          unfold five
          simpa using e
        refine ⟨sa, _, cn, rfl, upd_same, hc, fun ms p2 srt hmem _ np2 => ?_⟩
        have em : ms = mrg (a.1 ++ c.1) := mrg_uniq srt fun z => by rw [hmem]; exact decide_eq_true_iff
        refine ⟨p2, _, rfl, .inl ⟨SqL.of upd_same, fun t nt => ?_⟩⟩
        refine ⟨_, rfl, _, rfl, a.2, c.2, rfl, ?_⟩
        refine ⟨(by show 2 ≤ sizeLine; decide), fun q3 nq => ?_⟩
        generalize hG1 : upd H3 sa (SetO w sa (fun j => decide (j ∈ a.1 ++ c.1)) cn) = G1 at *
        have e1 : Go T N0 H3 G1 := by rw [← hG1]; exact Go.new ns
        generalize hG2 : upd G1 p2 (.lst (ms.map V.int)) = G2 at *
        have e2 : Go T N0 G1 G2 := by rw [← hG2]; exact Go.new np2
        have e3 : Go T N0 G2 (upd G2 t (.tup (ms.map V.int))) := Go.new nt
        have tt : upd G2 t (.tup (ms.map V.int)) t = some (.tup (ms.map V.int)) := upd_same
        generalize hG3 : upd G2 t (.tup (ms.map V.int)) = G3 at *
        have e4 : Go T N0 G3 (upd G3 q3 (.tup [.ref t, .int (if c.2 > a.2 then c.2 else a.2)])) := Go.new nq
        have qq : upd G3 q3 (.tup [.ref t, .int (if c.2 > a.2 then c.2 else a.2)]) q3 = some (.tup [.ref t, .int (if c.2 > a.2 then c.2 else a.2)]) := upd_same
        generalize hG4 : upd G3 q3 (.tup [.ref t, .int (if c.2 > a.2 then c.2 else a.2)]) = G4 at *
        have gg : Go T N0 H2 G4 := (((g3.trans e1).trans e2).trans e3).trans e4
        refine ⟨p1, acc2, _, rfl, rfl, gg.lst hp2, sz_lt (by omega), ?_⟩
        refine ⟨_, _, _, rfl, (g2.trans gg).mut (new_of n1) (gg.lst hp2), upd_same, tupK_upd (gg.lst hp2) _ _ (gg.tup hb2), ?_⟩
        rw [nx]
        refine Ls.mono ((hk2.mono gg.tupK).app ?_) (tupK_upd (gg.lst hp2))
        refine rd_mk_pair (q := comb1 a c) qq ?_
        have := e4.tup tt
        rw [em] at this
        exact this
      · rintro σ H2 ⟨b6, b7, acc2, rfl, g2, hp2, hb2, hk2⟩
        refine ⟨_, _, _, _, _, rfl, g2, hp2, ?_⟩
        rw [show ys.length = qs.length from hy.len.symm, List.take_length] at hk2
        rw [List.take_add_one, hai]
        show Ls H2 dPair (combos (ps.take i ++ [a]) qs) acc2
        rw [combos_row]
        exact hk2
    · rintro σ H' ⟨a4, a5, a6, a7, acc, rfl, g, hp1, hk⟩
      rw [show xs.length = ps.length from hx.len.symm, List.take_length] at hk
      have oc := combos_ok op oq
      refine ⟨_, rfl, _, rfl, p1, acc, combos ps qs, rfl, SqL.of hp1, hk, fun p hp => ⟨(oc p hp).1.srt, Nat.le_trans ((oc p hp).1.len hS) (by decide)⟩, ?_, g.tabs hT, k.back g⟩
      rw [combos_len]
      have : ps.length * qs.length ≤ 32 * 32 := Nat.mul_le_mul lp lq
      omega
end
end K27
end

section
set_option Elab.async false
set_option linter.all false
set_option maxRecDepth 100000
set_option maxHeartbeats 4000000
/-! K27r: parted, read_on. -/
namespace K27
open PySem PySem.Spec PyProof.Rows L2
theorem lenIf {n : Nat} {m : Int} {A B : Prop} (h1 : (n : Int) = m → A) (h2 : (n : Int) ≠ m → B) : if decide (V.int (n : Int) = V.int m) = true then A else B := by
  rw [dec_i]
  exact ite2 (fun c => h1 (of_decide_eq_true c)) (fun c => h2 fun e => c (decide_eq_true e))
/-- arrows that are as they should be -/
structure OkK (S X : Int) (A : List Arr) : Prop where
  ok : ∀ a ∈ A, OkA S X a
  few : ∀ s x, (afrom A s x).length ≤ 32
  len : A.length ≤ 1000
  s5 : S ≤ 5
theorem OkK.okP {S X : Int} {A : List Arr} (h : OkK S X A) (s x : Int) : OkP S (afrom A s x) := fun p hp => ⟨(h.ok _ (mem_afrom.mp hp)).tg, (h.ok _ (mem_afrom.mp hp)).co⟩
theorem OkP.one {S s : Int} (h : 0 ≤ s ∧ s < S) : OkP S [([s], 0)] := fun p hp => by
  rw [List.mem_singleton.mp hp]
  exact ⟨⟨List.pairwise_singleton _ _, fun t ht => by rw [List.mem_singleton.mp ht]; exact h⟩, Int.le_refl _⟩
theorem OkP.nul {S : Int} : OkP S [([], 0)] := fun p hp => by
  rw [List.mem_singleton.mp hp]
  exact ⟨⟨List.Pairwise.nil, fun t ht => by cases ht⟩, Int.le_refl _⟩
theorem OkP.flat {S : Int} {ps : List Pair} (h : OkP S ps) (hS : S ≤ 5) : ∀ p ∈ ps, p.1.Pairwise (· < ·) ∧ p.1.length ≤ 1000 := fun p hp => ⟨(h p hp).1.srt, Nat.le_trans ((h p hp).1.len hS) (by decide)⟩
/-- [((), 0)], or [((s,), 0)] -/
theorem begun (T : Tb) (ts : List Int) {H : Hp} {t1 t2 p1 : Addr} (n1 : H t1 = none) (n2 : upd H t1 (.tup (ts.map V.int)) t2 = none) (n3 : upd (upd H t1 (.tup (ts.map V.int))) t2 (.tup [.ref t1, .int 0]) p1 = none) :
    Go T N0 H (upd (upd (upd H t1 (.tup (ts.map V.int))) t2 (.tup [.ref t1, .int 0])) p1 (.lst [.ref t2])) ∧ upd (upd (upd H t1 (.tup (ts.map V.int))) t2 (.tup [.ref t1, .int 0])) p1 (.lst [.ref t2]) p1 = some (.lst [.ref t2]) ∧
    Ls (upd (upd (upd H t1 (.tup (ts.map V.int))) t2 (.tup [.ref t1, .int 0])) p1 (.lst [.ref t2])) dPair [(ts, 0)] [.ref t2] ∧ New H p1 := by
  have g1 : Go T N0 H (upd H t1 (.tup (ts.map V.int))) := Go.new n1
  have g2 : Go T N0 (upd H t1 (.tup (ts.map V.int))) (upd (upd H t1 (.tup (ts.map V.int))) t2 (.tup [.ref t1, .int 0])) := Go.new n2
  have g3 : Go T N0 (upd (upd H t1 (.tup (ts.map V.int))) t2 (.tup [.ref t1, .int 0])) (upd (upd (upd H t1 (.tup (ts.map V.int))) t2 (.tup [.ref t1, .int 0])) p1 (.lst [.ref t2])) := Go.new n3
  refine ⟨(g1.trans g2).trans g3, upd_same, .cons ?_ .nil, (g1.trans g2).fresh n3⟩
  exact rd_mk_pair (q := (ts, 0)) (g3.tup upd_same) ((g2.trans g3).tup upd_same)
section
variable {P : Program} {w : World} {K : PySem.W.Frag} {mg : Str → Option Value} {base : Heap} {T : Tb}
theorem scParted : FnScope ["arrows", "stands", "letter", "is_thin", "found", "stand"] ["arrows", "stands", "letter", "is_thin"] (defScope sParted) := ⟨rfl, rfl, rfl, by decide +kernel, rfl, by decide +kernel, by decide +kernel⟩
def spParted (T : Tb) (K : PySem.W.Frag) : Sp := fun vs H Q _ => ∃ (l b : Addr) (xs : List V) (A : List Arr) (S X x : Int) (ts : List Int), vs = [.ref l, .ref b, .int x, .bl true] ∧ SqL K H l xs ∧ Ls H dArr A xs ∧ OkK S X A ∧ H b = some (.tup (ts.map V.int)) ∧ LamX.Tabs T H ∧
  PL T H Q fun qs => AllS (ts.map fun t => afrom A t x) qs ∧ OkP S qs ∧ qs.length ≤ 32
theorem ok_parted {f fT fF : Addr} {fd fdT fdF : FuncData} (F : Fun K "parted" "parted" sParted f fd) (GT : FnOk P w K mg base CX0 6 fT fdT ["ones", "others", "is_thin"] (spTog T K)) (kT : PySem.W.keepIn K (.ref fT) = true) (bT : Binds K fdT ["ones", "others", "is_thin"] []) (mT : mg "together" = some (.ref fT))
    (GF : FnOk P w K mg base CX0 1 fF fdF ["arrows", "stand", "letter"] (spFrom T K)) (kF : PySem.W.keepIn K (.ref fF) = true) (bF : Binds K fdF ["arrows", "stand", "letter"] []) (mF : mg "arrows_from" = some (.ref fF)) :
    FnOk P w K mg base CX0 7 f fd ["arrows", "stands", "letter", "is_thin"] (spParted T K) := by
  refine F.ok scParted (fun vs H Q E h => ?_) (fun cdv A outer s H vs Q E hr h => ?_)
  · obtain ⟨l, b, xs, A, S, X, x, ts, rfl, _⟩ := h
    rfl
  · obtain ⟨l, b, xs, AA, S, X, x, ts, rfl, hl, hx, ok, hb, hT, k⟩ := h
    refine ⟨_, pss_cons (ps_set (i := 4) scParted.nd rfl (.inl rfl) (pe_lst (pa_cons (pe_tup (pa_cons (pe_tup pa_nil) (pa_cons pe_int pa_nil))) pa_nil)))
      (pss_cons (ps_for PassesOwn.never rfl (pi_tup (pv 1)) (pg_name (i := 5) scParted.nd rfl (Or.inl rfl))
        (pss_one (ps_set (i := 4) scParted.nd rfl (.inl rfl) (pe_call GT hr (by rfl) mT kT bT .nil pass0 (pa_cons (pv 4) (pa_cons (pe_call GF (hr.mono (by decide)) (by rfl) mF kF bF .nil pass0 (pa_cons (pv 0) (pa_cons (pv 5) (pa_cons (pv 2) pa_nil)))) (pa_cons (pv 3) pa_nil)))))))
      (pss_one (ps_ret (pv 4)))), ?_⟩
    refine ⟨Nat.zero_le _, fun t1 n1 => ⟨(by show 2 ≤ sizeLine; decide), fun t2 n2 => ⟨(by show 1 ≤ sizeLine; decide), fun p1 n3 => ?_⟩⟩⟩
    obtain ⟨g0, hp0, hk0, np0⟩ := begun T [] n1 n2 n3
    refine ⟨_, rfl, b, rfl, ⟨_, SqT.of (g0.tup hb)⟩, for_tup (K := K) (a := b) (xs := ts.map V.int) (fun i σ H' => ∃ (p : Addr) (a5 : Option V) (ys : List V) (qs : List Pair), σ = [some (.ref l), some (.ref b), some (.int x), some (.bl true), some (.ref p), a5] ∧ Go T N0 H H' ∧ New H p ∧ H' p = some (.lst ys) ∧ Ls H' dPair qs ys ∧
        AllS ((ts.take i).map fun t => afrom AA t x) qs ∧ OkP S qs ∧ qs.length ≤ 32)
      ⟨p1, none, _, _, rfl, g0, np0, hp0, hk0, by rw [List.take_zero]; exact AllS.nil, OkP.nul, by decide⟩ (fun i σ H' _ ⟨_, _, _, _, _, g, _⟩ => SqT.of (g.tup hb)) ?_ ?_⟩
    · rintro i y σ H' hi ⟨p, a5, ys, qs, rfl, g, np, hp, hk, al, op, ql⟩
      rw [List.getElem?_map] at hi
      obtain ⟨t, hti, rfl⟩ := Option.map_eq_some_iff.mp hi
      refine ⟨_, rfl, _, rfl, _, rfl, _, rfl, l, xs, AA, t, x, rfl, g.seq hl, hx.mono g.tupK, Nat.le_trans ok.len (by decide), fun H2 q zs rs g2 nq hq hr2 er => ?_⟩
      subst er
      refine ⟨_, rfl, p, q, ys, zs, qs, afrom AA t x, S, rfl, SqL.of (g2.lst hp), SqL.of hq, hk.mono g2.tupK, hr2, op, ok.okP t x, ok.s5, ql, ok.few t x, (g.trans g2).tabs hT, fun H3 r us vs g3 nr hr3 hv th => ?_⟩
      refine ⟨r, _, us, vs, rfl, (g.trans g2).trans g3, (g.trans g2).newB nr, hr3, hv, ?_, th.okP (combos_ok op (ok.okP t x)), th.len (combos_ok op (ok.okP t x)) ok.s5⟩
      rw [List.take_add_one, hti, List.map_append]
      exact al.step th
    · rintro σ H' ⟨p, a5, ys, qs, rfl, g, np, hp, hk, al, op, ql⟩
      rw [List.length_map, List.take_length] at al
      exact ⟨_, rfl, k H' p ys qs g np hp hk ⟨al, op, ql⟩⟩
/-! ### read_on -/
theorem scRead : FnScope ["arrows", "stand", "w", "is_thin", "ones", "found", "targets", "cost", "more", "other"] ["arrows", "stand", "w", "is_thin"] (defScope sRead) := ⟨rfl, rfl, rfl, by decide +kernel, rfl, by decide +kernel, by decide +kernel⟩
def spRead (T : Tb) (K : PySem.W.Frag) : Sp := fun vs H Q _ => ∃ (l b : Addr) (xs : List V) (A : List Arr) (S X s : Int) (ww : List Int), vs = [.ref l, .int s, .ref b, .bl true] ∧ SqL K H l xs ∧ Ls H dArr A xs ∧ OkK S X A ∧ H b = some (.tup (ww.map V.int)) ∧ ww.length ≤ 2 ∧ (0 ≤ s ∧ s < S) ∧ LamX.Tabs T H ∧
  PL T H Q fun qs => ReadS A s ww qs ∧ OkP S qs ∧ qs.length ≤ 32
theorem ok_read {f fO fF fP : Addr} {fd fdO fdF fdP : FuncData} (F : Fun K "read_on" "read_on" sRead f fd) (GO : FnOk P w K mg base CX0 5 fO fdO ["pairs", "is_thin"] (spOnce T K)) (kO : PySem.W.keepIn K (.ref fO) = true) (bO : Binds K fdO ["pairs", "is_thin"] []) (mO : mg "each_once" = some (.ref fO))
    (GF : FnOk P w K mg base CX0 1 fF fdF ["arrows", "stand", "letter"] (spFrom T K)) (kF : PySem.W.keepIn K (.ref fF) = true) (bF : Binds K fdF ["arrows", "stand", "letter"] []) (mF : mg "arrows_from" = some (.ref fF))
    (GP : FnOk P w K mg base CX0 7 fP fdP ["arrows", "stands", "letter", "is_thin"] (spParted T K)) (kP : PySem.W.keepIn K (.ref fP) = true) (bP : Binds K fdP ["arrows", "stands", "letter", "is_thin"] []) (mP : mg "parted" = some (.ref fP)) (mLen : mg "len" = none) :
    FnOk P w K mg base CX0 8 f fd ["arrows", "stand", "w", "is_thin"] (spRead T K) := by
  refine F.ok scRead (fun vs H Q E h => ?_) (fun cdv A outer s H vs Q E hr h => ?_)
  · obtain ⟨l, b, xs, A, S, X, s, ww, rfl, _⟩ := h
    rfl
  · obtain ⟨l, b, xs, AA, S, X, st, ww, rfl, hl, hx, ok, hb, hw, hst, hT, k⟩ := h
    have hr5 : Room 5 (A.deeper (envOfC "read_on" (defScope sRead) s.heap.objs.size f cdv)) := hr.mono (by decide)
    have hr1 : Room 1 (A.deeper (envOfC "read_on" (defScope sRead) s.heap.objs.size f cdv)) := hr.mono (by decide)
    refine ⟨_, pss_cons (ps_if (pt_cmpR op_eq (pe_callB (lenS K) (by rfl) mLen PySem.boot_len (pa_cons (pv 2) pa_nil)) pe_int (nomark _)) (pss_one (ps_ret (pe_lst (pa_cons (pe_tup (pa_cons (pe_tup (pa_cons (pv 1) pa_nil)) (pa_cons pe_int pa_nil))) pa_nil)))) pss_nil)
      (pss_cons (ps_set (i := 4) scRead.nd rfl (.inl rfl) (pe_call GF hr1 (by rfl) mF kF bF .nil pass0 (pa_cons (pv 0) (pa_cons (pv 1) (pa_cons (pe_ix (ixT K) (pv 2) pe_int (fun _ _ => rfl)) pa_nil)))))
      (pss_cons (ps_if (pt_cmpR op_eq (pe_callB (lenS K) (by rfl) mLen PySem.boot_len (pa_cons (pv 2) pa_nil)) pe_int (nomark _)) (pss_one (ps_ret (pe_call GO hr5 (by rfl) mO kO bO .nil pass0 (pa_cons (pv 4) (pa_cons (pv 3) pa_nil))))) pss_nil)
      (pss_cons (ps_set (i := 5) scRead.nd rfl (.inl rfl) (pe_lst pa_nil))
      (pss_cons (ps_for PassesOwn.never rfl (pi_list (pv 4)) (pg_tup rfl (pgs_cons (pg_name (i := 6) scRead.nd rfl (Or.inl rfl)) (pgs_cons (pg_name (i := 7) scRead.nd rfl (Or.inr rfl)) pgs_nil)))
        (pss_one (ps_expr (pe_bm PySem.F.plainAttrs_list PySem.F.slot_list_extend PySem.F.type_list_extend mt_extend (pv 5) (pa_cons
          (pe_lc (own := [("more", 8), ("other", 9)]) (tt := tYes) rfl scRead.nd (pi_list (pe_call GP hr (by rfl) mP kP bP .nil pass0 (pa_cons (pv 0) (pa_cons (pv 6) (pa_cons (pe_ix (ixT K) (pv 2) pe_int (fun _ _ => rfl)) (pa_cons (pv 3) pa_nil))))))
            (blkOk_by (N := ["arrows", "stand", "w", "is_thin", "ones", "found", "targets", "cost", "more", "other"]) (sc := defScope sRead) (by decide +kernel)) (fun _ _ _ _ _ => tupleG (n := 2) K rfl (pgs_cons (pg_name (i := 8) scRead.nd rfl (Or.inl rfl)) (pgs_cons (pg_name (i := 9) scRead.nd rfl (Or.inl rfl)) pgs_nil))) (fun _ _ _ _ _ => pts_nil)
            (fun _ _ _ _ _ => pe_tup (pa_cons (pv 8) (pa_cons (pe_op op_add (pv 7) (pv 9)) pa_nil)))) pa_nil)))))
      (pss_one (ps_ret (pe_call GO hr5 (by rfl) mO kO bO .nil pass0 (pa_cons (pv 5) (pa_cons (pv 3) pa_nil))))))))), ?_⟩
    refine ⟨_, rfl, b, _, rfl, .inr (SqT.of hb), rfl, _, rfl, ?_⟩
    refine lenIf (fun c => ?_) (fun c => ?_)
    · have : ww = [] := List.length_eq_zero_iff.mp (by rw [List.length_map] at c; omega)
      subst this
      refine ⟨_, rfl, (by show 1 ≤ sizeLine; decide), fun t1 n1 => ⟨(by show 2 ≤ sizeLine; decide), fun t2 n2 => ⟨(by show 1 ≤ sizeLine; decide), fun p1 n3 => ?_⟩⟩⟩
      obtain ⟨g0, hp0, hk0, np0⟩ := begun T [st] n1 n2 n3
      exact k _ p1 _ _ g0 np0 hp0 hk0 ⟨ReadS.nil AA st, OkP.one hst, (by show 1 ≤ 32; decide)⟩
    rw [List.length_map] at c
    obtain ⟨x, wr, rfl⟩ : ∃ x wr, ww = x :: wr := by
      cases ww with
      | nil => exact absurd rfl c
      | cons x wr => exact ⟨x, wr, rfl⟩
    refine ⟨_, rfl, _, rfl, _, rfl, b, _, _, _, rfl, rfl, SqT.of hb, atI_nat (j := 0) rfl, l, xs, AA, st, x, rfl, hl, hx, Nat.le_trans ok.len (by decide), fun H1 q zs rs g1 nq hq hr2 er => ?_⟩
    subst er
    refine ⟨_, rfl, b, _, rfl, .inr (SqT.of (g1.tup hb)), rfl, _, rfl, ?_⟩
    have o1 := ok.okP st x
    refine lenIf (fun c2 => ?_) (fun c2 => ?_)
    · rw [List.length_map, List.length_cons] at c2
      have : wr = [] := List.length_eq_zero_iff.mp (by omega)
      subst this
      refine ⟨_, rfl, _, rfl, q, zs, _, rfl, SqL.of hq, hr2, o1.flat ok.s5, Nat.le_trans (ok.few st x) (by decide), g1.tabs hT, fun H2 p ys qs g2 np hp hk th => ?_⟩
      exact k H2 p ys qs (g1.trans g2) (g1.newB np) hp hk ⟨ReadS.one (fun a ha => (ok.ok a ha).co) th, th.okP o1, th.len o1 ok.s5⟩
    · rw [List.length_map, List.length_cons] at c2
      obtain ⟨z, rfl⟩ : ∃ z, wr = [z] := by
        match wr, hw, c2 with
        | [], _, c2 => exact absurd rfl c2
        | [z], _, _ => exact ⟨z, rfl⟩
        | _ :: _ :: _, hw, _ => exact absurd hw (by simp)
      refine ⟨Nat.zero_le _, fun p1 n1 => ?_⟩
      have ga : Go T N0 H1 (upd H1 p1 (.lst [])) := .new n1
      refine ⟨_, rfl, q, rfl, ⟨_, SqL.of (ga.lst hq)⟩, for_list (K := K) (a := q) (xs := zs) (fun i σ H' => ∃ (a6 a7 a8 a9 : Option V) (acc : List V) (ps : List Pair), σ = [some (.ref l), some (.int st), some (.ref b), some (.bl true), some (.ref q), some (.ref p1), a6, a7, a8, a9] ∧ Go T N0 H1 H' ∧ H' p1 = some (.lst acc) ∧ Ls H' dPair ps acc ∧ TwoS AA z ((afrom AA st x).take i) ps ∧ OkP S ps ∧ ps.length ≤ 32 * i)
        ⟨none, none, none, none, [], [], rfl, ga, upd_same, .nil, by rw [List.take_zero]; exact TwoS.nil AA z, (fun _ h => by cases h), Nat.zero_le _⟩ (fun i σ H' _ ⟨_, _, _, _, _, _, _, g, _⟩ => SqL.of (g.lst hq)) ?_ ?_⟩
      · rintro i y σ H' hi ⟨a6, a7, a8, a9, acc, ps, rfl, g, hp1, hk, tw, op, pl⟩
        obtain ⟨o, hoi, ro⟩ := hr2.get_r hi
        have hil := (List.getElem?_eq_some_iff.mp hoi).1
        have fw := ok.few st x
        have om := o1 o (List.mem_of_getElem? hoi)
        obtain ⟨u, d, rfl, h1, h2⟩ := rd_pair (RD.mono g.tupK _ _ ro)
        refine ⟨u, _, rfl, SqT.of h1, rfl, _, _, rfl, _, _, rfl, rfl, ?_⟩
        refine ⟨_, rfl, .inl ⟨rfl, _, SqL.of hp1⟩, _, rfl, _, rfl, _, rfl, b, _, _, _, rfl, rfl, SqT.of ((g1.trans g).tup hb), atI_nat (j := 1) rfl, _, rfl, l, d, xs, AA, S, X, z, o.1, rfl, (g1.trans g).seq hl, hx.mono (g1.trans g).tupK, ok, h2, (g1.trans g).tabs hT, fun H2 p ys qs g2 np hp hkq ⟨al, oq, ql⟩ => ?_⟩
        refine ⟨p, rfl, ⟨_, SqL.of hp⟩, fun D hD => ?_⟩
        refine lcg_list T (fun j bs H3 => Ls H3 dPair ((qs.take j).map fun q => (q.1, o.2 + q.2)) bs) hD (SqL.of hp) (by rw [List.take_zero]; exact .nil) (fun j v H3 bs hj g3 ha hbl r => ?_) (fun H3 bs g3 ha hbl r => ?_)
        · obtain ⟨e, hej, re⟩ := hkq.get_r hj
          have hjl := (List.getElem?_eq_some_iff.mp hj).1
          have yl := hkq.len
          obtain ⟨m1, m2, rfl, h3, h4⟩ := rd_pair (RD.mono g3.tupK _ _ re)
          refine ⟨m1, _, rfl, SqT.of h3, rfl, _, _, rfl, _, _, rfl, rfl, ?_⟩
          refine ⟨rfl, yesIf ?_⟩
          refine ⟨_, rfl, _, rfl, _, rfl, o.2, e.2, rfl, rfl, (by show 2 ≤ sizeLine; decide), fun t nt => ?_⟩
          have hD' : upd H3 t (.tup [V.ref m2, V.int (o.2 + e.2)]) D = some (.lst bs) := by rw [upd_ne (ne_of_none ha nt)]; exact ha
          refine LcI.add hD g3 ha hbl (by omega) (Go.new nt) ?_
          have nx : (qs.take (j + 1)).map (fun q => (q.1, o.2 + q.2)) = (qs.take j).map (fun q => (q.1, o.2 + q.2)) ++ [(e.1, o.2 + e.2)] := by
            rw [List.take_add_one, hej, List.map_append]
            rfl
          rw [nx]
          refine Ls.mono (H := upd H3 t (.tup [V.ref m2, V.int (o.2 + e.2)])) ((r.mono (tupK_new nt)).app ?_) (tupK_upd hD')
          exact rd_mk_pair (q := (e.1, o.2 + e.2)) upd_same (by rw [upd_ne (ne_of_none h4 nt)]; exact h4)
        · rw [show ys.length = qs.length from hkq.len.symm, List.take_length] at r
          have bl := r.len
          rw [List.length_map] at bl
          have acl := hk.len
          have zl := hr2.len
          refine ⟨p1, D, acc, bs, rfl, rfl, (g2.trans g3).lst hp1, ha, sz_le (by omega), ?_⟩
          refine ⟨_, _, _, _, _, ps ++ qs.map (fun q => (q.1, o.2 + q.2)), rfl, ((g.trans g2).trans g3).mut (new_of n1) ((g2.trans g3).lst hp1), upd_same, ?_, ?_, ?_, ?_⟩
          · exact Ls.mono (F2.app (hk.mono (g2.trans g3).tupK) r) (tupK_upd ((g2.trans g3).lst hp1))
          · rw [List.take_add_one, hoi]
            exact tw.step al
          · intro v hv
            rcases List.mem_append.mp hv with hv | hv
            · exact op v hv
            · obtain ⟨e, he, rfl⟩ := List.mem_map.mp hv
              exact ⟨(oq e he).1, by have := (oq e he).2; have := om.2; show 0 ≤ o.2 + e.2; omega⟩
          · rw [List.length_append, List.length_map]
            omega
      · rintro σ H' ⟨a6, a7, a8, a9, acc, ps, rfl, g, hp1, hk, tw, op, pl⟩
        have zl := hr2.len
        have fw := ok.few st x
        rw [← zl, List.take_length] at tw
        refine ⟨_, rfl, _, rfl, p1, acc, ps, rfl, SqL.of hp1, hk, op.flat ok.s5, by omega, (g1.trans g).tabs hT, fun H2 p ys qs g2 np hp hkq th => ?_⟩
        exact k H2 p ys qs ((g1.trans g).trans g2) ((g1.trans g).newB np) hp hkq ⟨ReadS.two tw th, th.okP op, th.len op ok.s5⟩
end
end K27
end

section
set_option Elab.async false
set_option linter.all false
set_option maxRecDepth 100000
set_option maxHeartbeats 4000000
/-! K27s: enumerate(tuple). -/
namespace K27
open PySem PySem.Spec PyProof.Rows L2
theorem meets_enum1 {v : Value} {o : Obj} {Hh : Heap → Prop} (B : Begins v o Hh) :
    Meets (Builtin.«enumerate.__new__» ⟨[.type "enumerate", v], []⟩) (fun _ R s => Hh s.heap ∧
      R (.ok (.ret (.ref (s.heap.push o).objs.size))) { s with heap := (s.heap.push o).push { cls := .type "enumerate", data := .fields #[.none, .bool false, .ref s.heap.objs.size, rawInt 0, .none, .none] } }) :=
  .of_wp fun prog w A R s ⟨h1, h⟩ => by
    obtain ⟨hp, g, d, tk, os⟩ := s
    have hsub := sub_enumerate
    have q1 : ∀ {A' : Around} {E : Value → Shared → Prop} {Q : Value → Shared → Prop}, Q (.ref hp.objs.size) ⟨hp.push o, g, d, tk, os⟩ → wpAny (model prog w) A' (pyIter v) Q E ⟨hp, g, d, tk, os⟩ := fun q => B.iter prog w _ _ ⟨hp, g, d, tk, os⟩ _ h1 q
    wp_walk using q1
    refine wpAny_stack_any fun st => wpAny_pure ?_
    split
    · rename_i c _ _ _ _ _
      cases (c == Value.type "enumerate") <;>
      · wp_walk using q1
        exact ⟨_, rfl, h⟩
    · wp_walk using q1
      exact ⟨_, rfl, h⟩
section
variable {prog : Program} {w : World} {A : Around} {E : Value → Shared → Prop} {s : Shared}
theorem enum1 {v : Value} {o : Obj} {Hh : Heap → Prop} {Q : Value → Shared → Prop} (B : Begins v o Hh) (h1 : Hh s.heap)
    (h : ∀ h', IsEnum h' (s.heap.objs.size + 1) s.heap.objs.size 0 .none → h'.get? s.heap.objs.size = some o → (∀ b o, s.heap.get? b = some o → h'.get? b = some o) → Q (.ref (s.heap.objs.size + 1)) { s with heap := h' }) : wpAny (model prog w) A (call (.type "enumerate") [v]) Q E s := by
  refine callType_new F.called_enumerate (by decide) (F.typeCall_enumerate_1 _) (F.newCall_enumerate_1 _) (fun obj => F.args_object_init_2 obj _) F.entry_enumerate_new (meets_enum1 B) ⟨h1, ?_⟩
  have hz : (s.heap.push o).objs.size = s.heap.objs.size + 1 := Heap.size_push ..
  show _ ∧ _
  rw [hz]
  have at2 := Heap.get?_push_size (s.heap.push o) (o := { cls := .type "enumerate", data := .fields #[.none, .bool false, .ref s.heap.objs.size, rawInt 0, .none, .none] }) rfl
  rw [hz] at at2
  exact ⟨⟨_, at2, rfl⟩, h _ at2 (Heap.get?_push_of_some _ (Heap.get?_push_size _ B.free)) fun b o x => Heap.get?_push_of_some _ (Heap.get?_push_of_some _ x)⟩
end
/-- the tuple at a, each item in a new pair with its number -/
def Iqt (K : PySem.W.Frag) (a : Addr) : It :=
  ⟨fun i H => ∃ (xs : List V) (x : V), SqT K H a xs ∧ xs[i]? = some x, fun i H v H' => ∃ q x, v = .ref q ∧ H q = none ∧ H' = upd H q (.tup [.int (i : Nat), x]) ∧ ∀ xs, SqT K H a xs → xs[i]? = some x, fun i H => ∃ xs : List V, SqT K H a xs ∧ xs.length ≤ i⟩
theorem turn_enumT {P : Program} {w : World} {K : PySem.W.Frag} {elts : List Expr} {kk : Nat} {tpos : Pos} (a e it : Addr) :
    Turn P w K (.Tuple elts kk tpos) (Iqt K a) [e, it] e (fun i h => (∃ old, IsEnum h e it ((i : Nat) : Int) old) ∧ h.IsTupleIter it a i ∧ e ≠ it ∧ e ≠ a ∧ a ≠ it) where
  mem := List.mem_cons_self
  obj := fun i h ⟨⟨old, he⟩, ⟨o, ho, hc, hd⟩, _⟩ b hb => by
    rcases List.mem_cons.mp hb with z | z
    · rw [z]; exact ⟨_, he, fun v q => nomatch q⟩
    · rw [List.mem_singleton.mp z]; exact ⟨o, ho, fun v q => by rw [hd] at q; cases q⟩
  keep := fun i h h' ⟨⟨old, he⟩, hi, r⟩ k => ⟨⟨old, k e (by simp) _ he⟩, hi.at fun o q => k it (by simp) o q, r⟩
  item := by
    intro X e1 e2 e3 hc i pins s σ H E I hf ⟨⟨old, he⟩, hit, hne, hea, hai⟩ ⟨xs, x, hq, hx⟩
    subst e1 e2 e3
    obtain ⟨its, rv, p, hz⟩ := I.tuple hq
    obtain ⟨u, hu, ru⟩ := rv.get hx
    have hel : e < s.heap.objs.size := Heap.lt_size he
    have hil : it < s.heap.objs.size := let ⟨_, q, _⟩ := hit; Heap.lt_size q
    have hlt : i < its.toArray.size := by rw [List.size_toArray]; exact (List.getElem?_eq_some_iff.mp hu).1
    refine wpAny_pyNext_enum_itemD (Draws.tuple (show X.A.in1.handled = none from I.ok.hd hc) it a hai its.toArray) he ⟨hit, p⟩ hlt hne (by simp [hne, hea]) fun u' h' tk hP ho ⟨hit', _⟩ hT hsz hk => ?_
    have eu : u' = u := Option.some.inj (hP.symm.trans (by simpa using hu))
    subst eu
    refine ⟨_, rfl, wpAny_letOwnedTupleGo_enum (s := { s with heap := h', toks := tk + 1 }) ho fun h'' he' sb => ?_⟩
    have hT2 : h''.get? s.heap.objs.size = some { cls := .type "tuple", data := .seq #[.int i tk, u'] } := (sb.2 _ (Nat.ne_of_gt hel)).trans hT
    have new : ObjOk X.prog X.w (upd H s.heap.objs.size (.tup [.int (i : Nat), x])) h'' s.heap.objs.size (.tup [.int (i : Nat), x]) := ⟨by show 2 ≤ sizeLine; decide, [.int i tk, u'], .cons ⟨_, rfl⟩ (.cons ru .nil), ⟨_, hT2, rfl, _, rfl⟩⟩
    have I1 : Inv X pins σ (upd H s.heap.objs.size (.tup [.int (i : Nat), x])) { s with heap := h'', toks := tk + 1 } :=
      I.turnedNew (ch := [e, it]) (fun b ob hb q => (sb.2 b (fun z => hb (by simp [z]))).trans (hk b ob (fun z => hb (by simp [z])) (fun z => hb (by simp [z])) q)) hf (Nat.le_refl _) new
    refine ⟨.ref s.heap.objs.size, _, I1, rfl, ⟨_, x, rfl, I.hok.fresh (Nat.le_refl _), rfl, fun ys hy => by rw [I.tuple_inj hy hq]; exact hx⟩, ⟨⟨u', ?_⟩, hit'.at fun o q => (sb.2 it (Ne.symm hne)).trans q, hne, hea, hai⟩, fun b hb => ?_⟩
    · rw [show ((i + 1 : Nat) : Int) = (i : Int) + 1 by omega]
      exact he'
    · have hb' : b < s.heap.objs.size := by
        rcases List.mem_cons.mp hb with z | z
        · rw [z]; exact hel
        · rw [List.mem_singleton.mp z]; exact hil
      rw [upd_ne (Nat.ne_of_lt hb')]
      exact (hf b hb).1
  done := by
    intro X e1 e2 e3 hc i pins s σ H E I hf ⟨⟨old, he⟩, hit, hne, hea, hai⟩ ⟨xs, hq, hx⟩
    subst e1 e2 e3
    obtain ⟨its, rv, p, hz⟩ := I.tuple hq
    obtain ⟨f0, f1, f2, f3, f4, f5⟩ := hf it (by simp)
    have hl := rv.length
    have Dn : Draws X.prog X.w X.A.in1 it [it, a] i (fun _ _ => False) (fun j h => j = i ∧ h.IsTupleIter it a i ∧ h.IsTuple a its.toArray) :=
      { live := fun _ _ st => let ⟨o, ho, _⟩ := st.2.1; ⟨o, ho⟩
        frame := fun _ _ _ st hk => ⟨st.1, st.2.1.at fun o e => hk it (by simp) o e, st.2.2.at fun o e => hk a (by simp) o e⟩
        item := fun j s Q E hi st _ => absurd st.1 (by omega)
        done := fun s Q E st hE => wpAny_nextOf_tuple_end (show X.A.in1.handled = none from I.ok.hd hc) st.2.1 st.2.2 (by simp; omega) hE }
    exact wpAny_pyNext_enum_endD Dn he ⟨rfl, hit, p⟩ fun h' eb => ⟨rfl, I.turned (t' := s.toks) (fun b o hb q => eb b o hb q) f0 f1 f3 f4 f5⟩
  self := fun A i s Q E ⟨⟨_, he⟩, _⟩ h => wpAny_pyIter_enum he h
def iEnumT (K : PySem.W.Frag) (ta : TA) : TI := fun σ H R => ta σ H fun vs H1 => ∃ a xs, vs = [.ref a] ∧ SqT K H1 a xs ∧ R (Iqt K a) H1
theorem pi_enumT {X : Cx} {e : Expr} {ta : TA} {p pos tpos : Pos} {elts : List Expr} {kk : Nat} (hg : Gl X "enumerate") (hm : X.mg "enumerate" = none) (ha : PA X [e] ta) (hs : starEach [e] X.env = [(false, eval e X.env)] := by rfl) :
    PI X (.Tuple elts kk tpos) (.Call (.Name "enumerate" p) [e] [] pos) (iEnumT X.K ta) := by
  refine ⟨fun pins s σ H R I h => Call_ (ld_blt I hg hm boot_enumerate (PyProof.Rows.callWith_type1 (thn (ha.run pos pins s σ H _ I h) fun us s1 ⟨vs, H1, I1, r1, q1⟩ => ?_) hs rfl))⟩
  obtain ⟨a, xs, rfl, hq, q⟩ := q1
  rw [Vals.ref1 r1]
  obtain ⟨its, rv, p', hz⟩ := I1.tuple hq
  refine enum1 (begins_tuple a its.toArray) p' fun h' he hit hk => wpAny_pyIter_enum he ?_
  have alt : a < s1.heap.objs.size := let ⟨o, ho, _⟩ := p'; Heap.lt_size ho
  refine ⟨s1.heap.objs.size + 1, [s1.heap.objs.size + 1, s1.heap.objs.size], _, _, H1, rfl, I1.kept (t' := s1.toks) hk, turn_enumT a (s1.heap.objs.size + 1) s1.heap.objs.size,
    ⟨⟨.none, he⟩, ⟨_, hit, rfl, rfl⟩, Nat.succ_ne_self _, Nat.ne_of_gt (Nat.lt_succ_of_lt alt), Nat.ne_of_lt alt⟩, fun b hb => ?_, q⟩
  have hle : s1.heap.objs.size ≤ b := by
    rcases List.mem_cons.mp hb with z | z
    · rw [z]; exact Nat.le_add_right _ _
    · rw [List.mem_singleton.mp z]; exact Nat.le_refl _
  exact I1.fpOk hle (I1.hok.fresh hle)
theorem walk_enumT {K : PySem.W.Frag} {a : Addr} {xs : List V} : Walk (Iqt K a) xs.length (fun H => SqT K H a xs) (YPair (fun i => some (.int (i : Nat))) (fun i => xs[i]?)) :=
  ⟨fun i _ hi q => ⟨xs, xs[i], q, by simp [hi]⟩, fun _ q => ⟨xs, q, Nat.le_refl _⟩, fun i H v H' _ q ⟨t, x, h1, h2, h3, h4⟩ => ⟨t, .int (i : Nat), x, h1, h2, h3, rfl, h4 xs q⟩⟩
end K27
end

section
set_option Elab.async false
set_option linter.all false
set_option maxRecDepth 100000
set_option maxHeartbeats 4000000
/-! K27t: a game in the heap; rules_at. -/
namespace K27
open PySem PySem.Spec PyProof.Rows L2
section
variable {H H1 H4 : Hp} {D : Addr}
theorem lcg_it {J : It} {n : Nat} {G : Hp → Prop} {Y : Nat → Hp → V → Hp → Prop} (wk : Walk J n G Y) {g : TG} {tt : TT} {te : TE} {vs : List Nat} {σ : L2.St} {Qd : Hp → Prop} (T : Tb) (R : Nat → List V → Hp → Prop) (hD : H1 D = none) (hG : ∀ H, Go T N0 H1 H → G H) (h0 : R 0 [] (upd H1 D (.lst [])))
    (hs : ∀ i x H H' acc, i < n → Go T N0 H1 H → H D = some (.lst acc) → acc.length ≤ i → R i acc H → Y i H x H' → g x (wipe σ vs) H' fun σ2 H2 => wipe σ2 vs = wipe σ vs ∧ tt σ2 H2 fun b H3 =>
      if b = true then te σ2 H3 fun y H4 => ∃ acc, H4 D = some (.lst acc) ∧ acc.length < sizeLine ∧ LcI T H1 D R (i + 1) (upd H4 D (.lst (acc ++ [y]))) else LcI T H1 D R (i + 1) H3)
    (hd : ∀ H acc, Go T N0 H1 H → H D = some (.lst acc) → acc.length ≤ n → R n acc H → Qd H) :
    ∃ W : Nat → Nat → Hp → Prop, (∃ m, W 0 m (upd H1 D (.lst []))) ∧ ∀ i m H, W i m H →
      (J.stop i H ∧ Qd H) ∨ (J.go i H ∧ ∃ Nx : Hp → Prop, (∀ H', Nx H' → ∃ m', m' < m ∧ W (i + 1) m' H') ∧ ∀ x H', J.yld i H x H' → g x (wipe σ vs) H' fun σ2 H2 => wipe σ2 vs = wipe σ vs ∧ tt σ2 H2 fun b H3 =>
        if b = true then te σ2 H3 fun y H4 => ∃ acc, H4 D = some (.lst acc) ∧ acc.length < sizeLine ∧ Nx (upd H4 D (.lst (acc ++ [y]))) else Nx H3) :=
  lc_it wk (LcI T H1 D R) (LcI.start hD h0) (fun i H _ p => hG H p.1) (fun i x H H' hi ⟨g, acc, ha, hl, r⟩ y => hs i x H H' acc hi g ha hl r y) fun H ⟨g, acc, ha, hl, r⟩ => hd H acc g ha hl r
theorem lcg_range {lo : Int} {n : Nat} {g : TG} {tt : TT} {te : TE} {vs : List Nat} {σ : L2.St} {Qd : Hp → Prop} (T : Tb) (R : Nat → List V → Hp → Prop) (hD : H1 D = none) (h0 : R 0 [] (upd H1 D (.lst [])))
    (hs : ∀ i H acc, i < n → Go T N0 H1 H → H D = some (.lst acc) → acc.length ≤ i → R i acc H → g (.int (lo + i)) (wipe σ vs) H fun σ2 H2 => wipe σ2 vs = wipe σ vs ∧ tt σ2 H2 fun b H3 =>
      if b = true then te σ2 H3 fun y H4 => ∃ acc, H4 D = some (.lst acc) ∧ acc.length < sizeLine ∧ LcI T H1 D R (i + 1) (upd H4 D (.lst (acc ++ [y]))) else LcI T H1 D R (i + 1) H3)
    (hd : ∀ H acc, Go T N0 H1 H → H D = some (.lst acc) → acc.length ≤ n → R n acc H → Qd H) :
    ∃ W : Nat → Nat → Hp → Prop, (∃ m, W 0 m (upd H1 D (.lst []))) ∧ ∀ i m H, W i m H →
      ((Itr lo n).stop i H ∧ Qd H) ∨ ((Itr lo n).go i H ∧ ∃ Nx : Hp → Prop, (∀ H', Nx H' → ∃ m', m' < m ∧ W (i + 1) m' H') ∧ ∀ x H', (Itr lo n).yld i H x H' → g x (wipe σ vs) H' fun σ2 H2 => wipe σ2 vs = wipe σ vs ∧ tt σ2 H2 fun b H3 =>
        if b = true then te σ2 H3 fun y H4 => ∃ acc, H4 D = some (.lst acc) ∧ acc.length < sizeLine ∧ Nx (upd H4 D (.lst (acc ++ [y]))) else Nx H3) :=
  lcg_it walk_range T R hD (fun _ _ => trivial) h0 (fun i x H H' acc hi g ha hl r y => by
    obtain ⟨e1, e2⟩ := y
    subst e1
    subst e2
    exact hs i H' acc hi g ha hl r) hd
end
theorem wipe_in {σ : L2.St} {i : Nat} : ∀ {vs : List Nat}, i ∈ vs → i < σ.length → (wipe σ vs)[i]? = some none
  | [], h, _ => by cases h
  | v :: vs, h, hl => by
    show ((wipe σ vs).set v none)[i]? = _
    rw [List.getElem?_set]
    by_cases e : v = i
    · subst e
      rw [if_pos rfl, wipe_length, if_pos hl]
    · rw [if_neg e]
      rcases List.mem_cons.mp h with z | z
      · exact absurd z.symm e
      · exact wipe_in z hl
theorem wipe_eq {σ τ : L2.St} {vs : List Nat} (hl : σ.length = τ.length) (h : ∀ i, i ∉ vs → σ[i]? = τ[i]?) : wipe σ vs = wipe τ vs := by
  refine List.ext_getElem? fun i => ?_
  by_cases e : i ∈ vs
  · by_cases k : i < σ.length
    · rw [wipe_in e k, wipe_in e (by omega)]
    · rw [List.getElem?_eq_none (by rw [wipe_length]; omega), List.getElem?_eq_none (by rw [wipe_length]; omega)]
  · rw [wipe_out e, wipe_out e, h i e]
theorem wipe_wipe {σ : L2.St} {vs : List Nat} : wipe (wipe σ vs) vs = wipe σ vs := wipe_eq (wipe_length _ _) fun _ h => wipe_out h
theorem wipe_set {σ : L2.St} {vs : List Nat} {i : Nat} {x : Option V} (h : i ∈ vs) : wipe (σ.set i x) vs = wipe σ vs := wipe_eq (List.length_set ..) fun j hj => by
  rw [List.getElem?_set_ne]
  intro e
  subst e
  exact hj h
theorem wp1 {σ : L2.St} {vs : List Nat} {i : Nat} {x : Option V} (h : i ∈ vs := by decide) : wipe ((wipe σ vs).set i x) vs = wipe σ vs := (wipe_set h).trans wipe_wipe
theorem wp2 {σ : L2.St} {vs : List Nat} {i j : Nat} {x y : Option V} (h : i ∈ vs := by decide) (k : j ∈ vs := by decide) : wipe (((wipe σ vs).set i x).set j y) vs = wipe σ vs := (wipe_set k).trans (wp1 h)
theorem wp5 {σ : L2.St} {vs : List Nat} {i j k l m : Nat} {x y z u v : Option V} (h1 : i ∈ vs := by decide) (h2 : j ∈ vs := by decide) (h3 : k ∈ vs := by decide) (h4 : l ∈ vs := by decide) (h5 : m ∈ vs := by decide) :
    wipe ((((((wipe σ vs).set i x).set j y).set k z).set l u).set m v) vs = wipe σ vs := (wipe_set h5).trans ((wipe_set h4).trans ((wipe_set h3).trans (wp2 h1 h2)))
/-- the game that stands at a -/
def GmAt (H : Hp) (a : Addr) (P X : Nat) (g : Gm) : Prop := ∃ (pl le ru : Addr) (ps ls rs : List V), H a = some (.tup [.ref pl, .ref le, .ref ru]) ∧ H pl = some (.tup ps) ∧ ps.length = P ∧ g.hands.length = P ∧
  (∀ (i : Nat) (h : Int), g.hands[i]? = some h → ∃ (q : Addr) (nm : V), ps[i]? = some (.ref q) ∧ H q = some (.tup [nm, .int h])) ∧ H le = some (.tup ls) ∧ ls.length = X ∧ H ru = some (.tup rs) ∧ Ls H dRule g.rules rs
theorem GmAt.mono {H H' : Hp} {a : Addr} {P X : Nat} {g : Gm} (h : GmAt H a P X g) (k : TupK H H') : GmAt H' a P X g := by
  obtain ⟨pl, le, ru, ps, ls, rs, h1, h2, h3, h4, h5, h6, h7, h8, h9⟩ := h
  refine ⟨pl, le, ru, ps, ls, rs, k _ _ h1, k _ _ h2, h3, h4, fun i hd e => ?_, k _ _ h6, h7, k _ _ h8, h9.mono k⟩
  obtain ⟨q, nm, e1, e2⟩ := h5 i hd e
  exact ⟨q, nm, e1, k _ _ e2⟩
theorem rat_snoc (l : List Rule) (r : Rule) (p x : Int) : ((l ++ [r]).filter fun r => decide (r.1 = p) && decide (r.2.1 = x)) = (l.filter fun r => decide (r.1 = p) && decide (r.2.1 = x)) ++ if (decide (r.1 = p) && decide (r.2.1 = x)) = true then [r] else [] := by
  rw [List.filter_append, List.filter_cons]
  split <;> rfl
section
variable {P : Program} {w : World} {K : PySem.W.Frag} {mg : Str → Option Value} {base : Heap} {T : Tb}
theorem scRules : FnScope ["game", "place", "letter", "k", "p", "x", "q", "w"] ["game", "place", "letter"] (defScope sRulesAt) := ⟨rfl, rfl, rfl, by decide +kernel, rfl, by decide +kernel, by decide +kernel⟩
def spRules (T : Tb) : Sp := fun vs H Q _ => ∃ (a : Addr) (P X : Nat) (g : Gm) (p x : Int), vs = [.ref a, .int p, .int x] ∧ GmAt H a P X g ∧ g.rules.length ≤ 8 ∧
  ∀ (H' : Hp) (l : Addr) (ks : List Nat), Go T N0 H H' → New H l → H' l = some (.lst (ks.map fun k => V.int (k : Nat))) → F2 (fun k r => g.rules[k]? = some r) ks (g.at p x) → Q (.ref l) H'
theorem ok_rules {f : Addr} {fd : FuncData} (F : Fun K "rules_at" "rules_at" sRulesAt f fd) (mEnum : mg "enumerate" = none) : FnOk P w K mg base CX0 1 f fd ["game", "place", "letter"] (spRules T) := by
  refine F.ok scRules (fun vs H Q E h => ?_) (fun cdv A outer s H vs Q E hr h => ?_)
  · obtain ⟨a, P, X, g, p, x, rfl, _⟩ := h
    rfl
  · obtain ⟨a, P, X, g, p, x, rfl, hg, hz, k⟩ := h
    refine ⟨_, pss_one (ps_ret (pe_lc (own := [("k", 3), ("p", 4), ("x", 5), ("q", 6), ("w", 7)]) rfl scRules.nd (pi_enumT (by rfl) mEnum (pa_cons (pe_ix (ixT K) (pv 0) pe_int (fun _ _ => rfl)) pa_nil)) (blkOk_by (N := ["game", "place", "letter", "k", "p", "x", "q", "w"]) (sc := defScope sRulesAt) (by decide +kernel))
      (fun _ _ _ _ _ => tupleG (n := 2) K rfl (pgs_cons (pg_name (i := 3) scRules.nd rfl (Or.inl rfl)) (pgs_cons (tupleG (n := 4) K rfl (pgs_cons (pg_name (i := 4) scRules.nd rfl (Or.inl rfl)) (pgs_cons (pg_name (i := 5) scRules.nd rfl (Or.inl rfl)) (pgs_cons (pg_name (i := 6) scRules.nd rfl (Or.inl rfl)) (pgs_cons (pg_name (i := 7) scRules.nd rfl (Or.inl rfl)) pgs_nil))))) pgs_nil)))
      (fun _ _ _ _ _ => pts_one (PW.pt (pw_and (pt_cmpR op_eq (pv 4) (pv 1) (nomark _)) (pw_and1 (pt_cmpR op_eq (pv 5) (pv 2) (nomark _))))))
      (fun _ _ _ _ _ => pv 3))), ?_⟩
    obtain ⟨pl, le, ru, ps, ls, rs, h1, h2, h3, h4, h5, h6, h7, h8, h9⟩ := id hg
    refine ⟨_, rfl, a, _, _, _, rfl, rfl, SqT.of h1, atI_nat (j := 2) rfl, ru, rs, rfl, SqT.of h8, fun D hD => ?_⟩
    refine lcg_it walk_enumT T (fun i acc H' => ∃ ks : List Nat, acc = ks.map (fun k => V.int (k : Nat)) ∧ F2 (fun k r => g.rules[k]? = some r) ks ((g.rules.take i).filter fun r => decide (r.1 = p) && decide (r.2.1 = x))) hD (fun H' g' => g'.seqT (SqT.of h8)) ⟨[], rfl, by rw [List.take_zero]; exact .nil⟩
      (fun i y H2 H3 acc hi g2 ha hal r hy => ?_) (fun H2 acc g2 ha hal r => ?_)
    · obtain ⟨t, x1, x2, rfl, nt, rfl, e1, e2⟩ := hy
      obtain ⟨r0, hri, rr⟩ := h9.get_r e2
      obtain ⟨ks, rfl, fk⟩ := r
      have e1' : x1 = V.int (i : Nat) := (Option.some.inj e1).symm
      subst e1'
      have rl := h9.len
      have gn : Go T N0 H2 (upd H2 t (.tup [V.int (i : Nat), x2])) := Go.new nt
      obtain ⟨q, b, rfl, hq, hb⟩ := rd_rule (RD.mono (g2.trans gn).tupK _ _ rr)
      refine ⟨t, _, rfl, SqT.of upd_same, rfl, _, _, rfl, _, _, rfl, ?_⟩
      refine ⟨q, _, rfl, SqT.of hq, rfl, _, _, rfl, _, _, rfl, _, _, rfl, _, _, rfl, rfl, rfl, ?_⟩
      have nx : ((g.rules.take (i + 1)).filter fun r => decide (r.1 = p) && decide (r.2.1 = x)) = ((g.rules.take i).filter fun r => decide (r.1 = p) && decide (r.2.1 = x)) ++ if (decide (r0.1 = p) && decide (r0.2.1 = x)) = true then [r0] else [] := by
        rw [List.take_add_one, hri]
        exact rat_snoc _ _ _ _
      have no : (decide (r0.1 = p) && decide (r0.2.1 = x)) = false → LcI T H D (fun i acc H' => ∃ ks : List Nat, acc = ks.map (fun k => V.int (k : Nat)) ∧ F2 (fun k r => g.rules[k]? = some r) ks ((g.rules.take i).filter fun r => decide (r.1 = p) && decide (r.2.1 = x))) (i + 1) (upd H2 t (.tup [V.int (i : Nat), V.ref q])) := fun c => by
        refine LcI.skip g2 ha hal gn ⟨ks, rfl, ?_⟩
        rw [nx, c, if_neg Bool.false_ne_true, List.append_nil]
        exact fk
      refine ⟨wp5, _, rfl, _, rfl, rfl, _, rfl, ?_⟩
      rw [dec_i]
      refine ite2 (fun c1 => ?_) (fun c1 => ?_)
      · refine ⟨_, rfl, _, rfl, rfl, _, rfl, ?_⟩
        rw [dec_i]
        refine ite2 (fun c2 => ?_) (fun c2 => ?_)
        · refine ⟨_, rfl, ?_⟩
          refine LcI.add hD g2 ha hal (by omega) gn ⟨ks ++ [i], by rw [List.map_append]; rfl, ?_⟩
          rw [nx, c1, c2, Bool.and_self, if_pos rfl]
          exact fk.snoc hri
        · exact no (by rw [c1, Bool.true_and]; simpa using c2)
      · exact no (by simp at c1; simp [c1])
    · obtain ⟨ks, rfl, fk⟩ := r
      rw [show rs.length = g.rules.length from h9.len.symm, List.take_length] at fk
      exact k H2 D ks g2 (new_of hD) ha fk
end
end K27
end

section
set_option Elab.async false
set_option linter.all false
set_option maxRecDepth 100000
set_option maxHeartbeats 4000000
/-! K27u: at_place. -/
namespace K27
open PySem PySem.Spec PyProof.Rows L2
/-- the list of pairs that stands at q -/
def LP (H : Hp) (q : Addr) (qs : List Pair) : Prop := ∃ ys, H q = some (.lst ys) ∧ Ls H dPair qs ys
theorem LP.go {T : Tb} {H H' : Hp} {q : Addr} {qs : List Pair} (h : LP H q qs) (g : Go T N0 H H') : LP H' q qs := let ⟨ys, a, b⟩ := h; ⟨ys, g.lst a, b.mono g.tupK⟩
theorem LP.upd {H : Hp} {q D : Addr} {qs : List Pair} {xs ys : List V} (h : LP H q qs) (hD : H D = some (.lst xs)) (ne : q ≠ D) : LP (upd H D (.lst ys)) q qs := let ⟨zs, a, b⟩ := h; ⟨zs, by rw [upd_ne ne]; exact a, b.mono (tupK_upd hD)⟩
structure GmOk (P S X : Int) (g : Gm) : Prop where
  ru : ∀ r ∈ g.rules, (0 ≤ r.2.2.1 ∧ r.2.2.1 < S) ∧ r.2.2.2.length ≤ 2
  rl : g.rules.length ≤ 8
/-- what a rule's letters come to -/
def RdO (A : List Arr) (S : Int) (r : Rule) (qs : List Pair) : Prop := ReadS A r.2.2.1 r.2.2.2 qs ∧ OkP S qs ∧ qs.length ≤ 32
section
variable {P : Program} {w : World} {K : PySem.W.Frag} {mg : Str → Option Value} {base : Heap} {T : Tb}
theorem scAt : FnScope ["game", "arrows", "place", "letter", "is_thin", "here", "some", "found", "pairs", "k", "one", "targets", "cost"] ["game", "arrows", "place", "letter", "is_thin"] (defScope sAt) := ⟨rfl, rfl, rfl, by decide +kernel, rfl, by decide +kernel, by decide +kernel⟩
def spAt (T : Tb) (K : PySem.W.Frag) : Sp := fun vs H Q _ => ∃ (a l : Addr) (xs : List V) (A : List Arr) (P X : Nat) (g : Gm) (S p x : Int), vs = [.ref a, .ref l, .int p, .int x, .bl true] ∧ GmAt H a P X g ∧ GmOk P S X g ∧ SqL K H l xs ∧ Ls H dArr A xs ∧ OkK S X A ∧ (0 ≤ p ∧ p < P) ∧ LamX.Tabs T H ∧
  PL T H Q fun qs => AtS g A p x qs ∧ OkP S qs ∧ qs.length ≤ 32
theorem ok_at {f fR fD fO fT : Addr} {fd fdR fdD fdO fdT : FuncData} (F : Fun K "at_place" "at_place" sAt f fd)
    (GR : FnOk P w K mg base CX0 1 fR fdR ["game", "place", "letter"] (spRules T)) (kR : PySem.W.keepIn K (.ref fR) = true) (bR : Binds K fdR ["game", "place", "letter"] []) (mR : mg "rules_at" = some (.ref fR))
    (GD : FnOk P w K mg base CX0 8 fD fdD ["arrows", "stand", "w", "is_thin"] (spRead T K)) (kD : PySem.W.keepIn K (.ref fD) = true) (bD : Binds K fdD ["arrows", "stand", "w", "is_thin"] []) (mD : mg "read_on" = some (.ref fD))
    (GO : FnOk P w K mg base CX0 5 fO fdO ["pairs", "is_thin"] (spOnce T K)) (kO : PySem.W.keepIn K (.ref fO) = true) (bO : Binds K fdO ["pairs", "is_thin"] []) (mO : mg "each_once" = some (.ref fO))
    (GT : FnOk P w K mg base CX0 6 fT fdT ["ones", "others", "is_thin"] (spTog T K)) (kT : PySem.W.keepIn K (.ref fT) = true) (bT : Binds K fdT ["ones", "others", "is_thin"] []) (mT : mg "together" = some (.ref fT)) (mLen : mg "len" = none) :
    FnOk P w K mg base CX0 9 f fd ["game", "arrows", "place", "letter", "is_thin"] (spAt T K) := by
  refine F.ok scAt (fun vs H Q E h => ?_) (fun cdv A outer s H vs Q E hr h => ?_)
  · obtain ⟨a, l, xs, A, P, X, g, S, p, x, rfl, _⟩ := h
    rfl
  · obtain ⟨a, l, xs, AA, PP, X, g, S, p, x, rfl, hg, go, hl, hx, ok, hp, hT, k⟩ := h
    have hr1 : Room 1 (A.deeper (envOfC "at_place" (defScope sAt) s.heap.objs.size f cdv)) := hr.mono (by decide)
    have hr5 : Room 5 (A.deeper (envOfC "at_place" (defScope sAt) s.heap.objs.size f cdv)) := hr.mono (by decide)
    have hr6 : Room 6 (A.deeper (envOfC "at_place" (defScope sAt) s.heap.objs.size f cdv)) := hr.mono (by decide)
    refine ⟨_, pss_cons (ps_setLc (i := 5) (own := [("k", 9)]) (g := gName 9) (tt := tYes) rfl scAt.nd rfl rfl (sw_true rfl rfl rfl (by decide +kernel)) (pi_list (pe_call GR hr1 (by rfl) mR kR bR .nil pass0 (pa_cons (pv 0) (pa_cons (pv 2) (pa_cons (pv 3) pa_nil)))))
        (blkOk_by (N := ["game", "arrows", "place", "letter", "is_thin", "here", "some", "found", "pairs", "k", "one", "targets", "cost"]) (sc := defScope sAt) (by decide +kernel)) (fun _ _ _ _ _ => pg_name (i := 9) scAt.nd rfl (Or.inl rfl)) (fun _ _ _ _ _ => pts_nil)
        (fun _ _ _ _ _ => pe_ix (ixT K) (pe_ix (ixT K) (pv 0) pe_int (fun _ _ => rfl)) (pv 9) (fun _ _ => rfl)))
      (pss_cons (ps_if (pt_cmpR op_eq (pe_callB (lenS K) (by rfl) mLen PySem.boot_len (pa_cons (pv 5) pa_nil)) pe_int (nomark _)) (pss_one (ps_ret (pe_lst pa_nil))) pss_nil)
      (pss_cons (ps_setLc (i := 6) (own := [("one", 10)]) (g := gName 10) (tt := tYes) rfl scAt.nd rfl rfl (sw_true rfl rfl rfl (by decide +kernel)) (pi_list (pv 5))
        (blkOk_by (N := ["game", "arrows", "place", "letter", "is_thin", "here", "some", "found", "pairs", "k", "one", "targets", "cost"]) (sc := defScope sAt) (by decide +kernel)) (fun _ _ _ _ _ => pg_name (i := 10) scAt.nd rfl (Or.inl rfl)) (fun _ _ _ _ _ => pts_nil)
        (fun _ _ _ _ _ => pe_call GD hr (by rfl) mD kD bD .nil pass0 (pa_cons (pv 1) (pa_cons (pe_ix (ixT K) (pv 10) pe_int (fun _ _ => rfl)) (pa_cons (pe_ix (ixT K) (pv 10) pe_int (fun _ _ => rfl)) (pa_cons (pv 4) pa_nil))))))
      (C8.pss_cut (ps_if (pt_cmpR op_eq (pe_ix (ixT K) (pe_ix (ixT K) (pe_ix (ixT K) (pv 0) pe_int (fun _ _ => rfl)) (pv 2) (fun _ _ => rfl)) pe_int (fun _ _ => rfl)) pe_int (nomark _))
        (pss_cons (ps_set (i := 7) scAt.nd rfl (.inl rfl) (pe_lst pa_nil)) (pss_cons (ps_for PassesOwn.never rfl (pi_list (pv 6)) (pg_name (i := 8) scAt.nd rfl (Or.inl rfl))
          (pss_one (ps_expr (pe_bm PySem.F.plainAttrs_list PySem.F.slot_list_extend PySem.F.type_list_extend mt_extend (pv 7) (pa_cons (pv 8) pa_nil)))))
          (pss_one (ps_set (i := 7) scAt.nd rfl (.inl rfl) (pe_call GO hr5 (by rfl) mO kO bO .nil pass0 (pa_cons (pv 7) (pa_cons (pv 4) pa_nil)))))))
        (pss_cons (ps_set (i := 7) scAt.nd rfl (.inl rfl) (pe_lst (pa_cons (pe_tup (pa_cons (pe_tup pa_nil) (pa_cons pe_int pa_nil))) pa_nil))) (pss_one (ps_for PassesOwn.never rfl (pi_list (pv 6)) (pg_name (i := 8) scAt.nd rfl (Or.inl rfl))
          (pss_one (ps_set (i := 7) scAt.nd rfl (.inl rfl) (pe_call GT hr6 (by rfl) mT kT bT .nil pass0 (pa_cons (pv 7) (pa_cons (pv 8) (pa_cons (pv 4) pa_nil))))))))))
      (pss_one (ps_ret (pe_lc (own := [("targets", 11), ("cost", 12)]) (tt := tYes) rfl scAt.nd (pi_list (pv 7))
        (blkOk_by (N := ["game", "arrows", "place", "letter", "is_thin", "here", "some", "found", "pairs", "k", "one", "targets", "cost"]) (sc := defScope sAt) (by decide +kernel)) (fun _ _ _ _ _ => tupleG (n := 2) K rfl (pgs_cons (pg_name (i := 11) scAt.nd rfl (Or.inl rfl)) (pgs_cons (pg_name (i := 12) scAt.nd rfl (Or.inl rfl)) pgs_nil))) (fun _ _ _ _ _ => pts_nil)
        (fun _ _ _ _ _ => pe_tup (pa_cons (pv 11) (pa_cons (pe_op op_add pe_int (pv 12)) pa_nil))))))))), ?_⟩
    obtain ⟨pl, le, ru, ps, ls, rs, h1, h2, h3, h4, h5, h6, h7, h8, h9⟩ := id hg
    refine ⟨_, rfl, _, rfl, _, rfl, a, PP, X, g, p, x, rfl, hg, go.rl, fun H1 q1 ks g1 n1 hq1 fk => ?_⟩
    refine ⟨q1, rfl, ⟨_, SqL.of hq1⟩, fun D hD => ?_⟩
    have kl := fk.len
    have al : (g.at p x).length ≤ 8 := Nat.le_trans (List.length_filter_le _ _) go.rl
    refine lcg_list T (fun i acc H' => Ls H' dRule ((g.at p x).take i) acc) hD (SqL.of hq1) (by rw [List.take_zero]; exact .nil) (fun i y H2 acc hi g2 ha hal r => ?_) (fun H2 acc g2 ha hal r => ?_)
    · rw [List.getElem?_map] at hi
      obtain ⟨n, hn, rfl⟩ := Option.map_eq_some_iff.mp hi
      obtain ⟨r0, hr0, hrn⟩ := fk.get_l hn
      obtain ⟨v, hv, rv⟩ := h9.get_l hrn
      have hil := (List.getElem?_eq_some_iff.mp hr0).1
      have gg := g1.trans g2
      refine ⟨wp1, yesIf ?_⟩
      refine ⟨_, rfl, a, _, _, _, rfl, rfl, SqT.of (gg.tup h1), atI_nat (j := 2) rfl, _, rfl, ru, rs, _, v, rfl, rfl, SqT.of (gg.tup h8), atI_nat hv, ?_⟩
      refine LcI.add hD g2 ha hal (by omega) (Go.refl _) ?_
      rw [List.take_add_one, hr0]
      exact Ls.mono (r.app (RD.mono gg.tupK _ _ rv)) (tupK_upd ha)
    rw [List.length_map, kl, List.take_length] at r
    have g02 := g1.trans g2
    refine ⟨_, rfl, D, _, rfl, .inl (SqL.of ha), rfl, _, rfl, ?_⟩
    refine lenIf (fun c => ?_) (fun c => ?_)
    · have e : g.at p x = [] := List.length_eq_zero_iff.mp (by rw [r.len]; omega)
      exact ⟨Nat.zero_le _, fun p1 np1 => k _ p1 [] [] (g02.trans (.new np1)) (g02.fresh np1) upd_same .nil ⟨AtS.none e, fun _ h => (by cases h), Nat.zero_le _⟩⟩
    have hne : g.at p x ≠ [] := fun e => c (by rw [← r.len, e]; rfl)
    refine ⟨_, rfl, D, rfl, ⟨_, SqL.of ha⟩, fun D2 hD2 => ?_⟩
    refine lcg_list T (fun i acc2 H' => F2 (fun r v => ∃ q qs, v = V.ref q ∧ q ≠ D2 ∧ LP H' q qs ∧ RdO AA S r qs) ((g.at p x).take i) acc2) hD2 (SqL.of ha) (by rw [List.take_zero]; exact .nil) (fun i y H3 acc2 hi g3 ha2 hal2 r2 => ?_) (fun H3 acc2 g3 ha2 hal2 r2 => ?_)
    · obtain ⟨r0, hr0, rr⟩ := r.get_r hi
      have hil := (List.getElem?_eq_some_iff.mp hr0).1
      have g03 := g02.trans g3
      obtain ⟨q, b, rfl, hq, hb⟩ := rd_rule (RD.mono g3.tupK _ _ rr)
      obtain ⟨o1, o2⟩ := go.ru r0 (mem_at.mp (List.mem_of_getElem? hr0)).1
      refine ⟨wp1, yesIf ?_⟩
      refine ⟨_, rfl, _, rfl, q, _, _, _, rfl, rfl, SqT.of hq, atI_nat (j := 2) rfl, _, rfl, q, _, _, _, rfl, rfl, SqT.of hq, atI_nat (j := 3) rfl, _, rfl, l, b, xs, AA, S, X, r0.2.2.1, r0.2.2.2, rfl, g03.seq hl, hx.mono g03.tupK, ok, hb, o2, o1, g03.tabs hT, fun H4 p' ys qs g4 np hp' hkq c' => ?_⟩
      refine LcI.add hD2 g3 ha2 hal2 (by omega) g4 ?_
      have hD4 := g4.lst ha2
      rw [List.take_add_one, hr0]
      refine F2.snoc (F2.imp (fun r v z => ?_) r2) ⟨p', qs, rfl, fun z => ?_, LP.upd ⟨ys, hp', hkq⟩ hD4 (fun z => ?_), c'⟩
      · obtain ⟨q', qs', e1, e2, e3, e4⟩ := z
        exact ⟨q', qs', e1, e2, (e3.go g4).upd hD4 e2, e4⟩
      · subst z
        obtain ⟨_, e⟩ := np _ ha2
        cases e
      · subst z
        obtain ⟨_, e⟩ := np _ ha2
        cases e
    have accl := r.len
    rw [← accl, List.take_length] at r2
    have g03 := g02.trans g3
    have pn : ((p.toNat : Nat) : Int) = p := Int.toNat_of_nonneg hp.1
    have plt : p.toNat < PP := by omega
    obtain ⟨hd, hhd⟩ : ∃ hd, g.hands[p.toNat]? = some hd := ⟨_, List.getElem?_eq_getElem (by omega)⟩
    have ehd : g.hand p = hd := by
      unfold Gm.hand
      rw [List.getD_eq_getElem?_getD, hhd]
      rfl
    obtain ⟨qh, nm, e1, e2⟩ := h5 _ _ hhd
    refine ⟨fun σ' H' => ∃ (pp : Addr) (a8 : Option V) (qs : List Pair), σ' = [some (.ref a), some (.ref l), some (.int p), some (.int x), some (.bl true), some (.ref D), some (.ref D2), some (.ref pp), a8, none, none, none, none] ∧ Go T N0 H H' ∧ New H pp ∧ LP H' pp qs ∧ AtS g AA p x (plus1 qs) ∧ OkP S qs ∧ qs.length ≤ 32, ?_, ?_⟩
    · refine ⟨_, rfl, a, _, _, _, rfl, rfl, SqT.of (g03.tup h1), atI_nat (j := 0) rfl, _, rfl, pl, ps, _, _, rfl, rfl, SqT.of (g03.tup h2), at_of pn.symm e1, qh, _, _, _, rfl, rfl, SqT.of (g03.tup e2), atI_nat (j := 1) rfl, rfl, _, rfl, ?_⟩
      rw [dec_i]
      refine ite2 (fun c0 => ?_) (fun c0 => ?_)
      · -- the first's place
        have h0 : g.hand p = 0 := ehd.trans (of_decide_eq_true c0)
        refine ⟨Nat.zero_le _, fun p1 np1 => ?_⟩
        have ga : Go T N0 H3 (upd H3 p1 (.lst [])) := .new np1
        refine ⟨_, rfl, D2, rfl, ⟨_, SqL.of (ga.lst ha2)⟩, for_list (K := K) (a := D2) (xs := acc2) (fun i σ H' => ∃ (a8 : Option V) (acc : List V) (L : List (List Pair)), σ = [some (.ref a), some (.ref l), some (.int p), some (.int x), some (.bl true), some (.ref D), some (.ref D2), some (.ref p1), a8, none, none, none, none] ∧ Go T N0 H3 H' ∧ H' p1 = some (.lst acc) ∧
            F2 (RdO AA S) ((g.at p x).take i) L ∧ Ls H' dPair L.flatten acc ∧ OkP S L.flatten ∧ L.flatten.length ≤ 32 * i)
          ⟨none, [], [], rfl, ga, upd_same, by rw [List.take_zero]; exact .nil, .nil, (fun _ h => by cases h), Nat.zero_le _⟩ (fun i σ H' _ ⟨_, _, _, _, g', _⟩ => SqL.of (g'.lst ha2)) ?_ ?_⟩
        · rintro i y σ H' hi ⟨a8, acc, L, rfl, g', hp1, fL, hk, op, ll⟩
          obtain ⟨r0, hr0, q, qs, rfl, _, lp, rd⟩ := r2.get_r hi
          have hil := (List.getElem?_eq_some_iff.mp hr0).1
          obtain ⟨ys, hq, hkq⟩ := lp.go g'
          have yl := hkq.len
          have acl := hk.len
          have q32 := rd.2.2
          refine ⟨_, rfl, .inl ⟨rfl, _, SqL.of hp1⟩, _, rfl, p1, q, acc, ys, rfl, rfl, hp1, hq, sz_le (by omega), ?_⟩
          refine ⟨_, _, L ++ [qs], rfl, g'.mut (new_of np1) hp1, upd_same, ?_, ?_, ?_, ?_⟩
          · rw [List.take_add_one, hr0]
            exact fL.snoc rd
          · rw [List.flatten_append, List.flatten_singleton]
            exact Ls.mono (F2.app hk hkq) (tupK_upd hp1)
          · rw [List.flatten_append, List.flatten_singleton]
            intro z hz
            rcases List.mem_append.mp hz with hz | hz
            · exact op z hz
            · exact rd.2.1 z hz
          · rw [List.flatten_append, List.flatten_singleton, List.length_append]
            omega
        · rintro σ H' ⟨a8, acc, L, rfl, g', hp1, fL, hk, op, ll⟩
          have a2l := r2.len
          rw [← a2l, List.take_length] at fL
          refine ⟨_, rfl, _, rfl, p1, acc, L.flatten, rfl, SqL.of hp1, hk, op.flat ok.s5, by omega, (g03.trans g').tabs hT, fun H5 p5 ys qs g5 np5 hp5 hkq th => ?_⟩
          exact ⟨p5, _, qs, rfl, (g03.trans g').trans g5, (g03.trans g').newB np5, ⟨ys, hp5, hkq⟩, AtS.first (fL.imp fun _ _ z => z.1) h0 th, th.okP op, th.len op ok.s5⟩
      · -- the other's
        have h0 : g.hand p ≠ 0 := fun z => c0 (decide_eq_true (ehd.symm.trans z))
        refine ⟨Nat.zero_le _, fun t1 n1 => ⟨(by show 2 ≤ sizeLine; decide), fun t2 n2 => ⟨(by show 1 ≤ sizeLine; decide), fun p1 n3 => ?_⟩⟩⟩
        obtain ⟨gz, hp0, hk0, np0⟩ := begun T [] n1 n2 n3
        refine ⟨_, rfl, D2, rfl, ⟨_, SqL.of (gz.lst ha2)⟩, for_list (K := K) (a := D2) (xs := acc2) (fun i σ H' => ∃ (pp : Addr) (a8 : Option V) (L : List (List Pair)) (qs : List Pair), σ = [some (.ref a), some (.ref l), some (.int p), some (.int x), some (.bl true), some (.ref D), some (.ref D2), some (.ref pp), a8, none, none, none, none] ∧ Go T N0 H3 H' ∧ New H3 pp ∧ LP H' pp qs ∧
            F2 (RdO AA S) ((g.at p x).take i) L ∧ AllS L qs ∧ OkP S qs ∧ qs.length ≤ 32)
          ⟨p1, none, [], _, rfl, gz, np0, ⟨_, hp0, hk0⟩, by rw [List.take_zero]; exact .nil, AllS.nil, OkP.nul, by decide⟩ (fun i σ H' _ ⟨_, _, _, _, _, g', _⟩ => SqL.of (g'.lst ha2)) ?_ ?_⟩
        · rintro i y σ H' hi ⟨pp, a8, L, qs, rfl, g', npp, ⟨zs, hpp, hkp⟩, fL, al', op, l32⟩
          obtain ⟨r0, hr0, q, rs', rfl, _, lp, rd⟩ := r2.get_r hi
          obtain ⟨ys, hq, hkq⟩ := lp.go g'
          refine ⟨_, rfl, _, rfl, _, rfl, pp, q, zs, ys, qs, rs', S, rfl, SqL.of hpp, SqL.of hq, hkp, hkq, op, rd.2.1, ok.s5, l32, rd.2.2, (g03.trans g').tabs hT, fun H5 p5 us vs g5 np5 hp5 hkv th => ?_⟩
          refine ⟨p5, _, L ++ [rs'], vs, rfl, g'.trans g5, g'.newB np5, ⟨us, hp5, hkv⟩, ?_, al'.step th, th.okP (combos_ok op rd.2.1), th.len (combos_ok op rd.2.1) ok.s5⟩
          rw [List.take_add_one, hr0]
          exact fL.snoc rd
        · rintro σ H' ⟨pp, a8, L, qs, rfl, g', npp, lp, fL, al', op, l32⟩
          have a2l := r2.len
          rw [← a2l, List.take_length] at fL
          exact ⟨pp, a8, qs, rfl, g03.trans g', g03.newB npp, lp, AtS.other (fL.imp fun _ _ z => z.1) h0 hne al', op, l32⟩
    · rintro σ' H' ⟨pp, a8, qs, rfl, g', npp, ⟨zs, hpp, hkp⟩, at', op, l32⟩
      refine ⟨_, rfl, pp, rfl, ⟨_, SqL.of hpp⟩, fun D3 hD3 => ?_⟩
      refine lcg_list T (fun j bs H5 => Ls H5 dPair (plus1 (qs.take j)) bs) hD3 (SqL.of hpp) (by rw [List.take_zero]; exact .nil) (fun j v H5 bs hj g5 ha5 hbl r5 => ?_) (fun H5 bs g5 ha5 hbl r5 => ?_)
      · obtain ⟨e, hej, re⟩ := hkp.get_r hj
        have hjl := (List.getElem?_eq_some_iff.mp hj).1
        have zl := hkp.len
        obtain ⟨m1, m2, rfl, h3', h4'⟩ := rd_pair (RD.mono g5.tupK _ _ re)
        refine ⟨m1, _, rfl, SqT.of h3', rfl, _, _, rfl, _, _, rfl, rfl, ?_⟩
        refine ⟨wp2, yesIf ?_⟩
        refine ⟨_, rfl, _, rfl, 1, e.2, rfl, rfl, (by show 2 ≤ sizeLine; decide), fun t nt => ?_⟩
        have hD' : upd H5 t (.tup [V.ref m2, V.int (1 + e.2)]) D3 = some (.lst bs) := by rw [upd_ne (ne_of_none ha5 nt)]; exact ha5
        refine LcI.add hD3 g5 ha5 hbl (by omega) (Go.new nt) ?_
        have nx : plus1 (qs.take (j + 1)) = plus1 (qs.take j) ++ [(e.1, 1 + e.2)] := by
          unfold plus1
          rw [List.take_add_one, hej, List.map_append]
          rfl
        rw [nx]
        refine Ls.mono (H := upd H5 t (.tup [V.ref m2, V.int (1 + e.2)])) ((r5.mono (tupK_new nt)).app ?_) (tupK_upd hD')
        exact rd_mk_pair (q := (e.1, 1 + e.2)) upd_same (by rw [upd_ne (ne_of_none h4' nt)]; exact h4')
      · rw [show zs.length = qs.length from hkp.len.symm, List.take_length] at r5
        refine k H5 D3 bs _ (g'.trans g5) (g'.fresh hD3) ha5 r5 ⟨at', fun z hz => ?_, by unfold plus1; rw [List.length_map]; exact l32⟩
        obtain ⟨e, he, rfl⟩ := List.mem_map.mp hz
        exact ⟨(op e he).1, by have := (op e he).2; show 0 ≤ 1 + e.2; omega⟩
end
end K27
end

section
set_option Elab.async false
set_option linter.all false
set_option maxRecDepth 100000
set_option maxHeartbeats 4000000
/-! K27v: ==, !=, not in of data. -/
namespace K27
open PySem PySem.Spec PyProof.Rows L2
mutual
def toP : D → PyData
  | .i n => .int n
  | .t ds => .tuple (toPs ds)
def toPs : List D → List PyData
  | [] => []
  | d :: ds => toP d :: toPs ds
end
mutual
theorem eqv_P : ∀ d e : D, PyData.eqv (toP d) (toP e) = deq d e
  | .i a, .i b => by
    rw [toP, toP, PyData.eqv, deq]
    by_cases h : a = b
    · subst h; simp
    · simp [h]
  | .i _, .t _ => by rw [toP, toP, PyData.eqv, deq]
  | .t _, .i _ => by rw [toP, toP, PyData.eqv, deq]
  | .t xs, .t ys => by rw [toP, toP, PyData.eqv, deq]; exact eqv_Ps xs ys
theorem eqv_Ps : ∀ xs ys : List D, PyData.eqvAll (toPs xs) (toPs ys) = deqL xs ys
  | [], [] => by rw [toPs, PyData.eqvAll, deqL]
  | [], _ :: _ => by rw [toPs, toPs, PyData.eqvAll, deqL]
  | _ :: _, [] => by rw [toPs, toPs, PyData.eqvAll, deqL]
  | x :: xs, y :: ys => by rw [toPs, toPs, PyData.eqvAll, deqL, eqv_P x y, eqv_Ps xs ys]
end
mutual
theorem lay_P : ∀ d : D, (toP d).canLay0 = true
  | .i _ => by rw [toP, PyData.canLay0]
  | .t xs => by rw [toP, PyData.canLay0]; exact lay_Ps xs
theorem lay_Ps : ∀ xs : List D, PyData.canLayAll0 (toPs xs) = true
  | [] => by rw [toPs, PyData.canLayAll0]
  | x :: xs => by rw [toPs, PyData.canLayAll0, lay_P x, lay_Ps xs]; rfl
end
mutual
theorem depth_P : ∀ d : D, (toP d).depth = dep d
  | .i _ => by rw [toP, PyData.depth, dep]
  | .t xs => by rw [toP, PyData.depth, dep, depth_Ps xs]
theorem depth_Ps : ∀ xs : List D, PyData.depthAll (toPs xs) = depL xs
  | [] => by rw [toPs, PyData.depthAll, depL]
  | x :: xs => by rw [toPs, PyData.depthAll, depL, depth_P x, depth_Ps xs]
end
theorem shaped_P {d : D} (h : dep d ≤ 8) : SeqAt.shaped (toP d) = true := by
  unfold SeqAt.shaped
  rw [lay_P, depth_P, Bool.true_and]
  exact decide_eq_true (by omega)
theorem depL_le {ds : List D} {n : Nat} (h : ∀ d ∈ ds, dep d ≤ n) : depL ds ≤ n := by
  induction ds with
  | nil => rw [depL]; exact Nat.zero_le _
  | cons d ds ih =>
    rw [depL]
    exact Nat.max_le.mpr ⟨h d List.mem_cons_self, ih fun e he => h e (List.mem_cons_of_mem _ he)⟩
theorem shaped_Ps {ds : List D} (h : ∀ d ∈ ds, dep d ≤ 8) : SeqAt.shaped (.list (toPs ds)) = true := by
  unfold SeqAt.shaped
  rw [PyData.canLay0, lay_Ps, PyData.depth, depth_Ps, Bool.true_and]
  have := depL_le h
  exact decide_eq_true (by omega)
mutual
theorem RD.dp {K : PySem.W.Frag} {H : Hp} : ∀ (d : D) (v : V), RD H d v → Dp K H v (toP d)
  | .i n, _, h => by
    cases h
    rw [toP]
    exact .int n
  | .t ds, _, h => by
    cases h with
    | t h1 h2 =>
      rw [toP]
      exact .tup (SqT.of h1) (RDs.dps ds _ h2)
theorem RDs.dps {K : PySem.W.Frag} {H : Hp} : ∀ (ds : List D) (vs : List V), RDs H ds vs → DpAll K H vs (toPs ds)
  | [], _, h => by
    cases h
    rw [toPs]
    exact .nil
  | d :: ds, _, h => by
    cases h with
    | cons h1 h2 =>
      rw [toPs]
      exact .cons (RD.dp d _ h1) (RDs.dps ds _ h2)
end
section
variable {X : Cx}
def rEqRD : R2 := fun x y H Q => ∃ d e, RD H d x ∧ RD H e y ∧ dep d ≤ 8 ∧ dep e ≤ 8 ∧ Q (.bl (decide (d = e))) H
theorem op_eqRD (hu : X.A.units + 64 < cLine) : OpR X (compareOp .Eq) rEqRD := by
  intro pins s σ H x y v u Q I rx ry ⟨d, e, hd, he, d8, e8, q⟩
  refine op_eqD hu pins s σ H x y v u Q I rx ry ⟨_, _, RD.dp _ _ hd, RD.dp _ _ he, shaped_P d8, shaped_P e8, ?_⟩
  rw [eqv_P, deq_dec]
  exact q
/-- x != ys, ys a list of data, x such a list or None -/
def rNeL (K : PySem.W.Frag) : R2 := fun x y H Q => ∃ (b : Addr) (ys : List V) (es : List D), y = .ref b ∧ SqL K H b ys ∧ F2 (RD H) es ys ∧ (∀ e ∈ es, dep e ≤ 8) ∧ ((x = .non ∧ Q (.bl true) H) ∨
  ∃ (a : Addr) (xs : List V) (ds : List D), x = .ref a ∧ SqL K H a xs ∧ F2 (RD H) ds xs ∧ (∀ d ∈ ds, dep d ≤ 8) ∧ Q (.bl (!decide (ds = es))) H)
theorem op_neL (hu : X.A.units + 64 < cLine) : OpR X (compareOp .NotEq) (rNeL X.K) := by
  intro pins s σ H x y v u Q I rx ry ⟨b, ys, es, e, hb, hy, e8, h⟩
  subst e
  have pb : Dp X.K H (.ref b) (.list (toPs es)) := .lst hb (RDs.dps _ _ (RDs.of_f2 hy))
  rcases h with ⟨rfl, q⟩ | ⟨a, xs, ds, rfl, ha, hx, d8, q⟩
  · refine op_neD hu pins s σ H .non (.ref b) v u Q I rx ry ⟨_, _, .non, pb, by rfl, shaped_Ps e8, ?_⟩
    rw [show PyData.eqv .none (.list (toPs es)) = false by rw [PyData.eqv]]
    exact q
  · refine op_neD hu pins s σ H (.ref a) (.ref b) v u Q I rx ry ⟨_, _, .lst ha (RDs.dps _ _ (RDs.of_f2 hx)), pb, shaped_Ps d8, shaped_Ps e8, ?_⟩
    have e : PyData.eqv (.list (toPs ds)) (.list (toPs es)) = decide (ds = es) := by
      rw [PyData.eqv, eqv_Ps]
      have := deq_dec (.t ds) (.t es)
      rw [deq] at this
      rw [this]
      by_cases z : ds = es
      · subst z; simp
      · rw [decide_eq_false z, decide_eq_false fun k => z (by injection k)]
    rw [e]
    exact q
/-- x not in ys -/
def rNotInL (K : PySem.W.Frag) : R2 := fun x y H Q => ∃ (d : D) (b : Addr) (ys : List V) (es : List D), RD H d x ∧ dep d ≤ 8 ∧ y = .ref b ∧ SqL K H b ys ∧ F2 (RD H) es ys ∧ (∀ e ∈ es, dep e ≤ 8) ∧ Q (.bl (!decide (d ∈ es))) H
theorem any_P (d : D) : ∀ es : List D, ((toPs es).any fun z => PyData.eqv z (toP d)) = decide (d ∈ es)
  | [] => by rw [toPs]; simp
  | e :: es => by
    rw [toPs, List.any_cons, any_P d es, eqv_P, deq_dec]
    by_cases z : d = e
    · subst z; simp
    · rw [decide_eq_false fun k => z k.symm, Bool.false_or]
      simp [List.mem_cons, z]
theorem op_notInL (hu : X.A.units + 65 < cLine) : OpR X (compareOp .NotIn) (rNotInL X.K) := by
  intro pins s σ H x y v u Q I rx ry ⟨d, b, ys, es, hd, d8, e, hb, hy, e8, q⟩
  subst e
  refine op_notInD hu pins s σ H x (.ref b) v u Q I rx ry ⟨_, _, RD.dp _ _ hd, .lst hb (RDs.dps _ _ (RDs.of_f2 hy)), shaped_P d8, shaped_Ps e8, ?_⟩
  rw [any_P]
  exact q
end
end K27
end

section
set_option Elab.async false
set_option linter.all false
set_option maxRecDepth 100000
set_option maxHeartbeats 4000000
/-! K27w: followed. -/
namespace K27
open PySem PySem.Spec PyProof.Rows L2
/-- a new list of arrows is given back, of which C holds -/
def PLA (T : Tb) (H : Hp) (Q : VK) (C : List Arr → Prop) : Prop := ∀ (H' : Hp) (p : Addr) (ys : List V) (A : List Arr), Go T N0 H H' → New H p → H' p = some (.lst ys) → Ls H' dArr A ys → C A → Q (.ref p) H'
theorem heads_row (i X : Nat) : heads (i + 1) X = heads i X ++ (List.range X).map fun (x : Nat) => ((i : Int), (x : Int)) := by
  unfold heads
  rw [List.range_succ, List.flatMap_append]
  simp
section
variable {P : Program} {w : World} {K : PySem.W.Frag} {mg : Str → Option Value} {base : Heap} {T : Tb}
theorem scFol : FnScope ["game", "arrows", "is_thin", "found", "place", "letter", "targets", "cost"] ["game", "arrows", "is_thin"] (defScope sFol) := ⟨rfl, rfl, rfl, by decide +kernel, rfl, by decide +kernel, by decide +kernel⟩
def spFol (T : Tb) (K : PySem.W.Frag) : Sp := fun vs H Q _ => ∃ (a l : Addr) (xs : List V) (A : List Arr) (P X : Nat) (g : Gm) (S : Int), vs = [.ref a, .ref l, .bl true] ∧ GmAt H a P X g ∧ GmOk P S X g ∧ P ≤ 3 ∧ X ≤ 3 ∧ SqL K H l xs ∧ Ls H dArr A xs ∧ OkK S X A ∧ LamX.Tabs T H ∧
  PLA T H Q fun F => FolP g A (heads P X) F ∧ (∀ a ∈ F, OkT S a.2.2.1 ∧ 0 ≤ a.2.2.2) ∧ F.length ≤ 300
theorem ok_fol {f fA : Addr} {fd fdA : FuncData} (F : Fun K "followed" "followed" sFol f fd)
    (GA : FnOk P w K mg base CX0 9 fA fdA ["game", "arrows", "place", "letter", "is_thin"] (spAt T K)) (kA : PySem.W.keepIn K (.ref fA) = true) (bA : Binds K fdA ["game", "arrows", "place", "letter", "is_thin"] []) (mA : mg "at_place" = some (.ref fA))
    (mLen : mg "len" = none) (mRange : mg "range" = none) (mSorted : mg "sorted" = none) : FnOk P w K mg base CX0 10 f fd ["game", "arrows", "is_thin"] (spFol T K) := by
  refine F.ok scFol (fun vs H Q E h => ?_) (fun cdv A outer s H vs Q E hr h => ?_)
  · obtain ⟨a, l, xs, A, P, X, g, S, rfl, _⟩ := h
    rfl
  · obtain ⟨a, l, xs, AA, PP, X, g, S, rfl, hg, go, p3, x3, hl, hx, ok, hT, k⟩ := h
    refine ⟨_, pss_cons (ps_set (i := 3) scFol.nd rfl (.inl rfl) (pe_lst pa_nil))
      (pss_cons (ps_for PassesOwn.never rfl (pi_range1 (by rfl) mRange (pa_cons (pe_callB (lenS K) (by rfl) mLen PySem.boot_len (pa_cons (pe_ix (ixT K) (pv 0) pe_int (fun _ _ => rfl)) pa_nil)) pa_nil)) (pg_name (i := 4) scFol.nd rfl (Or.inl rfl))
        (pss_one (ps_for PassesOwn.never rfl (pi_range1 (by rfl) mRange (pa_cons (pe_callB (lenS K) (by rfl) mLen PySem.boot_len (pa_cons (pe_ix (ixT K) (pv 0) pe_int (fun _ _ => rfl)) pa_nil)) pa_nil)) (pg_name (i := 5) scFol.nd rfl (Or.inl rfl))
          (pss_one (ps_for PassesOwn.never rfl (pi_list (pe_call GA hr (by rfl) mA kA bA .nil pass0 (pa_cons (pv 0) (pa_cons (pv 1) (pa_cons (pv 4) (pa_cons (pv 5) (pa_cons (pv 2) pa_nil))))))) (tupleG (n := 2) K rfl (pgs_cons (pg_name (i := 6) scFol.nd rfl (Or.inl rfl)) (pgs_cons (pg_name (i := 7) scFol.nd rfl (Or.inl rfl)) pgs_nil)))
            (pss_one (ps_expr (pe_bm PySem.F.plainAttrs_list PySem.F.slot_list_append PySem.F.type_list_append mt_append (pv 3) (pa_cons (pe_tup (pa_cons (pv 4) (pa_cons (pv 5) (pa_cons (pv 6) (pa_cons (pv 7) pa_nil))))) pa_nil)))))))))
      (pss_one (ps_ret (pe_callB (cr_sortD hr.units) (by rfl) mSorted (by decide +kernel) (pa_cons (pv 3) pa_nil))))), ?_⟩
    obtain ⟨pl, le, ru, ps, ls, rs, h1, h2, h3, h4, h5, h6, h7, h8, h9⟩ := id hg
    refine ⟨Nat.zero_le _, fun p1 np1 => ?_⟩
    have ga : Go T N0 H (upd H p1 (.lst [])) := .new np1
    -- what holds between the turns
    let C : List (Int × Int) → List Arr → Prop := fun don F => FolP g AA don F ∧ (∀ a ∈ F, OkT S a.2.2.1 ∧ 0 ≤ a.2.2.2)
    refine ⟨_, rfl, a, _, _, _, rfl, rfl, SqT.of (ga.tup h1), atI_nat (j := 0) rfl, pl, ps, rfl, .inr (SqT.of (ga.tup h2)), _, rfl, by omega, by omega, ?_⟩
    rw [h3, Int.toNat_natCast]
    refine for_range (lo := 0) (n := PP) (fun i σ H' => ∃ (a4 a5 a6 a7 : Option V) (acc : List V) (F : List Arr), σ = [some (.ref a), some (.ref l), some (.bl true), some (.ref p1), a4, a5, a6, a7] ∧ Go T N0 H H' ∧ H' p1 = some (.lst acc) ∧ Ls H' dArr F acc ∧ FolP g AA (heads i X) F ∧ (∀ a ∈ F, OkT S a.2.2.1 ∧ 0 ≤ a.2.2.2) ∧ F.length ≤ 96 * i)
      ⟨none, none, none, none, [], [], rfl, ga, upd_same, .nil, FolP.nil g AA, (fun _ h => by cases h), Nat.zero_le _⟩ ?_ ?_
    · rintro i σ H' hi ⟨a4, a5, a6, a7, acc, F, rfl, g', hp1, hk, fp, fo, fl⟩
      refine ⟨_, rfl, a, _, _, _, rfl, rfl, SqT.of (g'.tup h1), atI_nat (j := 1) rfl, le, ls, rfl, .inr (SqT.of (g'.tup h6)), _, rfl, by omega, by omega, ?_⟩
      rw [h7, Int.toNat_natCast, Int.zero_add]
      refine for_range (lo := 0) (n := X) (fun j σ H2 => ∃ (a5 a6 a7 : Option V) (acc : List V) (F : List Arr), σ = [some (.ref a), some (.ref l), some (.bl true), some (.ref p1), some (.int (i : Int)), a5, a6, a7] ∧ Go T N0 H H2 ∧ H2 p1 = some (.lst acc) ∧ Ls H2 dArr F acc ∧ FolP g AA (heads i X ++ (List.range j).map fun (x : Nat) => ((i : Int), (x : Int))) F ∧ (∀ a ∈ F, OkT S a.2.2.1 ∧ 0 ≤ a.2.2.2) ∧ F.length ≤ 96 * i + 32 * j)
        ⟨a5, a6, a7, acc, F, rfl, g', hp1, hk, by simpa using fp, fo, fl⟩ ?_ ?_
      · rintro j σ H2 hj ⟨b5, b6, b7, acc2, F2', rfl, g2, hp2, hk2, fp2, fo2, fl2⟩
        rw [Int.zero_add]
        refine ⟨_, rfl, _, rfl, _, rfl, _, rfl, _, rfl, a, l, xs, AA, PP, X, g, S, (i : Int), (j : Int), rfl, hg.mono g2.tupK, go, g2.seq hl, hx.mono g2.tupK, ok, by omega, g2.tabs hT, fun H3 q ys qs g3 nq hq hkq ⟨at', op, l32⟩ => ?_⟩
        refine ⟨q, rfl, ⟨_, SqL.of hq⟩, for_list (K := K) (a := q) (xs := ys) (fun m σ H4 => ∃ (a6 a7 : Option V) (acc : List V), σ = [some (.ref a), some (.ref l), some (.bl true), some (.ref p1), some (.int (i : Int)), some (.int (j : Int)), a6, a7] ∧ Go T N0 H H4 ∧ H4 q = some (.lst ys) ∧ Ls H4 dPair qs ys ∧ H4 p1 = some (.lst acc) ∧ Ls H4 dArr (F2' ++ (qs.take m).map fun y => ((i : Int), (j : Int), y)) acc)
          ⟨b6, b7, acc2, rfl, g2.trans g3, hq, hkq, g3.lst hp2, by rw [List.take_zero, List.map_nil, List.append_nil]; exact hk2.mono g3.tupK⟩ (fun m σ H4 _ ⟨_, _, _, _, _, z, _⟩ => SqL.of z) ?_ ?_⟩
        · rintro m v σ H4 hm ⟨c6, c7, acc4, rfl, g4, hq4, hkq4, hp4, hk4⟩
          obtain ⟨e, hem, re⟩ := hkq4.get_r hm
          have hml := (List.getElem?_eq_some_iff.mp hem).1
          have a4l := hk4.len
          rw [List.length_append, List.length_map, List.length_take] at a4l
          obtain ⟨m1, m2, rfl, h3', h4'⟩ := rd_pair re
          refine ⟨m1, _, rfl, SqT.of h3', rfl, _, _, rfl, _, _, rfl, rfl, ?_⟩
          refine ⟨_, rfl, .inl ⟨rfl, _, SqL.of hp4⟩, _, rfl, _, rfl, _, rfl, _, rfl, (by show 4 ≤ sizeLine; decide), fun t nt => ?_⟩
          have gn : Go T N0 H4 (upd H4 t (.tup [V.int (i : Int), V.int (j : Int), V.ref m2, V.int e.2])) := Go.new nt
          have npq : q ≠ p1 := fun z => by
            subst z
            obtain ⟨_, e⟩ := nq _ hp2
            cases e
          refine ⟨p1, acc4, _, rfl, rfl, gn.lst hp4, sz_lt (by omega), ?_⟩
          refine ⟨_, _, _, rfl, (g4.trans gn).mut (new_of np1) (gn.lst hp4), by rw [upd_ne npq]; exact gn.lst hq4, (hkq4.mono gn.tupK).mono (tupK_upd (gn.lst hp4)), upd_same, ?_⟩
          have nx : F2' ++ ((qs.take (m + 1)).map fun y => ((i : Int), (j : Int), y)) = (F2' ++ (qs.take m).map fun y => ((i : Int), (j : Int), y)) ++ [((i : Int), (j : Int), e)] := by
            rw [List.take_add_one, hem, List.map_append, ← List.append_assoc]
            rfl
          rw [nx]
          refine Ls.mono ((hk4.mono gn.tupK).app ?_) (tupK_upd (gn.lst hp4))
          exact rd_mk_arr (q := ((i : Int), (j : Int), e)) upd_same (gn.tup h4')
        · rintro σ H4 ⟨c6, c7, acc4, rfl, g4, hq4, hkq4, hp4, hk4⟩
          rw [show ys.length = qs.length from hkq.len.symm, List.take_length] at hk4
          refine ⟨_, _, _, acc4, F2' ++ qs.map (fun y => ((i : Int), (j : Int), y)), rfl, g4, hp4, hk4, ?_, ?_, ?_⟩
          · rw [List.range_succ, List.map_append, ← List.append_assoc]
            exact fp2.step at'
          · intro z hz
            rcases List.mem_append.mp hz with hz | hz
            · exact fo2 z hz
            · obtain ⟨y, hy, rfl⟩ := List.mem_map.mp hz
              exact op y hy
          · rw [List.length_append, List.length_map]
            omega
      · rintro σ H2 ⟨b5, b6, b7, acc2, F2', rfl, g2, hp2, hk2, fp2, fo2, fl2⟩
        exact ⟨_, _, _, _, acc2, F2', rfl, g2, hp2, hk2, by rw [heads_row]; exact fp2, fo2, by omega⟩
    · rintro σ H' ⟨a4, a5, a6, a7, acc, F, rfl, g', hp1, hk, fp, fo, fl⟩
      refine ⟨_, rfl, p1, acc, F.map dArr, true, rfl, SqL.of hp1, F2.to_map hk, fun d hd => ?_, fun d hd e he => ?_, fun es zs p per srt2 f2 np => ?_⟩
      · obtain ⟨q, _, rfl⟩ := List.mem_map.mp hd
        exact ⟨fst_arr q, by rw [dep_arr]; decide⟩
      · obtain ⟨q, _, rfl⟩ := List.mem_map.mp hd
        obtain ⟨q2, _, rfl⟩ := List.mem_map.mp he
        exact cpt_arr q q2
      · obtain ⟨F', e1, e2⟩ := perm_img per _ rfl
        subst e1
        exact k _ p zs F' (g'.add np) (g'.fresh np) upd_same (Ls.mono (enc := dArr) (F2.map_l f2) (tupK_new np)) ⟨fp.perm e2, fun a ha => fo a (e2.mem_iff.mp ha), by rw [e2.length_eq]; omega⟩
end
end K27
end

section
set_option Elab.async false
set_option linter.all false
set_option maxRecDepth 100000
set_option maxHeartbeats 4000000
/-! K27x: kept_of. -/
namespace K27
open PySem PySem.Spec PyProof.Rows L2
section
variable {X : Cx}
theorem setD (K : PySem.W.Frag) (w : World) (hc : X.calm = true) (hu : X.A.units + 64 < cLine) (h : X.K = K := by rfl) (h2 : X.w = w := by rfl) : CallR X (.type "set") (rSetD K w) := by subst h; subst h2; exact cr_setD hc hu
theorem sortSetD (w : World) (hc : X.calm = true) (hu : X.A.units + 64 < cLine) (h2 : X.w = w := by rfl) : CallR X (.builtin "sorted") (rSortSetD w) := by subst h2; exact cr_sortSetD hc hu
end
theorem all_heads : ∀ ds : List D, (∀ d ∈ ds, ∃ h, d = dHead h) → ∃ hs : List (Int × Int), ds = hs.map dHead
  | [], _ => ⟨[], rfl⟩
  | d :: ds, h => by
    obtain ⟨x, e⟩ := h d List.mem_cons_self
    obtain ⟨hs, e2⟩ := all_heads ds fun y hy => h y (List.mem_cons_of_mem _ hy)
    exact ⟨x :: hs, by rw [e, e2]; rfl⟩
theorem strict {α : Type} {enc : α → D} : ∀ {hs : List α}, (hs.map enc).Nodup → hs.Pairwise (fun a b => dlt (enc b) (enc a) = false) → hs.Pairwise fun a b => dlt (enc a) (enc b) = true
  | [], _, _ => .nil
  | a :: hs, n, h => by
    rw [List.map_cons, List.nodup_cons] at n
    obtain ⟨h1, h2⟩ := List.pairwise_cons.mp h
    refine List.pairwise_cons.mpr ⟨fun b hb => ?_, strict n.2 h2⟩
    cases q : dlt (enc a) (enc b) with
    | true => rfl
    | false =>
      have := dlt_tot _ _ q (h1 b hb)
      exact absurd (List.mem_map.mpr ⟨b, hb, this.symm⟩) n.1
theorem dec_head (a b : Int × Int) : decide (dHead a = dHead b) = (decide (a.1 = b.1) && decide (a.2 = b.2)) := by
  rw [← Bool.decide_and]
  exact decide_eq_decide.mpr ⟨fun e => by have := dHead_inj e; rw [this]; exact ⟨rfl, rfl⟩, fun e => by rw [Prod.ext e.1 e.2]⟩
section
variable {P : Program} {w : World} {K : PySem.W.Frag} {mg : Str → Option Value} {base : Heap} {T : Tb}
theorem scKept : FnScope ["arrows", "heads", "found", "stand", "letter", "pairs", "one", "pair"] ["arrows"] (defScope sKept) := ⟨rfl, rfl, rfl, by decide +kernel, rfl, by decide +kernel, by decide +kernel⟩
def spKept (T : Tb) (K : PySem.W.Frag) : Sp := fun vs H Q _ => ∃ (l : Addr) (xs : List V) (A : List Arr) (S X : Nat), vs = [.ref l] ∧ SqL K H l xs ∧ Ls H dArr A xs ∧ (∀ a ∈ A, OkA S X a) ∧ S ≤ 5 ∧ X ≤ 3 ∧ A.length ≤ 2000 ∧ LamX.Tabs T H ∧ PLA T H Q (KeptS A)
theorem ok_kept {f fT : Addr} {fd fdT : FuncData} (F : Fun K "kept_of" "kept_of" sKept f fd) (GT : FnOk P w K mg base CX0 4 fT fdT ["pairs"] (spThin T K)) (kT : PySem.W.keepIn K (.ref fT) = true) (bT : Binds K fdT ["pairs"] []) (mT : mg "thinned" = some (.ref fT))
    (mSorted : mg "sorted" = none) (mSet : mg "set" = none) : FnOk P w K mg base CX0 5 f fd ["arrows"] (spKept T K) := by
  refine F.ok scKept (fun vs H Q E h => ?_) (fun cdv A outer s H vs Q E hr h => ?_)
  · obtain ⟨l, xs, A, S, X, rfl, _⟩ := h
    rfl
  · obtain ⟨l, xs, AA, S, X, rfl, hl, hx, ok, s5, x3, hz, hT, k⟩ := h
    refine ⟨_, pss_cons (ps_set (i := 1) scKept.nd rfl (.inl rfl) (pe_callB (sortSetD w rfl hr.units) (by rfl) mSorted (by decide +kernel) (pa_cons (pe_callTy (setD K w rfl hr.units) (by rfl) mSet (by decide +kernel) (pa_cons
        (pe_lc (own := [("one", 6)]) (g := gName 6) (tt := tYes) rfl scKept.nd (pi_list (pv 0)) (blkOk_by (N := ["arrows", "heads", "found", "stand", "letter", "pairs", "one", "pair"]) (sc := defScope sKept) (by decide +kernel)) (fun _ _ _ _ _ => pg_name (i := 6) scKept.nd rfl (Or.inl rfl)) (fun _ _ _ _ _ => pts_nil)
          (fun _ _ _ _ _ => pe_slice (slT K) (pv 6) po_none (po_some pe_int))) pa_nil)) pa_nil)))
      (pss_cons (ps_set (i := 2) scKept.nd rfl (.inl rfl) (pe_lst pa_nil))
      (pss_cons (ps_for PassesOwn.never rfl (pi_list (pv 1)) (tupleG (n := 2) K rfl (pgs_cons (pg_name (i := 3) scKept.nd rfl (Or.inr rfl)) (pgs_cons (pg_name (i := 4) scKept.nd rfl (Or.inr rfl)) pgs_nil)))
        (pss_cons (ps_setLc (i := 5) (own := [("one", 6)]) (g := gName 6) rfl scKept.nd rfl rfl (sw_true rfl rfl rfl (by decide +kernel)) (pi_list (pv 0)) (blkOk_by (N := ["arrows", "heads", "found", "stand", "letter", "pairs", "one", "pair"]) (sc := defScope sKept) (by decide +kernel)) (fun _ _ _ _ _ => pg_name (i := 6) scKept.nd rfl (Or.inl rfl))
            (fun _ _ _ _ _ => pts_one (pt_cmpR (op_eqRD hr.units) (pe_slice (slT K) (pv 6) po_none (po_some pe_int)) (pe_tup (pa_cons (pv 3) (pa_cons (pv 4) pa_nil))) (nomark _)))
            (fun _ _ _ _ _ => pe_slice (slT K) (pv 6) (po_some pe_int) po_none))
        (pss_one (ps_expr (pe_bm PySem.F.plainAttrs_list PySem.F.slot_list_extend PySem.F.type_list_extend mt_extend (pv 2) (pa_cons
          (pe_lc (own := [("pair", 7)]) (g := gName 7) (tt := tYes) rfl scKept.nd (pi_list (pe_call GT hr (by rfl) mT kT bT .nil pass0 (pa_cons (pv 5) pa_nil))) (blkOk_by (N := ["arrows", "heads", "found", "stand", "letter", "pairs", "one", "pair"]) (sc := defScope sKept) (by decide +kernel)) (fun _ _ _ _ _ => pg_name (i := 7) scKept.nd rfl (Or.inl rfl)) (fun _ _ _ _ _ => pts_nil)
            (fun _ _ _ _ _ => pe_op (opCat K) (pe_tup (pa_cons (pv 3) (pa_cons (pv 4) pa_nil))) (pv 7))) pa_nil))))))
      (pss_one (ps_ret (pv 2))))), ?_⟩
    refine ⟨_, rfl, l, rfl, ⟨_, hl⟩, fun D hD => ?_⟩
    have xl := hx.len
    refine lcg_list T (fun i acc H' => ∃ ks : DL, acc = ks.map (fun p => V.ref p.1) ∧ (∀ p ∈ ks, RD H' p.2 (.ref p.1)) ∧ ks.map Prod.snd = (AA.take i).map fun a => dHead (a.1, a.2.1)) hD hl ⟨[], rfl, (fun _ h => by cases h), by rw [List.take_zero]; rfl⟩ (fun i y H2 acc hi g2 ha hal r => ?_) (fun H2 acc g2 ha hal r => ?_)
    · obtain ⟨a, hai, ra⟩ := hx.get_r hi
      have hil := (List.getElem?_eq_some_iff.mp hai).1
      obtain ⟨ks, rfl, hks, es⟩ := r
      obtain ⟨q, b, rfl, hq, hb⟩ := rd_arr (RD.mono g2.tupK _ _ ra)
      refine ⟨wp1, yesIf ?_⟩
      refine ⟨_, rfl, 2, rfl, q, _, rfl, SqT.of hq, (fun z => absurd (show (2 : Nat) = 4 from z.2) (by decide)), fun t nt => ?_⟩
      have gn : Go T N0 H2 (upd H2 t (.tup (cutV [V.int a.1, V.int a.2.1, V.ref b, V.int a.2.2.2] none (some 2)))) := Go.new nt
      refine LcI.add hD g2 ha hal (by omega) gn ⟨ks ++ [(t, dHead (a.1, a.2.1))], by rw [List.map_append]; rfl, fun p hp => ?_, ?_⟩
      · refine RD.mono (tupK_upd (gn.lst ha)) _ _ ?_
        rcases List.mem_append.mp hp with hp | hp
        · exact RD.mono gn.tupK _ _ (hks p hp)
        · rw [List.mem_singleton.mp hp]
          exact rd_mk_head (q := (a.1, a.2.1)) upd_same
      · rw [List.map_append, es, List.take_add_one, hai, List.map_append]
        rfl
    rw [← xl, List.take_length] at r
    obtain ⟨ks, rfl, hks, es⟩ := r
    have inU : ∀ a ∈ AA, dHead (a.1, a.2.1) ∈ (heads S X).map dHead := fun a ha => List.mem_map.mpr ⟨_, mem_heads.mpr ⟨(ok a ha).st, (ok a ha).lt⟩, rfl⟩
    have ksA : ∀ p ∈ ks, ∃ a ∈ AA, p.2 = dHead (a.1, a.2.1) := fun p hp => by
      have : p.2 ∈ ks.map Prod.snd := List.mem_map.mpr ⟨p, hp, rfl⟩
      rw [es] at this
      obtain ⟨a, ha, e⟩ := List.mem_map.mp this
      exact ⟨a, ha, e.symm⟩
    refine ⟨D, ks, (heads S X).map dHead, rfl, SqL.of ha, fun p hp => ⟨hks p hp, ?_⟩, fun p hp => ?_, ?_, fun sa L ns c1 c2 c3 => ?_⟩
    · obtain ⟨a, _, e⟩ := ksA p hp
      rw [e, dep_head]
      decide
    · obtain ⟨a, ha, e⟩ := ksA p hp
      rw [e]
      exact inU a ha
    · rw [List.length_map, heads_len]
      have : S * X ≤ 5 * 3 := Nat.mul_le_mul s5 x3
      omega
    have gs : Go T N0 H2 (upd H2 sa (SetDO w sa L)) := Go.new ns
    have LA : ∀ p ∈ L, ∃ a ∈ AA, p.2 = dHead (a.1, a.2.1) := fun p hp => ksA p (c1 p hp)
    refine ⟨sa, L, true, rfl, upd_same, fun p hp => ⟨RD.mono gs.tupK _ _ (hks p (c1 p hp)), ?_, ?_⟩, fun p hp q hq => ?_, fun ds ys p pm nd dl srt hys np => ?_⟩
    · obtain ⟨a, _, e⟩ := LA p hp
      rw [e, dep_head]
      decide
    · obtain ⟨a, _, e⟩ := LA p hp
      rw [e]
      exact fst_head _
    · obtain ⟨a, _, e⟩ := LA p hp
      obtain ⟨b, _, e2⟩ := LA q hq
      rw [e, e2]
      exact cpt_head _ _
    obtain ⟨hs, rfl⟩ := all_heads ds fun d hd => by
      obtain ⟨p, hp, e⟩ := List.mem_map.mp (pm.mem_iff.mp hd)
      obtain ⟨a, _, e2⟩ := LA p hp
      exact ⟨_, by rw [← e, e2]⟩
    have hsl : hs.length < 64 := by rw [List.length_map] at dl; exact dl
    have hss := strict nd (List.pairwise_map.mp srt)
    have hall : ∀ a ∈ AA, (a.1, a.2.1) ∈ hs := fun a ha => by
      have m1 : dHead (a.1, a.2.1) ∈ ks.map Prod.snd := by rw [es]; exact List.mem_map.mpr ⟨a, ha, rfl⟩
      obtain ⟨p, hp, e⟩ := List.mem_map.mp m1
      have m2 := c2 p hp
      rw [e] at m2
      obtain ⟨h, hh, e2⟩ := List.mem_map.mp (pm.mem_iff.mpr m2)
      rw [← dHead_inj e2]
      exact hh
    have gp : Go T N0 (upd H2 sa (SetDO w sa L)) (upd (upd H2 sa (SetDO w sa L)) p (.lst ys)) := Go.new np
    have hp0 : upd (upd H2 sa (SetDO w sa L)) p (.lst ys) p = some (.lst ys) := upd_same
    have g0 : Go T N0 H (upd (upd H2 sa (SetDO w sa L)) p (.lst ys)) := (g2.trans gs).trans gp
    have hy0 : Ls (upd (upd H2 sa (SetDO w sa L)) p (.lst ys)) dHead hs ys := Ls.mono (enc := dHead) (F2.map_l hys) gp.tupK
    generalize hH3 : upd (upd H2 sa (SetDO w sa L)) p (.lst ys) = H3 at hp0 g0 hy0
    refine ⟨Nat.zero_le _, fun p1 np1 => ?_⟩
    have ga : Go T N0 H3 (upd H3 p1 (.lst [])) := .new np1
    refine ⟨_, rfl, p, rfl, ⟨_, SqL.of (ga.lst hp0)⟩, for_list (K := K) (a := p) (xs := ys) (fun i σ H' => ∃ (a3 a4 a5 : Option V) (acc : List V) (F : List Arr), σ = [some (.ref l), some (.ref p), some (.ref p1), a3, a4, a5, none, none] ∧ Go T N0 H3 H' ∧ H' p1 = some (.lst acc) ∧ Ls H' dArr F acc ∧ KepP AA (hs.take i) F ∧ F.length ≤ 32 * i)
      ⟨none, none, none, [], [], rfl, ga, upd_same, .nil, by rw [List.take_zero]; exact KepP.nil AA, Nat.zero_le _⟩ (fun i σ H' _ ⟨_, _, _, _, _, _, g', _⟩ => SqL.of (g'.lst hp0)) ?_ ?_⟩
    · rintro i y σ H' hi ⟨a3, a4, a5, acc, F, rfl, g', hp1, hk, kp, fl⟩
      obtain ⟨h, hhi, rh⟩ := hy0.get_r hi
      have hil := (List.getElem?_eq_some_iff.mp hhi).1
      obtain ⟨q, rfl, hq⟩ := rd_head (RD.mono g'.tupK _ _ rh)
      obtain ⟨st, le⟩ := h
      have gH := g0.trans g'
      refine ⟨q, _, rfl, SqT.of hq, rfl, _, _, rfl, _, _, rfl, rfl, ?_⟩
      refine ⟨_, rfl, l, rfl, ⟨_, gH.seq hl⟩, fun D2 hD2 => ?_⟩
      refine lcg_list T (fun j bs H4 => Ls H4 dPair (afrom (AA.take j) st le) bs) hD2 (gH.seq hl) (by rw [List.take_zero]; exact .nil) (fun j y H4 bs hj g4 hb hbl r => ?_) (fun H4 bs g4 hb hbl r => ?_)
      · obtain ⟨a, haj, ra⟩ := hx.get_r hj
        have hjl := (List.getElem?_eq_some_iff.mp haj).1
        obtain ⟨u, b, rfl, hu, hub⟩ := rd_arr (RD.mono (gH.trans g4).tupK _ _ ra)
        have nx : afrom (AA.take (j + 1)) st le = afrom (AA.take j) st le ++ if (decide (a.1 = st) && decide (a.2.1 = le)) = true then [a.2.2] else [] := by
          rw [List.take_add_one, haj]
          exact afrom_snoc _ _ _ _
        refine ⟨wp1, ?_⟩
        refine ⟨_, rfl, 2, rfl, u, _, rfl, SqT.of hu, (fun z => absurd (show (2 : Nat) = 4 from z.2) (by decide)), fun t nt => ?_⟩
        have g5 : Go T N0 H4 (upd H4 t (.tup (cutV [V.int a.1, V.int a.2.1, V.ref b, V.int a.2.2.2] none (some 2)))) := Go.new nt
        have ht : upd H4 t (.tup (cutV [V.int a.1, V.int a.2.1, V.ref b, V.int a.2.2.2] none (some 2))) t = some (.tup [V.int a.1, V.int a.2.1]) := upd_same
        generalize upd H4 t (.tup (cutV [V.int a.1, V.int a.2.1, V.ref b, V.int a.2.2.2] none (some 2))) = H5 at g5 ht ⊢
        refine ⟨_, rfl, _, rfl, (by show 2 ≤ sizeLine; decide), fun t2 nt2 => ?_⟩
        have g6 : Go T N0 H5 (upd H5 t2 (.tup [V.int st, V.int le])) := Go.new nt2
        refine ⟨dHead (a.1, a.2.1), dHead (st, le), rd_mk_head (q := (a.1, a.2.1)) (g6.tup ht), rd_mk_head (q := (st, le)) upd_same, by rw [dep_head]; decide, by rw [dep_head]; decide, _, rfl, ?_⟩
        rw [dec_head]
        refine ite2 (fun c => ?_) (fun c => ?_)
        · refine ⟨_, rfl, 2, rfl, u, _, rfl, SqT.of ((g5.trans g6).tup hu), (fun z => absurd (show (2 : Nat) = 0 from z.1) (by decide)), fun t3 nt3 => ?_⟩
          have g7 : Go T N0 (upd H5 t2 (.tup [V.int st, V.int le])) (upd (upd H5 t2 (.tup [V.int st, V.int le])) t3 (.tup (cutV [V.int a.1, V.int a.2.1, V.ref b, V.int a.2.2.2] (some 2) none))) := Go.new nt3
          have g47 := (g5.trans g6).trans g7
          refine LcI.add hD2 g4 hb hbl (by omega) g47 ?_
          rw [nx, if_pos c]
          refine Ls.mono ((r.mono g47.tupK).app ?_) (tupK_upd (g47.lst hb))
          exact rd_mk_pair (q := a.2.2) upd_same (g47.tup hub)
        · refine LcI.skip g4 hb hbl (g5.trans g6) ?_
          rw [nx, if_neg c, List.append_nil]
          exact r.mono (g5.trans g6).tupK
      rw [← xl, List.take_length] at r
      have opA : OkP S (afrom AA st le) := fun p hp => ⟨(ok _ (mem_afrom.mp hp)).tg, (ok _ (mem_afrom.mp hp)).co⟩
      refine ⟨_, rfl, .inl ⟨rfl, _, SqL.of (g4.lst hp1)⟩, _, rfl, D2, bs, afrom AA st le, rfl, SqL.of hb, r, opA.flat (by omega), ?_, (gH.trans g4).tabs hT, fun H5 q5 us th g5 nq5 hq5 hk5 tn => ?_⟩
      · unfold afrom
        rw [List.length_map]
        exact Nat.le_trans (List.length_filter_le _ _) (by omega)
      have thl := tn.len opA (by omega)
      have ul := hk5.len
      refine ⟨q5, rfl, ⟨_, SqL.of hq5⟩, fun D3 hD3 => ?_⟩
      refine lcg_list T (fun j bs H6 => Ls H6 dArr ((th.take j).map fun p => (st, le, p)) bs) hD3 (SqL.of hq5) (by rw [List.take_zero]; exact .nil) (fun j y H6 cs hj g6 hc hcl r6 => ?_) (fun H6 cs g6 hc hcl r6 => ?_)
      · obtain ⟨e, hej, re⟩ := hk5.get_r hj
        have hjl := (List.getElem?_eq_some_iff.mp hej).1
        obtain ⟨m1, m2, rfl, hm1, hm2⟩ := rd_pair (RD.mono g6.tupK _ _ re)
        refine ⟨wp1, yesIf ?_⟩
        refine ⟨_, rfl, _, rfl, (by show 2 ≤ sizeLine; decide), fun t nt => ?_⟩
        have g7 : Go T N0 H6 (upd H6 t (.tup [V.int st, V.int le])) := Go.new nt
        refine ⟨_, rfl, t, m1, _, _, rfl, rfl, SqT.of upd_same, SqT.of (g7.tup hm1), (by show 4 ≤ sizeLine; decide), (fun e => by cases e), (fun _ e => by cases e), fun _ _ t2 nt2 => ?_⟩
        have g8 := g7.trans (Go.new (T := T) (B := N0) (o := .tup ([V.int st, V.int le] ++ [V.ref m2, V.int e.2])) nt2)
        refine LcI.add hD3 g6 hc hcl (by omega) g8 ?_
        have nx : (th.take (j + 1)).map (fun p => (st, le, p)) = (th.take j).map (fun p => (st, le, p)) ++ [(st, le, e)] := by
          rw [List.take_add_one, hej, List.map_append]
          rfl
        rw [nx]
        refine Ls.mono ((r6.mono g8.tupK).app ?_) (tupK_upd (g8.lst hc))
        exact rd_mk_arr (q := (st, le, e)) upd_same (g8.tup hm2)
      rw [← ul, List.take_length] at r6
      have g46 := (g4.trans g5).trans g6
      have acl := hk.len
      have cl := r6.len
      rw [List.length_map] at cl
      refine ⟨p1, D3, acc, cs, rfl, rfl, g46.lst hp1, hc, sz_le (by omega), ?_⟩
      refine ⟨_, _, _, _, F ++ th.map (fun p => (st, le, p)), rfl, (g'.trans g46).mut (new_of np1) (g46.lst hp1), upd_same, ?_, ?_, ?_⟩
      · exact Ls.mono (F2.app (hk.mono g46.tupK) r6) (tupK_upd (g46.lst hp1))
      · rw [List.take_add_one, hhi]
        refine kp.step (fun q hq => ?_) tn
        obtain ⟨n, hn, e⟩ := List.getElem_of_mem hq
        rw [List.length_take] at hn
        rw [List.getElem_take] at e
        have hh := List.getElem?_eq_some_iff.mp hhi
        have := List.pairwise_iff_getElem.mp hss n i (by omega) hil (by omega)
        rw [e, hh.2] at this
        exact this
      · rw [List.length_append, List.length_map]
        omega
    · rintro σ H' ⟨a3, a4, a5, acc, F, rfl, g', hp1, hk, kp, fl⟩
      rw [← hy0.len, List.take_length] at kp
      exact ⟨_, rfl, k H' p1 acc F (g0.trans g') (g0.newB (new_of np1)) hp1 hk (kp.all hall)⟩
end
end K27
end

section
set_option Elab.async false
set_option linter.all false
set_option maxRecDepth 100000
set_option maxHeartbeats 4000000
/-! K27y: while by a well-founded order; the exception's making. -/
namespace K27
open PySem PySem.Spec PyProof.Rows L2
section
variable {M : Model} {A : Around} {prog : Program} {w : World} {R : Result → Shared → Prop}
theorem loopW {α : Type} {r : α → α → Prop} (wf : WellFounded r) {c : Code} (hq : c.quiet = true) (J : α → Shared → Prop)
    (turn : ∀ n s, J n s → wpAny M (A.under c) (M.den c) (fun fin s' => match fin with
      | .done f => R (.ok f) s'
      | .again c' => c' = c ∧ ∃ m, r m n ∧ J m s') (fun e s' => R (.error e) s') s) : ∀ n s, J n s → codeAny M A c R s := fun n =>
  wf.induction (C := fun n => ∀ s, J n s → codeAny M A c R s) n fun n ih s h =>
    codeAny_of_tree (wpAny_mono (turn n s h) (fun fin s' hf => by
      cases fin with
      | done f => exact hf
      | again c' =>
        obtain ⟨e, m, hm, hI⟩ := hf
        subst e
        exact ⟨hq, ih m hm s' hI⟩) fun _ _ z => z)
theorem whileW {α : Type} {r : α → α → Prop} (wf : WellFounded r) {test body orelse env} (J : α → Shared → Prop)
    (turn : ∀ n s, J n s → wpAny (model prog w) A (isTrue test env (eval test env)) (fun b s2 =>
        if b then wpAny (model prog w) A (execs body env) (fun f s3 => match f with
            | .next => ∃ m, r m n ∧ J m s3
            | .cont => ∃ m, r m n ∧ J m s3
            | .brk => R (.ok .next) s3
            | .ret v => R (.ok (.ret v)) s3) (notedBy (model prog w) A env fun e s' => R (.error e) s') s2
        else wpAny (model prog w) A (execs orelse env) (fun f s3 => R (.ok f) s3) (notedBy (model prog w) A env fun e s' => R (.error e) s') s2)
        (notedBy (model prog w) A env fun e s' => R (.error e) s') s) (n : α) {s : Shared} (h : J n s) : codeAny (model prog w) A (.whileLoop test body orelse env) R s := by
  refine loopW wf rfl J (fun n s hJ => ?_) n s h
  show wpAny _ A ((whileTurn test body orelse env).onRaise (fun x => do noteFrame x env; theTreesLotGoes x)) _ _ s
  refine wpAny_noted ?_
  unfold whileTurn
  refine wpAny_bind (wpAny_mono (turn n s hJ) (fun b s2 h2 => ?_) fun _ _ z => z)
  cases b
  · simp only [Bool.false_eq_true, if_false] at h2 ⊢
    exact wpAny_bind (wpAny_mono h2 (fun f s3 h3 => wpAny_pure h3) fun _ _ z => z)
  · simp only [if_true] at h2 ⊢
    refine wpAny_bind (wpAny_mono h2 (fun f s3 h3 => ?_) fun _ _ z => z)
    cases f
    · exact wpAny_pure ⟨rfl, h3⟩
    · exact wpAny_pure h3
    · exact wpAny_pure ⟨rfl, h3⟩
    · exact wpAny_pure h3
end
section
variable {X : Cx} {pos : Pos}
def tWhileW {α : Type} (r : α → α → Prop) (c : TT) (tb : TS) : TS := fun D σ H => ∃ W : α → L2.St → Hp → Prop, (∃ m, W m σ H) ∧ ∀ m σ H, W m σ H → c σ H fun b H1 =>
  if b = true then ∃ N : L2.St → Hp → Prop, (∀ σ' H', N σ' H' → ∃ m', r m' m ∧ W m' σ' H') ∧ tb { D with nx := N, ct := N, bk := D.nx } σ H1 else D.nx σ H1
theorem ps_whileW {α : Type} {r : α → α → Prop} (wf : WellFounded r) {c : Expr} {body : List Stmt} {tc : TT} {tb : TS} (hp : PassesOwn (model X.prog X.w) X.A X.env X.xe) (hc : PT X c tc) (hb : PSs X body tb) : PS X (.While c body [] pos) (tWhileW r tc tb) := by
  refine ⟨fun pins s σ H D I ⟨W, ⟨m0, w0⟩, turn⟩ => wpAny_While (whileW wf (fun n s' => ∃ σ' H', Inv X pins σ' H' s' ∧ W n σ' H') ?_ m0 ⟨σ, H, I, w0⟩)⟩
  rintro n s1 ⟨σ1, H1, I1, w1⟩
  refine wpAny_passesOwn hp (thn (hc.run pins s1 σ1 H1 _ I1 (turn n σ1 H1 w1)) fun b s2 ⟨H2, I2, q2⟩ => ?_)
  cases b
  · rw [if_neg Bool.false_ne_true]
    exact wpAny_execs_nil ⟨σ1, H2, I2, q2⟩
  · obtain ⟨N, hN, q2⟩ := q2
    rw [if_pos rfl]
    refine wpAny_passesOwn hp (thn (hb.run pins s2 σ1 H2 _ I2 q2) fun f s3 q3 => ?_)
    have go : ∀ {σ3 H3}, Inv X pins σ3 H3 s3 → N σ3 H3 → ∃ m, r m n ∧ ∃ σ' H', Inv X pins σ' H' s3 ∧ W m σ' H' := fun I3 n3 => let ⟨m', hm, w3⟩ := hN _ _ n3; ⟨m', hm, _, _, I3, w3⟩
    cases f with
    | next => exact let ⟨σ3, H3, I3, n3⟩ := q3; go I3 n3
    | cont => exact let ⟨σ3, H3, I3, n3⟩ := q3; go I3 n3
    | brk => exact q3
    | ret v => exact q3
end
/-! ### TooMany's own __init__ -/
section
variable {P : Program} {w : World} {K : PySem.W.Frag} {mg : Str → Option Value} {base : Heap} {T : Tb}
theorem scMost : FnScope ["self", "most"] ["self", "most"] (defScope sMost) := ⟨rfl, rfl, rfl, by decide +kernel, rfl, by decide +kernel, by decide +kernel⟩
def spMost (C : Addr) : Sp := fun vs H Q _ => ∃ (p : Addr) (m : Int), vs = [.ref p, .int m] ∧ H p = some (exo p C none) ∧ ∀ dx, H dx = none → dx ≠ p → Q .non (upd (upd H dx (exd dx [("most", .int m)])) p (exo p C (some dx)))
theorem ok_most {f C : Addr} {fd : FuncData} (F : Fun K "__init__" "TooMany.__init__" sMost f fd) (O : OexC K C) (hno : PySem.W.findIn K (.ref C) "most" = some none) : FnOk P w K mg base CX0 1 f fd ["self", "most"] (spMost C) := by
  refine F.ok scMost (fun vs H Q E h => ?_) (fun cdv A outer s H vs Q E hr h => ?_)
  · obtain ⟨p, m, rfl, _⟩ := h
    rfl
  · obtain ⟨p, m, rfl, hp, k⟩ := h
    exact ⟨_, pss_one (ps_ost (pv 0) (pv 1)), ⟨_, rfl, _, rfl, p, C, rfl, O, hno, .inl ⟨hp, k⟩⟩⟩
end
end K27
end

section
set_option Elab.async false
set_option linter.all false
set_option maxRecDepth 100000
set_option maxHeartbeats 4000000
/-! K27z: the machine. -/
namespace K27
open PySem PySem.Spec PyProof.Rows L2
/-- a saying that stands at a: its arrows, its ends -/
def SayAt (H : Hp) (a : Addr) (bs : List Say) (ends : List Int) : Prop := ∃ (own : Int) (aw ew : Addr) (vs : List V), H a = some (.tup [.int own, .ref aw, .ref ew]) ∧ H aw = some (.tup vs) ∧ Ls H dSay bs vs ∧ H ew = some (.tup (ends.map V.int))
theorem SayAt.mono {H H' : Hp} {a : Addr} {bs : List Say} {ends : List Int} (h : SayAt H a bs ends) (k : TupK H H') : SayAt H' a bs ends := by
  obtain ⟨own, aw, ew, vs, h1, h2, h3, h4⟩ := h
  exact ⟨own, aw, ew, vs, k _ _ h1, k _ _ h2, h3.mono k, k _ _ h4⟩
def cost0 (b : Say) : Arr := (b.1, b.2.1, b.2.2, 0)
/-- the loop's order: the arrows fall, or they are the same and the end is seen -/
def Fall2 (S X : Nat) (a b : List Arr × Bool) : Prop := Fall S X a.1 b.1 ∨ (a.1 = b.1 ∧ a.2 = true ∧ b.2 = false)
theorem fall2_wf (S X : Nat) : WellFounded (Fall2 S X) := by
  refine ⟨fun ⟨a, b⟩ => ?_⟩
  refine (fall_wf S X).induction (C := fun a => ∀ b, Acc (Fall2 S X) (a, b)) a (fun a ih => ?_) b
  have t : Acc (Fall2 S X) (a, true) := ⟨_, fun ⟨c, d⟩ h => by
    rcases h with h | ⟨_, _, h⟩
    · exact ih c h d
    · cases h⟩
  intro b
  cases b with
  | true => exact t
  | false =>
    refine ⟨_, fun ⟨c, d⟩ h => ?_⟩
    rcases h with h | ⟨h1, h2, _⟩
    · exact ih c h d
    · simp only at h1 h2
      subst h1
      subst h2
      exact t
theorem dArr_all {A A' : List Arr} (h : A.map dArr = A'.map dArr) : A = A' := by
  induction A generalizing A' with
  | nil => cases A' with
    | nil => rfl
    | cons _ _ => cases h
  | cons a A ih => cases A' with
    | nil => cases h
    | cons b A' =>
      rw [List.map_cons, List.map_cons] at h
      injection h with h1 h2
      rw [dArr_inj h1, ih h2]
theorem dep8 (A : List Arr) : ∀ e ∈ A.map dArr, dep e ≤ 8 := fun e he => by
  obtain ⟨x, _, rfl⟩ := List.mem_map.mp he
  rw [dep_arr]
  decide
theorem test_ne {K : PySem.W.Frag} {H : Hp} {vb : V} {pk : Addr} {ys : List V} {Kk : List Arr} {fl : Bool} {Z : Addr → List V → List Arr → Prop} {A B : Hp → Prop} (hpk : H pk = some (.lst ys)) (hk : Ls H dArr Kk ys)
    (hv : (vb = .non ∧ fl = false) ∨ ∃ (pb : Addr) (zs : List V) (Kb : List Arr), vb = .ref pb ∧ H pb = some (.lst zs) ∧ Ls H dArr Kb zs ∧ fl = decide (Kb = Kk) ∧ Z pb zs Kb) (ht : fl = false → A H) (hd : ∀ pb zs, Z pb zs Kk → B H) :
    rNeL K vb (.ref pk) H fun x H1 => ∃ k, x = .bl k ∧ if k = true then A H1 else B H1 := by
  refine ⟨pk, ys, Kk.map dArr, rfl, SqL.of hpk, F2.to_map hk, dep8 Kk, ?_⟩
  rcases hv with ⟨rfl, hf⟩ | ⟨pb, zs, Kb, rfl, hpb, hkb, hf, z⟩
  · refine .inl ⟨rfl, _, rfl, ?_⟩
    rw [if_pos rfl]
    exact ht hf
  · refine .inr ⟨pb, zs, Kb.map dArr, rfl, SqL.of hpb, F2.to_map hkb, dep8 Kb, _, rfl, ?_⟩
    rw [show decide (Kb.map dArr = Kk.map dArr) = decide (Kb = Kk) from decide_eq_decide.mpr ⟨dArr_all, fun e => by rw [e]⟩]
    by_cases c : Kb = Kk
    · subst c
      rw [decide_eq_true rfl]
      exact hd pb zs z
    · rw [decide_eq_false c]
      exact ht (hf.trans (decide_eq_false c))
section
variable {P : Program} {w : World} {K : PySem.W.Frag} {mg : Str → Option Value} {base : Heap} {T : Tb}
theorem scMach : FnScope ["game", "saying", "most", "begun", "kept", "before", "one"] ["game", "saying", "most"] (defScope sMach) := ⟨rfl, rfl, rfl, by decide +kernel, rfl, by decide +kernel, by decide +kernel⟩
def spMach (T : Tb) (C : Addr) : Sp := fun vs H Q E => ∃ (a sa : Addr) (PP S X : Nat) (g : Gm) (bs : List Say) (ends : List Int), vs = [.ref a, .ref sa, .int 200] ∧ GmAt H a PP X g ∧ SayAt H sa bs ends ∧ OkG PP S X g (bs.map cost0) ends ∧ LamX.Tabs T H ∧
  (∀ (H' : Hp) (p : Addr) (ys : List V) (A : List Arr), Go T N0 H H' → H' p = some (.tup ys) → Ls H' dArr A ys → Mach PP S X g (bs.map cost0) ends A → Q (.ref p) H') ∧ ∀ (H' : Hp) (d : Addr), Go T N0 H H' → E (.ref C) (some d) H'
theorem ok_mach {f fK fF fI C : Addr} {fd fdK fdF fdI : FuncData} (F : FunD K "machine" "machine" (defArgs sMach) (defBody sMach) (defScope sMach) [.int 200] [] f fd) (GK : FnOk P w K mg base CX0 5 fK fdK ["arrows"] (spKept T K)) (kK : PySem.W.keepIn K (.ref fK) = true) (bK : Binds K fdK ["arrows"] []) (mK : mg "kept_of" = some (.ref fK))
    (GF : FnOk P w K mg base CX0 10 fF fdF ["game", "arrows", "is_thin"] (spFol T K)) (kF : PySem.W.keepIn K (.ref fF) = true) (bF : Binds K fdF ["game", "arrows", "is_thin"] []) (mF : mg "followed" = some (.ref fF))
    (O : OexC K C) (iC : PySem.W.findIn K (.ref C) "__init__" = some (some (.ref fI))) (tI : PySem.W.typeIn K (.ref fI) = some (.type "function")) (GI : FnOk P w K mg base CX0 1 fI fdI ["self", "most"] (spMost C)) (bI : Binds K fdI ["self", "most"] []) (mC : mg "TooMany" = some (.ref C))
    (mLen : mg "len" = none) (mTuple : mg "tuple" = none) : FnOk P w K mg base (L2.CX P w) 11 f fd ["game", "saying", "most"] (spMach T C) := by
  refine F.ok scMach (fun vs H Q E h => ?_) (fun cdv A outer s H vs Q E hr h => ?_)
  · obtain ⟨a, sa, PP, S, X, g, bs, ends, rfl, _⟩ := h
    rfl
  · obtain ⟨a, sa, PP, S, X, g, bs, ends, rfl, hg, hs, o, hT, kQ, kE⟩ := h
    have hr5 : Room 5 (A.deeper (envOfC "machine" (defScope sMach) s.heap.objs.size f cdv)) := hr.mono (by decide)
    have hr2 : Room 2 (A.deeper (envOfC "machine" (defScope sMach) s.heap.objs.size f cdv)) := hr.mono (by decide)
    refine ⟨_, pss_cons (ps_setLc (i := 3) (own := [("one", 6)]) (g := gName 6) (tt := tYes) rfl scMach.nd rfl rfl (sw_true rfl rfl rfl (by decide +kernel)) (pi_tup (pe_ix (ixT K) (pv 1) pe_int (fun _ _ => rfl)))
        (blkOk_by (N := ["game", "saying", "most", "begun", "kept", "before", "one"]) (sc := defScope sMach) (by decide +kernel)) (fun _ _ _ _ _ => pg_name (i := 6) scMach.nd rfl (Or.inl rfl)) (fun _ _ _ _ _ => pts_nil) (fun _ _ _ _ _ => pe_op (opCat K) (pv 6) (pe_tup (pa_cons pe_int pa_nil))))
      (pss_cons (ps_set (i := 4) scMach.nd rfl (.inl rfl) (pe_call GK hr5 (by rfl) mK kK bK .nil pass0 (pa_cons (pv 3) pa_nil)))
      (pss_cons (ps_set (i := 5) scMach.nd rfl (.inl rfl) pe_non)
      (pss_cons (ps_whileW (fall2_wf S X) (passes_of rfl) (pt_cmpR (op_neL hr.units) (pv 5) (pv 4) (nomark _))
        (pss_cons (ps_set (i := 5) scMach.nd rfl (.inl rfl) (pv 4))
        (pss_one (ps_set (i := 4) scMach.nd rfl (.inl rfl) (pe_call GK hr5 (by rfl) mK kK bK .nil pass0 (pa_cons (pe_op op_cat (pe_op op_cat (pv 3) (pv 4)) (pe_call GF hr (by rfl) mF kF bF .nil pass0 (pa_cons (pv 0) (pa_cons (pv 4) (pa_cons pe_bl pa_nil))))) pa_nil))))))
      (pss_cons (ps_if (pt_cmpR op_gt (pe_callB (lenS K) (by rfl) mLen PySem.boot_len (pa_cons (pv 4) pa_nil)) (pv 2) (nomark _)) (pss_one (ps_raise rfl (takes_of rfl rfl rfl rfl) (pmk_oex O iC tI GI hr2 bI .nil pass0 (by rfl) mC (pa_cons (pv 2) pa_nil)))) pss_nil)
      (pss_one (ps_ret (pe_callTy (tupOf K) (by rfl) mTuple (by decide +kernel) (pa_cons (pv 4) pa_nil)))))))), ?_⟩
    obtain ⟨own, aw, ew, vs, h1, h2, h3, h4⟩ := id hs
    have bl : bs.length ≤ 8 := by have := o.bl; rw [List.length_map] at this; exact this
    have bvl := h3.len
    have go : GmOk PP S X g := ⟨fun r hr => ⟨⟨(o.ru r hr).2.2.1.1, by have := (o.ru r hr).2.2.1.2; have := o.ps; omega⟩, (o.ru r hr).2.2.2.2⟩, o.rl⟩
    refine ⟨_, rfl, sa, _, _, _, rfl, rfl, SqT.of h1, atI_nat (j := 1) rfl, aw, rfl, ⟨_, SqT.of h2⟩, fun D hD => ?_⟩
    refine lcg_tup T (fun i acc H' => Ls H' dArr ((bs.take i).map cost0) acc) hD (SqT.of h2) (by rw [List.take_zero]; exact .nil) (fun i y H2 acc hi g2 ha hal r => ?_) (fun H0 bx g0 hbx hal rB => ?_)
    · obtain ⟨b, hbi, rb⟩ := h3.get_r hi
      have hil := (List.getElem?_eq_some_iff.mp hbi).1
      obtain ⟨q, t, rfl, hq, ht⟩ := rd_say (RD.mono g2.tupK _ _ rb)
      refine ⟨wp1, yesIf ?_⟩
      refine ⟨_, rfl, (by show 1 ≤ sizeLine; decide), fun u nu => ?_⟩
      have g3 : Go T N0 H2 (upd H2 u (.tup [V.int 0])) := Go.new nu
      refine ⟨q, u, _, _, rfl, rfl, SqT.of (g3.tup hq), SqT.of upd_same, (by show 4 ≤ sizeLine; decide), (fun e => by cases e), (fun _ e => by cases e), fun _ _ u2 nu2 => ?_⟩
      have g4 := g3.trans (Go.new (T := T) (B := N0) (o := .tup ([V.int b.1, V.int b.2.1, V.ref t] ++ [V.int 0])) nu2)
      refine LcI.add hD g2 ha hal (by omega) g4 ?_
      have nx : (bs.take (i + 1)).map cost0 = (bs.take i).map cost0 ++ [cost0 b] := by
        rw [List.take_add_one, hbi, List.map_append]
        rfl
      rw [nx]
      refine Ls.mono ((r.mono g4.tupK).app ?_) (tupK_upd (g4.lst ha))
      exact rd_mk_arr (q := cost0 b) upd_same (g4.tup ht)
    rw [← bvl, List.take_length] at rB
    have bxl := rB.len
    rw [List.length_map] at bxl
    generalize hB : bs.map cost0 = B at rB o kQ
    refine ⟨_, rfl, D, bx, B, S, X, rfl, SqL.of hbx, rB, o.bo, o.s5, o.x3, by have := o.bl; omega, g0.tabs hT, fun H1 p1 ys1 K1 g1 np1 hp1 hk1 ke1 => ?_⟩
    -- what holds at the loop's head
    let W : List Arr × Bool → L2.St → Hp → Prop := fun m σ H' => ∃ (pk : Addr) (ys : List V) (vb : V), σ = [some (.ref a), some (.ref sa), some (.int 200), some (.ref D), some (.ref pk), some vb, none] ∧ Go T N0 H H' ∧ H' D = some (.lst bx) ∧ Ls H' dArr B bx ∧ H' pk = some (.lst ys) ∧ Ls H' dArr m.1 ys ∧ KI PP S X g B ends m.1 ∧
      ((vb = .non ∧ m.2 = false) ∨ ∃ (pb : Addr) (zs : List V) (Kb Fb : List Arr), vb = .ref pb ∧ H' pb = some (.lst zs) ∧ Ls H' dArr Kb zs ∧ m.2 = decide (Kb = m.1) ∧ FolP g Kb (heads PP X) Fb ∧ KeptS (B ++ Kb ++ Fb) m.1)
    refine ⟨W, ⟨(K1, false), p1, ys1, .non, rfl, g0.trans g1, g1.lst hbx, rB.mono g1.tupK, hp1, hk1, KI.first o ke1, .inl ⟨rfl, rfl⟩⟩, ?_⟩
    rintro ⟨Kk, fl⟩ σ H2 ⟨pk, ys, vb, rfl, g2, hD2, rB2, hpk, hk, I, hv⟩
    have kl : Kk.length ≤ 480 := K_len I.ok o.s5 o.x3 I.srt I.anti
    have yl : Kk.length = ys.length := hk.len
    -- one turn
    refine ⟨_, rfl, _, rfl, test_ne (fl := fl) (Z := fun pb zs Kb => ∃ Fb, FolP g Kb (heads PP X) Fb ∧ KeptS (B ++ Kb ++ Fb) Kk) hpk hk ?_ (fun hfl => ⟨fun σ' H' => ∃ m', Fall2 S X m' (Kk, fl) ∧ W m' σ' H', fun _ _ z => z, ?_⟩) (fun pb zs ⟨Fb, fp, ke⟩ => ?_)⟩
    · rcases hv with ⟨rfl, hf⟩ | ⟨pb, zs, Kb, Fb, rfl, hpb, hkb, hf, fp, ke⟩
      · exact .inl ⟨rfl, hf⟩
      · exact .inr ⟨pb, zs, Kb, rfl, hpb, hkb, hf, Fb, fp, ke⟩
    · skip
      refine ⟨_, rfl, _, rfl, _, rfl, D, pk, bx, ys, rfl, rfl, hD2, hpk, sz_le (by omega), fun q1 nq1 => ?_⟩
      have g3 : Go T N0 H2 (upd H2 q1 (.lst (bx ++ ys))) := Go.new nq1
      have hq1 : upd H2 q1 (.lst (bx ++ ys)) q1 = some (.lst (bx ++ ys)) := upd_same
      generalize upd H2 q1 (.lst (bx ++ ys)) = H3 at g3 hq1
      have g03 := g2.trans g3
      refine ⟨_, rfl, _, rfl, a, pk, ys, Kk, PP, X, g, S, rfl, hg.mono g03.tupK, go, o.p3, o.x3, SqL.of (g3.lst hpk), hk.mono g3.tupK, ⟨I.ok, fun s x => afrom_len I.ok o.s5 I.srt I.anti s x, by omega, by have := o.s5; omega⟩, g03.tabs hT, fun H4 q4 zs FF g4 nq4 hq4 hk4 ⟨fp, fo, fl4⟩ => ?_⟩
      have zl := hk4.len
      refine ⟨q1, q4, _, zs, rfl, rfl, g4.lst hq1, hq4, sz_le (by rw [List.length_append]; omega), fun q5 nq5 => ?_⟩
      have g5 : Go T N0 H4 (upd H4 q5 (.lst (bx ++ ys ++ zs))) := Go.new nq5
      have g25 := (g3.trans g4).trans g5
      have okA : ∀ x ∈ B ++ Kk ++ FF, OkA S X x := fun x hx => by
        rcases List.mem_append.mp hx with hx | hx
        · rcases List.mem_append.mp hx with hx | hx
          · exact o.bo x hx
          · exact I.ok x hx
        · have h2 := mem_heads.mp (fp.snd x hx).1
          have := o.ps
          exact ⟨by omega, h2.2, (fo x hx).1, (fo x hx).2⟩
      refine ⟨q5, _, B ++ Kk ++ FF, S, X, rfl, SqL.of upd_same, F2.app (F2.app (rB2.mono g25.tupK) (hk.mono g25.tupK)) (hk4.mono g5.tupK), okA, o.s5, o.x3, ?_, (g2.trans g25).tabs hT, fun H6 q6 us K' g6 nq6 hq6 hk6 ke => ?_⟩
      · rw [List.length_append, List.length_append]
        have := o.bl
        omega
      have g26 := g25.trans g6
      have I' := I.next o fp fo ke
      refine ⟨(K', decide (Kk = K')), ?_, q6, us, .ref pk, rfl, g2.trans g26, g26.lst hD2, rB2.mono g26.tupK, hq6, hk6, I', .inr ⟨pk, ys, Kk, FF, rfl, g26.lst hpk, hk.mono g26.tupK, rfl, fp, ke⟩⟩
      by_cases e : Kk = K'
      · exact .inr ⟨e.symm, decide_eq_true e, hfl⟩
      · exact .inl (I.fall o I' ke fun z => e z.symm)
    · -- behind the loop
      have M : Mach PP S X g B ends Kk := I.mach fp ke
      refine ⟨_, rfl, pk, ys, rfl, .inl (SqL.of hpk), _, rfl, _, _, rfl, rfl, _, rfl, ?_⟩
      refine ite2 (fun c => ?_) (fun c => ?_)
      · refine ⟨_, rfl, (by show 1 ≤ 1000; decide), fun e ne => ?_⟩
        refine ⟨e, 200, rfl, upd_same, fun dx ndx nde => ?_⟩
        rw [upd_ne nde] at ndx
        refine ⟨rfl, dx, [("most", .int 200)], upd_same, by rw [upd_ne nde, upd_same], ndx, kE _ dx (g2.trans (.same fun b u hb => ?_))⟩
        have n1 : b ≠ e := ne_of_none hb ne
        have n2 : b ≠ dx := ne_of_none hb ndx
        rw [upd_ne n2, del_ne n1, upd_ne n1, upd_ne n2, upd_ne n1]
        exact hb
      · exact ⟨_, rfl, pk, ys, rfl, .inl ⟨SqL.of hpk, fun l nl => kQ _ l ys Kk (g2.add nl) upd_same (hk.mono (tupK_new nl)) M⟩⟩
end
end K27
end

section
set_option Elab.async false
set_option linter.all false
set_option maxRecDepth 100000
set_option maxHeartbeats 4000000
/-! K28a: list(reversed(a list)). -/
namespace K27
open PySem PySem.Spec PyProof.Rows L2
section
variable {prog : Program} {w : World} {A : Around} {E : Value → Shared → Prop} {s : Shared} {R : Result → Shared → Prop}
theorem ext_rev {S it l : Addr} {items : Array Value} {c : Nat} {res : Value} (hh : A.handled = none) (hit : s.heap.IsRevIter it l ((items.size : Int) - 1)) (hl : s.heap.IsList l items) (hne : l ≠ it) (hSi : S ≠ it) (hSl : S ≠ l) (hn : items.size ≤ sizeLine)
    (hS : s.heap.get? S = some { cls := .type "list", data := .seq #[] c })
    (hR : ∀ s' acc' c', Moved [S, it] (fun a b => b = a) s s' → s'.heap.get? S = some { cls := .type "list", dict := none, data := .seq acc' c', slots := #[] } → ItemsOf (fun i v => items[items.size - 1 - i]? = some v) acc' items.size → R (.ok (.ret res)) s') :
    wpAny (model prog w) A.in1 (Builtin.List.listExtendWith (.ref S) (.ref it) res) (fun fin s' => match fin with
      | .done f => R (.ok f) s'
      | .again c' => c'.quiet = true ∧ codeAny (model prog w) A c' R s') (fun e s' => R (.error e) s') s := by
  have W := (Walks.listRev (prog := prog) (w := w) (A := A.in1) hh it l hne items).toS
  have hSf : S ∉ [it, l] := by simp [hSi, hSl]
  unfold Builtin.List.listExtendWith
  refine wpAny_bind (wpAny_typeOf hit.typeIs ?_)
  have h1 : Builtin.List.listSameRef (.ref S) (.ref it) = false := by simp [Builtin.List.listSameRef, hSi]
  rw [if_neg (by rw [h1]; decide)]
  refine wpAny_bind (wpAny_pyIter_revIter hit ?_)
  refine wpAny_bind (wpAny_holding ?_)
  unfold Builtin.List.listLengthHint
  refine wpAny_bind (wpAny_specialOf hit.typeIs RT.nolen_lri ?_)
  show wpAny _ A.in1 (specialOf (Value.ref it) (Str.ofString "__length_hint__") >>= _) _ _ s
  refine wpAny_bind (wpAny_specialOf hit.typeIs RT.hint_lri ?_)
  generalize hid : ("list_reverseiterator.__length_hint__" : String) = id0
  wp_delta
  rw [show splitId id0 = some ("list_reverseiterator", "__length_hint__") from by subst hid; decide +kernel]
  subst hid
  refine wpAny_bind (wpAny_isInstance (b := true) hit.typeIs (by rw [isSubtype_type]; kernel_rfl) ?_)
  refine wpAny_pure ?_
  rw [if_neg (by decide)]
  have e0 : ((items.size : Nat) : Int) - 1 - ((0 : Nat) : Int) = (items.size : Int) - 1 := by omega
  refine wpAny_pure ⟨plainId_quiet F.plain_extend_loop _, codeAny_extend_loopS W hn _ hSf _ items.size 0 _ _ _ rfl (Nat.zero_le _) ⟨Nat.zero_le _, by rw [e0]; exact hit, hl⟩ hS (ItemsOf.nil _) fun s' acc' c' hm hS' hacc => hR s' acc' c' hm hS' hacc⟩
theorem init_rev {S it l : Addr} {items : Array Value} (hh : A.handled = none) (hit : s.heap.IsRevIter it l ((items.size : Int) - 1)) (hl : s.heap.IsList l items) (hne : l ≠ it) (hSi : S ≠ it) (hSl : S ≠ l) (hn : items.size ≤ sizeLine)
    (hS : s.heap.get? S = some { cls := .type "list", data := .seq #[] })
    (hR : ∀ s' acc' c', Moved [S, it] (fun a b => b = a) s s' → s'.heap.get? S = some { cls := .type "list", dict := none, data := .seq acc' c', slots := #[] } → ItemsOf (fun i v => items[items.size - 1 - i]? = some v) acc' items.size → R (.ok (.ret .none)) s') :
    wpAny (model prog w) A.in1 (Builtin.«list.__init__» ⟨[.ref S, .ref it], []⟩) (fun fin s' => match fin with
      | .done f => R (.ok f) s'
      | .again c' => c'.quiet = true ∧ codeAny (model prog w) A c' R s') (fun e s' => R (.error e) s') s := by
  show wpAny _ A.in1 (do let old ← Builtin.List.listItems (.ref S); Builtin.List.listUpdate (.ref S) (fun _ => #[]); letGo old.toList.reverse; Builtin.List.listExtendWith (.ref S) (.ref it) .none) _ _ s
  refine wpAny_bind ?_
  unfold Builtin.List.listItems
  refine wpAny_bind (wpAny_seqItems hS rfl (wpAny_pure ?_))
  show wpAny _ A.in1 (updateSeq S (fun _ => #[]) >>= fun _ => letGo (#[] : Array Value).toList.reverse >>= fun _ => Builtin.List.listExtendWith (.ref S) (.ref it) .none) _ _ s
  refine wpAny_bind (wpAny_updateSeq hS rfl (wpAny_bind (wpAny_letGo ?_)))
  have hS2 := Heap.get?_update_self (Obj.mapSeq (fun _ => (#[] : Array Value))) hS rfl
  have oth : ∀ b o, b ≠ S → s.heap.get? b = some o → (s.heap.update S (Obj.mapSeq (fun _ => (#[] : Array Value)))).get? b = some o := fun b o hb e => (Heap.get?_update_other _ _ (Ne.symm hb)).trans e
  refine ext_rev (s := { s with heap := s.heap.update S (Obj.mapSeq fun _ => (#[] : Array Value)) }) hh (hit.at fun o e => oth _ _ (Ne.symm hSi) e) (hl.at fun o e => oth _ _ (Ne.symm hSl) e) hne hSi hSl hn hS2 fun s' acc' c' hm hS' hacc => hR s' acc' c' ?_ hS' hacc
  exact ⟨fun b o hb e => hm.heap b o hb (oth b o (fun z => hb (by simp [z])) e), hm.gens, hm.drawn, hm.os, hm.toks⟩
theorem call_list_rev {it l : Addr} {items : Array Value} {Q : Value → Shared → Prop} (hh : A.handled = none) (hit : s.heap.IsRevIter it l ((items.size : Int) - 1)) (hl : s.heap.IsList l items) (hne : l ≠ it) (hn : items.size ≤ sizeLine)
    (hQ : ∀ (h' : Heap) (tk : Nat) (acc : Array Value) (c : Nat), (∀ b o, b ≠ it → s.heap.get? b = some o → h'.get? b = some o) → h'.get? s.heap.objs.size = some (seqObj "list" acc c) → ItemsOf (fun i v => items[items.size - 1 - i]? = some v) acc items.size → Q (.ref s.heap.objs.size) { s with heap := h', toks := tk }) :
    wpAny (model prog w) A (call (.type "list") [.ref it]) Q E s := by
  have n1 : s.heap.objs.size ≠ it := by
    obtain ⟨_, h, _⟩ := id hit
    exact Nat.ne_of_gt (Heap.lt_size h)
  have n2 : s.heap.objs.size ≠ l := by
    obtain ⟨_, h, _⟩ := id hl
    exact Nat.ne_of_gt (Heap.lt_size h)
  refine callType_codes (Q₁ := fun obj s1 => obj = .ref s.heap.objs.size ∧ s1 = { s with heap := s.heap.push { cls := .type "list", data := .seq #[] } }) F.called_list (F.typeCall_list_1 _) F.entry_list_init (code_list_new _ ⟨rfl, rfl⟩) fun obj s1 h1 => ?_
  obtain ⟨rfl, rfl⟩ := h1
  have hS : (s.heap.push { cls := .type "list", data := .seq #[] }).get? s.heap.objs.size = some { cls := .type "list", data := .seq #[] } := Heap.get?_push_size _ rfl
  refine ⟨⟨_, hS, rfl⟩, F.args_list_init_2 _ _, init_rev (s := { s with heap := s.heap.push { cls := .type "list", data := .seq #[] } }) hh (hit.at fun o e => Heap.get?_push_of_some _ e) (hl.push _) hne n1 n2 hn hS fun s' acc' c' hm hS' hacc => ⟨rfl, ?_⟩⟩
  rw [Moved.eq_with hm]
  refine hQ s'.heap s'.toks acc' c' (fun b o hb e => hm.heap b o (fun hmem => ?_) (Heap.get?_push_of_some _ e)) hS' hacc
  rcases List.mem_cons.mp hmem with e' | hmem
  · exact absurd (Heap.lt_size e) (by rw [e']; exact Nat.lt_irrefl _)
  · exact hb (List.mem_singleton.mp hmem)
end
section
variable {X : Cx}
def tLstRev (K : PySem.W.Frag) (te : TE) : TE := fun σ H Q => te σ H fun x H1 => ∃ a xs, x = .ref a ∧ SqL K H1 a xs ∧ ∀ p, H1 p = none → Q (.ref p) (upd H1 p (.lst xs.reverse))
theorem pe_lstRev {e : Expr} {te : TE} {p p2 pos pos2 : Pos} (hc : X.calm = true) (hg : Gl X "list") (hm : X.mg "list" = none) (hg2 : Gl X "reversed") (hm2 : X.mg "reversed" = none) (he : PE X e te)
    (hs : starEach [e] X.env = (false, eval e X.env) :: starEach [] X.env := by rfl)
    (hs2 : starEach [.Call (.Name "reversed" p2) [e] [] pos2] X.env = (false, eval (.Call (.Name "reversed" p2) [e] [] pos2) X.env) :: starEach [] X.env := by rfl) :
    PE X (.Call (.Name "list" p) [.Call (.Name "reversed" p2) [e] [] pos2] [] pos) (tLstRev X.K te) := by
  refine ⟨fun pins s σ H Q I h => Call_ (ld_blt I hg hm boot_list (PyProof.Rows.callWith_type1 (args_cons (Call_ (ld_blt I hg2 hm2 PyProof.Rows.boot_reversed (PyProof.Rows.callWith_type1 (args_cons (thn (he.run pins s σ H _ I h) fun u s1 ⟨v, H1, I1, r1, q1⟩ => args_nil ?_) hs) hs rfl))) hs2) hs2 rfl))⟩
  obtain ⟨a, xs, rfl, hq, q⟩ := q1
  obtain rfl : u = Value.ref a := r1
  obtain ⟨its, rv, p', hz⟩ := I1.list hq
  refine call_reversed_list p'.isList (args_nil ?_)
  have I2 : Inv X pins σ H1 { s1 with heap := s1.heap.push (revObj a ((its.toArray.size : Int) - 1)) } := I1.kept (t' := s1.toks) fun b o e => Heap.get?_push_of_some _ e
  have hl := p'.isList
  have hne : a ≠ s1.heap.objs.size := by
    obtain ⟨_, h, _⟩ := id hl
    exact Nat.ne_of_lt (Heap.lt_size h)
  have hn : its.toArray.size ≤ sizeLine := by rw [List.size_toArray, ← rv.length]; exact hz
  have sz2 : (s1.heap.push (revObj a ((its.toArray.size : Int) - 1))).objs.size = s1.heap.objs.size + 1 := size_push' _ _
  refine call_list_rev (s := { s1 with heap := s1.heap.push (revObj a ((its.toArray.size : Int) - 1)) }) (I1.ok.hd hc) ⟨_, Heap.get?_push_size _ rfl, rfl, rfl⟩ (hl.push _) hne hn fun h' tk acc c hk ho hi => ?_
  have hfr : H1 (s1.heap.objs.size + 1) = none := I1.hok.fresh (Nat.le_succ _)
  rw [show ({ s1 with heap := s1.heap.push (revObj a ((its.toArray.size : Int) - 1)) } : Shared).heap.objs.size = s1.heap.objs.size + 1 from sz2] at ho ⊢
  refine ⟨.ref (s1.heap.objs.size + 1), upd H1 (s1.heap.objs.size + 1) (.lst xs.reverse), I1.laid (t' := tk) (h' := h') (fun b o e => hk b o (Nat.ne_of_lt (Heap.lt_size e)) (Heap.get?_push_of_some _ e)) (Nat.le_succ _) ⟨by rw [List.length_reverse]; exact hz, acc.toList, c, RT.vals_rev rv hi, ?_⟩, rfl, q _ hfr⟩
  rw [Array.toArray_toList]
  exact ho
end
end K27
end

section
set_option Elab.async false
set_option linter.all false
set_option maxRecDepth 100000
set_option maxHeartbeats 4000000
/-! K28b: what the draws are made of; one draw. -/
namespace K27
open PySem PySem.Spec PyProof.Rows L2
abbrev kSeed : Key := Sum.inr (Str.ofString "seed")
abbrev kNumber : Key := Sum.inr (Str.ofString "number")
abbrev kLeft : Key := Sum.inr (Str.ofString "left")
theorem k1 : ¬ kSeed = kNumber := by decide +kernel
theorem k2 : ¬ kLeft = kNumber := by decide +kernel
theorem k3 : ¬ kNumber = kSeed := by decide +kernel
theorem k4 : ¬ kLeft = kSeed := by decide +kernel
structure DealIs (H : Hp) (d l : Addr) (kvs : List (Key × V)) (s n : Int) (left : List Int) : Prop where
  hd : H d = some (.dK kvs)
  es : valV kvs kSeed = some (.int s)
  en : valV kvs kNumber = some (.int n)
  el : valV kvs kLeft = some (.ref l)
  hl : H l = some (.lst (left.map V.int))
  s0 : 0 ≤ s ∧ s < 2147483647
  n0 : 0 ≤ n
  l0 : ∀ c ∈ left, 0 ≤ c
  few : kvs.length ≤ 100
def DealAt (H : Hp) (d l : Addr) : Prop := ∃ kvs s n left, DealIs H d l kvs s n left
/-- all but the draws' own two objects (and the tables) is kept -/
structure Gd (T : Tb) (d l : Addr) (H H' : Hp) : Prop where
  go : Go T (fun b => b = d ∨ b = l) H H'
  tup : TupK H H'
section
variable {T : Tb} {d l : Addr} {H H1 H2 H' : Hp}
theorem Gd.refl (H : Hp) : Gd T d l H H := ⟨Go.refl H, TupK.refl H⟩
theorem Gd.trans (h : Gd T d l H H1) (k : Gd T d l H1 H2) : Gd T d l H H2 := ⟨h.go.trans k.go, h.tup.trans k.tup⟩
theorem Gd.of (g : Go T N0 H H1) : Gd T d l H H1 := ⟨g.wide, g.tupK⟩
theorem Gd.put {kvs kvs' : List (Key × V)} (h : H d = some (.dK kvs)) : Gd T d l H (upd H d (.dK kvs')) := by
  refine ⟨(Go.refl H).put (.inl rfl) h (fun ps z => by cases z) (fun q z => by unfold LamX.CodeO at z; cases z), fun a xs e => ?_⟩
  rw [upd_ne (fun z => by rw [z, h] at e; cases e)]
  exact e
theorem Gd.lst {xs ys : List V} (h : H l = some (.lst xs)) : Gd T d l H (upd H l (.lst ys)) :=
  ⟨(Go.refl H).put (.inr rfl) h (fun ps z => by cases z) (fun q z => by unfold LamX.CodeO at z; cases z), tupK_upd h⟩
theorem Gd.tabs (g : Gd T d l H H1) (t : LamX.Tabs T H) : LamX.Tabs T H1 := g.go.tabs t
theorem Gd.keep {p : Addr} {xs : List V} (g : Gd T d l H H1) (h : H p = some (.lst xs)) (n1 : p ≠ d) (n2 : p ≠ l) : H1 p = some (.lst xs) := g.go.kept p _ h (fun z => z.elim n1 n2) fun ps z => by cases z
theorem DealAt.ne (h : DealAt H d l) : d ≠ l := by
  obtain ⟨kvs, s, n, left, I⟩ := h
  intro z
  have a := I.hd
  rw [z, I.hl] at a
  cases a
theorem DealAt.of {H' : Hp} (h : DealAt H d l) (g : Go T N0 H H') : DealAt H' d l := by
  obtain ⟨kvs, s, n, left, I⟩ := h
  exact ⟨kvs, s, n, left, g.kept d _ I.hd (fun z => z) (fun ps z => by cases z), I.es, I.en, I.el, g.lst I.hl, I.s0, I.n0, I.l0, I.few⟩
theorem DealAt.upd {p : Addr} {o : HO} (h : DealAt H d l) (n1 : p ≠ d) (n2 : p ≠ l) : DealAt (upd H p o) d l := by
  obtain ⟨kvs, s, n, left, I⟩ := h
  exact ⟨kvs, s, n, left, by rw [upd_ne n1.symm]; exact I.hd, I.es, I.en, I.el, by rw [upd_ne n2.symm]; exact I.hl, I.s0, I.n0, I.l0, I.few⟩
theorem DealAt.nd {p : Addr} (h : DealAt H d l) (n : H p = none) : p ≠ d ∧ p ≠ l := by
  obtain ⟨kvs, s, m, left, I⟩ := h
  exact ⟨(fun z => by rw [z, I.hd] at n; cases n), (fun z => by rw [z, I.hl] at n; cases n)⟩
theorem dget_s {z : Str} {kvs : List (Key × V)} {v : V} (h : H d = some (.dK kvs)) (e : valV kvs (Sum.inr z) = some v) : DGet H d (.str z) (some v) := by
  have := DGet.k (k := Sum.inr z) h
  rw [e] at this
  exact this
theorem dput_s {z : Str} {kvs : List (Key × V)} {v : V} (h : H d = some (.dK kvs)) (hl : kvs.length ≤ 100) : DPut H d (.str z) v (upd H d (.dK (putK kvs (Sum.inr z) v))) := DPut.k (k := Sum.inr z) h (Nat.lt_of_le_of_lt hl (by decide))
theorem putK_in {kvs : List (Key × V)} {k : Key} {v u : V} (h : valV kvs k = some u) : (putK kvs k v).length = kvs.length := by
  unfold putK
  rw [valV_any, h, if_pos (by rfl), List.length_map]
/-- the number is another one -/
theorem DealIs.number {kvs : List (Key × V)} {s n m : Int} {left : List Int} (I : DealIs H d l kvs s n left) (hm : 0 ≤ m) : DealIs (L2.upd H d (.dK (putK kvs kNumber (.int m)))) d l (putK kvs kNumber (.int m)) s m left := by
  have ne : l ≠ d := (DealAt.ne ⟨kvs, s, n, left, I⟩).symm
  exact ⟨upd_same, by rw [valV_put, if_neg k1]; exact I.es, by rw [valV_put, if_pos rfl], by rw [valV_put, if_neg k2]; exact I.el, by rw [upd_ne ne]; exact I.hl, I.s0, hm, I.l0, by rw [putK_in I.en]; exact I.few⟩
theorem DealIs.seed {kvs : List (Key × V)} {s n m : Int} {left : List Int} (I : DealIs H d l kvs s n left) (hm : 0 ≤ m ∧ m < 2147483647) : DealIs (L2.upd H d (.dK (putK kvs kSeed (.int m)))) d l (putK kvs kSeed (.int m)) m n left := by
  have ne : l ≠ d := (DealAt.ne ⟨kvs, s, n, left, I⟩).symm
  exact ⟨upd_same, by rw [valV_put, if_pos rfl], by rw [valV_put, if_neg k3]; exact I.en, by rw [valV_put, if_neg k4]; exact I.el, by rw [upd_ne ne]; exact I.hl, hm, I.n0, I.l0, by rw [putK_in I.es]; exact I.few⟩
end
section
variable {P : Program} {w : World} {K : PySem.W.Frag} {mg : Str → Option Value} {base : Heap} {T : Tb}
theorem scDraw : FnScope ["_law_deal_here", "_law_many", "_law_number", "_law_one", "_law_other"] ["_law_deal_here", "_law_many"] (defScope sDraw) := ⟨rfl, rfl, rfl, by decide +kernel, rfl, by decide +kernel, by decide +kernel⟩
def spDraw (T : Tb) : Sp := fun vs H Q _ => ∃ (d l : Addr) (many : Int), vs = [.ref d, .int many] ∧ DealAt H d l ∧ 1 ≤ many ∧ many ≤ 1000 ∧ ∀ (H' : Hp) (r : Int), Gd T d l H H' → DealAt H' d l → 0 ≤ r → r < many → Q (.int r) H'
theorem ok_draw {f : Addr} {fd : FuncData} (F : Fun K "_law_draw" "_law_draw" sDraw f fd) (mLen : mg "len" = none) : FnOk P w K mg base CX0 1 f fd ["_law_deal_here", "_law_many"] (spDraw T) := by
  refine F.ok scDraw (fun vs H Q E h => ?_) (fun cdv A outer s H vs Q E hr h => ?_)
  · obtain ⟨d, l, many, rfl, _⟩ := h
    rfl
  · obtain ⟨d, l, many, rfl, dl, m1, m2, k⟩ := h
    have hu := hu_of hr
    refine ⟨_, C8.pss_cut (ps_while PassesOwn.never (PW.pt (pw_and (pt_cmpR op_eq (pe_dget hu (pv 0) pe_str (fun _ _ => rfl)) pe_int (nomark _)) (pw_and1 (pt_cmpR op_gt (pe_callB (lenS K) (by rfl) mLen PySem.boot_len (pa_cons (pe_dget hu (pv 0) pe_str (fun _ _ => rfl)) pa_nil)) pe_int (nomark _)))))
        (pss_one (ps_dput hu (pv 0) pe_str (pe_bm0 PySem.F.plainAttrs_list PySem.F.slot_list_pop PySem.F.type_list_pop mt_pop (pe_dget hu (pv 0) pe_str (fun _ _ => rfl))) rfl)))
      (pss_cons (ps_set (i := 2) scDraw.nd rfl (.inl rfl) (pe_dget hu (pv 0) pe_str (fun _ _ => rfl)))
      (pss_cons (ps_if (pt_cmpR op_gt (pv 2) pe_int (nomark _)) (pss_cons (ps_dput hu (pv 0) pe_str (pe_op op_fdiv (pv 2) (pv 1)) rfl) (pss_one (ps_ret (pe_op op_mod (pv 2) (pv 1))))) pss_nil)
      (pss_cons (ps_set (i := 3) scDraw.nd rfl (.inl rfl) (pe_op op_mod (pe_op op_add (pe_op op_mul (pe_dget hu (pv 0) pe_str (fun _ _ => rfl)) pe_int) pe_int) pe_int))
      (pss_cons (ps_dput hu (pv 0) pe_str (pe_op op_mod (pe_op op_add (pe_op op_mul (pv 3) pe_int) pe_int) pe_int) rfl)
      (pss_cons (ps_set (i := 4) scDraw.nd rfl (.inl rfl) (pe_op op_mod (pe_op op_mul (pe_dget hu (pv 0) pe_str (fun _ _ => rfl)) (pe_dget hu (pv 0) pe_str (fun _ _ => rfl))) pe_int))
      (pss_one (ps_ret (pe_op op_mod (pe_op op_add (pe_op op_mul (pe_op op_mod (pe_op op_mul (pv 3) (pv 3)) pe_int) pe_int) (pv 4)) (pv 1))))))))), ?_⟩
    obtain ⟨kvs, sd, n, left, I⟩ := dl
    refine ⟨fun σ H' => σ = [some (.ref d), some (.int many), none, none, none] ∧ Gd T d l H H' ∧ ∃ kvs s n left, DealIs H' d l kvs s n left, ?_, ?_⟩
    · refine ⟨fun m σ H' => ∃ kvs s n left, σ = [some (.ref d), some (.int many), none, none, none] ∧ Gd T d l H H' ∧ DealIs H' d l kvs s n left ∧ m = left.length, ⟨_, kvs, sd, n, left, rfl, Gd.refl H, I, rfl⟩, ?_⟩
      rintro m σ H1 ⟨kvs1, s1, n1, left1, rfl, g1, I1, rfl⟩
      refine ⟨_, rfl, d, _, rfl, dget_s I1.hd I1.en, rfl, _, rfl, ?_⟩
      rw [dec_i]
      refine ite2 (fun c => ?_) (fun c => ?_)
      · refine ⟨_, rfl, d, _, rfl, dget_s I1.hd I1.el, l, _, rfl, .inl (SqL.of I1.hl), _, _, rfl, rfl, _, rfl, ?_⟩
        rw [List.length_map]
        refine ite2 (fun c2 => ?_) (fun c2 => ?_)
        · have c2 : (0 : Int) < (left1.length : Int) := of_decide_eq_true c2
          obtain ⟨ini, x, e⟩ : ∃ ini x, left1 = ini ++ [x] := ⟨left1.dropLast, left1.getLast (by intro z; rw [z] at c2; simp at c2), (List.dropLast_concat_getLast _).symm⟩
          subst e
          refine ⟨fun σ' H' => ∃ kvs s n, σ' = [some (.ref d), some (.int many), none, none, none] ∧ Gd T d l H H' ∧ DealIs H' d l kvs s n ini, fun σ' H' ⟨kvs, s, n, e, g, I⟩ => ⟨ini.length, by rw [List.length_append]; exact Nat.lt_succ_self _, kvs, s, n, ini, e, g, I, rfl⟩, ?_⟩
          refine ⟨_, rfl, d, _, rfl, dget_s I1.hd I1.el, .inl ⟨rfl, _, SqL.of I1.hl⟩, l, _, .int x, rfl, rfl, I1.hl, by simp, ?_⟩
          have ne := (DealAt.ne ⟨_, _, _, _, I1⟩)
          have I2 : DealIs (upd H1 l (.lst (ini.map V.int))) d l kvs1 s1 n1 ini := ⟨by rw [upd_ne ne]; exact I1.hd, I1.es, I1.en, I1.el, upd_same, I1.s0, I1.n0, fun c hc => I1.l0 c (List.mem_append_left _ hc), I1.few⟩
          have eD : ((ini ++ [x]).map V.int).dropLast = ini.map V.int := by rw [List.map_append]; simp
          rw [eD]
          refine ⟨_, rfl, d, _, rfl, dput_s I2.hd I2.few, ?_⟩
          exact ⟨_, _, _, rfl, (g1.trans (Gd.lst I1.hl)).trans (Gd.put I2.hd), I2.number (I1.l0 x (List.mem_append_right _ List.mem_cons_self))⟩
        · exact ⟨rfl, g1, _, _, _, _, I1⟩
      · exact ⟨rfl, g1, _, _, _, _, I1⟩
    · rintro σ H1 ⟨rfl, g1, kvs1, s1, n1, left1, I1⟩
      refine ⟨_, rfl, d, _, rfl, dget_s I1.hd I1.en, ?_⟩
      refine ⟨_, rfl, _, _, rfl, rfl, _, rfl, ?_⟩
      refine ite2 (fun c => ?_) (fun c => ?_)
      · refine ⟨_, rfl, _, rfl, n1, many, rfl, rfl, ⟨by omega, by omega⟩, _, rfl, d, _, rfl, dput_s I1.hd I1.few, ?_⟩
        refine ⟨_, rfl, _, rfl, n1, many, rfl, rfl, (by show 0 < many; omega), ?_⟩
        exact k _ _ (g1.trans (Gd.put I1.hd)) ⟨_, _, _, _, I1.number (Int.ediv_nonneg I1.n0 (by omega))⟩ (Int.emod_nonneg _ (by omega)) (Int.emod_lt_of_pos _ (by omega))
      · have hs := I1.s0
        refine ⟨_, rfl, d, _, rfl, dget_s I1.hd I1.es, _, _, rfl, rfl, .inl ⟨by omega, by omega⟩, _, _, rfl, rfl, _, _, rfl, rfl, (by show (0 : Int) < 2147483647; decide), ?_⟩
        have o1 : 0 ≤ ((s1 * 48271 + 7919) % 2147483647) := Int.emod_nonneg _ (by decide)
        have o2 : ((s1 * 48271 + 7919) % 2147483647) < 2147483647 := Int.emod_lt_of_pos _ (by decide)
        refine ⟨_, rfl, _, _, rfl, rfl, .inl ⟨by omega, by omega⟩, _, _, rfl, rfl, _, _, rfl, rfl, (by show (0 : Int) < 2147483399; decide), _, rfl, d, _, rfl, dput_s I1.hd I1.few, ?_⟩
        have q1 : 0 ≤ ((((s1 * 48271 + 7919) % 2147483647) * 40692 + 104729) % 2147483399) := Int.emod_nonneg _ (by decide)
        have q2 : ((((s1 * 48271 + 7919) % 2147483647) * 40692 + 104729) % 2147483399) < 2147483399 := Int.emod_lt_of_pos _ (by decide)
        have I2 := I1.seed (m := ((((s1 * 48271 + 7919) % 2147483647) * 40692 + 104729) % 2147483399)) ⟨q1, by omega⟩
        have g2 := g1.trans (Gd.put (T := T) (l := l) (kvs' := putK kvs1 kSeed (.int ((((s1 * 48271 + 7919) % 2147483647) * 40692 + 104729) % 2147483399))) I1.hd)
        refine ⟨_, rfl, d, _, rfl, dget_s I2.hd I2.es, _, rfl, d, _, rfl, dget_s I2.hd I2.es, _, _, rfl, rfl, .inl ⟨by omega, by omega⟩, _, _, rfl, rfl, (by show (0 : Int) < 2147483563; decide), ?_⟩
        have r1 : 0 ≤ ((s1 * 48271 + 7919) % 2147483647) * ((s1 * 48271 + 7919) % 2147483647) % 2147483629 := Int.emod_nonneg _ (by decide)
        have r2 : ((s1 * 48271 + 7919) % 2147483647) * ((s1 * 48271 + 7919) % 2147483647) % 2147483629 < 2147483629 := Int.emod_lt_of_pos _ (by decide)
        refine ⟨_, rfl, _, rfl, _, _, rfl, rfl, .inl ⟨by omega, by omega⟩, _, _, rfl, rfl, (by show (0 : Int) < 2147483629; decide), _, _, rfl, rfl, .inl ⟨by omega, by omega⟩, _, rfl, _, _, rfl, rfl, _, rfl, _, _, rfl, rfl, (by show 0 < many; omega), ?_⟩
        exact k _ _ g2 ⟨_, _, _, _, I2⟩ (Int.emod_nonneg _ (by omega)) (Int.emod_lt_of_pos _ (by omega))
end
end K27
end

section
set_option Elab.async false
set_option linter.all false
set_option maxRecDepth 100000
set_option maxHeartbeats 4000000
/-! K28c: the deal of the draws. -/
namespace K27
open PySem PySem.Spec PyProof.Rows L2
theorem slL {X : Cx} (K : PySem.W.Frag) (h : X.K = K := by rfl) : SlR X (rSlL K) := by subst h; exact sl_list
theorem cut_all {xs : List V} (h : xs.length ≤ 63) : cutV xs (some 0) (some 63) = xs := by
  have e1 : HT.sIx xs.length 0 (some 0) = 0 := by
    have := HT.sIx_nat xs.length 0 0
    exact this.trans (Nat.zero_min _)
  have e2 : HT.sIx xs.length xs.length (some 63) = xs.length := by
    have := HT.sIx_nat xs.length xs.length 63
    exact this.trans (Nat.min_eq_right h)
  unfold cutV
  rw [e1, e2, List.drop_zero, Nat.sub_zero, List.take_length]
def absI (c : Int) : Int := if 0 - c > c then 0 - c else c
theorem absI_nn (c : Int) : 0 ≤ absI c := by unfold absI; split <;> omega
theorem putK_len (kvs : List (Key × V)) (k : Key) (v : V) : (putK kvs k v).length ≤ kvs.length + 1 := by
  unfold putK
  split
  · rw [List.length_map]; omega
  · rw [List.length_append]; exact Nat.le_refl _
section
variable {P : Program} {w : World} {K : PySem.W.Frag} {mg : Str → Option Value} {base : Heap} {T : Tb}
theorem scDeal : FnScope ["_law_script", "_law_base", "_law_cells", "_law_number", "_law_cell"] ["_law_script", "_law_base"] (defScope sDeal) := ⟨rfl, rfl, rfl, by decide +kernel, rfl, by decide +kernel, by decide +kernel⟩
def spDeal (T : Tb) (K : PySem.W.Frag) : Sp := fun vs H Q _ => ∃ (a : Addr) (ns : List Int), vs = [.ref a, .int 0] ∧ SqL K H a (ns.map V.int) ∧ ns.length ≤ 63 ∧ ∀ (H' : Hp) (d l : Addr), Go T N0 H H' → DealAt H' d l → Q (.ref d) H'
theorem ok_deal {f : Addr} {fd : FuncData} (F : Fun K "_law_deal" "_law_deal" sDeal f fd) (mMax : mg "max" = none) (mList : mg "list" = none) (mRev : mg "reversed" = none) : FnOk P w K mg base CX0 1 f fd ["_law_script", "_law_base"] (spDeal T K) := by
  refine F.ok scDeal (fun vs H Q E h => ?_) (fun cdv A outer s H vs Q E hr h => ?_)
  · obtain ⟨a, ns, rfl, _⟩ := h
    rfl
  · obtain ⟨a, ns, rfl, hS, hz, k⟩ := h
    refine ⟨_, pss_cons (ps_setLc (i := 2) (own := [("_law_cell", 4)]) (g := gName 4) (tt := tYes) rfl scDeal.nd rfl rfl (sw_true rfl rfl rfl (by decide +kernel)) (pi_list (pe_slice (slL K) (pv 0) (po_some (pv 1)) (po_some pe_int)))
        (blkOk_by (N := ["_law_script", "_law_base", "_law_cells", "_law_number", "_law_cell"]) (sc := defScope sDeal) (by decide +kernel)) (fun _ _ _ _ _ => pg_name (i := 4) scDeal.nd rfl (Or.inl rfl)) (fun _ _ _ _ _ => pts_nil)
        (fun _ _ _ _ _ => pe_callB (call_max2 rfl) (by rfl) mMax (by decide +kernel) (pa_cons (pv 4) (pa_cons (pe_op op_sub pe_int (pv 4)) pa_nil))))
      (pss_cons (ps_set (i := 3) scDeal.nd rfl (.inl rfl) (pe_op op_add pe_int (pv 1)))
      (pss_cons (ps_for PassesOwn.never rfl (pi_list (pv 2)) (pg_name (i := 4) scDeal.nd rfl (Or.inl rfl)) (pss_one (ps_set (i := 3) scDeal.nd rfl (.inl rfl) (pe_op op_mod (pe_op op_add (pe_op op_mul (pv 3) pe_int) (pe_op op_mod (pv 4) pe_int)) pe_int))))
      (pss_one (ps_ret (pe_disp (pps_cons pe_str (pv 3) (pps_cons pe_str pe_int (pps_cons pe_str (pe_lstRev rfl (by rfl) mList (by rfl) mRev
        (pe_lc (own := [("_law_cell", 4)]) (g := gName 4) rfl scDeal.nd (pi_list (pv 2)) (blkOk_by (N := ["_law_script", "_law_base", "_law_cells", "_law_number", "_law_cell"]) (sc := defScope sDeal) (by decide +kernel)) (fun _ _ _ _ _ => pg_name (i := 4) scDeal.nd rfl (Or.inl rfl))
          (fun _ _ _ _ _ => pts_one (pt_cmpR op_ge (pv 4) (pe_op op_pow pe_int pe_int) (nomark _))) (fun _ _ _ _ _ => pv 4))) pps_nil))) (by rfl) (by rfl) (fun z => by cases z) (by decide)))))), ?_⟩
    refine ⟨_, rfl, _, rfl, _, rfl, 63, rfl, a, _, rfl, hS, fun p np => ?_⟩
    rw [cut_all (by rw [List.length_map]; exact hz)]
    have g0 : Go T N0 H (upd H p (.lst (ns.map V.int))) := Go.new np
    refine ⟨p, rfl, ⟨_, SqL.of upd_same⟩, fun D hD => ?_⟩
    refine lcg_list T (fun i acc H' => acc = (ns.take i).map fun c => V.int (absI c)) hD (SqL.of upd_same) (by rw [List.take_zero]; rfl) (fun i y H2 acc hi g2 ha hal r => ?_) (fun H2 acc g2 ha hal r => ?_)
    · rw [List.getElem?_map] at hi
      obtain ⟨c, hc, rfl⟩ := Option.map_eq_some_iff.mp hi
      have hil := (List.getElem?_eq_some_iff.mp hc).1
      refine ⟨wp1, yesIf ?_⟩
      refine ⟨_, rfl, _, rfl, 0, c, rfl, rfl, c, 0 - c, rfl, ?_⟩
      refine LcI.add hD g2 ha hal (by omega) (Go.refl _) ?_
      rw [r, List.take_add_one, hc, List.map_append]
      rfl
    rw [List.length_map, List.take_length] at r
    obtain ⟨cs, ecs, cs0, csl⟩ : ∃ cs : List Int, acc = cs.map V.int ∧ (∀ c ∈ cs, 0 ≤ c) ∧ cs.length ≤ 63 := ⟨ns.map absI, by rw [r, List.map_map]; rfl, fun c hc => by
      obtain ⟨x, _, e⟩ := List.mem_map.mp hc
      rw [← e]
      exact absI_nn x, by rw [List.length_map]; exact hz⟩
    subst ecs
    have g02 := g0.trans g2
    refine ⟨_, rfl, 7919, 0, rfl, rfl, ?_⟩
    refine ⟨_, rfl, D, rfl, ⟨_, SqL.of ha⟩, for_list (K := K) (a := D) (xs := cs.map V.int) (fun i σ H' => ∃ (n : Int) (v : Option V), σ = [some (.ref a), some (.int 0), some (.ref D), some (.int n), v] ∧ H' = H2 ∧ 0 ≤ n ∧ n < 2147483647)
      ⟨7919 + 0, none, rfl, rfl, by decide, by decide⟩ (fun i σ H' _ ⟨_, _, _, e, _⟩ => by rw [e]; exact SqL.of ha) ?_ ?_⟩
    · rintro i y σ H' hi ⟨n, v, rfl, rfl, n0, n1⟩
      rw [List.getElem?_map] at hi
      obtain ⟨c, hc, rfl⟩ := Option.map_eq_some_iff.mp hi
      refine ⟨_, rfl, n, _, rfl, rfl, .inl ⟨by omega, by omega⟩, _, rfl, c, _, rfl, rfl, (by show (0 : Int) < 2147483629; decide), _, _, rfl, rfl, _, _, rfl, rfl, (by show (0 : Int) < 2147483647; decide), ?_⟩
      exact ⟨_, _, rfl, rfl, Int.emod_nonneg _ (by decide), Int.emod_lt_of_pos _ (by decide)⟩
    · rintro σ H' ⟨n, v, rfl, rfl, n0, n1⟩
      intro d nd
      have g3 : Go T N0 H' (upd H' d (.dK [])) := Go.new nd
      refine ⟨_, rfl, _, rfl, D, rfl, ⟨_, SqL.of (g3.lst ha)⟩, fun D2 hD2 => ?_⟩
      refine lcg_list T (fun i acc H4 => acc = ((cs.take i).filter fun c => decide ((10 : Int) ^ (18 : Int).toNat ≤ c)).map V.int) hD2 (SqL.of (g3.lst ha)) (by rw [List.take_zero]; rfl) (fun i y H4 acc hi g4 ha4 hal r => ?_) (fun H4 acc g4 ha4 hal r => ?_)
      · rw [List.getElem?_map] at hi
        obtain ⟨c, hc, rfl⟩ := Option.map_eq_some_iff.mp hi
        have hil := (List.getElem?_eq_some_iff.mp hc).1
        have nx : ((cs.take (i + 1)).filter fun c => decide ((10 : Int) ^ (18 : Int).toNat ≤ c)) = ((cs.take i).filter fun c => decide ((10 : Int) ^ (18 : Int).toNat ≤ c)) ++ if decide ((10 : Int) ^ (18 : Int).toNat ≤ c) = true then [c] else [] := by
          rw [List.take_add_one, hc, Option.toList_some, List.filter_append, List.filter_cons]
          split <;> rfl
        refine ⟨wp1, _, rfl, 10, 18, rfl, rfl, ⟨by decide, by decide, by decide⟩, _, _, rfl, rfl, _, rfl, ?_⟩
        refine ite2 (fun c1 => ?_) (fun c1 => ?_)
        · refine ⟨_, rfl, LcI.add hD2 g4 ha4 hal (by omega) (Go.refl _) ?_⟩
          rw [nx, if_pos c1, r, List.map_append]
          rfl
        · refine LcI.skip g4 ha4 hal (Go.refl _) ?_
          rw [nx, if_neg c1, List.append_nil]
          exact r
      rw [List.length_map, List.take_length] at r
      subst r
      refine ⟨D2, _, rfl, SqL.of ha4, fun l nl => ?_⟩
      have g5 := g4.trans (Go.new (T := T) (B := N0) (o := .lst ((cs.filter fun c => decide ((10 : Int) ^ (18 : Int).toNat ≤ c)).map V.int).reverse) nl)
      have hd5 := g5.kept d _ upd_same (fun z => z) (fun ps z => by cases z)
      have ndl : d ≠ l := ne_of_none (g4.kept d _ upd_same (fun z => z) (fun ps z => by cases z)) nl
      refine ⟨hd5, [(kSeed, .int n), (kNumber, .int 0), (kLeft, .ref l)], rfl, (by show 3 ≤ 15; decide), ?_⟩
      generalize hH5 : upd H4 l (.lst ((cs.filter fun c => decide ((10 : Int) ^ (18 : Int).toNat ≤ c)).map V.int).reverse) = H5 at g5 hd5 ⊢
      have hl5 : H5 l = some (.lst ((cs.filter fun c => decide ((10 : Int) ^ (18 : Int).toNat ≤ c)).reverse.map V.int)) := by rw [← hH5, upd_same, List.map_reverse]
      refine k _ d l ⟨fun b o e _ nt => ?_, fun t => tabs_upd hd5 (fun ps z => by cases z) (fun q z => by unfold LamX.CodeO at z; cases z) ((g02.trans (g3.trans g5)).tabs t)⟩ ⟨_, n, 0, (cs.filter fun c => decide ((10 : Int) ^ (18 : Int).toNat ≤ c)).reverse, upd_same, ?_, ?_, ?_, by rw [upd_ne ndl.symm]; exact hl5, ⟨n0, n1⟩, Int.le_refl _, fun c hc => ?_, ?_⟩
      · have e2 := g02.kept b o e (fun z => z) nt
        rw [upd_ne (ne_of_none e2 nd)]
        exact (g3.trans g5).kept b o e2 (fun z => z) nt
      · show valV (putK (putK (putK [] kSeed _) kNumber _) kLeft _) kSeed = _
        rw [valV_put, if_neg (fun z => k4 z.symm), valV_put, if_neg k1, valV_put, if_pos rfl]
      · show valV (putK (putK (putK [] kSeed _) kNumber _) kLeft _) kNumber = _
        rw [valV_put, if_neg (fun z => k2 z.symm), valV_put, if_pos rfl]
      · show valV (putK (putK (putK [] kSeed _) kNumber _) kLeft _) kLeft = _
        rw [valV_put, if_pos rfl]
      · exact cs0 c (List.mem_filter.mp (List.mem_reverse.mp hc)).1
      · show (putK (putK (putK ([] : List (Key × V)) kSeed (.int n)) kNumber (.int 0)) kLeft (.ref l)).length ≤ 100
        have a1 := putK_len ([] : List (Key × V)) kSeed (.int n)
        have a2 := putK_len (putK ([] : List (Key × V)) kSeed (.int n)) kNumber (.int 0)
        have a3 := putK_len (putK (putK ([] : List (Key × V)) kSeed (.int n)) kNumber (.int 0)) kLeft (.ref l)
        have a0 : ([] : List (Key × V)).length = 0 := rfl
        omega
end
end K27
end

section
set_option Elab.async false
set_option linter.all false
set_option maxRecDepth 100000
set_option maxHeartbeats 4000000
/-! K28d: comprehensions with draws; some numbers of a stretch. -/
namespace K27
open PySem PySem.Spec PyProof.Rows L2
def LcD (T : Tb) (d l : Addr) (H1 : Hp) (D : Addr) (R : Nat → List V → Hp → Prop) (i : Nat) (H : Hp) : Prop := Gd T d l H1 H ∧ DealAt H d l ∧ ∃ acc, H D = some (.lst acc) ∧ acc.length ≤ i ∧ R i acc H
section
variable {T : Tb} {d l D : Addr} {H H1 H4 : Hp} {R : Nat → List V → Hp → Prop} {i : Nat} {acc : List V} {y : V}
theorem Gd.mut {xs ys : List V} (g : Gd T d l H H1) (n : H D = none) (h : H1 D = some (.lst xs)) : Gd T d l H (upd H1 D (.lst ys)) := ⟨g.go.mut (new_of n) h, g.tup.trans (tupK_upd h)⟩
theorem LcD.start (h : H1 D = none) (dl : DealAt H1 d l) (r : R 0 [] (upd H1 D (.lst []))) : LcD T d l H1 D R 0 (upd H1 D (.lst [])) := ⟨.of (.new h), dl.upd (dl.nd h).1 (dl.nd h).2, [], upd_same, Nat.le_refl _, r⟩
theorem LcD.add (h : H1 D = none) (dl : DealAt H1 d l) (g : Gd T d l H1 H) (ha : H D = some (.lst acc)) (hl : acc.length ≤ i) (hi : i < 100000) (g4 : Gd T d l H H4) (d4 : DealAt H4 d l) (r : R (i + 1) (acc ++ [y]) (upd H4 D (.lst (acc ++ [y])))) :
    ∃ acc, H4 D = some (.lst acc) ∧ acc.length < sizeLine ∧ LcD T d l H1 D R (i + 1) (upd H4 D (.lst (acc ++ [y]))) := by
  obtain ⟨n1, n2⟩ := dl.nd h
  have h4 := g4.keep ha n1 n2
  exact ⟨acc, h4, sz_lt (by omega), (g.trans g4).mut h h4, d4.upd n1 n2, _, upd_same, by rw [List.length_append, List.length_singleton]; omega, r⟩
theorem LcD.skip (h : H1 D = none) (dl : DealAt H1 d l) (g : Gd T d l H1 H) (ha : H D = some (.lst acc)) (hl : acc.length ≤ i) (g4 : Gd T d l H H4) (d4 : DealAt H4 d l) (r : R (i + 1) acc H4) : LcD T d l H1 D R (i + 1) H4 :=
  ⟨g.trans g4, d4, acc, g4.keep ha (dl.nd h).1 (dl.nd h).2, by omega, r⟩
theorem lcd_range {lo : Int} {n : Nat} {g : TG} {tt : TT} {te : TE} {vs : List Nat} {σ : L2.St} {Qd : Hp → Prop} (T : Tb) (R : Nat → List V → Hp → Prop) (hD : H1 D = none) (dl : DealAt H1 d l) (h0 : R 0 [] (upd H1 D (.lst [])))
    (hs : ∀ i H acc, i < n → Gd T d l H1 H → DealAt H d l → H D = some (.lst acc) → acc.length ≤ i → R i acc H → g (.int (lo + i)) (wipe σ vs) H fun σ2 H2 => wipe σ2 vs = wipe σ vs ∧ tt σ2 H2 fun b H3 =>
      if b = true then te σ2 H3 fun y H4 => ∃ acc, H4 D = some (.lst acc) ∧ acc.length < sizeLine ∧ LcD T d l H1 D R (i + 1) (upd H4 D (.lst (acc ++ [y]))) else LcD T d l H1 D R (i + 1) H3)
    (hd : ∀ H acc, Gd T d l H1 H → DealAt H d l → H D = some (.lst acc) → acc.length ≤ n → R n acc H → Qd H) :
    ∃ W : Nat → Nat → Hp → Prop, (∃ m, W 0 m (upd H1 D (.lst []))) ∧ ∀ i m H, W i m H →
      ((Itr lo n).stop i H ∧ Qd H) ∨ ((Itr lo n).go i H ∧ ∃ Nx : Hp → Prop, (∀ H', Nx H' → ∃ m', m' < m ∧ W (i + 1) m' H') ∧ ∀ x H', (Itr lo n).yld i H x H' → g x (wipe σ vs) H' fun σ2 H2 => wipe σ2 vs = wipe σ vs ∧ tt σ2 H2 fun b H3 =>
        if b = true then te σ2 H3 fun y H4 => ∃ acc, H4 D = some (.lst acc) ∧ acc.length < sizeLine ∧ Nx (upd H4 D (.lst (acc ++ [y]))) else Nx H3) :=
  lc_range (LcD T d l H1 D R) (LcD.start hD dl h0) (fun i H hi ⟨g, dd, acc, ha, hl, r⟩ => hs i H acc hi g dd ha hl r) fun H ⟨g, dd, acc, ha, hl, r⟩ => hd H acc g dd ha hl r
end
section
variable {P : Program} {w : World} {K : PySem.W.Frag} {mg : Str → Option Value} {base : Heap} {T : Tb}
theorem scSome : FnScope ["_law_deal_here", "_law_begin", "_law_end", "_law_k"] ["_law_deal_here", "_law_begin", "_law_end"] (defScope sSome) := ⟨rfl, rfl, rfl, by decide +kernel, rfl, by decide +kernel, by decide +kernel⟩
def spSome (T : Tb) : Sp := fun vs H Q _ => ∃ (d l : Addr) (lo hi : Int), vs = [.ref d, .int lo, .int hi] ∧ DealAt H d l ∧ 0 ≤ lo ∧ lo ≤ hi ∧ hi ≤ 100 ∧ ∀ (H' : Hp) (p : Addr) (ts : List Int), Gd T d l H H' → DealAt H' d l → H' p = some (.tup (ts.map V.int)) → ts.Pairwise (· < ·) → (∀ t ∈ ts, lo ≤ t ∧ t < hi) → Q (.ref p) H'
theorem ok_some {f fD : Addr} {fd fdD : FuncData} (F : Fun K "_law_some" "_law_some" sSome f fd) (GD : FnOk P w K mg base CX0 1 fD fdD ["_law_deal_here", "_law_many"] (spDraw T)) (kD : PySem.W.keepIn K (.ref fD) = true) (bD : Binds K fdD ["_law_deal_here", "_law_many"] []) (mD : mg "_law_draw" = some (.ref fD))
    (mTuple : mg "tuple" = none) (mRange : mg "range" = none) : FnOk P w K mg base CX0 2 f fd ["_law_deal_here", "_law_begin", "_law_end"] (spSome T) := by
  refine F.ok scSome (fun vs H Q E h => ?_) (fun cdv A outer s H vs Q E hr h => ?_)
  · obtain ⟨d, l, lo, hi, rfl, _⟩ := h
    rfl
  · obtain ⟨d, l, lo, hi, rfl, dl, l0, l1, l2, k⟩ := h
    refine ⟨_, pss_one (ps_ret (pe_callTy (tupOf K) (by rfl) mTuple (by decide +kernel) (pa_cons (pe_lc (own := [("_law_k", 3)]) (g := gName 3) rfl scSome.nd (pi_range2 (by rfl) mRange (pa_cons (pv 1) (pa_cons (pv 2) pa_nil))) (blkOk_by (N := ["_law_deal_here", "_law_begin", "_law_end", "_law_k"]) (sc := defScope sSome) (by decide +kernel)) (fun _ _ _ _ _ => pg_name (i := 3) scSome.nd rfl (Or.inl rfl))
      (fun _ _ _ _ _ => pts_one (pt_cmpR op_eq (pe_call GD hr (by rfl) mD kD bD .nil pass0 (pa_cons (pv 0) (pa_cons pe_int pa_nil))) pe_int (nomark _))) (fun _ _ _ _ _ => pv 3)) pa_nil))), ?_⟩
    refine ⟨_, rfl, _, rfl, lo, hi, rfl, ⟨by omega, by omega, by omega, by omega⟩, fun D hD => ?_⟩
    refine lcd_range (lo := lo) (n := (hi - lo).toNat) T (fun i acc _ => ∃ ts : List Int, acc = ts.map V.int ∧ ts.Pairwise (· < ·) ∧ ∀ t ∈ ts, lo ≤ t ∧ t < lo + i) hD dl ⟨[], rfl, .nil, fun _ h => by cases h⟩ (fun i H2 acc hi2 g2 d2 ha hal r => ?_) (fun H2 acc g2 d2 ha hal r => ?_)
    · obtain ⟨ts, rfl, srt, rng⟩ := r
      refine ⟨wp1, _, rfl, d, l, 2, rfl, d2, by decide, by decide, fun H3 x g3 d3 x0 x1 => ⟨rfl, _, rfl, ?_⟩⟩
      refine ite2 (fun c => ?_) (fun c => ?_)
      · refine ⟨_, rfl, LcD.add hD dl g2 ha hal (by omega) g3 d3 ⟨ts ++ [lo + i], by rw [List.map_append]; rfl, List.pairwise_append.mpr ⟨srt, List.pairwise_singleton _ _, fun a h b hb => ?_⟩, fun t ht => ?_⟩⟩
        · rw [List.mem_singleton.mp hb]
          exact (rng a h).2
        · rcases List.mem_append.mp ht with h | h
          · have := rng t h
            omega
          · rw [List.mem_singleton.mp h]
            omega
      · exact LcD.skip hD dl g2 ha hal g3 d3 ⟨ts, rfl, srt, fun t ht => by have := rng t ht; omega⟩
    · obtain ⟨ts, rfl, srt, rng⟩ := r
      refine ⟨D, _, rfl, .inl ⟨SqL.of ha, fun p np => ?_⟩⟩
      refine k _ p ts (g2.trans (.of (.new np))) (d2.of (T := T) (.new np)) upd_same srt fun t ht => ?_
      have := rng t ht
      omega
end
end K27
end

section
set_option Elab.async false
set_option linter.all false
set_option maxRecDepth 100000
set_option maxHeartbeats 4000000
/-! K28e: the names. -/
namespace K27
open PySem PySem.Spec PyProof.Rows L2
abbrev cAbc : Str := Str.ofString "abcdefghijklmnopqrstuvwxyz"
theorem abc_len : cAbc.length = 26 := by decide +kernel
theorem abc_at : ∀ s : Nat, s < 26 → cAbc.cps.toList[s]? = some (97 + s) := by decide +kernel
theorem inV_strs (z : Str) : ∀ ys : List Str, inV (.str z) (ys.map V.str) = decide (z ∈ ys)
  | [] => by simp [inV]
  | y :: ys => by
    have ih := inV_strs z ys
    unfold inV at ih ⊢
    rw [List.map_cons, List.any_cons, ih]
    have e : eqV (.str y) (.str z) = (y == z) := rfl
    rw [e]
    by_cases q : z = y
    · subst q; simp
    · have : (y == z) = false := by simpa using fun k => q k.symm
      rw [this, Bool.false_or]
      simp [List.mem_cons, q]
theorem flat_strs (l : List Str) : (l.map V.str).all flatV = true := by
  rw [List.all_map, List.all_eq_true]
  intro x _
  rfl
theorem joinL_len : ∀ ps : List (List Nat), (TL.joinL [] ps).length = (ps.map List.length).sum
  | [] => rfl
  | [p] => by simp [TL.joinL]
  | p :: q :: r => by
    have := joinL_len (q :: r)
    rw [TL.joinL, List.length_append, List.nil_append, this, List.map_cons, List.map_cons, List.sum_cons, List.sum_cons, List.map_cons, List.sum_cons]
theorem ones_sum : ∀ cs : List Nat, (cs.map fun _ => 1).sum = cs.length
  | [] => rfl
  | c :: cs => by rw [List.map_cons, List.sum_cons, ones_sum cs, List.length_cons, Nat.add_comm]
/-- single signs, joined -/
theorem join_ones (cs : List Nat) : (Txt.join (Str.ofString "") (cs.map fun c => (⟨#[c]⟩ : Str))).length = cs.length := by
  have e := SX.join_S [] (cs.map fun c => [c])
  rw [List.map_map] at e
  have e2 : Txt.join (Str.ofString "") (cs.map fun c => (⟨#[c]⟩ : Str)) = SX.S (TL.joinL [] (cs.map fun c => [c])) := e
  rw [e2]
  show (TL.joinL [] (cs.map fun c => [c])).toArray.size = _
  rw [List.size_toArray, joinL_len, List.map_map]
  exact ones_sum cs
theorem at_is {α : Type} {xs : List α} {z : Int} {j : Nat} {v : α} (e : z = (j : Int)) (h : xs[j]? = some v) : atI xs z = some v := by
  rw [e]
  exact atI_nat h
theorem pick (l : List Int) {x : Int} (h0 : 0 ≤ x) (h1 : x < l.length) : ∃ m ∈ l, atI (l.map V.int) x = some (.int m) := by
  have hx : x.toNat < l.length := by omega
  refine ⟨l[x.toNat], List.getElem_mem _, ?_⟩
  refine at_of (Int.toNat_of_nonneg h0).symm ?_
  rw [List.getElem?_map, List.getElem?_eq_getElem hx]
  rfl
def lastC (z : Str) : Option Nat := z.cps.toList.getLast?
theorem lastC_add (z : Str) (c : Nat) : lastC (z ++ (⟨#[c]⟩ : Str)) = some c := by
  show (z.cps ++ #[c]).toList.getLast? = some c
  simp
theorem len_add (x y : Str) : (x ++ y).length = x.length + y.length := by
  show (x.cps ++ y.cps).size = _
  rw [Array.size_append]
  rfl
theorem cut4 (z : Str) : (cutS z none (some 4)).length ≤ 4 := by
  unfold cutS Str.length
  rw [List.size_toArray, List.length_take, HT.sIx_none]
  have := HT.sIx_nat z.cps.size z.cps.size 4
  rw [show ((4 : Nat) : Int) = 4 from rfl] at this
  rw [this]
  omega
/-- the names that were tried -/
structure Tried (S : List Str) (word : Str) (sp : Nat) (seen : List Str) : Prop where
  nd : seen.Nodup
  sub : ∀ x ∈ seen, x ∈ S
  at0 : sp = 0 → seen = []
  len : 1 ≤ sp → seen.length + 1 = sp
  lst : 1 ≤ sp → lastC word = some (97 + (sp - 1))
  old : ∀ x ∈ seen, ∃ j, j + 1 < sp ∧ lastC x = some (97 + j)
theorem Tried.small {S : List Str} {word : Str} {sp : Nat} {seen : List Str} (t : Tried S word sp seen) : sp ≤ S.length + 1 := by
  have := nodup_len seen S t.nd t.sub
  rcases Nat.eq_zero_or_pos sp with h | h
  · omega
  · have := t.len h
    omega
theorem Tried.next {S : List Str} {word w2 : Str} {sp : Nat} {seen : List Str} (t : Tried S word sp seen) (hm : word ∈ S) (hw : lastC w2 = some (97 + sp)) : ∃ seen, Tried S w2 (sp + 1) seen := by
  rcases Nat.eq_zero_or_pos sp with h | h
  · subst h
    exact ⟨[], .nil, (fun _ h => by cases h), fun _ => rfl, fun _ => rfl, fun _ => hw, fun _ h => by cases h⟩
  · have hl := t.lst h
    refine ⟨seen ++ [word], ?_, fun x hx => ?_, fun e => by omega, fun _ => ?_, fun _ => hw, fun x hx => ?_⟩
    · refine List.nodup_append.mpr ⟨t.nd, by simp, fun a ha b hb e => ?_⟩
      rw [List.mem_singleton.mp hb] at e
      subst e
      obtain ⟨j, h1, h2⟩ := t.old a ha
      rw [hl] at h2
      have := Option.some.inj h2
      omega
    · rcases List.mem_append.mp hx with q | q
      · exact t.sub x q
      · rw [List.mem_singleton.mp q]; exact hm
    · rw [List.length_append, List.length_singleton, t.len h]
    · rcases List.mem_append.mp hx with q | q
      · obtain ⟨j, h1, h2⟩ := t.old x q
        exact ⟨j, by omega, h2⟩
      · rw [List.mem_singleton.mp q]
        exact ⟨sp - 1, by omega, hl⟩
section
variable {P : Program} {w : World} {K : PySem.W.Frag} {mg : Str → Option Value} {base : Heap} {T : Tb}
theorem scNames : FnScope ["_law_deal_here", "_law_many", "_law_letters", "_law_words", "_law_found", "_law_k", "_law_size", "_law_word", "_law_spare", "_law_j"] ["_law_deal_here", "_law_many"] (defScope sNames) := ⟨rfl, rfl, rfl, by decide +kernel, rfl, by decide +kernel, by decide +kernel⟩
def spNames (T : Tb) : Sp := fun vs H Q _ => ∃ (d l : Addr), vs = [.ref d, .int 6] ∧ DealAt H d l ∧ ∀ (H' : Hp) (p : Addr) (ws : List Str), Gd T d l H H' → DealAt H' d l → p ≠ d → p ≠ l → H' p = some (.lst (ws.map V.str)) → ws.length = 6 → Q (.ref p) H'
theorem ok_names {f fD : Addr} {fd fdD : FuncData} (F : Fun K "_law_names" "_law_names" sNames f fd) (GD : FnOk P w K mg base CX0 1 fD fdD ["_law_deal_here", "_law_many"] (spDraw T)) (kD : PySem.W.keepIn K (.ref fD) = true) (bD : Binds K fdD ["_law_deal_here", "_law_many"] []) (mD : mg "_law_draw" = some (.ref fD))
    (mRange : mg "range" = none) : FnOk P w K mg base CX0 2 f fd ["_law_deal_here", "_law_many"] (spNames T) := by
  refine F.ok scNames (fun vs H Q E h => ?_) (fun cdv A outer s H vs Q E hr h => ?_)
  · obtain ⟨d, l, rfl, _⟩ := h
    rfl
  · obtain ⟨d, l, rfl, dl, k⟩ := h
    refine ⟨_, pss_cons (ps_set (i := 2) scNames.nd rfl (.inr rfl) pe_str)
      (pss_cons (ps_set (i := 3) scNames.nd rfl (.inl rfl) (pe_lst (pa_cons pe_str (pa_cons pe_str (pa_cons pe_str (pa_cons pe_str (pa_cons pe_str (pa_cons pe_str (pa_cons pe_str (pa_cons pe_str pa_nil))))))))))
      (pss_cons (ps_set (i := 4) scNames.nd rfl (.inl rfl) (pe_lst pa_nil))
      (pss_cons (ps_for PassesOwn.never rfl (pi_range1 (by rfl) mRange (pa_cons (pv 1) pa_nil)) (pg_name (i := 5) scNames.nd rfl (Or.inl rfl))
        (pss_cons (ps_set (i := 6) scNames.nd rfl (.inl rfl) (pe_op op_add pe_int (pe_call GD hr (by rfl) mD kD bD .nil pass0 (pa_cons (pv 0) (pa_cons (pe_ix (ixL K) (pe_lst (pa_cons pe_int (pa_cons pe_int pa_nil))) (pe_call GD hr (by rfl) mD kD bD .nil pass0 (pa_cons (pv 0) (pa_cons pe_int pa_nil))) (fun _ _ => rfl)) pa_nil)))))
        (pss_cons (ps_set (i := 7) scNames.nd rfl (.inl rfl) (pe_join pe_str (pe_lc (own := [("_law_j", 9)]) (g := gName 9) (tt := tYes) rfl scNames.nd (pi_range1 (by rfl) mRange (pa_cons (pv 6) pa_nil))
          (blkOk_by (N := ["_law_deal_here", "_law_many", "_law_letters", "_law_words", "_law_found", "_law_k", "_law_size", "_law_word", "_law_spare", "_law_j"]) (sc := defScope sNames) (by decide +kernel)) (fun _ _ _ _ _ => pg_name (i := 9) scNames.nd rfl (Or.inl rfl)) (fun _ _ _ _ _ => pts_nil)
          (fun _ _ _ _ _ => pe_ix ix_str (pv 2) (pe_call GD hr (by rfl) mD kD bD .nil pass0 (pa_cons (pv 0) (pa_cons pe_int pa_nil))) (fun _ _ => rfl)))))
        (pss_cons (ps_set (i := 8) scNames.nd rfl (.inl rfl) pe_int)
        (pss_cons (ps_while PassesOwn.never (PW.pt (pw_or (pt_cmpR (opIn K) (pv 7) (pv 4) (by rfl)) (pw_or1 (pt_cmpR (opIn K) (pv 7) (pv 3) (by rfl)))))
          (pss_cons (ps_set (i := 7) scNames.nd rfl (.inl rfl) (pe_op op_add_str (pe_op op_add_str (pe_slice sl_str (pv 7) po_none (po_some pe_int)) (pe_ix ix_str (pv 2) (pe_op op_mod (pe_op op_fdiv (pv 8) pe_int) pe_int) (fun _ _ => rfl))) (pe_ix ix_str (pv 2) (pe_op op_mod (pv 8) pe_int) (fun _ _ => rfl))))
          (pss_one (ps_set (i := 8) scNames.nd rfl (.inl rfl) (pe_op op_add (pv 8) pe_int)))))
        (pss_one (ps_expr (pe_bm PySem.F.plainAttrs_list PySem.F.slot_list_append PySem.F.type_list_append mt_append (pv 4) (pa_cons (pv 7) pa_nil)))))))))
      (pss_one (ps_ret (pv 4)))))), ?_⟩
    refine ⟨Nat.le_trans (by decide : 8 ≤ 100000) (by decide), fun pw npw => ⟨Nat.zero_le _, fun pf npf => ?_⟩⟩
    obtain ⟨ws0, ews, wsl⟩ : ∃ ws : List Str, ([V.str (Str.ofString "place"), V.str (Str.ofString "letter"), V.str (Str.ofString "rule"), V.str (Str.ofString "own"), V.str (Str.ofString "arrow"), V.str (Str.ofString "ends"), V.str (Str.ofString "one"), V.str (Str.ofString "other")] : List V) = ws.map V.str ∧ ws.length = 8 :=
      ⟨[Str.ofString "place", Str.ofString "letter", Str.ofString "rule", Str.ofString "own", Str.ofString "arrow", Str.ofString "ends", Str.ofString "one", Str.ofString "other"], rfl, rfl⟩
    rw [ews] at npf ⊢
    have ga : Go T N0 H (upd H pw (.lst (ws0.map V.str))) := .new npw
    have gb : Go T N0 (upd H pw (.lst (ws0.map V.str))) (upd (upd H pw (.lst (ws0.map V.str))) pf (.lst [])) := .new npf
    have hpw0 := gb.lst (upd_same : upd H pw (.lst (ws0.map V.str)) pw = some (.lst (ws0.map V.str)))
    have hpf0 : upd (upd H pw (.lst (ws0.map V.str))) pf (.lst []) pf = some (.lst []) := upd_same
    have dl0 := dl.of (ga.trans gb)
    have npwd := dl.nd npw
    have npfd := (dl.of ga).nd npf
    have nwf : pw ≠ pf := fun z => by rw [← z, upd_same] at npf; cases npf
    have g0 := ga.trans gb
    have hf0 : H pf = none := by rw [upd_ne nwf.symm] at npf; exact npf
    generalize upd (upd H pw (.lst (ws0.map V.str))) pf (.lst []) = H0 at hpw0 hpf0 dl0 g0 ⊢
    refine ⟨_, rfl, 6, rfl, by decide, by decide, for_range (lo := 0) (n := 6) (fun i σ H' => ∃ (a5 a6 a7 a8 : Option V) (fs : List Str), σ = [some (.ref d), some (.int 6), some (.str cAbc), some (.ref pw), some (.ref pf), a5, a6, a7, a8, none] ∧ Gd T d l H H' ∧ DealAt H' d l ∧ H' pw = some (.lst (ws0.map V.str)) ∧ H' pf = some (.lst (fs.map V.str)) ∧ fs.length = i)
      ⟨none, none, none, none, [], rfl, .of g0, dl0, hpw0, hpf0, rfl⟩ ?_ ?_⟩
    · rintro i σ H1 hi ⟨a5, a6, a7, a8, fs, rfl, g1, d1, hpw, hpf, fl⟩
      -- the size
      refine ⟨_, rfl, (by show 2 ≤ sizeLine; decide), fun q1 nq1 => ⟨_, rfl, d, l, 2, rfl, d1.of (T := T) (.new nq1), by decide, by decide, fun H2 x g2 d2 x0 x1 => ?_⟩⟩
      obtain ⟨m, hm, em⟩ := pick [2, 6] x0 x1
      have hm6 : 1 ≤ m ∧ m ≤ 6 := by
        rcases List.mem_cons.mp hm with e | hm
        · omega
        · have := List.mem_singleton.mp hm
          omega
      have nqd := d1.nd nq1
      refine ⟨q1, _, x, .int m, rfl, rfl, SqL.of (g2.keep upd_same nqd.1 nqd.2), em, d, l, m, rfl, d2, hm6.1, by omega, fun H3 y g3 d3 y0 y1 => ⟨1, y, rfl, rfl, ?_⟩⟩
      have g13 : Gd T d l H1 H3 := (Gd.of (.new nq1)).trans (g2.trans g3)
      -- the word
      refine ⟨⟨_, rfl⟩, _, rfl, 1 + y, rfl, by omega, by omega, fun D hD => ?_⟩
      refine lcd_range (lo := 0) (n := (1 + y).toNat) T (fun j acc _ => ∃ cs : List Nat, acc = cs.map (fun c => V.str ⟨#[c]⟩) ∧ cs.length = j) hD d3 ⟨[], rfl, rfl⟩ (fun j H4 acc hj g4 d4 ha hal r => ?_) (fun H4 acc g4 d4 ha hal r => ?_)
      · obtain ⟨cs, rfl, cl⟩ := r
        refine ⟨wp1, yesIf ?_⟩
        refine ⟨_, rfl, _, rfl, d, l, 26, rfl, d4, by decide, by decide, fun H5 z g5 d5 z0 z1 => ?_⟩
        refine ⟨cAbc, z, 97 + z.toNat, rfl, rfl, (by rw [abc_len]; decide), at_is (Int.toNat_of_nonneg z0).symm (abc_at z.toNat (by omega)), ?_⟩
        exact LcD.add hD d3 g4 ha hal (by omega) g5 d5 ⟨cs ++ [97 + z.toNat], by rw [List.map_append]; rfl, by rw [List.length_append, cl]; rfl⟩
      obtain ⟨cs, rfl, cl⟩ := r
      have jl := join_ones cs
      refine ⟨Str.ofString "", D, cs.map fun c => (⟨#[c]⟩ : Str), rfl, rfl, .inl (SqL.of (by rw [List.map_map]; exact ha)), ?_, ?_⟩
      · rw [List.map_map, List.length_map, show (Str.ofString "").length = 0 by decide +kernel, Nat.mul_zero, Nat.add_zero]
        show (cs.map fun _ => 1).sum ≤ _
        rw [ones_sum]
        omega
      generalize hwd : Txt.join (Str.ofString "") (cs.map fun c => (⟨#[c]⟩ : Str)) = wd at jl ⊢
      have g14 := g1.trans (g13.trans g4)
      have hpw4 := (g13.trans g4).keep hpw npwd.1 npwd.2
      have hpf4 := (g13.trans g4).keep hpf npfd.1 npfd.2
      -- the loop: it ends
      refine ⟨fun m σ H' => ∃ (word : Str) (sp : Nat) (seen : List Str), σ = [some (.ref d), some (.int 6), some (.str cAbc), some (.ref pw), some (.ref pf), some (.int (0 + (i : Int))), some (.int (1 + y)), some (.str word), some (.int (sp : Int)), none] ∧ Same H4 H' ∧ word.length ≤ 6 ∧ Tried (fs ++ ws0) word sp seen ∧ m = 40 - sp,
        ⟨40, wd, 0, [], rfl, Same.refl _, by omega, ⟨.nil, (fun _ h => by cases h), fun _ => rfl, fun h => by omega, fun h => by omega, fun _ h => by cases h⟩, rfl⟩, ?_⟩
      rintro m σ H5 ⟨word, sp, seen, rfl, sm, wl, tr, rfl⟩
      have tsm := tr.small
      rw [List.length_append, wsl, fl] at tsm
      -- one more
      have more : word ∈ fs ++ ws0 → ∃ seen', Tried (fs ++ ws0) (cutS word none (some 4) ++ (⟨#[97 + sp / 26 % 26]⟩ : Str) ++ (⟨#[97 + sp % 26]⟩ : Str)) (sp + 1) seen' := fun hm => by
        refine tr.next hm ?_
        rw [lastC_add, Nat.mod_eq_of_lt (show sp < 26 by omega)]
      have hpf5 := sm _ _ hpf4
      have hpw5 := sm _ _ hpw4
      have t1 : Evl.EvT (tTest (tOp (rIn K false) (tVar 7) (tVar 4))) [some (.ref d), some (.int 6), some (.str cAbc), some (.ref pw), some (.ref pf), some (.int (0 + (i : Int))), some (.int (1 + y)), some (.str word), some (.int (sp : Int)), none] H5 (decide (word ∈ fs)) := by
        rw [← inV_strs]
        exact Evl.et_test (Evl.ev_op (Evl.ev_var rfl) (Evl.ev_var rfl) (Evl.rv_isL (Evl.sq_of hpf5) rfl (flat_strs _)))
      have t2 : Evl.EvT (tTest (tOp (rIn K false) (tVar 7) (tVar 3))) [some (.ref d), some (.int 6), some (.str cAbc), some (.ref pw), some (.ref pf), some (.int (0 + (i : Int))), some (.int (1 + y)), some (.str word), some (.int (sp : Int)), none] H5 (decide (word ∈ ws0)) := by
        rw [← inV_strs]
        exact Evl.et_test (Evl.ev_op (Evl.ev_var rfl) (Evl.ev_var rfl) (Evl.rv_isL (Evl.sq_of hpw5) rfl (flat_strs _)))
      refine (Evl.et_or t1 fun _ => t2) H5 (Evl.Ex.refl _) _ fun H6 e6 => ?_
      have s6 : Same H4 H6 := sm.trans e6
      have cl4 := cut4 word
      refine ite2 (fun c => ?_) (fun c => ?_)
      · have hm : word ∈ fs ++ ws0 := by
          rw [Bool.or_eq_true, decide_eq_true_eq, decide_eq_true_eq] at c
          exact List.mem_append.mpr c
        obtain ⟨seen', tr'⟩ := more hm
        have sp15 : sp ≤ 15 := by omega
        refine ⟨fun σ' H' => ∃ m', m' < 40 - sp ∧ (∃ (word : Str) (sp : Nat) (seen : List Str), σ' = [some (.ref d), some (.int 6), some (.str cAbc), some (.ref pw), some (.ref pf), some (.int (0 + (i : Int))), some (.int (1 + y)), some (.str word), some (.int (sp : Int)), none] ∧ Same H4 H' ∧ word.length ≤ 6 ∧ Tried (fs ++ ws0) word sp seen ∧ m' = 40 - sp), fun _ _ z => z, ?_⟩
        refine ⟨_, rfl, 4, rfl, word, rfl, sz_le (by omega), ?_⟩
        refine ⟨_, rfl, _, rfl, sp, 26, rfl, rfl, ⟨by decide, by decide⟩, _, _, rfl, rfl, (by show (0 : Int) < 26; decide), cAbc, _, 97 + sp / 26 % 26, rfl, rfl, (by rw [abc_len]; decide), at_is (j := sp / 26 % 26) (by omega) (abc_at _ (Nat.mod_lt _ (by decide))), ?_⟩
        refine ⟨_, _, rfl, rfl, sz_le (by show (cutS word none (some 4)).length + 1 ≤ 100000; omega), ?_⟩
        refine ⟨_, rfl, _, rfl, sp, 26, rfl, rfl, (by show (0 : Int) < 26; decide), cAbc, _, 97 + sp % 26, rfl, rfl, (by rw [abc_len]; decide), at_is (j := sp % 26) (by omega) (abc_at _ (Nat.mod_lt _ (by decide))), ?_⟩
        have l5 : (cutS word none (some 4) ++ (⟨#[97 + sp / 26 % 26]⟩ : Str)).length ≤ 5 := by
          rw [len_add]
          show (cutS word none (some 4)).length + 1 ≤ 5
          omega
        refine ⟨_, _, rfl, rfl, sz_le (by show (cutS word none (some 4) ++ (⟨#[97 + sp / 26 % 26]⟩ : Str)).length + 1 ≤ 100000; omega), ?_⟩
        refine ⟨_, rfl, sp, 1, rfl, rfl, 40 - (sp + 1), by omega, _, sp + 1, seen', rfl, s6, ?_, tr', rfl⟩
        rw [len_add]
        show (cutS word none (some 4) ++ (⟨#[97 + sp / 26 % 26]⟩ : Str)).length + 1 ≤ 6
        omega
      · have hpf6 := s6 _ _ hpf4
        have g16 := g14.trans (.of (.same s6))
        have d6 := d4.of (T := T) (.same s6)
        refine ⟨_, rfl, .inl ⟨rfl, _, SqL.of hpf6⟩, _, rfl, pf, _, _, rfl, rfl, hpf6, sz_lt (by rw [List.length_map]; omega), ?_⟩
        refine ⟨_, _, _, _, fs ++ [word], rfl, g16.mut hf0 hpf6, d6.upd npfd.1 npfd.2, by rw [upd_ne nwf]; exact s6 _ _ hpw4, by rw [upd_same, List.map_append]; rfl, by rw [List.length_append, fl]; rfl⟩
    · rintro σ H1 ⟨a5, a6, a7, a8, fs, rfl, g1, d1, hpw, hpf, fl⟩
      exact ⟨_, rfl, k H1 pf fs g1 d1 npfd.1 npfd.2 hpf fl⟩
end
end K27
end

section
set_option Elab.async false
set_option linter.all false
set_option maxRecDepth 100000
set_option maxHeartbeats 4000000
/-! K28f: the game. -/
namespace K27
open PySem PySem.Spec PyProof.Rows L2
structure GameOk (P X : Nat) (g : Gm) : Prop where
  p1 : 1 ≤ P
  p3 : P ≤ 3
  x1 : 1 ≤ X
  x3 : X ≤ 3
  hh : ∀ h ∈ g.hands, h = 0 ∨ h = 1
  ru : ∀ r ∈ g.rules, (0 ≤ r.1 ∧ r.1 < P) ∧ (0 ≤ r.2.1 ∧ r.2.1 < X) ∧ (0 ≤ r.2.2.1 ∧ r.2.2.1 < P) ∧ (∀ z ∈ r.2.2.2, 0 ≤ z ∧ z < (X : Int)) ∧ r.2.2.2.length ≤ 2
  rl : g.rules.length ≤ 8
/-- the places' pairs -/
def PlIs (H : Hp) (ps : List V) (hands : List Int) : Prop := hands.length = ps.length ∧ (∀ h ∈ hands, h = 0 ∨ h = 1) ∧ ∀ (i : Nat) (h : Int), hands[i]? = some h → ∃ (q : Addr) (nm : V), ps[i]? = some (.ref q) ∧ H q = some (.tup [nm, .int h])
theorem PlIs.mono {H H' : Hp} {ps : List V} {hands : List Int} (h : PlIs H ps hands) (k : TupK H H') : PlIs H' ps hands := ⟨h.1, h.2.1, fun i x e => let ⟨q, nm, e1, e2⟩ := h.2.2 i x e; ⟨q, nm, e1, k _ _ e2⟩⟩
theorem PlIs.snoc {H : Hp} {ps : List V} {hands : List Int} {q : Addr} {nm : V} {x : Int} (h : PlIs H ps hands) (hx : x = 0 ∨ x = 1) (hq : H q = some (.tup [nm, .int x])) : PlIs H (ps ++ [.ref q]) (hands ++ [x]) := by
  refine ⟨by rw [List.length_append, List.length_append, h.1]; rfl, fun y hy => ?_, fun i y e => ?_⟩
  · rcases List.mem_append.mp hy with z | z
    · exact h.2.1 y z
    · rw [List.mem_singleton.mp z]; exact hx
  · by_cases c : i < hands.length
    · rw [List.getElem?_append_left c] at e
      obtain ⟨q', nm', e1, e2⟩ := h.2.2 i y e
      exact ⟨q', nm', by rw [List.getElem?_append_left (by have := h.1; omega)]; exact e1, e2⟩
    · rw [List.getElem?_append_right (by omega)] at e
      have : i - hands.length = 0 := by
        have := (List.getElem?_eq_some_iff.mp e).1
        rw [List.length_singleton] at this
        omega
      rw [this] at e
      have ey : x = y := Option.some.inj e
      subst ey
      refine ⟨q, nm, ?_, hq⟩
      rw [List.getElem?_append_right (by have := h.1; omega), show i - ps.length = 0 by have := h.1; omega]
      rfl
theorem Gd.fresh {T : Tb} {d l p : Addr} {H H1 : Hp} (g : Gd T d l H H1) (dl : DealAt H1 d l) (n : H1 p = none) : New H p := fun o e => by
  obtain ⟨n1, n2⟩ := dl.nd n
  by_cases q : ∀ ps, o ≠ .tbl ps
  · have := g.go.kept p o e (fun z => z.elim n1 n2) q
    rw [n] at this
    cases this
  · exact Classical.byContradiction fun z => q fun ps e => z ⟨ps, e⟩
/-- what stands while the rules are made -/
structure GSt (T : Tb) (d l : Addr) (H : Hp) (pw ru pl : Addr) (ws : List Str) (ps : List V) (hands : List Int) (H' : Hp) (xs : List V) (rs : List Rule) : Prop where
  g : Gd T d l H H'
  dl : DealAt H' d l
  nw : pw ≠ d ∧ pw ≠ l
  nr : ru ≠ d ∧ ru ≠ l
  nu : New H ru
  nwr : pw ≠ ru
  hw : H' pw = some (.lst (ws.map V.str))
  hp : H' pl = some (.tup ps)
  pi : PlIs H' ps hands
  hr : H' ru = some (.lst xs)
  ls : Ls H' dRule rs xs
theorem GSt.gd {T : Tb} {d l : Addr} {H : Hp} {pw ru pl : Addr} {ws : List Str} {ps : List V} {hands : List Int} {H1 H2 : Hp} {xs : List V} {rs : List Rule} (S : GSt T d l H pw ru pl ws ps hands H1 xs rs) (g : Gd T d l H1 H2) (d2 : DealAt H2 d l) : GSt T d l H pw ru pl ws ps hands H2 xs rs :=
  ⟨S.g.trans g, d2, S.nw, S.nr, S.nu, S.nwr, g.keep S.hw S.nw.1 S.nw.2, g.tup _ _ S.hp, S.pi.mono g.tup, g.keep S.hr S.nr.1 S.nr.2, S.ls.mono g.tup⟩
theorem GSt.go {T : Tb} {d l : Addr} {H : Hp} {pw ru pl : Addr} {ws : List Str} {ps : List V} {hands : List Int} {H1 H2 : Hp} {xs : List V} {rs : List Rule} (S : GSt T d l H pw ru pl ws ps hands H1 xs rs) (g : Go T N0 H1 H2) : GSt T d l H pw ru pl ws ps hands H2 xs rs := S.gd (.of g) (S.dl.of g)
def RuleOk (P X : Int) (r : Rule) : Prop := (0 ≤ r.1 ∧ r.1 < P) ∧ (0 ≤ r.2.1 ∧ r.2.1 < X) ∧ (0 ≤ r.2.2.1 ∧ r.2.2.1 < P) ∧ (∀ z ∈ r.2.2.2, 0 ≤ z ∧ z < X) ∧ r.2.2.2.length ≤ 2
section
variable {P : Program} {w : World} {K : PySem.W.Frag} {mg : Str → Option Value} {base : Heap} {T : Tb}
theorem scGame : FnScope ["_law_deal_here", "_law_words", "_law_many", "_law_signs", "_law_places", "_law_rules", "_law_k", "_law_size", "_law_place", "_law_top", "_law_to", "_law_rule", "_law_alike", "_law_j", "_law_one"] ["_law_deal_here"] (defScope sGame) := ⟨rfl, rfl, rfl, by decide +kernel, rfl, by decide +kernel, by decide +kernel⟩
def spGame (T : Tb) : Sp := fun vs H Q _ => ∃ (d l : Addr), vs = [.ref d] ∧ DealAt H d l ∧ ∀ (H' : Hp) (a : Addr) (P X : Nat) (g : Gm), Gd T d l H H' → DealAt H' d l → GmAt H' a P X g → GameOk P X g → Q (.ref a) H'
theorem ok_game {f fD fN : Addr} {fd fdD fdN : FuncData} (F : Fun K "_law_game" "_law_game" sGame f fd) (GD : FnOk P w K mg base CX0 1 fD fdD ["_law_deal_here", "_law_many"] (spDraw T)) (kD : PySem.W.keepIn K (.ref fD) = true) (bD : Binds K fdD ["_law_deal_here", "_law_many"] []) (mD : mg "_law_draw" = some (.ref fD))
    (GN : FnOk P w K mg base CX0 2 fN fdN ["_law_deal_here", "_law_many"] (spNames T)) (kN : PySem.W.keepIn K (.ref fN) = true) (bN : Binds K fdN ["_law_deal_here", "_law_many"] []) (mN : mg "_law_names" = some (.ref fN))
    (mRange : mg "range" = none) (mTuple : mg "tuple" = none) (mLen : mg "len" = none) (mMin : mg "min" = none) : FnOk P w K mg base CX0 3 f fd ["_law_deal_here"] (spGame T) := by
  refine F.ok scGame (fun vs H Q E h => ?_) (fun cdv A outer s H vs Q E hr h => ?_)
  · obtain ⟨d, l, rfl, _⟩ := h
    rfl
  · obtain ⟨d, l, rfl, dl, k⟩ := h
    have hr1 : Room 1 (A.deeper (envOfC "_law_game" (defScope sGame) s.heap.objs.size f cdv)) := hr.mono (by decide)
    have hu := hr.units
    have hu65 : (A.deeper (envOfC "_law_game" (defScope sGame) s.heap.objs.size f cdv)).units + 65 < cLine := by have := hr.un; omega
    refine ⟨_, pss_cons (ps_set (i := 1) scGame.nd rfl (.inr rfl) (pe_call GN hr (by rfl) mN kN bN .nil pass0 (pa_cons (pv 0) (pa_cons pe_int pa_nil))))
      (pss_cons (ps_asg (pe_tup (pa_cons (pe_op op_add pe_int (pe_call GD hr1 (by rfl) mD kD bD .nil pass0 (pa_cons (pv 0) (pa_cons pe_int pa_nil)))) (pa_cons (pe_op op_add pe_int (pe_call GD hr1 (by rfl) mD kD bD .nil pass0 (pa_cons (pv 0) (pa_cons pe_int pa_nil)))) pa_nil)))
          (tupleG (n := 2) K rfl (pgs_cons (pg_name (i := 2) scGame.nd rfl (Or.inl rfl)) (pgs_cons (pg_name (i := 3) scGame.nd rfl (Or.inr rfl)) pgs_nil))))
      (pss_cons (ps_set (i := 4) scGame.nd rfl (.inl rfl) (pe_callTy (tupOf K) (by rfl) mTuple (by decide +kernel) (pa_cons (pe_lc (own := [("_law_k", 6)]) (g := gName 6) (tt := tYes) rfl scGame.nd (pi_range1 (by rfl) mRange (pa_cons (pv 2) pa_nil))
        (blkOk_by (N := ["_law_deal_here", "_law_words", "_law_many", "_law_signs", "_law_places", "_law_rules", "_law_k", "_law_size", "_law_place", "_law_top", "_law_to", "_law_rule", "_law_alike", "_law_j", "_law_one"]) (sc := defScope sGame) (by decide +kernel)) (fun _ _ _ _ _ => pg_name (i := 6) scGame.nd rfl (Or.inl rfl)) (fun _ _ _ _ _ => pts_nil)
        (fun _ _ _ _ _ => pe_tup (pa_cons (pe_ix (ixL K) (pv 1) (pv 6) (fun _ _ => rfl)) (pa_cons (pe_call GD hr1 (by rfl) mD kD bD .nil pass0 (pa_cons (pv 0) (pa_cons pe_int pa_nil))) pa_nil)))) pa_nil)))
      (pss_cons (ps_set (i := 5) scGame.nd rfl (.inl rfl) (pe_lst pa_nil))
      (pss_cons (ps_for PassesOwn.never rfl (pi_range1 (by rfl) mRange (pa_cons (pe_ix (ixL K) (pe_lst (pa_cons pe_int (pa_cons pe_int pa_nil))) (pe_call GD hr1 (by rfl) mD kD bD .nil pass0 (pa_cons (pv 0) (pa_cons pe_int pa_nil))) (fun _ _ => rfl)) pa_nil)) (pg_name (i := 6) scGame.nd rfl (Or.inl rfl))
        (pss_cons (ps_set (i := 7) scGame.nd rfl (.inl rfl) (pe_ix (ixL K) (pe_lst (pa_cons pe_int (pa_cons pe_int (pa_cons pe_int (pa_cons pe_int (pa_cons pe_int pa_nil)))))) (pe_call GD hr1 (by rfl) mD kD bD .nil pass0 (pa_cons (pv 0) (pa_cons pe_int pa_nil))) (fun _ _ => rfl)))
        (C8.pss_cut (ps_if (pt_cmpR op_eq (pe_callB (lenS K) (by rfl) mLen PySem.boot_len (pa_cons (pe_lc (own := [("_law_rule", 11)]) (g := gName 11) rfl scGame.nd (pi_list (pv 5))
            (blkOk_by (N := ["_law_deal_here", "_law_words", "_law_many", "_law_signs", "_law_places", "_law_rules", "_law_k", "_law_size", "_law_place", "_law_top", "_law_to", "_law_rule", "_law_alike", "_law_j", "_law_one"]) (sc := defScope sGame) (by decide +kernel)) (fun _ _ _ _ _ => pg_name (i := 11) scGame.nd rfl (Or.inl rfl))
            (fun _ _ _ _ _ => pts_one (pt_cmpR op_eq (pe_callB (lenS K) (by rfl) mLen PySem.boot_len (pa_cons (pe_ix (ixT K) (pv 11) pe_int (fun _ _ => rfl)) pa_nil)) pe_int (nomark _))) (fun _ _ _ _ _ => pv 11)) pa_nil)) pe_int (nomark _))
          (pss_one (ps_set (i := 7) scGame.nd rfl (.inl rfl) (pe_callB (call_min2 rfl) (by rfl) mMin (by decide +kernel) (pa_cons (pv 7) (pa_cons pe_int pa_nil))))) pss_nil)
        (pss_cons (ps_par3 (i := 8) (j := 9) (l := 10) rfl scGame.nd rfl rfl rfl (by decide) (by decide) (by decide) rfl rfl rfl (pa_cons (pe_call GD hr1 (by rfl) mD kD bD .nil pass0 (pa_cons (pv 0) (pa_cons (pv 2) pa_nil)))
            (pa_cons (pe_call GD hr1 (by rfl) mD kD bD .nil pass0 (pa_cons (pv 0) (pa_cons (pv 3) pa_nil))) (pa_cons (pe_call GD hr1 (by rfl) mD kD bD .nil pass0 (pa_cons (pv 0) (pa_cons (pv 2) pa_nil))) pa_nil))) (by rfl))
        (pss_cons (ps_set (i := 11) scGame.nd rfl (.inr rfl) (pe_tup (pa_cons (pv 8) (pa_cons (pv 9) (pa_cons (pv 10) (pa_cons (pe_callTy (tupOf K) (by rfl) mTuple (by decide +kernel) (pa_cons (pe_lc (own := [("_law_j", 13)]) (g := gName 13) (tt := tYes) rfl scGame.nd (pi_range1 (by rfl) mRange (pa_cons (pv 7) pa_nil))
            (blkOk_by (N := ["_law_deal_here", "_law_words", "_law_many", "_law_signs", "_law_places", "_law_rules", "_law_k", "_law_size", "_law_place", "_law_top", "_law_to", "_law_rule", "_law_alike", "_law_j", "_law_one"]) (sc := defScope sGame) (by decide +kernel)) (fun _ _ _ _ _ => pg_name (i := 13) scGame.nd rfl (Or.inl rfl)) (fun _ _ _ _ _ => pts_nil)
            (fun _ _ _ _ _ => pe_call GD hr1 (by rfl) mD kD bD .nil pass0 (pa_cons (pv 0) (pa_cons (pv 3) pa_nil)))) pa_nil)) pa_nil))))))
        (pss_cons (ps_set (i := 12) scGame.nd rfl (.inl rfl) (pe_callB (lenS K) (by rfl) mLen PySem.boot_len (pa_cons (pe_lc (own := [("_law_one", 14)]) (g := gName 14) rfl scGame.nd (pi_list (pv 5))
            (blkOk_by (N := ["_law_deal_here", "_law_words", "_law_many", "_law_signs", "_law_places", "_law_rules", "_law_k", "_law_size", "_law_place", "_law_top", "_law_to", "_law_rule", "_law_alike", "_law_j", "_law_one"]) (sc := defScope sGame) (by decide +kernel)) (fun _ _ _ _ _ => pg_name (i := 14) scGame.nd rfl (Or.inl rfl))
            (fun _ _ _ _ _ => pts_one (pt_cmpR (op_eqRD hu) (pe_slice (slT K) (pv 14) po_none (po_some pe_int)) (pe_slice (slT K) (pv 11) po_none (po_some pe_int)) (nomark _))) (fun _ _ _ _ _ => pv 14)) pa_nil)))
        (pss_one (ps_if (PW.pt (pw_and (pt_cmpR (op_notInL hu65) (pv 11) (pv 5) (by rfl)) (pw_and (pt_cmpR op_lt (pe_callB (lenS K) (by rfl) mLen PySem.boot_len (pa_cons (pv 5) pa_nil)) pe_int (nomark _))
            (pw_and1 (PW.pt (pw_or (pt_cmpR op_eq (pe_ix (ixT K) (pe_ix (ixT K) (pv 4) (pv 8) (fun _ _ => rfl)) pe_int (fun _ _ => rfl)) pe_int (nomark _)) (pw_or1 (pt_cmpR op_lt (pv 12) pe_int (nomark _)))))))))
          (pss_one (ps_expr (pe_bm PySem.F.plainAttrs_list PySem.F.slot_list_append PySem.F.type_list_append mt_append (pv 5) (pa_cons (pv 11) pa_nil)))) pss_nil))))))))
      (pss_one (ps_ret (pe_tup (pa_cons (pv 4) (pa_cons (pe_callTy (tupOf K) (by rfl) mTuple (by decide +kernel) (pa_cons (pe_slice (slL K) (pv 1) (po_some pe_int) (po_some (pe_op op_add pe_int (pv 3)))) pa_nil)) (pa_cons (pe_callTy (tupOf K) (by rfl) mTuple (by decide +kernel) (pa_cons (pv 5) pa_nil)) pa_nil)))))))))), ?_⟩
    refine ⟨_, rfl, d, l, rfl, dl, fun H1 pw ws g1 d1 nw1 nw2 hpw wl => ?_⟩
    refine ⟨_, rfl, d, l, 3, rfl, d1, by decide, by decide, fun H2 x g2 d2 x0 x1 => ⟨1, x, rfl, rfl, _, rfl, d, l, 3, rfl, d2, by decide, by decide, fun H3 y g3 d3 y0 y1 => ⟨1, y, rfl, rfl, (by show 2 ≤ sizeLine; decide), fun t nt => ?_⟩⟩⟩
    refine ⟨t, _, rfl, SqT.of upd_same, rfl, _, _, rfl, _, _, rfl, rfl, ?_⟩
    have g4 : Gd T d l H (upd H3 t (.tup [V.int (1 + x), V.int (1 + y)])) := ((g1.trans g2).trans g3).trans (.of (.new nt))
    have d4 : DealAt (upd H3 t (.tup [V.int (1 + x), V.int (1 + y)])) d l := d3.of (T := T) (.new nt)
    have hw4 : upd H3 t (.tup [V.int (1 + x), V.int (1 + y)]) pw = some (.lst (ws.map V.str)) := ((g2.trans g3).trans (.of (.new (T := T) nt))).keep hpw nw1 nw2
    generalize upd H3 t (.tup [V.int (1 + x), V.int (1 + y)]) = H4 at g4 d4 hw4 ⊢
    -- the places
    refine ⟨_, rfl, 1 + x, rfl, by omega, by omega, fun D hD => ?_⟩
    refine lcd_range (lo := 0) (n := (1 + x).toNat) T (fun i acc H => ∃ hands : List Int, acc.length = i ∧ PlIs H acc hands) hD d4 ⟨[], rfl, rfl, (fun _ h => by cases h), fun i h e => by simp at e⟩ (fun i H5 acc hi g5 d5 ha hal r => ?_) (fun H5 acc g5 d5 ha hal r => ?_)
    · obtain ⟨hands, al, pi⟩ := r
      have hw5 := g5.keep hw4 nw1 nw2
      have hk : i < ws.length := by omega
      refine ⟨wp1, yesIf ?_⟩
      refine ⟨_, rfl, _, rfl, pw, _, _, _, rfl, rfl, SqL.of hw5, at_of (j := i) (by omega) (by rw [List.getElem?_map, List.getElem?_eq_getElem hk]; rfl), _, rfl, d, l, 2, rfl, d5, by decide, by decide, fun H6 z g6 d6 z0 z1 => ⟨(by show 2 ≤ sizeLine; decide), fun t2 nt2 => ?_⟩⟩
      have g7 : Gd T d l H5 (upd H6 t2 (.tup [V.str ws[i], V.int z])) := g6.trans (.of (.new nt2))
      refine LcD.add hD d4 g5 ha hal (by omega) g7 (d6.of (T := T) (.new nt2)) ⟨hands ++ [z], by rw [List.length_append, al]; rfl, ?_⟩
      have hDn := d4.nd hD
      refine ((pi.mono g7.tup).snoc (by omega) (upd_same : upd H6 t2 (.tup [V.str ws[i], V.int z]) t2 = _)).mono (tupK_upd (g7.keep ha hDn.1 hDn.2))
    obtain ⟨hands, al, pi⟩ := r
    refine ⟨D, acc, rfl, .inl ⟨SqL.of ha, fun pl npl => ?_⟩⟩
    refine ⟨Nat.zero_le _, fun ru nru => ?_⟩
    have gp : Go T N0 H5 (upd H5 pl (.tup acc)) := Go.new npl
    have gr : Go T N0 (upd H5 pl (.tup acc)) (upd (upd H5 pl (.tup acc)) ru (.lst [])) := Go.new nru
    have S0 : GSt T d l H pw ru pl ws acc hands (upd (upd H5 pl (.tup acc)) ru (.lst [])) [] [] :=
      ⟨(g4.trans g5).trans (.of (gp.trans gr)), d5.of (gp.trans gr), ⟨nw1, nw2⟩, (d5.of gp).nd nru, ((g4.trans g5).trans (.of gp)).fresh (d5.of gp) nru, ne_of_none (gp.lst (g5.keep hw4 nw1 nw2)) nru, (gp.trans gr).lst (g5.keep hw4 nw1 nw2), gr.tup upd_same, pi.mono (gp.trans gr).tupK, upd_same, .nil⟩
    generalize upd (upd H5 pl (.tup acc)) ru (.lst []) = H6 at S0 ⊢
    refine ⟨(by show 2 ≤ sizeLine; decide), fun q1 nq1 => ⟨_, rfl, d, l, 2, rfl, (S0.go (.new nq1)).dl, by decide, by decide, fun H7 z g7 d7 z0 z1 => ?_⟩⟩
    obtain ⟨m, hm, em⟩ := pick [9, 13] z0 z1
    have m13 : 0 ≤ m ∧ m ≤ 13 := by
      rcases List.mem_cons.mp hm with e | hm
      · omega
      · have := List.mem_singleton.mp hm
        omega
    have nqd := S0.dl.nd nq1
    have S7 := (S0.go (.new nq1)).gd g7 d7
    refine ⟨q1, _, z, .int m, rfl, rfl, SqL.of (g7.keep upd_same nqd.1 nqd.2), em, m, rfl, by omega, by omega, ?_⟩
    refine for_range (lo := 0) (n := m.toNat) (fun i σ H' => ∃ (a6 a7 a8 a9 a10 a11 a12 : Option V) (xs : List V) (rs : List Rule), σ = [some (.ref d), some (.ref pw), some (.int (1 + x)), some (.int (1 + y)), some (.ref pl), some (.ref ru), a6, a7, a8, a9, a10, a11, a12, none, none] ∧ GSt T d l H pw ru pl ws acc hands H' xs rs ∧ (∀ r ∈ rs, RuleOk (1 + x) (1 + y) r) ∧ rs.length ≤ 8)
      ⟨none, none, none, none, none, none, none, [], [], rfl, S7, (fun _ h => by cases h), Nat.zero_le _⟩ ?_ ?_
    · rintro i σ K1 hi ⟨a6, a7, a8, a9, a10, a11, a12, xs, rs, rfl, S1, ro, rl⟩
      have xl := S1.ls.len
      -- the size
      refine ⟨(by show 5 ≤ sizeLine; decide), fun q2 nq2 => ⟨_, rfl, d, l, 5, rfl, (S1.go (.new nq2)).dl, by decide, by decide, fun K2 u gu du u0 u1 => ?_⟩⟩
      obtain ⟨m, hm, em⟩ := pick [0, 0, 1, 1, 2] u0 u1
      have m2 : 0 ≤ m ∧ m ≤ 2 := by
        simp only [List.mem_cons, List.not_mem_nil, or_false] at hm
        omega
      have nq2d := S1.dl.nd nq2
      have S2 := (S1.go (.new nq2)).gd gu du
      refine ⟨q2, _, u, .int m, rfl, rfl, SqL.of (gu.keep upd_same nq2d.1 nq2d.2), em, ?_⟩
      refine ⟨fun σ' H' => ∃ m : Int, 0 ≤ m ∧ m ≤ 2 ∧ σ' = [some (.ref d), some (.ref pw), some (.int (1 + x)), some (.int (1 + y)), some (.ref pl), some (.ref ru), some (.int (0 + (i : Int))), some (.int m), a8, a9, a10, a11, a12, none, none] ∧ GSt T d l H pw ru pl ws acc hands H' xs rs, ?_, ?_⟩
      · refine ⟨_, rfl, ru, rfl, ⟨_, SqL.of S2.hr⟩, fun D2 hD2 => ?_⟩
        refine lcg_list T (fun _ _ _ => True) hD2 (SqL.of S2.hr) trivial (fun j v K3 bs hj g3 hb hbl _ => ?_) (fun K3 bs g3 hb hbl _ => ?_)
        · obtain ⟨r0, hr0, rr⟩ := S2.ls.get_r hj
          have hjl := (List.getElem?_eq_some_iff.mp hj).1
          obtain ⟨q, b, rfl, hq, hb'⟩ := rd_rule (RD.mono g3.tupK _ _ rr)
          refine ⟨wp1, _, rfl, q, _, _, _, rfl, rfl, SqT.of hq, atI_nat (j := 3) rfl, b, _, rfl, .inr (SqT.of hb'), rfl, _, rfl, ?_⟩
          refine lenIf (fun c => ?_) (fun c => ?_)
          · exact ⟨_, rfl, LcI.add hD2 g3 hb hbl (by omega) (Go.refl _) trivial⟩
          · exact LcI.skip g3 hb hbl (Go.refl _) trivial
        · refine ⟨D2, bs, rfl, .inl (SqL.of hb), rfl, _, rfl, ?_⟩
          refine lenIf (fun c => ?_) (fun c => ?_)
          · refine ⟨_, rfl, m, 1, rfl, ?_⟩
            exact ⟨if 1 < m then 1 else m, by split <;> omega, by split <;> omega, rfl, S2.go g3⟩
          · exact ⟨m, m2.1, m2.2, rfl, S2.go g3⟩
      · rintro σ K3 ⟨m, m0, m2, rfl, S3⟩
        -- place, top, to
        refine ⟨_, rfl, _, rfl, d, l, 1 + x, rfl, S3.dl, by omega, by omega, fun K4 p gp4 dp4 p0 p1 => ?_⟩
        have S4 := S3.gd gp4 dp4
        refine ⟨_, rfl, _, rfl, d, l, 1 + y, rfl, S4.dl, by omega, by omega, fun K5 tp gp5 dp5 tp0 tp1 => ?_⟩
        have S5 := S4.gd gp5 dp5
        refine ⟨_, rfl, _, rfl, d, l, 1 + x, rfl, S5.dl, by omega, by omega, fun K6 to gp6 dp6 to0 to1 => ⟨_, _, _, rfl, ?_⟩⟩
        have S6 := S5.gd gp6 dp6
        -- the rule
        refine ⟨_, rfl, _, rfl, _, rfl, _, rfl, m, rfl, by omega, by omega, fun D3 hD3 => ?_⟩
        refine lcd_range (lo := 0) (n := m.toNat) T (fun j acc _ => ∃ ls : List Int, acc = ls.map V.int ∧ ls.length = j ∧ ∀ z ∈ ls, 0 ≤ z ∧ z < 1 + y) hD3 S6.dl ⟨[], rfl, rfl, fun _ h => by cases h⟩ (fun j K7 bs hj g7 d7 hb hbl r => ?_) (fun K7 bs g7 d7 hb hbl r => ?_)
        · obtain ⟨ls, rfl, ll, lr⟩ := r
          refine ⟨wp1, yesIf ?_⟩
          refine ⟨_, rfl, _, rfl, d, l, 1 + y, rfl, d7, by omega, by omega, fun K8 v g8 d8 v0 v1 => ?_⟩
          refine LcD.add hD3 S6.dl g7 hb hbl (by omega) g8 d8 ⟨ls ++ [v], by rw [List.map_append]; rfl, by rw [List.length_append, ll]; rfl, fun z hz => ?_⟩
          rcases List.mem_append.mp hz with h | h
          · exact lr z h
          · rw [List.mem_singleton.mp h]; exact ⟨v0, v1⟩
        obtain ⟨ls, rfl, ll, lr⟩ := r
        have S7 := S6.gd g7 d7
        refine ⟨D3, _, rfl, .inl ⟨SqL.of hb, fun lt nlt => ⟨(by show 4 ≤ sizeLine; decide), fun rt nrt => ?_⟩⟩⟩
        have h1 : Go T N0 K7 (upd K7 lt (.tup (ls.map V.int))) := Go.new nlt
        have h2 : Go T N0 (upd K7 lt (.tup (ls.map V.int))) (upd (upd K7 lt (.tup (ls.map V.int))) rt (.tup [V.int p, V.int tp, V.int to, V.ref lt])) := Go.new nrt
        have S8 := S7.go (h1.trans h2)
        have hrt : upd (upd K7 lt (.tup (ls.map V.int))) rt (.tup [V.int p, V.int tp, V.int to, V.ref lt]) rt = some (.tup [V.int p, V.int tp, V.int to, V.ref lt]) := upd_same
        have hlt : upd (upd K7 lt (.tup (ls.map V.int))) rt (.tup [V.int p, V.int tp, V.int to, V.ref lt]) lt = some (.tup (ls.map V.int)) := h2.tup upd_same
        generalize upd (upd K7 lt (.tup (ls.map V.int))) rt (.tup [V.int p, V.int tp, V.int to, V.ref lt]) = K8 at S8 hrt hlt ⊢
        -- how many alike
        refine ⟨_, rfl, ru, rfl, ⟨_, SqL.of S8.hr⟩, fun D4 hD4 => ?_⟩
        refine lcg_list T (fun _ _ _ => True) hD4 (SqL.of S8.hr) trivial (fun j v K9 bs hj g9 hb hbl _ => ?_) (fun K9 bs g9 hb hbl _ => ?_)
        · obtain ⟨r0, hr0, rr⟩ := S8.ls.get_r hj
          have hjl := (List.getElem?_eq_some_iff.mp hj).1
          obtain ⟨q, b, rfl, hq, hb'⟩ := rd_rule (RD.mono g9.tupK _ _ rr)
          refine ⟨wp1, _, rfl, 2, rfl, q, _, rfl, SqT.of hq, (fun z => absurd (show (2 : Nat) = 4 from z.2) (by decide)), fun t3 nt3 => ?_⟩
          have e1 : Go T N0 K9 (upd K9 t3 (.tup (cutV [V.int r0.1, V.int r0.2.1, V.int r0.2.2.1, V.ref b] none (some 2)))) := Go.new nt3
          refine ⟨_, rfl, 2, rfl, rt, _, rfl, SqT.of ((g9.trans e1).tup hrt), (fun z => absurd (show (2 : Nat) = 4 from z.2) (by decide)), fun t4 nt4 => ?_⟩
          have e2 := Go.new (T := T) (B := N0) (o := .tup (cutV [V.int p, V.int tp, V.int to, V.ref lt] none (some 2))) nt4
          refine ⟨dHead (r0.1, r0.2.1), dHead (p, tp), RD.mono e2.tupK _ _ (rd_mk_head (q := (r0.1, r0.2.1)) upd_same), rd_mk_head (q := (p, tp)) upd_same, by rw [dep_head]; decide, by rw [dep_head]; decide, _, rfl, ?_⟩
          refine ite2 (fun c => ?_) (fun c => ?_)
          · exact ⟨_, rfl, LcI.add hD4 g9 hb hbl (by omega) (e1.trans e2) trivial⟩
          · exact LcI.skip g9 hb hbl (e1.trans e2) trivial
        have S9 := S8.go g9
        refine ⟨D4, bs, rfl, .inl (SqL.of hb), ?_⟩
        -- is it let in
        have rok : RuleOk (1 + x) (1 + y) (p, tp, to, ls) := ⟨⟨p0, p1⟩, ⟨tp0, tp1⟩, ⟨to0, to1⟩, lr, by show ls.length ≤ 2; omega⟩
        have rrd : RD K9 (dRule (p, tp, to, ls)) (.ref rt) := rd_mk_rule (q := (p, tp, to, ls)) (g9.tup hrt) (g9.tup hlt)
        have out : ∃ (a6 a7 a8 a9 a10 a11 a12 : Option V) (xs' : List V) (rs' : List Rule), [some (V.ref d), some (.ref pw), some (.int (1 + x)), some (.int (1 + y)), some (.ref pl), some (.ref ru), some (.int (0 + (i : Int))), some (.int m), some (.int p), some (.int tp), some (.int to), some (.ref rt), some (.int (bs.length : Int)), none, none] = [some (.ref d), some (.ref pw), some (.int (1 + x)), some (.int (1 + y)), some (.ref pl), some (.ref ru), a6, a7, a8, a9, a10, a11, a12, none, none] ∧ GSt T d l H pw ru pl ws acc hands K9 xs' rs' ∧ (∀ r ∈ rs', RuleOk (1 + x) (1 + y) r) ∧ rs'.length ≤ 8 :=
          ⟨_, _, _, _, _, _, _, xs, rs, rfl, S9, ro, rl⟩
        refine ⟨_, rfl, _, rfl, dRule (p, tp, to, ls), ru, xs, rs.map dRule, rrd, by rw [dep_rule]; decide, rfl, SqL.of S9.hr, F2.to_map S9.ls, (fun e he => by obtain ⟨r1, _, rfl⟩ := List.mem_map.mp he; rw [dep_rule]; decide), _, rfl, ?_⟩
        refine ite2 (fun c1 => ?_) (fun c1 => out)
        refine ⟨_, rfl, ru, xs, rfl, .inl (SqL.of S9.hr), _, _, rfl, rfl, _, rfl, ?_⟩
        refine ite2 (fun c2 => ?_) (fun c2 => out)
        have c2 : (xs.length : Int) < 8 := of_decide_eq_true c2
        have pn : ((p.toNat : Nat) : Int) = p := Int.toNat_of_nonneg p0
        obtain ⟨hd, hhd⟩ : ∃ hd, hands[p.toNat]? = some hd := ⟨_, List.getElem?_eq_getElem (by have := S9.pi.1; omega)⟩
        obtain ⟨qh, nm, e1, e2⟩ := S9.pi.2.2 _ _ hhd
        have t1 : Evl.EvT (tTest (tOp rEq (tOp (rIxT K) (tOp (rIxT K) (tVar 4) (tVar 8)) (tC (.int 1))) (tC (.int 0)))) [some (.ref d), some (.ref pw), some (.int (1 + x)), some (.int (1 + y)), some (.ref pl), some (.ref ru), some (.int (0 + (i : Int))), some (.int m), some (.int p), some (.int tp), some (.int to), some (.ref rt), some (.int (bs.length : Int)), none, none] K9 (decide (V.int hd = V.int 0)) :=
          Evl.et_test (Evl.ev_op (Evl.ev_op (Evl.ev_op (Evl.ev_var rfl) (Evl.ev_var rfl) (Evl.rv_ixT (Evl.st_of S9.hp) (at_of pn.symm e1))) Evl.ev_c (Evl.rv_ixT (Evl.st_of e2) (atI_nat (j := 1) rfl))) Evl.ev_c (Evl.rv_eq rfl))
        have t2 : Evl.EvT (tTest (tOp (rI0 fun i j => .bl (decide (i < j))) (tVar 12) (tC (.int 2)))) [some (.ref d), some (.ref pw), some (.int (1 + x)), some (.int (1 + y)), some (.ref pl), some (.ref ru), some (.int (0 + (i : Int))), some (.int m), some (.int p), some (.int tp), some (.int to), some (.ref rt), some (.int (bs.length : Int)), none, none] K9 (decide ((bs.length : Int) < 2)) :=
          Evl.et_test (Evl.ev_op (Evl.ev_var rfl) Evl.ev_c Evl.rv_I0)
        refine (Evl.et_or t1 fun _ => t2) K9 (Evl.Ex.refl _) _ fun K10 e10 => ?_
        have g10 : Go T N0 K9 K10 := .same e10
        have S10 := S9.go g10
        refine ite2 (fun c3 => ?_) (fun c3 => ?_)
        · refine ⟨_, rfl, .inl ⟨rfl, _, SqL.of S10.hr⟩, _, rfl, ru, xs, _, rfl, rfl, S10.hr, sz_lt (by omega), ?_⟩
          refine ⟨_, _, _, _, _, _, _, _, rs ++ [(p, tp, to, ls)], rfl, ⟨⟨S10.g.go.mut S10.nu S10.hr, S10.g.tup.trans (tupK_upd S10.hr)⟩, S10.dl.upd S10.nr.1 S10.nr.2, S10.nw, S10.nr, S10.nu, S10.nwr, by rw [upd_ne S10.nwr]; exact S10.hw, tupK_upd S10.hr _ _ S10.hp, S10.pi.mono (tupK_upd S10.hr), upd_same, ?_⟩, fun r hr => ?_, ?_⟩
          · exact Ls.mono (S10.ls.app (RD.mono g10.tupK _ _ rrd)) (tupK_upd S10.hr)
          · rcases List.mem_append.mp hr with h | h
            · exact ro r h
            · rw [List.mem_singleton.mp h]; exact rok
          · rw [List.length_append, List.length_singleton]
            omega
        · exact ⟨_, _, _, _, _, _, _, xs, rs, rfl, S10, ro, rl⟩
    · rintro σ K1 ⟨a6, a7, a8, a9, a10, a11, a12, xs, rs, rfl, S1, ro, rl⟩
      refine ⟨_, rfl, _, rfl, 3, rfl, _, rfl, 3, 1 + y, rfl, rfl, 3 + (1 + y), rfl, pw, _, rfl, SqL.of S1.hw, fun p1 np1 => ?_⟩
      have h1 := Go.new (T := T) (B := N0) (o := .lst (cutV (ws.map V.str) (some 3) (some (3 + (1 + y))))) np1
      refine ⟨p1, _, rfl, .inl ⟨SqL.of upd_same, fun le nle => ?_⟩⟩
      have h2 := h1.trans (Go.new (T := T) (B := N0) (o := .tup (cutV (ws.map V.str) (some 3) (some (3 + (1 + y))))) nle)
      have hle : upd (upd K1 p1 (.lst (cutV (ws.map V.str) (some 3) (some (3 + (1 + y)))))) le (.tup (cutV (ws.map V.str) (some 3) (some (3 + (1 + y))))) le = some (.tup (cutV (ws.map V.str) (some 3) (some (3 + (1 + y))))) := upd_same
      generalize upd (upd K1 p1 (.lst (cutV (ws.map V.str) (some 3) (some (3 + (1 + y)))))) le (.tup (cutV (ws.map V.str) (some 3) (some (3 + (1 + y))))) = K2 at h2 hle ⊢
      refine ⟨_, rfl, ru, xs, rfl, .inl ⟨SqL.of (h2.lst S1.hr), fun rr nrr => ?_⟩⟩
      have h3 := Go.new (T := T) (B := N0) (o := .tup xs) nrr
      refine ⟨(by show 3 ≤ sizeLine; decide), fun ga nga => ?_⟩
      have h4 := Go.new (T := T) (B := N0) (o := .tup [V.ref pl, V.ref le, V.ref rr]) nga
      have S2 := S1.go (h2.trans (h3.trans h4))
      refine k _ ga (1 + x).toNat (1 + y).toNat ⟨hands, rs⟩ S2.g S2.dl ⟨pl, le, rr, acc, _, xs, upd_same, S2.hp, al, ?_, S2.pi.2.2, (h3.trans h4).tup hle, ?_, h4.tup upd_same, S2.ls⟩ ⟨by omega, by omega, by omega, by omega, S2.pi.2.1, fun r hr => ?_, rl⟩
      · show hands.length = _
        rw [S2.pi.1]
        exact al
      · have e1 := HT.sIx_nat 6 0 3
        have e2 := HT.sIx_nat 6 6 (3 + (1 + y)).toNat
        rw [show (((3 + (1 + y)).toNat : Nat) : Int) = 3 + (1 + y) by omega] at e2
        unfold cutV
        rw [List.length_map, wl, List.length_take, List.length_drop, List.length_map, wl]
        rw [show ((3 : Nat) : Int) = 3 from rfl] at e1
        rw [e1, e2]
        omega
      · have := ro r hr
        unfold RuleOk at this
        rw [show (((1 + x).toNat : Nat) : Int) = 1 + x by omega, show (((1 + y).toNat : Nat) : Int) = 1 + y by omega]
        exact this
end
end K27
end

section
set_option Elab.async false
set_option linter.all false
set_option maxRecDepth 100000
set_option maxHeartbeats 4000000
/-! K28g: the saying. -/
namespace K27
open PySem PySem.Spec PyProof.Rows L2
def SayOk (P S X : Int) (b : Say) : Prop := (0 ≤ b.1 ∧ b.1 < S) ∧ (0 ≤ b.2.1 ∧ b.2.1 < X) ∧ b.2.2.Pairwise (· < ·) ∧ ∀ t ∈ b.2.2, P ≤ t ∧ t < S
theorem dl_of {H : Hp} : ∀ {bs : List Say} {xs : List V}, Ls H dSay bs xs → ∃ ks : DL, xs = ks.map (fun p => V.ref p.1) ∧ (∀ p ∈ ks, RD H p.2 (.ref p.1)) ∧ ks.map Prod.snd = bs.map dSay
  | [], _, h => by
    cases h
    exact ⟨[], rfl, (fun _ h => by cases h), rfl⟩
  | b :: bs, _, h => by
    cases h with
    | cons r t =>
      obtain ⟨ks, e1, e2, e3⟩ := dl_of t
      obtain ⟨q, u, rfl, _, _⟩ := rd_say r
      refine ⟨(q, dSay b) :: ks, by rw [e1]; rfl, fun p hp => ?_, by rw [List.map_cons, e3]; rfl⟩
      rcases List.mem_cons.mp hp with z | z
      · subst z; exact r
      · exact e2 p z
theorem all_enc {α : Type} {enc : α → D} {A : List α} : ∀ ds : List D, (∀ d ∈ ds, ∃ a ∈ A, d = enc a) → ∃ as : List α, ds = as.map enc ∧ ∀ a ∈ as, a ∈ A
  | [], _ => ⟨[], rfl, fun _ h => by cases h⟩
  | d :: ds, h => by
    obtain ⟨x, hx, e⟩ := h d List.mem_cons_self
    obtain ⟨as, e2, m⟩ := all_enc ds fun y hy => h y (List.mem_cons_of_mem _ hy)
    refine ⟨x :: as, by rw [e, e2]; rfl, fun a ha => ?_⟩
    rcases List.mem_cons.mp ha with z | z
    · rw [z]; exact hx
    · exact m a z
section
variable {P : Program} {w : World} {K : PySem.W.Frag} {mg : Str → Option Value} {base : Heap} {T : Tb}
theorem scSaying : FnScope ["_law_deal_here", "_law_game_here", "_law_places", "_law_own", "_law_arrows", "_law_k", "_law_stand", "_law_top", "_law_rule"] ["_law_deal_here", "_law_game_here"] (defScope sSaying) := ⟨rfl, rfl, rfl, by decide +kernel, rfl, by decide +kernel, by decide +kernel⟩
def spSaying (T : Tb) : Sp := fun vs H Q _ => ∃ (d l a : Addr) (P X : Nat) (g : Gm), vs = [.ref d, .ref a] ∧ DealAt H d l ∧ GmAt H a P X g ∧ GameOk P X g ∧
  ∀ (H' : Hp) (sa : Addr) (S : Nat) (bs : List Say) (ends : List Int), Gd T d l H H' → DealAt H' d l → SayAt H' sa bs ends → OkG P S X g (bs.map cost0) ends → ends.length ≤ 100 → Q (.ref sa) H'
theorem ok_saying {f fD fS : Addr} {fd fdD fdS : FuncData} (F : Fun K "_law_saying" "_law_saying" sSaying f fd) (GD : FnOk P w K mg base CX0 1 fD fdD ["_law_deal_here", "_law_many"] (spDraw T)) (kD : PySem.W.keepIn K (.ref fD) = true) (bD : Binds K fdD ["_law_deal_here", "_law_many"] []) (mD : mg "_law_draw" = some (.ref fD))
    (GS : FnOk P w K mg base CX0 2 fS fdS ["_law_deal_here", "_law_begin", "_law_end"] (spSome T)) (kS : PySem.W.keepIn K (.ref fS) = true) (bS : Binds K fdS ["_law_deal_here", "_law_begin", "_law_end"] []) (mS : mg "_law_some" = some (.ref fS))
    (mRange : mg "range" = none) (mTuple : mg "tuple" = none) (mLen : mg "len" = none) (mSorted : mg "sorted" = none) (mSet : mg "set" = none) : FnOk P w K mg base CX0 3 f fd ["_law_deal_here", "_law_game_here"] (spSaying T) := by
  refine F.ok scSaying (fun vs H Q E h => ?_) (fun cdv A outer s H vs Q E hr h => ?_)
  · obtain ⟨d, l, a, P, X, g, rfl, _⟩ := h
    rfl
  · obtain ⟨d, l, a, PP, X, g, rfl, dl, hg, go, k⟩ := h
    have hr1 : Room 1 (A.deeper (envOfC "_law_saying" (defScope sSaying) s.heap.objs.size f cdv)) := hr.mono (by decide)
    have hu := hr.units
    refine ⟨_, pss_cons (ps_set (i := 2) scSaying.nd rfl (.inl rfl) (pe_callB (lenS K) (by rfl) mLen PySem.boot_len (pa_cons (pe_ix (ixT K) (pv 1) pe_int (fun _ _ => rfl)) pa_nil)))
      (pss_cons (ps_set (i := 3) scSaying.nd rfl (.inl rfl) (pe_call GD hr1 (by rfl) mD kD bD .nil pass0 (pa_cons (pv 0) (pa_cons pe_int pa_nil))))
      (C8.pss_cut (ps_if (PW.pt (pw_and (pt_cmpR op_eq (pe_op op_add (pv 2) (pv 3)) pe_int (nomark _)) (pw_and1 (pt_cmpR op_gt (pe_callB (lenS K) (by rfl) mLen PySem.boot_len (pa_cons (pe_lc (own := [("_law_rule", 8)]) (g := gName 8) rfl scSaying.nd (pi_tup (pe_ix (ixT K) (pv 1) pe_int (fun _ _ => rfl)))
            (blkOk_by (N := ["_law_deal_here", "_law_game_here", "_law_places", "_law_own", "_law_arrows", "_law_k", "_law_stand", "_law_top", "_law_rule"]) (sc := defScope sSaying) (by decide +kernel)) (fun _ _ _ _ _ => pg_name (i := 8) scSaying.nd rfl (Or.inl rfl))
            (fun _ _ _ _ _ => pts_one (pt_cmpR op_eq (pe_callB (lenS K) (by rfl) mLen PySem.boot_len (pa_cons (pe_ix (ixT K) (pv 8) pe_int (fun _ _ => rfl)) pa_nil)) pe_int (nomark _))) (fun _ _ _ _ _ => pv 8)) pa_nil)) pe_int (nomark _)))))
          (pss_one (ps_set (i := 3) scSaying.nd rfl (.inl rfl) pe_int)) pss_nil)
      (pss_cons (ps_set (i := 4) scSaying.nd rfl (.inl rfl) (pe_lst pa_nil))
      (pss_cons (ps_for PassesOwn.never rfl (pi_range1 (by rfl) mRange (pa_cons (pe_ix (ixL K) (pe_lst (pa_cons pe_int (pa_cons pe_int (pa_cons pe_int pa_nil)))) (pe_call GD hr1 (by rfl) mD kD bD .nil pass0 (pa_cons (pv 0) (pa_cons pe_int pa_nil))) (fun _ _ => rfl)) pa_nil)) (pg_name (i := 5) scSaying.nd rfl (Or.inl rfl))
        (pss_cons (ps_par (i := 6) (j := 7) rfl scSaying.nd rfl rfl (by decide) rfl rfl (pa_cons (pe_call GD hr1 (by rfl) mD kD bD .nil pass0 (pa_cons (pv 0) (pa_cons (pe_op op_add (pv 2) (pv 3)) pa_nil)))
            (pa_cons (pe_call GD hr1 (by rfl) mD kD bD .nil pass0 (pa_cons (pv 0) (pa_cons (pe_callB (lenS K) (by rfl) mLen PySem.boot_len (pa_cons (pe_ix (ixT K) (pv 1) pe_int (fun _ _ => rfl)) pa_nil)) pa_nil))) pa_nil)) (by rfl))
        (pss_one (ps_expr (pe_bm PySem.F.plainAttrs_list PySem.F.slot_list_append PySem.F.type_list_append mt_append (pv 4) (pa_cons (pe_tup (pa_cons (pv 6) (pa_cons (pv 7) (pa_cons (pe_call GS hr (by rfl) mS kS bS .nil pass0 (pa_cons (pv 0) (pa_cons (pv 2) (pa_cons (pe_op op_add (pv 2) (pv 3)) pa_nil)))) pa_nil)))) pa_nil))))))
      (pss_one (ps_ret (pe_tup (pa_cons (pv 3) (pa_cons (pe_callTy (tupOf K) (by rfl) mTuple (by decide +kernel) (pa_cons (pe_callB (sortSetD w rfl hu) (by rfl) mSorted (by decide +kernel) (pa_cons (pe_callTy (setD K w rfl hu) (by rfl) mSet (by decide +kernel) (pa_cons (pv 4) pa_nil)) pa_nil)) pa_nil))
        (pa_cons (pe_call GS hr (by rfl) mS kS bS .nil pass0 (pa_cons (pv 0) (pa_cons pe_int (pa_cons (pe_op op_add (pv 2) (pv 3)) pa_nil)))) pa_nil)))))))))), ?_⟩
    obtain ⟨pl, le, ru, ps, ls, rs, h1, h2, h3, h4, h5, h6, h7, h8, h9⟩ := id hg
    have p1 := go.p1
    have p3 := go.p3
    refine ⟨_, rfl, a, _, _, _, rfl, rfl, SqT.of h1, atI_nat (j := 0) rfl, pl, ps, rfl, .inr (SqT.of h2), ?_⟩
    rw [h3]
    refine ⟨_, rfl, d, l, 3, rfl, dl, by decide, by decide, fun H1 ow g1 d1 o0 o1 => ?_⟩
    refine ⟨fun σ' H' => ∃ ow : Int, 0 ≤ ow ∧ ow < 3 ∧ σ' = [some (.ref d), some (.ref a), some (.int (PP : Int)), some (.int ow), none, none, none, none, none] ∧ Gd T d l H H' ∧ DealAt H' d l, ?_, ?_⟩
    · refine ⟨_, rfl, _, rfl, PP, ow, rfl, rfl, rfl, _, rfl, ?_⟩
      refine ite2 (fun c => ?_) (fun c => ⟨ow, o0, o1, rfl, g1, d1⟩)
      refine ⟨_, rfl, a, _, _, _, rfl, rfl, SqT.of (g1.tup _ _ h1), atI_nat (j := 2) rfl, ru, rfl, ⟨_, SqT.of (g1.tup _ _ h8)⟩, fun D hD => ?_⟩
      refine lcg_tup T (fun _ _ _ => True) hD (SqT.of (g1.tup _ _ h8)) trivial (fun j v H2 bs hj g2 hb hbl _ => ?_) (fun H2 bs g2 hb hbl _ => ?_)
      · obtain ⟨r0, hr0, rr⟩ := h9.get_r hj
        have hjl := (List.getElem?_eq_some_iff.mp hr0).1
        have rl := go.rl
        obtain ⟨q, b, rfl, hq, hb'⟩ := rd_rule (RD.mono (g1.tup.trans g2.tupK) _ _ rr)
        refine ⟨wp1, _, rfl, q, _, _, _, rfl, rfl, SqT.of hq, atI_nat (j := 3) rfl, b, _, rfl, .inr (SqT.of hb'), rfl, _, rfl, ?_⟩
        refine lenIf (fun c => ?_) (fun c => ?_)
        · exact ⟨_, rfl, LcI.add hD g2 hb hbl (by omega) (Go.refl _) trivial⟩
        · exact LcI.skip g2 hb hbl (Go.refl _) trivial
      · refine ⟨D, bs, rfl, .inl (SqL.of hb), _, _, rfl, rfl, _, rfl, ?_⟩
        refine ite2 (fun c => ?_) (fun c => ?_)
        · exact ⟨1, by decide, by decide, rfl, g1.trans (.of g2), d1.of g2⟩
        · exact ⟨ow, o0, o1, rfl, g1.trans (.of g2), d1.of g2⟩
    · rintro σ H2 ⟨ow, o0, o1, rfl, g2, d2⟩
      refine ⟨Nat.zero_le _, fun ar nar => ?_⟩
      have ga : Go T N0 H2 (upd H2 ar (.lst [])) := .new nar
      have g3 := g2.trans (.of ga)
      have d3 := d2.of ga
      have nad := d2.nd nar
      have nu : New H ar := g2.fresh d2 nar
      have har : upd H2 ar (.lst []) ar = some (.lst []) := upd_same
      generalize upd H2 ar (.lst []) = H3 at g3 d3 har ⊢
      refine ⟨(by show 3 ≤ sizeLine; decide), fun q1 nq1 => ⟨_, rfl, d, l, 3, rfl, d3.of (T := T) (.new nq1), by decide, by decide, fun H4 z g4 d4 z0 z1 => ?_⟩⟩
      obtain ⟨m, hm, em⟩ := pick [2, 4, 8] z0 z1
      have m8 : 0 ≤ m ∧ m ≤ 8 := by
        simp only [List.mem_cons, List.not_mem_nil, or_false] at hm
        omega
      have nqd := d3.nd nq1
      have g04 : Gd T d l H3 H4 := (Gd.of (.new nq1)).trans g4
      refine ⟨q1, _, z, .int m, rfl, rfl, SqL.of (g4.keep upd_same nqd.1 nqd.2), em, m, rfl, by omega, by omega, ?_⟩
      refine for_range (lo := 0) (n := m.toNat) (fun i σ H' => ∃ (a5 a6 a7 : Option V) (xs : List V) (bs : List Say), σ = [some (.ref d), some (.ref a), some (.int (PP : Int)), some (.int ow), some (.ref ar), a5, a6, a7, none] ∧ Gd T d l H H' ∧ DealAt H' d l ∧ H' ar = some (.lst xs) ∧ Ls H' dSay bs xs ∧ (∀ b ∈ bs, SayOk PP (PP + ow) X b) ∧ bs.length ≤ i)
        ⟨none, none, none, [], [], rfl, g3.trans g04, d4, g04.keep har nad.1 nad.2, .nil, (fun _ h => by cases h), Nat.zero_le _⟩ ?_ ?_
      · rintro i σ H5 hi ⟨a5, a6, a7, xs, bs, rfl, g5, d5, har5, hls, sok, bl⟩
        have xl := hls.len
        refine ⟨_, rfl, _, rfl, _, rfl, PP, ow, rfl, rfl, d, l, (PP : Int) + ow, rfl, d5, by omega, by omega, fun H6 st g6 d6 s0 s1 => ?_⟩
        have g56 := g5.trans g6
        refine ⟨_, rfl, _, rfl, a, _, _, _, rfl, rfl, SqT.of (g56.tup _ _ h1), atI_nat (j := 1) rfl, le, ls, rfl, .inr (SqT.of (g56.tup _ _ h6)), d, l, (ls.length : Int), rfl, d6, ?_, ?_, fun H7 tp g7 d7 t0 t1 => ⟨_, _, rfl, ?_⟩⟩
        · have := go.x1
          omega
        · have := go.x3
          omega
        have g57 := g56.trans g7
        refine ⟨_, rfl, .inl ⟨rfl, _, SqL.of ((g6.trans g7).keep har5 nad.1 nad.2)⟩, _, rfl, _, rfl, _, rfl, _, rfl, _, rfl, _, rfl, PP, ow, rfl, rfl, d, l, (PP : Int), (PP : Int) + ow, rfl, d7, by omega, by omega, by omega, fun H8 tt ts g8 d8 htt tsrt trng => ⟨(by show 3 ≤ sizeLine; decide), fun bt nbt => ?_⟩⟩
        have g9 : Gd T d l H8 (upd H8 bt (.tup [V.int st, V.int tp, V.ref tt])) := .of (.new nbt)
        have g59 : Gd T d l H5 (upd H8 bt (.tup [V.int st, V.int tp, V.ref tt])) := (g6.trans g7).trans (g8.trans g9)
        have har9 := g59.keep har5 nad.1 nad.2
        refine ⟨ar, xs, _, rfl, rfl, har9, sz_lt (by omega), ?_⟩
        refine ⟨_, _, _, _, bs ++ [(st, tp, ts)], rfl, ⟨(g5.trans g59).go.mut nu har9, (g5.trans g59).tup.trans (tupK_upd har9)⟩, (d8.of (T := T) (.new nbt)).upd nad.1 nad.2, upd_same, ?_, fun b hb => ?_, ?_⟩
        · refine Ls.mono ((hls.mono g59.tup).app ?_) (tupK_upd har9)
          exact rd_mk_say (q := (st, tp, ts)) upd_same (g9.tup _ _ htt)
        · rcases List.mem_append.mp hb with h | h
          · exact sok b h
          · rw [List.mem_singleton.mp h]
            exact ⟨⟨s0, s1⟩, ⟨t0, by show tp < (X : Int); omega⟩, tsrt, trng⟩
        · rw [List.length_append, List.length_singleton]
          omega
      · rintro σ H5 ⟨a5, a6, a7, xs, bs, rfl, g5, d5, har5, hls, sok, bl⟩
        obtain ⟨ks, rfl, hks, es⟩ := dl_of hls
        have bl8 : bs.length ≤ 8 := by omega
        refine ⟨_, rfl, _, rfl, ar, ks, bs.map dSay, rfl, SqL.of har5, fun p hp => ⟨hks p hp, ?_⟩, fun p hp => ?_, by rw [List.length_map]; omega, fun sa L ns c1 c2 c3 => ?_⟩
        · have : p.2 ∈ bs.map dSay := by rw [← es]; exact List.mem_map.mpr ⟨p, hp, rfl⟩
          obtain ⟨b, _, e⟩ := List.mem_map.mp this
          rw [← e, dep_say]
          decide
        · rw [← es]
          exact List.mem_map.mpr ⟨p, hp, rfl⟩
        have gs : Go T N0 H5 (upd H5 sa (SetDO w sa L)) := Go.new ns
        have LA : ∀ p ∈ L, ∃ b ∈ bs, p.2 = dSay b := fun p hp => by
          have : p.2 ∈ bs.map dSay := by rw [← es]; exact List.mem_map.mpr ⟨p, c1 p hp, rfl⟩
          obtain ⟨b, hb, e⟩ := List.mem_map.mp this
          exact ⟨b, hb, e.symm⟩
        refine ⟨sa, L, true, rfl, upd_same, fun p hp => ⟨RD.mono gs.tupK _ _ (hks p (c1 p hp)), ?_, ?_⟩, fun p hp q hq => ?_, fun ds ys p pm nd dl2 srt hys np => ?_⟩
        · obtain ⟨b, _, e⟩ := LA p hp
          rw [e, dep_say]
          decide
        · obtain ⟨b, _, e⟩ := LA p hp
          rw [e]
          exact fst_say _
        · obtain ⟨b, _, e⟩ := LA p hp
          obtain ⟨b2, _, e2⟩ := LA q hq
          rw [e, e2]
          exact cpt_say _ _
        obtain ⟨as, eas, asm⟩ := all_enc (A := bs) (enc := dSay) ds fun d hd => by
          obtain ⟨p, hp, e⟩ := List.mem_map.mp (pm.mem_iff.mp hd)
          obtain ⟨b, hb, e2⟩ := LA p hp
          exact ⟨b, hb, by rw [← e, e2]⟩
        subst eas
        have asl : as.length ≤ 8 := by
          have := nodup_len _ (bs.map dSay) nd fun d hd => by
            obtain ⟨b, hb, e⟩ := List.mem_map.mp hd
            exact List.mem_map.mpr ⟨b, asm b hb, e⟩
          rw [List.length_map, List.length_map] at this
          omega
        have gp : Go T N0 (upd H5 sa (SetDO w sa L)) (upd (upd H5 sa (SetDO w sa L)) p (.lst ys)) := Go.new np
        refine ⟨p, ys, rfl, .inl ⟨SqL.of upd_same, fun aw naw => ?_⟩⟩
        have gw := (gs.trans gp).trans (Go.new (T := T) (B := N0) (o := .tup ys) naw)
        have haw : upd (upd (upd H5 sa (SetDO w sa L)) p (.lst ys)) aw (.tup ys) aw = some (.tup ys) := upd_same
        have hys2 : Ls (upd (upd (upd H5 sa (SetDO w sa L)) p (.lst ys)) aw (.tup ys)) dSay as ys := Ls.mono (enc := dSay) (F2.map_l hys) (gp.tupK.trans (tupK_new naw))
        have d6 := d5.of gw
        have g6 := g5.trans (.of gw)
        generalize upd (upd (upd H5 sa (SetDO w sa L)) p (.lst ys)) aw (.tup ys) = H6 at haw hys2 d6 g6 ⊢
        refine ⟨_, rfl, _, rfl, _, rfl, PP, ow, rfl, rfl, d, l, 0, (PP : Int) + ow, rfl, d6, by decide, by omega, by omega, fun H7 ew ends g7 d7 hew esrt erng => ⟨(by show 3 ≤ sizeLine; decide), fun sy nsy => ?_⟩⟩
        have g8 : Go T N0 H7 (upd H7 sy (.tup [V.int ow, V.ref aw, V.ref ew])) := Go.new nsy
        have t8 := g7.tup.trans g8.tupK
        refine k _ sy (PP + ow.toNat) as ends ((g6.trans g7).trans (.of g8)) (d7.of g8) ⟨ow, aw, ew, ys, upd_same, t8 _ _ haw, hys2.mono t8, g8.tup hew⟩ ?_ (Nat.le_trans (OkT.len (S := PP + ow) ⟨esrt, erng⟩ (by omega)) (by decide))
        have eS : ((PP + ow.toNat : Nat) : Int) = PP + ow := by omega
        refine ⟨p1, p3, by omega, by omega, go.x3, h4, go.hh, go.ru, go.rl, fun x hx => ?_, fun x hx => ?_, by rw [List.length_map]; exact asl, fun t ht => ?_⟩
        · obtain ⟨b, hb, rfl⟩ := List.mem_map.mp hx
          obtain ⟨s1, s2, s3, s4⟩ := sok b (asm b hb)
          rw [eS]
          exact ⟨s1, s2, ⟨s3, fun t ht => by have := s4 t ht; omega⟩, Int.le_refl _⟩
        · obtain ⟨b, hb, rfl⟩ := List.mem_map.mp hx
          obtain ⟨s1, s2, s3, s4⟩ := sok b (asm b hb)
          exact ⟨rfl, fun t ht => (s4 t ht).1⟩
        · rw [eS]
          exact erng t ht
end
end K27
end

section
set_option Elab.async false
set_option linter.all false
set_option maxRecDepth 100000
set_option maxHeartbeats 4000000
/-! K28h: the least costs, letter by letter; a list or a tuple walked. -/
namespace K27
open PySem PySem.Spec PyProof.Rows L2
abbrev Fi := Int → Option Int
def okA_ (f : Fi) (a : Arr) : Bool := a.2.2.1.all fun t => (f t).isSome
def mxl : List Int → Int
  | [] => 0
  | x :: l => if mxl l < x then x else mxl l
theorem mxl_nn : ∀ l, 0 ≤ mxl l
  | [] => Int.le_refl _
  | x :: l => by
    have := mxl_nn l
    unfold mxl
    split <;> omega
theorem mxl_ge : ∀ {l : List Int} {x : Int}, x ∈ l → x ≤ mxl l
  | [], _, h => by cases h
  | y :: l, x, h => by
    unfold mxl
    rcases List.mem_cons.mp h with e | e
    · subst e; split <;> omega
    · have := mxl_ge e
      split <;> omega
theorem mxl_le : ∀ {l : List Int} {d : Int}, 0 ≤ d → (∀ x ∈ l, x ≤ d) → mxl l ≤ d
  | [], _, h, _ => h
  | y :: l, d, h0, h => by
    have := mxl_le h0 fun x hx => h x (List.mem_cons_of_mem _ hx)
    have := h y List.mem_cons_self
    unfold mxl
    split <;> omega
theorem mxl_is {l : List Int} {m : Int} (h : m ∈ (0 : Int) :: l) (k : ∀ y ∈ (0 : Int) :: l, y ≤ m) : m = mxl l := by
  have h0 := k 0 List.mem_cons_self
  have a : mxl l ≤ m := mxl_le h0 fun x hx => k x (List.mem_cons_of_mem _ hx)
  have b : m ≤ mxl l := by
    rcases List.mem_cons.mp h with e | e
    · rw [e]; exact mxl_nn l
    · exact mxl_ge e
  omega
def costA (f : Fi) (a : Arr) : Int := a.2.2.2 + mxl (a.2.2.1.map fun t => (f t).getD 0)
def costs (A : List Arr) (f : Fi) (s x : Int) : List Int := ((A.filter fun a => decide (a.1 = s) && decide (a.2.1 = x)).filter (okA_ f)).map (costA f)
theorem mem_costs {A : List Arr} {f : Fi} {s x c : Int} : c ∈ costs A f s x ↔ ∃ t k, (s, x, t, k) ∈ A ∧ okA_ f (s, x, t, k) = true ∧ c = costA f (s, x, t, k) := by
  unfold costs
  rw [List.mem_map]
  constructor
  · rintro ⟨⟨s', x', t, k⟩, h, e⟩
    rw [List.mem_filter, List.mem_filter, Bool.and_eq_true, decide_eq_true_eq, decide_eq_true_eq] at h
    obtain ⟨⟨h1, h2, h3⟩, h4⟩ := h
    simp only at h2 h3
    subst h2
    subst h3
    exact ⟨t, k, h1, h4, e.symm⟩
  · rintro ⟨t, k, h1, h2, e⟩
    exact ⟨(s, x, t, k), List.mem_filter.mpr ⟨List.mem_filter.mpr ⟨h1, by simp⟩, h2⟩, e.symm⟩
theorem okA_iff {f : Fi} {a : Arr} : okA_ f a = true ↔ ∀ t ∈ a.2.2.1, ∃ c, f t = some c := by
  unfold okA_
  rw [List.all_eq_true]
  exact ⟨fun h t ht => Option.isSome_iff_exists.mp (h t ht), fun h t ht => Option.isSome_iff_exists.mpr (h t ht)⟩
theorem IsCosts.nil (A : List Arr) (ends : List Int) (f : Fi) (hf : ∀ s, f s = if s ∈ ends then some 0 else none) : IsCosts A (fun t => t ∈ ends) [] f := fun s => by
  rw [hf]
  by_cases h : s ∈ ends
  · rw [if_pos h]
    exact ⟨(fun c e => by cases e; exact ⟨⟨h, Int.le_refl _⟩, fun c' r => r.2⟩), (fun e => by cases e)⟩
  · rw [if_neg h]
    exact ⟨(fun c e => by cases e), fun _ c r => h r.1⟩
theorem IsCosts.step {A : List Arr} {E : Int → Prop} {w : List Int} {x : Int} {f f' : Fi} (h : IsCosts A E w f) (k : ∀ s, (costs A f s x = [] ∧ f' s = none) ∨ ∃ m, f' s = some m ∧ m ∈ costs A f s x ∧ ∀ y ∈ costs A f s x, m ≤ y) : IsCosts A E (x :: w) f' := fun s => by
  have up : ∀ c, Rd A E (x :: w) s c → ∃ c' ∈ costs A f s x, c' ≤ c := fun c ⟨t, k0, hm, d, d0, hc, hr⟩ => by
    have ok : ∀ u ∈ t, ∃ c, f u = some c ∧ c ≤ d := fun u hu => by
      cases e : f u with
      | none => exact absurd (hr u hu) ((h u).2 e d)
      | some c => exact ⟨c, rfl, ((h u).1 c e).2 d (hr u hu)⟩
    refine ⟨costA f (s, x, t, k0), mem_costs.mpr ⟨t, k0, hm, okA_iff.mpr fun u hu => let ⟨c, e, _⟩ := ok u hu; ⟨c, e⟩, rfl⟩, ?_⟩
    have : mxl (t.map fun u => (f u).getD 0) ≤ d := mxl_le d0 fun y hy => by
      obtain ⟨u, hu, e⟩ := List.mem_map.mp hy
      obtain ⟨c, e2, hc⟩ := ok u hu
      rw [← e, e2]
      exact hc
    show k0 + mxl (t.map fun u => (f u).getD 0) ≤ c
    omega
  rcases k s with ⟨e1, e2⟩ | ⟨m, e, hm, hmin⟩
  · refine ⟨(fun c e => by rw [e2] at e; cases e), fun _ c r => ?_⟩
    obtain ⟨c', hc', _⟩ := up c r
    rw [e1] at hc'
    cases hc'
  · refine ⟨fun c ec => ?_, (fun en => by rw [e] at en; cases en)⟩
    rw [e] at ec
    cases ec
    refine ⟨?_, fun c' r => ?_⟩
    · obtain ⟨t, k0, ha, ok, rfl⟩ := mem_costs.mp hm
      refine ⟨t, k0, ha, mxl (t.map fun u => (f u).getD 0), mxl_nn _, Int.le_refl _, fun u hu => ?_⟩
      obtain ⟨c, ec⟩ := okA_iff.mp ok u hu
      refine ((h u).1 c ec).1.le (mxl_ge (List.mem_map.mpr ⟨u, hu, ?_⟩))
      rw [ec]
      rfl
    · obtain ⟨c, hc, le⟩ := up c' r
      have := hmin c hc
      omega
/-! ### for x in xs, xs a list or a tuple -/
def SqA (K : PySem.W.Frag) (H : Hp) (a : Addr) (xs : List V) : Prop := SqL K H a xs ∨ SqT K H a xs
theorem SqA.go {T : Tb} {K : PySem.W.Frag} {H H' : Hp} {a : Addr} {xs : List V} (h : SqA K H a xs) (g : Go T N0 H H') : SqA K H' a xs := h.elim (fun h => .inl (g.seq h)) fun h => .inr (g.seqT h)
def iSeqA (K : PySem.W.Frag) (te : TE) : TI := fun σ H R => te σ H fun v H1 => ∃ a, v = .ref a ∧ (((∃ xs, SqL K H1 a xs) ∧ R (Itl K a) H1) ∨ ((∃ xs, SqT K H1 a xs) ∧ R (Itt K a) H1))
section
variable {X : Cx} {tg : Expr}
theorem pi_seqA {e : Expr} {te : TE} (he : PE X e te) : PI X tg e (iSeqA X.K te) := by
  refine ⟨fun pins s σ H R I h => ?_⟩
  refine thn (he.run pins s σ H _ I h) fun u s1 ⟨v, H1, I1, r1, q1⟩ => ?_
  obtain ⟨a, rfl, q⟩ := q1
  obtain rfl : u = Value.ref a := r1
  rcases q with ⟨⟨xs, hq⟩, q⟩ | ⟨⟨xs, hq⟩, q⟩
  · obtain ⟨its, rv, p, hz⟩ := I1.list hq
    refine wpAny_pyIter_list p.isList ?_
    refine ⟨s1.heap.objs.size, [s1.heap.objs.size], _, _, H1, rfl, I1.kept (t' := s1.toks) fun b o e => Heap.get?_push_of_some _ e, turn_list a _, ⟨_, Heap.get?_push_size _ rfl, rfl, rfl⟩, fun b hb => ?_, q⟩
    rw [List.mem_singleton.mp hb]
    exact I1.fpOk (Nat.le_refl _) (I1.hok.fresh (Nat.le_refl _))
  · obtain ⟨its, rv, p, hz⟩ := I1.tuple hq
    refine wpAny_pyIter_tuple (show s1.heap.IsTuple a its.toArray from p) ?_
    refine ⟨s1.heap.objs.size, [s1.heap.objs.size], _, _, H1, rfl, I1.kept (t' := s1.toks) fun b o e => Heap.get?_push_of_some _ e, turn_tuple a _, ⟨_, Heap.get?_push_size _ rfl, rfl, rfl⟩, fun b hb => ?_, q⟩
    rw [List.mem_singleton.mp hb]
    exact I1.fpOk (Nat.le_refl _) (I1.hok.fresh (Nat.le_refl _))
theorem seqA (K : PySem.W.Frag) {e : Expr} {te : TE} (he : PE X e te) (h : X.K = K := by rfl) : PI X tg e (iSeqA K te) := by subst h; exact pi_seqA he
end
/-- the comprehension over it -/
theorem lcg_seqA {K : PySem.W.Frag} {H1 : Hp} {a : Addr} {xs : List V} {g : TG} {tt : TT} {te : TE} {vs : List Nat} {σ : L2.St} {Qd : Addr → Hp → Prop} (T : Tb) (R : Nat → List V → Hp → Prop) (hx : SqA K H1 a xs) (h0 : ∀ D, H1 D = none → R 0 [] (upd H1 D (.lst [])))
    (hs : ∀ D, H1 D = none → ∀ i x H acc, xs[i]? = some x → Go T N0 H1 H → H D = some (.lst acc) → acc.length ≤ i → R i acc H → g x (wipe σ vs) H fun σ2 H2 => wipe σ2 vs = wipe σ vs ∧ tt σ2 H2 fun b H3 =>
      if b = true then te σ2 H3 fun y H4 => ∃ acc, H4 D = some (.lst acc) ∧ acc.length < sizeLine ∧ LcI T H1 D R (i + 1) (upd H4 D (.lst (acc ++ [y]))) else LcI T H1 D R (i + 1) H3)
    (hd : ∀ D, H1 D = none → ∀ H acc, Go T N0 H1 H → H D = some (.lst acc) → acc.length ≤ xs.length → R xs.length acc H → Qd D H) :
    ((∃ xs, SqL K H1 a xs) ∧ ∀ D, H1 D = none → ∃ W : Nat → Nat → Hp → Prop, (∃ m, W 0 m (upd H1 D (.lst []))) ∧ ∀ i m H, W i m H →
      ((Itl K a).stop i H ∧ Qd D H) ∨ ((Itl K a).go i H ∧ ∃ Nx : Hp → Prop, (∀ H', Nx H' → ∃ m', m' < m ∧ W (i + 1) m' H') ∧ ∀ x H', (Itl K a).yld i H x H' → g x (wipe σ vs) H' fun σ2 H2 => wipe σ2 vs = wipe σ vs ∧ tt σ2 H2 fun b H3 =>
        if b = true then te σ2 H3 fun y H4 => ∃ acc, H4 D = some (.lst acc) ∧ acc.length < sizeLine ∧ Nx (upd H4 D (.lst (acc ++ [y]))) else Nx H3)) ∨
    ((∃ xs, SqT K H1 a xs) ∧ ∀ D, H1 D = none → ∃ W : Nat → Nat → Hp → Prop, (∃ m, W 0 m (upd H1 D (.lst []))) ∧ ∀ i m H, W i m H →
      ((Itt K a).stop i H ∧ Qd D H) ∨ ((Itt K a).go i H ∧ ∃ Nx : Hp → Prop, (∀ H', Nx H' → ∃ m', m' < m ∧ W (i + 1) m' H') ∧ ∀ x H', (Itt K a).yld i H x H' → g x (wipe σ vs) H' fun σ2 H2 => wipe σ2 vs = wipe σ vs ∧ tt σ2 H2 fun b H3 =>
        if b = true then te σ2 H3 fun y H4 => ∃ acc, H4 D = some (.lst acc) ∧ acc.length < sizeLine ∧ Nx (upd H4 D (.lst (acc ++ [y]))) else Nx H3)) := by
  rcases hx with hx | hx
  · exact .inl ⟨⟨xs, hx⟩, fun D hD => lcg_list T R hD hx (h0 D hD) (hs D hD) fun H acc g ha hl r => hd D hD H acc g ha hl r⟩
  · exact .inr ⟨⟨xs, hx⟩, fun D hD => lcg_tup T R hD hx (h0 D hD) (hs D hD) fun H acc g ha hl r => hd D hD H acc g ha hl r⟩
end K27
end

section
set_option Elab.async false
set_option linter.all false
set_option maxRecDepth 100000
set_option maxHeartbeats 4000000
/-! K28i: the least costs, as they are computed. -/
namespace K27
open PySem PySem.Spec PyProof.Rows L2
section
variable {X : Cx}
theorem allK (K : PySem.W.Frag) (hc : X.calm = true) (h : X.K = K := by rfl) : CallR X (.builtin "all") (rAll K) := by subst h; exact cr_all hc
theorem maxK (K : PySem.W.Frag) (hc : X.calm = true) (h : X.K = K := by rfl) : CallR X (.builtin "max") (rMax K) := by subst h; exact cr_max hc
theorem minK (K : PySem.W.Frag) (hc : X.calm = true) (h : X.K = K := by rfl) : CallR X (.builtin "min") (rMin K) := by subst h; exact cr_min hc
theorem neL (K : PySem.W.Frag) (hu : X.A.units + 64 < cLine) (h : X.K = K := by rfl) : OpR X (compareOp .NotEq) (rNeL K) := by subst h; exact op_neL hu
theorem tupI {tg e : Expr} {te : TE} (K : PySem.W.Frag) (he : PE X e te) (h : X.K = K := by rfl) : PI X tg e (iTup K te) := by subst h; exact pi_tup he
end
theorem Go.mutD {T : Tb} {B : Addr → Prop} {H H1 : Hp} {p : Addr} {kvs kvs' : List (Key × V)} (g : Go T B H H1) (n : New H p) (h : H1 p = some (.dK kvs)) : Go T B H (upd H1 p (.dK kvs')) := by
  refine ⟨fun b o e nb nt => ?_, fun t => tabs_upd h (fun ps z => by cases z) (fun q z => by unfold LamX.CodeO at z; cases z) (g.tabs t)⟩
  have ne : b ≠ p := fun z => by
    subst z
    obtain ⟨ps, e2⟩ := n o e
    exact nt ps e2
  rw [upd_ne ne]
  exact g.kept b o e nb nt
theorem tupK_updD {H1 : Hp} {p : Addr} {kvs : List (Key × V)} {o : HO} (h : H1 p = some (.dK kvs)) : TupK H1 (upd H1 p o) := fun a ys e => by
  have : a ≠ p := fun z => by rw [z, h] at e; cases e
  rw [upd_ne this]
  exact e
/-- the dict of costs -/
def DF (H : Hp) (p : Addr) (f : Fi) (n : Nat) : Prop := ∃ kvs : List (Key × V), H p = some (.dK kvs) ∧ kvs.length ≤ n ∧ ∀ s, valV kvs (Sum.inl s) = (f s).map V.int
theorem DF.go {T : Tb} {H H' : Hp} {p : Addr} {f : Fi} {n : Nat} (h : DF H p f n) (g : Go T N0 H H') : DF H' p f n := let ⟨kvs, h1, h2, h3⟩ := h; ⟨kvs, g.kept p _ h1 (fun z => z) (fun ps z => by cases z), h2, h3⟩
theorem DF.get {H : Hp} {p : Addr} {f : Fi} {n : Nat} (h : DF H p f n) (s : Int) : DGet H p (.int s) ((f s).map V.int) := by
  obtain ⟨kvs, h1, _, h3⟩ := h
  have := DGet.k (k := Sum.inl s) h1
  rw [h3] at this
  exact this
theorem merge_ends : ∀ (ends : List Int) (acc : List (Key × V)) (s : Int), valV (mergeK acc (ends.map fun t => ((Sum.inl t : Key), V.int 0))) (Sum.inl s) = if s ∈ ends then some (V.int 0) else valV acc (Sum.inl s)
  | [], acc, s => by simp [mergeK]
  | t :: ends, acc, s => by
    show valV (mergeK (putK acc (Sum.inl t) (V.int 0)) (ends.map fun t => ((Sum.inl t : Key), V.int 0))) (Sum.inl s) = _
    rw [merge_ends ends, valV_put]
    by_cases h : s ∈ ends
    · rw [if_pos h, if_pos (List.mem_cons_of_mem _ h)]
    · rw [if_neg h]
      by_cases e : s = t
      · subst e
        rw [if_pos rfl, if_pos List.mem_cons_self]
      · rw [if_neg (fun z => e (Sum.inl.inj z)), if_neg (fun z => (List.mem_cons.mp z).elim e h)]
theorem merge_len : ∀ (more acc : List (Key × V)), (mergeK acc more).length ≤ acc.length + more.length
  | [], acc => Nat.le_refl _
  | kv :: more, acc => by
    have h1 := merge_len more (putK acc kv.1 kv.2)
    have h2 := putK_len acc kv.1 kv.2
    show (mergeK (putK acc kv.1 kv.2) more).length ≤ _
    rw [List.length_cons]
    omega
theorem DF.put {H : Hp} {p : Addr} {f : Fi} {n : Nat} (h : DF H p f n) (hn : n ≤ 1000) (s m : Int) : ∃ kvs, H p = some (.dK kvs) ∧ DPut H p (.int s) (.int m) (upd H p (.dK (putK kvs (Sum.inl s) (.int m)))) ∧ DF (upd H p (.dK (putK kvs (Sum.inl s) (.int m)))) p (fun z => if z = s then some m else f z) (n + 1) := by
  obtain ⟨kvs, h1, h2, h3⟩ := h
  refine ⟨kvs, h1, DPut.k (k := Sum.inl s) h1 (sz_lt (by omega)), putK kvs (Sum.inl s) (.int m), upd_same, Nat.le_trans (putK_len _ _ _) (by omega), fun z => ?_⟩
  rw [valV_put]
  by_cases e : z = s
  · subst e
    rw [if_pos rfl]
    show _ = (if z = z then some m else f z).map V.int
    rw [if_pos rfl]
    rfl
  · rw [if_neg (fun q => e (Sum.inl.inj q)), h3]
    show _ = (if z = s then some m else f z).map V.int
    rw [if_neg e]
theorem DF.ne {H : Hp} {p q : Addr} {f : Fi} {n : Nat} {o : HO} (h : DF H p f n) (ne : p ≠ q) : DF (upd H q o) p f n := let ⟨kvs, h1, h2, h3⟩ := h; ⟨kvs, by rw [upd_ne ne]; exact h1, h2, h3⟩
theorem pd_of {K : PySem.W.Frag} {H : Hp} {ends : List Int} {ps : List Addr} (h : F2 (fun (t : Int) p => H p = some (.tup [.int t, .int 0])) ends ps) : Paired (fun p (kv : Key × V) => SqT K H p [kV kv.1, kv.2]) ps (ends.map fun t => ((Sum.inl t : Key), V.int 0)) := by
  induction h with
  | nil => exact .nil
  | cons r _ ih => exact .cons (SqT.of r) ih
theorem f2_ints (H : Hp) : ∀ cs : List Int, F2 (RD H) (cs.map D.i) (cs.map V.int)
  | [] => .nil
  | c :: cs => .cons (.i c) (f2_ints H cs)
/-- what the dict tells of a stand -/
def GoodC (A : List Arr) (f f' : Fi) (x s : Int) : Prop := (costs A f s x = [] ∧ f' s = none) ∨ ∃ m, f' s = some m ∧ m ∈ costs A f s x ∧ ∀ y ∈ costs A f s x, m ≤ y
abbrev scAllIn : Scope := { kind := .function, names := [(Str.ofString ".0", .local), (Str.ofString "_law_one", .local), (Str.ofString "all", .globalImplicit), (Str.ofString "_law_found", .cell)], isGenerator := false, isCoroutine := false }
abbrev scMaxIn : Scope := { kind := .function, names := [(Str.ofString ".0", .local), (Str.ofString "_law_one", .local), (Str.ofString "max", .globalImplicit), (Str.ofString "_law_found", .cell)], isGenerator := false, isCoroutine := false }
section
variable {P : Program} {w : World} {K : PySem.W.Frag} {mg : Str → Option Value} {base : Heap} {T : Tb}
theorem scCosts : FnScope ["_law_arrows", "_law_ends", "_law_pile", "_law_found", "_law_stands", "_law_top", "_law_longer", "_law_stand", "_law_some_here", "_law_costs_here", "_law_one", "_law_target"] ["_law_arrows", "_law_ends", "_law_pile"] (defScope sCosts) := ⟨rfl, rfl, rfl, by decide +kernel, rfl, by decide +kernel, by decide +kernel⟩
def spCosts (T : Tb) (K : PySem.W.Frag) : Sp := fun vs H Q _ => ∃ (a ew pw : Addr) (xs : List V) (A : List Arr) (S X : Nat) (ends ww : List Int), vs = [.ref a, .ref ew, .ref pw] ∧ SqA K H a xs ∧ Ls H dArr A xs ∧ (∀ x ∈ A, OkA S X x) ∧ S ≤ 5 ∧ A.length ≤ 1000 ∧ H ew = some (.tup (ends.map V.int)) ∧ ends.length ≤ 1000 ∧ H pw = some (.tup (ww.map V.int)) ∧ ww.length ≤ 1000 ∧
  ∀ (H' : Hp) (p : Addr) (f : Fi), Go T N0 H H' → New H p → DF H' p f 10000 → IsCosts A (fun t => t ∈ ends) ww f → Q (.ref p) H'
theorem ok_costs {f : Addr} {fd : FuncData} (F : Fun K "_law_costs" "_law_costs" sCosts f fd) (mDict : mg "dict" = none) (mSorted : mg "sorted" = none) (mSet : mg "set" = none) (mRev : mg "reversed" = none) (mAll : mg "all" = none) (mMax : mg "max" = none) (mMin : mg "min" = none) :
    FnOk P w K mg base CX0 1 f fd ["_law_arrows", "_law_ends", "_law_pile"] (spCosts T K) := by
  refine F.ok scCosts (fun vs H Q E h => ?_) (fun cdv A outer s H vs Q E hr h => ?_)
  · obtain ⟨a, ew, pw, xs, A, S, X, ends, ww, rfl, _⟩ := h
    rfl
  · obtain ⟨a, ew, pw, xs, AA, S, X, ends, ww, rfl, hx, hls, ok, s5, al, hew, el, hpw, wl, k⟩ := h
    have hu := hr.units
    have hu1 := hu_of hr
    refine ⟨_, pss_cons (ps_set (i := 3) scCosts.nd rfl (.inr rfl) (pe_callTy (call_dictP rfl) (by rfl) mDict (by decide +kernel) (pa_cons (pe_lc (own := [("_law_stand", 7)]) (g := gName 7) (tt := tYes) rfl scCosts.nd (tupI K (pv 1))
          (blkOk_by (N := ["_law_arrows", "_law_ends", "_law_pile", "_law_found", "_law_stands", "_law_top", "_law_longer", "_law_stand", "_law_some_here", "_law_costs_here", "_law_one", "_law_target"]) (sc := defScope sCosts) (by decide +kernel)) (fun _ _ _ _ _ => pg_name (i := 7) scCosts.nd rfl (Or.inl rfl)) (fun _ _ _ _ _ => pts_nil)
          (fun _ _ _ _ _ => pe_tup (pa_cons (pv 7) (pa_cons pe_int pa_nil)))) pa_nil)))
      (pss_cons (ps_set (i := 4) scCosts.nd rfl (.inl rfl) (pe_callB (sortedSet w rfl) (by rfl) mSorted (by decide +kernel) (pa_cons (pe_callTy (setI K w rfl) (by rfl) mSet (by decide +kernel) (pa_cons (pe_lc (own := [("_law_one", 10)]) (g := gName 10) (tt := tYes) rfl scCosts.nd (seqA K (pv 0))
          (blkOk_by (N := ["_law_arrows", "_law_ends", "_law_pile", "_law_found", "_law_stands", "_law_top", "_law_longer", "_law_stand", "_law_some_here", "_law_costs_here", "_law_one", "_law_target"]) (sc := defScope sCosts) (by decide +kernel)) (fun _ _ _ _ _ => pg_name (i := 10) scCosts.nd rfl (Or.inl rfl)) (fun _ _ _ _ _ => pts_nil)
          (fun _ _ _ _ _ => pe_ix (ixT K) (pv 10) pe_int (fun _ _ => rfl))) pa_nil)) pa_nil)))
      (pss_cons (ps_for PassesOwn.never rfl (RT.pi_revA (by rfl) mRev (pv 2)) (pg_name (i := 5) scCosts.nd rfl (Or.inr rfl))
        (pss_cons (ps_set (i := 6) scCosts.nd rfl (.inl rfl) pe_dnewK)
        (pss_cons (ps_for PassesOwn.never rfl (pi_list (pv 4)) (pg_name (i := 7) scCosts.nd rfl (Or.inr rfl))
          (pss_cons (ps_setLc (i := 8) (own := [("_law_one", 10)]) (g := gName 10) rfl scCosts.nd rfl rfl (sw_true rfl rfl rfl (by decide +kernel)) (seqA K (pv 0))
            (blkOk_by (N := ["_law_arrows", "_law_ends", "_law_pile", "_law_found", "_law_stands", "_law_top", "_law_longer", "_law_stand", "_law_some_here", "_law_costs_here", "_law_one", "_law_target"]) (sc := defScope sCosts) (by decide +kernel)) (fun _ _ _ _ _ => pg_name (i := 10) scCosts.nd rfl (Or.inl rfl))
            (fun _ _ _ _ _ => pts_one (pt_cmpR (op_eqRD hu) (pe_slice (slT K) (pv 10) po_none (po_some pe_int)) (pe_tup (pa_cons (pv 7) (pa_cons (pv 5) pa_nil))) (nomark _))) (fun _ _ _ _ _ => pv 10))
          (pss_cons (ps_setLc (i := 8) (own := [("_law_one", 10)]) (g := gName 10) rfl scCosts.nd rfl rfl (sw_true rfl rfl rfl (by decide +kernel)) (pi_list (pv 8))
            (blkOk_by (N := ["_law_arrows", "_law_ends", "_law_pile", "_law_found", "_law_stands", "_law_top", "_law_longer", "_law_stand", "_law_some_here", "_law_costs_here", "_law_one", "_law_target"]) (sc := defScope sCosts) (by decide +kernel)) (fun _ _ _ _ _ => pg_name (i := 10) scCosts.nd rfl (Or.inl rfl))
            (fun _ _ _ _ _ => pts_one (pt_val (pe_callB (allK K rfl) (by rfl) mAll (by decide +kernel) (pa_cons (pe_lc (own := [("_law_target", 11)]) (g := gName 11) (tt := tYes) rfl scCosts.nd (tupI K (pe_ix (ixT K) (pv 10) pe_int (fun _ _ => rfl)))
              (blkOk_by (N := ["_law_arrows", "_law_ends", "_law_pile", "_law_found", "_law_stands", "_law_top", "_law_longer", "_law_stand", "_law_some_here", "_law_costs_here", "_law_one", "_law_target"]) (sc := scAllIn) (by decide +kernel)) (fun _ _ _ _ _ => pg_name (i := 11) scCosts.nd rfl (Or.inl rfl)) (fun _ _ _ _ _ => pts_nil)
              (fun _ _ _ _ _ => pe_cmp (pc_din hu1 (pv 11) (pv 3)) (by rfl))) pa_nil)))) (fun _ _ _ _ _ => pv 10))
          (pss_cons (ps_setLc (i := 9) (own := [("_law_one", 10)]) (g := gName 10) (tt := tYes) rfl scCosts.nd rfl rfl (sw_true rfl rfl rfl (by decide +kernel)) (pi_list (pv 8))
            (blkOk_by (N := ["_law_arrows", "_law_ends", "_law_pile", "_law_found", "_law_stands", "_law_top", "_law_longer", "_law_stand", "_law_some_here", "_law_costs_here", "_law_one", "_law_target"]) (sc := defScope sCosts) (by decide +kernel)) (fun _ _ _ _ _ => pg_name (i := 10) scCosts.nd rfl (Or.inl rfl)) (fun _ _ _ _ _ => pts_nil)
            (fun _ _ _ _ _ => pe_op op_add (pe_ix (ixT K) (pv 10) pe_int (fun _ _ => rfl)) (pe_callB (maxK K rfl) (by rfl) mMax (by decide +kernel) (pa_cons (pe_op op_cat (pe_lst (pa_cons pe_int pa_nil)) (pe_lc (own := [("_law_target", 11)]) (g := gName 11) (tt := tYes) rfl scCosts.nd (tupI K (pe_ix (ixT K) (pv 10) pe_int (fun _ _ => rfl)))
              (blkOk_by (N := ["_law_arrows", "_law_ends", "_law_pile", "_law_found", "_law_stands", "_law_top", "_law_longer", "_law_stand", "_law_some_here", "_law_costs_here", "_law_one", "_law_target"]) (sc := scMaxIn) (by decide +kernel)) (fun _ _ _ _ _ => pg_name (i := 11) scCosts.nd rfl (Or.inl rfl)) (fun _ _ _ _ _ => pts_nil)
              (fun _ _ _ _ _ => pe_dget hu1 (pv 3) (pv 11) (fun _ _ => rfl)))) pa_nil))))
          (pss_one (ps_if (pt_cmpR (neL K hu) (pv 9) (pe_lst pa_nil) (nomark _)) (pss_one (ps_dput hu1 (pv 6) (pv 7) (pe_callB (minK K rfl) (by rfl) mMin (by decide +kernel) (pa_cons (pv 9) pa_nil)) rfl)) pss_nil))))))
        (pss_one (ps_set (i := 3) scCosts.nd rfl (.inr rfl) (pv 6))))))
      (pss_one (ps_ret (pv 3))))), ?_⟩
    -- the ends
    refine ⟨_, rfl, ew, rfl, ⟨_, SqT.of hew⟩, fun D hD => ?_⟩
    refine lcg_tup T (fun i acc H' => ∃ ps : List Addr, acc = ps.map V.ref ∧ F2 (fun (t : Int) p => H' p = some (.tup [.int t, .int 0])) (ends.take i) ps) hD (SqT.of hew) ⟨[], rfl, by rw [List.take_zero]; exact .nil⟩ (fun i y H1 acc hi g1 ha hal r => ?_) (fun H1 acc g1 ha hal r => ?_)
    · rw [List.getElem?_map] at hi
      obtain ⟨t, ht, rfl⟩ := Option.map_eq_some_iff.mp hi
      have hil := (List.getElem?_eq_some_iff.mp ht).1
      obtain ⟨ps, rfl, fp⟩ := r
      refine ⟨wp1, yesIf ?_⟩
      refine ⟨_, rfl, (by show 2 ≤ sizeLine; decide), fun q nq => ?_⟩
      have gn : Go T N0 H1 (upd H1 q (.tup [V.int t, V.int 0])) := Go.new nq
      have hD1 := gn.lst ha
      refine LcI.add hD g1 ha hal (by omega) gn ⟨ps ++ [q], by rw [List.map_append]; rfl, ?_⟩
      rw [List.take_add_one, ht]
      exact F2.snoc (fp.imp fun t p e => tupK_upd hD1 _ _ (gn.tup e)) (tupK_upd hD1 _ _ upd_same)
    obtain ⟨ps, rfl, fp⟩ := r
    rw [List.length_map, List.take_length] at fp
    refine ⟨D, ps, _, rfl, SqL.of ha, pd_of fp, fun pf npf => ?_⟩
    have gf : Go T N0 H (upd H1 pf (.dK (mergeK [] (ends.map fun t => ((Sum.inl t : Key), V.int 0))))) := g1.add npf
    have nf := g1.fresh npf
    have hf : DF (upd H1 pf (.dK (mergeK [] (ends.map fun t => ((Sum.inl t : Key), V.int 0))))) pf (fun s => if s ∈ ends then some 0 else none) 10000 := by
      refine ⟨_, upd_same, ?_, fun s => ?_⟩
      · have := merge_len (ends.map fun t => ((Sum.inl t : Key), V.int 0)) []
        rw [List.length_map] at this
        exact Nat.le_trans this (by show 0 + ends.length ≤ 10000; omega)
      · rw [merge_ends]
        show _ = Option.map V.int (if s ∈ ends then some 0 else none)
        by_cases h : s ∈ ends
        · rw [if_pos h, if_pos h]; rfl
        · rw [if_neg h, if_neg h]; rfl
    generalize upd H1 pf (.dK (mergeK [] (ends.map fun t => ((Sum.inl t : Key), V.int 0)))) = H2 at gf hf ⊢
    -- the stands
    refine ⟨_, rfl, a, rfl, lcg_seqA T (fun i acc H' => acc = (AA.take i).map fun x => V.int x.1) (hx.go gf) (fun D hD => by rw [List.take_zero]; rfl) (fun D hD i y H3 acc hi g3 ha hal r => ?_) (fun D hD H3 acc g3 ha hal r => ?_)⟩
    · obtain ⟨x, hxi, rx⟩ := hls.get_r hi
      have hil := (List.getElem?_eq_some_iff.mp hxi).1
      obtain ⟨u, b, rfl, hu', hub⟩ := rd_arr (RD.mono (gf.trans g3).tupK _ _ rx)
      refine ⟨wp1, yesIf ?_⟩
      refine ⟨_, rfl, u, _, _, _, rfl, rfl, SqT.of hu', atI_nat (j := 0) rfl, ?_⟩
      refine LcI.add hD g3 ha hal (by omega) (Go.refl _) ?_
      rw [r, List.take_add_one, hxi, List.map_append]
      rfl
    rw [← hls.len, List.take_length] at r
    refine ⟨D, AA.map fun x => x.1, five, rfl, .inl (SqL.of (by rw [List.map_map]; rw [r] at ha; exact ha)), by rw [List.length_map]; exact al, fun t ht => ?_, by decide, fun sa cn ns hc => ?_⟩
    · obtain ⟨x, hx', e⟩ := List.mem_map.mp ht
      have := (ok x hx').st
      have e : t = 0 ∨ t = 1 ∨ t = 2 ∨ t = 3 ∨ t = 4 := by omega
      unfold five
      simpa using e
    refine ⟨sa, _, cn, rfl, upd_same, hc, fun hs st srt hmem hsl nst => ?_⟩
    have gs : Go T N0 H2 (upd (upd H3 sa (SetO w sa (fun j => decide (j ∈ AA.map fun x => x.1)) cn)) st (.lst (hs.map V.int))) := (g3.add ns).add nst
    have hst : upd (upd H3 sa (SetO w sa (fun j => decide (j ∈ AA.map fun x => x.1)) cn)) st (.lst (hs.map V.int)) st = some (.lst (hs.map V.int)) := upd_same
    have hf4 := hf.go gs
    have g4 := gf.trans gs
    have hs64 : hs.length < 64 := by omega
    have hsA : ∀ s, s ∈ hs ↔ ∃ x ∈ AA, x.1 = s := fun s => by rw [hmem, decide_eq_true_iff, List.mem_map]
    generalize upd (upd H3 sa (SetO w sa (fun j => decide (j ∈ AA.map fun x => x.1)) cn)) st (.lst (hs.map V.int)) = H4 at g4 hf4 hst ⊢
    -- letter by letter
    refine ⟨_, rfl, pw, ww.map V.int, rfl, .inr ⟨SqT.of (g4.tup hpw), RT.for_ItvT (K := K) (a := pw) (xs := ww.map V.int) (fun i σ H' => ∃ (pf : Addr) (f : Fi) (a5 a6 a7 a8 a9 : Option V), σ = [some (.ref a), some (.ref ew), some (.ref pw), some (.ref pf), some (.ref st), a5, a6, a7, a8, a9, none, none] ∧ Go T N0 H H' ∧ New H pf ∧ DF H' pf f 10000 ∧ H' st = some (.lst (hs.map V.int)) ∧ IsCosts AA (fun t => t ∈ ends) (ww.drop (ww.length - i)) f)
      ⟨pf, _, none, none, none, none, none, rfl, g4, nf, hf4, hst, by rw [Nat.sub_zero, List.drop_length]; exact IsCosts.nil AA ends _ fun _ => rfl⟩ (fun i σ H' ⟨_, _, _, _, _, _, _, _, g', _⟩ => SqT.of (g'.tup hpw)) ?_ ?_⟩⟩
    · rintro i y σ H5 hi hy ⟨pf, f, a5, a6, a7, a8, a9, rfl, g5, nf5, hf5, hst5, ic⟩
      rw [List.length_map] at hi hy
      rw [List.getElem?_map] at hy
      obtain ⟨tp, htp, rfl⟩ := Option.map_eq_some_iff.mp hy
      intro lo nlo
      have g6 : Go T N0 H5 (upd H5 lo (.dK [])) := Go.new nlo
      have nlH := g5.fresh nlo
      have plo : pf ≠ lo := by
        obtain ⟨_, e, _⟩ := hf5
        exact ne_of_none e nlo
      have slo : st ≠ lo := ne_of_none hst5 nlo
      have hlo6 : DF (upd H5 lo (.dK [])) lo (fun _ => none) 0 := ⟨[], upd_same, Nat.le_refl _, fun _ => rfl⟩
      refine ⟨_, rfl, st, rfl, ⟨_, SqL.of (g6.lst hst5)⟩, for_list (K := K) (a := st) (xs := hs.map V.int) (fun j σ H' => ∃ (a7 a8 a9 : Option V) (f' : Fi), σ = [some (.ref a), some (.ref ew), some (.ref pw), some (.ref pf), some (.ref st), some (.int tp), some (.ref lo), a7, a8, a9, none, none] ∧ Go T N0 H H' ∧ DF H' pf f 10000 ∧ H' st = some (.lst (hs.map V.int)) ∧ DF H' lo f' j ∧ (∀ s ∈ hs.take j, GoodC AA f f' tp s) ∧ ∀ s, s ∉ hs.take j → f' s = none)
        ⟨a7, a8, a9, fun _ => none, rfl, g5.trans g6, hf5.go g6, g6.lst hst5, hlo6, (fun s h => by rw [List.take_zero] at h; cases h), fun _ _ => rfl⟩ (fun j σ H' _ ⟨_, _, _, _, _, _, _, z, _⟩ => SqL.of z) ?_ ?_⟩
      · rintro j y σ H7 hj ⟨b7, b8, b9, f', rfl, g7, hf7, hst7, hlo7, good, rest⟩
        rw [List.getElem?_map] at hj
        obtain ⟨s, hsj, rfl⟩ := Option.map_eq_some_iff.mp hj
        have hjl := (List.getElem?_eq_some_iff.mp hsj).1
        have snot : s ∉ hs.take j := fun hm => by
          obtain ⟨n, hn, e⟩ := List.getElem_of_mem hm
          rw [List.length_take] at hn
          rw [List.getElem_take] at e
          have h2 := List.getElem?_eq_some_iff.mp hsj
          have := List.pairwise_iff_getElem.mp srt n j (by omega) hjl (by omega)
          rw [e, h2.2] at this
          omega
        have fs : f' s = none := rest s snot
        -- the arrows here
        refine ⟨_, rfl, a, rfl, lcg_seqA T (fun m acc H' => Ls H' dArr ((AA.take m).filter fun x => decide (x.1 = s) && decide (x.2.1 = tp)) acc) (hx.go g7) (fun D hD => by rw [List.take_zero]; exact .nil) (fun D hD m y H8 acc hm g8 ha hal r => ?_) (fun D1 hD1 H8 acc1 g8 ha1 hal1 r1 => ?_)⟩
        · obtain ⟨x, hxm, rx⟩ := hls.get_r hm
          have hml := (List.getElem?_eq_some_iff.mp hxm).1
          have rx8 := RD.mono (g7.trans g8).tupK _ _ rx
          obtain ⟨u, b, rfl, hu', hub⟩ := rd_arr rx8
          have nx : ((AA.take (m + 1)).filter fun x => decide (x.1 = s) && decide (x.2.1 = tp)) = ((AA.take m).filter fun x => decide (x.1 = s) && decide (x.2.1 = tp)) ++ if (decide (x.1 = s) && decide (x.2.1 = tp)) = true then [x] else [] := by
            rw [List.take_add_one, hxm, Option.toList_some, List.filter_append, List.filter_cons]
            split <;> rfl
          refine ⟨wp1, _, rfl, 2, rfl, u, _, rfl, SqT.of hu', (fun z => absurd (show (2 : Nat) = 4 from z.2) (by decide)), fun t nt => ?_⟩
          have e1 : Go T N0 H8 (upd H8 t (.tup (cutV [V.int x.1, V.int x.2.1, V.ref b, V.int x.2.2.2] none (some 2)))) := Go.new nt
          have ht : upd H8 t (.tup (cutV [V.int x.1, V.int x.2.1, V.ref b, V.int x.2.2.2] none (some 2))) t = some (.tup [V.int x.1, V.int x.2.1]) := upd_same
          generalize upd H8 t (.tup (cutV [V.int x.1, V.int x.2.1, V.ref b, V.int x.2.2.2] none (some 2))) = H9 at e1 ht ⊢
          refine ⟨_, rfl, _, rfl, (by show 2 ≤ sizeLine; decide), fun t2 nt2 => ?_⟩
          have e2 : Go T N0 H9 (upd H9 t2 (.tup [V.int s, V.int tp])) := Go.new nt2
          refine ⟨dHead (x.1, x.2.1), dHead (s, tp), rd_mk_head (q := (x.1, x.2.1)) (e2.tup ht), rd_mk_head (q := (s, tp)) upd_same, by rw [dep_head]; decide, by rw [dep_head]; decide, _, rfl, ?_⟩
          rw [dec_head]
          refine ite2 (fun c => ?_) (fun c => ?_)
          · refine ⟨_, rfl, LcI.add hD g8 ha hal (by omega) (e1.trans e2) ?_⟩
            rw [nx, if_pos c]
            exact Ls.mono ((r.mono (e1.trans e2).tupK).app (RD.mono (e1.trans e2).tupK _ _ rx8)) (tupK_upd ((e1.trans e2).lst ha))
          · refine LcI.skip g8 ha hal (e1.trans e2) ?_
            rw [nx, if_neg c, List.append_nil]
            exact r.mono (e1.trans e2).tupK
        rw [← hls.len, List.take_length] at r1
        have b1l : (AA.filter fun x => decide (x.1 = s) && decide (x.2.1 = tp)).length ≤ 1000 := Nat.le_trans (List.length_filter_le _ _) al
        generalize hB1 : (AA.filter fun x => decide (x.1 = s) && decide (x.2.1 = tp)) = B1 at r1 b1l
        have acl1 := r1.len
        have okB1 : ∀ x ∈ B1, OkA S X x := fun x hx' => ok x (by rw [← hB1] at hx'; exact (List.mem_filter.mp hx').1)
        have tl : ∀ x ∈ B1, x.2.2.1.length ≤ 5 := fun x hx' => (okB1 x hx').tg.len (by omega)
        -- those whose targets read
        refine ⟨_, rfl, D1, rfl, ⟨_, SqL.of ha1⟩, fun D2 hD2 => ?_⟩
        have g78 := g7.trans g8
        refine lcg_list T (fun m acc H' => Ls H' dArr ((B1.take m).filter (okA_ f)) acc) hD2 (SqL.of ha1) (by rw [List.take_zero]; exact .nil) (fun m y H9 acc hm g9 ha hal r => ?_) (fun H9 acc2 g9 ha2 hal2 r2 => ?_)
        · obtain ⟨x, hxm, rx⟩ := r1.get_r hm
          have hml := (List.getElem?_eq_some_iff.mp hxm).1
          have rx9 := RD.mono g9.tupK _ _ rx
          obtain ⟨u, b, rfl, hu', hub⟩ := rd_arr rx9
          have xtl := tl x (List.mem_of_getElem? hxm)
          have nx : ((B1.take (m + 1)).filter (okA_ f)) = ((B1.take m).filter (okA_ f)) ++ if okA_ f x = true then [x] else [] := by
            rw [List.take_add_one, hxm, Option.toList_some, List.filter_append, List.filter_cons]
            split <;> rfl
          refine ⟨wp1, _, rfl, u, _, _, _, rfl, rfl, SqT.of hu', atI_nat (j := 2) rfl, b, rfl, ⟨_, SqT.of hub⟩, fun D3 hD3 => ?_⟩
          have hf9 := hf7.go (g8.trans g9)
          refine lcg_tup T (fun q bs _ => bs = ((x.2.2.1.take q).map fun t => (f t).isSome).map V.bl) hD3 (SqT.of hub) (by rw [List.take_zero]; rfl) (fun q v Ha bs hq ga hb hbl rb => ?_) (fun Ha bs ga hb hbl rb => ?_)
          · rw [List.getElem?_map] at hq
            obtain ⟨t, ht, rfl⟩ := Option.map_eq_some_iff.mp hq
            have hql := (List.getElem?_eq_some_iff.mp ht).1
            refine ⟨wp1, yesIf ?_⟩
            refine ⟨_, rfl, _, rfl, pf, _, rfl, (hf9.go ga).get t, ?_⟩
            refine LcI.add hD3 ga hb hbl (by omega) (Go.refl _) ?_
            rw [rb, List.take_add_one, ht, List.map_append, List.map_append, Option.isSome_map]
            rfl
          · rw [List.length_map, List.take_length] at rb
            subst rb
            refine ⟨D3, _, rfl, SqL.of hb, _, rfl, ?_⟩
            have eo : (x.2.2.1.map fun t => (f t).isSome).all id = okA_ f x := by
              rw [List.all_map]
              rfl
            rw [eo]
            refine ite2 (fun c => ?_) (fun c => ?_)
            · refine ⟨_, rfl, LcI.add hD2 g9 ha hal (by omega) ga ?_⟩
              rw [nx, if_pos c]
              exact Ls.mono ((r.mono ga.tupK).app (RD.mono ga.tupK _ _ rx9)) (tupK_upd (ga.lst ha))
            · refine LcI.skip g9 ha hal ga ?_
              rw [nx, if_neg c, List.append_nil]
              exact r.mono ga.tupK
        rw [← acl1, List.take_length] at r2
        have b2l : (B1.filter (okA_ f)).length ≤ 1000 := Nat.le_trans (List.length_filter_le _ _) b1l
        have okf : ∀ x ∈ B1.filter (okA_ f), okA_ f x = true := fun x hx' => (List.mem_filter.mp hx').2
        have tl2 : ∀ x ∈ B1.filter (okA_ f), x.2.2.1.length ≤ 5 := fun x hx' => tl x (List.mem_filter.mp hx').1
        have ecs : (B1.filter (okA_ f)).map (costA f) = costs AA f s tp := by rw [← hB1]; rfl
        generalize B1.filter (okA_ f) = B2 at r2 b2l okf tl2 ecs
        have acl2 := r2.len
        -- their costs
        refine ⟨_, rfl, D2, rfl, ⟨_, SqL.of ha2⟩, fun D5 hD5 => ?_⟩
        have g79 := g78.trans g9
        refine lcg_list T (fun m acc _ => acc = ((B2.take m).map (costA f)).map V.int) hD5 (SqL.of ha2) (by rw [List.take_zero]; rfl) (fun m y Ha acc hm ga ha hal r => ?_) (fun Hb acc3 gb hb3 hal3 r3 => ?_)
        · obtain ⟨x, hxm, rx⟩ := r2.get_r hm
          have hml := (List.getElem?_eq_some_iff.mp hxm).1
          have rxa := RD.mono ga.tupK _ _ rx
          obtain ⟨u, b, rfl, hu', hub⟩ := rd_arr rxa
          have xtl := tl2 x (List.mem_of_getElem? hxm)
          have okx := okA_iff.mp (okf x (List.mem_of_getElem? hxm))
          refine ⟨wp1, yesIf ?_⟩
          refine ⟨_, rfl, u, _, _, _, rfl, rfl, SqT.of hu', atI_nat (j := 3) rfl, (by show 1 ≤ sizeLine; decide), fun z1 nz1 => ?_⟩
          have e1 : Go T N0 Ha (upd Ha z1 (.lst [V.int 0])) := Go.new nz1
          have hz1 : upd Ha z1 (.lst [V.int 0]) z1 = some (.lst [V.int 0]) := upd_same
          generalize upd Ha z1 (.lst [V.int 0]) = Hc at e1 hz1 ⊢
          refine ⟨_, rfl, u, _, _, _, rfl, rfl, SqT.of (e1.tup hu'), atI_nat (j := 2) rfl, b, rfl, ⟨_, SqT.of (e1.tup hub)⟩, fun D4 hD4 => ?_⟩
          have hfc := hf7.go ((g8.trans g9).trans (ga.trans e1))
          refine lcg_tup T (fun q bs _ => bs = ((x.2.2.1.take q).map fun t => (f t).getD 0).map V.int) hD4 (SqT.of (e1.tup hub)) (by rw [List.take_zero]; rfl) (fun q v Hd bs hq gd hb hbl rb => ?_) (fun Hd bs gd hb hbl rb => ?_)
          · rw [List.getElem?_map] at hq
            obtain ⟨t, ht, rfl⟩ := Option.map_eq_some_iff.mp hq
            have hql := (List.getElem?_eq_some_iff.mp ht).1
            obtain ⟨c, ec⟩ := okx t (List.mem_of_getElem? ht)
            refine ⟨wp1, yesIf ?_⟩
            have hg := (hfc.go gd).get t
            rw [ec] at hg
            refine ⟨_, rfl, _, rfl, pf, .int c, rfl, hg, ?_⟩
            refine LcI.add hD4 gd hb hbl (by omega) (Go.refl _) ?_
            rw [rb, List.take_add_one, ht, List.map_append, List.map_append]
            show _ ++ [V.int c] = _ ++ [V.int ((f t).getD 0)]
            rw [ec]
            rfl
          · rw [List.length_map, List.take_length] at rb
            subst rb
            refine ⟨z1, D4, _, _, rfl, rfl, gd.lst hz1, hb, sz_le (by rw [List.length_map, List.length_map]; show 1 + x.2.2.1.length ≤ 100000; omega), fun z2 nz2 => ?_⟩
            have e2 : Go T N0 Hd (upd Hd z2 (.lst ([V.int 0] ++ (x.2.2.1.map fun t => (f t).getD 0).map V.int))) := Go.new nz2
            refine ⟨z2, 0 :: x.2.2.1.map fun t => (f t).getD 0, rfl, SqL.of upd_same, Nat.succ_pos _, fun m' hm' hmx => ?_⟩
            refine ⟨x.2.2.2, m', rfl, rfl, ?_⟩
            refine LcI.add hD5 ga ha hal (by omega) ((e1.trans gd).trans e2) ?_
            rw [r, List.take_add_one, hxm, List.map_append, List.map_append, mxl_is hm' hmx]
            rfl
        rw [← acl2, List.take_length, ecs] at r3
        have csl : (costs AA f s tp).length ≤ 1000 := by rw [← ecs, List.length_map]; exact b2l
        subst r3
        have g7b := (g8.trans g9).trans gb
        have hfb := hf7.go g7b
        have hlob := hlo7.go g7b
        have gHb := g7.trans g7b
        refine ⟨_, rfl, Nat.zero_le _, fun e0 ne0 => ?_⟩
        have ge : Go T N0 Hb (upd Hb e0 (.lst [])) := Go.new ne0
        refine ⟨e0, [], [], rfl, SqL.of upd_same, .nil, (fun _ h => by cases h), .inr ⟨D5, _, (costs AA f s tp).map K27.D.i, rfl, SqL.of (ge.lst hb3), f2_ints _ _, (fun x hx' => by obtain ⟨c, _, rfl⟩ := List.mem_map.mp hx'; rw [dep]; decide), _, rfl, ?_⟩⟩
        have hb4 := ge.lst hb3
        have hfe := hfb.go ge
        have hloe := hlob.go ge
        have hste := (g7b.trans ge).lst hst7
        have gHe := gHb.trans ge
        generalize upd Hb e0 (.lst []) = He at hb4 hfe hloe hste gHe ⊢
        refine ite2 (fun c => ?_) (fun c => ?_)
        · have cne : costs AA f s tp ≠ [] := fun z => by rw [z] at c; simp at c
          obtain ⟨kvs, hkv, hput, hdf⟩ : ∃ kvs, He lo = some (.dK kvs) ∧ True ∧ True := let ⟨kvs, e, _⟩ := hloe; ⟨kvs, e, trivial, trivial⟩
          refine ⟨_, rfl, D5, costs AA f s tp, rfl, SqL.of hb4, List.length_pos_iff.mpr cne, fun m' hm' hmin => ?_⟩
          obtain ⟨kvs, hkv, hput, hdf⟩ := hloe.put (by omega) s m'
          refine ⟨_, rfl, _, rfl, lo, _, rfl, hput, ?_⟩
          refine ⟨_, _, _, fun z => if z = s then some m' else f' z, rfl, gHe.mutD nlH hkv, hfe.ne plo, by rw [upd_ne slo]; exact hste, hdf, fun z hz => ?_, fun z hz => ?_⟩
          · rw [List.take_add_one, hsj] at hz
            by_cases e : z = s
            · subst e
              exact .inr ⟨m', if_pos rfl, hm', hmin⟩
            · have hz' : z ∈ hs.take j := by
                rcases List.mem_append.mp hz with h | h
                · exact h
                · exact absurd (List.mem_singleton.mp h) e
              rcases good z hz' with ⟨q1, q2⟩ | ⟨m2, q1, q2, q3⟩
              · exact .inl ⟨q1, by show (if z = s then some m' else f' z) = none; rw [if_neg e]; exact q2⟩
              · exact .inr ⟨m2, by show (if z = s then some m' else f' z) = some m2; rw [if_neg e]; exact q1, q2, q3⟩
          · rw [List.take_add_one, hsj] at hz
            have e : z ≠ s := fun e => hz (List.mem_append_right _ (by rw [e]; exact List.mem_cons_self))
            show (if z = s then some m' else f' z) = none
            rw [if_neg e]
            exact rest z fun h => hz (List.mem_append_left _ h)
        · have cs0 : costs AA f s tp = [] := by
            cases hc : costs AA f s tp with
            | nil => rfl
            | cons a b => rw [hc] at c; exact absurd rfl c
          obtain ⟨kvs, e1, e2, e3⟩ := hloe
          refine ⟨_, _, _, f', rfl, gHe, hfe, hste, ⟨kvs, e1, by omega, e3⟩, fun z hz => ?_, fun z hz => ?_⟩
          · rw [List.take_add_one, hsj] at hz
            rcases List.mem_append.mp hz with h | h
            · exact good z h
            · rw [List.mem_singleton.mp h]
              exact .inl ⟨cs0, fs⟩
          · rw [List.take_add_one, hsj] at hz
            exact rest z fun h => hz (List.mem_append_left _ h)
      · rintro σ H7 ⟨b7, b8, b9, f', rfl, g7, hf7, hst7, hlo7, good, rest⟩
        rw [List.length_map, List.take_length] at good rest
        rw [List.length_map] at hlo7
        refine ⟨_, rfl, lo, f', _, _, _, _, _, rfl, g7, nlH, ?_, hst7, ?_⟩
        · obtain ⟨kvs, e1, e2, e3⟩ := hlo7
          exact ⟨kvs, e1, by omega, e3⟩
        · have hil : ww.length - 1 - i < ww.length := by omega
          have ed : ww.drop (ww.length - (i + 1)) = tp :: ww.drop (ww.length - i) := by
            have e1 : ww.length - (i + 1) = ww.length - 1 - i := by omega
            have e2 : ww.length - i = ww.length - 1 - i + 1 := by omega
            rw [e1, e2, List.drop_eq_getElem_cons hil]
            rw [List.getElem?_eq_getElem hil] at htp
            rw [Option.some.inj htp]
          rw [ed]
          refine ic.step fun s => ?_
          by_cases h : s ∈ hs
          · exact good s h
          · refine .inl ⟨?_, rest s h⟩
            cases hc : costs AA f s tp with
            | nil => rfl
            | cons c l =>
              obtain ⟨t, k0, hm, _, _⟩ := mem_costs.mp (show c ∈ costs AA f s tp by rw [hc]; exact List.mem_cons_self)
              exact absurd ((hsA s).mpr ⟨_, hm, rfl⟩) h
    · rintro σ H5 ⟨pf, f, a5, a6, a7, a8, a9, rfl, g5, nf5, hf5, hst5, ic⟩
      rw [List.length_map, Nat.sub_self, List.drop_zero] at ic
      exact ⟨_, rfl, k H5 pf f g5 nf5 hf5 ic⟩
end
end K27
end

section
set_option Elab.async false
set_option linter.all false
set_option maxRecDepth 100000
set_option maxHeartbeats 4000000
/-! K28j: what is known: how heaps go on beside it. -/
namespace K27
open PySem PySem.Spec PyProof.Rows L2
theorem heap_of : ∀ n : Nat, ∃ h : Heap, h.objs.size = n
  | 0 => ⟨{ objs := #[] }, rfl⟩
  | n + 1 => by
    obtain ⟨h, e⟩ := heap_of n
    exact ⟨h.push { cls := .none, data := .fields #[] }, by rw [size_push', e]⟩
theorem heap_at (n : Nat) {o : Obj} (hf : o.isFreed = false) : ∃ h : Heap, h.get? n = some o := by
  obtain ⟨h, e⟩ := heap_of n
  exact ⟨h.push o, by rw [← e]; exact Heap.get?_push_size _ hf⟩
theorem kn_code {P : Program} {w : World} {a : Addr} {L : KL} (q : Str) : KnO P w a L ≠ LamX.CodeO a q := fun e => by
  have e' : (fun h => Kn0 P w h a L) = fun h : Heap => ∃ (oc : Obj) (vs : Array Value) (t : Tok), h.get? a = some oc ∧ oc.data = .fields vs ∧ vs[1]? = some (.str q t) := by
    injection e
  obtain ⟨h, hh⟩ := heap_at a (o := { cls := .none, data := .fields #[.none, .str q 0] }) rfl
  have z : Kn0 P w h a L := by
    have : (fun h => Kn0 P w h a L) h := by
      rw [e']
      exact ⟨_, _, 0, hh, rfl, rfl⟩
    exact this
  obtain ⟨_, o, es, ep, ho, _, hd, _⟩ := z
  rw [hh] at ho
  rw [← Option.some.inj ho] at hd
  cases hd
structure Gk (T : Tb) (kn : Addr) (H H' : Hp) : Prop where
  go : Go T (fun b => b = kn) H H'
  tup : TupK H H'
section
variable {T : Tb} {kn d l : Addr} {H H1 H2 H' : Hp}
theorem Gk.refl (H : Hp) : Gk T kn H H := ⟨Go.refl H, TupK.refl H⟩
theorem Gk.trans (h : Gk T kn H H1) (k : Gk T kn H1 H2) : Gk T kn H H2 := ⟨h.go.trans k.go, h.tup.trans k.tup⟩
theorem Gk.of (g : Go T N0 H H') : Gk T kn H H' := ⟨g.wide, g.tupK⟩
theorem Gk.put {P : Program} {w : World} {L : KL} {o : HO} (h : H kn = some (KnO P w kn L)) : Gk T kn H (upd H kn o) := by
  refine ⟨(Go.refl H).put rfl h (fun ps z => by unfold KnO at z; cases z) (fun q => kn_code q), fun a xs e => ?_⟩
  rw [upd_ne (fun z => by rw [z, h] at e; unfold KnO at e; cases e)]
  exact e
theorem Gk.keep {p : Addr} {xs : List V} (g : Gk T kn H H1) (h : H p = some (.lst xs)) (n1 : p ≠ kn) : H1 p = some (.lst xs) := g.go.kept p _ h n1 fun ps z => by cases z
theorem Gk.mut {D : Addr} {xs ys : List V} (g : Gk T kn H H1) (n : H D = none) (h : H1 D = some (.lst xs)) : Gk T kn H (upd H1 D (.lst ys)) := ⟨g.go.mut (new_of n) h, g.tup.trans (tupK_upd h)⟩
theorem kn_ne {P : Program} {w : World} {L : KL} {p : Addr} {xs : List V} (h : H kn = some (KnO P w kn L)) (k : H p = some (.lst xs)) : p ≠ kn := fun z => by
  rw [z, h] at k
  unfold KnO at k
  cases k
/-- beside the draws -/
theorem Gd.k (g : Gd T d l H H1) (n : New H kn) (h : Gk T kn H1 H2) : Gd T d l H H2 := by
  refine ⟨⟨fun b o e nb nt => h.go.kept b o (g.go.kept b o e nb nt) (fun z => ?_) nt, fun t => h.go.tabs (g.go.tabs t)⟩, g.tup.trans h.tup⟩
  subst z
  obtain ⟨ps, e2⟩ := n o e
  exact nt ps e2
theorem DealAt.ofk {P : Program} {w : World} {L : KL} (h : DealAt H d l) (hk : H kn = some (KnO P w kn L)) (g : Gk T kn H H1) : DealAt H1 d l := by
  obtain ⟨kvs, s, n, left, I⟩ := h
  refine ⟨kvs, s, n, left, g.go.kept d _ I.hd (fun z => ?_) (fun ps z => by cases z), I.es, I.en, I.el, g.keep I.hl (kn_ne hk I.hl), I.s0, I.n0, I.l0, I.few⟩
  have := I.hd
  rw [z, hk] at this
  unfold KnO at this
  cases this
end
/-- where one stands, and the moves -/
def kD (p : Int) (w : List Int) (n : Nat) : D := .t [.i p, dTs w, .i n]
theorem dep_kD (p : Int) (w : List Int) (n : Nat) : dep (kD p w n) ≤ 8 := by
  unfold kD
  rw [dep, depL, depL, depL, depL, dep, dep, dep_ints]
  decide
theorem kD_inj {p p' : Int} {w w' : List Int} {n n' : Nat} (h : kD p w n = kD p' w' n') : p = p' ∧ w = w' ∧ n = n' := by
  unfold kD at h
  injection h with h
  injection h with h1 h
  injection h with h2 h
  injection h with h3 h
  injection h1 with h1
  injection h3 with h3
  exact ⟨h1, dTs_inj h2, by omega⟩
theorem rd_kD {H : Hp} {a pw : Addr} {p : Int} {w : List Int} {n : Nat} (h : H a = some (.tup [.int p, .ref pw, .int (n : Int)])) (hp : H pw = some (.tup (w.map V.int))) : RD H (kD p w n) (.ref a) := .t h (.cons (.i _) (.cons (rd_mk_ts hp) (.cons (.i _) .nil)))
/-- what is known is right -/
def Right (g : Gm) (B : List Arr) (ends : List Int) (L : KL) : Prop := ∀ p w n t, klook L (kD p w n) = some t → (t = true ↔ Brings g B ends n p w)
theorem Right.nil (g : Gm) (B : List Arr) (ends : List Int) : Right g B ends [] := fun p w n t h => by cases h
theorem Right.put {g : Gm} {B : List Arr} {ends : List Int} {L : KL} {p : Int} {w : List Int} {n : Nat} {b : Addr} {t : Bool} (h : Right g B ends L) (ht : t = true ↔ Brings g B ends n p w) : Right g B ends (kput L (kD p w n) b t) := fun p' w' n' t' e => by
  rw [klook_put] at e
  by_cases c : kD p w n = kD p' w' n'
  · rw [if_pos c] at e
    obtain ⟨rfl, rfl, rfl⟩ := kD_inj c
    cases e
    exact ht
  · rw [if_neg c] at e
    exact h p' w' n' t' e
theorem keys_put {H : Hp} {L : KL} {d : D} {b : Addr} {t : Bool} (h : KeysAt H L) (hb : RD H d (.ref b)) (hd : dep d ≤ 8) : KeysAt H (kput L d b t) := fun p hp => by
  rcases kput_keys p hp with ⟨e1, e2⟩ | ⟨q, hq, e1, e2⟩
  · rw [e1, e2]; exact ⟨hb, hd⟩
  · rw [← e1, ← e2]; exact h q hq
def cnt : Nat → Nat
  | 0 => 0
  | n + 1 => 1 + 8 * cnt n
end K27
end

section
set_option Elab.async false
set_option linter.all false
set_option maxRecDepth 100000
set_option maxHeartbeats 4000000
/-! K28k: plain play, gone through. -/
namespace K27
open PySem PySem.Spec PyProof.Rows L2
theorem kn_go {T : Tb} {H H' : Hp} {Pg : Program} {w : World} {kn : Addr} {L : KL} (h : H kn = some (KnO Pg w kn L)) (g : Go T N0 H H') : H' kn = some (KnO Pg w kn L) := g.kept kn _ h (fun z => z) fun ps z => by unfold KnO at z; cases z
theorem cat_key {K : PySem.W.Frag} {H : Hp} {sp u pw : Addr} {p n : Int} {Q : VK} (h1 : H sp = some (.tup [.int p, .ref pw])) (h2 : H u = some (.tup [.int n])) (h : ∀ key, H key = none → Q (.ref key) (upd H key (.tup [.int p, .ref pw, .int n]))) : rCatA K (.ref sp) (.ref u) H Q :=
  ⟨sp, u, _, _, rfl, rfl, SqT.of h1, SqT.of h2, (by show 3 ≤ sizeLine; decide), (fun e => by cases e), (fun _ e => by cases e), fun _ _ key nk => h key nk⟩
theorem inV_bl (t : Bool) : ∀ bs : List Bool, inV (.bl t) (bs.map V.bl) = decide (t ∈ bs)
  | [] => by simp [inV]
  | b :: bs => by
    have ih := inV_bl t bs
    unfold inV at ih ⊢
    rw [List.map_cons, List.any_cons, ih]
    have e : eqV (.bl b) (.bl t) = (b == t) := rfl
    rw [e]
    cases b <;> cases t <;> simp
theorem flat_bls (l : List Bool) : (l.map V.bl).all flatV = true := by
  rw [List.all_map, List.all_eq_true]
  intro x _
  rfl
theorem dp_bls {K : PySem.W.Frag} {H : Hp} : ∀ bs : List Bool, DpAll K H (bs.map V.bl) (bs.map PyData.bool)
  | [] => .nil
  | b :: bs => .cons (.bl b) (dp_bls bs)
theorem lay_bls : ∀ bs : List Bool, PyData.canLayAll0 (bs.map PyData.bool) = true
  | [] => by rw [List.map_nil, PyData.canLayAll0]
  | b :: bs => by rw [List.map_cons, PyData.canLayAll0, PyData.canLay0, lay_bls bs]; rfl
theorem dep_bls : ∀ bs : List Bool, PyData.depthAll (bs.map PyData.bool) = 0
  | [] => by rw [List.map_nil, PyData.depthAll]
  | b :: bs => by rw [List.map_cons, PyData.depthAll, PyData.depth, dep_bls bs]; rfl
theorem shaped_bls (bs : List Bool) : SeqAt.shaped (.list (bs.map PyData.bool)) = true := by
  unfold SeqAt.shaped
  rw [PyData.canLay0, lay_bls, PyData.depth, dep_bls]
  rfl
theorem eqv_bls (bs : List Bool) : PyData.eqv (.list (bs.map PyData.bool)) (.list []) = decide (bs = []) := by
  cases bs with
  | nil => simp [PyData.eqv, PyData.eqvAll]
  | cons b bs => simp [PyData.eqv, PyData.eqvAll]
theorem cut_tail (x : Int) (wr : List Int) : cutV ((x :: wr).map V.int) (some 1) none = wr.map V.int := by
  have e1 := HT.sIx_nat ((x :: wr).map V.int).length 0 1
  rw [show ((1 : Nat) : Int) = 1 from rfl] at e1
  have e2 : min 1 ((x :: wr).map V.int).length = 1 := by rw [List.length_map, List.length_cons]; omega
  unfold cutV
  rw [e1, e2, HT.sIx_none, List.map_cons, List.drop_succ_cons, List.drop_zero, List.length_cons, Nat.add_sub_cancel, List.take_length]
theorem br_first {g : Gm} {B : List Arr} {ends wr : List Int} {p x : Int} {n : Nat} {bs : List Bool} (hs : ¬ InSay B ends p (x :: wr)) (h0 : g.hand p = 0) (f : F2 (fun (r : Rule) (b : Bool) => b = true ↔ Brings g B ends n r.2.2.1 (r.2.2.2 ++ wr)) (g.at p x) bs) : true ∈ bs ↔ Brings g B ends (n + 1) p (x :: wr) := by
  constructor
  · intro h
    obtain ⟨r, hr, e⟩ := f.mem_r true h
    exact .inr ⟨x, wr, rfl, .inl ⟨h0, r, hr, e.mp rfl⟩⟩
  · rintro (h | ⟨x', r', e, h⟩)
    · exact absurd h hs
    · cases e
      rcases h with ⟨_, u, hu, hb⟩ | ⟨h1, _⟩
      · obtain ⟨b, hb', e⟩ := f.mem_l u hu
        rw [← e.mpr hb]
        exact hb'
      · exact absurd h0 h1
theorem br_other {g : Gm} {B : List Arr} {ends wr : List Int} {p x : Int} {n : Nat} {bs : List Bool} (hs : ¬ InSay B ends p (x :: wr)) (h0 : g.hand p ≠ 0) (f : F2 (fun (r : Rule) (b : Bool) => b = true ↔ Brings g B ends n r.2.2.1 (r.2.2.2 ++ wr)) (g.at p x) bs) : (bs ≠ [] ∧ false ∉ bs) ↔ Brings g B ends (n + 1) p (x :: wr) := by
  have hl := f.len
  constructor
  · rintro ⟨h1, h2⟩
    refine .inr ⟨x, wr, rfl, .inr ⟨h0, fun z => h1 (List.length_eq_zero_iff.mp (by rw [← hl, z]; rfl)), fun u hu => ?_⟩⟩
    obtain ⟨b, hb, e⟩ := f.mem_l u hu
    cases b with
    | true => exact e.mp rfl
    | false => exact absurd hb h2
  · rintro (h | ⟨x', r', e, h⟩)
    · exact absurd h hs
    · cases e
      rcases h with ⟨h1, _⟩ | ⟨_, hne, hb⟩
      · exact absurd h1 h0
      · refine ⟨fun z => hne (List.length_eq_zero_iff.mp (by rw [hl, z]; rfl)), fun z => ?_⟩
        obtain ⟨r, hr, e⟩ := f.mem_r false z
        cases e.mpr (hb r hr)
section
variable {P : Program} {w : World} {K : PySem.W.Frag} {mg : Str → Option Value} {base : Heap} {T : Tb}
theorem scBrings : FnScope ["_law_game_here", "_law_begun", "_law_ends", "_law_spot", "_law_k", "_law_known", "_law_place", "_law_pile", "_law_told", "_law_rules", "_law_spots", "_law_some_here", "_law_one", "_law_rule"] ["_law_game_here", "_law_begun", "_law_ends", "_law_spot", "_law_k", "_law_known"] (defScope sBrings) := ⟨rfl, rfl, rfl, by decide +kernel, rfl, by decide +kernel, by decide +kernel⟩
def spBr (T : Tb) (Pg : Program) (w : World) (N : Nat) : Sp := fun vs H Q _ => ∃ (ga be ew sp pw kn : Addr) (bx : List V) (P S X : Nat) (g : Gm) (B : List Arr) (ends ww : List Int) (p : Int) (n : Nat) (L : KL), vs = [.ref ga, .ref be, .ref ew, .ref sp, .int (n : Int), .ref kn] ∧ n < N ∧ GmAt H ga P X g ∧ OkG P S X g B ends ∧
  H be = some (.lst bx) ∧ Ls H dArr B bx ∧ H ew = some (.tup (ends.map V.int)) ∧ ends.length ≤ 1000 ∧ H sp = some (.tup [.int p, .ref pw]) ∧ H pw = some (.tup (ww.map V.int)) ∧ (0 ≤ p ∧ p < P) ∧ (∀ z ∈ ww, 0 ≤ z ∧ z < (X : Int)) ∧ ww.length + 2 * n ≤ 100 ∧
  H kn = some (KnO Pg w kn L) ∧ KeysAt H L ∧ Right g B ends L ∧ L.length + cnt (n + 1) ≤ 1000000 ∧
  ∀ (H' : Hp) (L' : KL) (b : Bool), Gk T kn H H' → H' kn = some (KnO Pg w kn L') → KeysAt H' L' → Right g B ends L' → L'.length ≤ L.length + cnt (n + 1) → (b = true ↔ Brings g B ends n p ww) → Q (.bl b) H'
theorem br_zero {f : Addr} {fd : FuncData} (F : Fun K "_law_brings" "_law_brings" sBrings f fd) : FnOk P w K mg base CX0 1 f fd ["_law_game_here", "_law_begun", "_law_ends", "_law_spot", "_law_k", "_law_known"] (spBr T P w 0) := by
  refine F.ok scBrings (fun vs H Q E h => ?_) (fun cdv A outer s H vs Q E hr h => ?_)
  · obtain ⟨_, _, _, _, _, _, _, _, _, _, _, _, _, _, _, _, _, _, hn, _⟩ := h
    exact absurd hn (Nat.not_lt_zero _)
  · obtain ⟨_, _, _, _, _, _, _, _, _, _, _, _, _, _, _, _, _, _, hn, _⟩ := h
    exact absurd hn (Nat.not_lt_zero _)
theorem br_step {N : Nat} {f fC : Addr} {fd fdC : FuncData} (F : Fun K "_law_brings" "_law_brings" sBrings f fd) (G : FnOk P w K mg base CX0 (N + 1) f fd ["_law_game_here", "_law_begun", "_law_ends", "_law_spot", "_law_k", "_law_known"] (spBr T P w N)) (kB : PySem.W.keepIn K (.ref f) = true) (bB : Binds K fd ["_law_game_here", "_law_begun", "_law_ends", "_law_spot", "_law_k", "_law_known"] []) (mB : mg "_law_brings" = some (.ref f))
    (GC : FnOk P w K mg base CX0 1 fC fdC ["_law_arrows", "_law_ends", "_law_pile"] (spCosts T K)) (kC : PySem.W.keepIn K (.ref fC) = true) (bC : Binds K fdC ["_law_arrows", "_law_ends", "_law_pile"] []) (mC : mg "_law_costs" = some (.ref fC)) (mLen : mg "len" = none) :
    FnOk P w K mg base CX0 (N + 2) f fd ["_law_game_here", "_law_begun", "_law_ends", "_law_spot", "_law_k", "_law_known"] (spBr T P w (N + 1)) := by
  refine F.ok scBrings (fun vs H Q E h => ?_) (fun cdv A outer s H vs Q E hr h => ?_)
  · obtain ⟨_, _, _, _, _, _, _, _, _, _, _, _, _, _, _, _, _, rfl, _⟩ := h
    rfl
  · obtain ⟨ga, be, ew, sp, pw, kn, bx, PP, S, X, g, B, ends, ww, p, n, L, rfl, hn, hg, o, hbe, hB, hew, el, hsp, hpw, hp, hww, wl, hkn, hkey, hri, hL, k⟩ := h
    have hr1 : Room 1 (A.deeper (envOfC "_law_brings" (defScope sBrings) s.heap.objs.size f cdv)) := hr.mono (by omega)
    have hu := hr.units
    have hu1 := hu_of hr
    refine ⟨_, pss_cons (ps_if (pt_cmpR (op_inKn hu) (pe_op (opCat K) (pv 3) (pe_tup (pa_cons (pv 4) pa_nil))) (pv 5) (by rfl)) (pss_one (ps_ret (pe_ix (ix_Kn hu) (pv 5) (pe_op (opCat K) (pv 3) (pe_tup (pa_cons (pv 4) pa_nil))) (fun _ _ => rfl)))) pss_nil)
      (pss_cons (ps_asg (pv 3) (tupleG (n := 2) K rfl (pgs_cons (pg_name (i := 6) scBrings.nd rfl (Or.inr rfl)) (pgs_cons (pg_name (i := 7) scBrings.nd rfl (Or.inr rfl)) pgs_nil))))
      (pss_cons (ps_set (i := 8) scBrings.nd rfl (.inl rfl) (pe_cmp (pc_din hu1 (pv 6) (pe_call GC hr1 (by rfl) mC kC bC .nil pass0 (pa_cons (pv 1) (pa_cons (pv 2) (pa_cons (pv 7) pa_nil))))) (by rfl)))
      (C8.pss_cut (ps_if (PW.pt (pw_and (pt_not (pt_val (pv 8))) (pw_and (pt_cmpR op_gt (pv 4) pe_int (nomark _)) (pw_and1 (pt_cmpR op_gt (pe_callB (lenS K) (by rfl) mLen PySem.boot_len (pa_cons (pv 7) pa_nil)) pe_int (nomark _))))))
        (pss_cons (ps_setLc (i := 9) (own := [("_law_rule", 13)]) (g := gName 13) rfl scBrings.nd rfl rfl (sw_true rfl rfl rfl (by decide +kernel)) (pi_tup (pe_ix (ixT K) (pv 0) pe_int (fun _ _ => rfl)))
            (blkOk_by (N := ["_law_game_here", "_law_begun", "_law_ends", "_law_spot", "_law_k", "_law_known", "_law_place", "_law_pile", "_law_told", "_law_rules", "_law_spots", "_law_some_here", "_law_one", "_law_rule"]) (sc := defScope sBrings) (by decide +kernel)) (fun _ _ _ _ _ => pg_name (i := 13) scBrings.nd rfl (Or.inl rfl))
            (fun _ _ _ _ _ => pts_one (pt_cmpR (op_eqRD hu) (pe_slice (slT K) (pv 13) po_none (po_some pe_int)) (pe_tup (pa_cons (pv 6) (pa_cons (pe_ix (ixT K) (pv 7) pe_int (fun _ _ => rfl)) pa_nil))) (nomark _))) (fun _ _ _ _ _ => pv 13))
        (pss_cons (ps_setLc (i := 10) (own := [("_law_rule", 13)]) (g := gName 13) (tt := tYes) rfl scBrings.nd rfl rfl (sw_true rfl rfl rfl (by decide +kernel)) (pi_list (pv 9))
            (blkOk_by (N := ["_law_game_here", "_law_begun", "_law_ends", "_law_spot", "_law_k", "_law_known", "_law_place", "_law_pile", "_law_told", "_law_rules", "_law_spots", "_law_some_here", "_law_one", "_law_rule"]) (sc := defScope sBrings) (by decide +kernel)) (fun _ _ _ _ _ => pg_name (i := 13) scBrings.nd rfl (Or.inl rfl)) (fun _ _ _ _ _ => pts_nil)
            (fun _ _ _ _ _ => pe_tup (pa_cons (pe_ix (ixT K) (pv 13) pe_int (fun _ _ => rfl)) (pa_cons (pe_op (opCat K) (pe_ix (ixT K) (pv 13) pe_int (fun _ _ => rfl)) (pe_slice (slT K) (pv 7) (po_some pe_int) po_none)) pa_nil))))
        (pss_cons (ps_set (i := 11) scBrings.nd rfl (.inl rfl) (pe_lst pa_nil))
        (pss_cons (ps_for PassesOwn.never rfl (pi_list (pv 10)) (pg_name (i := 12) scBrings.nd rfl (Or.inl rfl))
          (pss_one (ps_expr (pe_bm PySem.F.plainAttrs_list PySem.F.slot_list_append PySem.F.type_list_append mt_append (pv 11) (pa_cons (pe_call G hr (by rfl) mB kB bB .nil pass0
            (pa_cons (pv 0) (pa_cons (pv 1) (pa_cons (pv 2) (pa_cons (pv 12) (pa_cons (pe_op op_sub (pv 4) pe_int) (pa_cons (pv 5) pa_nil))))))) pa_nil)))))
        (pss_cons (ps_set (i := 8) scBrings.nd rfl (.inl rfl) (pe_cmpR (opIn K) pe_bl (pv 11) (by rfl)))
        (pss_one (ps_if (pt_cmpR op_eq (pe_ix (ixT K) (pe_ix (ixT K) (pe_ix (ixT K) (pv 0) pe_int (fun _ _ => rfl)) (pv 6) (fun _ _ => rfl)) pe_int (fun _ _ => rfl)) pe_int (nomark _))
          (pss_one (ps_set (i := 8) scBrings.nd rfl (.inl rfl) (pe_and (pe_cmpR (op_neD hu) (pv 11) (pe_lst pa_nil) (nomark _)) (pe_one (pe_cmpR op_notIn_seq pe_bl (pv 11) (by rfl)))))) pss_nil)))))) ) pss_nil)
      (pss_cons (ps_asg (pv 8) (pg_sub (pv 5) (pe_op (opCat K) (pv 3) (pe_tup (pa_cons (pv 4) pa_nil))) (set_Kn hu)))
      (pss_one (ps_ret (pv 8))))))), ?_⟩
    -- is it known
    refine ⟨_, rfl, _, rfl, (by show 1 ≤ sizeLine; decide), fun u nu => cat_key (tupK_new nu _ _ hsp) upd_same fun key nkey => ?_⟩
    have g1 : Go T N0 H (upd (upd H u (.tup [V.int (n : Int)])) key (.tup [V.int p, V.ref pw, V.int (n : Int)])) := (Go.new nu).trans (Go.new nkey)
    have hkey1 : upd (upd H u (.tup [V.int (n : Int)])) key (.tup [V.int p, V.ref pw, V.int (n : Int)]) key = some (.tup [V.int p, V.ref pw, V.int (n : Int)]) := upd_same
    generalize upd (upd H u (.tup [V.int (n : Int)])) key (.tup [V.int p, V.ref pw, V.int (n : Int)]) = H1 at g1 hkey1 ⊢
    have kn1 := kn_go hkn g1
    refine ⟨_, rfl, kn, L, kD p ww n, key, ⟨rfl, rfl, kn1, hkey.mono g1.tupK, rd_kD hkey1 (g1.tup hpw), dep_kD _ _ _⟩, _, rfl, ?_⟩
    refine ite2 (fun c => ?_) (fun c => ?_)
    · obtain ⟨t, ht⟩ := Option.isSome_iff_exists.mp c
      refine ⟨_, rfl, _, rfl, _, rfl, (by show 1 ≤ sizeLine; decide), fun u2 nu2 => cat_key (tupK_new nu2 _ _ (g1.tup hsp)) upd_same fun key2 nkey2 => ?_⟩
      have g2 : Go T N0 H1 (upd (upd H1 u2 (.tup [V.int (n : Int)])) key2 (.tup [V.int p, V.ref pw, V.int (n : Int)])) := (Go.new nu2).trans (Go.new nkey2)
      have g12 := g1.trans g2
      refine ⟨kn, L, kD p ww n, key2, t, ⟨rfl, rfl, kn_go hkn g12, hkey.mono g12.tupK, rd_kD upd_same (g12.tup hpw), dep_kD _ _ _⟩, ht, ?_⟩
      exact k _ L t (.of g12) (kn_go hkn g12) (hkey.mono g12.tupK) hri (Nat.le_add_right _ _) (hri _ _ _ _ ht)
    -- where, and is it in the saying
    refine ⟨_, rfl, sp, _, rfl, SqT.of (g1.tup hsp), rfl, _, _, rfl, _, _, rfl, rfl, ?_⟩
    refine ⟨_, rfl, _, rfl, _, rfl, _, rfl, be, ew, pw, bx, B, S, X, ends, ww, rfl, .inl (SqL.of (g1.lst hbe)), hB.mono g1.tupK, o.bo, o.s5, Nat.le_trans o.bl (by decide), g1.tup hew, el, g1.tup hpw, by omega, fun H2 pf fc g2 nf df ic => ⟨pf, _, rfl, df.get p, ?_⟩⟩
    rw [Option.isSome_map]
    have ht : (fc p).isSome = true ↔ InSay B ends p ww := by
      constructor
      · intro h
        obtain ⟨c, ec⟩ := Option.isSome_iff_exists.mp h
        exact say0 (fun a ha => (o.b0 a ha).1) ((ic p).1 c ec).1
      · intro h
        cases e : fc p with
        | none => exact absurd h ((ic p).2 e 0)
        | some c => rfl
    have g02 := g1.trans g2
    refine ⟨fun σ' H' => ∃ (b : Bool) (L' : KL) (a9 a10 a11 a12 : Option V), σ' = [some (.ref ga), some (.ref be), some (.ref ew), some (.ref sp), some (.int (n : Int)), some (.ref kn), some (.int p), some (.ref pw), some (.bl b), a9, a10, a11, a12, none] ∧ Gk T kn H H' ∧ H' kn = some (KnO P w kn L') ∧ KeysAt H' L' ∧ Right g B ends L' ∧ L'.length + 1 ≤ L.length + cnt (n + 1) ∧ (b = true ↔ Brings g B ends n p ww), ?_, ?_⟩
    · -- further moves
      have stay : ((fc p).isSome = true ↔ Brings g B ends n p ww) → ∃ (b : Bool) (L' : KL) (a9 a10 a11 a12 : Option V), [some (V.ref ga), some (.ref be), some (.ref ew), some (.ref sp), some (.int (n : Int)), some (.ref kn), some (.int p), some (.ref pw), some (.bl (fc p).isSome), none, none, none, none, none] = [some (.ref ga), some (.ref be), some (.ref ew), some (.ref sp), some (.int (n : Int)), some (.ref kn), some (.int p), some (.ref pw), some (.bl b), a9, a10, a11, a12, none] ∧ Gk T kn H H2 ∧ H2 kn = some (KnO P w kn L') ∧ KeysAt H2 L' ∧ Right g B ends L' ∧ L'.length + 1 ≤ L.length + cnt (n + 1) ∧ (b = true ↔ Brings g B ends n p ww) :=
        fun e => ⟨_, L, none, none, none, none, rfl, .of g02, kn_go hkn g02, hkey.mono g02.tupK, hri, by rw [cnt]; omega, e⟩
      refine ⟨_, rfl, _, rfl, ?_⟩
      refine ite2 (fun c1 => ?_) (fun c1 => ?_)
      rotate_left
      · refine stay ⟨fun h => Brings.of_say (ht.mp h) n, fun _ => ?_⟩
        cases e : (fc p).isSome with
        | true => rfl
        | false => rw [e] at c1; exact absurd rfl c1
      have t0 : (fc p).isSome = false := by
        cases e : (fc p).isSome with
        | true => rw [e] at c1; cases c1
        | false => rfl
      have ns : ¬ InSay B ends p ww := fun h => by rw [ht.mpr h] at t0; cases t0
      refine ⟨_, rfl, _, _, rfl, rfl, _, rfl, ?_⟩
      refine ite2 (fun c2 => ?_) (fun c2 => ?_)
      rotate_left
      · have n0 : n = 0 := by
          have : ¬ ((0 : Int) < (n : Int)) := fun h => c2 (decide_eq_true h)
          omega
        subst n0
        exact stay ht
      refine ⟨_, rfl, pw, _, rfl, .inr (SqT.of (g02.tup hpw)), _, _, rfl, rfl, _, rfl, ?_⟩
      refine ite2 (fun c3 => ?_) (fun c3 => ?_)
      rotate_left
      · refine stay ⟨fun h => Brings.of_say (ht.mp h) n, fun h => ?_⟩
        have w0 : ww = [] := by
          have : ¬ ((0 : Int) < (((ww.map V.int).length : Nat) : Int)) := fun h => c3 (decide_eq_true h)
          rw [List.length_map] at this
          exact List.length_eq_zero_iff.mp (by omega)
        subst w0
        cases n with
        | zero => exact ht.mpr h
        | succ n =>
          rcases h with h | ⟨x, r, e, _⟩
          · exact ht.mpr h
          · cases e
      obtain ⟨n', rfl⟩ : ∃ n', n = n' + 1 := ⟨n - 1, by have := of_decide_eq_true c2; omega⟩
      obtain ⟨x, wr, rfl⟩ : ∃ x wr, ww = x :: wr := by
        cases ww with
        | nil => simp at c3
        | cons x wr => exact ⟨x, wr, rfl⟩
      clear stay c1 c2 c3
      obtain ⟨pl, le, ru, ps, ls, rs, m1, m2, m3, m4, m5, m6, m7, m8, m9⟩ := id hg
      -- the rules here
      refine ⟨_, rfl, ga, _, _, _, rfl, rfl, SqT.of (g02.tup m1), atI_nat (j := 2) rfl, ru, rfl, ⟨_, SqT.of (g02.tup m8)⟩, fun D1 hD1 => ?_⟩
      refine lcg_tup T (fun i acc H' => Ls H' dRule ((g.rules.take i).filter fun r => decide (r.1 = p) && decide (r.2.1 = x)) acc) hD1 (SqT.of (g02.tup m8)) (by rw [List.take_zero]; exact .nil) (fun i v H3 acc hi g3 ha hal r => ?_) (fun H3 acc1 g3 ha1 hal1 r1 => ?_)
      · obtain ⟨r0, hr0, rr⟩ := m9.get_r hi
        have hil := (List.getElem?_eq_some_iff.mp hr0).1
        have rl := o.rl
        have rr3 := RD.mono (g02.trans g3).tupK _ _ rr
        obtain ⟨q, b, rfl, hq, hb⟩ := rd_rule rr3
        have nx : ((g.rules.take (i + 1)).filter fun r => decide (r.1 = p) && decide (r.2.1 = x)) = ((g.rules.take i).filter fun r => decide (r.1 = p) && decide (r.2.1 = x)) ++ if (decide (r0.1 = p) && decide (r0.2.1 = x)) = true then [r0] else [] := by
          rw [List.take_add_one, hr0]
          exact rat_snoc _ _ _ _
        refine ⟨wp1, _, rfl, 2, rfl, q, _, rfl, SqT.of hq, (fun z => absurd (show (2 : Nat) = 4 from z.2) (by decide)), fun t nt => ?_⟩
        have e1 : Go T N0 H3 (upd H3 t (.tup (cutV [V.int r0.1, V.int r0.2.1, V.int r0.2.2.1, V.ref b] none (some 2)))) := Go.new nt
        have ht1 : upd H3 t (.tup (cutV [V.int r0.1, V.int r0.2.1, V.int r0.2.2.1, V.ref b] none (some 2))) t = some (.tup [V.int r0.1, V.int r0.2.1]) := upd_same
        generalize upd H3 t (.tup (cutV [V.int r0.1, V.int r0.2.1, V.int r0.2.2.1, V.ref b] none (some 2))) = H4 at e1 ht1 ⊢
        refine ⟨_, rfl, _, rfl, pw, _, _, _, rfl, rfl, SqT.of (((g02.trans g3).trans e1).tup hpw), atI_nat (j := 0) rfl, (by show 2 ≤ sizeLine; decide), fun t2 nt2 => ?_⟩
        have e2 : Go T N0 H4 (upd H4 t2 (.tup [V.int p, V.int x])) := Go.new nt2
        refine ⟨dHead (r0.1, r0.2.1), dHead (p, x), rd_mk_head (q := (r0.1, r0.2.1)) (e2.tup ht1), rd_mk_head (q := (p, x)) upd_same, by rw [dep_head]; decide, by rw [dep_head]; decide, _, rfl, ?_⟩
        rw [dec_head]
        refine ite2 (fun c => ?_) (fun c => ?_)
        · refine ⟨_, rfl, LcI.add hD1 g3 ha hal (by omega) (e1.trans e2) ?_⟩
          rw [nx, if_pos c]
          exact Ls.mono ((r.mono (e1.trans e2).tupK).app (RD.mono (e1.trans e2).tupK _ _ rr3)) (tupK_upd ((e1.trans e2).lst ha))
        · refine LcI.skip g3 ha hal (e1.trans e2) ?_
          rw [nx, if_neg c, List.append_nil]
          exact r.mono (e1.trans e2).tupK
      rw [show rs.length = g.rules.length from m9.len.symm, List.take_length] at r1
      have atl : (g.at p x).length ≤ 8 := Nat.le_trans (List.length_filter_le _ _) o.rl
      have r1 : Ls H3 dRule (g.at p x) acc1 := r1
      have ac1 := r1.len
      have g03 := g02.trans g3
      -- where they lead
      refine ⟨_, rfl, D1, rfl, ⟨_, SqL.of ha1⟩, fun D2 hD2 => ?_⟩
      refine lcg_list T (fun i acc H' => F2 (fun (r : Rule) v => ∃ sp' pw', v = V.ref sp' ∧ H' sp' = some (.tup [.int r.2.2.1, .ref pw']) ∧ H' pw' = some (.tup ((r.2.2.2 ++ wr).map V.int))) ((g.at p x).take i) acc) hD2 (SqL.of ha1) (by rw [List.take_zero]; exact .nil) (fun i v H4 acc hi g4 ha hal r => ?_) (fun H4 acc2 g4 ha2 hal2 r2 => ?_)
      · obtain ⟨r0, hr0, rr⟩ := r1.get_r hi
        have hil := (List.getElem?_eq_some_iff.mp hr0).1
        obtain ⟨q, b, rfl, hq, hb⟩ := rd_rule (RD.mono g4.tupK _ _ rr)
        have rok := o.ru r0 (mem_at.mp (List.mem_of_getElem? hr0)).1
        refine ⟨wp1, yesIf ?_⟩
        refine ⟨_, rfl, q, _, _, _, rfl, rfl, SqT.of hq, atI_nat (j := 2) rfl, _, rfl, q, _, _, _, rfl, rfl, SqT.of hq, atI_nat (j := 3) rfl, _, rfl, 1, rfl, pw, _, rfl, SqT.of ((g03.trans g4).tup hpw), (fun z => ?_), fun t nt => ?_⟩
        · have e1 := HT.sIx_nat ((x :: wr).map V.int).length 0 1
          rw [show ((1 : Nat) : Int) = 1 from rfl, z.1, List.length_map, List.length_cons] at e1
          omega
        have e1 : Go T N0 H4 (upd H4 t (.tup (cutV ((x :: wr).map V.int) (some 1) none))) := Go.new nt
        have ht1 : upd H4 t (.tup (cutV ((x :: wr).map V.int) (some 1) none)) t = some (.tup (wr.map V.int)) := by rw [upd_same, cut_tail]
        generalize upd H4 t (.tup (cutV ((x :: wr).map V.int) (some 1) none)) = H5 at e1 ht1 ⊢
        refine cat_ints (T := T) (e1.tup hb) ht1 (by rw [List.length_cons] at wl; have := rok.2.2.2.2; omega) fun u H6 g6 hu6 => ⟨(by show 2 ≤ sizeLine; decide), fun y ny => ?_⟩
        have g7 : Go T N0 H6 (upd H6 y (.tup [V.int r0.2.2.1, V.ref u])) := Go.new ny
        have g47 := (e1.trans g6).trans g7
        have up := tupK_upd (o := .lst (acc ++ [V.ref y])) (g47.lst ha)
        refine LcI.add hD2 g4 ha hal (by omega) g47 ?_
        rw [List.take_add_one, hr0]
        exact F2.snoc (r.imp fun r v ⟨sp', pw', e1, e2, e3⟩ => ⟨sp', pw', e1, up _ _ (g47.tup e2), up _ _ (g47.tup e3)⟩) ⟨y, u, rfl, up _ _ upd_same, up _ _ (g7.tup hu6)⟩
      rw [← ac1, List.take_length] at r2
      have ac2 := r2.len
      have g04 := g03.trans g4
      -- each of them
      refine ⟨Nat.zero_le _, fun sl nsl => ?_⟩
      have g5 : Go T N0 H4 (upd H4 sl (.lst [])) := Go.new nsl
      have hsl : upd H4 sl (.lst []) sl = some (.lst []) := upd_same
      have nslk : sl ≠ kn := kn_ne (kn_go hkn (g04.trans g5)) hsl
      have ndk : D2 ≠ kn := kn_ne (kn_go hkn g04) ha2
      have nds : D2 ≠ sl := ne_of_none ha2 nsl
      have nsH : New H sl := g04.fresh nsl
      have gk5 : Gk T kn H (upd H4 sl (.lst [])) := .of (g04.trans g5)
      have hD5 := g5.lst ha2
      have r5 : F2 (fun (r : Rule) v => ∃ sp' pw', v = V.ref sp' ∧ upd H4 sl (.lst []) sp' = some (.tup [.int r.2.2.1, .ref pw']) ∧ upd H4 sl (.lst []) pw' = some (.tup ((r.2.2.2 ++ wr).map V.int))) (g.at p x) acc2 := r2.imp fun r v ⟨sp', pw', e1, e2, e3⟩ => ⟨sp', pw', e1, g5.tup e2, g5.tup e3⟩
      have kn5 := kn_go hkn (g04.trans g5)
      generalize upd H4 sl (.lst []) = H5 at g5 hsl gk5 hD5 r5 kn5 ⊢
      refine ⟨_, rfl, D2, rfl, ⟨_, SqL.of hD5⟩, for_list (K := K) (a := D2) (xs := acc2) (fun i σ H' => ∃ (a12 : Option V) (L' : KL) (bs : List Bool), σ = [some (.ref ga), some (.ref be), some (.ref ew), some (.ref sp), some (.int ((n' + 1 : Nat) : Int)), some (.ref kn), some (.int p), some (.ref pw), some (.bl (fc p).isSome), some (.ref D1), some (.ref D2), some (.ref sl), a12, none] ∧ (TupK H5 H' ∧ Gk T kn H H') ∧ H' D2 = some (.lst acc2) ∧ H' sl = some (.lst (bs.map V.bl)) ∧ F2 (fun (r : Rule) (b : Bool) => b = true ↔ Brings g B ends n' r.2.2.1 (r.2.2.2 ++ wr)) ((g.at p x).take i) bs ∧
          H' kn = some (KnO P w kn L') ∧ KeysAt H' L' ∧ Right g B ends L' ∧ L'.length ≤ L.length + i * cnt (n' + 1))
        ⟨none, L, [], rfl, ⟨TupK.refl H5, gk5⟩, hD5, hsl, by rw [List.take_zero]; exact .nil, kn5, hkey.mono gk5.tup, hri, by omega⟩ (fun i σ H' _ ⟨_, _, _, _, _, z, _⟩ => SqL.of z) ?_ ?_⟩
      · rintro i v σ H6 hi ⟨a12, L', bs, rfl, ⟨t56, gk6⟩, hD6, hsl6, fb, kn6, ke6, ri6, l6⟩
        obtain ⟨r0, hr0, sp', pw', rfl, e1, e2⟩ := r5.get_r hi
        have hil := (List.getElem?_eq_some_iff.mp hr0).1
        have rok := o.ru r0 (mem_at.mp (List.mem_of_getElem? hr0)).1
        have t6 : TupK H H6 := gk6.tup
        have bl6 := fb.len
        rw [List.length_take] at bl6
        have i8 : (i + 1) * cnt (n' + 1) ≤ 8 * cnt (n' + 1) := Nat.mul_le_mul_right _ (by omega)
        have ic : (i + 1) * cnt (n' + 1) = i * cnt (n' + 1) + cnt (n' + 1) := by rw [Nat.add_mul, Nat.one_mul]
        have cn : cnt (n' + 1 + 1) = 1 + 8 * cnt (n' + 1) := rfl
        refine ⟨_, rfl, .inl ⟨rfl, _, SqL.of hsl6⟩, _, rfl, _, rfl, _, rfl, _, rfl, _, rfl, ((n' + 1 : Nat) : Int), 1, rfl, rfl, _, rfl, ga, be, ew, sp', pw', kn, bx, PP, S, X, g, B, ends, r0.2.2.2 ++ wr, r0.2.2.1, n', L', (by show [V.ref ga, V.ref be, V.ref ew, V.ref sp', V.int (((n' + 1 : Nat) : Int) - 1), V.ref kn] = _; rw [show ((n' + 1 : Nat) : Int) - 1 = (n' : Int) by omega]), by omega, hg.mono t6, o, gk6.keep hbe (kn_ne hkn hbe), hB.mono t6, t6 _ _ hew, el, t56 _ _ e1, t56 _ _ e2, rok.2.2.1, fun z hz => ?_, ?_, kn6, ke6, ri6, by omega, fun H7 L7 b g7 kn7 ke7 ri7 l7 eb => ?_⟩
        · rcases List.mem_append.mp hz with h | h
          · exact rok.2.2.2.1 z h
          · exact hww z (List.mem_cons_of_mem _ h)
        · rw [List.length_append]
          rw [List.length_cons] at wl
          have := rok.2.2.2.2
          omega
        have hsl7 := g7.keep hsl6 nslk
        refine ⟨sl, _, _, rfl, rfl, hsl7, sz_lt (by rw [List.length_map]; omega), ?_⟩
        have tu := tupK_upd (o := .lst (bs.map V.bl ++ [V.bl b])) hsl7
        refine ⟨_, L7, bs ++ [b], rfl, ⟨(t56.trans g7.tup).trans tu, (gk6.trans g7).go.mut nsH hsl7, (gk6.trans g7).tup.trans tu⟩, by rw [upd_ne nds]; exact g7.keep hD6 ndk, by rw [upd_same, List.map_append]; rfl, ?_, by rw [upd_ne nslk.symm]; exact kn7, ke7.mono tu, ri7, by omega⟩
        · rw [List.take_add_one, hr0]
          exact fb.snoc eb
      · rintro σ H6 ⟨a12, L', bs, rfl, ⟨t56, gk6⟩, hD6, hsl6, fb, kn6, ke6, ri6, l6⟩
        rw [← ac2, List.take_length] at fb
        have l8 : L'.length + 1 ≤ L.length + cnt (n' + 1 + 1) := by
          have : acc2.length * cnt (n' + 1) ≤ 8 * cnt (n' + 1) := Nat.mul_le_mul_right _ (by omega)
          have cn : cnt (n' + 1 + 1) = 1 + 8 * cnt (n' + 1) := rfl
          omega
        refine ⟨_, rfl, sl, _, rfl, .inl (SqL.of hsl6), rfl, flat_bls _, ?_⟩
        have pn : ((p.toNat : Nat) : Int) = p := Int.toNat_of_nonneg hp.1
        obtain ⟨hd, hhd⟩ : ∃ hd, g.hands[p.toNat]? = some hd := ⟨_, List.getElem?_eq_getElem (by have := hp.2; omega)⟩
        have ehd : g.hand p = hd := by
          unfold Gm.hand
          rw [List.getD_eq_getElem?_getD, hhd]
          rfl
        obtain ⟨qh, nm, q1, q2⟩ := m5 _ _ hhd
        have h01 := o.hh hd (List.mem_of_getElem? hhd)
        refine ⟨_, rfl, ga, _, _, _, rfl, rfl, SqT.of (gk6.tup _ _ m1), atI_nat (j := 0) rfl, _, rfl, pl, ps, _, _, rfl, rfl, SqT.of (gk6.tup _ _ m2), at_of pn.symm q1, qh, _, _, _, rfl, rfl, SqT.of (gk6.tup _ _ q2), atI_nat (j := 1) rfl, rfl, _, rfl, ?_⟩
        rw [dec_i]
        refine ite2 (fun c => ?_) (fun c => ?_)
        · have c : hd = 1 := of_decide_eq_true c
          have hn0 : g.hand p ≠ 0 := by rw [ehd, c]; decide
          refine ⟨_, rfl, Nat.zero_le _, fun e ne => ?_⟩
          have ge : Go T N0 H6 (upd H6 e (.lst [])) := Go.new ne
          refine ⟨.list (bs.map PyData.bool), .list [], .lst (SqL.of (ge.lst hsl6)) (dp_bls bs), .lst (SqL.of upd_same) .nil, shaped_bls bs, by rfl, ?_⟩
          rw [eqv_bls]
          have bo := br_other ns hn0 fb
          refine ⟨_, rfl, ?_⟩
          have gke := gk6.trans (.of ge)
          refine ite2 (fun c4 => ?_) (fun c4 => ?_)
          · refine ⟨_, rfl, sl, _, rfl, .inl (SqL.of (ge.lst hsl6)), rfl, flat_bls _, ?_⟩
            refine ⟨_, L', _, _, _, _, rfl, gke, kn_go kn6 ge, ke6.mono ge.tupK, ri6, l8, ?_⟩
            rw [if_pos rfl, inV_bl, ← bo, Bool.not_eq_true', decide_eq_false_iff_not]
            rw [Bool.not_eq_true', decide_eq_false_iff_not] at c4
            exact ⟨fun h => ⟨c4, h⟩, fun h => h.2⟩
          · refine ⟨false, L', _, _, _, _, rfl, gke, kn_go kn6 ge, ke6.mono ge.tupK, ri6, l8, ?_⟩
            rw [← bo]
            rw [Bool.not_eq_true', decide_eq_false_iff_not] at c4
            exact ⟨(fun h => by cases h), fun h => absurd h.1 c4⟩
        · have hn0 : g.hand p = 0 := by
            rw [ehd]
            rcases h01 with h | h
            · exact h
            · exact absurd (decide_eq_true h) c
          refine ⟨_, L', _, _, _, _, rfl, gk6, kn6, ke6, ri6, l8, ?_⟩
          rw [if_neg Bool.false_ne_true, inV_bl, decide_eq_true_iff]
          exact br_first ns hn0 fb
    · -- it is known from now on
      rintro σ H3 ⟨b, L', a9, a10, a11, a12, rfl, g3, kn3, ke3, ri3, l3, eb⟩
      refine ⟨_, rfl, _, rfl, _, rfl, _, rfl, (by show 1 ≤ sizeLine; decide), fun u nu => cat_key (tupK_new nu _ _ (g3.tup _ _ hsp)) upd_same fun key nkey => ?_⟩
      have g4 : Go T N0 H3 (upd (upd H3 u (.tup [V.int (n : Int)])) key (.tup [V.int p, V.ref pw, V.int (n : Int)])) := (Go.new nu).trans (Go.new nkey)
      have hk4 : upd (upd H3 u (.tup [V.int (n : Int)])) key (.tup [V.int p, V.ref pw, V.int (n : Int)]) key = some (.tup [V.int p, V.ref pw, V.int (n : Int)]) := upd_same
      generalize upd (upd H3 u (.tup [V.int (n : Int)])) key (.tup [V.int p, V.ref pw, V.int (n : Int)]) = H4 at g4 hk4 ⊢
      have kn4 := kn_go kn3 g4
      have rk := rd_kD hk4 (g4.tup (g3.tup _ _ hpw))
      refine ⟨kn, L', kD p ww n, key, b, ⟨rfl, rfl, kn4, ke3.mono g4.tupK, rk, dep_kD _ _ _⟩, rfl, Nat.lt_of_le_of_lt (by omega : L'.length ≤ 1000000) (by decide), ?_⟩
      have gp : Gk T kn H4 (upd H4 kn (KnO P w kn (kput L' (kD p ww n) key b))) := Gk.put kn4
      have kl := kput_len (L := L') (d := kD p ww n) (b := key) (t := b)
      exact ⟨_, rfl, k _ _ b ((g3.trans (.of g4)).trans gp) upd_same ((keys_put (ke3.mono g4.tupK) rk (dep_kD _ _ _)).mono gp.tup) (ri3.put eb) (by omega) eb⟩
end
end K27
end

section
set_option Elab.async false
set_option linter.all false
set_option maxRecDepth 100000
set_option maxHeartbeats 4000000
/-! K28l: what is asked of a machine. -/
namespace K27
open PySem PySem.Spec PyProof.Rows L2
theorem cnt_le {n : Nat} (h : n ≤ 4) : cnt (n + 1) ≤ 4681 := by
  have : n = 0 ∨ n = 1 ∨ n = 2 ∨ n = 3 ∨ n = 4 := by omega
  rcases this with rfl | rfl | rfl | rfl | rfl <;> decide
/-- while a machine is asked -/
structure RSt (T : Tb) (Pg : Program) (w : World) (d l : Addr) (H : Hp) (D kn : Addr) (bx : List V) (g : Gm) (B : List Arr) (ends : List Int) (m : Nat) (H' : Hp) : Prop where
  rg : Gd T d l H H'
  dl : DealAt H' d l
  hD : H' D = some (.lst bx)
  nD : (D ≠ d ∧ D ≠ l) ∧ D ≠ kn
  nk : (kn ≠ d ∧ kn ≠ l) ∧ New H kn
  kn : ∃ L : KL, H' kn = some (KnO Pg w kn L) ∧ KeysAt H' L ∧ Right g B ends L ∧ L.length ≤ m
section
variable {T : Tb} {Pg : Program} {w : World} {d l D kn : Addr} {H H1 H2 : Hp} {bx : List V} {g : Gm} {B : List Arr} {ends : List Int} {m m' : Nat}
theorem RSt.gd (S : RSt T Pg w d l H D kn bx g B ends m H1) (h : Gd T d l H1 H2) (d2 : DealAt H2 d l) : RSt T Pg w d l H D kn bx g B ends m H2 := by
  obtain ⟨L, k1, k2, k3, k4⟩ := S.kn
  exact ⟨S.rg.trans h, d2, h.keep S.hD S.nD.1.1 S.nD.1.2, S.nD, S.nk, L, h.go.kept kn _ k1 (fun z => z.elim S.nk.1.1 S.nk.1.2) (fun ps z => by unfold KnO at z; cases z), k2.mono h.tup, k3, k4⟩
theorem RSt.go (S : RSt T Pg w d l H D kn bx g B ends m H1) (h : Go T N0 H1 H2) : RSt T Pg w d l H D kn bx g B ends m H2 := S.gd (.of h) (S.dl.of h)
theorem RSt.le (S : RSt T Pg w d l H D kn bx g B ends m H1) (h : m ≤ m') : RSt T Pg w d l H D kn bx g B ends m' H1 := by
  obtain ⟨L, k1, k2, k3, k4⟩ := S.kn
  exact ⟨S.rg, S.dl, S.hD, S.nD, S.nk, L, k1, k2, k3, Nat.le_trans k4 h⟩
/-- one asks plain play -/
theorem ask_brings (S : RSt T Pg w d l H D kn bx g B ends m H1) {ga ew q pw : Addr} {PP SS X n : Nat} {p : Int} {ww : List Int} (hg : GmAt H ga PP X g) (o : OkG PP SS X g B ends) (hB : Ls H dArr B bx) (hew : H ew = some (.tup (ends.map V.int))) (el : ends.length ≤ 1000)
    (hpw : H1 pw = some (.tup (ww.map V.int))) (hp : 0 ≤ p ∧ p < (PP : Int)) (hww : ∀ z ∈ ww, 0 ≤ z ∧ z < (X : Int)) (wl : ww.length ≤ 4) (hn : n ≤ 4) (hm : m ≤ 100000) (nq : H1 q = none) :
    ∃ (H3 : Hp) (L : KL), H3 = upd H1 q (.tup [.int p, .ref pw]) ∧ n < 5 ∧ GmAt H3 ga PP X g ∧ H3 D = some (.lst bx) ∧ Ls H3 dArr B bx ∧ H3 ew = some (.tup (ends.map V.int)) ∧ H3 q = some (.tup [.int p, .ref pw]) ∧ H3 pw = some (.tup (ww.map V.int)) ∧ ww.length + 2 * n ≤ 100 ∧ H3 kn = some (KnO Pg w kn L) ∧ KeysAt H3 L ∧ Right g B ends L ∧ L.length + cnt (n + 1) ≤ 1000000 ∧
      ∀ (H' : Hp) (L' : KL), Gk T kn H3 H' → H' kn = some (KnO Pg w kn L') → KeysAt H' L' → Right g B ends L' → L'.length ≤ L.length + cnt (n + 1) → RSt T Pg w d l H D kn bx g B ends (m + 4681) H' ∧ H' pw = some (.tup (ww.map V.int)) := by
  have g1 : Go T N0 H1 (upd H1 q (.tup [V.int p, V.ref pw])) := Go.new nq
  have S1 := S.go g1
  have hq : upd H1 q (.tup [V.int p, V.ref pw]) q = some (.tup [V.int p, V.ref pw]) := upd_same
  have hpw1 := g1.tup hpw
  obtain ⟨L, k1, k2, k3, k4⟩ := S1.kn
  have c := cnt_le hn
  refine ⟨_, L, rfl, by omega, hg.mono S1.rg.tup, S1.hD, hB.mono S1.rg.tup, S1.rg.tup _ _ hew, hq, hpw1, by omega, k1, k2, k3, by omega, fun H' L' g' h1 h2 h3 h4 => ?_⟩
  exact ⟨⟨S1.rg.k S1.nk.2 g', S1.dl.ofk k1 g', g'.keep S1.hD S1.nD.2, S1.nD, S1.nk, L', h1, h2, h3, by omega⟩, g'.tup _ _ hpw1⟩
end
section
variable {P : Program} {w : World} {K : PySem.W.Frag} {mg : Str → Option Value} {base : Heap} {T : Tb}
theorem ok_brings {f fC : Addr} {fd fdC : FuncData} (F : Fun K "_law_brings" "_law_brings" sBrings f fd) (kB : PySem.W.keepIn K (.ref f) = true) (bB : Binds K fd ["_law_game_here", "_law_begun", "_law_ends", "_law_spot", "_law_k", "_law_known"] []) (mB : mg "_law_brings" = some (.ref f))
    (GC : FnOk P w K mg base CX0 1 fC fdC ["_law_arrows", "_law_ends", "_law_pile"] (spCosts T K)) (kC : PySem.W.keepIn K (.ref fC) = true) (bC : Binds K fdC ["_law_arrows", "_law_ends", "_law_pile"] []) (mC : mg "_law_costs" = some (.ref fC)) (mLen : mg "len" = none) :
    ∀ N : Nat, FnOk P w K mg base CX0 (N + 1) f fd ["_law_game_here", "_law_begun", "_law_ends", "_law_spot", "_law_k", "_law_known"] (spBr T P w N)
  | 0 => br_zero F
  | N + 1 => br_step F (ok_brings F kB bB mB GC kC bC mC mLen N) kB bB mB GC kC bC mC mLen
theorem scRight : FnScope ["_law_deal_here", "_law_game_here", "_law_saying_here", "_law_arrows", "_law_begun", "_law_known", "_law_turn", "_law_pile", "_law_place", "_law_cost", "_law_one", "_law_k"] ["_law_deal_here", "_law_game_here", "_law_saying_here", "_law_arrows"] (defScope sRight) := ⟨rfl, rfl, rfl, by decide +kernel, rfl, by decide +kernel, by decide +kernel⟩
def spRight (T : Tb) : Sp := fun vs H Q _ => ∃ (d l a sa ar : Addr) (PP S X : Nat) (g : Gm) (bs : List Say) (ends : List Int) (ys : List V) (A : List Arr), vs = [.ref d, .ref a, .ref sa, .ref ar] ∧ DealAt H d l ∧ GmAt H a PP X g ∧ 1 ≤ X ∧ SayAt H sa bs ends ∧ ends.length ≤ 100 ∧ OkG PP S X g (bs.map cost0) ends ∧
  H ar = some (.tup ys) ∧ Ls H dArr A ys ∧ Mach PP S X g (bs.map cost0) ends A ∧ ∀ H' : Hp, Gd T d l H H' → DealAt H' d l → Q (.bl true) H'
theorem ok_right {f fB fC fD : Addr} {fd fdB fdC fdD : FuncData} (F : Fun K "_law_right" "_law_right" sRight f fd)
    (GB : FnOk P w K mg base CX0 6 fB fdB ["_law_game_here", "_law_begun", "_law_ends", "_law_spot", "_law_k", "_law_known"] (spBr T P w 5)) (kB : PySem.W.keepIn K (.ref fB) = true) (bB : Binds K fdB ["_law_game_here", "_law_begun", "_law_ends", "_law_spot", "_law_k", "_law_known"] []) (mB : mg "_law_brings" = some (.ref fB))
    (GC : FnOk P w K mg base CX0 1 fC fdC ["_law_arrows", "_law_ends", "_law_pile"] (spCosts T K)) (kC : PySem.W.keepIn K (.ref fC) = true) (bC : Binds K fdC ["_law_arrows", "_law_ends", "_law_pile"] []) (mC : mg "_law_costs" = some (.ref fC))
    (GD : FnOk P w K mg base CX0 1 fD fdD ["_law_deal_here", "_law_many"] (spDraw T)) (kD : PySem.W.keepIn K (.ref fD) = true) (bD : Binds K fdD ["_law_deal_here", "_law_many"] []) (mD : mg "_law_draw" = some (.ref fD))
    (mLen : mg "len" = none) (mRange : mg "range" = none) (mTuple : mg "tuple" = none) : FnOk P w K mg base CX0 7 f fd ["_law_deal_here", "_law_game_here", "_law_saying_here", "_law_arrows"] (spRight T) := by
  refine F.ok scRight (fun vs H Q E h => ?_) (fun cdv A outer s H vs Q E hr h => ?_)
  · obtain ⟨d, l, a, sa, ar, PP, S, X, g, bs, ends, ys, AA, rfl, _⟩ := h
    rfl
  · obtain ⟨d, l, a, sa, ar, PP, S, X, g, bs, ends, ys, AA, rfl, dl, hg, x1, hs, el, o, har, hA, M, k⟩ := h
    have hr1 : Room 1 (A.deeper (envOfC "_law_right" (defScope sRight) s.heap.objs.size f cdv)) := hr.mono (by decide)
    have hu := hr.units
    have hu1 := hu_of hr
    refine ⟨_, pss_cons (ps_setLc (i := 4) (own := [("_law_one", 10)]) (g := gName 10) (tt := tYes) rfl scRight.nd rfl rfl (sw_true rfl rfl rfl (by decide +kernel)) (pi_tup (pe_ix (ixT K) (pv 2) pe_int (fun _ _ => rfl)))
        (blkOk_by (N := ["_law_deal_here", "_law_game_here", "_law_saying_here", "_law_arrows", "_law_begun", "_law_known", "_law_turn", "_law_pile", "_law_place", "_law_cost", "_law_one", "_law_k"]) (sc := defScope sRight) (by decide +kernel)) (fun _ _ _ _ _ => pg_name (i := 10) scRight.nd rfl (Or.inl rfl)) (fun _ _ _ _ _ => pts_nil) (fun _ _ _ _ _ => pe_op (opCat K) (pv 10) (pe_tup (pa_cons pe_int pa_nil))))
      (pss_cons (ps_set (i := 5) scRight.nd rfl (.inl rfl) pe_newKn)
      (pss_cons (ps_for PassesOwn.never rfl (pi_range1 (by rfl) mRange (pa_cons pe_int pa_nil)) (pg_name (i := 6) scRight.nd rfl (Or.inl rfl))
        (pss_cons (ps_set (i := 7) scRight.nd rfl (.inl rfl) (pe_callTy (tupOf K) (by rfl) mTuple (by decide +kernel) (pa_cons (pe_lc (own := [("_law_k", 11)]) (g := gName 11) (tt := tYes) rfl scRight.nd (pi_range1 (by rfl) mRange (pa_cons (pe_call GD hr1 (by rfl) mD kD bD .nil pass0 (pa_cons (pv 0) (pa_cons pe_int pa_nil))) pa_nil))
            (blkOk_by (N := ["_law_deal_here", "_law_game_here", "_law_saying_here", "_law_arrows", "_law_begun", "_law_known", "_law_turn", "_law_pile", "_law_place", "_law_cost", "_law_one", "_law_k"]) (sc := defScope sRight) (by decide +kernel)) (fun _ _ _ _ _ => pg_name (i := 11) scRight.nd rfl (Or.inl rfl)) (fun _ _ _ _ _ => pts_nil)
            (fun _ _ _ _ _ => pe_call GD hr1 (by rfl) mD kD bD .nil pass0 (pa_cons (pv 0) (pa_cons (pe_callB (lenS K) (by rfl) mLen PySem.boot_len (pa_cons (pe_ix (ixT K) (pv 1) pe_int (fun _ _ => rfl)) pa_nil)) pa_nil)))) pa_nil)))
        (pss_cons (ps_set (i := 8) scRight.nd rfl (.inl rfl) (pe_call GD hr1 (by rfl) mD kD bD .nil pass0 (pa_cons (pv 0) (pa_cons (pe_callB (lenS K) (by rfl) mLen PySem.boot_len (pa_cons (pe_ix (ixT K) (pv 1) pe_int (fun _ _ => rfl)) pa_nil)) pa_nil))))
        (pss_cons (ps_set (i := 9) scRight.nd rfl (.inl rfl) (pe_dget2 hu1 (pe_call GC hr1 (by rfl) mC kC bC .nil pass0 (pa_cons (pv 3) (pa_cons (pe_ix (ixT K) (pv 2) pe_int (fun _ _ => rfl)) (pa_cons (pv 7) pa_nil)))) (pv 8) (pe_un un_neg pe_int) ⟨rfl, rfl, rfl, rfl⟩))
        (C8.pss_cut (ps_if (PW.pt (pw_and (pt_val (pe_call GB hr (by rfl) mB kB bB .nil pass0 (pa_cons (pv 1) (pa_cons (pv 4) (pa_cons (pe_ix (ixT K) (pv 2) pe_int (fun _ _ => rfl)) (pa_cons (pe_tup (pa_cons (pv 8) (pa_cons (pv 7) pa_nil))) (pa_cons pe_int (pa_cons (pv 5) pa_nil)))))))) (pw_and1 (pt_cmpR op_ne (pv 9) pe_int (nomark _)))))
          (pss_one (ps_ret pe_bl)) pss_nil)
        (C8.pss_cut (ps_if (PW.pt (pw_and (pt_val (pe_call GB hr (by rfl) mB kB bB .nil pass0 (pa_cons (pv 1) (pa_cons (pv 4) (pa_cons (pe_ix (ixT K) (pv 2) pe_int (fun _ _ => rfl)) (pa_cons (pe_tup (pa_cons (pv 8) (pa_cons (pv 7) pa_nil))) (pa_cons pe_int (pa_cons (pv 5) pa_nil)))))))) (pw_and1 (pt_cmpR op_lt (pv 9) pe_int (nomark _)))))
          (pss_one (ps_ret pe_bl)) pss_nil)
        (pss_one (ps_if (pt_chain op_le op_lt pe_int (pv 9) pe_int)
          (pss_one (ps_if (pt_not (pt_val (pe_call GB hr (by rfl) mB kB bB .nil pass0 (pa_cons (pv 1) (pa_cons (pv 4) (pa_cons (pe_ix (ixT K) (pv 2) pe_int (fun _ _ => rfl)) (pa_cons (pe_tup (pa_cons (pv 8) (pa_cons (pv 7) pa_nil))) (pa_cons (pv 9) (pa_cons (pv 5) pa_nil))))))))) (pss_one (ps_ret pe_bl)) pss_nil)) pss_nil))))))))
      (pss_one (ps_ret pe_bl)))), ?_⟩
    obtain ⟨own, aw, ew, vs, h1, h2, h3, h4⟩ := id hs
    have bl : bs.length ≤ 8 := by have := o.bl; rw [List.length_map] at this; exact this
    have bvl := h3.len
    have al : AA.length ≤ 480 := K_len M.ok o.s5 o.x3 M.srt M.anti
    -- the saying's arrows
    refine ⟨_, rfl, sa, _, _, _, rfl, rfl, SqT.of h1, atI_nat (j := 1) rfl, aw, rfl, ⟨_, SqT.of h2⟩, fun D hD => ?_⟩
    refine lcg_tup T (fun i acc H' => Ls H' dArr ((bs.take i).map cost0) acc) hD (SqT.of h2) (by rw [List.take_zero]; exact .nil) (fun i y H2 acc hi g2 ha hal r => ?_) (fun H0 bx g0 hbx hal rB => ?_)
    · obtain ⟨b, hbi, rb⟩ := h3.get_r hi
      have hil := (List.getElem?_eq_some_iff.mp hbi).1
      obtain ⟨q, t, rfl, hq, ht⟩ := rd_say (RD.mono g2.tupK _ _ rb)
      refine ⟨wp1, yesIf ?_⟩
      refine ⟨_, rfl, (by show 1 ≤ sizeLine; decide), fun u nu => ?_⟩
      have g3 : Go T N0 H2 (upd H2 u (.tup [V.int 0])) := Go.new nu
      refine ⟨q, u, _, _, rfl, rfl, SqT.of (g3.tup hq), SqT.of upd_same, (by show 4 ≤ sizeLine; decide), (fun e => by cases e), (fun _ e => by cases e), fun _ _ u2 nu2 => ?_⟩
      have g4 := g3.trans (Go.new (T := T) (B := N0) (o := .tup ([V.int b.1, V.int b.2.1, V.ref t] ++ [V.int 0])) nu2)
      refine LcI.add hD g2 ha hal (by omega) g4 ?_
      have nx : (bs.take (i + 1)).map cost0 = (bs.take i).map cost0 ++ [cost0 b] := by
        rw [List.take_add_one, hbi, List.map_append]
        rfl
      rw [nx]
      refine Ls.mono ((r.mono g4.tupK).app ?_) (tupK_upd (g4.lst ha))
      exact rd_mk_arr (q := cost0 b) upd_same (g4.tup ht)
    rw [← bvl, List.take_length] at rB
    generalize hB : bs.map cost0 = B at rB o M
    -- nothing is known
    refine fun kn nkn => ?_
    have gk0 : Go T N0 H0 (upd H0 kn (KnO P w kn [])) := Go.new nkn
    have S0 : RSt T P w d l H0 D kn bx g B ends 0 (upd H0 kn (KnO P w kn [])) := ⟨.of gk0, (dl.of g0).of gk0, gk0.lst hbx, ⟨dl.nd hD, ne_of_none hbx nkn⟩, ⟨(dl.of g0).nd nkn, new_of nkn⟩, [], upd_same, (fun _ h => by cases h), Right.nil _ _ _, Nat.le_refl _⟩
    have hg0 := hg.mono g0.tupK
    obtain ⟨pl, le, ru, ps, ls, rs, m1, m2, m3, m4, m5, m6, m7, m8, m9⟩ := id hg0
    have h10 := g0.tup h1
    have hew := g0.tup h4
    have har0 := g0.tup har
    have hA0 := hA.mono g0.tupK
    have p1' := o.p1
    have p3' := o.p3
    have x3' := o.x3
    refine ⟨6, rfl, by decide, by decide, ?_⟩
    refine for_range (lo := 0) (n := 6) (fun i σ H' => ∃ (a6 a7 a8 a9 : Option V), σ = [some (.ref d), some (.ref a), some (.ref sa), some (.ref ar), some (.ref D), some (.ref kn), a6, a7, a8, a9, none, none] ∧ RSt T P w d l H0 D kn bx g B ends (i * 14043) H')
      ⟨none, none, none, none, rfl, S0.le (Nat.zero_le _)⟩ ?_ ?_
    · rintro i σ H1 hi ⟨a6, a7, a8, a9, rfl, S1⟩
      have hi : i < 6 := hi
      -- the pile
      refine ⟨_, rfl, d, l, 5, rfl, S1.dl, by decide, by decide, fun H2 r g2 d2 r0 r1 => ⟨r, rfl, by omega, by omega, fun D2 hD2 => ?_⟩⟩
      have S2 := S1.gd g2 d2
      refine lcd_range (lo := 0) (n := r.toNat) T (fun i acc _ => ∃ ts : List Int, acc = ts.map V.int ∧ ts.length = i ∧ ∀ z ∈ ts, 0 ≤ z ∧ z < (X : Int)) hD2 d2 ⟨[], rfl, rfl, fun _ h => by cases h⟩ (fun j H3 acc hj g3 d3 ha hal q => ?_) (fun H3 acc g3 d3 ha hal q => ?_)
      · obtain ⟨ts, rfl, tl, tr⟩ := q
        have S3 := S2.gd g3 d3
        refine ⟨wp1, yesIf ?_⟩
        refine ⟨_, rfl, _, rfl, a, _, _, _, rfl, rfl, SqT.of (S3.rg.tup _ _ m1), atI_nat (j := 1) rfl, le, _, rfl, .inr (SqT.of (S3.rg.tup _ _ m6)), d, l, (ls.length : Int), rfl, d3, by omega, by omega, fun H4 y g4 d4 y0 y1 => ?_⟩
        refine LcD.add hD2 d2 g3 ha hal (by omega) g4 d4 ⟨ts ++ [y], by rw [List.map_append]; rfl, by rw [List.length_append, tl]; rfl, fun z hz => ?_⟩
        rcases List.mem_append.mp hz with h | h
        · exact tr z h
        · rw [List.mem_singleton.mp h]; exact ⟨y0, by omega⟩
      obtain ⟨ww, rfl, wl, hww⟩ := q
      have wl4 : ww.length ≤ 4 := by omega
      refine ⟨D2, _, rfl, .inl ⟨SqL.of ha, fun pw npw => ?_⟩⟩
      have S3 := (S2.gd g3 d3).go (.new npw (o := .tup (ww.map V.int)))
      have hpw3 : upd H3 pw (.tup (ww.map V.int)) pw = some (.tup (ww.map V.int)) := upd_same
      generalize upd H3 pw (.tup (ww.map V.int)) = K3 at S3 hpw3 ⊢
      -- the place
      refine ⟨_, rfl, _, rfl, a, _, _, _, rfl, rfl, SqT.of (S3.rg.tup _ _ m1), atI_nat (j := 0) rfl, pl, _, rfl, .inr (SqT.of (S3.rg.tup _ _ m2)), d, l, (ps.length : Int), rfl, S3.dl, by omega, by omega, fun H4 p g4 d4 p0 p1 => ?_⟩
      have S4 := S3.gd g4 d4
      have hpw4 := g4.tup _ _ hpw3
      have hp : 0 ≤ p ∧ p < (PP : Int) := ⟨p0, by omega⟩
      -- what it costs
      refine ⟨_, rfl, _, rfl, sa, _, _, _, rfl, rfl, SqT.of (S4.rg.tup _ _ h10), atI_nat (j := 2) rfl, _, rfl, ar, ew, pw, ys, AA, S, X, ends, ww, rfl, .inr (SqT.of (S4.rg.tup _ _ har0)), hA0.mono S4.rg.tup, M.ok, o.s5, by omega, S4.rg.tup _ _ hew, by omega, hpw4, by omega, fun H5 pf fc g5 nf df ic => ⟨pf, rfl, (by obtain ⟨kvs, e1, _⟩ := id df; exact .inl ⟨kvs, Rd.of e1⟩), _, rfl, 1, rfl, _, df.get p, ?_⟩⟩
      have S5 := S4.go g5
      have hpw5 := g5.tup hpw4
      obtain ⟨c, ec, en, es⟩ : ∃ c : Int, ((fc p).map V.int).getD (V.int (-1)) = V.int c ∧ (fc p = none → c = -1) ∧ ∀ x, fc p = some x → c = x := by
        cases e : fc p with
        | none => exact ⟨-1, rfl, (fun _ => rfl), (fun _ h => by cases h)⟩
        | some x => exact ⟨x, rfl, (fun h => by cases h), (fun _ h => by injection h)⟩
      rw [ec]
      -- within no move
      refine ⟨fun σ' H' => σ' = [some (.ref d), some (.ref a), some (.ref sa), some (.ref ar), some (.ref D), some (.ref kn), some (.int (0 + (i : Int))), some (.ref pw), some (.int p), some (.int c), none, none] ∧ RSt T P w d l H0 D kn bx g B ends (i * 14043 + 4681) H' ∧ H' pw = some (.tup (ww.map V.int)), ?_, ?_⟩
      · refine ⟨_, rfl, _, rfl, _, rfl, sa, _, _, _, rfl, rfl, SqT.of (S5.rg.tup _ _ h10), atI_nat (j := 2) rfl, _, rfl, _, rfl, (by show 2 ≤ sizeLine; decide), fun q nq => ⟨_, rfl, ?_⟩⟩
        obtain ⟨K4, L, eK, c1, c2, c3, c4, c5, c6, c7, c8, c9, c10, c11, c12, cont⟩ := ask_brings (n := 0) S5 hg0 o rB hew (by omega) hpw5 hp hww wl4 (by decide) (by omega) nq
        subst eK
        refine ⟨a, D, ew, q, pw, kn, bx, PP, S, X, g, B, ends, ww, p, 0, L, rfl, c1, c2, o, c3, c4, c5, by omega, c6, c7, hp, hww, c8, c9, c10, c11, c12, fun H6 L' b z0 z1 z2 z3 z4 eb => ⟨_, rfl, ?_⟩⟩
        obtain ⟨S6, hpw6⟩ := cont H6 L' z0 z1 z2 z3 z4
        refine ite2 (fun c1 => ?_) (fun c1 => ⟨rfl, S6, hpw6⟩)
        refine ⟨_, rfl, rfl, _, rfl, ?_⟩
        refine ite2 (fun c2 => ?_) (fun c2 => ⟨rfl, S6, hpw6⟩)
        have := es 0 (ask_say o M ic (eb.mp c1))
        subst this
        cases c2
      rintro σ H6 ⟨rfl, S6, hpw6⟩
      -- within four moves
      refine ⟨fun σ' H' => σ' = [some (.ref d), some (.ref a), some (.ref sa), some (.ref ar), some (.ref D), some (.ref kn), some (.int (0 + (i : Int))), some (.ref pw), some (.int p), some (.int c), none, none] ∧ RSt T P w d l H0 D kn bx g B ends (i * 14043 + 4681 + 4681) H' ∧ H' pw = some (.tup (ww.map V.int)), ?_, ?_⟩
      · refine ⟨_, rfl, _, rfl, _, rfl, sa, _, _, _, rfl, rfl, SqT.of (S6.rg.tup _ _ h10), atI_nat (j := 2) rfl, _, rfl, _, rfl, (by show 2 ≤ sizeLine; decide), fun q nq => ⟨_, rfl, ?_⟩⟩
        obtain ⟨K4, L, eK, c1, c2, c3, c4, c5, c6, c7, c8, c9, c10, c11, c12, cont⟩ := ask_brings (n := 4) S6 hg0 o rB hew (by omega) hpw6 hp hww wl4 (by decide) (by omega) nq
        subst eK
        refine ⟨a, D, ew, q, pw, kn, bx, PP, S, X, g, B, ends, ww, p, 4, L, rfl, c1, c2, o, c3, c4, c5, by omega, c6, c7, hp, hww, c8, c9, c10, c11, c12, fun H7 L' b z0 z1 z2 z3 z4 eb => ⟨_, rfl, ?_⟩⟩
        obtain ⟨S7, hpw7⟩ := cont H7 L' z0 z1 z2 z3 z4
        refine ite2 (fun c1 => ?_) (fun c1 => ⟨rfl, S7, hpw7⟩)
        refine ⟨_, rfl, _, _, rfl, rfl, _, rfl, ?_⟩
        refine ite2 (fun c2 => ?_) (fun c2 => ⟨rfl, S7, hpw7⟩)
        obtain ⟨x, e1, e2⟩ := ask_four o M ic hp hww (eb.mp c1)
        have := es x e1
        have c2 : c < 0 := of_decide_eq_true c2
        omega
      rintro σ H7 ⟨rfl, S7, hpw7⟩
      -- within so many moves
      have out : ∀ H', RSt T P w d l H0 D kn bx g B ends (i * 14043 + 4681 + 4681 + 4681) H' → ∃ (a6 a7 a8 a9 : Option V), [some (V.ref d), some (.ref a), some (.ref sa), some (.ref ar), some (.ref D), some (.ref kn), some (.int (0 + (i : Int))), some (.ref pw), some (.int p), some (.int c), none, none] = [some (.ref d), some (.ref a), some (.ref sa), some (.ref ar), some (.ref D), some (.ref kn), a6, a7, a8, a9, none, none] ∧ RSt T P w d l H0 D kn bx g B ends ((i + 1) * 14043) H' :=
        fun H' S => ⟨_, _, _, _, rfl, S.le (by omega)⟩
      refine ⟨_, rfl, _, _, rfl, rfl, _, rfl, ?_⟩
      refine ite2 (fun c1 => ?_) (fun c1 => ?_)
      · refine ⟨_, _, rfl, rfl, _, rfl, ?_⟩
        refine ite2 (fun c2 => ?_) (fun c2 => out _ (S7.le (by omega)))
        have c1 : 0 ≤ c := of_decide_eq_true c1
        have c2 : c < 5 := of_decide_eq_true c2
        obtain ⟨n, rfl⟩ : ∃ n : Nat, c = (n : Int) := ⟨c.toNat, by omega⟩
        have hb : Brings g B ends n p ww := by
          cases e : fc p with
          | none => have := en e; omega
          | some x =>
            have e1 := es x e
            have e2 := (ask_cost o M ic hp e).2
            rw [← e1] at e2
            exact e2
        refine ⟨_, rfl, _, rfl, _, rfl, sa, _, _, _, rfl, rfl, SqT.of (S7.rg.tup _ _ h10), atI_nat (j := 2) rfl, _, rfl, _, rfl, (by show 2 ≤ sizeLine; decide), fun q nq => ⟨_, rfl, _, rfl, ?_⟩⟩
        obtain ⟨K4, L, eK, c1, c2, c3, c4, c5, c6, c7, c8, c9, c10, c11, c12, cont⟩ := ask_brings (n := n) S7 hg0 o rB hew (by omega) hpw7 hp hww wl4 (by omega) (by omega) nq
        subst eK
        refine ⟨a, D, ew, q, pw, kn, bx, PP, S, X, g, B, ends, ww, p, n, L, rfl, c1, c2, o, c3, c4, c5, by omega, c6, c7, hp, hww, c8, c9, c10, c11, c12, fun H8 L' b z0 z1 z2 z3 z4 eb => ⟨_, rfl, ?_⟩⟩
        obtain ⟨S8, hpw8⟩ := cont H8 L' z0 z1 z2 z3 z4
        rw [eb.mpr hb]
        exact out _ S8
      · exact ⟨_, rfl, ite2 (fun z => by cases z) fun _ => out _ (S7.le (by omega))⟩
    · rintro σ H1 ⟨a6, a7, a8, a9, rfl, S1⟩
      exact k H1 ((Gd.of g0).trans S1.rg) S1.dl
end
end K27
end

section
set_option Elab.async false
set_option linter.all false
set_option maxRecDepth 100000
set_option maxHeartbeats 4000000
/-! K28m: the law. -/
namespace K27
open PySem PySem.Spec PyProof.Rows L2
section
variable {P : Program} {w : World} {K : PySem.W.Frag} {mg : Str → Option Value} {base : Heap} {T : Tb}
theorem scLaw : FnScope ["_law_script", "_law_deal_here", "_law_k", "_law_game_here", "_law_saying_here", "_law_arrows"] ["_law_script"] (defScope sLaw) := ⟨rfl, rfl, rfl, by decide +kernel, rfl, by decide +kernel, by decide +kernel⟩
def spLaw (T : Tb) (K : PySem.W.Frag) : Sp := fun vs H Q _ => ∃ (a : Addr) (ns : List Int), vs = [.ref a] ∧ SqL K H a (ns.map V.int) ∧ ns.length ≤ 63 ∧ LamX.Tabs T H ∧ ∀ H' : Hp, Q (.bl true) H'
theorem ok_law {C f fE fG fS fM fR : Addr} {fd fdE fdG fdS fdM fdR : FuncData} {ds : List Value} (F : Fun K "law" "law" sLaw f fd)
    (GE : FnOk P w K mg base CX0 1 fE fdE ["_law_script", "_law_base"] (spDeal T K)) (kE : PySem.W.keepIn K (.ref fE) = true) (bE : Binds K fdE ["_law_script", "_law_base"] []) (mE : mg "_law_deal" = some (.ref fE))
    (GG : FnOk P w K mg base CX0 3 fG fdG ["_law_deal_here"] (spGame T)) (kG : PySem.W.keepIn K (.ref fG) = true) (bG : Binds K fdG ["_law_deal_here"] []) (mG : mg "_law_game" = some (.ref fG))
    (GS : FnOk P w K mg base CX0 3 fS fdS ["_law_deal_here", "_law_game_here"] (spSaying T)) (kS : PySem.W.keepIn K (.ref fS) = true) (bS : Binds K fdS ["_law_deal_here", "_law_game_here"] []) (mS : mg "_law_saying" = some (.ref fS))
    (GM : FnOk P w K mg base (L2.CX P w) 11 fM fdM ["game", "saying", "most"] (spMach T C)) (kM : PySem.W.keepIn K (.ref fM) = true) (bM : Binds K fdM ["game", "saying", "most"] ds) (hds : Vals [.int 200] ds) (mM : mg "machine" = some (.ref fM))
    (GR : FnOk P w K mg base CX0 7 fR fdR ["_law_deal_here", "_law_game_here", "_law_saying_here", "_law_arrows"] (spRight T)) (kR : PySem.W.keepIn K (.ref fR) = true) (bR : Binds K fdR ["_law_deal_here", "_law_game_here", "_law_saying_here", "_law_arrows"] []) (mR : mg "_law_right" = some (.ref fR))
    (mC : mg "TooMany" = some (.ref C)) (te : PySem.W.exmOne K (.ref C) (.ref C) = some true) (mRange : mg "range" = none) : FnOk P w K mg base CX0 12 f fd ["_law_script"] (spLaw T K) := by
  refine F.ok scLaw (fun vs H Q E h => ?_) (fun cdv A outer s H vs Q E hr h => ?_)
  · obtain ⟨a, ns, rfl, _⟩ := h
    rfl
  · obtain ⟨a, ns, rfl, hS, hz, hT, k⟩ := h
    have hr1 : Room 1 (A.deeper (envOfC "law" (defScope sLaw) s.heap.objs.size f cdv)) := hr.mono (by decide)
    have hr3 : Room 3 (A.deeper (envOfC "law" (defScope sLaw) s.heap.objs.size f cdv)) := hr.mono (by decide)
    have hr7 : Room 7 (A.deeper (envOfC "law" (defScope sLaw) s.heap.objs.size f cdv)) := hr.mono (by decide)
    refine ⟨_, pss_cons (ps_set (i := 1) scLaw.nd rfl (.inl rfl) (pe_call GE hr1 (by rfl) mE kE bE .nil pass0 (pa_cons (pv 0) (pa_cons pe_int pa_nil))))
      (pss_cons (ps_for PassesOwn.never rfl (pi_range1 (by rfl) mRange (pa_cons pe_int pa_nil)) (pg_name (i := 2) scLaw.nd rfl (Or.inl rfl))
        (pss_cons (ps_set (i := 3) scLaw.nd rfl (.inl rfl) (pe_call GG hr3 (by rfl) mG kG bG .nil pass0 (pa_cons (pv 1) pa_nil)))
        (pss_cons (ps_set (i := 4) scLaw.nd rfl (.inl rfl) (pe_call GS hr3 (by rfl) mS kS bS .nil pass0 (pa_cons (pv 1) (pa_cons (pv 3) pa_nil))))
        (pss_cons (ps_set (i := 5) scLaw.nd rfl (.inl rfl) pe_non)
        (C8.pss_cut (ps_try_only (c := .ref C) (tb := fun W => tAsg (tCallSD (spMach T C) [.int 200] (WE W) (tCons (tVar 3) (tCons (tVar 4) tNil))) (gName 5)) (ts := fun _ _ _ => tAsg (tC .non) (gName 5)) (Wout := fun _ _ _ _ => False) rfl rfl ⟨rfl, by decide, Or.inl mC⟩ takes0
          (fun W pn xe tk _ => pss_one (ps_set (i := 5) scLaw.nd rfl (Or.inl rfl) (by exact (pe_callSD GM hr rfl mM kM bM hds (fun σ => passAt tk σ) (by exact (pa_cons (pv 3) (pa_cons (pv 4) pa_nil)))))))
          (fun a oe cls d pn hz hf => pss_one (ps_set (i := 5) scLaw.nd rfl (Or.inl rfl) (by exact pe_non))))
        (pss_one (ps_if (pt_cmp (pc_notN (pv 5)))
          (pss_one (ps_if (pt_not (pt_val (pe_call GR hr7 (by rfl) mR kR bR .nil pass0 (pa_cons (pv 1) (pa_cons (pv 3) (pa_cons (pv 4) (pa_cons (pv 5) pa_nil))))))) (pss_one (ps_ret pe_bl)) pss_nil)) pss_nil)))))))
      (pss_one (ps_ret pe_bl))), ?_⟩
    refine ⟨_, rfl, a, ns, rfl, hS, hz, fun H0 d l g0 dl => ?_⟩
    refine ⟨2, rfl, by decide, by decide, ?_⟩
    refine for_range (lo := 0) (n := 2) (fun i σ H' => ∃ (a2 a3 a4 a5 : Option V), σ = [some (.ref a), some (.ref d), a2, a3, a4, a5] ∧ Gd T d l H0 H' ∧ DealAt H' d l) ⟨none, none, none, none, rfl, Gd.refl H0, dl⟩ ?_ ?_
    · rintro i σ H1 hi ⟨a2, a3, a4, a5, rfl, g1, d1⟩
      refine ⟨_, rfl, d, l, rfl, d1, fun H2 ga PP X g g2 d2 hg go => ?_⟩
      refine ⟨_, rfl, _, rfl, d, l, ga, PP, X, g, rfl, d2, hg, go, fun H3 sa S bs ends g3 d3 hs o el => ?_⟩
      have g03 := (g1.trans g2).trans g3
      have hg3 := hg.mono g3.tup
      have hT3 : LamX.Tabs T H3 := g03.tabs (g0.tabs hT)
      refine ⟨fun σ' H' => Gd T d l H0 H' ∧ DealAt H' d l ∧ ((∃ v : V, σ' = [some (.ref a), some (.ref d), some (.int (0 + (i : Int))), some (.ref ga), some (.ref sa), some v] ∧ v = .non) ∨ ∃ (p : Addr) (ys : List V) (AA : List Arr), σ' = [some (.ref a), some (.ref d), some (.int (0 + (i : Int))), some (.ref ga), some (.ref sa), some (.ref p)] ∧ GmAt H' ga PP X g ∧ SayAt H' sa bs ends ∧ H' p = some (.tup ys) ∧ Ls H' dArr AA ys ∧ Mach PP S X g (bs.map cost0) ends AA), ?_, ?_⟩
      · refine ⟨_, rfl, _, rfl, ga, sa, PP, S, X, g, bs, ends, rfl, hg3, hs, o, hT3, fun H4 p ys AA g4 hp hA M => ?_, fun H4 dx g4 => ?_⟩
        · exact ⟨g03.trans (.of g4), d3.of g4, .inr ⟨p, ys, AA, rfl, hg3.mono g4.tupK, hs.mono g4.tupK, hp, hA, M⟩⟩
        · exact ⟨true, te, fun _ a0 _ => ⟨g03.trans (.of g4), d3.of g4, .inl ⟨_, rfl, rfl⟩⟩, fun q => nomatch q⟩
      rintro σ H4 ⟨g4, d4, (⟨v, rfl, rfl⟩ | ⟨p, ys, AA, rfl, hg4, hs4, hp, hA, M⟩)⟩
      · refine ⟨_, rfl, _, rfl, ?_⟩
        exact ⟨_, _, _, _, rfl, g4, d4⟩
      · refine ⟨_, rfl, _, rfl, ?_⟩
        refine ⟨_, rfl, _, rfl, _, rfl, _, rfl, d, l, ga, sa, p, PP, S, X, g, bs, ends, ys, AA, rfl, d4, hg4, go.x1, hs4, el, o, hp, hA, M, fun H5 g5 d5 => ?_⟩
        refine ⟨_, rfl, ?_⟩
        exact ⟨_, _, _, _, rfl, g4.trans g5, d5⟩
    · rintro σ H1 ⟨a2, a3, a4, a5, rfl, g1, d1⟩
      exact k H1
end
end K27
end

section
set_option Elab.async false
set_option linter.all false
set_option maxRecDepth 100000
set_option maxHeartbeats 4000000
/-! K28n: the end. -/
namespace K27
open PySem PySem.Spec PyProof.Rows L2
theorem FunC.binds {K : PySem.W.Frag} {x qual : Str} {st : Stmt} {f c : Addr} {fd : FuncData} {ps : List Str} (F : FunC K x qual st f fd c)
    (h : ∀ (kV doc pm : Value) (an : Option Addr) (ct : Value) (us : List Value), us.length = ps.length → bindArgs (PySem.W.fnOf x qual (defArgs st) (defBody st) (defScope st) .none kV doc pm an (.ref c) ct) ⟨us, []⟩ = pure (ps.zip us)) : Binds K fd ps [] := by
  obtain ⟨oc, od, kV, doc, pm, an, ct, osl, rfl, lk, hcd⟩ := F.ex
  exact .all (h kV doc pm an ct)
/-- an error of the class at C is what «except C» names -/
theorem exm_own {K : PySem.W.Frag} {C : Addr} (h1 : PySem.W.subIn K (.ref C) (.type "BaseException") = some true) (h2 : PySem.W.isClsIn K C = true) (h3 : PySem.W.typeIn K (.ref C) = some (.type "type")) (h4 : PySem.W.subIn K (.ref C) (.ref C) = some true) :
    PySem.W.exmOne K (.ref C) (.ref C) = some true := by
  have h2 : (PySem.W.clsIn K C).isSome = true := h2
  unfold PySem.W.exmOne
  rw [h1]
  show (if ((PySem.W.clsIn K C).isSome && PySem.W.typeIn K (.ref C) == some (.type "type")) = true then PySem.W.subIn K (.ref C) (.ref C) else none) = some true
  rw [h2, h3, h4]
  rfl
theorem all_mk {l : PySem.W.OpenLaw} {w : World} {K : PySem.W.Frag} {h : Heap} {mg : Str → Option Value} {fa C c Pt Td Na fUn fTh fOn fTo fFr fPa fRe fRu fAt fFo fKe fMa fDl fDr fNa fGa fSo fSa fCo fBr fRi fLa fMo : Addr} (X : K.In h) (G : h.Ns mainGlobals mg) (hfa : mg "law" = some (.ref fa))
    {nm q : Str} {bs bm : List Value} {sn : List Str} {sub : List Value} {ab : Bool} {col : Option Bool} {dd odT : Option Addr} {m0 m1 m2 m3 m5 : Option Value} {cT : Value} {tk : Tok} {nT : Nat}
    {odUn anUn odTh anTh odOn anOn odTo anTo odFr anFr odPa anPa odRe anRe odRu anRu odAt anAt odFo anFo odKe anKe odMa anMa odDl anDl odDr anDr odNa anNa odGa anGa odSo anSo odSa anSa odCo anCo odBr anBr odRi anRi odLa anLa odMo anMo : Option Addr} {slUn slTh slOn slTo slFr slPa slRe slRu slAt slFo slKe slMa slDl slDr slNa slGa slSo slSa slCo slBr slRi slLa slMo slT : Array (Option Value)}
    {ocUn kVUn dcUn pmUn ctUn cdUn ocTh kVTh dcTh pmTh ctTh ocOn kVOn dcOn pmOn ctOn cdOn ocTo kVTo dcTo pmTo ctTo cdTo ocFr kVFr dcFr pmFr ctFr cdFr ocPa kVPa dcPa pmPa ctPa cdPa ocRe kVRe dcRe pmRe ctRe cdRe ocRu kVRu dcRu pmRu ctRu cdRu ocAt kVAt dcAt pmAt ctAt cdAt ocFo kVFo dcFo pmFo ctFo cdFo ocKe kVKe dcKe pmKe ctKe cdKe ocMa kVMa dcMa pmMa ctMa cdMa ocDl kVDl dcDl pmDl ctDl cdDl ocDr kVDr dcDr pmDr ctDr cdDr ocNa kVNa dcNa pmNa ctNa cdNa ocGa kVGa dcGa pmGa ctGa cdGa ocSo kVSo dcSo pmSo ctSo cdSo ocSa kVSa dcSa pmSa ctSa cdSa ocCo kVCo dcCo pmCo ctCo cdCo ocBr kVBr dcBr pmBr ctBr cdBr ocRi kVRi dcRi pmRi ctRi cdRi ocLa kVLa dcLa pmLa ctLa cdLa ocMo kVMo dcMo pmMo ctMo cdMo : Value}
    (aUn : PySem.W.nsIn K mainGlobals "is_under" = some (some (.ref fUn)))
    (lUn : K.lookup fUn = some ⟨ocUn, odUn, .func (PySem.W.fnOf "is_under" "is_under" (defArgs sUnder) (defBody sUnder) (defScope sUnder) .none kVUn dcUn pmUn anUn cdUn ctUn), slUn⟩)
    (cUn : PySem.W.codeIn K cdUn "is_under" = true)
    (kUn : PySem.W.keepIn K (.ref fUn) = true)
    (aTh : PySem.W.nsIn K mainGlobals "thinned" = some (some (.ref fTh)))
    (lTh : K.lookup fTh = some ⟨ocTh, odTh, .func (PySem.W.fnOf "thinned" "thinned" (defArgs sThin) (defBody sThin) (defScope sThin) .none kVTh dcTh pmTh anTh (.ref c) ctTh), slTh⟩)
    (cTh : PySem.W.codeIn K (.ref c) "thinned" = true)
    (kTh : PySem.W.keepIn K (.ref fTh) = true)
    (aOn : PySem.W.nsIn K mainGlobals "each_once" = some (some (.ref fOn)))
    (lOn : K.lookup fOn = some ⟨ocOn, odOn, .func (PySem.W.fnOf "each_once" "each_once" (defArgs sOnce) (defBody sOnce) (defScope sOnce) .none kVOn dcOn pmOn anOn cdOn ctOn), slOn⟩)
    (cOn : PySem.W.codeIn K cdOn "each_once" = true)
    (kOn : PySem.W.keepIn K (.ref fOn) = true)
    (aTo : PySem.W.nsIn K mainGlobals "together" = some (some (.ref fTo)))
    (lTo : K.lookup fTo = some ⟨ocTo, odTo, .func (PySem.W.fnOf "together" "together" (defArgs sTog) (defBody sTog) (defScope sTog) .none kVTo dcTo pmTo anTo cdTo ctTo), slTo⟩)
    (cTo : PySem.W.codeIn K cdTo "together" = true)
    (kTo : PySem.W.keepIn K (.ref fTo) = true)
    (aFr : PySem.W.nsIn K mainGlobals "arrows_from" = some (some (.ref fFr)))
    (lFr : K.lookup fFr = some ⟨ocFr, odFr, .func (PySem.W.fnOf "arrows_from" "arrows_from" (defArgs sFrom) (defBody sFrom) (defScope sFrom) .none kVFr dcFr pmFr anFr cdFr ctFr), slFr⟩)
    (cFr : PySem.W.codeIn K cdFr "arrows_from" = true)
    (kFr : PySem.W.keepIn K (.ref fFr) = true)
    (aPa : PySem.W.nsIn K mainGlobals "parted" = some (some (.ref fPa)))
    (lPa : K.lookup fPa = some ⟨ocPa, odPa, .func (PySem.W.fnOf "parted" "parted" (defArgs sParted) (defBody sParted) (defScope sParted) .none kVPa dcPa pmPa anPa cdPa ctPa), slPa⟩)
    (cPa : PySem.W.codeIn K cdPa "parted" = true)
    (kPa : PySem.W.keepIn K (.ref fPa) = true)
    (aRe : PySem.W.nsIn K mainGlobals "read_on" = some (some (.ref fRe)))
    (lRe : K.lookup fRe = some ⟨ocRe, odRe, .func (PySem.W.fnOf "read_on" "read_on" (defArgs sRead) (defBody sRead) (defScope sRead) .none kVRe dcRe pmRe anRe cdRe ctRe), slRe⟩)
    (cRe : PySem.W.codeIn K cdRe "read_on" = true)
    (kRe : PySem.W.keepIn K (.ref fRe) = true)
    (aRu : PySem.W.nsIn K mainGlobals "rules_at" = some (some (.ref fRu)))
    (lRu : K.lookup fRu = some ⟨ocRu, odRu, .func (PySem.W.fnOf "rules_at" "rules_at" (defArgs sRulesAt) (defBody sRulesAt) (defScope sRulesAt) .none kVRu dcRu pmRu anRu cdRu ctRu), slRu⟩)
    (cRu : PySem.W.codeIn K cdRu "rules_at" = true)
    (kRu : PySem.W.keepIn K (.ref fRu) = true)
    (aAt : PySem.W.nsIn K mainGlobals "at_place" = some (some (.ref fAt)))
    (lAt : K.lookup fAt = some ⟨ocAt, odAt, .func (PySem.W.fnOf "at_place" "at_place" (defArgs sAt) (defBody sAt) (defScope sAt) .none kVAt dcAt pmAt anAt cdAt ctAt), slAt⟩)
    (cAt : PySem.W.codeIn K cdAt "at_place" = true)
    (kAt : PySem.W.keepIn K (.ref fAt) = true)
    (aFo : PySem.W.nsIn K mainGlobals "followed" = some (some (.ref fFo)))
    (lFo : K.lookup fFo = some ⟨ocFo, odFo, .func (PySem.W.fnOf "followed" "followed" (defArgs sFol) (defBody sFol) (defScope sFol) .none kVFo dcFo pmFo anFo cdFo ctFo), slFo⟩)
    (cFo : PySem.W.codeIn K cdFo "followed" = true)
    (kFo : PySem.W.keepIn K (.ref fFo) = true)
    (aKe : PySem.W.nsIn K mainGlobals "kept_of" = some (some (.ref fKe)))
    (lKe : K.lookup fKe = some ⟨ocKe, odKe, .func (PySem.W.fnOf "kept_of" "kept_of" (defArgs sKept) (defBody sKept) (defScope sKept) .none kVKe dcKe pmKe anKe cdKe ctKe), slKe⟩)
    (cKe : PySem.W.codeIn K cdKe "kept_of" = true)
    (kKe : PySem.W.keepIn K (.ref fKe) = true)
    (aMa : PySem.W.nsIn K mainGlobals "machine" = some (some (.ref fMa)))
    (lMa : K.lookup fMa = some ⟨ocMa, odMa, .func (PySem.W.fnOf "machine" "machine" (defArgs sMach) (defBody sMach) (defScope sMach) (.ref Td) kVMa dcMa pmMa anMa cdMa ctMa), slMa⟩)
    (cMa : PySem.W.codeIn K cdMa "machine" = true)
    (kMa : PySem.W.keepIn K (.ref fMa) = true)
    (aDl : PySem.W.nsIn K mainGlobals "_law_deal" = some (some (.ref fDl)))
    (lDl : K.lookup fDl = some ⟨ocDl, odDl, .func (PySem.W.fnOf "_law_deal" "_law_deal" (defArgs sDeal) (defBody sDeal) (defScope sDeal) .none kVDl dcDl pmDl anDl cdDl ctDl), slDl⟩)
    (cDl : PySem.W.codeIn K cdDl "_law_deal" = true)
    (kDl : PySem.W.keepIn K (.ref fDl) = true)
    (aDr : PySem.W.nsIn K mainGlobals "_law_draw" = some (some (.ref fDr)))
    (lDr : K.lookup fDr = some ⟨ocDr, odDr, .func (PySem.W.fnOf "_law_draw" "_law_draw" (defArgs sDraw) (defBody sDraw) (defScope sDraw) .none kVDr dcDr pmDr anDr cdDr ctDr), slDr⟩)
    (cDr : PySem.W.codeIn K cdDr "_law_draw" = true)
    (kDr : PySem.W.keepIn K (.ref fDr) = true)
    (aNa : PySem.W.nsIn K mainGlobals "_law_names" = some (some (.ref fNa)))
    (lNa : K.lookup fNa = some ⟨ocNa, odNa, .func (PySem.W.fnOf "_law_names" "_law_names" (defArgs sNames) (defBody sNames) (defScope sNames) .none kVNa dcNa pmNa anNa cdNa ctNa), slNa⟩)
    (cNa : PySem.W.codeIn K cdNa "_law_names" = true)
    (kNa : PySem.W.keepIn K (.ref fNa) = true)
    (aGa : PySem.W.nsIn K mainGlobals "_law_game" = some (some (.ref fGa)))
    (lGa : K.lookup fGa = some ⟨ocGa, odGa, .func (PySem.W.fnOf "_law_game" "_law_game" (defArgs sGame) (defBody sGame) (defScope sGame) .none kVGa dcGa pmGa anGa cdGa ctGa), slGa⟩)
    (cGa : PySem.W.codeIn K cdGa "_law_game" = true)
    (kGa : PySem.W.keepIn K (.ref fGa) = true)
    (aSo : PySem.W.nsIn K mainGlobals "_law_some" = some (some (.ref fSo)))
    (lSo : K.lookup fSo = some ⟨ocSo, odSo, .func (PySem.W.fnOf "_law_some" "_law_some" (defArgs sSome) (defBody sSome) (defScope sSome) .none kVSo dcSo pmSo anSo cdSo ctSo), slSo⟩)
    (cSo : PySem.W.codeIn K cdSo "_law_some" = true)
    (kSo : PySem.W.keepIn K (.ref fSo) = true)
    (aSa : PySem.W.nsIn K mainGlobals "_law_saying" = some (some (.ref fSa)))
    (lSa : K.lookup fSa = some ⟨ocSa, odSa, .func (PySem.W.fnOf "_law_saying" "_law_saying" (defArgs sSaying) (defBody sSaying) (defScope sSaying) .none kVSa dcSa pmSa anSa cdSa ctSa), slSa⟩)
    (cSa : PySem.W.codeIn K cdSa "_law_saying" = true)
    (kSa : PySem.W.keepIn K (.ref fSa) = true)
    (aCo : PySem.W.nsIn K mainGlobals "_law_costs" = some (some (.ref fCo)))
    (lCo : K.lookup fCo = some ⟨ocCo, odCo, .func (PySem.W.fnOf "_law_costs" "_law_costs" (defArgs sCosts) (defBody sCosts) (defScope sCosts) .none kVCo dcCo pmCo anCo cdCo ctCo), slCo⟩)
    (cCo : PySem.W.codeIn K cdCo "_law_costs" = true)
    (kCo : PySem.W.keepIn K (.ref fCo) = true)
    (aBr : PySem.W.nsIn K mainGlobals "_law_brings" = some (some (.ref fBr)))
    (lBr : K.lookup fBr = some ⟨ocBr, odBr, .func (PySem.W.fnOf "_law_brings" "_law_brings" (defArgs sBrings) (defBody sBrings) (defScope sBrings) .none kVBr dcBr pmBr anBr cdBr ctBr), slBr⟩)
    (cBr : PySem.W.codeIn K cdBr "_law_brings" = true)
    (kBr : PySem.W.keepIn K (.ref fBr) = true)
    (aRi : PySem.W.nsIn K mainGlobals "_law_right" = some (some (.ref fRi)))
    (lRi : K.lookup fRi = some ⟨ocRi, odRi, .func (PySem.W.fnOf "_law_right" "_law_right" (defArgs sRight) (defBody sRight) (defScope sRight) .none kVRi dcRi pmRi anRi cdRi ctRi), slRi⟩)
    (cRi : PySem.W.codeIn K cdRi "_law_right" = true)
    (kRi : PySem.W.keepIn K (.ref fRi) = true)
    (aLa : PySem.W.nsIn K mainGlobals "law" = some (some (.ref fLa)))
    (lLa : K.lookup fLa = some ⟨ocLa, odLa, .func (PySem.W.fnOf "law" "law" (defArgs sLaw) (defBody sLaw) (defScope sLaw) .none kVLa dcLa pmLa anLa cdLa ctLa), slLa⟩)
    (cLa : PySem.W.codeIn K cdLa "law" = true)
    (kLa : PySem.W.keepIn K (.ref fLa) = true)
    (dT : K.lookup Td = some ⟨cT, odT, .seq #[.int 200 tk] nT, slT⟩)
    (aC : PySem.W.nsIn K mainGlobals "TooMany" = some (some (.ref C)))
    (xC : K.lookup C = some (excClassObj nm q C Na bs bm true sn sub ab col dd m0 m1 m2 m3 m5 "ValueError.__new__"))
    (rv : PySem.HandSPX.refsVE bm = true)
    (sa : PySem.W.findIn K (.ref C) "__setattr__" = some (some (.builtin "object.__setattr__")))
    (noN : PySem.W.findIn K (.ref C) "most" = some none)
    (iC : PySem.W.findIn K (.ref C) "__init__" = some (some (.ref fMo)))
    (tI : PySem.W.typeIn K (.ref fMo) = some (.type "function"))
    (lMo : K.lookup fMo = some ⟨ocMo, odMo, .func (PySem.W.fnOf "__init__" "TooMany.__init__" (defArgs sMost) (defBody sMost) (defScope sMost) .none kVMo dcMo pmMo anMo cdMo ctMo), slMo⟩)
    (cMo : PySem.W.codeIn K cdMo "TooMany.__init__" = true)
    (kMo : PySem.W.keepIn K (.ref fMo) = true)
    (kC : PySem.W.keepIn K (.ref C) = true)
    (eC : PySem.W.subIn K (.ref C) (.type "BaseException") = some true)
    (yC : PySem.W.typeIn K (.ref C) = some (.type "type"))
    (sC : PySem.W.subIn K (.ref C) (.ref C) = some true)
    (iK : PySem.W.isClsIn K C = true)
    (z_len : PySem.W.nsIn K mainGlobals "len" = some none)
    (z_any : PySem.W.nsIn K mainGlobals "any" = some none)
    (z_all : PySem.W.nsIn K mainGlobals "all" = some none)
    (z_sorted : PySem.W.nsIn K mainGlobals "sorted" = some none)
    (z_set : PySem.W.nsIn K mainGlobals "set" = some none)
    (z_tuple : PySem.W.nsIn K mainGlobals "tuple" = some none)
    (z_max : PySem.W.nsIn K mainGlobals "max" = some none)
    (z_min : PySem.W.nsIn K mainGlobals "min" = some none)
    (z_list : PySem.W.nsIn K mainGlobals "list" = some none)
    (z_dict : PySem.W.nsIn K mainGlobals "dict" = some none)
    (z_range : PySem.W.nsIn K mainGlobals "range" = some none)
    (z_reversed : PySem.W.nsIn K mainGlobals "reversed" = some none)
    (z_enumerate : PySem.W.nsIn K mainGlobals "enumerate" = some none)
    (pT : h.get? Pt = some { cls := .none, data := .fields #[] })
    (pN : K.lookup Pt = none)
    (pC : PySem.W.CodeHd h c Pt) :
    LamX.LawAtS l w K CX0 12 63 "_law_script" mg fa h := by
  have e := hfa.symm.trans (PySem.W.mg_of X G aLa)
  cases e
  have y_len : mg "len" = none := PySem.W.mg_none_of X G z_len
  have y_any : mg "any" = none := PySem.W.mg_none_of X G z_any
  have y_all : mg "all" = none := PySem.W.mg_none_of X G z_all
  have y_sorted : mg "sorted" = none := PySem.W.mg_none_of X G z_sorted
  have y_set : mg "set" = none := PySem.W.mg_none_of X G z_set
  have y_tuple : mg "tuple" = none := PySem.W.mg_none_of X G z_tuple
  have y_max : mg "max" = none := PySem.W.mg_none_of X G z_max
  have y_min : mg "min" = none := PySem.W.mg_none_of X G z_min
  have y_list : mg "list" = none := PySem.W.mg_none_of X G z_list
  have y_dict : mg "dict" = none := PySem.W.mg_none_of X G z_dict
  have y_range : mg "range" = none := PySem.W.mg_none_of X G z_range
  have y_reversed : mg "reversed" = none := PySem.W.mg_none_of X G z_reversed
  have y_enumerate : mg "enumerate" = none := PySem.W.mg_none_of X G z_enumerate
  have FUn := fun_mk (st := sUnder) lUn cUn kUn
  have bUn := FUn.binds (ps := ["one", "other"]) fun _ _ _ _ _ _ us hl => match us, hl with | [_, _], _ => rfl
  have gUn := PySem.W.mg_of X G aUn
  have FTh : FunC K "thinned" "thinned" sThin fTh _ c := ⟨_, _, _, _, _, _, _, _, rfl, lTh, cTh⟩
  have bTh := FTh.binds (ps := ["pairs"]) fun _ _ _ _ _ us hl => match us, hl with | [_], _ => rfl
  have gTh := PySem.W.mg_of X G aTh
  have FOn := fun_mk (st := sOnce) lOn cOn kOn
  have bOn := FOn.binds (ps := ["pairs", "is_thin"]) fun _ _ _ _ _ _ us hl => match us, hl with | [_, _], _ => rfl
  have gOn := PySem.W.mg_of X G aOn
  have FTo := fun_mk (st := sTog) lTo cTo kTo
  have bTo := FTo.binds (ps := ["ones", "others", "is_thin"]) fun _ _ _ _ _ _ us hl => match us, hl with | [_, _, _], _ => rfl
  have gTo := PySem.W.mg_of X G aTo
  have FFr := fun_mk (st := sFrom) lFr cFr kFr
  have bFr := FFr.binds (ps := ["arrows", "stand", "letter"]) fun _ _ _ _ _ _ us hl => match us, hl with | [_, _, _], _ => rfl
  have gFr := PySem.W.mg_of X G aFr
  have FPa := fun_mk (st := sParted) lPa cPa kPa
  have bPa := FPa.binds (ps := ["arrows", "stands", "letter", "is_thin"]) fun _ _ _ _ _ _ us hl => match us, hl with | [_, _, _, _], _ => rfl
  have gPa := PySem.W.mg_of X G aPa
  have FRe := fun_mk (st := sRead) lRe cRe kRe
  have bRe := FRe.binds (ps := ["arrows", "stand", "w", "is_thin"]) fun _ _ _ _ _ _ us hl => match us, hl with | [_, _, _, _], _ => rfl
  have gRe := PySem.W.mg_of X G aRe
  have FRu := fun_mk (st := sRulesAt) lRu cRu kRu
  have bRu := FRu.binds (ps := ["game", "place", "letter"]) fun _ _ _ _ _ _ us hl => match us, hl with | [_, _, _], _ => rfl
  have gRu := PySem.W.mg_of X G aRu
  have FAt := fun_mk (st := sAt) lAt cAt kAt
  have bAt := FAt.binds (ps := ["game", "arrows", "place", "letter", "is_thin"]) fun _ _ _ _ _ _ us hl => match us, hl with | [_, _, _, _, _], _ => rfl
  have gAt := PySem.W.mg_of X G aAt
  have FFo := fun_mk (st := sFol) lFo cFo kFo
  have bFo := FFo.binds (ps := ["game", "arrows", "is_thin"]) fun _ _ _ _ _ _ us hl => match us, hl with | [_, _, _], _ => rfl
  have gFo := PySem.W.mg_of X G aFo
  have FKe := fun_mk (st := sKept) lKe cKe kKe
  have bKe := FKe.binds (ps := ["arrows"]) fun _ _ _ _ _ _ us hl => match us, hl with | [_], _ => rfl
  have gKe := PySem.W.mg_of X G aKe
  have FMa : FunD K "machine" "machine" (defArgs sMach) (defBody sMach) (defScope sMach) [.int 200] [] fMa _ := ⟨⟨_, _, _, _, _, _, _, _, _, _, rfl, lMa, cMa, .inr ⟨(fun z => by cases z), Td, _, [.int 200 tk], nT, rfl, dT, rfl, .cons ⟨_, rfl⟩ .nil⟩, .inl rfl⟩, kMa⟩
  obtain ⟨ds, hds, bMa⟩ := FMa.binds1 (ps := ["game", "saying", "most"]) 2 0 (fun z => by cases z) rfl fun T kV doc pm an cdv ct us its hu hi => match us, its, hu, hi with | [_, _], [_], _, _ => ⟨_, rfl, rfl⟩
  have gMa := PySem.W.mg_of X G aMa
  have FDl := fun_mk (st := sDeal) lDl cDl kDl
  have bDl := FDl.binds (ps := ["_law_script", "_law_base"]) fun _ _ _ _ _ _ us hl => match us, hl with | [_, _], _ => rfl
  have gDl := PySem.W.mg_of X G aDl
  have FDr := fun_mk (st := sDraw) lDr cDr kDr
  have bDr := FDr.binds (ps := ["_law_deal_here", "_law_many"]) fun _ _ _ _ _ _ us hl => match us, hl with | [_, _], _ => rfl
  have gDr := PySem.W.mg_of X G aDr
  have FNa := fun_mk (st := sNames) lNa cNa kNa
  have bNa := FNa.binds (ps := ["_law_deal_here", "_law_many"]) fun _ _ _ _ _ _ us hl => match us, hl with | [_, _], _ => rfl
  have gNa := PySem.W.mg_of X G aNa
  have FGa := fun_mk (st := sGame) lGa cGa kGa
  have bGa := FGa.binds (ps := ["_law_deal_here"]) fun _ _ _ _ _ _ us hl => match us, hl with | [_], _ => rfl
  have gGa := PySem.W.mg_of X G aGa
  have FSo := fun_mk (st := sSome) lSo cSo kSo
  have bSo := FSo.binds (ps := ["_law_deal_here", "_law_begin", "_law_end"]) fun _ _ _ _ _ _ us hl => match us, hl with | [_, _, _], _ => rfl
  have gSo := PySem.W.mg_of X G aSo
  have FSa := fun_mk (st := sSaying) lSa cSa kSa
  have bSa := FSa.binds (ps := ["_law_deal_here", "_law_game_here"]) fun _ _ _ _ _ _ us hl => match us, hl with | [_, _], _ => rfl
  have gSa := PySem.W.mg_of X G aSa
  have FCo := fun_mk (st := sCosts) lCo cCo kCo
  have bCo := FCo.binds (ps := ["_law_arrows", "_law_ends", "_law_pile"]) fun _ _ _ _ _ _ us hl => match us, hl with | [_, _, _], _ => rfl
  have gCo := PySem.W.mg_of X G aCo
  have FBr := fun_mk (st := sBrings) lBr cBr kBr
  have bBr := FBr.binds (ps := ["_law_game_here", "_law_begun", "_law_ends", "_law_spot", "_law_k", "_law_known"]) fun _ _ _ _ _ _ us hl => match us, hl with | [_, _, _, _, _, _], _ => rfl
  have gBr := PySem.W.mg_of X G aBr
  have FRi := fun_mk (st := sRight) lRi cRi kRi
  have bRi := FRi.binds (ps := ["_law_deal_here", "_law_game_here", "_law_saying_here", "_law_arrows"]) fun _ _ _ _ _ _ us hl => match us, hl with | [_, _, _, _], _ => rfl
  have gRi := PySem.W.mg_of X G aRi
  have FLa := fun_mk (st := sLaw) lLa cLa kLa
  have bLa := FLa.binds (ps := ["_law_script"]) fun _ _ _ _ _ _ us hl => match us, hl with | [_], _ => rfl
  have gLa := PySem.W.mg_of X G aLa
  have FMo := fun_mk (st := sMost) lMo cMo kMo
  have bMo := FMo.binds (ps := ["self", "most"]) fun _ _ _ _ _ _ us hl => match us, hl with | [_, _], _ => rfl
  have gC := PySem.W.mg_of X G aC
  have te := exm_own eC iK yC sC
  have O : OexC K C := ⟨⟨nm, q, Na, bs, bm, sn, sub, ab, col, dd, m0, m1, m2, m3, m5, xC, rv⟩, sa, eC, yC, kC⟩
  refine ⟨PySem.W.fnOf "law" "law" (defArgs sLaw) (defBody sLaw) (defScope sLaw) .none kVLa dcLa pmLa anLa cdLa ctLa, [(c, Pt)], spLaw [(Pt, Str.ofString "thinned.<locals>.<lambda>")] K, (fun p hp => ?_), (fun p hp => ?_), (fun p hp => ?_), (fun s v => .of_eq rfl), (fun H a ns hl _ hH hS => ⟨a, ns, rfl, hS, hl, fun p hp => ?_, fun _ => rfl⟩), fun base KB NB TB => ?_⟩
  · rw [List.mem_singleton.mp hp]; exact pT
  · rw [List.mem_singleton.mp hp]; exact pN
  · rw [List.mem_singleton.mp hp]; exact pC
  · rw [List.mem_singleton.mp hp]; exact LamX.TabS.nil (hH (c, Pt) (List.mem_singleton.mpr rfl))
  have tb := TB (c, Pt) (List.mem_singleton.mpr rfl)
  have UN := ok_under (P := l.prog) (w := w) (base := base) (T := [(Pt, Str.ofString "thinned.<locals>.<lambda>")]) FUn y_all
  have TH := ok_thin FTh tb rfl UN kUn bUn gUn y_any y_len y_sorted
  have ON := ok_once FOn TH kTh bTh gTh
  have FR := ok_from (P := l.prog) (w := w) (base := base) (T := [(Pt, Str.ofString "thinned.<locals>.<lambda>")]) (mg := mg) FFr
  have TO := ok_tog FTo ON kOn bOn gOn y_tuple y_sorted y_set y_max
  have PA := ok_parted FPa TO kTo bTo gTo FR kFr bFr gFr
  have RE := ok_read FRe ON kOn bOn gOn FR kFr bFr gFr PA kPa bPa gPa y_len
  have RU := ok_rules (P := l.prog) (w := w) (base := base) (T := [(Pt, Str.ofString "thinned.<locals>.<lambda>")]) FRu y_enumerate
  have AT := ok_at FAt RU kRu bRu gRu RE kRe bRe gRe ON kOn bOn gOn TO kTo bTo gTo y_len
  have FO := ok_fol FFo AT kAt bAt gAt y_len y_range y_sorted
  have KE := ok_kept FKe TH kTh bTh gTh y_sorted y_set
  have MO := ok_most (P := l.prog) (w := w) (base := base) (mg := mg) FMo O noN
  have MA := ok_mach FMa KE kKe bKe gKe FO kFo bFo gFo O iC tI MO bMo gC y_len y_tuple
  have DL := ok_deal (P := l.prog) (w := w) (base := base) (T := [(Pt, Str.ofString "thinned.<locals>.<lambda>")]) FDl y_max y_list y_reversed
  have DR := ok_draw (P := l.prog) (w := w) (base := base) (T := [(Pt, Str.ofString "thinned.<locals>.<lambda>")]) FDr y_len
  have NA := ok_names FNa DR kDr bDr gDr y_range
  have GA := ok_game FGa DR kDr bDr gDr NA kNa bNa gNa y_range y_tuple y_len y_min
  have SO := ok_some FSo DR kDr bDr gDr y_tuple y_range
  have SA := ok_saying FSa DR kDr bDr gDr SO kSo bSo gSo y_range y_tuple y_len y_sorted y_set
  have CO := ok_costs (P := l.prog) (w := w) (base := base) (T := [(Pt, Str.ofString "thinned.<locals>.<lambda>")]) FCo y_dict y_sorted y_set y_reversed y_all y_max y_min
  have BR := ok_brings FBr kBr bBr gBr CO kCo bCo gCo y_len 5
  have RI := ok_right FRi BR kBr bBr gBr CO kCo bCo gCo DR kDr bDr gDr y_len y_range y_tuple
  exact ok_law FLa DL kDl bDl gDl GA kGa bGa gGa SA kSa bSa gSa MA kMa bMa hds gMa RI kRi bRi gRi gC te y_range
end K27
end

section
set_option Elab.async false
set_option linter.all false

open PySem PySem.W PyProof.Rows in
set_option maxRecDepth 100000 in
set_option maxHeartbeats 0 in
theorem PySem.Challenge.cw_pileduel_k27_whole_read_just_what_is_bro_holds : PySem.Challenge.rw_pileduel_k27_whole_read_just_what_is_bro.Holds := by
  w_on; o_law; k_head; (case hw => w_witness2)
  k_fill
  refine LamX.walk_ofTs (l := PySem.Challenge.rw_pileduel_k27_whole_read_just_what_is_bro) (n := 63) (k := 12) (CX := fun _ => L2.CX0) (x := "_law_script") rfl (by decide) rfl ⟨rfl, by decide, by decide⟩ (fun w h Y => PySem.W.km_in_of Y) ?F (fun _ _ _ _ _ z => z)
  case F =>
    intro w mg fa h Y KX G hmg
    have hT8 := PySem.W.km_tabs_of Y
    refine' K27.all_mk (Pt := 58) KX G hmg ?aUn ?lUn ?cUn ?kUn ?aTh ?lTh ?cTh ?kTh ?aOn ?lOn ?cOn ?kOn ?aTo ?lTo ?cTo ?kTo ?aFr ?lFr ?cFr ?kFr ?aPa ?lPa ?cPa ?kPa ?aRe ?lRe ?cRe ?kRe ?aRu ?lRu ?cRu ?kRu ?aAt ?lAt ?cAt ?kAt ?aFo ?lFo ?cFo ?kFo ?aKe ?lKe ?cKe ?kKe ?aMa ?lMa ?cMa ?kMa ?aDl ?lDl ?cDl ?kDl ?aDr ?lDr ?cDr ?kDr ?aNa ?lNa ?cNa ?kNa ?aGa ?lGa ?cGa ?kGa ?aSo ?lSo ?cSo ?kSo ?aSa ?lSa ?cSa ?kSa ?aCo ?lCo ?cCo ?kCo ?aBr ?lBr ?cBr ?kBr ?aRi ?lRi ?cRi ?kRi ?aLa ?lLa ?cLa ?kLa ?dT ?aC ?xC ?rv ?sa ?noN ?iC ?tI ?lMo ?cMo ?kMo ?kC ?eC ?yC ?sC ?iK ?z_len ?z_any ?z_all ?z_sorted ?z_set ?z_tuple ?z_max ?z_min ?z_list ?z_dict ?z_range ?z_reversed ?z_enumerate ?pT ?pN ?pC
    (case aUn => k_is)
    (case lUn => k_is)
    (case cUn => k_is)
    (case kUn => k_is)
    (case aTh => k_is)
    (case lTh => k_is)
    (case cTh => k_is)
    (case kTh => k_is)
    (case aOn => k_is)
    (case lOn => k_is)
    (case cOn => k_is)
    (case kOn => k_is)
    (case aTo => k_is)
    (case lTo => k_is)
    (case cTo => k_is)
    (case kTo => k_is)
    (case aFr => k_is)
    (case lFr => k_is)
    (case cFr => k_is)
    (case kFr => k_is)
    (case aPa => k_is)
    (case lPa => k_is)
    (case cPa => k_is)
    (case kPa => k_is)
    (case aRe => k_is)
    (case lRe => k_is)
    (case cRe => k_is)
    (case kRe => k_is)
    (case aRu => k_is)
    (case lRu => k_is)
    (case cRu => k_is)
    (case kRu => k_is)
    (case aAt => k_is)
    (case lAt => k_is)
    (case cAt => k_is)
    (case kAt => k_is)
    (case aFo => k_is)
    (case lFo => k_is)
    (case cFo => k_is)
    (case kFo => k_is)
    (case aKe => k_is)
    (case lKe => k_is)
    (case cKe => k_is)
    (case kKe => k_is)
    (case aMa => k_is)
    (case lMa => k_is)
    (case cMa => k_is)
    (case kMa => k_is)
    (case aDl => k_is)
    (case lDl => k_is)
    (case cDl => k_is)
    (case kDl => k_is)
    (case aDr => k_is)
    (case lDr => k_is)
    (case cDr => k_is)
    (case kDr => k_is)
    (case aNa => k_is)
    (case lNa => k_is)
    (case cNa => k_is)
    (case kNa => k_is)
    (case aGa => k_is)
    (case lGa => k_is)
    (case cGa => k_is)
    (case kGa => k_is)
    (case aSo => k_is)
    (case lSo => k_is)
    (case cSo => k_is)
    (case kSo => k_is)
    (case aSa => k_is)
    (case lSa => k_is)
    (case cSa => k_is)
    (case kSa => k_is)
    (case aCo => k_is)
    (case lCo => k_is)
    (case cCo => k_is)
    (case kCo => k_is)
    (case aBr => k_is)
    (case lBr => k_is)
    (case cBr => k_is)
    (case kBr => k_is)
    (case aRi => k_is)
    (case lRi => k_is)
    (case cRi => k_is)
    (case kRi => k_is)
    (case aLa => k_is)
    (case lLa => k_is)
    (case cLa => k_is)
    (case kLa => k_is)
    (case dT => k_is)
    (case aC => k_is)
    (case xC => k_is)
    (case rv => decide +kernel)
    (case sa => k_is)
    (case noN => k_is)
    (case iC => k_is)
    (case tI => k_is)
    (case lMo => k_is)
    (case cMo => k_is)
    (case kMo => k_is)
    (case kC => k_is)
    (case eC => k_is)
    (case yC => k_is)
    (case sC => first | rfl | k_is)
    (case iK => k_is)
    (case z_len => k_is)
    (case z_any => k_is)
    (case z_all => k_is)
    (case z_sorted => k_is)
    (case z_set => k_is)
    (case z_tuple => k_is)
    (case z_max => k_is)
    (case z_min => k_is)
    (case z_list => k_is)
    (case z_dict => k_is)
    (case z_range => k_is)
    (case z_reversed => k_is)
    (case z_enumerate => k_is)
    (case pT => exact hT8 58 (List.mem_singleton.mpr rfl))
    (case pN => kernel_rfl)
    (case pC => exact PySem.W.codeHd_of_K KX (by kernel_rfl))
#print axioms PySem.Challenge.cw_pileduel_k27_whole_read_just_what_is_bro_holds
end
