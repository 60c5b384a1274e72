import PyProof.Rows.All
import Wide.All
import OpenK.AllK
import Wide.FinOn
import HandS.EndTab
import HandS.ForMost
import HandS.Nested
import HandS.Style
import HandS.TupAny
import HandS.Star
import HandS.Conv
import HandS.IsInst
import HandS.DictTup
import HandS.Flow
import HandS.Strs
import HandS.TupSets
import HandS.TryOnly
import HandS.ExcOwn
import HandS.WordsExc
import KE.SortKeyHeap
import KE.KDictKeyed
import KE.GoesEnum
import KE.DataEq
import KE.KRevSl
import KE.KDictCopyH
import KE.KDictDisplayH
import KE.KDictSum
import HandS.MapSum
import HandS.DictComp
import KE.KeyNested
import PySem.Challenge.RW_lossbars_k16_whole_up_sets_by_their_valu
section K16AText
set_option autoImplicit false
set_option linter.all false
/-! Sorts, typed values, what holds what: plain Lean, no program in sight. -/
namespace K16
open PySem (Str)

/-! ### lists -/
inductive F2 {A B : Type} (R : A → B → Prop) : List A → List B → Prop
  | nil : F2 R [] []
  | cons {a : A} {b : B} {as : List A} {bs : List B} : R a b → F2 R as bs → F2 R (a :: as) (b :: bs)

section
variable {A B C : Type} {R : A → B → Prop}
theorem F2.imp {S : A → B → Prop} (h : ∀ a b, R a b → S a b) : ∀ {x : List A} {y : List B}, F2 R x y → F2 S x y
  | _, _, .nil => .nil
  | _, _, .cons r t => .cons (h _ _ r) (F2.imp h t)
theorem F2.refl {R : A → A → Prop} (h : ∀ a, R a a) : ∀ x : List A, F2 R x x
  | [] => .nil
  | a :: x => .cons (h a) (F2.refl h x)
theorem F2.trans {R : A → A → Prop} (h : ∀ a b c, R a b → R b c → R a c) : ∀ {x y z : List A}, F2 R x y → F2 R y z → F2 R x z
  | _, _, _, .nil, .nil => .nil
  | _, _, _, .cons r t, .cons r' t' => .cons (h _ _ _ r r') (F2.trans h t t')
theorem F2.length : ∀ {x : List A} {y : List B}, F2 R x y → x.length = y.length
  | _, _, .nil => rfl
  | _, _, .cons _ t => by simp [F2.length t]
theorem F2.sub : ∀ {w : List A} {u x : List B}, F2 R w u → x.Sublist u → ∃ y : List A, y.Sublist w ∧ F2 R y x
  | _, _, _, .nil, h => by
    cases h
    exact ⟨[], List.Sublist.refl _, .nil⟩
  | _, _, _, .cons (a := a) r t, h => by
    cases h with
    | cons _ h =>
      obtain ⟨y, h1, h2⟩ := F2.sub t h
      exact ⟨y, h1.cons a, h2⟩
    | cons_cons _ h =>
      obtain ⟨y, h1, h2⟩ := F2.sub t h
      exact ⟨a :: y, h1.cons_cons a, .cons r h2⟩
theorem F2.app : ∀ {w x : List A} {u y : List B}, F2 R w u → F2 R x y → F2 R (w ++ x) (u ++ y)
  | _, _, _, _, .nil, h => h
  | _, _, _, _, .cons r t, h => .cons r (F2.app t h)
theorem F2.cut : ∀ {a b : List B} {w : List A}, F2 R w (a ++ b) → ∃ w1 w2, w = w1 ++ w2 ∧ F2 R w1 a ∧ F2 R w2 b
  | [], b, w, h => ⟨[], w, rfl, .nil, h⟩
  | x :: a, b, w, h => by
    cases h with
    | cons r t =>
      obtain ⟨w1, w2, e, h1, h2⟩ := F2.cut (a := a) t
      exact ⟨_ :: w1, w2, by rw [e]; rfl, .cons r h1, h2⟩
theorem F2.perm {u u' : List B} (p : u.Perm u') : ∀ {w : List A}, F2 R w u → ∃ w' : List A, w.Perm w' ∧ F2 R w' u' := by
  induction p with
  | nil =>
    intro w h
    exact ⟨w, .refl _, h⟩
  | cons x p ih =>
    intro w h
    cases h with
    | cons r t =>
      obtain ⟨w', p', h'⟩ := ih t
      exact ⟨_ :: w', p'.cons _, .cons r h'⟩
  | swap x y l =>
    intro w h
    cases h with
    | cons r t =>
      cases t with
      | cons r' t' => exact ⟨_, .swap _ _ _, .cons r' (.cons r t')⟩
  | trans p q ih1 ih2 =>
    intro w h
    obtain ⟨w1, p1, h1⟩ := ih1 h
    obtain ⟨w2, p2, h2⟩ := ih2 h1
    exact ⟨w2, p1.trans p2, h2⟩
end

section
variable {A : Type}
/-! ### lanes: leaving out -/
/-- u comes of v by leaving out elements and putting held ones in the place of others: the first fit -/
def emb (R : A → A → Bool) : List A → List A → Bool
  | _, [] => true
  | [], _ :: _ => false
  | x :: v, y :: u => if R x y = true then emb R v u else emb R v (y :: u)
variable {R : A → A → Bool}
theorem emb_nil (v : List A) : emb R v [] = true := by cases v <;> rfl
theorem emb_yes {x y : A} {v u : List A} (h : R x y = true) : emb R (x :: v) (y :: u) = emb R v u := by rw [emb, if_pos h]
theorem emb_no {x y : A} {v u : List A} (h : ¬ R x y = true) : emb R (x :: v) (y :: u) = emb R v (y :: u) := by rw [emb, if_neg h]
theorem emb_drop : ∀ (v : List A) (y : A) (u : List A), emb R v (y :: u) = true → emb R v u = true
  | [], y, u, h => by simp [emb] at h
  | x :: v, y, u, h => by
    have up : emb R v u = true → emb R (x :: v) u = true := fun q => by
      cases u with
      | nil => exact emb_nil _
      | cons z u =>
        by_cases c : R x z = true
        · rw [emb_yes c]; exact emb_drop v z u q
        · rw [emb_no c]; exact q
    by_cases c : R x y = true
    · rw [emb_yes c] at h; exact up h
    · rw [emb_no c] at h; exact up (emb_drop v y u h)
theorem emb_skip {x : A} {v u : List A} (h : emb R v u = true) : emb R (x :: v) u = true := by
  cases u with
  | nil => exact emb_nil _
  | cons z u =>
    by_cases c : R x z = true
    · rw [emb_yes c]; exact emb_drop v z u h
    · rw [emb_no c]; exact h
def Emb (R : A → A → Prop) (v u : List A) : Prop := ∃ w : List A, w.Sublist v ∧ F2 R w u
theorem emb_iff : ∀ {v u : List A}, emb R v u = true ↔ Emb (fun a b => R a b = true) v u := by
  intro v u
  constructor
  · induction v generalizing u with
    | nil =>
      intro h
      cases u with
      | nil => exact ⟨[], .refl _, .nil⟩
      | cons y u => simp [emb] at h
    | cons x v ih =>
      intro h
      cases u with
      | nil => exact ⟨[], List.nil_sublist _, .nil⟩
      | cons y u =>
        by_cases c : R x y = true
        · rw [emb_yes c] at h
          obtain ⟨w, h1, h2⟩ := ih h
          exact ⟨x :: w, h1.cons_cons x, .cons c h2⟩
        · rw [emb_no c] at h
          obtain ⟨w, h1, h2⟩ := ih h
          exact ⟨w, h1.cons x, h2⟩
  · rintro ⟨w, h1, h2⟩
    induction h1 generalizing u with
    | slnil => cases h2; rfl
    | cons x h1 ih => exact emb_skip (ih h2)
    | cons_cons x h1 ih =>
      cases h2 with
      | cons r t => rw [emb_yes r]; exact ih t
theorem emb_refl (h : ∀ a, R a a = true) : ∀ v : List A, emb R v v = true
  | [] => rfl
  | x :: v => by rw [emb_yes (h x)]; exact emb_refl h v
theorem emb_trans (h : ∀ a b c, R a b = true → R b c = true → R a c = true) {x y z : List A} (h1 : emb R x y = true) (h2 : emb R y z = true) : emb R x z = true := by
  obtain ⟨w, a1, a2⟩ := emb_iff.mp h1
  obtain ⟨w', b1, b2⟩ := emb_iff.mp h2
  obtain ⟨t, c1, c2⟩ := F2.sub a2 b1
  exact emb_iff.mpr ⟨t, c1.trans a1, F2.trans h c2 b2⟩

/-! ### heaps: a place of its own for each -/
def picks : List A → List (A × List A)
  | [] => []
  | x :: xs => (x, xs) :: (picks xs).map fun p => (p.1, x :: p.2)
/-- the elements of u have places in v, each one of its own -/
def inj (R : A → A → Bool) : List A → List A → Bool
  | [], _ => true
  | y :: u, v => (picks v).any fun p => R p.1 y && inj R u p.2
theorem mem_picks : ∀ {v : List A} {p : A × List A}, p ∈ picks v ↔ ∃ l r, v = l ++ p.1 :: r ∧ p.2 = l ++ r
  | [], p => by
    constructor
    · intro h; cases h
    · rintro ⟨l, r, e, _⟩
      cases l <;> cases e
  | x :: v, p => by
    rw [picks, List.mem_cons, List.mem_map]
    constructor
    · rintro (rfl | ⟨q, hq, rfl⟩)
      · exact ⟨[], v, rfl, rfl⟩
      · obtain ⟨l, r, e1, e2⟩ := mem_picks.mp hq
        exact ⟨x :: l, r, by rw [e1]; rfl, by show x :: q.2 = _; rw [e2]; rfl⟩
    · rintro ⟨l, r, e1, e2⟩
      cases l with
      | nil =>
        left
        injection e1 with a b
        cases p
        simp only at a e2 ⊢
        rw [a, b, e2]; rfl
      | cons y l =>
        right
        injection e1 with a b
        refine ⟨(p.1, l ++ r), mem_picks.mpr ⟨l, r, b, rfl⟩, ?_⟩
        cases p
        simp only at e2 ⊢
        rw [e2, a]; rfl
def Inj (R : A → A → Prop) (u v : List A) : Prop := ∃ w r : List A, v.Perm (w ++ r) ∧ F2 R w u
theorem picks_perm {v : List A} {p : A × List A} (h : p ∈ picks v) : v.Perm (p.1 :: p.2) := by
  obtain ⟨l, r, e1, e2⟩ := mem_picks.mp h
  rw [e1, e2]
  exact List.perm_middle
theorem inj_iff : ∀ {u v : List A}, inj R u v = true ↔ Inj (fun a b => R a b = true) u v
  | [], v => ⟨fun _ => ⟨[], v, .refl _, .nil⟩, fun _ => rfl⟩
  | y :: u, v => by
    rw [inj, List.any_eq_true]
    constructor
    · rintro ⟨p, hp, h⟩
      rw [Bool.and_eq_true] at h
      obtain ⟨w, r, h1, h2⟩ := inj_iff.mp h.2
      exact ⟨p.1 :: w, r, (picks_perm hp).trans (h1.cons _), .cons h.1 h2⟩
    · rintro ⟨w, r, h1, h2⟩
      cases h2 with
      | @cons c _ w' _ rc t =>
        have hm : c ∈ v := h1.mem_iff.mpr (by simp)
        obtain ⟨l, r', e⟩ := List.append_of_mem hm
        have hp : (c, l ++ r') ∈ picks v := mem_picks.mpr ⟨l, r', e, rfl⟩
        refine ⟨_, hp, ?_⟩
        rw [Bool.and_eq_true]
        refine ⟨rc, inj_iff.mpr ⟨w', r, ?_, t⟩⟩
        have q : (c :: (l ++ r')).Perm (c :: (w' ++ r)) := ((picks_perm hp).symm).trans h1
        exact q.cons_inv
section
variable {R : A → A → Prop}
theorem Inj.permR {u v v' : List A} (p : v.Perm v') (h : Inj R u v) : Inj R u v' := by
  obtain ⟨w, r, h1, h2⟩ := h
  exact ⟨w, r, p.symm.trans h1, h2⟩
theorem Inj.permL {u u' v : List A} (p : u.Perm u') (h : Inj R u v) : Inj R u' v := by
  obtain ⟨w, r, h1, h2⟩ := h
  obtain ⟨w', q, h3⟩ := F2.perm p h2
  exact ⟨w', r, h1.trans (q.append_right r), h3⟩
theorem Inj.of {u v : List A} (h : F2 R v u) : Inj R u v := ⟨v, [], by rw [List.append_nil], h⟩
theorem Inj.refl (h : ∀ a, R a a) (u : List A) : Inj R u u := .of (F2.refl h u)
theorem Inj.trans (h : ∀ a b c, R a b → R b c → R a c) {x y z : List A} (h1 : Inj R y x) (h2 : Inj R z y) : Inj R z x := by
  obtain ⟨w, r, a1, a2⟩ := h1
  obtain ⟨w', r', b1, b2⟩ := h2
  obtain ⟨t, c1, c2⟩ := F2.perm b1 a2
  obtain ⟨t1, t2, e, d1, _⟩ := F2.cut c2
  refine ⟨t1, t2 ++ r, ?_, F2.trans h d1 b2⟩
  rw [← List.append_assoc, ← e]
  exact a1.trans (c1.append_right r)
theorem Inj.left {u u' v : List A} (h : Inj R (u ++ u') v) : Inj R u v := by
  obtain ⟨w, r, h1, h2⟩ := h
  obtain ⟨t1, t2, e, d1, _⟩ := F2.cut h2
  refine ⟨t1, t2 ++ r, ?_, d1⟩
  rw [← List.append_assoc, ← e]
  exact h1
theorem Inj.cons {c y : A} {u z : List A} (hr : R c y) (h : Inj R u z) : Inj R (y :: u) (c :: z) := by
  obtain ⟨w, r, h1, h2⟩ := h
  exact ⟨c :: w, r, h1.cons c, .cons hr h2⟩
theorem Inj.skip {c : A} {u z : List A} (h : Inj R u z) : Inj R u (c :: z) := by
  obtain ⟨w, r, h1, h2⟩ := h
  exact ⟨w, c :: r, (h1.cons c).trans List.perm_middle.symm, h2⟩
theorem Inj.nil (z : List A) : Inj R [] z := ⟨[], z, .refl _, .nil⟩
theorem Inj.uncons {y : A} {u z : List A} (h : Inj R (y :: u) z) : ∃ c z1, z.Perm (c :: z1) ∧ R c y ∧ Inj R u z1 := by
  obtain ⟨w, r, h1, h2⟩ := h
  cases h2 with
  | @cons c _ w' _ rc t => exact ⟨c, w' ++ r, h1, rc, w', r, .refl _, t⟩
/-- is the first place used, and by which? -/
theorem F2.mem_cut {c : A} : ∀ {w u : List A}, F2 R w u → c ∈ w → ∃ w1 w2 u1 y u2, w = w1 ++ c :: w2 ∧ u = u1 ++ y :: u2 ∧ R c y ∧ F2 R (w1 ++ w2) (u1 ++ u2)
  | _, _, .nil, h => by cases h
  | _, _, .cons (a := a) (b := b) (as := as) (bs := bs) r t, h => by
    rcases List.mem_cons.mp h with e | h
    · subst e
      exact ⟨[], as, [], b, bs, rfl, rfl, r, t⟩
    · obtain ⟨w1, w2, u1, y, u2, e1, e2, hr, ht⟩ := F2.mem_cut t h
      exact ⟨a :: w1, w2, b :: u1, y, u2, by rw [e1]; rfl, by rw [e2]; rfl, hr, .cons r ht⟩
theorem Inj.split {c : A} {u z : List A} (h : Inj R u (c :: z)) : Inj R u z ∨ ∃ u1 y u2, u = u1 ++ y :: u2 ∧ R c y ∧ Inj R (u1 ++ u2) z := by
  obtain ⟨w, r, h1, h2⟩ := h
  have hm : c ∈ w ++ r := h1.mem_iff.mp (by simp)
  rcases List.mem_append.mp hm with hm | hm
  · obtain ⟨w1, w2, u1, y, u2, e1, e2, hr, ht⟩ := F2.mem_cut h2 hm
    refine .inr ⟨u1, y, u2, e2, hr, w1 ++ w2, r, ?_, ht⟩
    rw [e1] at h1
    have q : (c :: z).Perm (c :: (w1 ++ w2 ++ r)) := h1.trans (by
      rw [List.append_assoc, List.cons_append, List.append_assoc]
      exact List.perm_middle)
    exact q.cons_inv
  · obtain ⟨r1, r2, e⟩ := List.append_of_mem hm
    refine .inl ⟨w, r1 ++ r2, ?_, h2⟩
    rw [e] at h1
    have q : (c :: z).Perm (c :: (w ++ (r1 ++ r2))) := h1.trans (by
      rw [← List.append_assoc, ← List.append_assoc]
      exact List.perm_middle)
    exact q.cons_inv
theorem Inj.length {u v : List A} (h : Inj R u v) : u.length ≤ v.length := by
  obtain ⟨w, r, h1, h2⟩ := h
  have e := h1.length_eq
  rw [List.length_append] at e
  have := F2.length h2
  omega
end
theorem inj_refl (h : ∀ a, R a a = true) (v : List A) : inj R v v = true := inj_iff.mpr (Inj.refl h v)
theorem inj_trans (h : ∀ a b c, R a b = true → R b c = true → R a c = true) {x y z : List A} (h1 : inj R y x = true) (h2 : inj R z y = true) : inj R z x = true :=
  inj_iff.mpr (Inj.trans h (inj_iff.mp h1) (inj_iff.mp h2))
end

/-! ### sorts and their values -/
inductive So where
  | mark (ls : List Str)
  | count
  | both (a b : So)
  | either (a b : So)
  | lane (a : So)
  | heap (a : So)

@[reducible] def Va : So → Type
  | .mark ls => _root_.Fin ls.length
  | .count => Nat
  | .both a b => Va a × Va b
  | .either a b => Va a ⊕ Va b
  | .lane a => List (Va a)
  | .heap a => List (Va a)

@[reducible] def decVa : (s : So) → DecidableEq (Va s)
  | .mark ls => inferInstanceAs (DecidableEq (_root_.Fin ls.length))
  | .count => inferInstanceAs (DecidableEq Nat)
  | .both a b =>
    let _ := decVa a
    let _ := decVa b
    inferInstanceAs (DecidableEq (Va a × Va b))
  | .either a b =>
    let _ := decVa a
    let _ := decVa b
    inferInstanceAs (DecidableEq (Va a ⊕ Va b))
  | .lane a =>
    let _ := decVa a
    inferInstanceAs (DecidableEq (List (Va a)))
  | .heap a =>
    let _ := decVa a
    inferInstanceAs (DecidableEq (List (Va a)))
instance decVaI (s : So) : DecidableEq (Va s) := decVa s

/-- whether v holds u -/
def holds : (s : So) → Va s → Va s → Bool
  | .mark ls => fun (v u : _root_.Fin ls.length) => decide (v = u)
  | .count => fun (v u : Nat) => decide (u ≤ v)
  | .both a b => fun v u => holds a v.1 u.1 && holds b v.2 u.2
  | .either a b => fun v u => match v, u with
    | .inl v, .inl u => holds a v u
    | .inr v, .inr u => holds b v u
    | .inl _, .inr _ => false
    | .inr _, .inl _ => false
  | .lane a => fun v u => emb (holds a) v u
  | .heap a => fun v u => inj (holds a) u v

theorem holds_refl : ∀ (s : So) (v : Va s), holds s v v = true
  | .mark _, v => by simp [holds]
  | .count, v => by simp [holds]
  | .both a b, v => by simp [holds, holds_refl a v.1, holds_refl b v.2]
  | .either a b, .inl v => by show holds a v v = true; exact holds_refl a v
  | .either a b, .inr v => by show holds b v v = true; exact holds_refl b v
  | .lane a, v => by show emb (holds a) v v = true; exact emb_refl (holds_refl a) v
  | .heap a, v => by show inj (holds a) v v = true; exact inj_refl (holds_refl a) v

theorem holds_trans : ∀ (s : So) (x y z : Va s), holds s x y = true → holds s y z = true → holds s x z = true
  | .mark _, x, y, z, h1, h2 => by
    simp only [holds, decide_eq_true_eq] at h1 h2 ⊢
    exact h1.trans h2
  | .count, x, y, z, h1, h2 => by
    simp only [holds, decide_eq_true_eq] at h1 h2 ⊢
    exact Nat.le_trans h2 h1
  | .both a b, x, y, z, h1, h2 => by
    simp only [holds, Bool.and_eq_true] at h1 h2 ⊢
    exact ⟨holds_trans a _ _ _ h1.1 h2.1, holds_trans b _ _ _ h1.2 h2.2⟩
  | .either a b, .inl x, .inl y, .inl z, h1, h2 => holds_trans a x y z h1 h2
  | .either a b, .inr x, .inr y, .inr z, h1, h2 => holds_trans b x y z h1 h2
  | .either a b, .inl x, .inl y, .inr z, h1, h2 => nomatch h2
  | .either a b, .inl x, .inr y, _, h1, h2 => nomatch h1
  | .either a b, .inr x, .inl y, _, h1, h2 => nomatch h1
  | .either a b, .inr x, .inr y, .inl z, h1, h2 => nomatch h2
  | .lane a, x, y, z, h1, h2 => by
    show emb (holds a) x z = true
    exact emb_trans (holds_trans a) h1 h2
  | .heap a, x, y, z, h1, h2 => by
    show inj (holds a) z x = true
    exact inj_trans (holds_trans a) h1 h2
end K16

end K16AText
section K16BText
set_option autoImplicit false
set_option linter.all false
namespace K16
open PySem (Str)

/-! ### the order -/
def lexL {A : Type} [DecidableEq A] (lt : A → A → Bool) : List A → List A → Bool
  | [], [] => false
  | [], _ :: _ => true
  | _ :: _, [] => false
  | x :: v, y :: u => if x = y then lexL lt v u else lt x y
def ltV : (s : So) → Va s → Va s → Bool
  | .mark ls => fun (v u : _root_.Fin ls.length) => decide (v.val < u.val)
  | .count => fun (v u : Nat) => decide (v < u)
  | .both a b => fun v u => if v.1 = u.1 then ltV b v.2 u.2 else ltV a v.1 u.1
  | .either a b => fun v u => match v, u with
    | .inl v, .inl u => ltV a v u
    | .inr v, .inr u => ltV b v u
    | .inl _, .inr _ => true
    | .inr _, .inl _ => false
  | .lane a => fun v u => lexL (ltV a) v u
  | .heap a => fun v u => lexL (ltV a) v u
structure Lin {A : Type} (lt : A → A → Bool) : Prop where
  irr : ∀ a, lt a a = false
  asym : ∀ a b, lt a b = true → lt b a = false
  tri : ∀ a b, lt a b = false → lt b a = false → a = b
  trans : ∀ a b c, lt a b = true → lt b c = true → lt a c = true
theorem Lin.lex {A : Type} [DecidableEq A] {lt : A → A → Bool} (h : Lin lt) : Lin (lexL lt) := by
  have irr : ∀ x : List A, lexL lt x x = false := by
    intro x
    induction x with
    | nil => rfl
    | cons a x ih => rw [lexL, if_pos rfl]; exact ih
  have asym : ∀ x y : List A, lexL lt x y = true → lexL lt y x = false := by
    intro x
    induction x with
    | nil =>
      intro y e
      cases y with
      | nil => simp [lexL] at e
      | cons b y => rfl
    | cons a x ih =>
      intro y e
      cases y with
      | nil => simp [lexL] at e
      | cons b y =>
        rw [lexL] at e ⊢
        by_cases c : a = b
        · rw [if_pos c] at e
          rw [if_pos c.symm]
          exact ih y e
        · rw [if_neg c] at e
          rw [if_neg (Ne.symm c)]
          exact h.asym a b e
  have tri : ∀ x y : List A, lexL lt x y = false → lexL lt y x = false → x = y := by
    intro x
    induction x with
    | nil =>
      intro y e1 e2
      cases y with
      | nil => rfl
      | cons b y => simp [lexL] at e1
    | cons a x ih =>
      intro y e1 e2
      cases y with
      | nil => simp [lexL] at e2
      | cons b y =>
        rw [lexL] at e1 e2
        by_cases c : a = b
        · rw [if_pos c] at e1
          rw [if_pos c.symm] at e2
          rw [c, ih y e1 e2]
        · rw [if_neg c] at e1
          rw [if_neg (Ne.symm c)] at e2
          exact absurd (h.tri a b e1 e2) c
  refine ⟨irr, asym, tri, ?_⟩
  intro x
  induction x with
  | nil =>
    intro y z e1 e2
    cases y with
    | nil => simp [lexL] at e1
    | cons b y =>
      cases z with
      | nil => simp [lexL] at e2
      | cons c z => rfl
  | cons a x ih =>
    intro y z e1 e2
    cases y with
    | nil => simp [lexL] at e1
    | cons b y =>
      cases z with
      | nil => simp [lexL] at e2
      | cons c z =>
        rw [lexL] at e1 e2 ⊢
        by_cases c1 : a = b
        · subst c1
          rw [if_pos rfl] at e1
          by_cases c2 : a = c
          · subst c2
            rw [if_pos rfl] at e2
            rw [if_pos rfl]
            exact ih y z e1 e2
          · rw [if_neg c2] at e2
            rw [if_neg c2]
            exact e2
        · rw [if_neg c1] at e1
          by_cases c2 : b = c
          · subst c2
            rw [if_neg c1]
            exact e1
          · rw [if_neg c2] at e2
            have e3 := h.trans a b c e1 e2
            have c3 : a ≠ c := by
              intro q
              subst q
              rw [h.irr] at e3
              cases e3
            rw [if_neg c3]
            exact e3
theorem ltV_lin : ∀ s : So, Lin (ltV s)
  | .mark ls => ⟨fun (a : _root_.Fin ls.length) => by show decide (a.val < a.val) = false; simp, fun (a b : _root_.Fin ls.length) h => by
      have h : decide (a.val < b.val) = true := h
      show decide (b.val < a.val) = false
      simp only [decide_eq_true_eq, decide_eq_false_iff_not] at h ⊢
      omega, fun (a b : _root_.Fin ls.length) h1 h2 => by
      have h1 : decide (a.val < b.val) = false := h1
      have h2 : decide (b.val < a.val) = false := h2
      simp only [decide_eq_false_iff_not] at h1 h2
      exact Fin.ext (by omega), fun (a b c : _root_.Fin ls.length) h1 h2 => by
      have h1 : decide (a.val < b.val) = true := h1
      have h2 : decide (b.val < c.val) = true := h2
      show decide (a.val < c.val) = true
      simp only [decide_eq_true_eq] at h1 h2 ⊢
      omega⟩
  | .count => ⟨fun (a : Nat) => by show decide (a < a) = false; simp, fun (a b : Nat) h => by
      have h : decide (a < b) = true := h
      show decide (b < a) = false
      simp only [decide_eq_true_eq, decide_eq_false_iff_not] at h ⊢
      omega, fun (a b : Nat) h1 h2 => by
      have h1 : decide (a < b) = false := h1
      have h2 : decide (b < a) = false := h2
      simp only [decide_eq_false_iff_not] at h1 h2
      exact Nat.le_antisymm (Nat.le_of_not_lt h2) (Nat.le_of_not_lt h1), fun (a b c : Nat) h1 h2 => by
      have h1 : decide (a < b) = true := h1
      have h2 : decide (b < c) = true := h2
      show decide (a < c) = true
      simp only [decide_eq_true_eq] at h1 h2 ⊢
      omega⟩
  | .both a b => by
    have A := ltV_lin a
    have B := ltV_lin b
    refine ⟨fun x => ?_, fun x y h => ?_, fun x y h1 h2 => ?_, fun x y z h1 h2 => ?_⟩
    · show (if x.1 = x.1 then ltV b x.2 x.2 else ltV a x.1 x.1) = false
      rw [if_pos rfl]
      exact B.irr _
    · have h : (if x.1 = y.1 then ltV b x.2 y.2 else ltV a x.1 y.1) = true := h
      show (if y.1 = x.1 then ltV b y.2 x.2 else ltV a y.1 x.1) = false
      by_cases c : x.1 = y.1
      · rw [if_pos c] at h
        rw [if_pos c.symm]
        exact B.asym _ _ h
      · rw [if_neg c] at h
        rw [if_neg (Ne.symm c)]
        exact A.asym _ _ h
    · have h1 : (if x.1 = y.1 then ltV b x.2 y.2 else ltV a x.1 y.1) = false := h1
      have h2 : (if y.1 = x.1 then ltV b y.2 x.2 else ltV a y.1 x.1) = false := h2
      by_cases c : x.1 = y.1
      · rw [if_pos c] at h1
        rw [if_pos c.symm] at h2
        exact Prod.ext c (B.tri _ _ h1 h2)
      · rw [if_neg c] at h1
        rw [if_neg (Ne.symm c)] at h2
        exact absurd (A.tri _ _ h1 h2) c
    · have h1 : (if x.1 = y.1 then ltV b x.2 y.2 else ltV a x.1 y.1) = true := h1
      have h2 : (if y.1 = z.1 then ltV b y.2 z.2 else ltV a y.1 z.1) = true := h2
      show (if x.1 = z.1 then ltV b x.2 z.2 else ltV a x.1 z.1) = true
      by_cases c1 : x.1 = y.1
      · rw [if_pos c1] at h1
        by_cases c2 : y.1 = z.1
        · rw [if_pos c2] at h2
          rw [if_pos (c1.trans c2)]
          exact B.trans _ _ _ h1 h2
        · rw [if_neg c2] at h2
          rw [if_neg (by rw [c1]; exact c2), c1]
          exact h2
      · rw [if_neg c1] at h1
        by_cases c2 : y.1 = z.1
        · rw [if_neg (by rw [← c2]; exact c1), ← c2]
          exact h1
        · rw [if_neg c2] at h2
          have e3 := A.trans _ _ _ h1 h2
          have c3 : x.1 ≠ z.1 := by
            intro q
            rw [q, A.irr] at e3
            cases e3
          rw [if_neg c3]
          exact e3
  | .either a b => by
    have A := ltV_lin a
    have B := ltV_lin b
    refine ⟨fun x => ?_, fun x y h => ?_, fun x y h1 h2 => ?_, fun x y z h1 h2 => ?_⟩
    · cases x with
      | inl x => exact A.irr x
      | inr x => exact B.irr x
    · cases x <;> cases y
      · exact A.asym _ _ h
      · rfl
      · cases h
      · exact B.asym _ _ h
    · cases x <;> cases y
      · exact congrArg _ (A.tri _ _ h1 h2)
      · cases h1
      · cases h2
      · exact congrArg _ (B.tri _ _ h1 h2)
    · cases x <;> cases y <;> cases z
      · exact A.trans _ _ _ h1 h2
      · rfl
      · cases h2
      · rfl
      · cases h1
      · cases h1
      · cases h2
      · exact B.trans _ _ _ h1 h2
  | .lane a => (ltV_lin a).lex
  | .heap a => (ltV_lin a).lex

def leV (s : So) (a b : Va s) : Bool := !ltV s b a
/-- the list of some values, ascending -/
def sortV (s : So) (xs : List (Va s)) : List (Va s) := xs.mergeSort (leV s)
theorem leV_trans (s : So) (a b c : Va s) (h1 : leV s a b = true) (h2 : leV s b c = true) : leV s a c = true := by
  unfold leV at *
  simp only [Bool.not_eq_true'] at *
  cases e : ltV s c a with
  | false => rfl
  | true =>
    have L := ltV_lin s
    by_cases c1 : ltV s a b = true
    · have := L.trans _ _ _ e c1
      rw [this] at h2
      cases h2
    · have e1 := L.tri a b (by simpa using c1) h1
      rw [e1] at e
      rw [e] at h2
      cases h2
theorem leV_total (s : So) (a b : Va s) : (leV s a b || leV s b a) = true := by
  unfold leV
  cases e : ltV s b a with
  | false => rfl
  | true => rw [(ltV_lin s).asym _ _ e]; rfl
theorem sortV_perm (s : So) (xs : List (Va s)) : (sortV s xs).Perm xs := List.mergeSort_perm xs _
def Asc (s : So) (xs : List (Va s)) : Prop := xs.Pairwise fun a b => leV s a b = true
theorem sortV_asc (s : So) (xs : List (Va s)) : Asc s (sortV s xs) := List.pairwise_mergeSort (leV_trans s) (leV_total s) xs
theorem sortV_id {s : So} {xs : List (Va s)} (h : Asc s xs) : sortV s xs = xs := List.mergeSort_of_pairwise h

/-! ### least lists -/
def inUp (s : So) (some_ : List (Va s)) (v : Va s) : Bool := some_.any fun u => holds s v u
def leastStep (s : So) (found : List (Va s)) (v : Va s) : List (Va s) :=
  if inUp s found v = true then found else (found.filter fun u => !holds s u v) ++ [v]
def leastRaw (s : So) (xs : List (Va s)) : List (Va s) := xs.foldl (leastStep s) []
def least (s : So) (xs : List (Va s)) : List (Va s) := sortV s (leastRaw s xs)
theorem inUp_iff {s : So} {xs : List (Va s)} {v : Va s} : inUp s xs v = true ↔ ∃ u ∈ xs, holds s v u = true := by
  unfold inUp
  rw [List.any_eq_true]
theorem inUp_app {s : So} {xs ys : List (Va s)} {v : Va s} : inUp s (xs ++ ys) v = (inUp s xs v || inUp s ys v) := by
  unfold inUp
  rw [List.any_append]
theorem inUp_up {s : So} {xs : List (Va s)} {v u : Va s} (h : holds s v u = true) (hu : inUp s xs u = true) : inUp s xs v = true := by
  obtain ⟨w, h1, h2⟩ := inUp_iff.mp hu
  exact inUp_iff.mpr ⟨w, h1, holds_trans s _ _ _ h h2⟩
theorem inUp_congr {s : So} {xs ys : List (Va s)} (h : ∀ x, x ∈ xs ↔ x ∈ ys) (v : Va s) : inUp s xs v = inUp s ys v := by
  rw [Bool.eq_iff_iff, inUp_iff, inUp_iff]
  constructor
  · rintro ⟨u, h1, h2⟩
    exact ⟨u, (h u).mp h1, h2⟩
  · rintro ⟨u, h1, h2⟩
    exact ⟨u, (h u).mpr h1, h2⟩
theorem step_up (s : So) (found : List (Va s)) (v z : Va s) : inUp s (leastStep s found v) z = (inUp s found z || holds s z v) := by
  unfold leastStep
  split
  · rename_i h
    cases e : holds s z v with
    | false => simp
    | true => rw [inUp_up e h]; rfl
  · rw [inUp_app, Bool.eq_iff_iff]
    simp only [Bool.or_eq_true, inUp_iff, List.mem_filter, List.mem_singleton]
    constructor
    · rintro (⟨u, ⟨h1, _⟩, h2⟩ | ⟨u, rfl, h2⟩)
      · exact .inl ⟨u, h1, h2⟩
      · exact .inr h2
    · rintro (⟨u, h1, h2⟩ | h2)
      · cases e : holds s u v with
        | false => exact .inl ⟨u, ⟨h1, by simp [e]⟩, h2⟩
        | true => exact .inr ⟨v, rfl, holds_trans s _ _ _ h2 e⟩
      · exact .inr ⟨v, rfl, h2⟩
theorem fold_up (s : So) (z : Va s) : ∀ (xs found : List (Va s)), inUp s (xs.foldl (leastStep s) found) z = (inUp s found z || inUp s xs z)
  | [], found => by simp [inUp]
  | x :: xs, found => by
    rw [List.foldl_cons, fold_up s z xs, step_up]
    unfold inUp
    rw [List.any_cons, Bool.or_assoc]
theorem least_up (s : So) (xs : List (Va s)) (z : Va s) : inUp s (least s xs) z = inUp s xs z := by
  have h : inUp s (least s xs) z = inUp s (leastRaw s xs) z := inUp_congr (fun x => (sortV_perm s _).mem_iff) z
  rw [h]
  unfold leastRaw
  rw [fold_up]
  simp [inUp]
/-- none holds another one, by the places -/
def AC (s : So) (xs : List (Va s)) : Prop := xs.Pairwise fun a b => holds s a b = false ∧ holds s b a = false
theorem step_ac {s : So} {found : List (Va s)} (v : Va s) (h : AC s found) : AC s (leastStep s found v) := by
  unfold leastStep
  split
  · exact h
  · rename_i hn
    unfold AC
    rw [List.pairwise_append]
    refine ⟨h.sublist List.filter_sublist, List.pairwise_singleton _ _, fun a ha b hb => ?_⟩
    rw [List.mem_singleton] at hb
    subst hb
    rw [List.mem_filter] at ha
    refine ⟨by simpa using ha.2, ?_⟩
    cases e : holds s b a with
    | false => rfl
    | true => exact absurd (inUp_iff.mpr ⟨a, ha.1, e⟩) hn
theorem fold_ac {s : So} : ∀ (xs found : List (Va s)), AC s found → AC s (xs.foldl (leastStep s) found)
  | [], _, h => h
  | x :: xs, _, h => by
    rw [List.foldl_cons]
    exact fold_ac xs _ (step_ac x h)
theorem least_ac (s : So) (xs : List (Va s)) : AC s (least s xs) := by
  have h : AC s (leastRaw s xs) := fold_ac xs [] List.Pairwise.nil
  exact (sortV_perm s _).symm.pairwise h fun h => ⟨h.2, h.1⟩
theorem least_asc (s : So) (xs : List (Va s)) : Asc s (least s xs) := sortV_asc s _
theorem fold_id {s : So} : ∀ (xs found : List (Va s)), AC s (found ++ xs) → xs.foldl (leastStep s) found = found ++ xs
  | [], found, _ => by simp
  | x :: xs, found, h => by
    have h0 := h
    unfold AC at h
    rw [List.pairwise_append] at h
    have hx : ∀ u ∈ found, holds s u x = false ∧ holds s x u = false := fun u hu => h.2.2 u hu x (by simp)
    have e : leastStep s found x = found ++ [x] := by
      unfold leastStep
      rw [if_neg ?_]
      · congr 1
        exact List.filter_eq_self.mpr fun u hu => by rw [(hx u hu).1]; rfl
      · rw [inUp_iff]
        rintro ⟨u, hu, e⟩
        rw [(hx u hu).2] at e
        cases e
    rw [List.foldl_cons, e, fold_id xs (found ++ [x]) (by rw [List.append_assoc]; exact h0), List.append_assoc]
    rfl
theorem least_id {s : So} {xs : List (Va s)} (h1 : AC s xs) (h2 : Asc s xs) : least s xs = xs := by
  unfold least leastRaw
  rw [fold_id xs [] h1, List.nil_append]
  exact sortV_id h2
theorem least_len (s : So) (xs : List (Va s)) : (least s xs).length ≤ xs.length := by
  have h : ∀ (xs found : List (Va s)), (xs.foldl (leastStep s) found).length ≤ found.length + xs.length := by
    intro xs
    induction xs with
    | nil => intro found; simp
    | cons x xs ih =>
      intro found
      rw [List.foldl_cons]
      refine Nat.le_trans (ih _) ?_
      have : (leastStep s found x).length ≤ found.length + 1 := by
        unfold leastStep
        split
        · omega
        · rw [List.length_append]
          have := List.length_filter_le (fun u => !holds s u x) found
          simp only [List.length_singleton]
          omega
      simp only [List.length_cons]
      omega
  have q := h xs []
  unfold least
  rw [(sortV_perm s _).length_eq]
  simpa [leastRaw] using q
theorem mem_least {s : So} {xs : List (Va s)} {x : Va s} (h : x ∈ least s xs) : x ∈ xs := by
  have g : ∀ (xs found : List (Va s)), x ∈ xs.foldl (leastStep s) found → x ∈ found ∨ x ∈ xs := by
    intro xs
    induction xs with
    | nil => intro found h; exact .inl h
    | cons y xs ih =>
      intro found h
      rw [List.foldl_cons] at h
      rcases ih _ h with q | q
      · unfold leastStep at q
        split at q
        · exact .inl q
        · rcases List.mem_append.mp q with q | q
          · exact .inl (List.mem_filter.mp q).1
          · rw [List.mem_singleton] at q
            exact .inr (by simp [q])
      · exact .inr (by simp [q])
  have h := (sortV_perm s _).mem_iff.mp h
  rcases g xs [] h with q | q
  · cases q
  · exact q
def together (s : So) (xs ys : List (Va s)) : List (Va s) := least s (xs ++ ys)
theorem together_up (s : So) (xs ys : List (Va s)) (z : Va s) : inUp s (together s xs ys) z = (inUp s xs z || inUp s ys z) := by
  unfold together
  rw [least_up, inUp_app]
def contains (s : So) (xs ys : List (Va s)) : Bool := ys.all fun v => inUp s xs v

/-! ### one form -/
def form : (s : So) → Va s → Va s
  | .mark _ => fun v => v
  | .count => fun v => v
  | .both a b => fun v => (form a v.1, form b v.2)
  | .either a b => fun v => match v with
    | .inl v => .inl (form a v)
    | .inr v => .inr (form b v)
  | .lane a => fun (v : List (Va a)) => v.map (form a)
  | .heap a => fun (v : List (Va a)) => sortV a (v.map (form a))
theorem F2.map_l {A : Type} {R : A → A → Prop} (f : A → A) (h : ∀ a, R (f a) a) : ∀ v : List A, F2 R (v.map f) v
  | [] => .nil
  | a :: v => .cons (h a) (F2.map_l f h v)
theorem F2.map_r {A : Type} {R : A → A → Prop} (f : A → A) (h : ∀ a, R a (f a)) : ∀ v : List A, F2 R v (v.map f)
  | [] => .nil
  | a :: v => .cons (h a) (F2.map_r f h v)
theorem form_eqv : ∀ (s : So) (v : Va s), holds s (form s v) v = true ∧ holds s v (form s v) = true
  | .mark _, v => ⟨holds_refl _ _, holds_refl _ _⟩
  | .count, v => ⟨holds_refl _ _, holds_refl _ _⟩
  | .both a b, v => by
    have h1 := form_eqv a v.1
    have h2 := form_eqv b v.2
    simp only [holds, form, Bool.and_eq_true]
    exact ⟨⟨h1.1, h2.1⟩, h1.2, h2.2⟩
  | .either a b, .inl v => form_eqv a v
  | .either a b, .inr v => form_eqv b v
  | .lane a, v => by
    have h := form_eqv a
    refine ⟨emb_iff.mpr ⟨_, List.Sublist.refl _, F2.map_l _ (fun a => (h a).1) v⟩, emb_iff.mpr ⟨_, List.Sublist.refl _, F2.map_r _ (fun a => (h a).2) v⟩⟩
  | .heap a, v => by
    have h := form_eqv a
    have p : (sortV a (List.map (form a) v)).Perm (List.map (form a) v) := sortV_perm a _
    refine ⟨inj_iff.mpr ?_, inj_iff.mpr ?_⟩
    · exact Inj.permR p.symm (Inj.of (F2.map_l _ (fun a => (h a).1) v))
    · exact Inj.permL p.symm (Inj.of (F2.map_r _ (fun a => (h a).2) v))

/-! ### what holds both: lanes -/
section
variable {A : Type}
/-- one row: the first element x, the rest's row f -/
def laneStep (lst : List (List A) → List (List A)) (B : A → A → List A) (x : A) (v : List A) (f : List A → List (List A)) : List A → List (List A)
  | [] => [x :: v]
  | y :: u => lst ((f (y :: u)).map (x :: ·) ++ (laneStep lst B x v f u).map (y :: ·) ++ (B x y).flatMap fun b => (f u).map (b :: ·))
def laneRows (lst : List (List A) → List (List A)) (B : A → A → List A) : List A → List A → List (List A)
  | [] => fun u => [u]
  | x :: v => laneStep lst B x v (laneRows lst B v)
end
/-! ### heaps -/
section
variable {A : Type}
/-- one row's turn: the places left of u -/
def heapPairs (B : A → A → List A) (u : List A) (x : A) (r : List A × List Nat) : List (List A × List Nat) :=
  r.2.flatMap fun p => match u[p]? with
    | some y => (B x y).map fun b => (r.1 ++ [b], r.2.filter fun q => decide (q ≠ p))
    | none => []
def heapStep (B : A → A → List A) (u : List A) (rows : List (List A × List Nat)) (x : A) : List (List A × List Nat) :=
  (rows.map fun r => (r.1 ++ [x], r.2)) ++ rows.flatMap (heapPairs B u x)
def elems (u : List A) (l : List Nat) : List A := l.filterMap fun p => u[p]?
def heapRows (B : A → A → List A) (v u : List A) : List (List A × List Nat) := v.foldl (heapStep B u) [([], List.range u.length)]
def heapEvery (f : List A → List A) (B : A → A → List A) (v u : List A) : List (List A) := (heapRows B v u).map fun r => f (r.1 ++ elems u r.2)
def dedup [DecidableEq A] (xs : List A) : List A := xs.foldl (fun acc x => if x ∈ acc then acc else acc ++ [x]) []
end
theorem mem_dedup {A : Type} [DecidableEq A] {xs : List A} {x : A} : x ∈ dedup xs ↔ x ∈ xs := by
  have g : ∀ (xs acc : List A), x ∈ xs.foldl (fun acc x => if x ∈ acc then acc else acc ++ [x]) acc ↔ x ∈ acc ∨ x ∈ xs := by
    intro xs
    induction xs with
    | nil => intro acc; simp
    | cons y xs ih =>
      intro acc
      rw [List.foldl_cons, ih]
      by_cases c : y ∈ acc
      · rw [if_pos c, List.mem_cons]
        constructor
        · rintro (h | h)
          · exact .inl h
          · exact .inr (.inr h)
        · rintro (h | h | h)
          · exact .inl h
          · exact .inl (h ▸ c)
          · exact .inr h
      · rw [if_neg c, List.mem_append, List.mem_singleton, List.mem_cons, or_assoc]
  unfold dedup
  rw [g]
  simp

def rawBoth : (s : So) → Va s → Va s → List (Va s)
  | .mark _ => fun v u => if v = u then [v] else []
  | .count => fun (v u : Nat) => [if u > v then u else v]
  | .both a b => fun v u => (rawBoth a v.1 u.1).flatMap fun x => (rawBoth b v.2 u.2).map fun y => (x, y)
  | .either a b => fun v u => match v, u with
    | .inl v, .inl u => (rawBoth a v u).map .inl
    | .inr v, .inr u => (rawBoth b v u).map .inr
    | .inl _, .inr _ => []
    | .inr _, .inl _ => []
  | .lane a => fun v u => laneRows (least (.lane a)) (rawBoth a) v u
  | .heap a => fun v u => least (.heap a) (dedup (heapEvery (form (.heap a)) (rawBoth a) v u))
end K16

end K16BText
section K16CText
set_option autoImplicit false
set_option linter.all false
namespace K16

/-! ### lanes -/
section
variable {A : Type} {R : A → A → Bool} {lst : List (List A) → List (List A)} {B : A → A → List A}
def UpL (R : A → A → Bool) (L : List (List A)) (z : List A) : Prop := ∃ m ∈ L, emb R z m = true
/-- what holds both holds one of the rows' -/
theorem lane_full (hl : ∀ L z, UpL R (lst L) z ↔ UpL R L z) (hB : ∀ x y c, R c x = true → R c y = true → ∃ b ∈ B x y, R c b = true) :
    ∀ (v u z : List A), emb R z v = true → emb R z u = true → UpL R (laneRows lst B v u) z := by
  intro v
  induction v with
  | nil => exact fun u z _ h2 => ⟨u, by simp [laneRows], h2⟩
  | cons x v ihv =>
    have main : ∀ (n : Nat) (u z : List A), u.length + z.length ≤ n → emb R z (x :: v) = true → emb R z u = true → UpL R (laneStep lst B x v (laneRows lst B v) u) z := by
      intro n
      induction n with
      | zero =>
        intro u z hn h1 h2
        cases z with
        | nil => simp [emb] at h1
        | cons c z => simp at hn
      | succ n ih =>
        intro u z hn h1 h2
        cases u with
        | nil => exact ⟨x :: v, by simp [laneStep], h1⟩
        | cons y u =>
          cases z with
          | nil => simp [emb] at h1
          | cons c z =>
            simp only [List.length_cons] at hn
            rw [laneStep, hl]
            by_cases c1 : R c x = true
            · rw [emb_yes c1] at h1
              by_cases c2 : R c y = true
              · rw [emb_yes c2] at h2
                obtain ⟨b, hb, hcb⟩ := hB x y c c1 c2
                obtain ⟨m, hm, hz⟩ := ihv u z h1 h2
                refine ⟨b :: m, ?_, by rw [emb_yes hcb]; exact hz⟩
                rw [List.mem_append]
                exact .inr (List.mem_flatMap.mpr ⟨b, hb, List.mem_map.mpr ⟨m, hm, rfl⟩⟩)
              · rw [emb_no c2] at h2
                obtain ⟨m, hm, hz⟩ := ihv (y :: u) z h1 h2
                refine ⟨x :: m, ?_, by rw [emb_yes c1]; exact hz⟩
                rw [List.mem_append, List.mem_append]
                exact .inl (.inl (List.mem_map.mpr ⟨m, hm, rfl⟩))
            · rw [emb_no c1] at h1
              by_cases c2 : R c y = true
              · rw [emb_yes c2] at h2
                obtain ⟨m, hm, hz⟩ := ih u z (by omega) h1 h2
                refine ⟨y :: m, ?_, by rw [emb_yes c2]; exact hz⟩
                rw [List.mem_append, List.mem_append]
                exact .inl (.inr (List.mem_map.mpr ⟨m, hm, rfl⟩))
              · rw [emb_no c2] at h2
                have q := ih (y :: u) z (by simp only [List.length_cons]; omega) h1 h2
                rw [laneStep, hl] at q
                obtain ⟨m, hm, hz⟩ := q
                exact ⟨m, hm, emb_skip hz⟩
    exact fun u z h1 h2 => main _ u z (Nat.le_refl _) h1 h2
/-- each of the rows' holds both -/
theorem lane_sound (hl : ∀ L m, m ∈ lst L → m ∈ L) (hr : ∀ a, R a a = true) (hB : ∀ x y b, b ∈ B x y → R b x = true ∧ R b y = true) :
    ∀ (v u m : List A), m ∈ laneRows lst B v u → emb R m v = true ∧ emb R m u = true := by
  intro v
  induction v with
  | nil =>
    intro u m h
    simp only [laneRows, List.mem_singleton] at h
    subst h
    exact ⟨emb_nil _, emb_refl hr _⟩
  | cons x v ihv =>
    intro u
    induction u with
    | nil =>
      intro m h
      simp only [laneRows, laneStep, List.mem_singleton] at h
      subst h
      exact ⟨emb_refl hr _, emb_nil _⟩
    | cons y u ihu =>
      intro m h
      have h := hl _ _ (show m ∈ lst _ from h)
      rw [List.mem_append, List.mem_append] at h
      rcases h with (h | h) | h
      · obtain ⟨r, h1, rfl⟩ := List.mem_map.mp h
        obtain ⟨a1, a2⟩ := ihv (y :: u) r h1
        exact ⟨by rw [emb_yes (hr x)]; exact a1, emb_skip a2⟩
      · obtain ⟨r, h1, rfl⟩ := List.mem_map.mp h
        obtain ⟨a1, a2⟩ := ihu r h1
        exact ⟨emb_skip a1, by rw [emb_yes (hr y)]; exact a2⟩
      · obtain ⟨b, hb, h⟩ := List.mem_flatMap.mp h
        obtain ⟨r, h1, rfl⟩ := List.mem_map.mp h
        obtain ⟨a1, a2⟩ := ihv u r h1
        obtain ⟨b1, b2⟩ := hB x y b hb
        exact ⟨by rw [emb_yes b1]; exact a1, by rw [emb_yes b2]; exact a2⟩
end

/-! ### heaps -/
section
variable {A : Type} {R : A → A → Prop} {B : A → A → List A} {u : List A}
/-- one row's turn for the element x, and the way through all elements -/
def One (B : A → A → List A) (u : List A) (x : A) (r r' : List A × List Nat) : Prop := r' = (r.1 ++ [x], r.2) ∨ r' ∈ heapPairs B u x r
def Path (B : A → A → List A) (u : List A) : List A → List A × List Nat → List A × List Nat → Prop
  | [], r, r' => r' = r
  | x :: v, r, r' => ∃ r1, One B u x r r1 ∧ Path B u v r1 r'
theorem mem_step {rows : List (List A × List Nat)} {x : A} {r' : List A × List Nat} : r' ∈ heapStep B u rows x ↔ ∃ r ∈ rows, One B u x r r' := by
  unfold heapStep One
  rw [List.mem_append, List.mem_map, List.mem_flatMap]
  constructor
  · rintro (⟨r, h, e⟩ | ⟨r, h, e⟩)
    · exact ⟨r, h, .inl e.symm⟩
    · exact ⟨r, h, .inr e⟩
  · rintro ⟨r, h, e | e⟩
    · exact .inl ⟨r, h, e.symm⟩
    · exact .inr ⟨r, h, e⟩
theorem mem_fold : ∀ {v : List A} {rows : List (List A × List Nat)} {r' : List A × List Nat}, r' ∈ v.foldl (heapStep B u) rows ↔ ∃ r ∈ rows, Path B u v r r'
  | [], rows, r' => by
    constructor
    · intro h; exact ⟨r', h, rfl⟩
    · rintro ⟨r, h, e⟩
      have e : r' = r := e
      rw [e]; exact h
  | x :: v, rows, r' => by
    rw [List.foldl_cons, mem_fold]
    constructor
    · rintro ⟨r1, h, p⟩
      obtain ⟨r, h1, o⟩ := mem_step.mp h
      exact ⟨r, h1, r1, o, p⟩
    · rintro ⟨r, h1, r1, o, p⟩
      exact ⟨r1, mem_step.mpr ⟨r, h1, o⟩, p⟩
/-- the places left: different ones of u -/
def Left (u : List A) (l : List Nat) : Prop := l.Nodup ∧ ∀ p ∈ l, p < u.length
theorem Left.less {l : List Nat} (h : Left u l) (q : Nat → Bool) : Left u (l.filter q) := ⟨h.1.sublist List.filter_sublist, fun p hp => h.2 p (List.mem_filter.mp hp).1⟩
theorem elems_cons {l : List Nat} {p : Nat} {y : A} (h : u[p]? = some y) : elems u (p :: l) = y :: elems u l := by
  unfold elems
  rw [List.filterMap_cons, h]
theorem elems_app (l l' : List Nat) : elems u (l ++ l') = elems u l ++ elems u l' := by
  unfold elems
  rw [List.filterMap_append]
theorem filter_one {l1 l2 : List Nat} {p : Nat} (h : (l1 ++ p :: l2).Nodup) : (l1 ++ p :: l2).filter (fun q => decide (q ≠ p)) = l1 ++ l2 := by
  rw [List.nodup_append] at h
  obtain ⟨h1, h2, h3⟩ := h
  rw [List.nodup_cons] at h2
  rw [List.filter_append, List.filter_cons]
  have e1 : l1.filter (fun q => decide (q ≠ p)) = l1 := List.filter_eq_self.mpr fun q hq => by
    simp only [ne_eq, decide_not, Bool.not_eq_true', decide_eq_false_iff_not]
    exact h3 q hq p (by simp)
  have e2 : l2.filter (fun q => decide (q ≠ p)) = l2 := List.filter_eq_self.mpr fun q hq => by
    simp only [ne_eq, decide_not, Bool.not_eq_true', decide_eq_false_iff_not]
    rintro rfl
    exact h2.1 hq
  rw [e1, e2]
  simp
theorem elems_out {l : List Nat} {p : Nat} {y : A} (hl : Left u l) (hp : p ∈ l) (h : u[p]? = some y) : (elems u l).Perm (y :: elems u (l.filter fun q => decide (q ≠ p))) := by
  obtain ⟨l1, l2, e⟩ := List.append_of_mem hp
  subst e
  rw [filter_one hl.1, elems_app, elems_app, elems_cons h]
  exact List.perm_middle
theorem elems_range (u : List A) : elems u (List.range u.length) = u := by
  unfold elems
  apply List.ext_getElem?
  intro i
  have h : ∀ (n : Nat), n ≤ u.length → (List.range n).filterMap (fun p => u[p]?) = u.take n := by
    intro n
    induction n with
    | zero => simp
    | succ n ih =>
      intro hn
      rw [List.range_succ, List.filterMap_append, ih (by omega), List.take_add_one]
      congr 1
  rw [h _ (Nat.le_refl _), List.take_length]
theorem mem_pairs {x : A} {r r' : List A × List Nat} : r' ∈ heapPairs B u x r ↔ ∃ p ∈ r.2, ∃ y, u[p]? = some y ∧ ∃ b ∈ B x y, r' = (r.1 ++ [b], r.2.filter fun q => decide (q ≠ p)) := by
  unfold heapPairs
  rw [List.mem_flatMap]
  constructor
  · rintro ⟨p, hp, h⟩
    cases e : u[p]? with
    | none => rw [e] at h; cases h
    | some y =>
      rw [e] at h
      obtain ⟨b, hb, e'⟩ := List.mem_map.mp h
      exact ⟨p, hp, y, e, b, hb, e'.symm⟩
  · rintro ⟨p, hp, y, e, b, hb, e'⟩
    refine ⟨p, hp, ?_⟩
    rw [e]
    exact List.mem_map.mpr ⟨b, hb, e'.symm⟩
theorem elems_cut : ∀ (l : List Nat) (u1 : List A) (y : A) (u2 : List A), elems u l = u1 ++ y :: u2 → ∃ l1 q l2, l = l1 ++ q :: l2 ∧ u[q]? = some y ∧ elems u l1 = u1 ∧ elems u l2 = u2
  | [], u1, y, u2, e => by simp [elems] at e
  | k :: l, u1, y, u2, e => by
    cases ek : u[k]? with
    | none =>
      have e0 : elems u (k :: l) = elems u l := by unfold elems; rw [List.filterMap_cons, ek]
      rw [e0] at e
      obtain ⟨l1, q, l2, a1, a2, a3, a4⟩ := elems_cut l u1 y u2 e
      exact ⟨k :: l1, q, l2, by rw [a1]; rfl, a2, by unfold elems; rw [List.filterMap_cons, ek]; exact a3, a4⟩
    | some w =>
      rw [elems_cons ek] at e
      cases u1 with
      | nil =>
        injection e with a b
        exact ⟨[], k, l, rfl, by rw [ek, a], rfl, b⟩
      | cons w' u1 =>
        injection e with a b
        obtain ⟨l1, q, l2, a1, a2, a3, a4⟩ := elems_cut l u1 y u2 b
        exact ⟨k :: l1, q, l2, by rw [a1]; rfl, a2, by rw [elems_cons ek, a, a3], a4⟩
section
variable (ht : ∀ a b c, R a b → R b c → R a c) (hr : ∀ a, R a a)
include ht hr
theorem path_sound (hB : ∀ x y b, b ∈ B x y → R b x ∧ R b y) : ∀ (v : List A) (r r' : List A × List Nat), Left u r.2 → Path B u v r r' →
    Inj R (r.1 ++ v) (r'.1 ++ elems u r'.2) ∧ Inj R (r.1 ++ elems u r.2) (r'.1 ++ elems u r'.2)
  | [], r, r', hl, h => by
    have h : r' = r := h
    subst h
    rw [List.append_nil]
    exact ⟨(Inj.refl hr (r'.1 ++ elems u r'.2)).left, Inj.refl hr _⟩
  | x :: v, r, r', hl, h => by
    obtain ⟨r1, o, p⟩ := h
    rcases o with e | o
    · subst e
      obtain ⟨h1, h2⟩ := path_sound hB v (r.1 ++ [x], r.2) r' hl p
      refine ⟨by simpa using h1, ?_⟩
      have q : Inj R (x :: (r.1 ++ elems u r.2)) (r'.1 ++ elems u r'.2) := h2.permL (by
        simp only [List.append_assoc, List.singleton_append]
        exact List.perm_middle)
      exact Inj.left (u' := [x]) (q.permL (by
        have := List.perm_append_comm (l₁ := [x]) (l₂ := r.1 ++ elems u r.2)
        simpa using this))
    · obtain ⟨q, hq, y, hy, b, hb, e⟩ := mem_pairs.mp o
      subst e
      obtain ⟨h1, h2⟩ := path_sound hB v (r.1 ++ [b], r.2.filter fun z => decide (z ≠ q)) r' (hl.less _) p
      obtain ⟨b1, b2⟩ := hB x y b hb
      constructor
      · refine Inj.trans ht h1 (Inj.of ?_)
        rw [List.append_assoc]
        exact F2.app (F2.refl hr _) (.cons b1 (F2.refl hr _))
      · refine Inj.trans ht h2 (Inj.permL (u := (r.1 ++ y :: elems u (r.2.filter fun z => decide (z ≠ q)))) ((elems_out hl hq hy).symm.append_left r.1) (Inj.of ?_))
        rw [List.append_assoc]
        exact F2.app (F2.refl hr _) (.cons b2 (F2.refl hr _))
theorem path_full (hB : ∀ x y c, R c x → R c y → ∃ b ∈ B x y, R c b) : ∀ (v z f : List A) (l : List Nat), Left u l → Inj R v z → Inj R (elems u l) z →
    ∃ g l', Path B u v (f, l) (f ++ g, l') ∧ Inj R (g ++ elems u l') z
  | [], z, f, l, hl, _, h2 => ⟨[], l, by show (f ++ [], l) = (f, l); rw [List.append_nil], h2⟩
  | x :: v, z, f, l, hl, h1, h2 => by
    obtain ⟨c, z1, p, rc, hv⟩ := h1.uncons
    rcases (h2.permR p).split with h2 | ⟨u1, y, u2, e, ry, h2⟩
    · obtain ⟨g, l', hp, hi⟩ := path_full hB v z1 (f ++ [x]) l hl hv h2
      refine ⟨x :: g, l', ⟨(f ++ [x], l), .inl rfl, ?_⟩, ?_⟩
      · simpa using hp
      · exact (Inj.cons rc hi).permR p.symm
    · obtain ⟨l1, q, l2, e1, e2, e3, e4⟩ : ∃ l1 q l2, l = l1 ++ q :: l2 ∧ u[q]? = some y ∧ elems u l1 = u1 ∧ elems u l2 = u2 := by
        exact elems_cut l u1 y u2 e
      obtain ⟨b, hb, rb⟩ := hB x y c rc ry
      have ef : l.filter (fun k => decide (k ≠ q)) = l1 ++ l2 := by
        rw [e1]
        exact filter_one (by rw [← e1]; exact hl.1)
      have h3 : Inj R (elems u (l.filter fun k => decide (k ≠ q))) z1 := by
        rw [ef, elems_app, e3, e4]
        exact h2
      obtain ⟨g, l', hp, hi⟩ := path_full hB v z1 (f ++ [b]) (l.filter fun k => decide (k ≠ q)) (hl.less _) hv h3
      refine ⟨b :: g, l', ⟨(f ++ [b], l.filter fun k => decide (k ≠ q)), .inr (mem_pairs.mpr ⟨q, by rw [e1]; simp, y, e2, b, hb, rfl⟩), ?_⟩, ?_⟩
      · simpa using hp
      · exact (Inj.cons rb hi).permR p.symm
end
end

/-! ### all sorts -/
theorem rawBoth_sound : ∀ (s : So) (v u m : Va s), m ∈ rawBoth s v u → holds s m v = true ∧ holds s m u = true
  | .mark _, v, u, m, h => by
    simp only [rawBoth] at h
    split at h
    · rename_i e
      rw [List.mem_singleton] at h
      subst h
      rw [← e]
      exact ⟨holds_refl _ _, holds_refl _ _⟩
    · cases h
  | .count, v, u, m, h => by
    simp only [rawBoth, List.mem_singleton] at h
    subst h
    simp only [holds, decide_eq_true_eq]
    split
    · rename_i c
      exact ⟨Nat.le_of_lt c, Nat.le_refl _⟩
    · rename_i c
      exact ⟨Nat.le_refl _, Nat.le_of_not_lt c⟩
  | .both a b, v, u, m, h => by
    simp only [rawBoth, List.mem_flatMap, List.mem_map] at h
    obtain ⟨x, hx, y, hy, rfl⟩ := h
    have h1 := rawBoth_sound a _ _ _ hx
    have h2 := rawBoth_sound b _ _ _ hy
    simp only [holds, Bool.and_eq_true]
    exact ⟨⟨h1.1, h2.1⟩, h1.2, h2.2⟩
  | .either a b, .inl v, .inl u, m, h => by
    obtain ⟨x, hx, rfl⟩ := List.mem_map.mp (show m ∈ (rawBoth a v u).map .inl from h)
    exact rawBoth_sound a v u x hx
  | .either a b, .inr v, .inr u, m, h => by
    obtain ⟨x, hx, rfl⟩ := List.mem_map.mp (show m ∈ (rawBoth b v u).map .inr from h)
    exact rawBoth_sound b v u x hx
  | .either a b, .inl v, .inr u, m, h => nomatch h
  | .either a b, .inr v, .inl u, m, h => nomatch h
  | .lane a, v, u, m, h => lane_sound (R := holds a) (fun L m h => mem_least h) (holds_refl a) (fun x y b hb => rawBoth_sound a x y b hb) v u m h
  | .heap a, v, u, m, h => by
    have h := mem_dedup.mp (mem_least (s := .heap a) h)
    unfold heapEvery at h
    obtain ⟨r, hr, e⟩ := List.mem_map.mp h
    obtain ⟨r0, h0, p⟩ := mem_fold.mp hr
    rw [List.mem_singleton] at h0
    subst h0
    have T := path_sound (R := fun x y => holds a x y = true) (holds_trans a) (holds_refl a) (fun x y b hb => rawBoth_sound a x y b hb) v _ r (by exact ⟨List.nodup_range, fun p hp => List.mem_range.mp hp⟩) p
    simp only [List.nil_append, elems_range] at T
    have F := form_eqv (.heap a) (r.1 ++ elems u r.2)
    rw [← e]
    exact ⟨holds_trans (.heap a) _ _ _ F.1 (inj_iff.mpr T.1), holds_trans (.heap a) _ _ _ F.1 (inj_iff.mpr T.2)⟩
theorem rawBoth_full : ∀ (s : So) (v u z : Va s), holds s z v = true → holds s z u = true → ∃ m ∈ rawBoth s v u, holds s z m = true
  | .mark _, v, u, z, h1, h2 => by
    simp only [holds, decide_eq_true_eq] at h1 h2
    refine ⟨v, ?_, by simp [holds, h1]⟩
    have : v = u := h1.symm.trans h2
    simp [rawBoth, this]
  | .count, v, u, z, h1, h2 => by
    simp only [holds, decide_eq_true_eq] at h1 h2
    refine ⟨_, List.mem_singleton.mpr rfl, ?_⟩
    simp only [holds, decide_eq_true_eq]
    split
    · exact h2
    · exact h1
  | .both a b, v, u, z, h1, h2 => by
    simp only [holds, Bool.and_eq_true] at h1 h2
    obtain ⟨x, hx, zx⟩ := rawBoth_full a _ _ _ h1.1 h2.1
    obtain ⟨y, hy, zy⟩ := rawBoth_full b _ _ _ h1.2 h2.2
    refine ⟨(x, y), ?_, by simp [holds, zx, zy]⟩
    simp only [rawBoth, List.mem_flatMap, List.mem_map]
    exact ⟨x, hx, y, hy, rfl⟩
  | .either a b, .inl v, .inl u, .inl z, h1, h2 => by
    obtain ⟨x, hx, zx⟩ := rawBoth_full a v u z h1 h2
    exact ⟨.inl x, List.mem_map.mpr ⟨x, hx, rfl⟩, zx⟩
  | .either a b, .inr v, .inr u, .inr z, h1, h2 => by
    obtain ⟨x, hx, zx⟩ := rawBoth_full b v u z h1 h2
    exact ⟨.inr x, List.mem_map.mpr ⟨x, hx, rfl⟩, zx⟩
  | .either a b, .inl v, _, .inr z, h1, h2 => nomatch h1
  | .either a b, .inr v, _, .inl z, h1, h2 => nomatch h1
  | .either a b, .inl v, .inr u, .inl z, h1, h2 => nomatch h2
  | .either a b, .inr v, .inl u, .inr z, h1, h2 => nomatch h2
  | .lane a, v, u, z, h1, h2 => by
    refine lane_full (R := holds a) (fun L z => ?_) (fun x y c h1 h2 => rawBoth_full a x y c h1 h2) v u z h1 h2
    have q := least_up (.lane a) L z
    unfold UpL
    rw [Bool.eq_iff_iff, inUp_iff, inUp_iff] at q
    exact q
  | .heap a, v, u, z, h1, h2 => by
    obtain ⟨g, l', hp, hi⟩ := path_full (R := fun x y => holds a x y = true) (u := u) (holds_trans a) (holds_refl a) (fun x y c h1 h2 => rawBoth_full a x y c h1 h2) v z [] (List.range u.length)
      (by exact ⟨List.nodup_range, fun p hp => List.mem_range.mp hp⟩) (inj_iff.mp h1) (by rw [elems_range]; exact inj_iff.mp h2)
    have hm : form (.heap a) (g ++ elems u l') ∈ dedup (heapEvery (form (.heap a)) (rawBoth a) v u) := by
      rw [mem_dedup]
      unfold heapEvery
      refine List.mem_map.mpr ⟨(g, l'), mem_fold.mpr ⟨_, List.mem_singleton.mpr rfl, hp⟩, rfl⟩
    have hz : holds (.heap a) z (form (.heap a) (g ++ elems u l')) = true := holds_trans (.heap a) _ _ _ (inj_iff.mpr hi) (form_eqv (.heap a) _).2
    have q := least_up (.heap a) (dedup (heapEvery (form (.heap a)) (rawBoth a) v u)) z
    have q1 : inUp (.heap a) (dedup (heapEvery (form (.heap a)) (rawBoth a) v u)) z = true := inUp_iff.mpr ⟨_, hm, hz⟩
    rw [q1] at q
    exact inUp_iff.mp q
theorem rawBoth_up (s : So) (v u z : Va s) : inUp s (rawBoth s v u) z = (holds s z v && holds s z u) := by
  rw [Bool.eq_iff_iff, inUp_iff, Bool.and_eq_true]
  constructor
  · rintro ⟨m, hm, hz⟩
    obtain ⟨h1, h2⟩ := rawBoth_sound s v u m hm
    exact ⟨holds_trans s _ _ _ hz h1, holds_trans s _ _ _ hz h2⟩
  · rintro ⟨h1, h2⟩
    exact rawBoth_full s v u z h1 h2

theorem rawBoth_ac : ∀ (s : So) (v u : Va s), AC s (rawBoth s v u)
  | .mark _, v, u => by
    simp only [rawBoth]
    split
    · exact List.pairwise_singleton _ _
    · exact List.Pairwise.nil
  | .count, v, u => List.pairwise_singleton _ _
  | .both a b, v, u => by
    unfold AC
    rw [show rawBoth (.both a b) v u = (rawBoth a v.1 u.1).flatMap fun x => (rawBoth b v.2 u.2).map fun y => (x, y) from rfl, List.pairwise_flatMap]
    refine ⟨fun x hx => ?_, (rawBoth_ac a v.1 u.1).imp fun {x x'} h => ?_⟩
    · rw [List.pairwise_map]
      refine (rawBoth_ac b v.2 u.2).imp fun {y y'} h => ?_
      simp [holds, h.1, h.2]
    · intro p hp q hq
      obtain ⟨y, _, rfl⟩ := List.mem_map.mp hp
      obtain ⟨y', _, rfl⟩ := List.mem_map.mp hq
      simp [holds, h.1, h.2]
  | .either a b, .inl v, .inl u => by
    show ((rawBoth a v u).map Sum.inl).Pairwise _
    rw [List.pairwise_map]
    exact (rawBoth_ac a v u).imp fun {x y} h => h
  | .either a b, .inr v, .inr u => by
    show ((rawBoth b v u).map Sum.inr).Pairwise _
    rw [List.pairwise_map]
    exact (rawBoth_ac b v u).imp fun {x y} h => h
  | .either a b, .inl v, .inr u => List.Pairwise.nil
  | .either a b, .inr v, .inl u => List.Pairwise.nil
  | .lane a, v, u => by
    show AC (.lane a) (laneRows (least (.lane a)) (rawBoth a) v u)
    cases v with
    | nil => exact List.pairwise_singleton _ _
    | cons x v =>
      cases u with
      | nil => exact List.pairwise_singleton _ _
      | cons y u => exact least_ac (.lane a) _
  | .heap a, v, u => least_ac (.heap a) _
theorem rawBoth_asc : ∀ (s : So) (v u : Va s), Asc s (rawBoth s v u)
  | .mark _, v, u => by
    simp only [rawBoth]
    split
    · exact List.pairwise_singleton _ _
    · exact List.Pairwise.nil
  | .count, v, u => List.pairwise_singleton _ _
  | .both a b, v, u => by
    unfold Asc
    rw [show rawBoth (.both a b) v u = (rawBoth a v.1 u.1).flatMap fun x => (rawBoth b v.2 u.2).map fun y => (x, y) from rfl, List.pairwise_flatMap]
    refine ⟨fun x hx => ?_, ?_⟩
    · rw [List.pairwise_map]
      refine (rawBoth_asc b v.2 u.2).imp fun {y y'} h => ?_
      show (!(if x = x then ltV b y' y else ltV a x x)) = true
      rw [if_pos rfl]
      exact h
    · refine (List.Pairwise.and (rawBoth_asc a v.1 u.1) (rawBoth_ac a v.1 u.1)).imp fun {x x'} h => ?_
      intro p hp q hq
      obtain ⟨y, _, rfl⟩ := List.mem_map.mp hp
      obtain ⟨y', _, rfl⟩ := List.mem_map.mp hq
      show (!(if x' = x then ltV b y' y else ltV a x' x)) = true
      rw [if_neg ?_]
      · exact h.1
      · rintro rfl
        rw [holds_refl] at h
        exact absurd h.2.1 (by simp)
  | .either a b, .inl v, .inl u => by
    show ((rawBoth a v u).map Sum.inl).Pairwise _
    rw [List.pairwise_map]
    exact (rawBoth_asc a v u).imp fun {x y} h => h
  | .either a b, .inr v, .inr u => by
    show ((rawBoth b v u).map Sum.inr).Pairwise _
    rw [List.pairwise_map]
    exact (rawBoth_asc b v u).imp fun {x y} h => h
  | .either a b, .inl v, .inr u => List.Pairwise.nil
  | .either a b, .inr v, .inl u => List.Pairwise.nil
  | .lane a, v, u => by
    show Asc (.lane a) (laneRows (least (.lane a)) (rawBoth a) v u)
    cases v with
    | nil => exact List.pairwise_singleton _ _
    | cons x v =>
      cases u with
      | nil => exact List.pairwise_singleton _ _
      | cons y u => exact least_asc (.lane a) _
  | .heap a, v, u => least_asc (.heap a) _
theorem rawBoth_least (s : So) (v u : Va s) : least s (rawBoth s v u) = rawBoth s v u := least_id (rawBoth_ac s v u) (rawBoth_asc s v u)

/-- what holds one of some and one of others -/
def rawCommon (s : So) (xs ys : List (Va s)) : List (Va s) := least s (xs.flatMap fun v => ys.flatMap fun u => rawBoth s v u)
theorem rawCommon_up (s : So) (xs ys : List (Va s)) (z : Va s) : inUp s (rawCommon s xs ys) z = (inUp s xs z && inUp s ys z) := by
  unfold rawCommon
  rw [least_up, Bool.eq_iff_iff, Bool.and_eq_true, inUp_iff, inUp_iff, inUp_iff]
  constructor
  · rintro ⟨m, hm, hz⟩
    obtain ⟨v, hv, hm⟩ := List.mem_flatMap.mp hm
    obtain ⟨u, hu, hm⟩ := List.mem_flatMap.mp hm
    obtain ⟨h1, h2⟩ := rawBoth_sound s v u m hm
    exact ⟨⟨v, hv, holds_trans s _ _ _ hz h1⟩, ⟨u, hu, holds_trans s _ _ _ hz h2⟩⟩
  · rintro ⟨⟨v, hv, h1⟩, ⟨u, hu, h2⟩⟩
    obtain ⟨m, hm, hz⟩ := rawBoth_full s v u z h1 h2
    exact ⟨m, List.mem_flatMap.mpr ⟨v, hv, List.mem_flatMap.mpr ⟨u, hu, hm⟩⟩, hz⟩
theorem rawCommon_one (s : So) (v u : Va s) : rawCommon s [v] [u] = rawBoth s v u := by
  unfold rawCommon
  simp only [List.flatMap_cons, List.flatMap_nil, List.append_nil]
  exact rawBoth_least s v u
end K16

end K16CText
section K16DText
set_option autoImplicit false
set_option linter.all false
namespace K16

/-! ### a place for each row: the matching -/
abbrev Gv := List (Nat × Nat)
def look : Gv → Nat → Option Nat
  | [], _ => none
  | x :: g, p => if x.1 = p then some x.2 else look g p
def putG : Gv → Nat → Nat → Gv
  | [], p, e => [(p, e)]
  | x :: g, p, e => if x.1 = p then (p, e) :: g else x :: putG g p e
theorem look_put : ∀ (g : Gv) (p e q : Nat), look (putG g p e) q = if q = p then some e else look g q
  | [], p, e, q => by
    simp only [putG, look]
    by_cases c : p = q
    · rw [if_pos c, if_pos c.symm]
    · rw [if_neg c, if_neg (Ne.symm c)]
  | x :: g, p, e, q => by
    rw [putG]
    by_cases c : x.1 = p
    · rw [if_pos c, look, look]
      by_cases d : q = p
      · rw [if_pos d, if_pos d.symm]
      · rw [if_neg d, if_neg (Ne.symm d), if_neg (by rw [c]; exact Ne.symm d)]
    · rw [if_neg c, look, look, look_put g p e q]
      by_cases d : x.1 = q
      · rw [if_pos d, if_pos d, if_neg (by rw [← d]; exact c)]
      · rw [if_neg d, if_neg d]
abbrev Fr3 := Bool × Gv × List Nat
/-- the turns over an element's places -/
def freedL (rec_ : Gv → Nat → List Nat → Fr3) (e : Nat) : List Nat → Gv → List Nat → Fr3
  | [], g, s => (false, g, s)
  | p :: ps, g, s =>
    if p ∈ s then freedL rec_ e ps g s else
    match look g p with
    | none => (true, putG g p e, s ++ [p])
    | some e' =>
      if (rec_ g e' (s ++ [p])).1 = true then (true, putG (rec_ g e' (s ++ [p])).2.1 p e, (rec_ g e' (s ++ [p])).2.2)
      else freedL rec_ e ps (rec_ g e' (s ++ [p])).2.1 (rec_ g e' (s ++ [p])).2.2
def rowAt (rows : List (List Nat)) (e : Nat) : List Nat := (rows[e]?).getD []
def freedF (rows : List (List Nat)) : Nat → Gv → Nat → List Nat → Fr3
  | 0, g, _, s => (false, g, s)
  | k + 1, g, e, s => freedL (freedF rows k) e (rowAt rows e) g s
def unseen (n : Nat) (s : List Nat) : Nat := ((List.range n).filter fun p => decide (p ∉ s)).length
theorem unseen_mono {n : Nat} {s s' : List Nat} (h : ∀ p ∈ s, p ∈ s') : unseen n s' ≤ unseen n s := by
  unfold unseen
  rw [← List.countP_eq_length_filter, ← List.countP_eq_length_filter]
  refine List.countP_mono_left fun p _ hp => ?_
  simp only [decide_eq_true_eq] at hp ⊢
  exact fun q => hp (h p q)
theorem unseen_less {n p : Nat} {s : List Nat} (hp : p < n) (h : p ∉ s) : unseen n (s ++ [p]) < unseen n s := by
  unfold unseen
  have e : (List.range n).filter (fun q => decide (q ∉ s ++ [p])) = ((List.range n).filter fun q => decide (q ∉ s)).filter fun q => decide (q ≠ p) := by
    rw [List.filter_filter]
    refine List.filter_congr fun q _ => ?_
    rw [Bool.eq_iff_iff]
    simp only [List.mem_append, List.mem_singleton, not_or, decide_eq_true_eq, Bool.and_eq_true, ne_eq]
    exact And.comm
  rw [e]
  have hm : p ∈ (List.range n).filter fun q => decide (q ∉ s) := List.mem_filter.mpr ⟨List.mem_range.mpr hp, by simpa using h⟩
  exact List.length_filter_lt_length_iff_exists.mpr ⟨p, hm, by simp⟩
theorem unseen_le (n : Nat) (s : List Nat) : unseen n s ≤ n := by
  unfold unseen
  refine Nat.le_trans (List.length_filter_le _ _) ?_
  simp

structure GOk (rows : List (List Nat)) (g : Gv) : Prop where
  val : ∀ p e, look g p = some e → p ∈ rowAt rows e
  one : ∀ p q e, look g p = some e → look g q = some e → p = q
structure Yes (rows : List (List Nat)) (g : Gv) (e : Nat) (s : List Nat) (g' : Gv) : Prop where
  val : ∀ p e', look g' p = some e' → p ∈ rowAt rows e'
  got : ∃ p, p ∉ s ∧ look g' p = some e ∧ ∀ q, look g' q = some e → q = p ∨ look g q = some e
  one : ∀ p q e', e' ≠ e → look g' p = some e' → look g' q = some e' → p = q
  old : ∀ q ∈ s, look g' q = look g q
  stay : ∀ q e', look g q = some e' → ∃ q', look g' q' = some e'
  from_ : ∀ q e', look g' q = some e' → e' = e ∨ ∃ q', look g q' = some e'
structure No (rows : List (List Nat)) (g : Gv) (ps : List Nat) (s : List Nat) (g' : Gv) (s' : List Nat) : Prop where
  same : g' = g
  sub : ∀ p ∈ s, p ∈ s'
  nd : s.Nodup → s'.Nodup
  row : ∀ p ∈ ps, p ∈ s'
  shut : ∀ p ∈ s', p ∈ s ∨ ∃ e', look g p = some e' ∧ ∀ q ∈ rowAt rows e', q ∈ s'
theorem freed_ok (rows : List (List Nat)) (n : Nat) (hn : ∀ e, ∀ p ∈ rowAt rows e, p < n) : ∀ (k : Nat) (g : Gv) (e : Nat) (s : List Nat), GOk rows g → (∀ p, look g p = some e → p ∈ s) → unseen n s < k →
    ((freedF rows k g e s).1 = true → Yes rows g e s (freedF rows k g e s).2.1) ∧ ((freedF rows k g e s).1 = false → No rows g (rowAt rows e) s (freedF rows k g e s).2.1 (freedF rows k g e s).2.2) := by
  intro k
  induction k with
  | zero => intro g e s _ _ h; omega
  | succ k ih =>
    intro g e s hg he hk
    rw [freedF]
    have main : ∀ (ps : List Nat) (s : List Nat), (∀ p ∈ ps, p ∈ rowAt rows e) → (∀ p, look g p = some e → p ∈ s) → unseen n s < k + 1 →
        ((freedL (freedF rows k) e ps g s).1 = true → Yes rows g e s (freedL (freedF rows k) e ps g s).2.1) ∧ ((freedL (freedF rows k) e ps g s).1 = false → No rows g ps s (freedL (freedF rows k) e ps g s).2.1 (freedL (freedF rows k) e ps g s).2.2) := by
      intro ps
      induction ps with
      | nil =>
        intro s _ _ _
        refine ⟨fun h => (by cases h), fun _ => ⟨rfl, fun _ h => h, fun h => h, fun p h => (by cases h), fun p h => .inl h⟩⟩
      | cons p ps ihp =>
        intro s hps he hk
        have hps' : ∀ q ∈ ps, q ∈ rowAt rows e := fun q hq => hps q (List.mem_cons_of_mem _ hq)
        rw [freedL]
        by_cases c : p ∈ s
        · rw [if_pos c]
          obtain ⟨h1, h2⟩ := ihp s hps' he hk
          refine ⟨h1, fun h => ?_⟩
          have z := h2 h
          refine ⟨z.same, z.sub, z.nd, fun q hq => ?_, z.shut⟩
          rcases List.mem_cons.mp hq with rfl | hq
          · exact z.sub _ c
          · exact z.row q hq
        · rw [if_neg c]
          have hpr : p ∈ rowAt rows e := hps p (by simp)
          have hpn : p < n := hn e p hpr
          cases eq : look g p with
          | none =>
            refine ⟨fun _ => ?_, fun h => by cases h⟩
            refine ⟨fun q e' h => ?_, ⟨p, c, by rw [look_put, if_pos rfl], fun q h => ?_⟩, fun q r e' hne h1 h2 => ?_, fun q hq => ?_, fun q e' h => ?_, fun q e' h => ?_⟩
            · have h : look (putG g p e) q = some e' := h
              rw [look_put] at h
              split at h
              · rename_i d
                cases h
                rw [d]
                exact hpr
              · exact hg.val q e' h
            · rw [look_put] at h
              split at h
              · rename_i d; exact .inl d
              · exact .inr h
            · have h1 : look (putG g p e) q = some e' := h1
              have h2 : look (putG g p e) r = some e' := h2
              rw [look_put] at h1 h2
              split at h1
              · cases h1; exact absurd rfl hne
              · split at h2
                · cases h2; exact absurd rfl hne
                · exact hg.one q r e' h1 h2
            · show look (putG g p e) q = look g q
              rw [look_put, if_neg]
              rintro rfl
              exact c hq
            · refine ⟨q, ?_⟩
              show look (putG g p e) q = some e'
              rw [look_put, if_neg]
              · exact h
              · rintro rfl
                rw [eq] at h
                cases h
            · have h : look (putG g p e) q = some e' := h
              rw [look_put] at h
              split at h
              · cases h; exact .inl rfl
              · exact .inr ⟨q, h⟩
          | some e' =>
            have hne : e' ≠ e := by
              rintro rfl
              exact c (he p eq)
            have pre : ∀ q, look g q = some e' → q ∈ s ++ [p] := fun q hq => by
              rw [hg.one q p e' hq eq]
              simp
            have hk' : unseen n (s ++ [p]) < k := by
              have := unseen_less hpn c
              omega
            obtain ⟨h1, h2⟩ := ih g e' (s ++ [p]) hg pre hk'
            dsimp only
            cases eb : (freedF rows k g e' (s ++ [p])).1 with
            | true =>
              have Y := h1 eb
              rw [if_pos rfl]
              refine ⟨fun _ => ?_, fun h => by cases h⟩
              generalize (freedF rows k g e' (s ++ [p])).2.1 = g1 at Y
              show Yes rows g e s (putG g1 p e)
              obtain ⟨p0, n0, l0, u0⟩ := Y.got
              have np : p0 ≠ p := by
                rintro rfl
                exact n0 (by simp)
              refine ⟨fun q e'' h => ?_, ⟨p, c, by rw [look_put, if_pos rfl], fun q h => ?_⟩, fun q r e'' hne2 i1 i2 => ?_, fun q hq => ?_, fun q e'' h => ?_, fun q e'' h => ?_⟩
              · rw [look_put] at h
                split at h
                · rename_i d; cases h; rw [d]; exact hpr
                · exact Y.val q e'' h
              · rw [look_put] at h
                split at h
                · rename_i d; exact .inl d
                · right
                  rcases Y.from_ q e h with z | ⟨q', hq'⟩
                  · exact absurd z.symm hne
                  · have e1 : look g1 q' = some e := by rw [Y.old q' (List.mem_append_left _ (he q' hq'))]; exact hq'
                    rw [Y.one q q' e (Ne.symm hne) h e1]
                    exact hq'
              · rw [look_put] at i1 i2
                split at i1
                · cases i1; exact absurd rfl hne2
                · rename_i d1
                  split at i2
                  · cases i2; exact absurd rfl hne2
                  · rename_i d2
                    by_cases ee : e'' = e'
                    · subst ee
                      have f : ∀ q, q ≠ p → look g1 q = some e'' → q = p0 := fun q hq h => by
                        rcases u0 q h with z | z
                        · exact z
                        · exact absurd (hg.one q p e'' z eq) hq
                      rw [f q d1 i1, f r d2 i2]
                    · exact Y.one q r e'' ee i1 i2
              · rw [look_put, if_neg]
                · exact Y.old q (List.mem_append_left _ hq)
                · rintro rfl
                  exact c hq
              · by_cases ee : e'' = e'
                · subst ee
                  exact ⟨p0, by rw [look_put, if_neg np]; exact l0⟩
                · obtain ⟨q', hq'⟩ := Y.stay q e'' h
                  by_cases d : q' = p
                  · rw [d, Y.old p (by simp), eq] at hq'
                    cases hq'
                    exact absurd rfl ee
                  · exact ⟨q', by rw [look_put, if_neg d]; exact hq'⟩
              · rw [look_put] at h
                split at h
                · cases h; exact .inl rfl
                · rcases Y.from_ q e'' h with z | z
                  · exact .inr ⟨p, by rw [eq, z]⟩
                  · exact .inr z
            | false =>
              have Z := h2 eb
              rw [if_neg Bool.false_ne_true, Z.same]
              generalize (freedF rows k g e' (s ++ [p])).2.2 = s1 at Z
              have sub : ∀ q ∈ s, q ∈ s1 := fun q hq => Z.sub q (List.mem_append_left _ hq)
              obtain ⟨h3, h4⟩ := ihp s1 hps' (fun q hq => sub q (he q hq)) (Nat.lt_of_le_of_lt (unseen_mono sub) hk)
              refine ⟨fun h => ?_, fun h => ?_⟩
              · have Y := h3 h
                obtain ⟨p0, n0, l0, u0⟩ := Y.got
                exact ⟨Y.val, ⟨p0, fun q => n0 (sub p0 q), l0, u0⟩, Y.one, fun q hq => Y.old q (sub q hq), Y.stay, Y.from_⟩
              · have W := h4 h
                refine ⟨W.same, fun q hq => W.sub q (sub q hq), fun hs => W.nd (Z.nd ?_), fun q hq => ?_, fun q hq => ?_⟩
                · rw [List.nodup_append]
                  refine ⟨hs, by simp, fun a ha b hb => ?_⟩
                  rw [List.mem_singleton] at hb
                  rw [hb]
                  rintro rfl
                  exact c ha
                · rcases List.mem_cons.mp hq with rfl | hq
                  · exact W.sub _ (Z.sub _ (by simp))
                  · exact W.row q hq
                · rcases W.shut q hq with z | z
                  · rcases Z.shut q z with y | ⟨e'', h1, h2⟩
                    · rcases List.mem_append.mp y with y | y
                      · exact .inl y
                      · rw [List.mem_singleton] at y
                        subst y
                        exact .inr ⟨e', eq, fun r hr => W.sub r (Z.row r hr)⟩
                    · exact .inr ⟨e'', h1, fun r hr => W.sub r (h2 r hr)⟩
                  · exact .inr z
    exact main (rowAt rows e) s (fun _ h => h) he hk

theorem nodup_sub_len : ∀ (l d : List Nat), l.Nodup → (∀ x ∈ l, x ∈ d) → l.length ≤ d.length
  | [], d, _, _ => Nat.zero_le _
  | x :: l, d, hn, hs => by
    rw [List.nodup_cons] at hn
    obtain ⟨a, b, e⟩ := List.append_of_mem (hs x (by simp))
    have q := nodup_sub_len l (a ++ b) hn.2 fun y hy => by
      have h := hs y (List.mem_cons_of_mem _ hy)
      rw [e] at h
      rcases List.mem_append.mp h with h | h
      · exact List.mem_append_left _ h
      · rcases List.mem_cons.mp h with h | h
        · subst h
          exact absurd hy hn.1
        · exact List.mem_append_right _ h
    rw [e]
    simp only [List.length_append, List.length_cons] at q ⊢
    omega

/-- the program's turns: each element in its order, nothing seen at first -/
def canStep (rows : List (List Nat)) (k : Nat) (acc : List Bool × Gv) (e : Nat) : List Bool × Gv := (acc.1 ++ [(freedF rows k acc.2 e []).1], (freedF rows k acc.2 e []).2.1)
def canAll (rows : List (List Nat)) (k m : Nat) : List Bool × Gv := (List.range m).foldl (canStep rows k) ([], [])
def canF (rows : List (List Nat)) (k : Nat) : Bool := (canAll rows k rows.length).1.all id
theorem canAll_succ (rows : List (List Nat)) (k m : Nat) : canAll rows k (m + 1) = canStep rows k (canAll rows k m) m := by
  unfold canAll
  rw [List.range_succ, List.foldl_append]
  rfl
/-- a choice of different places, one in each row -/
def Match (rows : List (List Nat)) (fs : List Nat) : Prop := fs.Nodup ∧ F2 (fun k row => k ∈ row) fs rows
theorem F2.at {A B : Type} {R : A → B → Prop} : ∀ {x : List A} {y : List B}, F2 R x y → ∀ {i : Nat} {b : B}, y[i]? = some b → ∃ a, x[i]? = some a ∧ R a b
  | _, _, .nil, i, b, h => by simp at h
  | _, _, .cons (a := a) r t, 0, b, h => by
    simp at h
    subst h
    exact ⟨a, rfl, r⟩
  | _, _, .cons r t, i + 1, b, h => by
    obtain ⟨a, h1, h2⟩ := F2.at t (i := i) (by simpa using h)
    exact ⟨a, by simpa using h1, h2⟩
theorem canAll_ok (rows : List (List Nat)) (n : Nat) (hn : ∀ e, ∀ p ∈ rowAt rows e, p < n) : ∀ m, m ≤ rows.length →
    GOk rows (canAll rows (n + 1) m).2 ∧ (∀ q e, look (canAll rows (n + 1) m).2 q = some e → e < m) ∧
    ((canAll rows (n + 1) m).1.all id = true → ∀ e, e < m → ∃ q, look (canAll rows (n + 1) m).2 q = some e) ∧
    ((canAll rows (n + 1) m).1.all id = false → ∀ fs, ¬ Match rows fs) := by
  intro m
  induction m with
  | zero =>
    intro _
    refine ⟨⟨fun p e h => by simp [canAll, look] at h, fun p q e h => by simp [canAll, look] at h⟩, fun q e h => by simp [canAll, look] at h, fun _ e h => by omega, fun h => by simp [canAll] at h⟩
  | succ m ih =>
    intro hm
    obtain ⟨g1, g2, g3, g4⟩ := ih (by omega)
    rw [canAll_succ]
    generalize canAll rows (n + 1) m = acc at g1 g2 g3 g4
    unfold canStep
    have hno : ∀ p, look acc.2 p ≠ some m := fun p h => by
      have := g2 p m h
      omega
    obtain ⟨y, z⟩ := freed_ok rows n hn (n + 1) acc.2 m [] g1 (fun p h => absurd h (hno p)) (Nat.lt_succ_of_le (unseen_le n []))
    dsimp only
    rw [List.all_append]
    cases eb : (freedF rows (n + 1) acc.2 m []).1 with
    | true =>
      have Y := y eb
      generalize (freedF rows (n + 1) acc.2 m []).2.1 = g' at Y
      obtain ⟨p0, _, l0, u0⟩ := Y.got
      refine ⟨⟨Y.val, fun p q e h1 h2 => ?_⟩, fun q e h => ?_, fun h e he => ?_, fun h => ?_⟩
      · by_cases ee : e = m
        · subst ee
          have f : ∀ q, look g' q = some e → q = p0 := fun q h => (u0 q h).elim id fun z => absurd z (hno q)
          rw [f p h1, f q h2]
        · exact Y.one p q e ee h1 h2
      · rcases Y.from_ q e h with z | ⟨q', z⟩
        · omega
        · have := g2 q' e z
          omega
      · have h : acc.1.all id = true := by simpa using h
        by_cases ee : e = m
        · exact ⟨p0, by rw [ee]; exact l0⟩
        · obtain ⟨q, hq⟩ := g3 h e (by omega)
          exact Y.stay q e hq
      · exact g4 (by simpa using h)
    | false =>
      have Z := z eb
      rw [Z.same]
      refine ⟨g1, fun q e h => Nat.lt_succ_of_lt (g2 q e h), fun h => by simp at h, fun _ => ?_⟩
      generalize (freedF rows (n + 1) acc.2 m []).2.2 = s' at Z
      rintro fs ⟨fn, ff⟩
      -- all rows of m and of what stands at s' lie in s'
      have snd : s'.Nodup := Z.nd List.nodup_nil
      have hs : ∀ p ∈ s', ∃ e', look acc.2 p = some e' ∧ ∀ q ∈ rowAt rows e', q ∈ s' := fun p hp => (Z.shut p hp).elim (fun z => nomatch z) id
      have at_ : ∀ e, e < rows.length → ∃ q, fs[e]? = some q ∧ q ∈ rowAt rows e := fun e he => by
        have e1 : rows[e]? = some rows[e] := List.getElem?_eq_getElem he
        obtain ⟨a, h1, h2⟩ := F2.at ff e1
        refine ⟨a, h1, ?_⟩
        unfold rowAt
        rw [e1]
        exact h2
      let val : Nat → Nat := fun e => (fs[e]?).getD 0
      let own : Nat → Nat := fun p => (look acc.2 p).getD 0
      have hown : ∀ p ∈ s', own p < m ∧ ∀ q ∈ rowAt rows (own p), q ∈ s' := fun p hp => by
        obtain ⟨e', h1, h2⟩ := hs p hp
        have eo : own p = e' := by show (look acc.2 p).getD 0 = e'; rw [h1]; rfl
        rw [eo]
        exact ⟨g2 p e' h1, h2⟩
      have inj_ : ∀ p ∈ s', ∀ q ∈ s', own p = own q → p = q := fun p hp q hq e => by
        obtain ⟨e1, h1, _⟩ := hs p hp
        obtain ⟨e2, h2, _⟩ := hs q hq
        have a1 : own p = e1 := by show (look acc.2 p).getD 0 = e1; rw [h1]; rfl
        have a2 : own q = e2 := by show (look acc.2 q).getD 0 = e2; rw [h2]; rfl
        rw [a1, a2] at e
        subst e
        exact g1.one p q e1 h1 h2
      have vin : ∀ a b, a < rows.length → b < rows.length → val a = val b → a = b := fun a b ha hb e => by
        obtain ⟨q1, h1, _⟩ := at_ a ha
        obtain ⟨q2, h2, _⟩ := at_ b hb
        have e1 : val a = q1 := by show (fs[a]?).getD 0 = q1; rw [h1]; rfl
        have e2 : val b = q2 := by show (fs[b]?).getD 0 = q2; rw [h2]; rfl
        rw [e1, e2] at e
        subst e
        obtain ⟨l1, w1⟩ := List.getElem?_eq_some_iff.mp h1
        obtain ⟨l2, w2⟩ := List.getElem?_eq_some_iff.mp h2
        exact (List.getElem_inj fn).mp (w1.trans w2.symm)
      have nd : (val m :: s'.map fun p => val (own p)).Nodup := by
        rw [List.nodup_cons]
        constructor
        · intro h
          obtain ⟨p, hp, e⟩ := List.mem_map.mp h
          have h1 := (hown p hp).1
          have := vin (own p) m (by omega) (by omega) e
          omega
        · unfold List.Nodup
          rw [List.pairwise_map]
          refine List.Pairwise.imp_of_mem (fun {p q} hp hq hne e => ?_) snd
          exact hne (inj_ p hp q hq (vin _ _ (by have := (hown p hp).1; omega) (by have := (hown q hq).1; omega) e))
      have all : ∀ x ∈ (val m :: s'.map fun p => val (own p)), x ∈ s' := fun x hx => by
        have f : ∀ e, e < rows.length → (∀ q ∈ rowAt rows e, q ∈ s') → val e ∈ s' := fun e he h => by
          obtain ⟨q, h1, h2⟩ := at_ e he
          have e1 : val e = q := by show (fs[e]?).getD 0 = q; rw [h1]; rfl
          rw [e1]
          exact h q h2
        rcases List.mem_cons.mp hx with e | hx
        · rw [e]
          exact f m (by omega) fun q hq => Z.row q hq
        · obtain ⟨p, hp, e⟩ := List.mem_map.mp hx
          rw [← e]
          exact f (own p) (by have := (hown p hp).1; omega) (hown p hp).2
      have := nodup_sub_len _ _ nd all
      simp only [List.length_cons, List.length_map] at this
      omega
theorem F2.of_at {A B : Type} {R : A → B → Prop} : ∀ {x : List A} {y : List B}, x.length = y.length → (∀ (i : Nat) (a : A) (b : B), x[i]? = some a → y[i]? = some b → R a b) → F2 R x y
  | [], [], _, _ => .nil
  | [], _ :: _, h, _ => by simp at h
  | _ :: _, [], h, _ => by simp at h
  | a :: x, b :: y, h, f => .cons (f 0 a b rfl rfl) (F2.of_at (by simpa using h) fun i a b h1 h2 => f (i + 1) a b (by simpa using h1) (by simpa using h2))
theorem canF_iff (rows : List (List Nat)) (n : Nat) (hn : ∀ e, ∀ p ∈ rowAt rows e, p < n) : canF rows (n + 1) = true ↔ ∃ fs, Match rows fs := by
  obtain ⟨g1, g2, g3, g4⟩ := canAll_ok rows n hn rows.length (Nat.le_refl _)
  unfold canF
  cases e : (canAll rows (n + 1) rows.length).1.all id with
  | false =>
    refine ⟨fun h => (by cases h), ?_⟩
    rintro ⟨fs, h⟩
    exact absurd h (g4 e fs)
  | true =>
    refine ⟨fun _ => ?_, fun _ => rfl⟩
    have g3 := g3 e
    generalize (canAll rows (n + 1) rows.length).2 = g at g1 g2 g3
    have pick : ∀ e : Nat, ∃ q, e < rows.length → look g q = some e := fun e => by
      by_cases c : e < rows.length
      · obtain ⟨q, hq⟩ := g3 e c
        exact ⟨q, fun _ => hq⟩
      · exact ⟨0, fun h => absurd h c⟩
    let f : Nat → Nat := fun e => (pick e).choose
    have hf : ∀ e, e < rows.length → look g (f e) = some e := fun e => (pick e).choose_spec
    refine ⟨(List.range rows.length).map f, ?_, F2.of_at (by simp) fun i a b h1 h2 => ?_⟩
    · unfold List.Nodup
      rw [List.pairwise_map]
      refine List.Pairwise.imp_of_mem (fun {p q} hp hq hne e => ?_) List.nodup_range
      have h1 := hf p (List.mem_range.mp hp)
      have h2 := hf q (List.mem_range.mp hq)
      rw [e, h2] at h1
      cases h1
      exact hne rfl
    · have hi : i < rows.length := (List.getElem?_eq_some_iff.mp h2).1
      rw [List.getElem?_map, List.getElem?_range hi] at h1
      have e1 : f i = a := Option.some.inj h1
      have q := g1.val _ _ (hf i hi)
      unfold rowAt at q
      rw [h2, e1] at q
      exact q

/-! ### the rows of two heaps -/
section
variable {A : Type} (R : A → A → Bool)
def rowOf (v : List A) (y : A) : List Nat := (List.range v.length).filter fun k => match v[k]? with
  | some x => R x y
  | none => false
def rowsOf (v u : List A) : List (List Nat) := u.map (rowOf R v)
theorem mem_rowOf {v : List A} {y : A} {k : Nat} : k ∈ rowOf R v y ↔ ∃ x, v[k]? = some x ∧ R x y = true := by
  unfold rowOf
  rw [List.mem_filter, List.mem_range]
  constructor
  · rintro ⟨h1, h2⟩
    rw [List.getElem?_eq_getElem h1] at h2 ⊢
    exact ⟨_, rfl, h2⟩
  · rintro ⟨x, h1, h2⟩
    refine ⟨(List.getElem?_eq_some_iff.mp h1).1, ?_⟩
    rw [h1]
    exact h2
theorem rowsOf_lt (v u : List A) : ∀ e, ∀ p ∈ rowAt (rowsOf R v u) e, p < v.length := fun e p hp => by
  unfold rowAt rowsOf at hp
  rw [List.getElem?_map] at hp
  cases h : u[e]? with
  | none => rw [h] at hp; cases hp
  | some y =>
    rw [h] at hp
    obtain ⟨x, h1, _⟩ := (mem_rowOf R).mp (show p ∈ rowOf R v y from hp)
    exact (List.getElem?_eq_some_iff.mp h1).1
theorem F2.map_right {A B C : Type} {R : A → C → Prop} (f : B → C) : ∀ {x : List A} {y : List B}, F2 R x (y.map f) ↔ F2 (fun a b => R a (f b)) x y := by
  intro x y
  constructor
  · induction y generalizing x with
    | nil => intro h; cases h; exact .nil
    | cons b y ih =>
      intro h
      cases h with
      | cons r t => exact .cons r (ih t)
  · intro h
    induction h with
    | nil => exact .nil
    | cons r t ih => exact .cons r ih
theorem match_inj (v u : List A) : (∃ fs, Match (rowsOf R v u) fs) ↔ Inj (fun a b => R a b = true) u v := by
  constructor
  · rintro ⟨fs, nd, h0⟩
    have h : F2 (fun k y => k ∈ rowOf R v y) fs u := (F2.map_right (rowOf R v)).mp h0
    clear h0
    have lt : ∀ k ∈ fs, k < v.length := by
      intro k hk
      obtain ⟨i, hi⟩ := List.mem_iff_getElem?.mp hk
      have hl := F2.length h
      obtain ⟨l1, _⟩ := List.getElem?_eq_some_iff.mp hi
      have e2 : u[i]? = some (u[i]'(by omega)) := List.getElem?_eq_getElem (by omega)
      obtain ⟨a, h1, h2⟩ := F2.at h e2
      rw [hi] at h1
      cases h1
      obtain ⟨x, hx, _⟩ := (mem_rowOf R).mp h2
      exact (List.getElem?_eq_some_iff.mp hx).1
    refine ⟨elems v fs, elems v ((List.range v.length).filter fun k => decide (k ∉ fs)), ?_, ?_⟩
    · have p : (List.range v.length).Perm (fs ++ (List.range v.length).filter fun k => decide (k ∉ fs)) := by
        refine (List.perm_ext_iff_of_nodup List.nodup_range ?_).mpr fun k => ?_
        · rw [List.nodup_append]
          refine ⟨nd, List.nodup_range.sublist List.filter_sublist, fun a ha b hb => ?_⟩
          rintro rfl
          have := (List.mem_filter.mp hb).2
          simp only [decide_eq_true_eq] at this
          exact this ha
        · rw [List.mem_append, List.mem_filter, List.mem_range]
          constructor
          · intro h
            by_cases c : k ∈ fs
            · exact .inl c
            · exact .inr ⟨h, by simpa using c⟩
          · rintro (h | h)
            · exact lt k h
            · exact h.1
      have q := p.filterMap fun k => v[k]?
      rw [List.filterMap_append] at q
      have e := elems_range v
      unfold elems at e ⊢
      rw [e] at q
      exact q
    · clear nd lt
      induction h with
      | nil => exact .nil
      | cons r t ih =>
        obtain ⟨x, hx, rx⟩ := (mem_rowOf R).mp r
        rw [elems_cons hx]
        exact .cons rx ih
  · intro h
    have main : ∀ (u : List A) (l : List Nat), l.Nodup → Inj (fun a b => R a b = true) u (elems v l) → ∃ fs : List Nat, fs.Nodup ∧ (∀ k ∈ fs, k ∈ l) ∧ F2 (fun k y => k ∈ rowOf R v y) fs u := by
      intro u
      induction u with
      | nil => exact fun l _ _ => ⟨[], List.nodup_nil, fun k h => (by cases h), .nil⟩
      | cons y u ih =>
        intro l hl h
        obtain ⟨c, z1, p, rc, hz⟩ := h.uncons
        obtain ⟨w1, w2, e⟩ := List.append_of_mem (p.mem_iff.mpr (by simp : c ∈ c :: z1))
        obtain ⟨l1, q, l2, e1, e2, e3, e4⟩ := elems_cut l w1 c w2 e
        have p2 : z1.Perm (elems v (l1 ++ l2)) := by
          rw [elems_app, e3, e4]
          rw [e] at p
          exact (p.symm.trans List.perm_middle).cons_inv
        have nd : (l1 ++ l2).Nodup := by
          rw [e1] at hl
          exact hl.sublist (List.Sublist.append_left (List.sublist_cons_self _ _) _)
        obtain ⟨fs, f1, f2, f3⟩ := ih (l1 ++ l2) nd (hz.permR p2)
        refine ⟨q :: fs, List.nodup_cons.mpr ⟨fun hq => ?_, f1⟩, fun k hk => ?_, .cons ((mem_rowOf R).mpr ⟨c, e2, rc⟩) f3⟩
        · have := f2 q hq
          rw [e1, List.nodup_append] at hl
          rcases List.mem_append.mp this with h | h
          · exact hl.2.2 q h q (by simp) rfl
          · exact (List.nodup_cons.mp hl.2.1).1 h
        · rw [e1]
          rcases List.mem_cons.mp hk with h | h
          · rw [h]; simp
          · rcases List.mem_append.mp (f2 k h) with h | h
            · exact List.mem_append_left _ h
            · exact List.mem_append_right _ (List.mem_cons_of_mem _ h)
    obtain ⟨fs, f1, _, f3⟩ := main u (List.range v.length) List.nodup_range (by rw [elems_range]; exact h)
    exact ⟨fs, f1, (F2.map_right (rowOf R v)).mpr f3⟩
theorem canF_inj (v u : List A) : canF (rowsOf R v u) (v.length + 1) = inj R u v := by
  rw [Bool.eq_iff_iff, canF_iff _ _ (rowsOf_lt R v u), match_inj, inj_iff]
end
end K16

end K16DText
section K16WText
set_option autoImplicit false
set_option linter.all false
set_option maxRecDepth 100000
set_option Elab.async false
/-! Readings that give data: what an expression, a body comes to. -/
namespace K16
open PySem PySem.Spec PyProof.Rows L2

/-! ### heaps that grow: all but the tables of code objects stays -/
abbrev Tb := List (Addr × Str)
/-- free, or a table -/
def Nw (H : Hp) (b : Addr) : Prop := ∀ o, H b = some o → ∃ ps, o = .tbl ps
theorem nw_none {H : Hp} {b : Addr} (h : H b = none) : Nw H b := fun o e => by rw [h] at e; cases e
theorem Nw.ne {H : Hp} {a b : Addr} {o : HO} (h : Nw H b) (ha : H a = some o) (hn : ∀ ps, o ≠ .tbl ps) : a ≠ b := fun e => by
  obtain ⟨ps, z⟩ := h o (e ▸ ha)
  exact hn ps z
structure Gr (T : Tb) (H H' : Hp) : Prop where
  ext : LamX.ExtN H H'
  tab : LamX.Tabs T H'
/-- what may be written where it is new -/
def Pl : HO → Prop
  | .lst _ => True
  | .dK _ => True
  | .dT _ => True
  | _ => False
section
variable {T : Tb} {H H0 H1 H2 : Hp} {p : Addr} {o o0 : HO}
theorem Gr.refl (h : LamX.Tabs T H) : Gr T H H := ⟨.refl H, h⟩
theorem Gr.trans (a : Gr T H H1) (b : Gr T H1 H2) : Gr T H H2 := ⟨a.ext.trans b.ext, b.tab⟩
theorem Gr.nn (a : Gr T H H1) {b : Addr} (h : Nw H1 b) : Nw H b := fun o e => by
  by_cases c : ∃ ps, o = .tbl ps
  · exact c
  · exact h o (a.ext b o e fun ps z => c ⟨ps, z⟩)
theorem Gr.self (a : Gr T H H1) : Gr T H1 H1 := .refl a.tab
theorem Gr.new (h : LamX.Tabs T H) (hp : H p = none) : Gr T H (upd H p o) := by
  have e : ∀ b u, H b = some u → upd H p o b = some u := fun b u q => by rw [upd_ne (ne_of_none q hp)]; exact q
  exact ⟨.of e, h.ext e⟩
theorem Gr.add (a : Gr T H H1) (hp : H1 p = none) : Gr T H (upd H1 p o) := a.trans (.new a.tab hp)
theorem Gr.stay (a : Gr T H H1) (h : H p = some o) (ht : Pl o) : H1 p = some o := a.ext p o h fun ps e => by subst e; exact ht
theorem Gr.stayT {xs : List V} (a : Gr T H H1) (h : H p = some (.tup xs)) : H1 p = some (.tup xs) := a.ext p _ h fun ps e => by cases e
/-- an object that is new since H0 is written -/
theorem Gr.mut (a : Gr T H0 H) (hp : Nw H0 p) (h : H p = some o0) (h0 : Pl o0) : Gr T H0 (upd H p o) := by
  refine ⟨fun b u e n => ?_, fun q hq => ?_⟩
  · rw [upd_ne (hp.ne e n)]
    exact a.ext b u e n
  · obtain ⟨ps, h1, h2, h3⟩ := a.tab q hq
    refine ⟨ps, ?_, h2, fun pos cv e => ?_⟩
    · rw [upd_ne]
      · exact h1
      · rintro z
        rw [z, h] at h1
        cases h1
        exact h0
    · obtain ⟨c, e1, e2⟩ := h3 pos cv e
      refine ⟨c, e1, ?_⟩
      rw [upd_ne]
      · exact e2
      · rintro z
        rw [z, h] at e2
        have e2 := Option.some.inj e2
        rw [e2] at h0
        exact h0
theorem sq_ext {K : PySem.W.Frag} {xs : List V} (e : LamX.ExtN H H1) (h : SqL K H p xs) : SqL K H1 p xs := by
  rcases h with (h | ⟨o, h⟩) | h
  · exact .inl (.inl (e _ _ h fun _ z => nomatch z))
  · exact .inl (.inr ⟨o, e _ _ h fun _ z => nomatch z⟩)
  · exact .inr h
theorem st_ext {K : PySem.W.Frag} {xs : List V} (e : LamX.ExtN H H1) (h : SqT K H p xs) : SqT K H1 p xs := by
  rcases h with (h | ⟨o, h⟩) | h
  · exact .inl (.inl (e _ _ h fun _ z => nomatch z))
  · exact .inl (.inr ⟨o, e _ _ h fun _ z => nomatch z⟩)
  · exact .inr h
end

/-! ### data -/
section
variable {K : PySem.W.Frag} {T : Tb} {H H1 : Hp}
mutual
theorem dp_ext (e : LamX.ExtN H H1) : ∀ {v : V} {d : PyData}, Dp K H v d → Dp K H1 v d
  | _, _, .non => .non
  | _, _, .bl b => .bl b
  | _, _, .int i => .int i
  | _, _, .str x => .str x
  | _, _, .lst s a => .lst (sq_ext e s) (dps_ext e a)
  | _, _, .tup s a => .tup (st_ext e s) (dps_ext e a)
theorem dps_ext (e : LamX.ExtN H H1) : ∀ {vs : List V} {ds : List PyData}, DpAll K H vs ds → DpAll K H1 vs ds
  | _, _, .nil => .nil
  | _, _, .cons a b => .cons (dp_ext e a) (dps_ext e b)
end
theorem dps_at : ∀ {vs : List V} {ds : List PyData}, DpAll K H vs ds → ∀ {i : Nat} {v : V}, vs[i]? = some v → ∃ d, ds[i]? = some d ∧ Dp K H v d
  | _, _, .nil, i, v, e => by simp at e
  | _, _, .cons (d := d) a b, 0, v, e => by
    simp at e
    subst e
    exact ⟨d, rfl, a⟩
  | _, _, .cons a b, i + 1, v, e => by
    obtain ⟨d, h1, h2⟩ := dps_at b (i := i) (v := v) (by simpa using e)
    exact ⟨d, by simpa using h1, h2⟩
theorem dps_at' : ∀ {vs : List V} {ds : List PyData}, DpAll K H vs ds → ∀ {i : Nat} {d : PyData}, ds[i]? = some d → ∃ v, vs[i]? = some v ∧ Dp K H v d
  | _, _, .nil, i, v, e => by simp at e
  | _, _, .cons (v := v) a b, 0, d, e => by
    simp at e
    subst e
    exact ⟨v, rfl, a⟩
  | _, _, .cons a b, i + 1, d, e => by
    obtain ⟨v, h1, h2⟩ := dps_at' b (i := i) (d := d) (by simpa using e)
    exact ⟨v, by simpa using h1, h2⟩
theorem dps_len : ∀ {vs : List V} {ds : List PyData}, DpAll K H vs ds → vs.length = ds.length
  | _, _, .nil => rfl
  | _, _, .cons a b => by simp [dps_len b]
theorem dps_app : ∀ {vs ws : List V} {ds es : List PyData}, DpAll K H vs ds → DpAll K H ws es → DpAll K H (vs ++ ws) (ds ++ es)
  | _, _, _, _, .nil, h => h
  | _, _, _, _, .cons a b, h => .cons a (dps_app b h)
theorem dps_snoc {vs : List V} {ds : List PyData} {v : V} {d : PyData} (h : DpAll K H vs ds) (hv : Dp K H v d) : DpAll K H (vs ++ [v]) (ds ++ [d]) := dps_app h (.cons hv .nil)
theorem dps_drop : ∀ {vs : List V} {ds : List PyData} (n : Nat), DpAll K H vs ds → DpAll K H (vs.drop n) (ds.drop n)
  | _, _, 0, h => h
  | _, _, _ + 1, .nil => .nil
  | _, _, n + 1, .cons _ b => dps_drop n b
theorem dps_take : ∀ {vs : List V} {ds : List PyData} (n : Nat), DpAll K H vs ds → DpAll K H (vs.take n) (ds.take n)
  | _, _, 0, _ => .nil
  | _, _, _ + 1, .nil => .nil
  | _, _, n + 1, .cons a b => .cons a (dps_take n b)
theorem dps_set {v : V} {d : PyData} (hv : Dp K H v d) : ∀ {vs : List V} {ds : List PyData} (n : Nat), DpAll K H vs ds → DpAll K H (vs.set n v) (ds.set n d)
  | _, _, _, .nil => .nil
  | _, _, 0, .cons a b => .cons hv b
  | _, _, n + 1, .cons a b => .cons a (dps_set hv n b)
theorem dps_rep {v : V} {d : PyData} (hv : Dp K H v d) : ∀ n : Nat, DpAll K H (List.replicate n v) (List.replicate n d)
  | 0 => .nil
  | n + 1 => .cons hv (dps_rep hv n)
theorem dps_rev : ∀ {vs : List V} {ds : List PyData}, DpAll K H vs ds → DpAll K H vs.reverse ds.reverse
  | _, _, .nil => .nil
  | _, _, .cons a b => by
    rw [List.reverse_cons, List.reverse_cons]
    exact dps_snoc (dps_rev b) a
theorem dp_int {v : V} {i : Int} (h : Dp K H v (.int i)) : v = .int i := by cases h; rfl
theorem dp_str {v : V} {i : Str} (h : Dp K H v (.str i)) : v = .str i := by cases h; rfl
theorem dp_bl {v : V} {i : Bool} (h : Dp K H v (.bool i)) : v = .bl i := by cases h; rfl
theorem dp_non {v : V} (h : Dp K H v .none) : v = .non := by cases h; rfl
theorem dp_tup {v : V} {ds : List PyData} (h : Dp K H v (.tuple ds)) : ∃ a xs, v = .ref a ∧ SqT K H a xs ∧ DpAll K H xs ds := by
  cases h with
  | tup s a => exact ⟨_, _, rfl, s, a⟩
theorem dp_lst {v : V} {ds : List PyData} (h : Dp K H v (.list ds)) : ∃ a xs, v = .ref a ∧ SqL K H a xs ∧ DpAll K H xs ds := by
  cases h with
  | lst s a => exact ⟨_, _, rfl, s, a⟩
end

/-! ### data without lists -/
mutual
def noL : PyData → Bool
  | .list _ => false
  | .tuple xs => noLs xs
  | .dict _ => false
  | _ => true
def noLs : List PyData → Bool
  | [] => true
  | x :: xs => noL x && noLs xs
end
theorem noLs_iff : ∀ {ds : List PyData}, noLs ds = true ↔ ∀ d ∈ ds, noL d = true
  | [] => by simp [noLs]
  | d :: ds => by rw [noLs, Bool.and_eq_true, noLs_iff]; simp
theorem noLs_app {ds es : List PyData} (h1 : noLs ds = true) (h2 : noLs es = true) : noLs (ds ++ es) = true := by
  rw [noLs_iff] at *
  intro d hd
  rcases List.mem_append.mp hd with h | h
  · exact h1 d h
  · exact h2 d h
section
variable {K : PySem.W.Frag} {T : Tb} {H H1 : Hp} {D : Addr} {ys : List V} {o : HO}
theorem st_upd {p : Addr} {xs : List V} (hD : H D = some (.lst ys)) (h : SqT K H p xs) : SqT K (upd H D o) p xs := by
  rcases h with (h | ⟨o, h⟩) | h
  · exact .inl (.inl (by rw [upd_ne (ne_of h hD fun z => nomatch z)]; exact h))
  · exact .inl (.inr ⟨o, by rw [upd_ne (ne_of h hD fun z => nomatch z)]; exact h⟩)
  · exact .inr h
mutual
theorem dp_upd (hD : H D = some (.lst ys)) : ∀ {v : V} {d : PyData}, noL d = true → Dp K H v d → Dp K (upd H D o) v d
  | _, _, _, .non => .non
  | _, _, _, .bl b => .bl b
  | _, _, _, .int i => .int i
  | _, _, _, .str x => .str x
  | _, _, h, .lst s a => by simp [noL] at h
  | _, _, h, .tup s a => .tup (st_upd hD s) (dps_upd hD (by simpa [noL] using h) a)
theorem dps_upd (hD : H D = some (.lst ys)) : ∀ {vs : List V} {ds : List PyData}, noLs ds = true → DpAll K H vs ds → DpAll K (upd H D o) vs ds
  | _, _, _, .nil => .nil
  | _, _, h, .cons a b => .cons (dp_upd hD (by rw [noLs, Bool.and_eq_true] at h; exact h.1) a) (dps_upd hD (by rw [noLs, Bool.and_eq_true] at h; exact h.2) b)
end
end
/-! ### sorts and values as data -/
def dat : So → PyData
  | .mark ls => .tuple [.str "mark", .tuple (ls.map PyData.str)]
  | .count => .tuple [.str "count"]
  | .both a b => .tuple [.str "both", dat a, dat b]
  | .either a b => .tuple [.str "either", dat a, dat b]
  | .lane a => .tuple [.str "lane", dat a]
  | .heap a => .tuple [.str "heap", dat a]
def enc : (s : So) → Va s → PyData
  | .mark ls => fun (i : _root_.Fin ls.length) => .str (ls.get i)
  | .count => fun (n : Nat) => .int (n : Int)
  | .both a b => fun v => .tuple [enc a v.1, enc b v.2]
  | .either a b => fun v => match v with
    | .inl v => .tuple [.str "left", enc a v]
    | .inr v => .tuple [.str "right", enc b v]
  | .lane a => fun (v : List (Va a)) => .tuple (v.map (enc a))
  | .heap a => fun (v : List (Va a)) => .tuple (v.map (enc a))
theorem noL_dat : ∀ s : So, noL (dat s) = true
  | .mark ls => by
    have h : noLs (ls.map PyData.str) = true := noLs_iff.mpr fun d hd => by
      obtain ⟨x, _, rfl⟩ := List.mem_map.mp hd
      rfl
    simp [dat, noL, noLs, h]
  | .count => rfl
  | .both a b => by simp [dat, noL, noLs, noL_dat a, noL_dat b]
  | .either a b => by simp [dat, noL, noLs, noL_dat a, noL_dat b]
  | .lane a => by simp [dat, noL, noLs, noL_dat a]
  | .heap a => by simp [dat, noL, noLs, noL_dat a]
theorem noL_enc : ∀ (s : So) (v : Va s), noL (enc s v) = true
  | .mark ls, v => rfl
  | .count, v => rfl
  | .both a b, v => by simp [enc, noL, noLs, noL_enc a, noL_enc b]
  | .either a b, .inl v => by simp [enc, noL, noLs, noL_enc a]
  | .either a b, .inr v => by simp [enc, noL, noLs, noL_enc b]
  | .lane a, v => by
    show noLs (List.map (enc a) v) = true
    exact noLs_iff.mpr fun d hd => by
      obtain ⟨x, _, rfl⟩ := List.mem_map.mp hd
      exact noL_enc a x
  | .heap a, v => by
    show noLs (List.map (enc a) v) = true
    exact noLs_iff.mpr fun d hd => by
      obtain ⟨x, _, rfl⟩ := List.mem_map.mp hd
      exact noL_enc a x
theorem noLs_encs (s : So) (xs : List (Va s)) : noLs (xs.map (enc s)) = true := noLs_iff.mpr fun d hd => by
  obtain ⟨x, _, rfl⟩ := List.mem_map.mp hd
  exact noL_enc s x
theorem enc_nl (s : So) (v : Va s) : ∀ x, enc s v ≠ .list x := fun x e => by
  have := noL_enc s v
  rw [e] at this
  cases this
theorem dat_nl (s : So) : ∀ x, dat s ≠ .list x := fun x e => by
  have := noL_dat s
  rw [e] at this
  cases this
/-- how deep a sort is -/
def dep : So → Nat
  | .mark _ => 0
  | .count => 0
  | .both a b => max (dep a) (dep b) + 1
  | .either a b => max (dep a) (dep b) + 1
  | .lane a => dep a + 1
  | .heap a => dep a + 1
/-- letters are different -/
def Wf : So → Prop
  | .mark ls => ls.Nodup ∧ ls ≠ []
  | .count => True
  | .both a b => Wf a ∧ Wf b
  | .either a b => Wf a ∧ Wf b
  | .lane a => Wf a
  | .heap a => Wf a
/-- no row within is longer than n -/
def Sm (n : Nat) : (s : So) → Va s → Prop
  | .mark _ => fun _ => True
  | .count => fun _ => True
  | .both a b => fun v => Sm n a v.1 ∧ Sm n b v.2
  | .either a b => fun v => match v with
    | .inl v => Sm n a v
    | .inr v => Sm n b v
  | .lane a => fun (v : List (Va a)) => v.length ≤ n ∧ ∀ x ∈ v, Sm n a x
  | .heap a => fun (v : List (Va a)) => v.length ≤ n ∧ ∀ x ∈ v, Sm n a x


/-! ### a sort as it stands: the letters' tuple is known to the object -/
def Sv (K : PySem.W.Frag) (H : Hp) (v : V) : So → Prop
  | .mark ls => ∃ a b o, v = .ref a ∧ SqT K H a [.str "mark", .ref b] ∧ H b = some (.frz o (.tup (ls.map V.str))) ∧ o.dict = none
  | .count => ∃ a, v = .ref a ∧ SqT K H a [.str "count"]
  | .both x y => ∃ a u w, v = .ref a ∧ SqT K H a [.str "both", u, w] ∧ Sv K H u x ∧ Sv K H w y
  | .either x y => ∃ a u w, v = .ref a ∧ SqT K H a [.str "either", u, w] ∧ Sv K H u x ∧ Sv K H w y
  | .lane x => ∃ a u, v = .ref a ∧ SqT K H a [.str "lane", u] ∧ Sv K H u x
  | .heap x => ∃ a u, v = .ref a ∧ SqT K H a [.str "heap", u] ∧ Sv K H u x
section
variable {K : PySem.W.Frag} {T : Tb} {H H1 : Hp}
theorem dps_strs : ∀ ls : List Str, DpAll K H (ls.map V.str) (ls.map PyData.str)
  | [] => .nil
  | x :: ls => .cons (.str x) (dps_strs ls)
theorem Sv.dp : ∀ {s : So} {v : V}, Sv K H v s → Dp K H v (dat s)
  | .mark ls, v, h => by
    obtain ⟨a, b, o, rfl, h1, h2, _⟩ := h
    exact .tup h1 (.cons (.str _) (.cons (.tup (.inl (.inr ⟨o, h2⟩)) (dps_strs ls)) .nil))
  | .count, v, h => by
    obtain ⟨a, rfl, h1⟩ := h
    exact .tup h1 (.cons (.str _) .nil)
  | .both x y, v, h => by
    obtain ⟨a, u, w, rfl, h1, h2, h3⟩ := h
    exact .tup h1 (.cons (.str _) (.cons h2.dp (.cons h3.dp .nil)))
  | .either x y, v, h => by
    obtain ⟨a, u, w, rfl, h1, h2, h3⟩ := h
    exact .tup h1 (.cons (.str _) (.cons h2.dp (.cons h3.dp .nil)))
  | .lane x, v, h => by
    obtain ⟨a, u, rfl, h1, h2⟩ := h
    exact .tup h1 (.cons (.str _) (.cons h2.dp .nil))
  | .heap x, v, h => by
    obtain ⟨a, u, rfl, h1, h2⟩ := h
    exact .tup h1 (.cons (.str _) (.cons h2.dp .nil))
theorem Sv.ext (e : LamX.ExtN H H1) : ∀ {s : So} {v : V}, Sv K H v s → Sv K H1 v s
  | .mark ls, v, h => by
    obtain ⟨a, b, o, h0, h1, h2, h3⟩ := h
    exact ⟨a, b, o, h0, st_ext e h1, e _ _ h2 (fun _ z => nomatch z), h3⟩
  | .count, v, h => by
    obtain ⟨a, h0, h1⟩ := h
    exact ⟨a, h0, st_ext e h1⟩
  | .both x y, v, h => by
    obtain ⟨a, u, w, h0, h1, h2, h3⟩ := h
    exact ⟨a, u, w, h0, st_ext e h1, h2.ext e, h3.ext e⟩
  | .either x y, v, h => by
    obtain ⟨a, u, w, h0, h1, h2, h3⟩ := h
    exact ⟨a, u, w, h0, st_ext e h1, h2.ext e, h3.ext e⟩
  | .lane x, v, h => by
    obtain ⟨a, u, h0, h1, h2⟩ := h
    exact ⟨a, u, h0, st_ext e h1, h2.ext e⟩
  | .heap x, v, h => by
    obtain ⟨a, u, h0, h1, h2⟩ := h
    exact ⟨a, u, h0, st_ext e h1, h2.ext e⟩

/-- what a value is told to be: data, or a sort -/
inductive De where
  | d (x : PyData)
  | s (x : So)
instance : Coe PyData De := ⟨.d⟩
abbrev De.int (i : Int) : De := .d (.int i)
abbrev De.str (i : Str) : De := .d (.str i)
abbrev De.bool (i : Bool) : De := .d (.bool i)
abbrev De.none : De := .d .none
abbrev De.tuple (i : List PyData) : De := .d (.tuple i)
abbrev De.list (i : List PyData) : De := .d (.list i)
/-- data; a list is one of the call's own -/
def Dq (K : PySem.W.Frag) (H : Hp) (v : V) : De → Prop
  | .d (.list ds) => ∃ a xs, v = .ref a ∧ H a = some (.lst xs) ∧ DpAll K H xs ds
  | .d x => Dp K H v x
  | .s x => Sv K H v x
def De.dat : De → PyData
  | .d x => x
  | .s x => K16.dat x
theorem Dq.dp {v : V} {d : PyData} (h : Dq K H v (.d d)) : Dp K H v d := by
  cases d with
  | list ds =>
    obtain ⟨a, xs, rfl, h1, h2⟩ := h
    exact .lst (.of h1) h2
  | _ => exact h
theorem Dq.dpa {v : V} {d : De} (h : Dq K H v d) : Dp K H v d.dat := by
  cases d with
  | d x => exact Dq.dp h
  | s x => exact Sv.dp h
theorem dq_ext (e : LamX.ExtN H H1) {v : V} {d : De} (h : Dq K H v d) : Dq K H1 v d := by
  cases d with
  | s x => exact Sv.ext e h
  | d d =>
    cases d with
    | list ds =>
      obtain ⟨a, xs, rfl, h1, h2⟩ := h
      exact ⟨a, xs, rfl, e _ _ h1 (fun _ z => nomatch z), dps_ext e h2⟩
    | _ => exact dp_ext e h
theorem Dq.int {i : Int} : Dq K H (.int i) (.d (.int i)) := Dp.int i
theorem Dq.str {i : Str} : Dq K H (.str i) (.d (.str i)) := Dp.str i
theorem Dq.bl {i : Bool} : Dq K H (.bl i) (.d (.bool i)) := Dp.bl i
theorem Dq.non : Dq K H .non (.d .none) := Dp.non
theorem Dq.lst {a : Addr} {xs : List V} {ds : List PyData} (h : H a = some (.lst xs)) (hd : DpAll K H xs ds) : Dq K H (.ref a) (.d (.list ds)) := ⟨a, xs, rfl, h, hd⟩
theorem Dq.tup {a : Addr} {xs : List V} {ds : List PyData} (h : SqT K H a xs) (hd : DpAll K H xs ds) : Dq K H (.ref a) (.d (.tuple ds)) := Dp.tup h hd
theorem Dq.of {v : V} {d : PyData} (h : Dp K H v d) (hn : ∀ x, d ≠ .list x) : Dq K H v (.d d) := by
  cases d with
  | list x => exact absurd rfl (hn x)
  | _ => exact h
abbrev DqA (K : PySem.W.Frag) (H : Hp) : List V → List De → Prop := F2 (Dq K H)
theorem dqa_dps : ∀ {vs : List V} {ds : List De}, DqA K H vs ds → DpAll K H vs (ds.map De.dat)
  | _, _, .nil => .nil
  | _, _, .cons a b => .cons a.dpa (dqa_dps b)
theorem dqa_ext (e : LamX.ExtN H H1) {vs : List V} {ds : List De} (h : DqA K H vs ds) : DqA K H1 vs ds := F2.imp (fun _ _ => dq_ext e) h
end

/-! ### what an expression comes to -/
section
variable (K : PySem.W.Frag) (T : Tb)
def EvP (te : TE) (σ : L2.St) (H : Hp) (P : De → Prop) : Prop := ∀ H1, Gr T H H1 → ∀ Q : VK, (∀ v d H2, Gr T H1 H2 → Dq K H2 v d → P d → Q v H2) → te σ H1 Q
def EvD (te : TE) (σ : L2.St) (H : Hp) (d : De) : Prop := EvP K T te σ H fun x => x = d
def EvB (t : TT) (σ : L2.St) (H : Hp) (b : Bool) : Prop := ∀ H1, Gr T H H1 → ∀ Q : Bool → Hp → Prop, (∀ H2, Gr T H1 H2 → Q b H2) → t σ H1 Q
def EvA (ta : TA) (σ : L2.St) (H : Hp) (ds : List De) : Prop := ∀ H1, Gr T H H1 → ∀ Q : List V → Hp → Prop, (∀ vs H2, Gr T H1 H2 → DqA K H2 vs ds → Q vs H2) → ta σ H1 Q
/-- a new list -/
def EvL (te : TE) (σ : L2.St) (H : Hp) (ds : List PyData) : Prop := ∀ H1, Gr T H H1 → ∀ Q : VK, (∀ p xs H2, Nw H1 p → Gr T H1 H2 → H2 p = some (.lst xs) → DpAll K H2 xs ds → Q (.ref p) H2) → te σ H1 Q
/-- a body that hands back -/
def RetP (ts : TS) (σ : L2.St) (H : Hp) (P : De → Prop) : Prop := ∀ H1, Gr T H H1 → ∀ D : Ends, (∀ v d H2, Gr T H1 H2 → Dq K H2 v d → P d → D.rt v H2) → ts D σ H1
def RetD (ts : TS) (σ : L2.St) (H : Hp) (d : De) : Prop := RetP K T ts σ H fun x => x = d
end
section
variable {K : PySem.W.Frag} {T : Tb} {H H1 : Hp} {σ : L2.St} {ta tb te tc : TE} {t u : TT} {tA : TA} {ts tr tq : TS} {d e d1 d2 : De} {ds es : List PyData} {as : List De} {b c : Bool} {P : De → Prop} {v : V} {i : Nat}
theorem EvP.mono (h : EvP K T te σ H P) (g : Gr T H H1) : EvP K T te σ H1 P := fun H2 g2 => h H2 (g.trans g2)
theorem EvD.mono (h : EvD K T te σ H d) (g : Gr T H H1) : EvD K T te σ H1 d := fun H2 g2 => h H2 (g.trans g2)
theorem EvB.mono (h : EvB T t σ H b) (g : Gr T H H1) : EvB T t σ H1 b := fun H2 g2 => h H2 (g.trans g2)
theorem EvL.mono (h : EvL K T te σ H ds) (g : Gr T H H1) : EvL K T te σ H1 ds := fun H2 g2 => h H2 (g.trans g2)
theorem EvD.run (h : EvD K T te σ H d) (g : Gr T H H1) {Q : VK} (q : ∀ v H2, Gr T H1 H2 → Dq K H2 v d → Q v H2) : te σ H1 Q := h H1 g Q fun v x H2 g2 hv e => q v H2 g2 (e ▸ hv)
theorem EvD.of (h : ∀ H1, Gr T H H1 → ∀ Q : VK, (∀ v H2, Gr T H1 H2 → Dq K H2 v d → Q v H2) → te σ H1 Q) : EvD K T te σ H d := fun H1 g Q q => h H1 g Q fun v H2 g2 hv => q v d H2 g2 hv rfl
theorem EvP.imp {P' : De → Prop} (h : EvP K T te σ H P) (f : ∀ d, P d → P' d) : EvP K T te σ H P' := fun H1 g Q q => h H1 g Q fun v d H2 g2 hv p => q v d H2 g2 hv (f d p)
theorem EvD.toP (h : EvD K T te σ H d) (hp : P d) : EvP K T te σ H P := EvP.imp h fun _ e => e ▸ hp
theorem EvL.toD (h : EvL K T te σ H ds) : EvD K T te σ H (.list ds) := .of fun H1 g Q q => h H1 g Q fun p xs H2 hp g2 h1 h2 => q _ H2 g2 (.lst h1 h2)
theorem EvD.is (h : EvD K T te σ H d) (e : d = d1) : EvD K T te σ H d1 := e ▸ h
theorem EvB.is (h : EvB T t σ H b) (e : b = c) : EvB T t σ H c := e ▸ h
theorem EvL.is (h : EvL K T te σ H ds) (e : ds = es) : EvL K T te σ H es := e ▸ h
theorem ed_var (h : σ[i]? = some (some v)) (hv : Dq K H v d) : EvD K T (tVar i) σ H d := .of fun H1 g Q q => ⟨v, h, q v H1 g.self (dq_ext g.ext hv)⟩
theorem ed_c (hv : ∀ H1, Gr T H H1 → Dq K H1 v d) : EvD K T (tC v) σ H d := .of fun H1 g Q q => q v H1 g.self (hv H1 g)
theorem ed_int {n : Int} : EvD K T (tC (.int n)) σ H (.int n) := ed_c fun _ _ => .int
theorem ed_str {x : Str} : EvD K T (tC (.str x)) σ H (.str x) := ed_c fun _ _ => .str
theorem ed_bl {x : Bool} : EvD K T (tC (.bl x)) σ H (.bool x) := ed_c fun _ _ => .bl
theorem ed_non : EvD K T (tC .non) σ H .none := ed_c fun _ _ => .non
theorem ea_nil : EvA K T tNil σ H [] := fun H1 g Q q => q [] H1 g.self .nil
theorem ea_cons (h : EvD K T ta σ H d) (hr : EvA K T tA σ H as) : EvA K T (tCons ta tA) σ H (d :: as) := fun H1 g Q q =>
  h.run g fun v H2 g2 hv => hr H2 (g.trans g2) _ fun vs H3 g3 hvs => q _ H3 (g2.trans g3) (.cons (dq_ext g3.ext hv) hvs)
theorem ed_tup (h : EvA K T tA σ H as) (e : as.map De.dat = ds) (hl : ds.length ≤ 100000) : EvD K T (tTup tA) σ H (.tuple ds) := .of fun H1 g Q q =>
  h H1 g _ fun vs H2 g2 hvs => ⟨Nat.le_trans (by rw [F2.length hvs, ← List.length_map (f := De.dat), e]; exact hl) (by decide), fun p hp => q _ _ (g2.add hp) (.tup (.of upd_same) (by rw [← e]; exact dps_ext (Gr.new (T := T) g2.tab hp).ext (dqa_dps hvs)))⟩
theorem el_lst (h : EvA K T tA σ H as) (e : as.map De.dat = ds) (hl : ds.length ≤ 100000) : EvL K T (tLst tA) σ H ds := fun H1 g Q q =>
  h H1 g _ fun vs H2 g2 hvs => ⟨Nat.le_trans (by rw [F2.length hvs, ← List.length_map (f := De.dat), e]; exact hl) (by decide), fun p hp => q p vs _ (g2.nn (nw_none hp)) (g2.add hp) upd_same (by rw [← e]; exact dps_ext (Gr.new (T := T) g2.tab hp).ext (dqa_dps hvs))⟩
/-- operators on scalars -/
theorem ed_op {r : R2} {x y z : V} (ha : EvD K T ta σ H d1) (hb : EvD K T tb σ H d2) (hx : ∀ H v, Dq K H v d1 → v = x) (hy : ∀ H v, Dq K H v d2 → v = y) (hz : ∀ H, Dq K H z d) (hr : ∀ H (Q : VK), Q z H → r x y H Q) : EvD K T (tOp r ta tb) σ H d := .of fun H1 g Q q =>
  ha.run g fun v H2 g2 hv => hb.run (g.trans g2) fun w H3 g3 hw => by
    obtain rfl := hx _ _ hv
    obtain rfl := hy _ _ hw
    exact hr H3 Q (q z H3 (g2.trans g3) (hz H3))
theorem dq_int {v : V} {i : Int} (h : Dq K H v (.int i)) : v = .int i := dp_int h
theorem dq_str {v : V} {i : Str} (h : Dq K H v (.str i)) : v = .str i := dp_str h
theorem dq_bl {v : V} {i : Bool} (h : Dq K H v (.bool i)) : v = .bl i := dp_bl h
theorem dq_non {v : V} (h : Dq K H v .none) : v = .non := dp_non h
theorem ed_I0 {g : Int → Int → V} {a b : Int} (ha : EvD K T ta σ H (.int a)) (hb : EvD K T tb σ H (.int b)) (hz : ∀ H, Dq K H (g a b) d) : EvD K T (tOp (rI0 g) ta tb) σ H d :=
  ed_op ha hb (fun _ _ => dq_int) (fun _ _ => dq_int) hz fun _ _ q => ⟨a, b, rfl, rfl, q⟩
theorem ed_I {C : Int → Int → Prop} {g : Int → Int → V} {a b : Int} (ha : EvD K T ta σ H (.int a)) (hb : EvD K T tb σ H (.int b)) (hc : C a b) (hz : ∀ H, Dq K H (g a b) d) : EvD K T (tOp (rI C g) ta tb) σ H d :=
  ed_op ha hb (fun _ _ => dq_int) (fun _ _ => dq_int) hz fun _ _ q => ⟨a, b, rfl, rfl, hc, q⟩
theorem ed_eqS {x y : Str} (ha : EvD K T ta σ H (.str x)) (hb : EvD K T tb σ H (.str y)) : EvD K T (tOp rEq ta tb) σ H (.bool (decide (x = y))) :=
  ed_op ha hb (fun _ _ => dq_str) (fun _ _ => dq_str) (fun _ => .bl) fun _ _ q => ⟨rfl, by
    have e : decide ((V.str x) = V.str y) = decide (x = y) := by
      by_cases c : x = y
      · simp [c]
      · rw [decide_eq_false c, decide_eq_false fun z => c (V.str.inj z)]
    rw [e]
    exact q⟩
theorem ed_eqI {x y : Int} (ha : EvD K T ta σ H (.int x)) (hb : EvD K T tb σ H (.int y)) : EvD K T (tOp rEq ta tb) σ H (.bool (decide (x = y))) :=
  ed_op ha hb (fun _ _ => dq_int) (fun _ _ => dq_int) (fun _ => .bl) fun _ _ q => ⟨rfl, by
    have e : decide ((V.int x) = V.int y) = decide (x = y) := by
      by_cases c : x = y
      · simp [c]
      · rw [decide_eq_false c, decide_eq_false fun z => c (V.int.inj z)]
    rw [e]
    exact q⟩
theorem ed_neI {x y : Int} (ha : EvD K T ta σ H (.int x)) (hb : EvD K T tb σ H (.int y)) : EvD K T (tOp rNe ta tb) σ H (.bool (!decide (x = y))) :=
  ed_op ha hb (fun _ _ => dq_int) (fun _ _ => dq_int) (fun _ => .bl) fun _ _ q => ⟨rfl, by
    have e : decide ((V.int x) = V.int y) = decide (x = y) := by
      by_cases c : x = y
      · simp [c]
      · rw [decide_eq_false c, decide_eq_false fun z => c (V.int.inj z)]
    rw [e]
    exact q⟩
theorem ed_neB {x y : Bool} (ha : EvD K T ta σ H (.bool x)) (hb : EvD K T tb σ H (.bool y)) : EvD K T (tOp rNe ta tb) σ H (.bool (x != y)) :=
  ed_op ha hb (fun _ _ => dq_bl) (fun _ _ => dq_bl) (fun _ => .bl) fun _ _ q => ⟨rfl, by
    have e : (!decide ((V.bl x) = V.bl y)) = (x != y) := by cases x <;> cases y <;> rfl
    rw [e]
    exact q⟩
theorem at_nat {A : Type} {xs : List A} {n : Nat} {x : A} (h : xs[n]? = some x) : atI xs (n : Int) = some x := atI_nat h
/-- an item of a tuple, of a list -/
theorem ed_ixT {n : Nat} {dd : PyData} (ha : EvD K T ta σ H (.tuple ds)) (hb : EvD K T tb σ H (.int (n : Int))) (h : ds[n]? = some dd) (hd : ∀ x, dd ≠ .list x) : EvD K T (tOp (rIxT K) ta tb) σ H (.d dd) := .of fun H1 g Q q =>
  ha.run g fun v H2 g2 hv => hb.run (g.trans g2) fun w H3 g3 hw => by
    obtain ⟨a, xs, rfl, h1, h2⟩ := dp_tup (dq_ext g3.ext hv).dp
    obtain rfl := dq_int hw
    obtain ⟨x, h3, h4⟩ := dps_at' h2 h
    exact ⟨a, xs, (n : Int), x, rfl, rfl, h1, at_nat h3, q x H3 (g2.trans g3) (.of h4 hd)⟩
theorem ed_ixL {n : Nat} (ha : EvD K T ta σ H (.list ds)) (hb : EvD K T tb σ H (.int (n : Int))) {dd : PyData} (h : ds[n]? = some dd) (hd : ∀ x, dd ≠ .list x) : EvD K T (tOp (rIxL K) ta tb) σ H (.d dd) := .of fun H1 g Q q =>
  ha.run g fun v H2 g2 hv => hb.run (g.trans g2) fun w H3 g3 hw => by
    obtain ⟨a, xs, rfl, h1, h2⟩ := dp_lst (dq_ext g3.ext hv).dp
    obtain rfl := dq_int hw
    obtain ⟨x, h3, h4⟩ := dps_at' h2 h
    exact ⟨a, xs, (n : Int), x, rfl, rfl, h1, at_nat h3, q x H3 (g2.trans g3) (.of h4 hd)⟩
theorem ed_if (h : EvB T t σ H b) (h1 : b = true → EvP K T ta σ H P) (h2 : b = false → EvP K T tb σ H P) : EvP K T (tIf t ta tb) σ H P := fun H1 g Q q => h H1 g _ fun H2 g2 => by
  cases b with
  | true =>
    show ta σ H2 Q
    exact h1 rfl H2 (g.trans g2) Q fun v d H3 g3 => q v d H3 (g2.trans g3)
  | false =>
    show tb σ H2 Q
    exact h2 rfl H2 (g.trans g2) Q fun v d H3 g3 => q v d H3 (g2.trans g3)
theorem ed_and (h1 : EvD K T ta σ H (.bool b)) (h2 : b = true → EvD K T tb σ H (.bool c)) : EvD K T (tAndV ta tb) σ H (.bool (b && c)) := .of fun H1 g Q q =>
  h1.run g fun v H2 g2 hv => ⟨b, dq_bl hv, by
    cases b with
    | true =>
      show tb σ H2 Q
      exact (h2 rfl).run (g.trans g2) fun w H3 g3 hw => q w H3 (g2.trans g3) hw
    | false => exact q _ H2 g2 .bl⟩
theorem ed_or (h1 : EvD K T ta σ H (.bool b)) (h2 : b = false → EvD K T tb σ H (.bool c)) : EvD K T (tOrV ta tb) σ H (.bool (b || c)) := .of fun H1 g Q q =>
  h1.run g fun v H2 g2 hv => ⟨b, dq_bl hv, by
    cases b with
    | true => exact q _ H2 g2 .bl
    | false =>
      show tb σ H2 Q
      exact (h2 rfl).run (g.trans g2) fun w H3 g3 hw => q w H3 (g2.trans g3) hw⟩
theorem ed_not (h1 : EvD K T ta σ H (.bool b)) : EvD K T (tNotV ta) σ H (.bool (!b)) := .of fun H1 g Q q => h1.run g fun v H2 g2 hv => ⟨b, dq_bl hv, q _ H2 g2 .bl⟩
theorem eb_val (h : EvD K T te σ H (.bool b)) : EvB T (tB te) σ H b := fun H1 g Q q => h.run g fun v H2 g2 hv => ⟨b, dq_bl hv, q H2 g2⟩
theorem eb_test (h : EvD K T te σ H (.bool b)) : EvB T (tTest te) σ H b := fun H1 g Q q => h.run g fun v H2 g2 hv => ⟨b, dq_bl hv, q H2 g2⟩
theorem eb_and (h1 : EvB T t σ H b) (h2 : b = true → EvB T u σ H c) : EvB T (tAnd t u) σ H (b && c) := fun H1 g Q q => h1 H1 g _ fun H2 g2 => by
  cases b with
  | true =>
    show u σ H2 Q
    exact h2 rfl H2 (g.trans g2) Q fun H3 g3 => q H3 (g2.trans g3)
  | false => exact q H2 g2
theorem eb_or (h1 : EvB T t σ H b) (h2 : b = false → EvB T u σ H c) : EvB T (tOr t u) σ H (b || c) := fun H1 g Q q => h1 H1 g _ fun H2 g2 => by
  cases b with
  | true => exact q H2 g2
  | false =>
    show u σ H2 Q
    exact h2 rfl H2 (g.trans g2) Q fun H3 g3 => q H3 (g2.trans g3)
theorem eb_not (h1 : EvB T t σ H b) : EvB T (tNot t) σ H (!b) := fun H1 g Q q => h1 H1 g _ fun H2 g2 => q H2 g2
/-- len of a tuple, of a list -/
theorem ed_lenT (ha : EvD K T ta σ H (.tuple ds)) : EvD K T (tCB (fun xs H Q => ∃ p n, xs = [V.ref p] ∧ ((SqL K H p n) ∨ SqT K H p n) ∧ Q (.int n.length) H) (tCons ta tNil)) σ H (.int ds.length) := .of fun H1 g Q q =>
  ha.run g fun v H2 g2 hv => by
    obtain ⟨a, xs, rfl, h1, h2⟩ := dp_tup hv.dp
    refine ⟨a, xs, rfl, .inr h1, q _ H2 g2 ?_⟩
    rw [dps_len h2]
    exact .int
theorem ed_lenL (ha : EvD K T ta σ H (.list ds)) : EvD K T (tCB (fun xs H Q => ∃ p n, xs = [V.ref p] ∧ ((SqL K H p n) ∨ SqT K H p n) ∧ Q (.int n.length) H) (tCons ta tNil)) σ H (.int ds.length) := .of fun H1 g Q q =>
  ha.run g fun v H2 g2 hv => by
    obtain ⟨a, xs, rfl, h1, h2⟩ := dp_lst hv.dp
    refine ⟨a, xs, rfl, .inl h1, q _ H2 g2 ?_⟩
    rw [dps_len h2]
    exact .int

/-! ### statements -/
theorem RetP.mono (h : RetP K T ts σ H P) (g : Gr T H H1) : RetP K T ts σ H1 P := fun H2 g2 => h H2 (g.trans g2)
theorem rd_ret (h : EvP K T te σ H P) : RetP K T (tRet te) σ H P := fun H1 g D q => h H1 g _ q
theorem rd_if (h : EvB T t σ H b) (h1 : b = true → RetP K T ts σ H P) (h2 : b = false → RetP K T tr σ H P) : RetP K T (tSeq (tIfS t ts tNext) tr) σ H P := fun H1 g D q => h H1 g _ fun H2 g2 => by
  cases b with
  | true =>
    show ts _ σ H2
    exact h1 rfl H2 (g.trans g2) _ fun v d H3 g3 => q v d H3 (g2.trans g3)
  | false =>
    show tr D σ H2
    exact h2 rfl H2 (g.trans g2) D fun v d H3 g3 => q v d H3 (g2.trans g3)
theorem rd_setP {P' : De → Prop} (h : EvP K T te σ H P') (k : ∀ v d H1, Gr T H H1 → Dq K H1 v d → P' d → RetP K T tr (σ.set i (some v)) H1 P) : RetP K T (tSeq (tAsg te (gName i)) tr) σ H P := fun H1 g D q =>
  h H1 g _ fun v d H2 g2 hv hd => k v d H2 (g.trans g2) hv hd H2 g2.self D fun w e H3 g3 => q w e H3 (g2.trans g3)
theorem rd_set (h : EvD K T te σ H d1) (k : ∀ v H1, Gr T H H1 → Dq K H1 v d1 → RetP K T tr (σ.set i (some v)) H1 P) : RetP K T (tSeq (tAsg te (gName i)) tr) σ H P :=
  rd_setP h fun v d H1 g hv e => k v H1 g (e ▸ hv)
end
end K16

end K16WText
section K16VText
set_option autoImplicit false
set_option linter.all false
set_option maxRecDepth 100000
set_option Elab.async false
namespace K16
open PySem PySem.Spec PyProof.Rows L2

section
variable {K : PySem.W.Frag} {T : Tb} {H H1 : Hp} {D : Addr} {ys : List V} {o : HO}
/-- an element of the list at D: without lists, or a list of its own -/
def El (K : PySem.W.Frag) (Hb H : Hp) (D : Addr) (v : V) (d : PyData) : Prop :=
  (noL d = true ∧ Dp K H v d) ∨ ∃ p xs es, v = .ref p ∧ d = .list es ∧ (p ≠ D ∧ Nw Hb p) ∧ H p = some (.lst xs) ∧ DpAll K H xs es ∧ noLs es = true
theorem El.dp {Hb : Hp} {v : V} {d : PyData} (h : El K Hb H D v d) : Dp K H v d := by
  rcases h with ⟨_, h⟩ | ⟨p, xs, es, rfl, rfl, _, h1, h2, _⟩
  · exact h
  · exact .lst (.of h1) h2
theorem El.ext {Hb : Hp} (e : LamX.ExtN H H1) {v : V} {d : PyData} (h : El K Hb H D v d) : El K Hb H1 D v d := by
  rcases h with ⟨a, h⟩ | ⟨p, xs, es, e1, e2, n, h1, h2, h3⟩
  · exact .inl ⟨a, dp_ext e h⟩
  · exact .inr ⟨p, xs, es, e1, e2, n, e _ _ h1 (fun _ z => nomatch z), dps_ext e h2, h3⟩
theorem El.upd {Hb : Hp} {v : V} {d : PyData} (hD : H D = some (.lst ys)) (h : El K Hb H D v d) : El K Hb (upd H D o) D v d := by
  rcases h with ⟨a, h⟩ | ⟨p, xs, es, e1, e2, n, h1, h2, h3⟩
  · exact .inl ⟨a, dp_upd hD a h⟩
  · exact .inr ⟨p, xs, es, e1, e2, n, by rw [upd_ne n.1]; exact h1, dps_upd hD h3 h2, h3⟩
abbrev Els (K : PySem.W.Frag) (Hb H : Hp) (D : Addr) : List V → List PyData → Prop := F2 (El K Hb H D)
theorem els_dps {Hb : Hp} : ∀ {vs : List V} {ds : List PyData}, Els K Hb H D vs ds → DpAll K H vs ds
  | _, _, .nil => .nil
  | _, _, .cons a b => .cons a.dp (els_dps b)
theorem els_of {Hb : Hp} : ∀ {vs : List V} {ds : List PyData}, noLs ds = true → DpAll K H vs ds → Els K Hb H D vs ds
  | _, _, _, .nil => .nil
  | _, _, h, .cons a b => .cons (.inl ⟨by rw [noLs, Bool.and_eq_true] at h; exact h.1, a⟩) (els_of (by rw [noLs, Bool.and_eq_true] at h; exact h.2) b)
/-- how an element comes about -/
def EvE (K : PySem.W.Frag) (T : Tb) (te : TE) (σ : L2.St) (H : Hp) (d : PyData) : Prop := (noL d = true ∧ EvD K T te σ H (.d d)) ∨ ∃ es, d = .list es ∧ noLs es = true ∧ EvL K T te σ H es
theorem EvD.e {te : TE} {σ : L2.St} {d : PyData} (h : EvD K T te σ H (.d d)) (hd : noL d = true) : EvE K T te σ H d := .inl ⟨hd, h⟩
theorem EvL.e {te : TE} {σ : L2.St} {es : List PyData} (h : EvL K T te σ H es) (hd : noLs es = true) : EvE K T te σ H (.list es) := .inr ⟨es, rfl, hd, h⟩
theorem EvE.run {te : TE} {σ : L2.St} {d : PyData} {H2 : Hp} (h : EvE K T te σ H d) (g : Gr T H H1) (hD : H1 D = some (.lst ys)) {Q : VK} (q : ∀ v H2, Gr T H1 H2 → El K H H2 D v d → Q v H2) : te σ H1 Q := by
  rcases h with ⟨a, h⟩ | ⟨es, rfl, a, h⟩
  · exact h.run g fun v H2 g2 hv => q v H2 g2 (.inl ⟨a, hv.dp⟩)
  · exact h H1 g Q fun p xs H2 hp g2 h1 h2 => q _ H2 g2 (.inr ⟨p, xs, es, rfl, rfl, ⟨Ne.symm (hp.ne hD fun _ z => by cases z), g.nn hp⟩, h1, h2, a⟩)
/-- a comprehension's list so far -/
def Cw (K : PySem.W.Frag) (T : Tb) (H1 : Hp) (D : Addr) (ds : List PyData) (H' : Hp) : Prop := Nw H1 D ∧ Gr T H1 H' ∧ ∃ acc, H' D = some (.lst acc) ∧ Els K H1 H' D acc ds
theorem Cw.start (h : LamX.Tabs T H1) (hD : H1 D = none) : Cw K T H1 D [] (upd H1 D (.lst [])) := ⟨nw_none hD, .new h hD, [], upd_same, .nil⟩
theorem Cw.turn {tt : TT} {te : TE} {σ : L2.St} {H' : Hp} {ds : List PyData} {d : PyData} {b : Bool} (c : Cw K T H1 D ds H') (hl : ds.length < 100000) (ht : EvB T tt σ H1 b) (he : b = true → EvE K T te σ H1 d) :
    tt σ H' fun bb H3 => if bb = true then te σ H3 fun y H4 => ∃ acc, H4 D = some (.lst acc) ∧ acc.length < sizeLine ∧ Cw K T H1 D (if b = true then ds ++ [d] else ds) (upd H4 D (.lst (acc ++ [y]))) else Cw K T H1 D (if b = true then ds ++ [d] else ds) H3 := by
  obtain ⟨hD, g, acc, h1, h2⟩ := c
  refine ht H' g _ fun H3 g3 => ?_
  have e3 : H3 D = some (.lst acc) := g3.stay h1 True.intro
  cases b with
  | false =>
    show Cw K T H1 D ds H3
    exact ⟨hD, g.trans g3, acc, e3, F2.imp (fun _ _ => El.ext g3.ext) h2⟩
  | true =>
    show te σ H3 fun y H4 => ∃ acc, H4 D = some (.lst acc) ∧ acc.length < sizeLine ∧ Cw K T H1 D (ds ++ [d]) (upd H4 D (.lst (acc ++ [y])))
    refine (he rfl).run (H2 := H3) (g.trans g3) e3 fun v H4 g4 hv => ⟨acc, g4.stay e3 True.intro, ?_, hD, ((g.trans g3).trans g4).mut hD (g4.stay e3 True.intro) True.intro, _, upd_same, ?_⟩
    · rw [F2.length h2]
      exact Nat.lt_of_lt_of_le hl (by decide)
    · have e4 : H4 D = some (.lst acc) := g4.stay e3 True.intro
      exact F2.app (F2.imp (fun _ _ h => El.upd e4 (El.ext (g3.trans g4).ext h)) h2) (.cons (El.upd e4 hv) .nil)
end

/-! ### comprehensions -/
/-- data, told weakly: a list may be another's -/
def EvW (K : PySem.W.Frag) (T : Tb) (te : TE) (σ : L2.St) (H : Hp) (d : PyData) : Prop := ∀ H1, Gr T H H1 → ∀ Q : VK, (∀ v H2, Gr T H1 H2 → Dp K H2 v d → Q v H2) → te σ H1 Q
theorem EvD.w {K : PySem.W.Frag} {T : Tb} {te : TE} {σ : L2.St} {H : Hp} {d : PyData} (h : EvD K T te σ H (.d d)) : EvW K T te σ H d := fun H1 g Q q => h.run g fun v H2 g2 hv => q v H2 g2 hv.dp
theorem ew_var {K : PySem.W.Frag} {T : Tb} {σ : L2.St} {H : Hp} {d : PyData} {i : Nat} {v : V} (h : σ[i]? = some (some v)) (hv : Dp K H v d) : EvW K T (tVar i) σ H d := fun H1 g Q q => ⟨v, h, q v H1 g.self (dp_ext g.ext hv)⟩
/-- a new list; its items' own lists are new too -/
def EvLs (K : PySem.W.Frag) (T : Tb) (te : TE) (σ : L2.St) (H : Hp) (ds : List PyData) : Prop := ∀ H1, Gr T H H1 → ∀ Q : VK, (∀ p xs H2, Nw H1 p → Gr T H1 H2 → H2 p = some (.lst xs) → Els K H1 H2 p xs ds → Q (.ref p) H2) → te σ H1 Q
theorem EvLs.toL {K : PySem.W.Frag} {T : Tb} {te : TE} {σ : L2.St} {H : Hp} {ds : List PyData} (h : EvLs K T te σ H ds) : EvL K T te σ H ds := fun H1 g Q q => h H1 g Q fun p xs H2 a b c d => q p xs H2 a b c (els_dps d)
theorem El.base {K : PySem.W.Frag} {T : Tb} {Hb Hc H : Hp} {D : Addr} {v : V} {d : PyData} (g : Gr T Hb Hc) (h : El K Hc H D v d) : El K Hb H D v d := by
  rcases h with h | ⟨p, xs, es, e1, e2, n, r⟩
  · exact .inl h
  · exact .inr ⟨p, xs, es, e1, e2, ⟨n.1, g.nn n.2⟩, r⟩
section
variable {K : PySem.W.Frag} {T : Tb} {H : Hp} {σ : L2.St} {A : Type} {tl te : TE} {tt : TT} {vs : List Nat} {j : Nat}
theorem take_filter_map {xs : List A} {p : A → Bool} {g : A → PyData} {i : Nat} {x : A} (h : xs[i]? = some x) : ((xs.take (i + 1)).filter p).map g = if p x = true then ((xs.take i).filter p).map g ++ [g x] else ((xs.take i).filter p).map g := by
  rw [List.take_add_one, h]
  simp only [Option.toList_some, List.filter_append, List.map_append]
  cases e : p x with
  | false => simp [List.filter_cons, e]
  | true => simp [List.filter_cons, e]
theorem len_tfm (xs : List A) (p : A → Bool) (g : A → PyData) (i : Nat) : (((xs.take i).filter p).map g).length ≤ xs.length := by
  rw [List.length_map]
  refine Nat.le_trans (List.length_filter_le _ _) ?_
  rw [List.length_take]
  exact Nat.min_le_right _ _
/-- over a list; f says what the items are, p what is kept, g what comes of it; the target of any form -/
theorem el_lcGs {tg : TG} (xs : List A) (f : A → PyData) (p : A → Bool) (g : A → PyData) (hs : EvW K T tl σ H (.list (xs.map f))) (hl : xs.length < 100000)
    (ht : ∀ (i : Nat) (x : A), xs[i]? = some x → ∀ v H1 H2, Gr T H H1 → Dp K H1 v (f x) → Gr T H1 H2 → ∀ R : L2.St → Hp → Prop, (∀ σ2, EvB T tt σ2 H1 (p x) → (p x = true → EvE K T te σ2 H1 (g x)) → wipe σ2 vs = wipe σ vs → R σ2 H2) → tg v (wipe σ vs) H2 R) :
    EvLs K T (tLc (iList K tl) tg tt te vs) σ H ((xs.filter p).map g) := fun H0 g0 Q q => hs H0 g0 _ fun v H1 g1 hv => by
  obtain ⟨a, ys, rfl, h1, h2⟩ := dp_lst hv
  have hlen : ys.length = xs.length := by rw [dps_len h2, List.length_map]
  refine ⟨a, rfl, ⟨ys, h1⟩, fun D hD => lc_list (xs := ys) (fun i H' => Cw K T H1 D (((xs.take i).filter p).map g) H') (by simpa using Cw.start g1.tab hD) (fun i H' _ c => sq_ext c.2.1.ext h1) (fun i y H' hi c => ?_) fun H' c => ?_⟩
  · obtain ⟨d, hd, hy⟩ := dps_at h2 hi
    rw [List.getElem?_map] at hd
    cases ex : xs[i]? with
    | none => rw [ex] at hd; cases hd
    | some x =>
      rw [ex] at hd
      obtain rfl : f x = d := Option.some.inj hd
      refine ht i x ex y H1 H' (g0.trans g1) hy c.2.1 _ fun σ2 k1 k2 k3 => ⟨k3, ?_⟩
      rw [take_filter_map ex]
      have z := Cw.turn (d := g x) c (Nat.lt_of_le_of_lt (len_tfm xs p g i) hl) k1 k2
      exact z
  · rw [hlen, List.take_length] at c
    obtain ⟨hD, gg, acc, e1, e2⟩ := c
    exact q D acc H' (g1.nn hD) (g1.trans gg) e1 (F2.imp (fun _ _ h => El.base (T := T) g1 h) e2)
theorem el_lcG {tg : TG} (xs : List A) (f : A → PyData) (p : A → Bool) (g : A → PyData) (hs : EvD K T tl σ H (.list (xs.map f))) (hl : xs.length < 100000)
    (ht : ∀ (i : Nat) (x : A), xs[i]? = some x → ∀ v H1 H2, Gr T H H1 → Dp K H1 v (f x) → Gr T H1 H2 → ∀ R : L2.St → Hp → Prop, (∀ σ2, EvB T tt σ2 H1 (p x) → (p x = true → EvE K T te σ2 H1 (g x)) → wipe σ2 vs = wipe σ vs → R σ2 H2) → tg v (wipe σ vs) H2 R) :
    EvL K T (tLc (iList K tl) tg tt te vs) σ H ((xs.filter p).map g) := (el_lcGs xs f p g hs.w hl ht).toL
theorem el_lcL (xs : List A) (f : A → PyData) (p : A → Bool) (g : A → PyData) (hs : EvD K T tl σ H (.list (xs.map f))) (hl : xs.length < 100000) (hw : ∀ v, wipe ((wipe σ vs).set j (some v)) vs = wipe σ vs)
    (ht : ∀ (i : Nat) (x : A), xs[i]? = some x → ∀ v H1, Gr T H H1 → Dp K H1 v (f x) → EvB T tt ((wipe σ vs).set j (some v)) H1 (p x))
    (he : ∀ (i : Nat) (x : A), xs[i]? = some x → p x = true → ∀ v H1, Gr T H H1 → Dp K H1 v (f x) → EvE K T te ((wipe σ vs).set j (some v)) H1 (g x)) :
    EvL K T (tLc (iList K tl) (gName j) tt te vs) σ H ((xs.filter p).map g) :=
  el_lcG xs f p g hs hl fun i x hx v H1 H2 g1 hv g2 R r => r _ (ht i x hx v H1 g1 hv) (fun hp => he i x hx hp v H1 g1 hv) (hw v)
theorem eb_yes : EvB T tYes σ H true := fun H1 g Q q => q H1 g.self
/-- without a test -/
theorem el_lcM (xs : List A) (f : A → PyData) (g : A → PyData) (hs : EvD K T tl σ H (.list (xs.map f))) (hl : xs.length < 100000) (hw : ∀ v, wipe ((wipe σ vs).set j (some v)) vs = wipe σ vs)
    (he : ∀ (i : Nat) (x : A), xs[i]? = some x → ∀ v H1, Gr T H H1 → Dp K H1 v (f x) → EvE K T te ((wipe σ vs).set j (some v)) H1 (g x)) :
    EvL K T (tLc (iList K tl) (gName j) tYes te vs) σ H (xs.map g) := by
  have q := el_lcL (tt := tYes) xs f (fun _ => true) g hs hl hw (fun _ _ _ _ _ _ _ => eb_yes) fun i x hx _ => he i x hx
  rw [List.filter_eq_self.mpr fun _ _ => rfl] at q
  exact q
/-- over a tuple -/
theorem el_lcTGs {tg : TG} (xs : List A) (f : A → PyData) (p : A → Bool) (g : A → PyData) (hs : EvD K T tl σ H (.tuple (xs.map f))) (hl : xs.length < 100000)
    (ht : ∀ (i : Nat) (x : A), xs[i]? = some x → ∀ v H1 H2, Gr T H H1 → Dp K H1 v (f x) → Gr T H1 H2 → ∀ R : L2.St → Hp → Prop, (∀ σ2, EvB T tt σ2 H1 (p x) → (p x = true → EvE K T te σ2 H1 (g x)) → wipe σ2 vs = wipe σ vs → R σ2 H2) → tg v (wipe σ vs) H2 R) :
    EvLs K T (tLc (iTup K tl) tg tt te vs) σ H ((xs.filter p).map g) := fun H0 g0 Q q => hs.run g0 fun v H1 g1 hv => by
  obtain ⟨a, ys, rfl, h1, h2⟩ := dp_tup hv
  have hlen : ys.length = xs.length := by rw [dps_len h2, List.length_map]
  refine ⟨a, rfl, ⟨ys, h1⟩, fun D hD => lc_tup (xs := ys) (fun i H' => Cw K T H1 D (((xs.take i).filter p).map g) H') (by simpa using Cw.start g1.tab hD) (fun i H' _ c => st_ext c.2.1.ext h1) (fun i y H' hi c => ?_) fun H' c => ?_⟩
  · obtain ⟨d, hd, hy⟩ := dps_at h2 hi
    rw [List.getElem?_map] at hd
    cases ex : xs[i]? with
    | none => rw [ex] at hd; cases hd
    | some x =>
      rw [ex] at hd
      obtain rfl : f x = d := Option.some.inj hd
      refine ht i x ex y H1 H' (g0.trans g1) hy c.2.1 _ fun σ2 k1 k2 k3 => ⟨k3, ?_⟩
      rw [take_filter_map ex]
      have z := Cw.turn (d := g x) c (Nat.lt_of_le_of_lt (len_tfm xs p g i) hl) k1 k2
      exact z
  · rw [hlen, List.take_length] at c
    obtain ⟨hD, gg, acc, e1, e2⟩ := c
    exact q D acc H' (g1.nn hD) (g1.trans gg) e1 (F2.imp (fun _ _ h => El.base (T := T) g1 h) e2)
theorem el_lcTG {tg : TG} (xs : List A) (f : A → PyData) (p : A → Bool) (g : A → PyData) (hs : EvD K T tl σ H (.tuple (xs.map f))) (hl : xs.length < 100000)
    (ht : ∀ (i : Nat) (x : A), xs[i]? = some x → ∀ v H1 H2, Gr T H H1 → Dp K H1 v (f x) → Gr T H1 H2 → ∀ R : L2.St → Hp → Prop, (∀ σ2, EvB T tt σ2 H1 (p x) → (p x = true → EvE K T te σ2 H1 (g x)) → wipe σ2 vs = wipe σ vs → R σ2 H2) → tg v (wipe σ vs) H2 R) :
    EvL K T (tLc (iTup K tl) tg tt te vs) σ H ((xs.filter p).map g) := (el_lcTGs xs f p g hs hl ht).toL
theorem el_lcT (xs : List A) (f : A → PyData) (p : A → Bool) (g : A → PyData) (hs : EvD K T tl σ H (.tuple (xs.map f))) (hl : xs.length < 100000) (hw : ∀ v, wipe ((wipe σ vs).set j (some v)) vs = wipe σ vs)
    (ht : ∀ (i : Nat) (x : A), xs[i]? = some x → ∀ v H1, Gr T H H1 → Dp K H1 v (f x) → EvB T tt ((wipe σ vs).set j (some v)) H1 (p x))
    (he : ∀ (i : Nat) (x : A), xs[i]? = some x → p x = true → ∀ v H1, Gr T H H1 → Dp K H1 v (f x) → EvE K T te ((wipe σ vs).set j (some v)) H1 (g x)) :
    EvL K T (tLc (iTup K tl) (gName j) tt te vs) σ H ((xs.filter p).map g) :=
  el_lcTG xs f p g hs hl fun i x hx v H1 H2 g1 hv g2 R r => r _ (ht i x hx v H1 g1 hv) (fun hp => he i x hx hp v H1 g1 hv) (hw v)
theorem el_lcTM (xs : List A) (f : A → PyData) (g : A → PyData) (hs : EvD K T tl σ H (.tuple (xs.map f))) (hl : xs.length < 100000) (hw : ∀ v, wipe ((wipe σ vs).set j (some v)) vs = wipe σ vs)
    (he : ∀ (i : Nat) (x : A), xs[i]? = some x → ∀ v H1, Gr T H H1 → Dp K H1 v (f x) → EvE K T te ((wipe σ vs).set j (some v)) H1 (g x)) :
    EvL K T (tLc (iTup K tl) (gName j) tYes te vs) σ H (xs.map g) := by
  have q := el_lcT (tt := tYes) xs f (fun _ => true) g hs hl hw (fun _ _ _ _ _ _ _ => eb_yes) fun i x hx _ => he i x hx
  rw [List.filter_eq_self.mpr fun _ _ => rfl] at q
  exact q
/-- over range(n) -/
theorem el_lcR {ta : TA} (n : Nat) (p : Nat → Bool) (g : Nat → PyData) (hs : EvA K T ta σ H [.int (n : Int)]) (hl : n < 100000) (hw : ∀ v, wipe ((wipe σ vs).set j (some v)) vs = wipe σ vs)
    (ht : ∀ (i : Nat), i < n → ∀ H1, Gr T H H1 → EvB T tt ((wipe σ vs).set j (some (.int (i : Int)))) H1 (p i))
    (he : ∀ (i : Nat), i < n → p i = true → ∀ H1, Gr T H H1 → EvE K T te ((wipe σ vs).set j (some (.int (i : Int)))) H1 (g i)) :
    EvL K T (tLc (iRng1 ta) (gName j) tt te vs) σ H (((List.range n).filter p).map g) := fun H0 g0 Q q => hs H0 g0 _ fun us H1 g1 hv => by
  have e : us = [.int (n : Int)] := by
    cases hv with
    | cons h t =>
      cases t
      rw [dq_int h]
  refine ⟨(n : Int), e, by omega, by omega, fun D hD => ?_⟩
  have en : ((n : Int)).toNat = n := by omega
  rw [en]
  refine lc_range (lo := 0) (n := n) (fun i H' => Cw K T H1 D ((((List.range n).take i).filter p).map g) H') (by simpa using Cw.start g1.tab hD) (fun i H' hi c => ?_) fun H' c => ?_
  · have e0 : (0 : Int) + (i : Int) = (i : Int) := Int.zero_add _
    rw [e0]
    refine ⟨hw _, ?_⟩
    have ex : (List.range n)[i]? = some i := List.getElem?_range hi
    rw [take_filter_map ex]
    exact Cw.turn (d := g i) c (Nat.lt_of_le_of_lt (len_tfm _ p g i) (by simpa using hl)) (ht i hi H1 (g0.trans g1)) (fun hp => he i hi hp H1 (g0.trans g1))
  · rw [List.take_of_length_le (by simp)] at c
    obtain ⟨hD, gg, acc, e1, e2⟩ := c
    exact q D acc H' (g1.nn hD) (g1.trans gg) e1 (els_dps e2)
end

/-! ### calls -/
/-- the promise: such arguments, such an answer; nothing that stood is changed -/
def spOf (T : Tb) (K : PySem.W.Frag) (R : List De → (De → Prop) → Prop) : Sp := fun vs H Q _ => LamX.Tabs T H ∧ ∃ ds P, DqA K H vs ds ∧ R ds P ∧ ∀ v d H', Gr T H H' → Dq K H' v d → P d → Q v H'
/-- a def of the text that may be called: by its name, at a level -/
def Has (P : Program) (w : World) (K : PySem.W.Frag) (mg : Str → Option Value) (base : Heap) (k : Nat) (x : Str) (ps : List Str) (sp : Sp) : Prop :=
  ∃ f fd, mg x = some (.ref f) ∧ PySem.W.keepIn K (.ref f) = true ∧ L2.Binds K fd ps [] ∧ FnOk P w K mg base CX0 k f fd ps sp
theorem pe_has {X : Cx} {k j : Nat} {x : Str} {ps : List Str} {sp : Sp} {p pos : Pos} {e : Expr} {es : List Expr} {t : TA} (h : Has X.prog X.w X.K X.mg X.base k x ps sp) (hr : Room j X.A) (hk : k ≤ j) (ha : PA X (e :: es) t) (hg : Gl X x := by rfl)
    (hdb : (x == ("__debug__" : Str)) = false := by decide) (he : starEach (e :: es) X.env = (false, eval e X.env) :: starEach es X.env := by rfl) (hpl : (backTo pos (starEach es X.env)).any (·.1) = false := by rfl) :
    PE X (.Call (.Name x p) (e :: es) [] pos) (tCall sp [] E0 t) := by
  obtain ⟨f, fd, h1, h2, h3, h4⟩ := h
  exact pe_call h4 (hr.mono hk) hg h1 h2 h3 .nil pass0 ha hdb he hpl
section
variable {K : PySem.W.Frag} {T : Tb} {H : Hp} {σ : L2.St} {tA : TA} {ds : List De} {P : De → Prop} {R : List De → (De → Prop) → Prop} {ts : TS}
theorem ed_call (ha : EvA K T tA σ H ds) (hR : R ds P) : EvP K T (tCall (spOf T K R) [] E0 tA) σ H P := fun H1 g Q q => ha H1 g _ fun vs H2 g2 hv => by
  show spOf T K R (vs ++ []) H2 Q E0
  rw [List.append_nil]
  exact ⟨g2.tab, ds, P, hv, hR, fun v d H3 g3 h p => q v d H3 (g2.trans g3) h p⟩
theorem ret_fin {N : List Str} {vs : List V} {Q : VK} (h : RetP K T ts (start N vs) H P) (hT : LamX.Tabs T H) (q : ∀ v d H', Gr T H H' → Dq K H' v d → P d → Q v H') : ts { nx := fun _ H' => Q .non H', rt := Q } (start N vs) H := h H (.refl hT) _ q
/-- any, all of a list of truth values -/
theorem dps_bools : ∀ {vs : List V} {bs : List Bool}, DpAll K H vs (bs.map PyData.bool) → vs = bs.map V.bl
  | [], [], _ => rfl
  | _, [], h => by
    have h : DpAll K H _ [] := h
    cases h
    rfl
  | _, b :: bs, h => by
    have h : DpAll K H _ (.bool b :: bs.map PyData.bool) := h
    cases h with
    | cons a t => rw [dp_bl a, dps_bools t]; rfl
theorem dps_ints : ∀ {vs : List V} {bs : List Int}, DpAll K H vs (bs.map PyData.int) → vs = bs.map V.int
  | _, [], h => by
    have h : DpAll K H _ [] := h
    cases h
    rfl
  | _, b :: bs, h => by
    have h : DpAll K H _ (.int b :: bs.map PyData.int) := h
    cases h with
    | cons a t => rw [dp_int a, dps_ints t]; rfl
theorem ed_any {bs : List Bool} {te : TE} (h : EvD K T te σ H (.list (bs.map PyData.bool))) : EvD K T (tCB (rAny K) (tCons te tNil)) σ H (.bool (bs.any id)) := .of fun H1 g Q q => h.run g fun v H2 g2 hv => by
  obtain ⟨a, xs, rfl, h1, h2⟩ := hv
  exact ⟨a, bs, rfl, by rw [← dps_bools h2]; exact .of h1, q _ H2 g2 .bl⟩
theorem ed_all {bs : List Bool} {te : TE} (h : EvD K T te σ H (.list (bs.map PyData.bool))) : EvD K T (tCB (rAll K) (tCons te tNil)) σ H (.bool (bs.all id)) := .of fun H1 g Q q => h.run g fun v H2 g2 hv => by
  obtain ⟨a, xs, rfl, h1, h2⟩ := hv
  exact ⟨a, bs, rfl, by rw [← dps_bools h2]; exact .of h1, q _ H2 g2 .bl⟩
end

/-! ### the text -/
def topS (i : Nat) : Stmt := PySem.Challenge.pw_lossbars_k16_whole_up_sets_by_their_valu.main.body.getD i (.Pass ⟨0, 0, 0, 0⟩)
end K16

end K16VText
section K16UText
set_option autoImplicit false
set_option linter.all false
set_option maxRecDepth 100000
set_option Elab.async false
namespace K16
open PySem PySem.Spec PyProof.Rows L2

/-! ### the built-ins' names, the constants -/
structure Bi (mg : Str → Option Value) : Prop where
  len : mg "len" = none
  any : mg "any" = none
  all : mg "all" = none
  isi : mg "isinstance" = none
  tuple : mg "tuple" = none
  list : mg "list" = none
  range : mg "range" = none
  str : mg "str" = none
  int : mg "int" = none
  bool : mg "bool" = none
  dict : mg "dict" = none
  set : mg "set" = none
  sorted : mg "sorted" = none
  sum : mg "sum" = none
  max : mg "max" = none
  min : mg "min" = none
  abs : mg "abs" = none
  enumerate : mg "enumerate" = none
structure Cn (K : PySem.W.Frag) (mg : Str → Option Value) (aS : Addr) : Prop where
  sides : mg "SIDES" = some (.ref aS)
  sidesT : ∀ H : Hp, SqT K H aS [.str "left", .str "right"]
  mn : ∃ t, mg "MOST_NUMBER" = some (.int 99 t)
  me : ∃ t, mg "MOST_ELEMENTS" = some (.int 8 t)
  mw : ∃ t, mg "MOST_WAYS" = some (.int 500 t)
  mv : ∃ t, mg "MOST_VALUES" = some (.int 60 t)

/-! ### defs -/
structure DefOk (K : PySem.W.Frag) (mg : Str → Option Value) (x : Str) (st : Stmt) (ps : List Str) : Prop where
  ex : ∃ f fd, Fun K x x st f fd ∧ L2.Binds K fd ps [] ∧ mg x = some (.ref f)
section
variable {P : Program} {w : World} {K : PySem.W.Frag} {mg : Str → Option Value} {base : Heap} {x : Str} {st : Stmt} {ps N : List Str} {k j : Nat} {sp : Sp}
theorem DefOk.has (D : DefOk K mg x st ps) (S : FnScope N ps (defScope st)) (hl : ∀ vs H Q E, sp vs H Q E → vs.length = ps.length)
    (body : ∀ (f : Addr) (cdv : Value) (A : Around) (outer : List Env) (s : Shared) (H : Hp) (E : XK) (vs : List V) (Q : VK), Room k (A.deeper (envOfC x (defScope st) s.heap.objs.size f cdv)) → sp vs H Q E →
      ∃ t, PSs (cxOf CX0 P w K mg base N x (defScope st) f cdv A outer s H E).nox (defBody st) t ∧ t { nx := fun _ H' => Q .non H', rt := Q } (start N vs) H) : Has P w K mg base (k + 1) x ps sp := by
  obtain ⟨f, fd, F, b, g⟩ := D.ex
  exact ⟨f, fd, g, F.kp, b, F.ok S hl fun cdv A outer s H vs Q E hr h => body f cdv A outer s H E vs Q hr h⟩
theorem Has.mono (h : Has P w K mg base j x ps sp) (hj : j ≤ k) : Has P w K mg base k x ps sp := by
  obtain ⟨f, fd, h1, h2, h3, h4⟩ := h
  exact ⟨f, fd, h1, h2, h3, h4.mono hj⟩
theorem DefOk.none (D : DefOk K mg x st ps) (h : ∀ vs H Q E, ¬ sp vs H Q E) : Has P w K mg base 0 x ps sp := by
  obtain ⟨f, fd, F, b, g⟩ := D.ex
  exact ⟨f, fd, g, F.kp, b, ⟨fun vs H Q E z => absurd z (h vs H Q E), fun A outer s H args us vs Q E _ _ _ _ z => absurd z (h vs H Q E)⟩⟩
variable {T : Tb} {R : List De → (De → Prop) → Prop}
theorem DefOk.pure (k : Nat) (D : DefOk K mg x st ps) (S : FnScope N ps (defScope st)) (hl : ∀ ds Pd, R ds Pd → ds.length = ps.length)
    (body : ∀ (f : Addr) (cdv : Value) (A : Around) (outer : List Env) (s : Shared) (H : Hp) (E : XK) (vs : List V) (ds : List De) (Pd : De → Prop), Room k (A.deeper (envOfC x (defScope st) s.heap.objs.size f cdv)) → LamX.Tabs T H → DqA K H vs ds → R ds Pd →
      ∃ t, PSs (cxOf CX0 P w K mg base N x (defScope st) f cdv A outer s H E).nox (defBody st) t ∧ RetP K T t (start N vs) H Pd) (hk : k + 1 ≤ j := by omega) : Has P w K mg base j x ps (spOf T K R) := by
  refine Has.mono (j := k + 1) ?_ hk
  refine D.has S (fun vs H Q E h => ?_) fun f cdv A outer s H E vs Q hr h => ?_
  · obtain ⟨_, ds, Pd, hv, hR, _⟩ := h
    rw [F2.length hv]
    exact hl ds Pd hR
  · obtain ⟨hT, ds, Pd, hv, hR, q⟩ := h
    obtain ⟨t, h1, h2⟩ := body f cdv A outer s H E vs ds Pd hr hT hv hR
    exact ⟨t, h1, ret_fin h2 hT q⟩
theorem DefOk.pure0 (D : DefOk K mg x st ps) (h : ∀ ds Pd, ¬ R ds Pd) : Has P w K mg base 0 x ps (spOf T K R) := D.none fun vs H Q E ⟨_, ds, Pd, _, hR, _⟩ => h ds Pd hR
end
theorem dqa1 {K : PySem.W.Frag} {H : Hp} {vs : List V} {a : De} (h : DqA K H vs [a]) : ∃ x, vs = [x] ∧ Dq K H x a := by
  cases h with
  | cons h1 t =>
    cases t
    exact ⟨_, rfl, h1⟩
theorem dqa2 {K : PySem.W.Frag} {H : Hp} {vs : List V} {a b : De} (h : DqA K H vs [a, b]) : ∃ x y, vs = [x, y] ∧ Dq K H x a ∧ Dq K H y b := by
  cases h with
  | cons h1 t =>
    obtain ⟨y, rfl, h2⟩ := dqa1 t
    exact ⟨_, _, rfl, h1, h2⟩
theorem dqa3 {K : PySem.W.Frag} {H : Hp} {vs : List V} {a b c : De} (h : DqA K H vs [a, b, c]) : ∃ x y z, vs = [x, y, z] ∧ Dq K H x a ∧ Dq K H y b ∧ Dq K H z c := by
  cases h with
  | cons h1 t =>
    obtain ⟨y, z, rfl, h2, h3⟩ := dqa2 t
    exact ⟨_, _, _, rfl, h1, h2, h3⟩

section
variable {K : PySem.W.Frag} {T : Tb} {H : Hp} {σ : L2.St} {ta tb te : TE} {t : TT} {ts tr : TS} {d : De} {ds : List PyData} {P : De → Prop} {b : Bool}
/-- a test on texts whose answer is known -/
theorem eb_eqS {x y : Str} (ha : EvD K T ta σ H (.str x)) (hb : EvD K T tb σ H (.str y)) (e : decide (x = y) = b) : EvB T (tTest (tOp rEq ta tb)) σ H b := (eb_test (ed_eqS ha hb)).is e
theorem rd_no (h : EvB T t σ H false) (h2 : RetP K T tr σ H P) : RetP K T (tSeq (tIfS t ts tNext) tr) σ H P := rd_if h (fun e => nomatch e) fun _ => h2
theorem rd_yes (h : EvB T t σ H true) (h1 : RetP K T ts σ H P) : RetP K T (tSeq (tIfS t ts tNext) tr) σ H P := rd_if h (fun _ => h1) fun e => nomatch e

/-! ### sorts taken apart -/
def tag : So → Str
  | .mark _ => "mark"
  | .count => "count"
  | .both _ _ => "both"
  | .either _ _ => "either"
  | .lane _ => "lane"
  | .heap _ => "heap"
def sub : So → Nat → Option So
  | .both a _, 1 => some a
  | .both _ b, 2 => some b
  | .either a _, 1 => some a
  | .either _ b, 2 => some b
  | .lane a, 1 => some a
  | .heap a, 1 => some a
  | _, _ => none
theorem sv_tag {H : Hp} {v : V} {s : So} (h : Sv K H v s) : ∃ a xs, v = .ref a ∧ SqT K H a (.str (tag s) :: xs) := by
  cases s with
  | mark ls => obtain ⟨a, b, o, e, h1, _⟩ := h; exact ⟨a, _, e, h1⟩
  | count => obtain ⟨a, e, h1⟩ := h; exact ⟨a, _, e, h1⟩
  | both x y => obtain ⟨a, u, w, e, h1, _⟩ := h; exact ⟨a, _, e, h1⟩
  | either x y => obtain ⟨a, u, w, e, h1, _⟩ := h; exact ⟨a, _, e, h1⟩
  | lane x => obtain ⟨a, u, e, h1, _⟩ := h; exact ⟨a, _, e, h1⟩
  | heap x => obtain ⟨a, u, e, h1, _⟩ := h; exact ⟨a, _, e, h1⟩
theorem sv_sub {H : Hp} {v : V} {s a : So} {n : Nat} (h : Sv K H v s) (e : sub s n = some a) : ∃ p xs u, v = .ref p ∧ SqT K H p xs ∧ xs[n]? = some u ∧ Sv K H u a := by
  cases s with
  | mark ls => cases n <;> cases e
  | count => cases n <;> cases e
  | both x y =>
    obtain ⟨p, u, w, e0, h1, h2, h3⟩ := h
    match n, e with
    | 1, e => cases e; exact ⟨p, _, u, e0, h1, rfl, h2⟩
    | 2, e => cases e; exact ⟨p, _, w, e0, h1, rfl, h3⟩
  | either x y =>
    obtain ⟨p, u, w, e0, h1, h2, h3⟩ := h
    match n, e with
    | 1, e => cases e; exact ⟨p, _, u, e0, h1, rfl, h2⟩
    | 2, e => cases e; exact ⟨p, _, w, e0, h1, rfl, h3⟩
  | lane x =>
    obtain ⟨p, u, e0, h1, h2⟩ := h
    match n, e with
    | 1, e => cases e; exact ⟨p, _, u, e0, h1, rfl, h2⟩
  | heap x =>
    obtain ⟨p, u, e0, h1, h2⟩ := h
    match n, e with
    | 1, e => cases e; exact ⟨p, _, u, e0, h1, rfl, h2⟩
theorem ed_tag {s : So} (ha : EvD K T ta σ H (.s s)) (hb : EvD K T tb σ H (.int 0)) : EvD K T (tOp (rIxT K) ta tb) σ H (.str (tag s)) := .of fun H1 g Q q =>
  ha.run g fun v H2 g2 hv => hb.run (g.trans g2) fun w H3 g3 hw => by
    obtain ⟨a, xs, rfl, h1⟩ := sv_tag (dq_ext g3.ext hv)
    obtain rfl := dq_int hw
    exact ⟨a, _, ((0 : Nat) : Int), _, rfl, rfl, h1, at_nat rfl, q _ H3 (g2.trans g3) .str⟩
theorem ed_sub {s a : So} {n : Nat} (ha : EvD K T ta σ H (.s s)) (hb : EvD K T tb σ H (.int (n : Int))) (e : sub s n = some a) : EvD K T (tOp (rIxT K) ta tb) σ H (.s a) := .of fun H1 g Q q =>
  ha.run g fun v H2 g2 hv => hb.run (g.trans g2) fun w H3 g3 hw => by
    obtain ⟨p, xs, u, rfl, h1, h2, h3⟩ := sv_sub (dq_ext g3.ext hv) e
    obtain rfl := dq_int hw
    exact ⟨p, _, (n : Int), u, rfl, rfl, h1, at_nat h2, q _ H3 (g2.trans g3) h3⟩
/-- the letters of a mark's sort -/
theorem ed_letters {ls : List Str} (ha : EvD K T ta σ H (.s (.mark ls))) (hb : EvD K T tb σ H (.int 1)) : EvD K T (tOp (rIxT K) ta tb) σ H (.tuple (ls.map PyData.str)) := .of fun H1 g Q q =>
  ha.run g fun v H2 g2 hv => hb.run (g.trans g2) fun w H3 g3 hw => by
    obtain ⟨a, b, o, rfl, h1, h2, _⟩ := dq_ext g3.ext hv
    obtain rfl := dq_int hw
    exact ⟨a, _, ((1 : Nat) : Int), _, rfl, rfl, h1, at_nat rfl, q _ H3 (g2.trans g3) (.tup (.inl (.inr ⟨o, h2⟩)) (dps_strs ls))⟩
end

/-! ### t.index(x), the tuple known to its object -/
def Kn (K : PySem.W.Frag) (H : Hp) (p : Addr) (ys : List Str) : Prop :=
  (∃ o, H p = some (.frz o (.tup (ys.map V.str))) ∧ o.dict = none) ∨ (SqT K H p (ys.map V.str) ∧ ∃ o, K.lookup p = some o ∧ o.cls = .type "tuple" ∧ o.dict = none)
theorem Kn.sq {K : PySem.W.Frag} {H : Hp} {p : Addr} {ys : List Str} (h : Kn K H p ys) : SqT K H p (ys.map V.str) := by
  rcases h with ⟨o, h, _⟩ | ⟨h, _⟩
  · exact .inl (.inr ⟨o, h⟩)
  · exact h
theorem Kn.ext {K : PySem.W.Frag} {H H1 : Hp} {p : Addr} {ys : List Str} (e : LamX.ExtN H H1) (h : Kn K H p ys) : Kn K H1 p ys := by
  rcases h with ⟨o, h, d⟩ | ⟨h, d⟩
  · exact .inl ⟨o, e _ _ h (fun _ z => nomatch z), d⟩
  · exact .inr ⟨st_ext e h, d⟩
def tTix (K : PySem.W.Frag) (to : TE) (t : TA) : TE := fun σ H Q => to σ H fun x H1 => ∃ p ys, x = .ref p ∧ Kn K H1 p ys ∧ t σ H1 fun xs H2 => ∃ z j, xs = [V.str z] ∧ Kn K H2 p ys ∧ ys[j]? = some z ∧ (∀ m, m < j → ys[m]? ≠ some z) ∧ Q (.int (j : Nat)) H2
theorem pe_tix {X : Cx} {o e : Expr} {to : TE} {t : TA} {apos cpos : Pos} (ho : PE X o to) (ha : PA X [e] t)
    (hbase : attributeBase o "index" X.env (eval o X.env) = eval o X.env := by rfl)
    (hfew : ((backTo cpos (starEach [e] X.env)).all (fun x => !x.1) && (backToKw cpos (keywordEach [] X.env)).all (fun x => x.1.isSome)
      && decide ([e].length + ([] : List Keyword).length + (if ([] : List Keyword).isEmpty then 0 else 1) < 30)) = true := by rfl)
    (hline : (apos.endLine == cpos.line) = true := by rfl) (hs : starEach [e] X.env = (false, eval e X.env) :: starEach [] X.env := by rfl) (hplain : (backTo cpos (starEach [] X.env)).any (·.1) = false := by rfl) :
    PE X (.Call (.Attribute o "index" apos) [e] [] cpos) (tTix X.K to t) := by
  refine ⟨fun pins s σ H Q I h => ?_⟩
  refine wpAny_Call_method_late hbase hfew hline rfl (thn (ho.run pins s σ H _ I h) fun v s1 ⟨x, H1, I1, r1, p, ys, ex, kn, q1⟩ => ?_)
  subst ex
  cases r1
  have both : s1.TypeIs (.ref p) "tuple" ∧ ∀ a, Value.ref p = .ref a → ∃ ob, s1.heap.get? a = some ob ∧ ob.dict = none := by
    obtain ⟨its, _, pl, _⟩ := I1.tuple kn.sq
    obtain ⟨ob, e1, hc, n, hd⟩ := pl
    refine ⟨⟨ob, e1, hc⟩, fun a ea => ?_⟩
    cases ea
    rcases kn with ⟨o', h', d⟩ | ⟨_, o', h', _, d⟩
    · obtain ⟨e2, _⟩ := I1.hok p _ h'
      exact ⟨o', e2, d⟩
    · exact ⟨o', I1.kIn p o' h', d⟩
  refine ⟨"tuple", "tuple.index", PySem.F.plainAttrs_tuple, PySem.F.slot_tuple_index, PySem.F.type_tuple_index, both.1, both.2, ?_⟩
  have hA := ha.run cpos pins s1 σ H1 _ I1 q1
  rw [hs] at hA ⊢
  refine Calls.callWith_builtin (by show (false || (backTo cpos (starEach [] X.env)).any (·.1)) = false; rw [hplain] <;> rfl) (Calls.evalArgs_plain ?_)
  exact thn hA fun us s2 ⟨vs, H2, I2, r2, z, j, e1, kn2, h1, h2, q2⟩ => mt_tup_index pins s2 σ H2 (.ref p) vs (.ref p) us Q I2 rfl r2 ⟨p, ys, z, j, rfl, e1, kn2.sq, h1, h2, q2⟩
/-! ### which kind of sort -/
def no : So → Nat
  | .mark _ => 0
  | .count => 1
  | .both _ _ => 2
  | .either _ _ => 3
  | .lane _ => 4
  | .heap _ => 5
def tagN : Nat → Str
  | 0 => "mark"
  | 1 => "count"
  | 2 => "both"
  | 3 => "either"
  | 4 => "lane"
  | _ => "heap"
theorem tag_no (s : So) : tag s = tagN (no s) := by cases s <;> rfl
theorem no_lt (s : So) : no s < 6 := by cases s <;> simp [no]
theorem tagN_inj : ∀ i, i < 6 → ∀ j, j < 6 → decide (tagN i = tagN j) = (i == j) := by decide +kernel
theorem eb_tag {K : PySem.W.Frag} {T : Tb} {H : Hp} {σ : L2.St} {ta tb : TE} {s : So} {m : Nat} (ha : EvD K T ta σ H (.str (tag s))) (hb : EvD K T tb σ H (.str (tagN m))) (hm : m < 6 := by decide) : EvB T (tTest (tOp rEq ta tb)) σ H (no s == m) :=
  eb_eqS ha hb (by rw [tag_no]; exact tagN_inj _ (no_lt s) _ hm)
section
variable {K : PySem.W.Frag} {T : Tb} {H : Hp} {σ : L2.St} {ta tb te : TE}
theorem ed_tixC {p : Addr} {ys : List Str} {z : Str} {j : Nat} (kn : ∀ H, Kn K H p ys) (hb : EvD K T tb σ H (.str z)) (h1 : ys[j]? = some z) (h2 : ∀ m, m < j → ys[m]? ≠ some z) : EvD K T (tTix K (tC (.ref p)) (tCons tb tNil)) σ H (.int (j : Nat)) := .of fun H1 g Q q =>
  ⟨p, ys, rfl, kn _, hb.run g fun w H3 g3 hw => by
    rw [dq_str hw]
    exact ⟨z, j, rfl, kn _, h1, h2, q _ H3 g3 .int⟩⟩
theorem ed_tixM {ls : List Str} {z : Str} {j : Nat} (ha : EvD K T ta σ H (.s (.mark ls))) (hi : EvD K T te σ H (.int 1)) (hb : EvD K T tb σ H (.str z)) (h1 : ls[j]? = some z) (h2 : ∀ m, m < j → ls[m]? ≠ some z) :
    EvD K T (tTix K (tOp (rIxT K) ta te) (tCons tb tNil)) σ H (.int (j : Nat)) := .of fun H1 g Q q =>
  ha.run g fun v H2 g2 hv => hi.run (g.trans g2) fun w H3 g3 hw => by
    obtain ⟨a, b, o, rfl, k1, k2, k3⟩ := dq_ext g3.ext hv
    obtain rfl := dq_int hw
    refine ⟨a, _, ((1 : Nat) : Int), _, rfl, rfl, k1, at_nat rfl, b, ls, rfl, .inl ⟨o, k2, k3⟩, hb.run ((g.trans g2).trans g3) fun w H4 g4 hw => ?_⟩
    rw [dq_str hw]
    exact ⟨z, j, rfl, .inl ⟨o, g4.ext _ _ k2 (fun _ z => nomatch z), k3⟩, h1, h2, q _ H4 ((g2.trans g3).trans g4) .int⟩
end
end K16

end K16UText
section K16EText
set_option autoImplicit false
set_option linter.all false
set_option maxRecDepth 100000
set_option Elab.async false
/-! enumerate(t), t a tuple. -/
namespace K16
open PySem
open Sem (wp)
set_option maxHeartbeats 1000000 in
theorem enum__new1 {v : Value} {o : Obj} {H : Heap → Prop} (B : Begins v o H) :
    Meets (Builtin.«enumerate.__new__» ⟨[.type "enumerate", v], []⟩) (fun _ R s => H s.heap ∧
      R (.ok (.ret (.ref (s.heap.push o).objs.size))) { s with heap := (s.heap.push o).push { cls := .type "enumerate", data := .fields #[.none, .bool false, .ref s.heap.objs.size, rawInt 0, .none, .none] } }) :=
  .of_wp fun prog w A R s h => by
    obtain ⟨hp, g, d, tk, os⟩ := s; obtain ⟨h1, h⟩ := h
    have hsub := sub_enumerate
    have q1 : ∀ {A' : Around} {E : Value → Shared → Prop} {Q : Value → Shared → Prop}, Q (.ref hp.objs.size) ⟨hp.push o, g, d, tk, os⟩ → wpAny (model prog w) A' (pyIter v) Q E ⟨hp, g, d, tk, os⟩ :=
      fun q => B.iter prog w _ _ ⟨hp, g, d, tk, os⟩ _ h1 q
    wp_walk using q1
    refine wpAny_stack_any fun st => wpAny_pure ?_
    split
    · rename_i c _ _ _ _ _
      cases (c == Value.type "enumerate")
      · wp_walk using q1
        exact ⟨_, rfl, h⟩
      · wp_walk using q1
        exact ⟨_, rfl, h⟩
    · wp_walk using q1
      exact ⟨_, rfl, h⟩
section
variable {prog : Program} {w : World} {A : Around} {E : Value → Shared → Prop} {s : Shared}
theorem enum__begins1 {v : Value} {o : Obj} {H : Heap → Prop} {Q : Value → Shared → Prop} (B : Begins v o H) (h1 : H s.heap)
    (h : ∀ h', IsEnum h' (s.heap.objs.size + 1) s.heap.objs.size 0 .none → h'.get? s.heap.objs.size = some o → h'.objs.size = s.heap.objs.size + 2 →
      (∀ b o, s.heap.get? b = some o → h'.get? b = some o) → Q (.ref (s.heap.objs.size + 1)) { s with heap := h' }) :
    wpAny (model prog w) A (call (.type "enumerate") [v]) Q E s := by
  refine callType_new F.called_enumerate (by decide) (F.typeCall_enumerate_1 _) (F.newCall_enumerate_1 _) (fun obj => F.args_object_init_2 obj _) F.entry_enumerate_new
    (enum__new1 B) ⟨h1, ?_⟩
  have hz : (s.heap.push o).objs.size = s.heap.objs.size + 1 := Heap.size_push ..
  show _ ∧ _
  rw [hz]
  have he : IsEnum ((s.heap.push o).push { cls := .type "enumerate", data := .fields #[.none, .bool false, .ref s.heap.objs.size, rawInt 0, .none, .none] }) (s.heap.objs.size + 1) s.heap.objs.size 0 .none := by
    have := Heap.get?_push_size (s.heap.push o) (o := { cls := .type "enumerate", data := .fields #[.none, .bool false, .ref s.heap.objs.size, rawInt 0, .none, .none] }) rfl
    rw [hz] at this; exact this
  refine ⟨⟨_, he, rfl⟩, h _ he (Heap.get?_push_of_some _ (Heap.get?_push_size _ B.free)) (by rw [Heap.size_push, hz]) fun b o x => Heap.get?_push_of_some _ (Heap.get?_push_of_some _ x)⟩
end
end K16
namespace K16
open PySem PySem.Spec PyProof.Rows L2
/-- the items of the tuple at a, each in a new pair -/
def Iet (K : PySem.W.Frag) (a : Addr) : It :=
  ⟨fun i H => ∃ (xs : List V) (x : V), SqT K H a xs ∧ xs[i]? = some x, fun i H v H' => ∃ T x, v = .ref T ∧ H T = none ∧ H' = upd H T (.tup [.int (i : Nat), x]) ∧ ∀ xs, SqT K H a xs → xs[i]? = some x, fun i H => ∃ xs : List V, SqT K H a xs ∧ xs.length = i⟩
theorem turn_enumT {P : Program} {w : World} {K : PySem.W.Frag} {elts : List Expr} {kk : Nat} {tpos : Pos} (a e it : Addr) :
    Turn P w K (.Tuple elts kk tpos) (Iet K a) [e, it] e (fun i h => (∃ old, IsEnum h e it ((i : Nat) : Int) old) ∧ h.IsTupleIter it a i ∧ e ≠ it ∧ a ≠ it) where
  mem := by simp
  obj := fun i h st b hb => by
    obtain ⟨⟨old, he⟩, ⟨o, ho, hc, hd⟩, _⟩ := st
    have e' : b = e ∨ b = it := by simpa using hb
    rcases e' with z | z
    · rw [z]; exact ⟨_, he, fun v q => nomatch q⟩
    · rw [z]; exact ⟨o, ho, fun v q => by rw [hd] at q; cases q⟩
  keep := fun i h h' st k => let ⟨⟨old, he⟩, hi, hne⟩ := st; ⟨⟨old, k e (by simp) _ he⟩, hi.at fun o q => k it (by simp) o q, hne⟩
  item := by
    intro X hP hw hK hc i pins s σ H E I hf st hg
    subst hP hw hK
    obtain ⟨⟨old, he⟩, hit, hne, hai⟩ := st
    obtain ⟨xs, x, hq, hx⟩ := hg
    obtain ⟨its, rv, p, hz⟩ := I.tuple hq
    obtain ⟨u, hu, ru⟩ := rv.get hx
    have hel : e < s.heap.objs.size := Heap.lt_size he
    have hil : it < s.heap.objs.size := by obtain ⟨_, q, _⟩ := hit; exact Heap.lt_size q
    have pt : s.heap.IsTuple a its.toArray := by obtain ⟨o, h1, h2, n, h3⟩ := p; exact ⟨o, h1, h2, n, h3⟩
    have hea : e ≠ a := fun z => by
      obtain ⟨o, h1, h2, _⟩ := pt
      rw [← z] at h1
      have h0 : s.heap.get? e = some _ := he
      rw [h0] at h1
      cases h1
      simp at h2
    have hlt : i < its.toArray.size := by
      have := rv.length
      have := (List.getElem?_eq_some_iff.mp hx).1
      rw [List.size_toArray]; omega
    refine wpAny_pyNext_enum_itemD (n := its.toArray.size) (Draws.tuple (A := X.A.in1) (I.ok.hd hc) it a hai its.toArray) he ⟨hit, pt⟩ hlt hne (by simp [hne, hea]) fun y h' tk hy ho hst' hT hsz hk => ?_
    have ey : y = u := by
      have h1 : its.toArray[i]? = some y := hy
      have h2 : its.toArray[i]? = some u := by rw [← Array.getElem?_toList]; exact hu
      rw [h1] at h2
      exact Option.some.inj h2
    subst ey
    refine ⟨_, rfl, wpAny_letOwnedTupleGo_enum (s := { s with heap := h', toks := tk + 1 }) ho fun h'' he' sb => ?_⟩
    have hT2 : h''.get? s.heap.objs.size = some { cls := .type "tuple", data := .seq #[.int i tk, y] } := (sb.2 _ (Nat.ne_of_gt hel)).trans hT
    have new : ObjOk X.prog X.w (upd H s.heap.objs.size (.tup [.int (i : Nat), x])) h'' s.heap.objs.size (.tup [.int (i : Nat), x]) :=
      ⟨by show 2 ≤ sizeLine; decide, [.int i tk, y], .cons ⟨_, rfl⟩ (.cons ru .nil), ⟨_, hT2, rfl, _, rfl⟩⟩
    have I1 : Inv X pins σ (upd H s.heap.objs.size (.tup [.int (i : Nat), x])) { s with heap := h'', toks := tk + 1 } :=
      I.turnedNew (ch := [e, it]) (fun b ob hb q => (sb.2 b (fun z => hb (by simp [z]))).trans (hk b ob (fun z => hb (by simp [z])) (fun z => hb (by simp [z])) q)) hf (Nat.le_refl _) new
    refine ⟨.ref s.heap.objs.size, _, I1, rfl, ⟨_, x, rfl, I.hok.fresh (Nat.le_refl _), rfl, fun ys hy => by rw [I.tuple_inj hy hq]; exact hx⟩, ⟨⟨y, ?_⟩, hst'.1.at fun o q => (sb.2 it (Ne.symm hne)).trans q, hne, hai⟩, fun b hb => ?_⟩
    · have e1 : ((i + 1 : Nat) : Int) = (i : Int) + 1 := by omega
      rw [e1]; exact he'
    · have hb' : b < s.heap.objs.size := by
        have e' : b = e ∨ b = it := by simpa using hb
        rcases e' with z | z
        · rw [z]; exact hel
        · rw [z]; exact hil
      rw [upd_ne (Nat.ne_of_lt hb')]
      exact (hf b hb).1
  done := by
    intro X hP hw hK hc i pins s σ H E I hf st hg
    subst hP hw hK
    obtain ⟨⟨old, he⟩, hit, hne, hai⟩ := st
    obtain ⟨xs, hq, hx⟩ := hg
    obtain ⟨its, rv, p, hz⟩ := I.tuple hq
    have pt : s.heap.IsTuple a its.toArray := by obtain ⟨o, h1, h2, n, h3⟩ := p; exact ⟨o, h1, h2, n, h3⟩
    obtain ⟨f0, f1, f2, f3, f4, f5⟩ := hf it (by simp)
    have hl := rv.length
    have hi : i = its.toArray.size := by rw [List.size_toArray]; omega
    subst hi
    exact wpAny_pyNext_enum_endD (Draws.tuple (A := X.A.in1) (I.ok.hd hc) it a hai its.toArray) he ⟨hit, pt⟩ fun h' eb => ⟨rfl, I.turned (t' := s.toks) (fun b o hb q => eb b o hb q) f0 f1 f3 f4 f5⟩
  self := fun A i s Q E st h => let ⟨⟨_, he⟩, _⟩ := st; wpAny_pyIter_enum he h
def iEnT (K : PySem.W.Frag) (ta : TA) : TI := fun σ H R => ta σ H fun vs H1 => ∃ a xs, vs = [.ref a] ∧ SqT K H1 a xs ∧ R (Iet K a) H1
theorem pi_enumT {X : Cx} {e : Expr} {ta : TA} {p pos tpos : Pos} {elts : List Expr} {kk : Nat} (hg : Gl X "enumerate") (hm : X.mg "enumerate" = none) (ha : PA X [e] ta) (hs : starEach [e] X.env = [(false, eval e X.env)] := by rfl) :
    PI X (.Tuple elts kk tpos) (.Call (.Name "enumerate" p) [e] [] pos) (iEnT X.K ta) := by
  refine ⟨fun pins s σ H R I h => ?_⟩
  refine Call_ (ld_blt I hg hm boot_enumerate (PyProof.Rows.callWith_type1 (thn (ha.run pos pins s σ H _ I h) fun us s1 ⟨vs, H1, I1, r1, q1⟩ => ?_) hs rfl))
  obtain ⟨a, xs, ex, hq, q⟩ := q1
  subst ex
  cases r1 with
  | cons r rr =>
    cases rr
    cases r
    obtain ⟨its, rv, p', hz⟩ := I1.tuple hq
    have pt : s1.heap.IsTuple a its.toArray := by obtain ⟨o, h1, h2, n, h3⟩ := p'; exact ⟨o, h1, h2, n, h3⟩
    have hal : a < s1.heap.objs.size := by obtain ⟨o, h1, _⟩ := pt; exact Heap.lt_size h1
    refine enum__begins1 (begins_tuple a its.toArray) pt fun h' he hit hsz hk => wpAny_pyIter_enum he ?_
    have I2 : Inv X pins σ H1 { s1 with heap := h' } := I1.kept (t' := s1.toks) hk
    refine ⟨s1.heap.objs.size + 1, [s1.heap.objs.size + 1, s1.heap.objs.size], _, _, H1, rfl, I2, turn_enumT a (s1.heap.objs.size + 1) s1.heap.objs.size, ⟨⟨.none, he⟩, ⟨_, hit, rfl, rfl⟩, Nat.succ_ne_self _, Nat.ne_of_lt hal⟩, fun b hb => ?_, q⟩
    have e' : b = s1.heap.objs.size + 1 ∨ b = s1.heap.objs.size := by simpa using hb
    have hle : s1.heap.objs.size ≤ b := by
      rcases e' with z | z
      · rw [z]; exact Nat.le_add_right _ _
      · rw [z]; exact Nat.le_refl _
    exact I1.fpOk hle (I1.hok.fresh hle)
theorem pi_enumTK {X : Cx} (K : PySem.W.Frag) {e : Expr} {ta : TA} {p pos tpos : Pos} {elts : List Expr} {kk : Nat} (hK : X.K = K) (hg : Gl X "enumerate") (hm : X.mg "enumerate" = none) (ha : PA X [e] ta) (hs : starEach [e] X.env = [(false, eval e X.env)] := by rfl) :
    PI X (.Tuple elts kk tpos) (.Call (.Name "enumerate" p) [e] [] pos) (iEnT K ta) := by
  subst hK
  exact pi_enumT hg hm ha hs
theorem pg_tupK {X : Cx} (K : PySem.W.Frag) {es : List Expr} {k : Nat} {pos : Pos} {t : TGs} {n : Nat} (hK : X.K = K) (hc : X.calm = true) (h : PGs X es t)
    (hn : (assignEach es X.env).length = n := by rfl) (hst : (assignEach es X.env).findIdx? (·.1) = none := by rfl) : PG X (.Tuple es k pos) (gTup K n t) := by
  subst hK
  exact pg_tup hc h hn hst
theorem pi_listK {X : Cx} (K : PySem.W.Frag) {tg e : Expr} {te : TE} (hK : X.K = K) (he : PE X e te) : PI X tg e (iList K te) := by
  subst hK
  exact pi_list he
theorem pi_tupK {X : Cx} (K : PySem.W.Frag) {tg e : Expr} {te : TE} (hK : X.K = K) (he : PE X e te) : PI X tg e (iTup K te) := by
  subst hK
  exact pi_tup he
end K16

end K16EText
section K16SText
set_option autoImplicit false
set_option linter.all false
set_option maxRecDepth 100000
set_option Elab.async false
/-! Sorting by keys that are tuples, some of them empty perhaps. -/
namespace K16
open PySem PySem.Calls PySem.W PyProof.Rows PySem.SeqAt
section
variable {prog : Program} {w : World} {A : Around} {E : Value → Shared → Prop} {s : Shared}
theorem gen_lt (x y : Value) : keyLt' general' x y = oneLt' false x y := rfl
/-- has an item -/
def hasIt : PyData → Bool
  | .tuple (_ :: _) => true
  | _ => false
theorem firsts_of {M : Model} : ∀ {vs : List Value} {ds : List PyData}, EachIs (fun v d => ∃ as, Reads s.heap v d as) vs ds → (∀ d ∈ ds, ∃ xs, d = .tuple xs) →
    ∃ fs : List (Option Value), fs.map Option.isSome = ds.map hasIt ∧ ∀ Q : List (Option Value) → Shared → Prop, Q fs s → wpAny M A (vs.mapM firstOfTuple') Q E s
  | _, _, .nil, _ => ⟨[], rfl, fun Q h => by rw [List.mapM_nil]; exact wpAny_pure h⟩
  | _, _, .cons (b := d) ⟨as, r⟩ t, ht => by
    obtain ⟨fs, h1, h2⟩ := firsts_of (M := M) t fun d hd => ht d (List.mem_cons_of_mem _ hd)
    obtain ⟨xs, rfl⟩ := ht d (List.mem_cons_self ..)
    cases r with
    | @tuple a o vs n _ _ ho hc hd hr =>
      have n1 : vs.size = xs.length := by simpa using ReadsAll.length _ _ _ hr
      refine ⟨vs[0]? :: fs, ?_, fun Q h => ?_⟩
      · rw [List.map_cons, List.map_cons, h1]
        congr 1
        cases xs with
        | nil =>
          have : vs = #[] := by simpa using n1
          rw [this]
          rfl
        | cons x xs =>
          have : 0 < vs.size := by rw [n1]; simp
          rw [Array.getElem?_eq_getElem this]
          rfl
      · rw [List.mapM_cons]
        refine wpAny_bind ?_
        rw [kas_first_eq]
        refine wpAny_bind (Looks.here (show Looks M s.heap (typeOf (.ref a)) o.cls from (Looks.ld ho).andThen .now) ?_)
        rw [hc, if_neg (by first | decide | simp)]
        refine wpAny_bind (listItems_at ho hd (wpAny_pure ?_))
        exact wpAny_bind (h2 (fun bs s' => wpAny M A (pure (vs[0]? :: bs)) Q E s') (wpAny_pure h))
theorem kind_mixed {vs : List Value} {ds : List PyData} (e : EachIs (fun v d => ∃ as, Reads s.heap v d as) vs ds) (hk : ∀ d ∈ ds, ∃ xs, d = .tuple xs) (hall : ¬ ∀ d ∈ ds, hasIt d = true) :
    ∃ kd : SortKind, (kd = general' ∨ kd = oneType') ∧ (2 ≤ vs.length → ∀ (E : Value → Shared → Prop) {Q : SortKind → Shared → Prop}, Q kd s → wpAny (model prog w) A (keyKind' vs.toArray) Q E s) := by
  have hty : ∀ v ∈ vs, Looks (model prog w) s.heap (typeOf v) (Value.type "tuple") := fun v hv => by
    obtain ⟨d, hd, as, r⟩ := e.left v hv
    obtain ⟨xs, rfl⟩ := hk d hd
    exact looks_reads r
  have hne : ¬ (ds.map hasIt).all (fun x => x) = true := fun h => hall fun d hd => by
    rw [List.all_map, List.all_eq_true] at h
    exact h d hd
  cases hf : (ds.map hasIt)[0]?.getD false with
  | true =>
    refine ⟨general', .inl rfl, fun h2 E Q hq => ?_⟩
    obtain ⟨fs, h1, h3⟩ := firsts_of (M := model prog w) (A := A) (E := E) e hk
    rw [kat_kind_eq, List.mapM_toArray, map_eq_pure_bind]
    refine wpAny_bind (wpAny_bind (h3 _ (wpAny_pure ?_)))
    have ha : ¬ (fs.toArray.all fun x => x.isSome) = true := by
      intro z
      refine hne ?_
      rw [← h1, List.all_map]
      simpa using z
    rw [if_neg ha]
    have hb : (fs.toArray[0]?.bind id).isSome = true := by
      rw [← h1, List.getElem?_map] at hf
      rw [List.getElem?_toArray]
      cases q : fs[0]? with
      | none => rw [q] at hf; cases hf
      | some o =>
        rw [q] at hf
        exact hf
    rw [if_pos hb]
    exact wpAny_pure hq
  | false =>
    refine ⟨oneType', .inr rfl, fun h2 E Q hq => ?_⟩
    obtain ⟨fs, h1, h3⟩ := firsts_of (M := model prog w) (A := A) (E := E) e hk
    rw [kat_kind_eq, List.mapM_toArray, map_eq_pure_bind]
    refine wpAny_bind (wpAny_bind (h3 _ (wpAny_pure ?_)))
    have ha : ¬ (fs.toArray.all fun x => x.isSome) = true := by
      intro z
      refine hne ?_
      rw [← h1, List.all_map]
      simpa using z
    rw [if_neg ha]
    have hb : ¬ (fs.toArray[0]?.bind id).isSome = true := by
      rw [← h1, List.getElem?_map] at hf
      rw [List.getElem?_toArray]
      cases q : fs[0]? with
      | none => simp
      | some o =>
        rw [q] at hf
        have hf : o.isSome = false := hf
        simp [hf]
    rw [if_neg hb, oneTypeOnly'_eq, List.mapM_toArray, map_eq_pure_bind]
    obtain ⟨v₁, rest, rfl⟩ : ∃ v₁ rest, vs = v₁ :: rest := by
      match vs, h2 with
      | [], h2 => simp at h2
      | v₁ :: rest, _ => exact ⟨v₁, rest, rfl⟩
    refine wpAny_bind (wpAny_bind (wpAny_bind (kas_mapM (r := Value.type "tuple") _ (fun v hv Q' hq => (hty v hv).here hq) (wpAny_pure ?_))))
    have hall : ((List.map (fun _ => Value.type "tuple") (v₁ :: rest)).toArray.all fun x => x == Value.type "tuple") = true := by
      simp only [List.all_toArray, List.all_map, List.all_eq_true]
      intro _ _
      rfl
    have h0 : (List.map (fun _ => Value.type "tuple") (v₁ :: rest)).toArray[0]? = some (Value.type "tuple") := by simp
    rw [h0]
    simp only [hall, if_true]
    exact wpAny_pure (wpAny_pure hq)
end
end K16

end K16SText
section K16S2Text
set_option autoImplicit false
set_option linter.all false
set_option maxRecDepth 100000
set_option Elab.async false
/-! sorted(xs, key=f), f a function whose calls are told over the abstract heap. -/
namespace K16
open PySem PySem.Spec PySem.Calls PySem.W PyProof.Rows L2
/-- the very object -/
def ExO (a : Addr) (o : Obj) : HO := .ext fun h => h.get? a = some o
section
variable {X : Cx} {pins : List (Addr × Obj)} {σ : L2.St} {H H2 : Hp} {s : Shared} {a kS : Addr} {T : Tb}
theorem exo_at {o : Obj} (I : Inv X pins σ H s) (e : H a = some (ExO a o)) : s.heap.get? a = some o := by
  obtain ⟨z, _, _⟩ := I.hok a _ e
  exact z
theorem inv_ex_new {o : Obj} {t' : Nat} {h' : Heap} (I : Inv X pins σ H s) (k : ∀ b u, s.heap.get? b = some u → h'.get? b = some u) (hp : s.heap.objs.size ≤ a) (ho : h'.get? a = some o) :
    Inv X pins σ (upd H a (ExO a o)) { s with heap := h', toks := t' } := I.laid k hp ⟨ho, ⟨_, ho⟩, fun h1 h2 e st => st _ e⟩
theorem gr_ex {o : Obj} {xs : Array Value} {n : Nat} {u : HO} (I : Inv X pins σ H2 s) (g : Gr T H H2) (hn : Nw H a) (e : H2 a = some (ExO a o)) (hd : o.data = .seq xs n) : Gr T H (upd H2 a u) := by
  refine ⟨fun b v q n => ?_, fun q hq => ?_⟩
  · rw [upd_ne (hn.ne q n)]
    exact g.ext b v q n
  · obtain ⟨ps, h1, h2, h3⟩ := g.tab q hq
    refine ⟨ps, ?_, h2, fun pos cv z => ?_⟩
    · rw [upd_ne]
      · exact h1
      · rintro z
        rw [z, e] at h1
        cases h1
    · obtain ⟨c, e1, e2⟩ := h3 pos cv z
      refine ⟨c, e1, ?_⟩
      rw [upd_ne]
      · exact e2
      · rintro z
        rw [z] at e2
        obtain ⟨⟨oc, vs, t, k1, k2, _⟩, _, _⟩ := I.hok a _ e2
        rw [exo_at I e] at k1
        cases k1
        rw [hd] at k2
        cases k2
theorem each_vals {β : Type} {f : β → V} : ∀ {us : List Value} {bs : List β}, EachIs (fun u b => RelV (f b) u) us bs → Vals (bs.map f) us
  | _, _, .nil => .nil
  | _, _, .cons h t => .cons h (each_vals t)
theorem vals_each : ∀ {xs : List V} {us : List Value}, Vals xs us → EachIs (fun u x => RelV x u) us xs
  | _, _, .nil => .nil
  | _, _, .cons h t => .cons h (vals_each t)
theorem each_dps {K : PySem.W.Frag} {P : Program} {w : World} (rd : ∀ (d : PyData) (v : V) (u : Value), Dp K H v d → RelV v u → ∃ as, Reads s.heap u d as) : ∀ {vs : List V} {us : List Value} {ds : List PyData}, DpAll K H vs ds → Vals vs us → EachIs (fun u d => ∃ as, Reads s.heap u d as) us ds
  | _, _, _, .nil, .nil => .nil
  | _, _, _, .cons a b, .cons r t => .cons (rd _ _ _ a r) (each_dps (P := P) (w := w) rd b t)
/-- the sorted list -/
noncomputable def ordV (O : KeyOrd) (xs : List V) (bs : List O.α) : List V := ((xs.zip bs).mergeSort (sortLe O false Prod.snd)).map Prod.fst
theorem ordV_len {O : KeyOrd} {xs : List V} {bs : List O.α} (h : bs.length = xs.length) : (ordV O xs bs).length = xs.length := by
  unfold ordV
  rw [List.length_map, List.length_mergeSort, List.length_zip, h, Nat.min_self]
/-- what is asked of the keys: a strict order that Python's < tells -/
structure KeySys (P : Program) (w : World) (A : Around) (O : KeyOrd) (enc : O.α → PyData) : Prop where
  nol : ∀ b, noL (enc b) = true
  sorts : ∀ (s : Shared) (kv : List Value) (bs : List O.α), EachIs (fun v b => ∃ as, Reads s.heap v (enc b) as) kv bs → ∃ (ko : Value → Option O.α) (d : O.α), SortsAt P w A s ⟨O, ko, d⟩ kv ∧ EachIs (fun v b => ko v = some b) kv bs
theorem vals_eachB {β : Type} : ∀ {xs : List V} {us : List Value} {bs : List β}, Vals xs us → xs.length = bs.length → EachIs (fun u (b : V × β) => RelV b.1 u) us (xs.zip bs)
  | _, _, [], .nil, _ => .nil
  | _, _, _ :: _, .cons h t, e => .cons h (vals_eachB t (by simpa using e))
  | _, _, [], .cons h t, e => by simp at e
theorem each_snd {β : Type} {R : Value → β → Prop} : ∀ {kv : List Value} {xs : List V} {bs : List β}, EachIs R kv bs → xs.length = bs.length → EachIs (fun v (b : V × β) => R v b.2) kv (xs.zip bs)
  | _, [], _, .nil, _ => .nil
  | _, _ :: _, _, .cons h t, e => .cons h (each_snd t (by simpa using e))
  | _, [], _, .cons h t, e => by simp at e
  | _, _ :: _, _, .nil, e => by simp at e
theorem ord_of {O : KeyOrd} {ko : Value → Option O.α} {d : O.α} {xs : List V} {us kv : List Value} {bs : List O.α} (hl : bs.length = xs.length) (r : Vals xs us) (e : EachIs (fun v b => ko v = some b) kv bs) : Vals (ordV O xs bs) (sortVals ⟨O, ko, d⟩ false kv us) := by
  have q := sortVals_each (κ := ⟨O, ko, d⟩) (R := fun u (b : V × O.α) => RelV b.1 u) (rev := false) (ks := kv) (vs := us) (bs := xs.zip bs) Prod.snd (vals_eachB r hl.symm) (each_snd e hl.symm)
  exact each_vals q
theorem each_mapD {β : Type} {R : Value → PyData → Prop} {f : β → PyData} : ∀ {us : List Value} {bs : List β}, EachIs (fun u b => R u (f b)) us bs → EachIs R us (bs.map f)
  | _, _, .nil => .nil
  | _, _, .cons a t => .cons a (each_mapD t)
theorem each_unmap {β : Type} {R : Value → PyData → Prop} {f : β → PyData} : ∀ {us : List Value} {bs : List β}, EachIs R us (bs.map f) → EachIs (fun u b => R u (f b)) us bs
  | _, [], h => by
    cases h
    exact .nil
  | _, _ :: _, h => by
    cases h with
    | cons a t => exact .cons a (each_unmap t)
variable {A : Around} {E : Value → Shared → Prop}
/-- the sort's end -/
theorem sort_tail {st : SortSt} {e1 : Nat} {kA outV : List V} {out : List Value} (I : Inv X pins σ H s) (hk : H kS = some (.lst kA)) (ha : H a = some (ExO a (seqObj "list" #[] e1))) (hz : outV.length ≤ sizeLine) (r : Vals outV out) (hfl : failedOf st = none) (ho : (arrOf st).map (·.2) = out.toArray) :
    wpAny (model X.prog X.w) A (ksk_tail a false e1 (.ref kS) st) (fun fin s' => fin = .done (.ret .none) ∧ Inv X pins σ (upd (upd H kS (.lst [])) a (.lst outV)) s') E s := by
  have hka : a ≠ kS := ne_of ha hk fun z => by cases z
  obtain ⟨zk, its, n, rk, lk, nk⟩ := I.lstM hk
  have na := exo_at I ha
  have I1 := I.lset (t' := s.toks) (ys := []) (its' := []) (f := fun _ => #[]) hk nk rfl .nil (Nat.zero_le _)
  have ha1 : upd H kS (.lst []) a = some (ExO a (seqObj "list" #[] e1)) := by rw [upd_ne hka]; exact ha
  have na1 := exo_at I1 ha1
  unfold ksk_tail
  try dsimp only
  rw [if_neg Bool.false_ne_true, ho]
  refine wpAny_bind (listUpdate_at nk rfl ?_ (by rw [List.size_toArray, ← lk]; exact zk) (Nat.zero_le _))
  refine wpAny_bind (wpAny_letGo ?_)
  refine wpAny_bind (seqEpoch_at na1 rfl ?_)
  refine wpAny_bind (listUpdate_at na1 rfl ?_ (Nat.zero_le _) (by rw [List.size_toArray, ← r.length]; omega))
  rw [hfl]
  simp only [bne_self_eq_false, Bool.false_eq_true, if_false]
  refine wpAny_pure ⟨rfl, ?_⟩
  have q := get?_update_seq na1 (fun _ => out.toArray)
  refine I1.write (x := a) (e := a) (t' := s.toks) (by rw [ha1]; exact trivial) (.inl rfl) (fun b' u hb hu => (Heap.get?_update_other _ _ (Ne.symm hb)).trans hu) ⟨_, q⟩ ?_
  exact ⟨hz, out, _, r, q⟩
theorem sort_end {e1 : Nat} {kA xs : List V} {O : KeyOrd} {enc : O.α → PyData} {bs : List O.α} {us : List Value} {kv : Array Value} (I : Inv X pins σ H s) (hk : H kS = some (.lst kA)) (ha : H a = some (ExO a (seqObj "list" #[] e1))) (hz : xs.length ≤ sizeLine) (r : Vals xs us)
    (rk : Vals kA kv.toList) (hd : DpAll X.K H kA (bs.map enc)) (hl : bs.length = xs.length) (ok : KeySys X.prog X.w A O enc) :
    wpAny (model X.prog X.w) A (ksk_end a false us.toArray e1 (.ref kS) kv) (fun fin s' => fin = .done (.ret .none) ∧ Inv X pins σ (upd (upd H kS (.lst [])) a (.lst (ordV O xs bs))) s') E s := by
  have ek0 : EachIs (fun v b => ∃ as, Reads s.heap v (enc b) as) kv.toList bs := each_unmap (each_dps (P := X.prog) (w := X.w) (fun d v u => Dp.reads I d v u) hd rk)
  obtain ⟨ko, d, S, ek⟩ := ok.sorts s kv.toList bs ek0
  obtain ⟨kd, h1, h2⟩ := S.kind
  have hkl : kv.toList.length = us.length := by rw [ek.length, hl, r.length]
  have hsz : kv.size = us.length := by rw [← hkl, Array.length_toList]
  have ro := ord_of (d := d) hl r ek
  have hol : (ordV O xs bs).length ≤ sizeLine := by rw [ordV_len hl]; exact hz
  have hK : KeysOf ⟨O, ko, d⟩ (kv.zip us.toArray) := keysOf_zip S.keys
  have hss : (kv.zip us.toArray).size = us.length := by rw [Array.size_zip, hsz, List.size_toArray, Nat.min_self]
  have fin : ∀ st' : SortSt, (arrOf st').Perm (kv.zip us.toArray) → SortedToK ⟨O, ko, d⟩ (arrOf st') (kv.zip us.toArray).size → Stable ⟨O, ko, d⟩ (arrOf st') (kv.zip us.toArray) → (arrOf st').map (·.2) = (sortVals ⟨O, ko, d⟩ false kv.toList us).toArray := by
    intro st' hp hs ht
    have e := sort_out (rev := false) (keys := kv) (items := us.toArray) (xs := arrOf st') (κ := ⟨O, ko, d⟩) hK (by rw [if_neg Bool.false_ne_true]; exact hp) (by rw [if_neg Bool.false_ne_true]; exact hs) (by rw [if_neg Bool.false_ne_true]; exact ht)
    rw [if_neg Bool.false_ne_true] at e
    have e' := congrArg List.toArray e
    rw [Array.toArray_toList] at e'
    exact e'
  unfold ksk_end
  try dsimp only
  rw [if_neg Bool.false_ne_true, if_neg Bool.false_ne_true]
  by_cases hl2 : us.toArray.size < 2
  · rw [if_pos hl2, if_pos hl2]
    refine wpAny_bind (wpAny_pure ?_)
    rw [StateT.run_pure]
    refine wpAny_bind (wpAny_pure ?_)
    try dsimp only
    refine sort_tail I hk ha hol ro rfl (fin _ (Array.Perm.refl _) ?_ (Stable.refl _))
    intro i j hij hj
    rw [hss] at hj
    rw [List.size_toArray] at hl2
    have : i = j := by omega
    subst this
    exact KeyOrd.kle_refl _
  · rw [if_neg hl2, if_neg hl2]
    rw [List.size_toArray] at hl2
    refine wpAny_bind (h2 (by omega) _ ?_)
    refine wpAny_bind (wpAny_mono (PyProof.Rows.H.wpS_sortRunsSt (κ := ⟨O, ko, d⟩) (kd := kd) (a₀ := kv.zip us.toArray) (st := SortSt.mk' kd (kv.zip us.toArray) #[] 7 none)
      (Q := fun _ st' => failedOf st' = none ∧ (arrOf st').map (·.2) = (sortVals ⟨O, ko, d⟩ false kv.toList us).toArray)
      h1 hK ⟨Array.Perm.refl _, rfl, rfl⟩ rfl (Stable.refl _) (by rw [hss]; omega) fun st' a1 a2 a3 a4 => ⟨a2, fin st' a1 a3 a4⟩) ?_ fun _ _ e => e)
    rintro ⟨⟨⟩, st'⟩ s' ⟨rfl, hf, ho⟩
    try dsimp only at ho ⊢
    exact sort_tail I hk ha hol ro hf ho
end
end K16

end K16S2Text
section K16S3Text
set_option autoImplicit false
set_option linter.all false
set_option maxRecDepth 100000
set_option Elab.async false
namespace K16
open PySem PySem.Spec PySem.Calls PySem.W PyProof.Rows L2
section
variable {X : Cx} {pins : List (Addr × Obj)} {σ : L2.St} {H H2 : Hp} {s : Shared} {a kS : Addr} {T : Tb} {A : Around} {E : Value → Shared → Prop}
/-- the call of the key on each item -/
def Turns (X : Cx) (pins : List (Addr × Obj)) (σ : L2.St) (T : Tb) (A : Around) (H : Hp) (f : Value) (xs : List V) (ks : List PyData) : Prop :=
  ∀ (i : Nat) (x : V) (d : PyData) (u : Value) (H2 : Hp) (s2 : Shared), xs[i]? = some x → ks[i]? = some d → RelV x u → Inv X pins σ H2 s2 → Gr T H H2 →
    wpAny (model X.prog X.w) A (call f [u]) (EP X pins σ fun y H3 => Gr T H2 H3 ∧ Dp X.K H3 y d) (fun _ _ => False) s2
theorem sort_rest {f : Value} {e1 : Nat} {xs : List V} {O : KeyOrd} {enc : O.α → PyData} {bs : List O.α} {us : List Value} {H0 : Hp} (I : Inv X pins σ H s) (g : Gr T H0 H) (hk : H kS = some (.lst [])) (ha : H a = some (ExO a (seqObj "list" #[] e1))) (nk : Nw H0 kS) (na : Nw H0 a) (hz : xs.length ≤ sizeLine) (r : Vals xs us)
    (hl : bs.length = xs.length) (ok : KeySys X.prog X.w A O enc) (turn : Turns X pins σ T A H0 f xs (bs.map enc)) :
    wpAny (model X.prog X.w) A (ksk_rest a f false us.toArray e1 (.ref kS)) (fun fin s' => fin = .done (.ret .none) ∧ ∃ H', Inv X pins σ H' s' ∧ Gr T H0 H' ∧ H' a = some (.lst (ordV O xs bs))) E s := by
  have hka : a ≠ kS := ne_of ha hk fun z => by cases z
  unfold ksk_rest
  refine wpAny_bind (wpAny_rule ?_)
  first
    | rw [List.forIn_toArray]
    | (rw [← Array.forIn_toList]; simp only [List.toList_toArray])
    | rw [← Array.forIn_toList]
  refine wpAny_bind (ksk_fold (fun i s' => ∃ H2 kA, Inv X pins σ H2 s' ∧ Gr T H0 H2 ∧ H2 kS = some (.lst kA) ∧ H2 a = some (ExO a (seqObj "list" #[] e1)) ∧ DpAll X.K H2 kA ((bs.map enc).take i)) us 0 s
    ⟨H, [], I, g, hk, ha, by rw [List.take_zero]; exact .nil⟩ ?step ?done)
  case step =>
    rintro j u s' hu' ⟨H2, kA, I2, g02, hk2, ha2, hd⟩
    simp only [Nat.zero_add] at hd ⊢
    have hj : j < us.length := (List.getElem?_eq_some_iff.mp hu').1
    have hjx : j < xs.length := by rw [r.length]; exact hj
    obtain ⟨x, hx⟩ : ∃ x, xs[j]? = some x := ⟨_, List.getElem?_eq_getElem hjx⟩
    obtain ⟨k, hkj⟩ : ∃ k, (bs.map enc)[j]? = some k := ⟨_, List.getElem?_eq_getElem (by rw [List.length_map]; omega)⟩
    obtain ⟨u', e', rx⟩ := r.get hx
    rw [hu'] at e'
    cases e'
    have hkl : kA.length < xs.length := by
      rw [dps_len hd, List.length_take, List.length_map]
      omega
    refine wpAny_bind (wpAny_attempt (wpAny_mono (turn j x k u H2 s' hx hkj rx I2 g02) (fun v s'' he => ?_) fun _ _ hF => hF.elim))
    obtain ⟨y, H3, I3, ry, g3, hy⟩ := he
    try dsimp only
    have hk3 : H3 kS = some (.lst kA) := g3.stay hk2 True.intro
    have ha3 : H3 a = some (ExO a (seqObj "list" #[] e1)) := g3.ext _ _ ha2 fun _ z => by cases z
    obtain ⟨zk, its, m, rk, lk, nk3⟩ := I3.lstM hk3
    have nls : noLs (bs.map enc) = true := noLs_iff.mpr fun d hd => by
      obtain ⟨b, _, rfl⟩ := List.mem_map.mp hd
      exact ok.nol b
    have nl : noLs ((bs.map enc).take j) = true := noLs_iff.mpr fun d hd => noLs_iff.mp nls d (List.mem_of_mem_take hd)
    have nlk : noL k = true := noLs_iff.mp nls k (List.mem_of_getElem? hkj)
    refine wpAny_bind (listUpdate_at nk3 rfl ?_ (by rw [List.size_toArray, ← lk]; exact zk) (by rw [Array.size_push, List.size_toArray, ← lk]; omega))
    refine wpAny_pure ⟨rfl, _, kA ++ [y], I3.lset (t' := s''.toks) (its' := its ++ [v]) hk3 nk3 (by simp) (rk.append (.cons ry .nil)) (by rw [List.length_append, List.length_singleton]; omega), ?_, upd_same, ?_, ?_⟩
    · exact (g02.trans g3).mut nk hk3 True.intro
    · rw [upd_ne hka]
      exact ha3
    · rw [List.take_add_one, hkj]
      exact dps_snoc (dps_upd hk3 nl (dps_ext g3.ext hd)) (dp_upd hk3 nlk hy)
  case done =>
    rintro s' ⟨H2, kA, I2, g02, hk2, ha2, hd⟩
    have hd' : DpAll X.K H2 kA (bs.map enc) := by
      rw [List.take_of_length_le (by rw [Nat.zero_add, ← r.length, List.length_map]; omega)] at hd
      exact hd
    obtain ⟨zk, its, m, rk, lk, nk2⟩ := I2.lstM hk2
    try dsimp only
    refine wpAny_bind (listItems_at nk2 rfl ?_)
    refine wpAny_mono (sort_end (E := E) I2 hk2 ha2 hz r (kv := its.toArray) (by simpa using rk) hd' hl ok) (fun fin s3 hf => ⟨hf.1, _, hf.2, ?_, upd_same⟩) fun _ _ e => e
    have I5 : Inv X pins σ (upd H2 kS (.lst [])) _ := I2.lset (t' := s'.toks) (ys := []) (its' := []) (f := fun _ => #[]) hk2 nk2 rfl .nil (Nat.zero_le _)
    exact gr_ex I5 (g02.mut nk hk2 True.intro) na (by rw [upd_ne hka]; exact ha2) rfl
end
end K16

end K16S3Text
section K16S4Text
set_option autoImplicit false
set_option linter.all false
set_option maxRecDepth 100000
set_option Elab.async false
namespace K16
open PySem PySem.Spec PySem.Calls PySem.W PyProof.Rows L2
section
variable {X : Cx} {pins : List (Addr × Obj)} {σ : L2.St} {H H2 : Hp} {s : Shared} {a kS : Addr} {T : Tb} {A : Around} {E : Value → Shared → Prop}
theorem sort_tree {f : Value} {xs : List V} {O : KeyOrd} {enc : O.α → PyData} {bs : List O.α} {H0 : Hp} (I : Inv X pins σ H s) (g : Gr T H0 H) (ha : H a = some (.lst xs)) (na : Nw H0 a)
    (hl : bs.length = xs.length) (ok : KeySys X.prog X.w A O enc) (turn : Turns X pins σ T A H0 f xs (bs.map enc)) :
    wpAny (model X.prog X.w) A (ksk_tree a f false) (fun fin s' => fin = .done (.ret .none) ∧ ∃ H', Inv X pins σ H' s' ∧ Gr T H0 H' ∧ H' a = some (.lst (ordV O xs bs))) E s := by
  obtain ⟨hz, us, m, r, lr, ho⟩ := I.lstM ha
  obtain ⟨e1, ho1⟩ : ∃ e1, (s.heap.update a (Obj.mapSeq fun _ => (#[] : Array Value))).get? a = some (seqObj "list" #[] e1) := ⟨_, get?_update_seq ho fun _ => #[]⟩
  unfold ksk_tree
  refine wpAny_bind (listItems_at ho rfl ?_)
  refine wpAny_bind (listUpdate_at ho rfl ?_ (by rw [List.size_toArray, ← lr]; exact hz) (Nat.zero_le _))
  refine wpAny_bind (seqEpoch_at ho1 rfl ?_)
  refine wpAny_bind (wpAny_newTuple ?_ (by show us.length ≤ _; rw [← lr]; exact hz))
  refine wpAny_bind (wpAny_newList ?_ (Nat.zero_le _))
  refine wpAny_holding ?_
  have I1 := I.lset (t' := s.toks) (ys := []) (its' := []) (f := fun _ => #[]) ha ho rfl .nil (Nat.zero_le _)
  have I2 := I1.write (x := a) (e := a) (o := ExO a (seqObj "list" #[] e1)) (h' := s.heap.update a (Obj.mapSeq fun _ => (#[] : Array Value))) (t' := s.toks) (by rw [upd_same]; exact trivial) (.inl rfl) (fun _ _ _ hu => hu) ⟨_, ho1⟩ ⟨ho1, ⟨_, ho1⟩, fun h1 h2 e st => st _ e⟩
  have ha2 : upd (upd H a (.lst [])) a (ExO a (seqObj "list" #[] e1)) a = some (ExO a (seqObj "list" #[] e1)) := upd_same
  have I3 : Inv X pins σ (upd (upd H a (.lst [])) a (ExO a (seqObj "list" #[] e1))) { s with heap := (s.heap.update a (Obj.mapSeq fun _ => (#[] : Array Value))).push { cls := .type "tuple", data := .seq us.toArray }, toks := s.toks } := I2.kept fun b o e => Heap.get?_push_of_some _ e
  have nk := I3.fresh
  have I4 := I3.lnew (its := []) (ys := []) (t' := s.toks) .nil (Nat.zero_le _)
  have g1 : Gr T H0 (upd H a (.lst [])) := g.mut na ha True.intro
  have g2 : Gr T H0 (upd (upd H a (.lst [])) a (ExO a (seqObj "list" #[] e1))) := g1.mut na upd_same True.intro
  have hka := ne_of_none ha2 nk
  refine sort_rest I4 (g2.add nk) upd_same (by rw [upd_ne hka]; exact ha2) (g2.nn (nw_none nk)) na hz r hl ok turn
theorem plain_obj {l : Addr} {its : List Value} (h : PlainL s.heap l its.toArray) : ∃ o n, s.heap.get? l = some o ∧ o.cls = .type "list" ∧ o.data = .seq its.toArray n := by
  obtain ⟨o, ho, hc, n, hd⟩ := h.isList
  exact ⟨o, n, ho, hc, hd⟩
theorem sorted_call {f : Addr} {l : Addr} {xs : List V} {O : KeyOrd} {enc : O.α → PyData} {bs : List O.α} {Q : VK} (I : Inv X pins σ H s) (hT : LamX.Tabs T H) (hs : SqL X.K H l xs ∨ SqT X.K H l xs) (hl : bs.length = xs.length) (ok : KeySys X.prog X.w A.in1.in1 O enc)
    (turn : Turns X pins σ T A.in1.in1 H (.ref f) xs (bs.map enc)) (q : ∀ p H', Nw H p → Gr T H H' → H' p = some (.lst (ordV O xs bs)) → Q (.ref p) H') :
    wpAny (model X.prog X.w) A (call (.builtin "sorted") [.ref l] [(Str.ofString "key", .ref f)]) (EP X pins σ Q) E s := by
  have src : ∃ (its : List Value) (ty : String) (o : Obj) (m : Nat), Vals xs its ∧ (ty = "list" ∨ ty = "tuple") ∧ s.heap.get? l = some o ∧ o.cls = .type ty ∧ o.data = .seq its.toArray m ∧ xs.length ≤ sizeLine := by
    rcases hs with hs | hs
    · obtain ⟨its, rv, hp, hz⟩ := I.list hs
      obtain ⟨o, m, h1, h2, h3⟩ := plain_obj hp
      exact ⟨its, "list", o, m, rv, .inl rfl, h1, h2, h3, hz⟩
    · obtain ⟨its, rv, hp, hz⟩ := I.tuple hs
      obtain ⟨o, h1, h2, m, h3⟩ := hp
      exact ⟨its, "tuple", o, m, rv, .inr rfl, h1, h2, h3, hz⟩
  obtain ⟨its, ty, o, m, rv, hty, ho, hc, hd, hz⟩ := src
  refine call_function_entry_kw kind_sorted plain_sorted entry_sorted (ksk_s1 _ _) ?_
  unfold Builtin.«sorted»
  refine wpAny_bind (m := checkCount "sorted" 1 1 _) (wpAny_pure ?_)
  refine wpAny_bind (wpAny_collect_seq l hty ho hc hd (fun h1 keep => ?_) (by rw [List.size_toArray, ← rv.length]; exact hz))
  refine wpAny_bind (wpAny_newList ?_ (by show its.length ≤ _; rw [← rv.length]; exact hz))
  have I1 : Inv X pins σ H { s with heap := h1, toks := s.toks } := I.kept keep
  have hn := I1.fresh
  have I2 := I1.lnew (its := its) (ys := xs) (t' := s.toks) rv hz
  have g : Gr T H (upd H h1.objs.size (.lst xs)) := .new hT hn
  obtain ⟨z2, its2, n2, r2, l2, ho2⟩ := I2.lstM (l := h1.objs.size) upd_same
  refine wpAny_bind (wpAny_holding (wpAny_call_entry_kw slot_list_sort ⟨_, ho2, rfl⟩ entry_list_sort ?body (ksk_l1 _ _)))
  case body =>
    rw [ksk_t1]
    refine wpAny_mono (sort_tree (A := A.in1.in1) I2 g upd_same (nw_none hn) hl ok turn) (fun fin s' hf => ?_) fun _ _ e => e
    obtain ⟨rfl, H', I', g', h'⟩ := hf
    exact ⟨_, rfl, wpAny_pure ⟨_, rfl, .ref h1.objs.size, H', I', rfl, q _ H' (nw_none hn) g' h'⟩⟩
end
end K16

end K16S4Text
section K16S5Text
set_option autoImplicit false
set_option linter.all false
set_option maxRecDepth 100000
set_option Elab.async false
namespace K16
open PySem PySem.Spec PySem.Calls PySem.W PyProof.Rows L2 NdefX
/-- the words of a lambda as a nested function's -/
abbrev lamF (qual : Str) (params : Arguments) (scope : Scope) (cl : List (Str × Addr)) (c' : Addr) : NF := ⟨"<lambda>", qual, params, [], scope, cl, c'⟩
abbrev lamC (X : Cx) (N' : List Str) (params : Arguments) (scope : Scope) (f c' : Addr) (A : Around) (outer : List Env) (s : Shared) (H : Hp) : Cx :=
  ncx CX0 X.prog X.w X.K X.mg X.base N' (lamF (X.env.qual ++ "<lambda>") params scope (cloFrom X.env.cells scope.names []) c') f A outer s H E0
section
variable {X : Cx} {pins : List (Addr × Obj)} {σ : L2.St} {H : Hp} {s : Shared}
theorem lam_turn {A : Around} {N' fr : List Str} {js : List Nat} {a : Str} {f c' : Addr} {params : Arguments} {body : Expr} {scope : Scope} {pm ctv : Value} {k : Nat} {x : V} {u : Value} {tb : TE} {Q : VK} {E : Value → Shared → Prop}
    (I : Inv X pins σ H s) (e0 : Env0 X.prog X.w X.K X.mg X.base A X.stack s H) (hr : Room (k + 1) A) (S : NScope N' [a] fr scope) (cp : Caps X (cloFrom X.env.cells scope.names []) fr js)
    (hf : s.heap.get? f = some (kla_obj "<lambda>" (X.env.qual ++ "<lambda>") params body scope (cloFrom X.env.cells scope.names []) pm c' ctv)) (hc : H c' = some (LamX.CodeO c' (X.env.qual ++ "<lambda>")))
    (hbind : bindArgs (kla_fn "<lambda>" (X.env.qual ++ "<lambda>") params body scope (cloFrom X.env.cells scope.names []) pm (.ref c') ctv) ⟨[u], []⟩ = pure [(a, u)]) (r : RelV x u)
    (hbody : PE (lamC X N' params scope f c' A X.stack s H) body tb) (ht : tb (startF N' [x] (js.map (slotAt σ))) H Q) :
    wpAny (model X.prog X.w) A (call (.ref f) [u]) (EP X pins σ Q) E s := by
  have rc : codeAny (model X.prog X.w) A (.call (.ref f) ⟨[u], []⟩) (CR CX0 X.stack X.prog X.w H s Q E0) s := by
    refine kla_callFunE hr.depth hf rfl S.co S.gen rfl (codeO_at I.hok hc) ?_
    rw [hbind]
    refine wpAny_pure (wpAny_newFunctionEnv S.nocell (fun y hy => ?_) (fun h₁ hns hsb => ⟨I.nolimit.fresh _ hsb, ?_⟩) S.kind)
    · have : y = (a, u) := by simpa using hy
      rw [this]
      exact S.par a (List.mem_singleton.mpr rfl)
    show codeAny _ _ (.expr body (envF (lamF (X.env.qual ++ "<lambda>") params scope (cloFrom X.env.cells scope.names []) c') f s.heap.objs.size)) _ _
    have kp : ∀ b o, s.heap.get? b = some o → h₁.get? b = some o := fun b o e => hsb.extBut b o (Nat.ne_of_lt (Heap.lt_size e)) (Heap.get?_push_of_some _ e)
    have J : Inv (lamC X N' params scope f c' A X.stack s H) [] (startF N' [x] (js.map (slotAt σ))) H { s with heap := h₁, toks := s.toks + ([a].zip [u]).length } :=
      inv_startN S hr.hd e0 rfl (.cons r .nil) (cells_of I cp) hns kp
    refine kla_codeExpr (wpAny_mono (hbody.run [] _ _ H Q J ht) (fun v s' hq => ?_) fun e s' hq => hq)
    obtain ⟨w', H', J', rv, q⟩ := hq
    exact ⟨w', H', J'.os, J'.bare, J'.base, J'.hok, rv, q⟩
  refine wpAny_call (codeAny_mono rc fun r s' hq => ?_)
  cases r with
  | error e => exact (show False from hq).elim
  | ok fl =>
    cases fl with
    | ret u => exact I.after hq
    | next => exact False.elim hq
    | brk => exact False.elim hq
    | cont => exact False.elim hq
end
def tSortK (K : PySem.W.Frag) (T : Tb) (N' : List Str) (js : List Nat) (O : KeyOrd) (enc : O.α → PyData) (tb : TE) (ta : TA) : TE := fun σ H Q => ta σ H fun vs H1 => ∃ l xs bs, vs = [V.ref l] ∧ (SqL K H1 l xs ∨ SqT K H1 l xs) ∧ LamX.Tabs T H1 ∧ bs.length = xs.length ∧
  (∀ (i : Nat) (x : V) (d : PyData), xs[i]? = some x → (bs.map enc)[i]? = some d → ∀ H2, Gr T H1 H2 → ∀ Q' : VK, (∀ y H3, Gr T H2 H3 → Dp K H3 y d → Q' y H3) → tb (startF N' [x] (js.map (slotAt σ))) H2 Q') ∧
  ∀ p H', Nw H1 p → Gr T H1 H' → H' p = some (.lst (ordV O xs bs)) → Q (.ref p) H'
theorem pe_sortK {X : Cx} {T : Tb} {c P : Addr} {N' fr : List Str} {js : List Nat} {a : Str} {params : Arguments} {body e : Expr} {scope : Scope} {lpos kp p pos : Pos} {k j : Nat} {O : KeyOrd} {enc : O.α → PyData} {tb : TE} {ta : TA}
    (hg : Gl X "sorted") (hm : X.mg "sorted" = none) (ha : PA X [e] ta) (TB : LamX.TabB X.base X.mg c P) (hcode : X.env.code = .ref c) (hmT : (P, X.env.qual ++ "<lambda>") ∈ T) (hu : ∀ p ∈ T, p.1 = P → p.2 = X.env.qual ++ "<lambda>")
    (S : NScope N' [a] fr scope) (hfree : ∀ y ∈ scope.names, y.2 = .free → X.env.scope.names.lookup y.1 = some .cell ∨ X.env.scope.names.lookup y.1 = some .free) (hfr : ∀ y ∈ fr, (y, NameKind.free) ∈ scope.names) (hjs : js.map (fun j => X.N[j]?) = fr.map some)
    (hr : Room j X.A) (hk : k + 3 ≤ j) (ok : KeySys X.prog X.w X.A.in1.in1 O enc)
    (hbody : ∀ (f c' : Addr) (A : Around) (outer : List Env) (s : Shared) (H : Hp), Room k (A.deeper (envF (lamF (X.env.qual ++ "<lambda>") params scope (cloFrom X.env.cells scope.names []) c') f s.heap.objs.size)) → PE (lamC X N' params scope f c' A outer s H) body tb)
    (hst : frs X.stack = X.env.locals :: X.fs)
    (hbind : ∀ (q : Str) (cl : List (Str × Addr)) (pm cv ctv u : Value), bindArgs (kla_fn "<lambda>" q params body scope cl pm cv ctv) ⟨[u], []⟩ = pure [(a, u)])
    (hdef : defaultsOf params X.env = ([], []) := by rfl)
    (he' : backTo pos (starEach [e] X.env) = (false, eval e X.env) :: backTo pos (starEach [] X.env) := by rfl) (hpl : (backTo pos (starEach [e] X.env)).any (·.1) = false := by rfl)
    (hall : (backToKw pos (keywordEach [⟨some "key", .Lambda params body scope lpos, kp⟩] X.env)).all (·.1.isSome) = true := by rfl) (hnone : (backToKw pos (keywordEach [⟨some "key", .Lambda params body scope lpos, kp⟩] X.env)).any (·.1.isNone) = false := by rfl)
    (hks : (backToKw pos (keywordEach [⟨some "key", .Lambda params body scope lpos, kp⟩] X.env)).filterMap (·.1) = [Str.ofString "key"] := by rfl) :
    PE X (.Call (.Name "sorted" p) [e] [⟨some "key", .Lambda params body scope lpos, kp⟩] pos) (tSortK X.K T N' js O enc tb ta) := by
  refine ⟨fun pins s σ H Q I h => ?_⟩
  refine wpAny_Call_Name_kw (ld_blt I hg hm (u := .builtin "sorted") (by decide +kernel) ?_)
  refine PyProof.Rows.callWith_kw (thn (ha.run pos pins s σ H _ I h) fun us s1 ⟨vs, H1, I1, r1, q1⟩ => ?_) he' hpl hall hnone
  obtain ⟨l, xs, bs, rfl, hs, hT, hl, ht, q⟩ := q1
  obtain rfl := Vals.ref1 r1
  rw [hks]
  refine kws_cons (LamX.lam_make2 I1 TB hcode hmT hu hT hdef (fun y hy e => (hfree y hy e).elim (fun z => I1.ok.has _ (.inl z)) fun z => I1.ok.has _ (.inr z)) fun f c' pm ctv H2 s2 I2 eN T2 hf hfn hfr' hc => ?_)
  refine kws_nil ?_
  have np : Inv X (pins ++ [(f, kla_obj "<lambda>" (X.env.qual ++ "<lambda>") params body scope (cloFrom X.env.cells scope.names []) pm c' ctv)]) σ H2 s2 := I2.pins_of fun p hp => by
    rcases List.mem_append.mp hp with hp | hp
    · exact I2.pin p (List.mem_append_right _ hp)
    · obtain rfl := List.mem_singleton.mp hp
      rw [hst] at hfr'
      exact ⟨hf, hfn, fun z => hfr' (by rw [← z]; exact List.mem_cons_self ..), fun z => hfr' (List.mem_cons_of_mem _ z), fun v z => by cases z⟩
  have g2 : Gr T H1 H2 := ⟨eN, T2⟩
  have hs2 : SqL X.K H2 l xs ∨ SqT X.K H2 l xs := hs.imp (sq_ext eN) (st_ext eN)
  refine wpAny_mono (sorted_call (Q := Q) np T2 hs2 hl ok ?_ ?_) (fun v s3 hv => ?_) fun _ _ e => e
  · intro i x d u H3 s3 hx hd rx I3 g3
    have hp3 : s3.heap.get? f = some (kla_obj "<lambda>" (X.env.qual ++ "<lambda>") params body scope (cloFrom X.env.cells scope.names []) pm c' ctv) := (I3.pin (f, _) (List.mem_append_right _ (List.mem_append_right _ (List.mem_singleton.mpr rfl)))).1
    have hc3 : H3 c' = some (LamX.CodeO c' (X.env.qual ++ "<lambda>")) := g3.ext _ _ hc fun ps z => LamX.codeO_ne ps z
    have hr3 : Room (k + 1) X.A.in1.in1 := (hr.mono (j := k + 3) hk).in1.in1
    refine lam_turn I3 I3.env0.in1.in1 hr3 S (Caps.made I3.ok hfree hfr hjs) hp3 hc3 (hbind _ _ _ _ _ _) rx (hbody _ _ _ _ _ _ (hr3.deeper _)) ?_
    exact ht i x d hx hd H3 (g2.trans g3) _ fun y H4 g4 hy => ⟨g4, hy⟩
  · exact fun p H' hp g hp' => q p H' (g2.nn hp) (g2.trans g) hp'
  · obtain ⟨y, H', I', ry, q'⟩ := hv
    exact ⟨y, H', I'.unpinned, ry, q'⟩
end K16

end K16S5Text
section K16KText
set_option autoImplicit false
set_option linter.all false
set_option maxRecDepth 100000
set_option Elab.async false
/-! Keys: what Python's < says of them. -/
namespace K16
open PySem PySem.Spec PySem.Calls PySem.W PyProof.Rows PySem.SeqAt
/-- the first places that differ give r by G; where none differs, the lengths -/
def FstR (G : PyData → PyData → Bool → Prop) : List PyData → List PyData → Bool → Prop
  | [], [], r => r = false
  | [], _ :: _, r => r = true
  | _ :: _, [], r => r = false
  | x :: xs, y :: ys, r => if PyData.eqv x y = true then FstR G xs ys r else G x y r
theorem FstR.end_ {G : PyData → PyData → Bool → Prop} : ∀ {xs ys : List PyData} {r : Bool}, (xs = [] ∨ ys = []) → FstR G xs ys r → r = decide (xs.length < ys.length)
  | [], [], r, _, h => by simpa [FstR] using h
  | [], _ :: _, r, _, h => by simpa [FstR] using h
  | _ :: _, [], r, _, h => by simpa [FstR] using h
  | _ :: _, _ :: _, r, h, _ => by simp at h
section
open AutoSeq1 (wpAny_loadPart')
/-- x op y at the first difference alone -/
theorem tup_ltF (l b : Addr) (items items2 : Array Value) (n n2 : Nat) (dd dd2 : Option Addr) (sl sl2 : Array (Option Value)) (xs ys : List PyData) (r : Bool) :
    Meets (Builtin.«tuple.__lt__» ⟨[.ref l, .ref b], []⟩)
      (fun A R s => s.heap.get? l = some { cls := .type "tuple", dict := dd, data := .seq items n, slots := sl } ∧ s.heap.get? b = some { cls := .type "tuple", dict := dd2, data := .seq items2 n2, slots := sl2 } ∧
        items.size = xs.length ∧ items2.size = ys.length ∧
        (∀ j (h1 : j < items.size) (h2 : j < items2.size), EqAt A.in1 s items[j] items2[j] (PyData.eqv (xs.getD j .none) (ys.getD j .none))) ∧
        FstR (fun x y r => ∀ j (h1 : j < items.size) (h2 : j < items2.size), xs.getD j .none = x → ys.getD j .none = y → RcLt A.in1 s items[j] items2[j] r) xs ys r ∧
        R (.ok (.ret (.bool r))) s) :=
  .of_wp fun prog w A R s h => by
    obtain ⟨hp, g, d, tk, os⟩ := s; obtain ⟨hl, hb, hxs, hys, he, hr, h⟩ := h
    have f2 := AutoSeq1.sub_tuple_tuple
    have hZ : (items.toList.zip items2.toList).length = min items.size items2.size := by simp
    wp_walk using wpAny_loadPart' hl, wpAny_loadPart' hb, wpAny_forIn_list _ (fun rest b s' => b.1 = none ∧ s' = ⟨hp, g, d, tk, os⟩ ∧ ∃ i, rest = (items.toList.zip items2.toList).drop i ∧ i ≤ min items.size items2.size ∧
      FstR (fun x y r => ∀ j (h1 : j < items.size) (h2 : j < items2.size), xs.getD j .none = x → ys.getD j .none = y → RcLt A.in1 ⟨hp, g, d, tk, os⟩ items[j] items2[j] r) (xs.drop i) (ys.drop i) r) _
    case turn =>
      rintro ⟨y, x⟩ rest b s' ⟨hb', rfl, i, hz, hi, hR⟩
      have hlt : i < (items.toList.zip items2.toList).length := by
        rcases Nat.lt_or_ge i (items.toList.zip items2.toList).length with h' | h'
        · exact h'
        · rw [List.drop_of_length_le h'] at hz; cases hz
      have hm : i < min items.size items2.size := hZ ▸ hlt
      have h1 : i < items.size := Nat.lt_of_lt_of_le hm (Nat.min_le_left _ _)
      have h2 : i < items2.size := Nat.lt_of_lt_of_le hm (Nat.min_le_right _ _)
      rw [List.drop_eq_getElem_cons hlt] at hz
      injection hz with hyx hrest
      have hy : y = items[i] := by have := congrArg Prod.fst hyx; simpa using this
      have hx : x = items2[i] := by have := congrArg Prod.snd hyx; simpa using this
      subst hy hx
      have g1 : xs[i]'(by omega) = xs.getD i .none := by simp [List.getD, List.getElem?_eq_getElem (show i < xs.length by omega)]
      have g2 : ys[i]'(by omega) = ys.getD i .none := by simp [List.getD, List.getElem?_eq_getElem (show i < ys.length by omega)]
      rw [List.drop_eq_getElem_cons (show i < xs.length by omega), List.drop_eq_getElem_cons (show i < ys.length by omega), FstR, g1, g2] at hR
      refine wpAny_bind (he i h1 h2 prog w _ _ ?_)
      cases hy : PyData.eqv (xs.getD i .none) (ys.getD i .none) with
      | true =>
        rw [hy, if_pos rfl] at hR
        wp_walk
        exact ⟨rfl, rfl, i + 1, hrest, hm, hR⟩
      | false =>
        rw [hy, if_neg Bool.false_ne_true] at hR
        have hri := hR i h1 h2 rfl rfl prog w
        wp_walk using hri
        exact ⟨_, rfl, by simpa using h⟩
    case fin =>
      rintro ⟨b1, b2⟩ s' ⟨hb', rfl, i, hz, hi, hR⟩
      simp only at hb'
      subst hb'
      have hge : min items.size items2.size ≤ i := by
        rcases Nat.lt_or_ge i (items.toList.zip items2.toList).length with h' | h'
        · rw [List.drop_eq_getElem_cons h'] at hz; cases hz
        · exact hZ ▸ h'
      have e := FstR.end_ (xs := xs.drop i) (ys := ys.drop i) (by
        rw [List.drop_eq_nil_iff, List.drop_eq_nil_iff]
        omega) hR
      have e2 : r = decide (items.size < items2.size) := by
        rw [e, List.length_drop, List.length_drop]
        exact decide_eq_decide.mpr (by omega)
      rw [e2] at h
      wp_walk
      exact ⟨_, rfl, by simpa [Builtin.Tuple.tupleCompareSizes] using h⟩
    case h =>
      exact ⟨rfl, rfl, 0, rfl, Nat.zero_le _, hr⟩
theorem reads_eqs {h : Heap} {st : Shared} {A : Around} : ∀ {xs ys : List PyData} {vs ws : List Value} {as bs : List Addr}, ReadsAll st.heap vs xs as → ReadsAll st.heap ws ys bs → PyData.plainAll xs = true → PyData.plainAll ys = true → (∀ x ∈ xs, A.units + x.depth < cLine) →
    ∀ j (h1 : j < vs.length) (h2 : j < ws.length), EqAt A st vs[j] ws[j] (PyData.eqv (xs.getD j .none) (ys.getD j .none))
  | _, _, _, _, _, _, .nil, _, _, _, _, j, h1, _ => by simp at h1
  | _, _, _, _, _, _, .cons _ _, .nil, _, _, _, j, _, h2 => by simp at h2
  | x :: xs, y :: ys, _, _, _, _, .cons r rs, .cons r' rs', hx, hy, hu, 0, h1, h2 => by
    rw [PyData.plainAll, Bool.and_eq_true] at hx hy
    exact eqAt_plain x y A st _ _ _ _ r r' hx.1 hy.1 (Nat.lt_of_le_of_lt (Nat.add_le_add_left (Nat.min_le_left _ _) _) (hu x (List.mem_cons_self ..)))
  | x :: xs, y :: ys, _, _, _, _, .cons r rs, .cons r' rs', hx, hy, hu, j + 1, h1, h2 => by
    rw [PyData.plainAll, Bool.and_eq_true] at hx hy
    exact reads_eqs (h := h) rs rs' hx.2 hy.2 (fun z hz => hu z (List.mem_cons_of_mem _ hz)) j (by simpa using h1) (by simpa using h2)
theorem reads_get {st : Shared} : ∀ {xs : List PyData} {vs : List Value} {as : List Addr}, ReadsAll st.heap vs xs as → ∀ j (h1 : j < vs.length), ∃ bs, Reads st.heap vs[j] (xs.getD j .none) bs
  | _, _, _, .nil, j, h1 => by simp at h1
  | _, _, _, .cons r _, 0, _ => ⟨_, r⟩
  | _, _, _, .cons _ rs, j + 1, h1 => reads_get rs j (by simpa using h1)
theorem FstR.imp {G G' : PyData → PyData → Bool → Prop} (h : ∀ x y r, G x y r → G' x y r) : ∀ {xs ys : List PyData} {r : Bool}, FstR G xs ys r → FstR G' xs ys r
  | [], [], r, e => e
  | [], _ :: _, r, e => e
  | _ :: _, [], r, e => e
  | x :: xs, y :: ys, r, e => by
    rw [FstR] at e ⊢
    split at e
    · rw [if_pos (by assumption)]
      exact FstR.imp h e
    · rw [if_neg (by assumption)]
      exact h _ _ _ e
theorem depth_mem : ∀ {xs : List PyData} {x : PyData}, x ∈ xs → x.depth ≤ PyData.depthAll xs
  | y :: ys, x, h => by
    rw [PyData.depthAll]
    rcases List.mem_cons.mp h with e | h
    · rw [e]
      exact Nat.le_max_left _ _
    · exact Nat.le_trans (depth_mem h) (Nat.le_max_right _ _)
/-- what < says of x and y, wherever they stand -/
def LtS (A : Around) (st : Shared) (x y : PyData) (r : Bool) : Prop := ∀ a b as bs, Reads st.heap a x as → Reads st.heap b y bs → RcLt A st a b r
section
variable {A : Around} {st : Shared} {xs ys : List PyData} {a b : Value} {as bs : List Addr} {r : Bool}
theorem tup_facts (ra : Reads st.heap a (.tuple xs) as) (rb : Reads st.heap b (.tuple ys) bs) (px : PyData.plainAll xs = true) (py : PyData.plainAll ys = true) (hu : A.units + (PyData.tuple xs).depth < cLine) (hF : FstR (LtS A.in1 st) xs ys r) :
    ∃ (l l' : Addr) (items items2 : Array Value) (n n2 : Nat) (dd dd2 : Option Addr) (sl sl2 : Array (Option Value)), a = .ref l ∧ b = .ref l' ∧ st.heap.get? l = some { cls := .type "tuple", dict := dd, data := .seq items n, slots := sl } ∧ st.heap.get? l' = some { cls := .type "tuple", dict := dd2, data := .seq items2 n2, slots := sl2 } ∧
      items.size = xs.length ∧ items2.size = ys.length ∧ (∀ j (h1 : j < items.size) (h2 : j < items2.size), EqAt A.in1 st items[j] items2[j] (PyData.eqv (xs.getD j .none) (ys.getD j .none))) ∧
      FstR (fun x y r => ∀ j (h1 : j < items.size) (h2 : j < items2.size), xs.getD j .none = x → ys.getD j .none = y → RcLt A.in1 st items[j] items2[j] r) xs ys r := by
  cases ra with
  | @tuple l o vs n _ as₁ h1 h2 h3 h4 =>
    cases rb with
    | @tuple l' o' vs' n' _ bs₁ k1 k2 k3 k4 =>
      obtain ⟨cls, dd, data, sl⟩ := o
      obtain ⟨cls', dd', data', sl'⟩ := o'
      simp only at h2 h3 k2 k3
      subst h2 h3 k2 k3
      have n1 : vs.size = xs.length := by simpa using ReadsAll.length _ _ _ h4
      have n2 : vs'.size = ys.length := by simpa using ReadsAll.length _ _ _ k4
      refine ⟨l, l', vs, vs', n, n', dd, dd', sl, sl', rfl, rfl, h1, k1, n1, n2, fun j j1 j2 => ?_, FstR.imp (fun x y r q j j1 j2 e1 e2 => ?_) hF⟩
      · have := reads_eqs (h := st.heap) (A := A.in1) h4 k4 px py (fun x hx => by
          have := depth_mem hx
          rw [PyData.depth] at hu
          show A.units + 1 + x.depth < cLine
          omega) j (by simpa using j1) (by simpa using j2)
        simpa using this
      · obtain ⟨_, q1⟩ := reads_get h4 j (by simpa using j1)
        obtain ⟨_, q2⟩ := reads_get k4 j (by simpa using j2)
        rw [e1] at q1
        rw [e2] at q2
        exact q _ _ _ _ (by simpa using q1) (by simpa using q2)
theorem rcLt_tup (ra : Reads st.heap a (.tuple xs) as) (rb : Reads st.heap b (.tuple ys) bs) (px : PyData.plainAll xs = true) (py : PyData.plainAll ys = true) (hu : A.units + (PyData.tuple xs).depth < cLine) (hF : FstR (LtS A.in1 st) xs ys r) : RcLt A st a b r := fun prog w E Q h => by
  obtain ⟨l, l', items, items2, n, n2, dd, dd2, sl, sl2, rfl, rfl, ho, ho2, h1, h2, h3, h4⟩ := tup_facts ra rb px py hu hF
  exact richCompare_meets_room (op := .Lt) ⟨_, ho, rfl⟩ ⟨_, ho2, rfl⟩ F.slot_tuple_lt F.entry_tuple_lt (F.args_tuple_lt_2 _ _) (tup_ltF l l' items items2 n n2 dd dd2 sl sl2 xs ys r)
    ⟨ho, ho2, h1, h2, h3, h4, ⟨(fun x => nomatch x), h⟩⟩ (by omega)
theorem oneLt_tupF {prog : Program} {w : World} {E : Value → Shared → Prop} {Q : Bool → Shared → Prop} (ra : Reads st.heap a (.tuple xs) as) (rb : Reads st.heap b (.tuple ys) bs) (px : PyData.plainAll xs = true) (py : PyData.plainAll ys = true) (hu : A.units + (PyData.tuple xs).depth < cLine) (hF : FstR (LtS A.in1 st) xs ys r)
    (hq : Q r st) : wpAny (model prog w) A (oneLt' true a b) Q E st := by
  obtain ⟨l, l', items, items2, n, n2, dd, dd2, sl, sl2, rfl, rfl, ho, ho2, h1, h2, h3, h4⟩ := tup_facts ra rb px py hu hF
  rw [oneLt'_eq]
  simp only [if_true]
  refine wpAny_bind (wpAny_cRoomFor (by omega) ?_)
  refine wpAny_bind (wpAny_callSpecialIfBound?_slot (T := "tuple") ⟨_, ho, rfl⟩ F.slot_tuple_lt (call_meets F.slot_tuple_lt ⟨_, ho, rfl⟩ F.entry_tuple_lt (F.args_tuple_lt_2 _ _) (tup_ltF l l' items items2 n n2 dd dd2 sl sl2 xs ys r) ⟨ho, ho2, h1, h2, h3, h4, ?_⟩))
  exact wpAny_truthy_bool hq
/-- two keys that are tuples, as sorting compares where all are nonempty tuples; f: the first items are whole numbers -/
theorem kat_row {prog : Program} {w : World} {f fin : Bool} {Q : Bool → Shared → Prop} : ∀ {xs ys : List PyData} {vs ws : List Value} {as bs : List Addr} {i : Nat}, ReadsAll st.heap vs xs as → ReadsAll st.heap ws ys bs → PyData.plainAll xs = true → PyData.plainAll ys = true → (∀ x ∈ xs, A.units + x.depth < cLine) →
    FstR (LtS A st) xs ys r → (f = true → i = 0 → ∀ x xs' y ys', xs = x :: xs' → ys = y :: ys' → ∃ p q : Int, x = .int p ∧ y = .int q ∧ (p ≠ q → r = decide (p < q))) → fin = decide (xs.length < ys.length) → Q r st → KatLex prog w A f fin Q (vs.zip ws) i st
  | [], [], _, _, _, _, _, .nil, .nil, _, _, _, hF, _, hf, hq => kat_nil (by
      have : r = false := hF
      rw [hf, ← this.trans (by simp : false = decide (([] : List PyData).length < ([] : List PyData).length))]
      exact hq)
  | [], _ :: _, _, _, _, _, _, .nil, _, _, _, _, hF, _, hf, hq => by
    rw [List.zip_nil_left]
    have : r = true := hF
    exact kat_nil (by rw [hf]; rw [this] at hq; simpa using hq)
  | _ :: _, [], _, _, _, _, _, _, .nil, _, _, _, hF, _, hf, hq => by
    rw [List.zip_nil_right]
    have : r = false := hF
    exact kat_nil (by rw [hf]; rw [this] at hq; simpa using hq)
  | x :: xs, y :: ys, _, _, _, _, i, .cons r1 rs, .cons r1' rs', hx, hy, hu, hF, hi, hf, hq => by
    rw [PyData.plainAll, Bool.and_eq_true] at hx hy
    rw [List.zip_cons_cons]
    refine kat_cons (eqAt_plain x y A st _ _ _ _ r1 r1' hx.1 hy.1 (Nat.lt_of_le_of_lt (Nat.add_le_add_left (Nat.min_le_left _ _) _) (hu x (List.mem_cons_self ..))) prog w _ _ ?_)
    rw [FstR] at hF
    cases e : PyData.eqv x y with
    | true =>
      rw [e, if_pos rfl] at hF
      exact kat_yes (kat_row rs rs' hx.2 hy.2 (fun z hz => hu z (List.mem_cons_of_mem _ hz)) hF (fun _ z => absurd z (Nat.succ_ne_zero i)) (by rw [hf]; exact decide_eq_decide.mpr (by simp)) hq)
    | false =>
      rw [e, if_neg Bool.false_ne_true] at hF
      refine kat_no ?_
      cases hb : (f && i == 0) with
      | false =>
        rw [oneLt'_eq]
        simp only [Bool.false_eq_true, if_false]
        exact wpAny_bind (hF _ _ _ _ r1 r1' prog w _ _ (wpAny_truthy_bool hq))
      | true =>
        rw [Bool.and_eq_true, beq_iff_eq] at hb
        obtain ⟨p, q, rfl, rfl, hr⟩ := hi hb.1 hb.2 _ _ _ _ rfl rfl
        cases r1
        cases r1'
        have hpq : p ≠ q := fun z => by
          rw [z] at e
          simp [PyData.eqv] at e
        rw [hr hpq] at hq
        exact oneLt_int hq
end
end
end K16

end K16KText
section K16K2Text
set_option autoImplicit false
set_option linter.all false
set_option maxRecDepth 100000
set_option Elab.async false
namespace K16
open PySem PySem.Spec PySem.Calls PySem.W PyProof.Rows PySem.SeqAt
/-- the key of a value: m: a mark's, a count's key is a tuple -/
def kd (m : Bool) : (s : So) → Va s → PyData
  | .mark ls => fun (i : _root_.Fin ls.length) => if m = true then .tuple [.int (i.val : Int)] else .int (i.val : Int)
  | .count => fun (n : Nat) => if m = true then .tuple [.int (n : Int)] else .int (n : Int)
  | .both a b => fun v => .tuple [kd m a v.1, kd m b v.2]
  | .either a b => fun v => match v with
    | .inl v => .tuple [.int 0, kd m a v]
    | .inr v => .tuple [.int 1, kd m b v]
  | .lane a => fun (v : List (Va a)) => .tuple (v.map (kd m a))
  | .heap a => fun (v : List (Va a)) => .tuple (v.map (kd m a))
def isT (m : Bool) : So → Bool
  | .mark _ => m
  | .count => m
  | _ => true
/-- the items of a key that is a tuple -/
def row (m : Bool) : (s : So) → Va s → List PyData
  | .mark ls => fun (i : _root_.Fin ls.length) => [.int (i.val : Int)]
  | .count => fun (n : Nat) => [.int (n : Int)]
  | .both a b => fun v => [kd m a v.1, kd m b v.2]
  | .either a b => fun v => match v with
    | .inl v => [.int 0, kd m a v]
    | .inr v => [.int 1, kd m b v]
  | .lane a => fun (v : List (Va a)) => v.map (kd m a)
  | .heap a => fun (v : List (Va a)) => v.map (kd m a)
theorem kd_row {m : Bool} : ∀ {s : So} (v : Va s), isT m s = true → kd m s v = .tuple (row m s v)
  | .mark ls, v, h => if_pos h
  | .count, v, h => if_pos h
  | .both a b, v, h => rfl
  | .either a b, .inl v, h => rfl
  | .either a b, .inr v, h => rfl
  | .lane a, v, h => rfl
  | .heap a, v, h => rfl
theorem noL_kd {m : Bool} : ∀ (s : So) (v : Va s), noL (kd m s v) = true
  | .mark ls, v => by
    show noL (if m = true then _ else _) = true
    split <;> rfl
  | .count, v => by
    show noL (if m = true then _ else _) = true
    split <;> rfl
  | .both a b, v => by simp [kd, noL, noLs, noL_kd a, noL_kd b]
  | .either a b, .inl v => by simp [kd, noL, noLs, noL_kd a]
  | .either a b, .inr v => by simp [kd, noL, noLs, noL_kd b]
  | .lane a, v => by
    show noLs (List.map (kd m a) v) = true
    exact noLs_iff.mpr fun d hd => by
      obtain ⟨x, _, rfl⟩ := List.mem_map.mp hd
      exact noL_kd a x
  | .heap a, v => by
    show noLs (List.map (kd m a) v) = true
    exact noLs_iff.mpr fun d hd => by
      obtain ⟨x, _, rfl⟩ := List.mem_map.mp hd
      exact noL_kd a x
theorem plainAll_iff {ds : List PyData} : PyData.plainAll ds = true ↔ ∀ d ∈ ds, d.plain = true := by
  induction ds with
  | nil => simp [PyData.plainAll]
  | cons d ds ih => rw [PyData.plainAll, Bool.and_eq_true, ih]; simp
theorem plain_kd {m : Bool} : ∀ (s : So) (v : Va s), (kd m s v).plain = true
  | .mark ls, v => by
    show PyData.plain (if m = true then _ else _) = true
    split <;> rfl
  | .count, v => by
    show PyData.plain (if m = true then _ else _) = true
    split <;> rfl
  | .both a b, v => by simp [kd, PyData.plain, PyData.plainAll, plain_kd a, plain_kd b]
  | .either a b, .inl v => by simp [kd, PyData.plain, PyData.plainAll, plain_kd a]
  | .either a b, .inr v => by simp [kd, PyData.plain, PyData.plainAll, plain_kd b]
  | .lane a, v => by
    show PyData.plainAll (List.map (kd m a) v) = true
    exact plainAll_iff.mpr fun d hd => by
      obtain ⟨x, _, rfl⟩ := List.mem_map.mp hd
      exact plain_kd a x
  | .heap a, v => by
    show PyData.plainAll (List.map (kd m a) v) = true
    exact plainAll_iff.mpr fun d hd => by
      obtain ⟨x, _, rfl⟩ := List.mem_map.mp hd
      exact plain_kd a x
theorem plain_row {m : Bool} {s : So} (v : Va s) : PyData.plainAll (row m s v) = true := by
  cases s with
  | mark ls => rfl
  | count => rfl
  | both a b => simp [row, PyData.plainAll, plain_kd]
  | either a b => cases v <;> simp [row, PyData.plainAll, plain_kd, PyData.plain]
  | lane a => exact plain_kd (.lane a) v
  | heap a => exact plain_kd (.heap a) v
theorem depthAll_le {n : Nat} {ds : List PyData} (h : ∀ d ∈ ds, d.depth ≤ n) : PyData.depthAll ds ≤ n := by
  induction ds with
  | nil => simp [PyData.depthAll]
  | cons d ds ih =>
    rw [PyData.depthAll]
    exact Nat.max_le.mpr ⟨h d (List.mem_cons_self ..), ih fun d hd => h d (List.mem_cons_of_mem _ hd)⟩
theorem depth_kd {m : Bool} : ∀ (s : So) (v : Va s), (kd m s v).depth ≤ dep s + 1
  | .mark ls, v => by
    show PyData.depth (if m = true then _ else _) ≤ 1
    split <;> simp [PyData.depth, PyData.depthAll]
  | .count, v => by
    show PyData.depth (if m = true then _ else _) ≤ 1
    split <;> simp [PyData.depth, PyData.depthAll]
  | .both a b, v => by
    have h1 := depth_kd (m := m) a v.1
    have h2 := depth_kd (m := m) b v.2
    simp [kd, PyData.depth, PyData.depthAll, dep]
    omega
  | .either a b, .inl v => by
    have h1 := depth_kd (m := m) a v
    simp [kd, PyData.depth, PyData.depthAll, dep]
    omega
  | .either a b, .inr v => by
    have h1 := depth_kd (m := m) b v
    simp [kd, PyData.depth, PyData.depthAll, dep]
    omega
  | .lane a, v => by
    show PyData.depthAll (List.map (kd m a) v) + 1 ≤ dep a + 1 + 1
    exact Nat.succ_le_succ (depthAll_le fun d hd => by
      obtain ⟨x, _, rfl⟩ := List.mem_map.mp hd
      exact depth_kd a x)
  | .heap a, v => by
    show PyData.depthAll (List.map (kd m a) v) + 1 ≤ dep a + 1 + 1
    exact Nat.succ_le_succ (depthAll_le fun d hd => by
      obtain ⟨x, _, rfl⟩ := List.mem_map.mp hd
      exact depth_kd a x)
theorem eqvAll_map {A : Type} [DecidableEq A] {f : A → PyData} (hf : ∀ x y, PyData.eqv (f x) (f y) = decide (x = y)) : ∀ v u : List A, PyData.eqvAll (v.map f) (u.map f) = decide (v = u)
  | [], [] => by simp [PyData.eqvAll]
  | [], _ :: _ => by simp [PyData.eqvAll]
  | _ :: _, [] => by simp [PyData.eqvAll]
  | x :: v, y :: u => by
    rw [List.map_cons, List.map_cons, PyData.eqvAll, hf, eqvAll_map hf v u]
    simp [Bool.decide_and]
theorem nat_lt (x y : Nat) : decide (x < y) = decide ((x : Int) < (y : Int)) := decide_eq_decide.mpr (by omega)
theorem nat_eq (x y : Nat) : decide ((x : Int) = (y : Int)) = decide (x = y) := decide_eq_decide.mpr (by omega)
theorem nat_irr {x y : Nat} (e : (x : Int) = (y : Int)) : decide (x < y) = false := decide_eq_false (by omega)
theorem eqv_kd {m : Bool} : ∀ (s : So) (x y : Va s), PyData.eqv (kd m s x) (kd m s y) = decide (x = y)
  | .mark ls, x, y => by
    have e : decide ((x.val : Int) = (y.val : Int)) = decide (x = y) := decide_eq_decide.mpr (by rw [Fin.ext_iff]; omega)
    show PyData.eqv (if m = true then _ else _) (if m = true then _ else _) = _
    split
    · simp only [PyData.eqv, PyData.eqvAll, Bool.and_true]
      rw [← e]; rfl
    · simp only [PyData.eqv]
      rw [← e]; rfl
  | .count, x, y => by
    have e := nat_eq x y
    show PyData.eqv (if m = true then _ else _) (if m = true then _ else _) = decide ((x : Nat) = y)
    split
    · simp only [PyData.eqv, PyData.eqvAll, Bool.and_true]
      rw [← e]; rfl
    · simp only [PyData.eqv]
      rw [← e]; rfl
  | .both a b, (x1, x2), (y1, y2) => by
    show PyData.eqvAll [kd m a x1, kd m b x2] [kd m a y1, kd m b y2] = _
    simp only [PyData.eqvAll, eqv_kd a x1 y1, eqv_kd b x2 y2, Bool.and_true]
    rw [← Bool.decide_and]
    exact decide_eq_decide.mpr (by simp [Prod.ext_iff])
  | .either a b, .inl x, .inl y => by
    show PyData.eqvAll [.int 0, kd m a x] [.int 0, kd m a y] = _
    simp only [PyData.eqvAll, eqv_kd a x y, Bool.and_true]
    simp [PyData.eqv]
  | .either a b, .inr x, .inr y => by
    show PyData.eqvAll [.int 1, kd m b x] [.int 1, kd m b y] = _
    simp only [PyData.eqvAll, eqv_kd b x y, Bool.and_true]
    simp [PyData.eqv]
  | .either a b, .inl x, .inr y => by
    show PyData.eqvAll [.int 0, kd m a x] [.int 1, kd m b y] = _
    simp [PyData.eqvAll, PyData.eqv]
  | .either a b, .inr x, .inl y => by
    show PyData.eqvAll [.int 1, kd m b x] [.int 0, kd m a y] = _
    simp [PyData.eqvAll, PyData.eqv]
  | .lane a, x, y => eqvAll_map (eqv_kd a) x y
  | .heap a, x, y => eqvAll_map (eqv_kd a) x y
theorem kd_inj {m : Bool} {s : So} {x y : Va s} (h : kd m s x = kd m s y) : x = y := by
  have e := eqv_kd (m := m) s x x
  rw [decide_eq_true rfl] at e
  have e2 : PyData.eqv (kd m s x) (kd m s y) = true := by rw [← h]; exact e
  rw [eqv_kd] at e2
  exact of_decide_eq_true e2
theorem fst_map {A : Type} [DecidableEq A] {f : A → PyData} {lt : A → A → Bool} {G : PyData → PyData → Bool → Prop} (hf : ∀ x y, PyData.eqv (f x) (f y) = decide (x = y)) (hG : ∀ x y, G (f x) (f y) (lt x y)) : ∀ v u : List A, FstR G (v.map f) (u.map f) (lexL lt v u)
  | [], [] => rfl
  | [], _ :: _ => rfl
  | _ :: _, [] => rfl
  | x :: v, y :: u => by
    rw [List.map_cons, List.map_cons, FstR, hf, lexL]
    by_cases c : x = y
    · rw [if_pos (decide_eq_true c), if_pos c]
      exact fst_map hf hG v u
    · rw [if_neg (by simp [c]), if_neg c]
      exact hG x y
theorem ltS_int {A : Around} {st : Shared} {p q : Int} {r : Bool} (h : r = decide (p < q)) : LtS A st (.int p) (.int q) r := fun a b as bs ra rb prog w E Q hq => by
  cases ra
  cases rb
  subst h
  exact PyProof.Rows.lt_int hq
mutual
theorem ltS_kd {m : Bool} : ∀ (s : So) (x y : Va s) (A : Around) (st : Shared), A.units + dep s + 2 < cLine → LtS A st (kd m s x) (kd m s y) (ltV s x y) := fun s x y A st hu => by
  by_cases h : isT m s = true
  · rw [kd_row x h, kd_row y h]
    intro a b as bs ra rb
    have hd := depth_kd (m := m) s x
    rw [kd_row x h] at hd
    exact rcLt_tup ra rb (plain_row x) (plain_row y) (by omega) (row_kd s x y A st hu)
  · cases s with
    | mark ls =>
      have hm : ¬ m = true := h
      show LtS A st (if m = true then _ else _) (if m = true then _ else _) _
      rw [if_neg hm, if_neg hm]
      exact ltS_int (decide_eq_decide.mpr (by omega))
    | count =>
      have hm : ¬ m = true := h
      show LtS A st (if m = true then _ else _) (if m = true then _ else _) (decide ((x : Nat) < y))
      rw [if_neg hm, if_neg hm]
      exact ltS_int (nat_lt x y)
    | _ => exact absurd rfl h
theorem row_kd {m : Bool} : ∀ (s : So) (x y : Va s) (A : Around) (st : Shared), A.units + dep s + 2 < cLine → FstR (LtS A.in1 st) (row m s x) (row m s y) (ltV s x y)
  | .mark ls, x, y, A, st, hu => by
    show FstR _ [.int (x.val : Int)] [.int (y.val : Int)] (decide (x.val < y.val))
    rw [FstR]
    split
    · rename_i e
      have e : (x.val : Int) = y.val := by simpa [PyData.eqv] using e
      show decide _ = false
      exact decide_eq_false (by omega)
    · exact ltS_int (decide_eq_decide.mpr (by omega))
  | .count, x, y, A, st, hu => by
    show FstR _ [.int ((x : Nat) : Int)] [.int ((y : Nat) : Int)] (decide ((x : Nat) < y))
    rw [FstR]
    split
    · rename_i e
      have e : ((x : Nat) : Int) = ((y : Nat) : Int) := by simpa [PyData.eqv] using e
      exact nat_irr e
    · exact ltS_int (nat_lt x y)
  | .both a b, (x1, x2), (y1, y2), A, st, hu => by
    have hd : dep (.both a b) = max (dep a) (dep b) + 1 := rfl
    show FstR _ [kd m a x1, kd m b x2] [kd m a y1, kd m b y2] (if x1 = y1 then ltV b x2 y2 else ltV a x1 y1)
    rw [FstR, eqv_kd]
    by_cases c : x1 = y1
    · rw [if_pos (decide_eq_true c), if_pos c, FstR, eqv_kd]
      by_cases c2 : x2 = y2
      · rw [if_pos (decide_eq_true c2), c2]
        exact (ltV_lin b).irr y2
      · rw [if_neg (by simp [c2])]
        exact ltS_kd b x2 y2 A.in1 st (by show A.units + 1 + dep b + 2 < cLine; omega)
    · rw [if_neg (by simp [c]), if_neg c]
      exact ltS_kd a x1 y1 A.in1 st (by show A.units + 1 + dep a + 2 < cLine; omega)
  | .either a b, .inl x, .inl y, A, st, hu => by
    have hd : dep (.either a b) = max (dep a) (dep b) + 1 := rfl
    show FstR _ [.int 0, kd m a x] [.int 0, kd m a y] (ltV a x y)
    rw [FstR, if_pos (by simp [PyData.eqv]), FstR, eqv_kd]
    by_cases c : x = y
    · rw [if_pos (decide_eq_true c), c]
      exact (ltV_lin a).irr y
    · rw [if_neg (by simp [c])]
      exact ltS_kd a x y A.in1 st (by show A.units + 1 + dep a + 2 < cLine; omega)
  | .either a b, .inr x, .inr y, A, st, hu => by
    have hd : dep (.either a b) = max (dep a) (dep b) + 1 := rfl
    show FstR _ [.int 1, kd m b x] [.int 1, kd m b y] (ltV b x y)
    rw [FstR, if_pos (by simp [PyData.eqv]), FstR, eqv_kd]
    by_cases c : x = y
    · rw [if_pos (decide_eq_true c), c]
      exact (ltV_lin b).irr y
    · rw [if_neg (by simp [c])]
      exact ltS_kd b x y A.in1 st (by show A.units + 1 + dep b + 2 < cLine; omega)
  | .either a b, .inl x, .inr y, A, st, hu => by
    show FstR _ [.int 0, kd m a x] [.int 1, kd m b y] true
    rw [FstR, if_neg (by simp [PyData.eqv])]
    exact ltS_int (by decide)
  | .either a b, .inr x, .inl y, A, st, hu => by
    show FstR _ [.int 1, kd m b x] [.int 0, kd m a y] false
    rw [FstR, if_neg (by simp [PyData.eqv])]
    exact ltS_int (by decide)
  | .lane a, x, y, A, st, hu => fst_map (eqv_kd a) (fun x y => ltS_kd a x y A.in1 st (by have hd : dep (.lane a) = dep a + 1 := rfl; show A.units + 1 + dep a + 2 < cLine; omega)) x y
  | .heap a, x, y, A, st, hu => fst_map (eqv_kd a) (fun x y => ltS_kd a x y A.in1 st (by have hd : dep (.heap a) = dep a + 1 := rfl; show A.units + 1 + dep a + 2 < cLine; omega)) x y
end
end K16

end K16K2Text
section K16K3Text
set_option autoImplicit false
set_option linter.all false
set_option maxRecDepth 100000
set_option Elab.async false
namespace K16
open PySem PySem.Spec PySem.Calls PySem.W PyProof.Rows PySem.SeqAt
/-- the order of a sort's values -/
def ordS (s : So) : KeyOrd where
  α := Va s
  blt := ltV s
  irrefl := (ltV_lin s).irr
  trans := (ltV_lin s).trans
  negTrans := fun a b c h => by
    cases e1 : ltV s a b with
    | true => exact .inl rfl
    | false =>
      right
      by_cases e2 : ltV s b a = true
      · exact (ltV_lin s).trans b a c e2 h
      · have e := (ltV_lin s).tri a b e1 (by simpa using e2)
        rw [← e]
        exact h
  total := (ltV_lin s).tri
def inh : (s : So) → Wf s → Va s
  | .mark [], h => absurd rfl h.2
  | .mark (_ :: ls), _ => (⟨0, Nat.succ_pos _⟩ : _root_.Fin (ls.length + 1))
  | .count, _ => (0 : Nat)
  | .both a b, h => (inh a h.1, inh b h.2)
  | .either a b, h => .inl (inh a h.1)
  | .lane _, _ => []
  | .heap _, _ => []
noncomputable def koS (m : Bool) (s : So) (h : Heap) (v : Value) : Option (Va s) := open Classical in if q : ∃ b : Va s, ∃ as, Reads h v (kd m s b) as then some q.choose else none
theorem koS_some {m : Bool} {s : So} {h : Heap} {v : Value} {b : Va s} {as : List Addr} (r : Reads h v (kd m s b) as) : koS m s h v = some b := by
  have q : ∃ b : Va s, ∃ as, Reads h v (kd m s b) as := ⟨b, as, r⟩
  have e : koS m s h v = some q.choose := by
    unfold koS
    rw [dif_pos q]
  obtain ⟨as', h2⟩ := q.choose_spec
  rw [e, kd_inj (plain_unique _ _ _ _ _ (plain_kd s _) h2 r)]
theorem koS_inv {m : Bool} {s : So} {h : Heap} {v : Value} {b : Va s} (e : koS m s h v = some b) : ∃ as, Reads h v (kd m s b) as := by
  unfold koS at e
  split at e
  · rename_i q
    cases Option.some.inj e
    exact q.choose_spec
  · cases e
/-- the first items are whole numbers -/
def fi (m : Bool) : So → Bool
  | .mark _ => true
  | .count => true
  | .both a _ => !isT m a
  | .either _ _ => true
  | .lane a => !isT m a
  | .heap a => !isT m a
theorem kd_int {m : Bool} {s : So} (h : isT m s = false) (x y : Va s) : ∃ p q : Int, kd m s x = .int p ∧ kd m s y = .int q ∧ ltV s x y = decide (p < q) := by
  cases s with
  | mark ls =>
    have hm : m = false := h
    refine ⟨(x : _root_.Fin ls.length).val, (y : _root_.Fin ls.length).val, ?_, ?_, nat_lt _ _⟩
    · show (if m = true then _ else _) = _
      rw [hm]
      rfl
    · show (if m = true then _ else _) = _
      rw [hm]
      rfl
  | count =>
    have hm : m = false := h
    refine ⟨((x : Nat) : Int), ((y : Nat) : Int), ?_, ?_, nat_lt _ _⟩
    · show (if m = true then _ else _) = _
      rw [hm]
      rfl
    · show (if m = true then _ else _) = _
      rw [hm]
      rfl
  | _ => cases h
theorem fi_row {m : Bool} {s : So} (h : fi m s = true) (x y : Va s) : ∀ d ds e es, row m s x = d :: ds → row m s y = e :: es → ∃ p q : Int, d = .int p ∧ e = .int q ∧ (p ≠ q → ltV s x y = decide (p < q)) := by
  intro d ds e es h1 h2
  have lanes : ∀ (a : So) (v u : List (Va a)), isT m a = false → v.map (kd m a) = d :: ds → u.map (kd m a) = e :: es → ∃ p q : Int, d = .int p ∧ e = .int q ∧ (p ≠ q → lexL (ltV a) v u = decide (p < q)) := by
    intro a v u ha g1 g2
    cases v with
    | nil => cases g1
    | cons v0 v =>
      cases u with
      | nil => cases g2
      | cons u0 u =>
        obtain ⟨p, q, k1, k2, k3⟩ := kd_int ha v0 u0
        rw [List.map_cons] at g1 g2
        injection g1 with g1 _
        injection g2 with g2 _
        refine ⟨p, q, g1 ▸ k1, g2 ▸ k2, fun hpq => ?_⟩
        rw [lexL, if_neg, k3]
        intro z
        rw [z, k2] at k1
        injection k1 with k1
        exact hpq k1.symm
  cases s with
  | mark ls =>
    injection h1 with h1 _
    injection h2 with h2 _
    exact ⟨_, _, h1.symm, h2.symm, fun _ => nat_lt _ _⟩
  | count =>
    injection h1 with h1 _
    injection h2 with h2 _
    exact ⟨_, _, h1.symm, h2.symm, fun _ => nat_lt _ _⟩
  | both a b =>
    obtain ⟨x1, x2⟩ := x
    obtain ⟨y1, y2⟩ := y
    injection h1 with h1 _
    injection h2 with h2 _
    obtain ⟨p, q, k1, k2, k3⟩ := kd_int (m := m) (by simpa [fi] using h) x1 y1
    refine ⟨p, q, h1 ▸ k1, h2 ▸ k2, fun hpq => ?_⟩
    show (if x1 = y1 then _ else _) = _
    rw [if_neg, k3]
    intro z
    rw [z, k2] at k1
    injection k1 with k1
    exact hpq k1.symm
  | either a b =>
    cases x with
    | inl x =>
      cases y with
      | inl y =>
        injection h1 with h1 _
        injection h2 with h2 _
        exact ⟨0, 0, h1.symm, h2.symm, fun z => absurd rfl z⟩
      | inr y =>
        injection h1 with h1 _
        injection h2 with h2 _
        exact ⟨0, 1, h1.symm, h2.symm, fun z => rfl⟩
    | inr x =>
      cases y with
      | inl y =>
        injection h1 with h1 _
        injection h2 with h2 _
        exact ⟨1, 0, h1.symm, h2.symm, fun z => rfl⟩
      | inr y =>
        injection h1 with h1 _
        injection h2 with h2 _
        exact ⟨1, 1, h1.symm, h2.symm, fun z => absurd rfl z⟩
  | lane a => exact lanes a x y (by simpa [fi] using h) h1 h2
  | heap a => exact lanes a x y (by simpa [fi] using h) h1 h2
theorem kd_isT {m : Bool} {s : So} (h : isT m s = true) (x : Va s) : ∃ xs, kd m s x = .tuple xs := ⟨_, kd_row x h⟩
/-- the type of the first item -/
theorem first_ty {m : Bool} {s : So} {x : Va s} {d : PyData} {ds : List PyData} (e : row m s x = d :: ds) : dataType d = if fi m s = true then Value.type "int" else Value.type "tuple" := by
  have one : ∀ (a : So) (v : Va a), dataType (kd m a v) = if (!isT m a) = true then Value.type "int" else Value.type "tuple" := by
    intro a v
    cases h : isT m a with
    | true => rw [kd_row v h]; rfl
    | false =>
      obtain ⟨p, q, k1, _⟩ := kd_int h v v
      rw [k1]; rfl
  have lanes : ∀ (a : So) (v : List (Va a)), v.map (kd m a) = d :: ds → dataType d = if (!isT m a) = true then Value.type "int" else Value.type "tuple" := by
    intro a v g
    cases v with
    | nil => cases g
    | cons v0 v =>
      injection g with g _
      rw [← g]
      exact one a v0
  cases s with
  | mark ls => injection e with e _; rw [← e]; rfl
  | count => injection e with e _; rw [← e]; rfl
  | both a b =>
    injection e with e _
    rw [← e]
    exact one a x.1
  | either a b =>
    cases x with
    | inl x => injection e with e _; rw [← e]; rfl
    | inr x => injection e with e _; rw [← e]; rfl
  | lane a => exact lanes a x e
  | heap a => exact lanes a x e
section
variable {P : Program} {w : World} {A : Around}
theorem lt_one {m : Bool} {s : So} (hu : A.units + dep s + 4 < cLine) (st : Shared) (f : Bool) (hf : f = true ∨ isT m s = true) (E : Value → Shared → Prop) (x y : Value) (a b : Va s) (Q : Bool → Shared → Prop) (ha : koS m s st.heap x = some a) (hb : koS m s st.heap y = some b) (hq : Q (ltV s a b) st) : wpAny (model P w) A (oneLt' f x y) Q E st := by
  obtain ⟨as, ra⟩ := koS_inv ha
  obtain ⟨bs, rb⟩ := koS_inv hb
  have hd := depth_kd (m := m) s a
  cases f with
  | false =>
    rw [oneLt'_eq]
    simp only [Bool.false_eq_true, if_false]
    exact wpAny_bind (ltS_kd s a b A st (by omega) _ _ _ _ ra rb P w E _ (wpAny_truthy_bool hq))
  | true =>
    cases h : isT m s with
    | true =>
      rw [kd_row a h] at ra hd
      rw [kd_row b h] at rb
      exact oneLt_tupF ra rb (plain_row a) (plain_row b) (by omega) (row_kd s a b A st (by omega)) hq
    | false =>
      obtain ⟨p, q, k1, k2, k3⟩ := kd_int h a b
      rw [k1] at ra
      rw [k2] at rb
      rw [k3] at hq
      cases ra
      cases rb
      exact oneLt_int hq
theorem keySys (m : Bool) (s : So) (hw : Wf s) (hu : A.units + dep s + 4 < cLine) : KeySys P w A (ordS s) (kd m s) := by
  refine ⟨noL_kd s, fun st kv bs e => ⟨koS m s st.heap, inh s hw, ⟨?_, ?_⟩, e.mono fun v b ⟨as, r⟩ => koS_some r⟩⟩
  · intro v hv
    obtain ⟨b, _, as, r⟩ := e.left v hv
    exact ⟨b, koS_some r⟩
  have em : EachIs (fun v d => ∃ as, Reads st.heap v d as) kv (bs.map (kd m s)) := each_mapD e
  cases h : isT m s with
  | false =>
    refine ⟨oneType', fun E x y a b Q ha hb hq => ?_, fun h2 E Q hq => ?_⟩
    · rw [keyLt'_oneType]
      exact lt_one hu st true (.inl rfl) E x y a b Q ha hb hq
    · refine kas_kind (T := Value.type "int") h2 (fun v hv => ?_) (by decide) (beq_self_eq_true _) hq
      obtain ⟨b, _, as, r⟩ := e.left v hv
      obtain ⟨p, q, k1, _⟩ := kd_int h b b
      rw [k1] at r
      exact looks_reads r
  | true =>
    by_cases hall : ∀ d ∈ bs.map (kd m s), hasIt d = true
    · refine ⟨tuples' (fi m s), fun E x y a b Q ha hb hq => ?_, fun h2 E Q hq => ?_⟩
      · obtain ⟨as, ra⟩ := koS_inv ha
        obtain ⟨bs, rb⟩ := koS_inv hb
        have hd := depth_kd (m := m) s a
        rw [kd_row a h] at ra hd
        rw [kd_row b h] at rb
        cases ra with
        | @tuple l o xs n _ _ h1 h2 h3 h4 =>
          cases rb with
          | @tuple l' o' xs' n' _ _ k1 k2 k3 k4 =>
            have n1 : xs.size = (row m s a).length := by simpa using SeqAt.ReadsAll.length _ _ _ h4
            have n2 : xs'.size = (row m s b).length := by simpa using SeqAt.ReadsAll.length _ _ _ k4
            refine kat_lt h1 h3 k1 k3 (kat_row (r := ltV s a b) h4 k4 (plain_row a) (plain_row b) (fun x hx => ?_) (FstR.imp (fun x y r q => ?_) (row_kd s a b A st (by omega))) (fun hf _ x xs' y ys' e1 e2 => fi_row hf a b x xs' y ys' e1 e2) (by rw [n1, n2]) hq)
            · have := depth_mem hx
              rw [PyData.depth] at hd
              omega
            · exact fun a b as bs r1 r2 prog w E Q hq => wpAny_of_in1 (q a b as bs r1 r2 prog w E Q hq)
      · obtain ⟨fs, t1, t2, t3⟩ := each_katTups em fun d hd => by
          obtain ⟨b, _, rfl⟩ := List.mem_map.mp hd
          have := hall _ hd
          rw [kd_row b h] at this ⊢
          cases q : row m s b with
          | nil => rw [q] at this; cases this
          | cons x r => exact ⟨x, r, rfl⟩
        have hT : ((if fi m s = true then Value.type "int" else Value.type "tuple") != Value.type "tuple") = fi m s := by
          cases fi m s <;> decide
        refine kat_kind (T := if fi m s = true then Value.type "int" else Value.type "tuple") t1 (by omega) (fun f hf => ?_) (beq_self_eq_true _) (by rw [hT]; exact hq)
        obtain ⟨x, r, as, m1, m2⟩ := t3 f hf
        obtain ⟨b, _, hb⟩ := List.mem_map.mp m1
        rw [kd_row b h] at hb
        injection hb with hb
        rw [← first_ty hb]
        exact looks_reads m2
    · obtain ⟨kd', hk, hkind⟩ := kind_mixed (prog := P) (w := w) (A := A) em (fun d hd => by
        obtain ⟨b, _, rfl⟩ := List.mem_map.mp hd
        exact kd_isT h b) hall
      refine ⟨kd', fun E x y a b Q ha hb hq => ?_, hkind⟩
      rcases hk with rfl | rfl
      · rw [gen_lt]
        exact lt_one hu st false (.inr h) E x y a b Q ha hb hq
      · rw [keyLt'_oneType]
        exact lt_one hu st true (.inl rfl) E x y a b Q ha hb hq
end
end K16

end K16K3Text
section K16S6Text
set_option autoImplicit false
set_option linter.all false
set_option maxRecDepth 100000
set_option Elab.async false
namespace K16
open PySem PySem.Spec PySem.W PyProof.Rows L2 NdefX
section
variable {K : PySem.W.Frag} {T : Tb} {H H1 : Hp} {σ : L2.St}
theorem dps_at2 : ∀ {xs : List V} {ds : List PyData}, DpAll K H xs ds → xs.length = ds.length := dps_len
theorem dps_zip {A : Type} {f : A → PyData} : ∀ {xs : List V} {vs : List A}, DpAll K H xs (vs.map f) → ∀ p ∈ xs.zip vs, Dp K H p.1 (f p.2)
  | _, [], _, p, hp => by simp at hp
  | _, v :: vs, h, p, hp => by
    have h : DpAll K H _ (f v :: vs.map f) := h
    cases h with
    | cons a t =>
      rw [List.zip_cons_cons] at hp
      rcases List.mem_cons.mp hp with e | hp
      · rw [e]
        exact a
      · exact dps_zip t p hp
theorem dps_pairs {A : Type} {f : A → PyData} : ∀ {L : List (V × A)}, (∀ p ∈ L, Dp K H p.1 (f p.2)) → DpAll K H (L.map Prod.fst) ((L.map Prod.snd).map f)
  | [], _ => .nil
  | p :: L, h => .cons (h p (List.mem_cons_self ..)) (dps_pairs fun q hq => h q (List.mem_cons_of_mem _ hq))
theorem ordV_sort {s : So} {xs : List V} {vs : List (Va s)} {f : Va s → PyData} (h : DpAll K H xs (vs.map f)) : DpAll K H (ordV (ordS s) xs vs) ((sortV s vs).map f) := by
  have hl : vs.length = xs.length := by
    have := dps_len h
    rw [List.length_map] at this
    exact this.symm
  have e : ((xs.zip vs).mergeSort (sortLe (ordS s) false Prod.snd)).map Prod.snd = sortV s vs := by
    have e0 : (@List.mergeSort (V × Va s) (xs.zip vs) (fun p q => leV s p.2 q.2)).map Prod.snd = ((xs.zip vs).map Prod.snd).mergeSort (leV s) := List.map_mergeSort (fun a _ b _ => rfl)
    rw [List.map_snd_zip (by omega)] at e0
    exact e0
  have q := dps_pairs (K := K) (H := H) (f := f) (L := (xs.zip vs).mergeSort (sortLe (ordS s) false Prod.snd)) fun p hp => dps_zip h p ((List.mergeSort_perm _ _).mem_iff.mp hp)
  rw [e] at q
  exact q
theorem el_sortK {N' : List Str} {js : List Nat} {m : Bool} {s : So} {tb : TE} {ta : TA} {vs : List (Va s)} {de : De} (hd : de = .list (vs.map (enc s)) ∨ de = .tuple (vs.map (enc s))) (hs : EvA K T ta σ H [de])
    (hb : ∀ (i : Nat) (v : Va s), vs[i]? = some v → ∀ x H1, Gr T H H1 → Dp K H1 x (enc s v) → EvD K T tb (startF N' [x] (js.map (slotAt σ))) H1 (.d (kd m s v))) :
    EvL K T (tSortK K T N' js (ordS s) (kd m s) tb ta) σ H ((sortV s vs).map (enc s)) := fun H0 g0 Q q => hs H0 g0 _ fun us H1 g1 hv => by
  obtain ⟨x, rfl, hx⟩ := dqa1 hv
  have src : ∃ l xs, x = .ref l ∧ (SqL K H1 l xs ∨ SqT K H1 l xs) ∧ DpAll K H1 xs (vs.map (enc s)) := by
    rcases hd with rfl | rfl
    · obtain ⟨a, ys, e, h1, h2⟩ := hx
      exact ⟨a, ys, e, .inl (.of h1), h2⟩
    · obtain ⟨a, ys, e, h1, h2⟩ := dp_tup hx
      exact ⟨a, ys, e, .inr h1, h2⟩
  obtain ⟨l, xs, rfl, h1, h2⟩ := src
  have hl : vs.length = xs.length := by
    have := dps_len h2
    rw [List.length_map] at this
    exact this.symm
  refine ⟨l, xs, vs, rfl, h1, g1.tab, hl, fun i x d hx hd H2 g2 Q' q' => ?_, fun p H' hp g hp' => q p _ H' (g1.nn hp) (g1.trans g) hp' (ordV_sort (dps_ext g.ext h2))⟩
  have hd : (@List.map (Va s) PyData (kd m s) vs)[i]? = some d := hd
  rw [List.getElem?_map] at hd
  cases ev : vs[i]? with
  | none => rw [ev] at hd; cases hd
  | some v =>
    rw [ev] at hd
    cases hd
    obtain ⟨d, e1, e2⟩ := dps_at h2 hx
    rw [List.getElem?_map, ev] at e1
    cases e1
    exact (hb i v ev x H2 ((g0.trans g1).trans g2) (dp_ext g2.ext e2)).run g2.self fun y H3 g3 hy => q' y H3 g3 (Dq.dp hy)
end
end K16

end K16S6Text
section K16LText
set_option autoImplicit false
set_option linter.all false
set_option maxRecDepth 100000
set_option Elab.async false
namespace K16
open PySem PySem.Spec PyProof.Rows L2
/-! ### t[::-1] of a tuple -/
section
variable {prog : Program} {w : World} {A : Around} {E : Value → Shared → Prop} {s : Shared}
theorem places_rev (n : Nat) : Builtin.Slice.slicePlaces ((n : Int) - 1) (-1) (-1) = n := by
  unfold Builtin.Slice.slicePlaces
  have h1 : ¬ ((-1 : Int) > 0) := by omega
  rw [if_neg h1]
  split
  · have : (-(-1 : Int)) = 1 := by omega
    rw [this, Int.ediv_one]
    omega
  · omega
theorem sliceApplied_rev {sl : Addr} {t : Tok} {n : Nat} {Q : Int × Int × Nat → Shared → Prop} (hs : s.heap.IsSliceOf sl .none .none (.int (-1) t)) (h : Q (((n : Int) - 1), -1, n) s) : wpAny (model prog w) A (Builtin.Slice.sliceApplied (.ref sl) (pure (n : Int))) Q E s := by
  obtain ⟨os, hos, hcs, hds⟩ := id hs
  unfold Builtin.Slice.sliceApplied Builtin.Slice.sliceFields
  refine wpAny_bind (wpAny_bind (wpAny_field hos hds (x := .none) rfl (wpAny_bind (wpAny_field hos hds (x := .none) rfl (wpAny_bind (wpAny_field hos hds (x := .int (-1) t) rfl (wpAny_pure ?_)))))))
  refine wpAny_bind (slicePart_int ?_)
  show wpAny _ _ (if ((-1 : Int) == 0) = true then _ else _) _ _ s
  rw [if_neg (by decide)]
  refine wpAny_bind (slicePart_none (wpAny_bind (slicePart_none (wpAny_bind (wpAny_pure ?_)))))
  show wpAny _ _ (pure (((n : Int) - 1), (-1 : Int), Builtin.Slice.slicePlaces ((n : Int) - 1) (-1) (-1))) _ _ s
  rw [places_rev]
  exact wpAny_pure h
theorem pick_rev (xs : Array Value) : ((List.range xs.size).filterMap fun (m : Nat) => xs[(((xs.size : Nat) : Int) - 1 + (m : Int) * (-1)).toNat]?).toArray = xs.toList.reverse.toArray := by
  have e : (fun (m : Nat) => xs[(((xs.size : Nat) : Int) - 1 + (m : Int) * (-1)).toNat]?) = (fun k => xs[k]?) ∘ fun k => xs.size - 1 - k := by
    funext m
    have : (((xs.size : Nat) : Int) - 1 + (m : Int) * (-1)).toNat = xs.size - 1 - m := by omega
    rw [this]
    rfl
  rw [e, ← List.filterMap_map, PySem.W.krv_range]
  rw [List.filterMap_reverse, PySem.W.krv_all]
theorem getItem_tuple_rev {t sl : Addr} {items : Array Value} {k : Tok} {Q : Value → Shared → Prop} (ht : IsTup s.heap t items) (hs : s.heap.IsSliceOf sl .none .none (.int (-1) k))
    (h : Q (.ref s.heap.objs.size) { s with heap := s.heap.push { cls := .type "tuple", data := .seq items.toList.reverse.toArray } })
    (hsz : items.size ≤ sizeLine) : wpAny (model prog w) A (getItem (.ref t) (.ref sl)) Q E s := by
  have htake : sizeOk (.seq items.toList.reverse.toArray) := by
    show items.toList.reverse.toArray.size ≤ sizeLine
    rw [List.size_toArray, List.length_reverse, Array.length_toList]
    exact hsz
  obtain ⟨os, hos, hcs, hds⟩ := id hs
  have hTs : s.TypeIs (.ref sl) "slice" := ⟨os, hos, hcs⟩
  unfold getItem
  try with_reducible refine wpAny_holding ?_
  first | refine wpAny_bind (wpAny_pure ?_) | skip
  refine wpAny_bind (wpAny_sequenceKey ht.typeIs (by decide) ?_)
  refine wpAny_bind (wpAny_callSpecial?_slot (name := Str.ofString "__getitem__") ht.typeIs PyProof.Rows.slot_tuple_getitem
    (wpAny_call_entry PyProof.Rows.slot_tuple_getitem ht.typeIs entry_tuple_getitem ?_ (args_tuple_getitem _ _)))
  show wpAny _ _ (Builtin.Tuple.tupleItemsOf (.ref t) >>= _) _ _ s
  refine wpAny_bind (tupleItemsOf_ ht ?_)
  refine wpAny_bind (wpAny_typeOf hTs ?_)
  rw [if_pos (by decide)]
  refine wpAny_bind (sliceApplied_rev hs ?_)
  have hno : ¬ ((((items.size : Nat) : Int) - 1 == 0 && (-1 : Int) == 1 && items.size == items.size) = true) := by simp
  show wpAny _ _ (if (((items.size : Nat) : Int) - 1 == 0 && (-1 : Int) == 1 && items.size == items.size) = true then _ else _) _ _ s
  rw [if_neg hno, pick_rev]
  first
    | exact wpAny_bind (m := Builtin.Tuple.tupleExact _) (wpAny_newObj_type (wpAny_pure ⟨_, rfl, wpAny_pure h⟩) htake)
    | exact wpAny_bind (m := Builtin.Tuple.tupleExact _) (wpAny_newObj_type (wpAny_bind (wpAny_pure (wpAny_pure ⟨_, rfl, wpAny_pure h⟩))) htake)
    | exact wpAny_bind (wpAny_bind (m := Builtin.Tuple.tupleExact _) (wpAny_newObj_type (wpAny_pure (wpAny_pure ⟨_, rfl, wpAny_pure h⟩)) htake))
    | exact wpAny_bind (wpAny_bind (m := Builtin.Tuple.tupleExact _) (wpAny_newObj_type (wpAny_pure ⟨_, rfl, wpAny_pure h⟩) htake))
end
def tRevT (K : PySem.W.Frag) (te : TE) : TE := fun σ H Q => te σ H fun x H1 => ∃ a xs, x = .ref a ∧ SqT K H1 a xs ∧ ∀ p, H1 p = none → Q (.ref p) (upd H1 p (.tup xs.reverse))
theorem pe_revT {X : Cx} {e : Expr} {te : TE} {k : Nat} {p1 p2 p3 pos : Pos} (he : PE X e te) : PE X (.Subscript e (.Slice none none (some (.UnaryOp .USub (.Constant (.int 1) k p1) p2)) p3) pos) (tRevT X.K te) := by
  refine ⟨fun pins s σ H Q I h => ?_⟩
  refine Subscript_ (thn (he.run pins s σ H _ I h) fun v s1 ⟨x, H1, I1, r1, q1⟩ => ?_)
  obtain ⟨a, xs, ex, hx, q⟩ := q1
  subst ex
  cases r1
  have hst : PO X (some (.UnaryOp .USub (.Constant (.int 1) k p1) p2)) (tPart (tUn (rU fun i => .int (-i)) (tC (.int 1)))) := po_some (pe_un un_neg pe_int)
  refine wpAny_Slice (thn (po_none.run pins s1 σ H1 (fun o H2 => o = none ∧ H2 = H1) I1 ⟨rfl, rfl⟩) fun vl s2 ⟨l, H2, I2, pl, el, e2⟩ => ?_)
  subst el e2
  refine thn (po_none.run pins s2 σ H2 (fun o H3 => o = none ∧ H3 = H2) I2 ⟨rfl, rfl⟩) fun vu s3 ⟨u, H3, I3, pu, eu, e3⟩ => ?_
  subst eu e3
  refine thn (hst.run pins s3 σ H3 (fun o H4 => o = some (-1) ∧ H4 = H3) I3 ⟨1, rfl, -1, rfl, rfl, rfl⟩) fun vs s4 ⟨o, H4, I4, ps, eo, e4⟩ => ?_
  subst eo e4
  have I5 : Inv X pins σ H4 { s4 with heap := s4.heap.push { cls := .type "slice", data := .fields #[vl, vu, vs] } } := I4.kept (t' := s4.toks) fun b ob q => Heap.get?_push_of_some _ q
  obtain ⟨its, r, ht, hz⟩ := I5.tuple hx
  have hlen := r.length
  show wpAny (model X.prog X.w) X.A (subscriptTail e (.Slice none none (some (.UnaryOp .USub (.Constant (.int 1) k p1) p2)) p3) (.ref a) (.ref s4.heap.objs.size)) (EP X pins σ Q) X.xe { s4 with heap := s4.heap.push { cls := .type "slice", data := .fields #[vl, vu, vs] } }
  have tt : (Shared.mk (s4.heap.push { cls := .type "slice", data := .fields #[vl, vu, vs] }) s4.gens s4.drawn s4.toks s4.os).TypeIs (.ref a) "tuple" := by
    obtain ⟨o, h1, h2, _⟩ := ht
    exact ⟨o, h1, h2⟩
  refine tail_any (ops := [.ref a, .ref s4.heap.objs.size]) tt (PyProof.Rows.slot_tuple_getitem.lookup) ?_ (by with_unfolding_all rfl)
  cases pl
  cases pu
  cases ps with
  | int i t =>
    refine getItem_tuple_rev ht (Heap.IsSliceOf.new _ _ _ _) ?_ (by rw [List.size_toArray]; omega)
    refine ⟨.ref _, _, I5.laid (t' := s4.toks) (o := .tup xs.reverse) (fun b ob q => Heap.get?_push_of_some _ q) (Nat.le_refl _) ?_, rfl, q _ (I5.hok.fresh (Nat.le_refl _))⟩
    exact ⟨by rw [List.length_reverse]; exact hz, its.reverse, r.reverse, ⟨_, Heap.get?_push_size _ rfl, rfl, 0, by simp⟩⟩
end K16

end K16LText
section K16MText
set_option autoImplicit false
set_option linter.all false
set_option maxRecDepth 100000
set_option Elab.async false
namespace K16
open PySem PySem.Spec PyProof.Rows L2
section
variable {K : PySem.W.Frag} {T : Tb} {H H0 H1 : Hp} {σ : L2.St} {ta tb te tc : TE} {t : TT} {ts tr : TS} {d : De} {ds es : List PyData} {b : Bool} {P : De → Prop}
theorem sz {n : Nat} (h : n ≤ 100000) : n ≤ sizeLine := Nat.le_trans h (by decide)
theorem new_list {p : Addr} {xs : List V} (g : Gr T H H1) (hp : H1 p = none) (h : DpAll K H1 xs ds) {Q : VK} (q : ∀ p xs H2, Nw H p → Gr T H H2 → H2 p = some (.lst xs) → DpAll K H2 xs ds → Q (.ref p) H2) : Q (.ref p) (upd H1 p (.lst xs)) :=
  q p xs _ (g.nn (nw_none hp)) (g.add hp) upd_same (dps_ext (Gr.new (T := T) g.tab hp).ext h)
theorem new_tup {p : Addr} {xs : List V} (g : Gr T H H1) (hp : H1 p = none) (h : DpAll K H1 xs ds) {Q : VK} (q : ∀ v H2, Gr T H H2 → Dq K H2 v (.tuple ds) → Q v H2) : Q (.ref p) (upd H1 p (.tup xs)) :=
  q _ _ (g.add hp) (.tup (.of upd_same) (dps_ext (Gr.new (T := T) g.tab hp).ext h))
theorem el_cat (ha : EvD K T ta σ H (.list ds)) (hb : EvD K T tb σ H (.list es)) (hl : ds.length + es.length ≤ 100000) : EvL K T (tOp rCat ta tb) σ H (ds ++ es) := fun H1 g Q q =>
  ha.run g fun v H2 g2 hv => hb.run (g.trans g2) fun w H3 g3 hw => by
    obtain ⟨a, xs, rfl, h1, h2⟩ := dq_ext g3.ext hv
    obtain ⟨c, ys, rfl, k1, k2⟩ := hw
    exact ⟨a, c, xs, ys, rfl, rfl, h1, k1, by rw [dps_len h2, dps_len k2]; exact sz hl, fun p hp => new_list (g2.trans g3) hp (dps_app h2 k2) q⟩
theorem ed_catT (ha : EvD K T ta σ H (.tuple ds)) (hb : EvD K T tb σ H (.tuple es)) (hl : ds.length + es.length ≤ 100000) : EvD K T (tOp (rCatA K) ta tb) σ H (.tuple (ds ++ es)) := .of fun H1 g Q q =>
  ha.run g fun v H2 g2 hv => hb.run (g.trans g2) fun w H3 g3 hw => by
    obtain ⟨a, xs, rfl, h1, h2⟩ := dp_tup (dq_ext g3.ext hv)
    obtain ⟨c, ys, rfl, k1, k2⟩ := dp_tup hw
    refine ⟨a, c, xs, ys, rfl, rfl, h1, k1, by rw [dps_len h2, dps_len k2]; exact sz hl, fun e => ?_, fun _ e => ?_, fun _ _ p hp => new_tup (g2.trans g3) hp (dps_app h2 k2) q⟩
    · subst e
      cases h2
      exact q _ H3 (g2.trans g3) (.tup k1 k2)
    · subst e
      cases k2
      rw [List.append_nil] at q
      exact q _ H3 (g2.trans g3) (.tup h1 h2)
theorem rep_one {A : Type} : ∀ (n : Nat) (x : A), (List.replicate n [x]).flatten = List.replicate n x
  | 0, _ => rfl
  | n + 1, x => by rw [List.replicate_succ, List.flatten_cons, rep_one n x]; rfl
theorem el_rep {n : Nat} (ha : EvD K T ta σ H (.list [d.dat])) (hb : EvD K T tb σ H (.int (n : Int))) (hl : n ≤ 100000) : EvL K T (tOp rRep ta tb) σ H (List.replicate n d.dat) := fun H1 g Q q =>
  ha.run g fun v H2 g2 hv => hb.run (g.trans g2) fun w H3 g3 hw => by
    obtain ⟨a, xs, rfl, h1, h2⟩ := dq_ext g3.ext hv
    obtain rfl := dq_int hw
    cases h2 with
    | cons h2 t =>
      cases t
      rename_i x
      refine ⟨a, (n : Int), [x], rfl, rfl, h1, by omega, by omega, by simpa using sz hl, fun p hp => ?_⟩
      have e : (List.replicate ((n : Int)).toNat [x]).flatten = List.replicate n x := by
        rw [Int.toNat_natCast]
        exact rep_one n x
      rw [e]
      exact new_list (g2.trans g3) hp (dps_rep h2 n) q
theorem cut_drop {xs : List V} {n : Nat} : cutV xs (some (n : Int)) none = xs.drop n := by
  unfold cutV
  rw [HT.sIx_nat, HT.sIx_none]
  by_cases h : n ≤ xs.length
  · rw [Nat.min_eq_left h, List.take_of_length_le (by rw [List.length_drop]; exact Nat.le_refl _)]
  · rw [Nat.min_eq_right (by omega), Nat.sub_self, List.take_zero, List.drop_of_length_le (by omega)]
theorem cut_take {xs : List V} {n : Nat} : cutV xs none (some (n : Int)) = xs.take n := by
  unfold cutV
  rw [HT.sIx_nat, HT.sIx_none, List.drop_zero, Nat.sub_zero]
  by_cases h : n ≤ xs.length
  · rw [Nat.min_eq_left h]
  · rw [Nat.min_eq_right (by omega), List.take_of_length_le (Nat.le_refl _), List.take_of_length_le (by omega)]
theorem el_drop {n : Nat} (ha : EvD K T ta σ H (.list ds)) (hb : EvD K T tb σ H (.int (n : Int))) : EvL K T (tSl (rSlL K) ta (tPart tb) tNoPart) σ H (ds.drop n) := fun H1 g Q q =>
  ha.run g fun v H2 g2 hv => hb.run (g.trans g2) fun w H3 g3 hw => by
    obtain ⟨a, xs, rfl, h1, h2⟩ := dq_ext g3.ext hv
    obtain rfl := dq_int hw
    exact ⟨(n : Int), rfl, a, xs, rfl, .of h1, fun p hp => by rw [cut_drop]; exact new_list (g2.trans g3) hp (dps_drop n h2) q⟩
theorem el_take {n : Nat} (ha : EvD K T ta σ H (.list ds)) (hb : EvD K T tb σ H (.int (n : Int))) : EvL K T (tSl (rSlL K) ta tNoPart (tPart tb)) σ H (ds.take n) := fun H1 g Q q =>
  ha.run g fun v H2 g2 hv => hb.run (g.trans g2) fun w H3 g3 hw => by
    obtain ⟨a, xs, rfl, h1, h2⟩ := dq_ext g3.ext hv
    obtain rfl := dq_int hw
    exact ⟨(n : Int), rfl, a, xs, rfl, .of h1, fun p hp => by rw [cut_take]; exact new_list (g2.trans g3) hp (dps_take n h2) q⟩
theorem ed_dropT {n : Nat} (ha : EvD K T ta σ H (.tuple ds)) (hb : EvD K T tb σ H (.int (n : Int))) : EvD K T (tSl (rSlA K) ta (tPart tb) tNoPart) σ H (.tuple (ds.drop n)) := .of fun H1 g Q q =>
  ha.run g fun v H2 g2 hv => hb.run (g.trans g2) fun w H3 g3 hw => by
    obtain ⟨a, xs, rfl, h1, h2⟩ := dp_tup (dq_ext g3.ext hv)
    obtain rfl := dq_int hw
    refine ⟨(n : Int), rfl, a, xs, rfl, h1, fun e => ?_, fun _ p hp => by rw [cut_drop]; exact new_tup (g2.trans g3) hp (dps_drop n h2) q⟩
    have e1 : min n xs.length = 0 := by simpa [HT.sIx_nat] using e.1
    have e2 : ds.drop n = ds := by
      rcases Nat.eq_zero_or_pos n with z | z
      · rw [z]; rfl
      · have : xs.length = 0 := by omega
        have : ds.length = 0 := by rw [← dps_len h2]; exact this
        rw [List.eq_nil_of_length_eq_zero this, List.drop_nil]
    rw [e2] at q
    exact q _ H3 (g2.trans g3) (.tup h1 h2)
theorem ed_takeT {n : Nat} (ha : EvD K T ta σ H (.tuple ds)) (hb : EvD K T tb σ H (.int (n : Int))) : EvD K T (tSl (rSlA K) ta tNoPart (tPart tb)) σ H (.tuple (ds.take n)) := .of fun H1 g Q q =>
  ha.run g fun v H2 g2 hv => hb.run (g.trans g2) fun w H3 g3 hw => by
    obtain ⟨a, xs, rfl, h1, h2⟩ := dp_tup (dq_ext g3.ext hv)
    obtain rfl := dq_int hw
    refine ⟨(n : Int), rfl, a, xs, rfl, h1, fun e => ?_, fun _ p hp => by rw [cut_take]; exact new_tup (g2.trans g3) hp (dps_take n h2) q⟩
    have e1 : min n xs.length = xs.length := by simpa [HT.sIx_nat] using e.2
    have e2 : ds.take n = ds := List.take_of_length_le (by rw [← dps_len h2]; omega)
    rw [e2] at q
    exact q _ H3 (g2.trans g3) (.tup h1 h2)
theorem ed_tupL (ha : EvD K T ta σ H (.list ds)) : EvD K T (tThen ta (kTup K)) σ H (.tuple ds) := .of fun H1 g Q q => ha.run g fun v H2 g2 hv => by
  obtain ⟨a, xs, rfl, h1, h2⟩ := hv
  exact .inl ⟨a, xs, rfl, .of h1, fun p hp => new_tup g2 hp h2 q⟩
theorem ed_tupT (ha : EvD K T ta σ H (.tuple ds)) : EvD K T (tThen ta (kTup K)) σ H (.tuple ds) := .of fun H1 g Q q => ha.run g fun v H2 g2 hv => by
  obtain ⟨a, xs, rfl, h1, h2⟩ := dp_tup hv
  exact .inr ⟨a, xs, rfl, h1, q _ H2 g2 (.tup h1 h2)⟩
theorem el_ofL (ha : EvD K T ta σ H (.list ds)) : EvL K T (tCB (fun xs H Q => ∃ p ys, xs = [V.ref p] ∧ (SqL K H p ys ∨ SqT K H p ys) ∧ ∀ l, H l = none → Q (.ref l) (upd H l (.lst ys))) (tCons ta tNil)) σ H ds := fun H1 g Q q => ha.run g fun v H2 g2 hv => by
  obtain ⟨a, xs, rfl, h1, h2⟩ := hv
  exact ⟨a, xs, rfl, .inl (.of h1), fun p hp => new_list g2 hp h2 q⟩
theorem el_ofT (ha : EvD K T ta σ H (.tuple ds)) : EvL K T (tCB (fun xs H Q => ∃ p ys, xs = [V.ref p] ∧ (SqL K H p ys ∨ SqT K H p ys) ∧ ∀ l, H l = none → Q (.ref l) (upd H l (.lst ys))) (tCons ta tNil)) σ H ds := fun H1 g Q q => ha.run g fun v H2 g2 hv => by
  obtain ⟨a, xs, rfl, h1, h2⟩ := dp_tup hv
  exact ⟨a, xs, rfl, .inr h1, fun p hp => new_list g2 hp h2 q⟩
def ixs (n : Nat) : List PyData := (List.range n).map fun i => .int ((i : Nat) : Int)
theorem ixs_len (n : Nat) : (ixs n).length = n := by simp [ixs]
theorem dps_rg {n : Nat} : DpAll K H (rgV 0 (n : Int)) (ixs n) := by
  have e : rgV 0 (n : Int) = (List.range n).map fun i => V.int ((i : Nat) : Int) := by
    unfold rgV
    rw [Int.sub_zero, Int.toNat_natCast]
    refine List.map_congr_left fun i _ => ?_
    rw [Int.zero_add]
  rw [e]
  unfold ixs
  have h : ∀ l : List Nat, DpAll K H (l.map fun i => V.int ((i : Nat) : Int)) (l.map fun i => .int ((i : Nat) : Int)) := by
    intro l
    induction l with
    | nil => exact .nil
    | cons x l ih => exact .cons (.int _) ih
  exact h _
theorem rgok {n : Nat} (h : n ≤ 100000) : RgOk 0 (n : Int) := RgOk.of_le (by omega) (by omega) (by omega) (by omega)
theorem el_rg {n : Nat} (ha : EvD K T ta σ H (.int (n : Int))) (hn : n ≤ 100000) : EvL K T (tLstRg (tRg1 ta)) σ H (ixs n) := fun H1 g Q q => ha.run g fun v H2 g2 hv => by
  obtain rfl := dq_int hv
  exact ⟨(n : Int), rfl, rgok hn, fun p hp => new_list g2 hp dps_rg q⟩
theorem ed_rgT {n : Nat} (ha : EvD K T ta σ H (.int (n : Int))) (hn : n ≤ 100000) : EvD K T (tTupRg (tRg1 ta)) σ H (.tuple (ixs n)) := .of fun H1 g Q q => ha.run g fun v H2 g2 hv => by
  obtain rfl := dq_int hv
  exact ⟨(n : Int), rfl, rgok hn, fun p hp => new_tup g2 hp dps_rg q⟩
theorem el_rev (ha : EvD K T ta σ H (.list ds)) : EvL K T (tRevL K ta) σ H ds.reverse := fun H1 g Q q => ha.run g fun v H2 g2 hv => by
  obtain ⟨a, xs, rfl, h1, h2⟩ := hv
  exact ⟨a, xs, rfl, .of h1, fun p hp => new_list g2 hp (dps_rev h2) q⟩
theorem ed_revT (ha : EvD K T ta σ H (.tuple ds)) : EvD K T (tRevT K ta) σ H (.tuple ds.reverse) := .of fun H1 g Q q => ha.run g fun v H2 g2 hv => by
  obtain ⟨a, xs, rfl, h1, h2⟩ := dp_tup hv
  exact ⟨a, xs, rfl, h1, fun p hp => new_tup g2 hp (dps_rev h2) q⟩
/-- an item of a list that is a list of its own is told as data alone -/
theorem ev_ixL {n : Nat} {dd : PyData} (ha : EvD K T ta σ H (.list ds)) (hb : EvD K T tb σ H (.int (n : Int))) (h : ds[n]? = some dd) : ∀ H1, Gr T H H1 → ∀ Q : VK, (∀ v H2, Gr T H1 H2 → Dp K H2 v dd → Q v H2) → tOp (rIxL K) ta tb σ H1 Q := fun H1 g Q q =>
  ha.run g fun v H2 g2 hv => hb.run (g.trans g2) fun w H3 g3 hw => by
    obtain ⟨a, xs, rfl, h1, h2⟩ := dp_lst (dq_ext g3.ext hv).dp
    obtain rfl := dq_int hw
    obtain ⟨x, h3, h4⟩ := dps_at' h2 h
    exact ⟨a, xs, (n : Int), x, rfl, rfl, h1, at_nat h3, q x H3 (g2.trans g3) h4⟩
/-! ### loops -/
theorem for_lst {tg : TG} {D : Ends} {σ0 : L2.St} {H1 : Hp} (hs : EvD K T ta σ H (.list ds)) (g : Gr T H H1)
    (k : ∀ a xs H2, Gr T H1 H2 → H2 a = some (.lst xs) → DpAll K H2 xs ds → ∃ W : Nat → Nat → L2.St → Hp → Prop, (∃ m, W 0 m σ H2) ∧ ∀ i m σ H, W i m σ H →
      ((Itl K a).stop i H ∧ D.nx σ H) ∨ ((Itl K a).go i H ∧ ∃ N : L2.St → Hp → Prop, (∀ σ' H', N σ' H' → ∃ m', m' < m ∧ W (i + 1) m' σ' H') ∧ ∀ x H', (Itl K a).yld i H x H' → tg x σ H' fun σ2 H2 => ts { D with nx := N, ct := N, bk := D.nx } σ2 H2)) :
    tFor (iList K ta) tg ts D σ H1 := hs.run g fun v H2 g2 hv => by
  obtain ⟨a, xs, rfl, h1, h2⟩ := hv
  exact ⟨a, rfl, ⟨xs, .of h1⟩, k a xs H2 g2 h1 h2⟩
theorem for_tpl {tg : TG} {D : Ends} {H1 : Hp} (hs : EvD K T ta σ H (.tuple ds)) (g : Gr T H H1)
    (k : ∀ a xs H2, Gr T H1 H2 → SqT K H2 a xs → DpAll K H2 xs ds → ∃ W : Nat → Nat → L2.St → Hp → Prop, (∃ m, W 0 m σ H2) ∧ ∀ i m σ H, W i m σ H →
      ((Itt K a).stop i H ∧ D.nx σ H) ∨ ((Itt K a).go i H ∧ ∃ N : L2.St → Hp → Prop, (∀ σ' H', N σ' H' → ∃ m', m' < m ∧ W (i + 1) m' σ' H') ∧ ∀ x H', (Itt K a).yld i H x H' → tg x σ H' fun σ2 H2 => ts { D with nx := N, ct := N, bk := D.nx } σ2 H2)) :
    tFor (iTup K ta) tg ts D σ H1 := hs.run g fun v H2 g2 hv => by
  obtain ⟨a, xs, rfl, h1, h2⟩ := dp_tup hv
  exact ⟨a, rfl, ⟨xs, h1⟩, k a xs H2 g2 h1 h2⟩
theorem for_rng {tA : TA} {tg : TG} {D : Ends} {H1 : Hp} {n : Nat} (hs : EvA K T tA σ H [.int (n : Int)]) (hn : n ≤ 100000) (g : Gr T H H1)
    (k : ∀ H2, Gr T H1 H2 → ∃ W : Nat → Nat → L2.St → Hp → Prop, (∃ m, W 0 m σ H2) ∧ ∀ i m σ H, W i m σ H →
      ((Itr 0 n).stop i H ∧ D.nx σ H) ∨ ((Itr 0 n).go i H ∧ ∃ N : L2.St → Hp → Prop, (∀ σ' H', N σ' H' → ∃ m', m' < m ∧ W (i + 1) m' σ' H') ∧ ∀ x H', (Itr 0 n).yld i H x H' → tg x σ H' fun σ2 H2 => ts { D with nx := N, ct := N, bk := D.nx } σ2 H2)) :
    tFor (iRng1 tA) tg ts D σ H1 := hs H1 g _ fun vs H2 g2 hv => by
  obtain ⟨x, rfl, hx⟩ := dqa1 hv
  obtain rfl := dq_int hx
  refine ⟨(n : Int), rfl, by omega, by omega, ?_⟩
  rw [Int.toNat_natCast]
  exact k H2 g2
theorem EvL.run (h : EvL K T te σ H ds) (g : Gr T H H1) {Q : VK} (q : ∀ p xs H2, Nw H1 p → Gr T H1 H2 → H2 p = some (.lst xs) → DpAll K H2 xs ds → Q (.ref p) H2) : te σ H1 Q := h H1 g Q q
theorem EvB.run (h : EvB T t σ H b) (g : Gr T H H1) {Q : Bool → Hp → Prop} (q : ∀ H2, Gr T H1 H2 → Q b H2) : t σ H1 Q := h H1 g Q q
theorem EvP.run (h : EvP K T te σ H P) (g : Gr T H H1) {Q : VK} (q : ∀ v d H2, Gr T H1 H2 → Dq K H2 v d → P d → Q v H2) : te σ H1 Q := h H1 g Q q
theorem EvA.run {tA : TA} {as : List De} (h : EvA K T tA σ H as) (g : Gr T H H1) {Q : List V → Hp → Prop} (q : ∀ vs H2, Gr T H1 H2 → DqA K H2 vs as → Q vs H2) : tA σ H1 Q := h H1 g Q q
theorem s_seq {t u : TS} {D : Ends} (h : t { D with nx := u D } σ H) : tSeq t u D σ H := h
theorem s_par {i j : Nat} {tA : TA} {D : Ends} (h : tA σ H fun vs H1 => ∃ v w, vs = [v, w] ∧ D.nx ((σ.set i (some v)).set j (some w)) H1) : tPar i j tA D σ H := h
theorem s_cons {tA : TA} {Q : List V → Hp → Prop} (h : ta σ H fun x H1 => tA σ H1 fun xs H2 => Q (x :: xs) H2) : tCons ta tA σ H Q := h
theorem s_asg {i : Nat} {D : Ends} (h : te σ H fun x H1 => D.nx (σ.set i (some x)) H1) : tAsg te (gName i) D σ H := h
theorem s_if {D : Ends} {u : TS} (h : t σ H fun b H1 => if b = true then ts D σ H1 else u D σ H1) : tIfS t ts u D σ H := h
theorem s_ret {D : Ends} (h : te σ H D.rt) : tRet te D σ H := h
theorem s_drop {D : Ends} (h : te σ H fun _ H1 => D.nx σ H1) : tDrop te D σ H := h
/-- if, its answer known -/
theorem s_ifB {D : Ends} {u : TS} (h : EvB T t σ H b) (g : Gr T H H1) (k : ∀ H2, Gr T H1 H2 → if b = true then ts D σ H2 else u D σ H2) : tIfS t ts u D σ H1 := h.run g k
/-- x += y, whole numbers -/
theorem s_add {D : Ends} {i : Nat} {x y : Int} (hx : σ[i]? = some (some (.int x))) (h : EvD K T te σ H (.int y)) (g : Gr T H H1) (k : ∀ H2, Gr T H1 H2 → D.nx (σ.set i (some (.int (x + y)))) H2) : tAug i te (ipI fun i j => i + j) D σ H1 :=
  ⟨_, hx, h.run g fun v H2 g2 hv => ⟨x, y, rfl, dq_int hv, k H2 g2⟩⟩
theorem s_while {c : TT} {tb : TS} {D : Ends} (W : Nat → L2.St → Hp → Prop) (C : L2.St → Hp → Prop) (m0 : Nat) (w0 : W m0 σ H) (tab : ∀ m σ H, W m σ H → LamX.Tabs T H)
    (turn : ∀ m σ H, W m σ H → (EvB T c σ H true ∧ ∀ H1, Gr T H H1 → ∀ D' : Ends, (∀ m' σ' H', m' < m → W m' σ' H' → D'.nx σ' H') → tb D' σ H1) ∨ (EvB T c σ H false ∧ ∀ H1, Gr T H H1 → C σ H1))
    (fin : ∀ σ H, C σ H → D.nx σ H) : tWhile c tb D σ H := by
  refine ⟨W, ⟨m0, w0⟩, fun m σ H w => ?_⟩
  rcases turn m σ H w with ⟨h, k⟩ | ⟨h, k⟩
  · refine h.run (.refl (tab m σ H w)) fun H1 g1 => ?_
    rw [if_pos rfl]
    exact ⟨fun σ' H' => ∃ m', m' < m ∧ W m' σ' H', fun σ' H' h => h, k H1 g1 _ fun m' σ' H' h1 h2 => ⟨m', h1, h2⟩⟩
  · refine h.run (.refl (tab m σ H w)) fun H1 g1 => ?_
    rw [if_neg Bool.false_ne_true]
    exact fin σ H1 (k H1 g1)
theorem s_append {D : Ends} {i : Nat} {F : Addr} {xs : List V} {Hb : Hp} (hx : σ[i]? = some (some (.ref F))) (hF : H1 F = some (.lst xs)) (nF : Nw Hb F) (gb : Gr T Hb H1) (hl : xs.length < 100000) (h : EvD K T te σ H d) (g : Gr T H H1)
    (k : ∀ v H2, Gr T Hb (upd H2 F (.lst (xs ++ [v]))) → Gr T H1 H2 → Dq K H2 v d → H2 F = some (.lst xs) → D.nx σ (upd H2 F (.lst (xs ++ [v])))) :
    tDrop (tBM K "list" rAppend (tVar i) (tCons te tNil)) D σ H1 :=
  ⟨_, hx, .inl ⟨rfl, xs, .of hF⟩, h.run g fun v H2 g2 hv => ⟨F, xs, v, rfl, rfl, g2.stay hF True.intro, Nat.lt_of_lt_of_le hl (by decide), k v H2 ((gb.trans g2).mut nF (g2.stay hF True.intro) True.intro) g2 hv (g2.stay hF True.intro)⟩⟩
theorem EvD.go (h : EvD K T te σ H d) (ht : LamX.Tabs T H) {Q : VK} (q : ∀ v H2, Gr T H H2 → Dq K H2 v d → Q v H2) : te σ H Q := h.run (.refl ht) q
end
end K16

end K16MText
section K16NText
set_option autoImplicit false
set_option linter.all false
set_option maxRecDepth 100000
set_option Elab.async false
namespace K16
open PySem PySem.Spec PyProof.Rows L2
section
variable {K : PySem.W.Frag} {T : Tb} {H : Hp} {σ : L2.St} {A : Type} {te : TE} {ta : TA} {tt : TT} {vs : List Nat} {ja jb : Nat}
/-- [g for i, x in enumerate(t) if p] -/
theorem el_lcE (xs : List A) (f : A → PyData) (p : Nat → Bool) (g : Nat → PyData) (hs : EvA K T ta σ H [.d (.tuple (xs.map f))]) (hl : xs.length < 100000) (hw : ∀ u v, wipe (((wipe σ vs).set ja (some u)).set jb (some v)) vs = wipe σ vs)
    (ht : ∀ (i : Nat) (x : A), xs[i]? = some x → ∀ v H1, Gr T H H1 → Dp K H1 v (f x) → EvB T tt (((wipe σ vs).set ja (some (.int ((i : Nat) : Int)))).set jb (some v)) H1 (p i))
    (he : ∀ (i : Nat) (x : A), xs[i]? = some x → p i = true → ∀ v H1, Gr T H H1 → Dp K H1 v (f x) → EvE K T te (((wipe σ vs).set ja (some (.int ((i : Nat) : Int)))).set jb (some v)) H1 (g i)) :
    EvL K T (tLc (iEnT K ta) (gTup K 2 (gCons (gName ja) (gCons (gName jb) gNil))) tt te vs) σ H (((List.range xs.length).filter p).map g) := fun H0 g0 Q q => hs H0 g0 _ fun us H1 g1 hv => by
  obtain ⟨w, rfl, hw1⟩ := dqa1 hv
  obtain ⟨a, ys, rfl, h1, h2⟩ := dp_tup hw1
  have hlen : ys.length = xs.length := by rw [dps_len h2, List.length_map]
  refine ⟨a, ys, rfl, h1, fun D hD => ⟨fun i m H' => m = ys.length - i ∧ i ≤ ys.length ∧ Cw K T H1 D ((((List.range xs.length).take i).filter p).map g) H', ⟨ys.length, by simp, Nat.zero_le _, by simpa using Cw.start g1.tab hD⟩, ?_⟩⟩
  rintro i m H' ⟨rfl, hi, c⟩
  by_cases hlt : i < ys.length
  · refine .inr ⟨⟨ys, ys[i], st_ext c.2.1.ext h1, by simp [hlt]⟩, fun H' => Cw K T H1 D ((((List.range xs.length).take (i + 1)).filter p).map g) H', fun H' p' => ⟨ys.length - (i + 1), by omega, rfl, hlt, p'⟩, ?_⟩
    rintro v H2 ⟨T2, y, rfl, hT, rfl, hy⟩
    have hy0 := hy ys (st_ext c.2.1.ext h1)
    obtain ⟨d, hd, hyd⟩ := dps_at h2 hy0
    rw [List.getElem?_map] at hd
    cases ex : xs[i]? with
    | none => rw [ex] at hd; cases hd
    | some x =>
      rw [ex] at hd
      cases hd
      have c2 : Cw K T H1 D ((((List.range xs.length).take i).filter p).map g) (upd H' T2 (.tup [.int ((i : Nat) : Int), y])) := by
        obtain ⟨nD, gg, acc, e1, e2⟩ := c
        exact ⟨nD, gg.add hT, acc, by rw [upd_ne (ne_of_none e1 hT)]; exact e1, F2.imp (fun _ _ h => El.ext (Gr.new (T := T) gg.tab hT).ext h) e2⟩
      refine ⟨T2, _, rfl, .of upd_same, rfl, _, _, rfl, _, _, rfl, rfl, ?_⟩
      refine ⟨hw _ _, ?_⟩
      have exr : (List.range xs.length)[i]? = some i := List.getElem?_range (by omega)
      rw [take_filter_map exr]
      exact Cw.turn (d := g i) c2 (Nat.lt_of_le_of_lt (len_tfm _ p g i) (by simpa using hl)) (ht i x ex y H1 (g0.trans g1) hyd) (fun hp => he i x ex hp y H1 (g0.trans g1) hyd)
  · have e : i = ys.length := by omega
    subst e
    refine .inl ⟨⟨ys, st_ext c.2.1.ext h1, rfl⟩, ?_⟩
    rw [hlen, List.take_of_length_le (by simp)] at c
    obtain ⟨nD, gg, acc, e1, e2⟩ := c
    exact q D acc H' (g1.nn nD) (g1.trans gg) e1 (els_dps e2)
theorem el_lcW {tl : TE} {j : Nat} (xs : List A) (f : A → PyData) (p : A → Bool) (g : A → PyData) (hs : EvW K T tl σ H (.list (xs.map f))) (hl : xs.length < 100000) (hw : ∀ v, wipe ((wipe σ vs).set j (some v)) vs = wipe σ vs)
    (ht : ∀ (i : Nat) (x : A), xs[i]? = some x → ∀ v H1, Gr T H H1 → Dp K H1 v (f x) → EvB T tt ((wipe σ vs).set j (some v)) H1 (p x))
    (he : ∀ (i : Nat) (x : A), xs[i]? = some x → p x = true → ∀ v H1, Gr T H H1 → Dp K H1 v (f x) → EvE K T te ((wipe σ vs).set j (some v)) H1 (g x)) :
    EvLs K T (tLc (iList K tl) (gName j) tt te vs) σ H ((xs.filter p).map g) :=
  el_lcGs xs f p g hs hl fun i x hx v H1 H2 g1 hv g2 R r => r _ (ht i x hx v H1 g1 hv) (fun hp => he i x hx hp v H1 g1 hv) (hw v)
/-- items that are lists of whole numbers -/
def rw_ (row : List Nat) : PyData := .list (row.map fun n => .int ((n : Nat) : Int))
theorem noLs_ints (row : List Nat) : noLs (row.map fun n => .int ((n : Nat) : Int)) = true := noLs_iff.mpr fun d hd => by
  obtain ⟨x, _, rfl⟩ := List.mem_map.mp hd
  rfl
def nv' (ps : List Nat) : List V := ps.map fun n => V.int ((n : Nat) : Int)
theorem dps_nv' : ∀ {row : List Nat} {xs : List V}, DpAll K H xs (row.map fun n => .int ((n : Nat) : Int)) → xs = nv' row
  | [], xs, h => by
    have h : DpAll K H xs [] := h
    cases h
    rfl
  | n :: row, xs, h => by
    have h : DpAll K H xs (.int ((n : Nat) : Int) :: row.map fun n => .int ((n : Nat) : Int)) := h
    cases h with
    | cons a t => rw [dp_int a, dps_nv' t]; rfl
theorem els_rows {Hb : Hp} {D : Addr} : ∀ {xs : List V} {rows : List (List Nat)}, Els K Hb H D xs (rows.map rw_) → F2 (fun v row => ∃ a, v = .ref a ∧ Nw Hb a ∧ H a = some (.lst (nv' row))) xs rows
  | _, [], h => by
    have h : Els K Hb H D _ [] := h
    cases h
    exact .nil
  | _, row :: rows, h => by
    have h : Els K Hb H D _ (rw_ row :: rows.map rw_) := h
    cases h with
    | cons a t =>
      refine .cons ?_ (els_rows t)
      rcases a with ⟨z, _⟩ | ⟨p, xs, es, e1, e2, n, h1, h2, _⟩
      · cases z
      · cases e2
        exact ⟨p, e1, n.2, by rw [h1, dps_nv' h2]⟩
end
end K16

end K16NText
section K16OText
set_option autoImplicit false
set_option linter.all false
set_option maxRecDepth 100000
set_option Elab.async false
namespace K16
open PySem PySem.Spec PyProof.Rows L2
def rEqP (K : PySem.W.Frag) : R2 := fun x y H Q => ∃ d e, Dp K H x d ∧ Dp K H y e ∧ d.plain = true ∧ e.plain = true ∧ d.depth ≤ 60 ∧ Q (.bl (PyData.eqv d e)) H
def rNeP (K : PySem.W.Frag) : R2 := fun x y H Q => ∃ d e, Dp K H x d ∧ Dp K H y e ∧ d.plain = true ∧ e.plain = true ∧ d.depth ≤ 60 ∧ Q (.bl (!PyData.eqv d e)) H
theorem op_eqP {X : Cx} (hu : X.A.units + 64 < cLine) : OpR X (compareOp .Eq) (rEqP X.K) := by
  intro pins s σ H x y v u Q I rx ry h
  obtain ⟨d, e, hd, he, sd, se, dd, q⟩ := h
  obtain ⟨as, r1⟩ := Dp.reads I d x v hd rx
  obtain ⟨bs, r2⟩ := Dp.reads I e y u he ry
  exact SeqAt.eq_plain r1 r2 sd se (by omega) ⟨.bl _, H, I, rfl, q⟩
theorem op_neP {X : Cx} (hu : X.A.units + 64 < cLine) : OpR X (compareOp .NotEq) (rNeP X.K) := by
  intro pins s σ H x y v u Q I rx ry h
  obtain ⟨d, e, hd, he, sd, se, dd, q⟩ := h
  obtain ⟨as, r1⟩ := Dp.reads I d x v hd rx
  obtain ⟨bs, r2⟩ := Dp.reads I e y u he ry
  exact SeqAt.ne_plain r1 r2 sd se (by omega) ⟨.bl _, H, I, rfl, q⟩
section
variable {K : PySem.W.Frag} {T : Tb} {H : Hp} {σ : L2.St} {ta tb : TE}
theorem ed_eqP {d e : PyData} (ha : EvD K T ta σ H (.d d)) (hb : EvD K T tb σ H (.d e)) (pd : d.plain = true) (pe : e.plain = true) (dd : d.depth ≤ 60) : EvD K T (tOp (rEqP K) ta tb) σ H (.bool (PyData.eqv d e)) := .of fun H1 g Q q =>
  ha.run g fun v H2 g2 hv => hb.run (g.trans g2) fun w H3 g3 hw => ⟨d, e, (dq_ext g3.ext hv).dp, hw.dp, pd, pe, dd, q _ H3 (g2.trans g3) .bl⟩
theorem ed_neP {d e : PyData} (ha : EvD K T ta σ H (.d d)) (hb : EvD K T tb σ H (.d e)) (pd : d.plain = true) (pe : e.plain = true) (dd : d.depth ≤ 60) : EvD K T (tOp (rNeP K) ta tb) σ H (.bool (!PyData.eqv d e)) := .of fun H1 g Q q =>
  ha.run g fun v H2 g2 hv => hb.run (g.trans g2) fun w H3 g3 hw => ⟨d, e, (dq_ext g3.ext hv).dp, hw.dp, pd, pe, dd, q _ H3 (g2.trans g3) .bl⟩
/-! ### isinstance -/
theorem ty_tup {p : Addr} {xs : List V} (h : SqT K H p xs) : TyX K H (.ref p) (.type "tuple") := by
  rcases h with (h | ⟨o, h⟩) | ⟨o, its, n, h, c, _⟩
  · exact .base (.tup h)
  · exact .fTuple h
  · exact .kTuple h c
theorem ed_isi {d : PyData} {n m : String} {b : Bool} (ha : EvD K T ta σ H (.d d)) (ht : ∀ v H1, Dq K H1 v (.d d) → TyX K H1 v (.type n)) (hk : kitB n m = some b) : EvD K T (tCB (rIsi K) (tCons ta (tCons (tC (.ty m)) tNil))) σ H (.bool b) := .of fun H1 g Q q =>
  ha.run g fun v H2 g2 hv => ⟨v, .ty m, .type n, .type m, b, rfl, .ty m, ht v H2 hv, kit_ty hk, q _ H2 g2 .bl⟩
theorem ty_int {i : Int} {v : V} {H1 : Hp} (h : Dq K H1 v (.int i)) : TyX K H1 v (.type "int") := by
  obtain rfl := dq_int h
  exact .base (.int i)
theorem ty_str {i : Str} {v : V} {H1 : Hp} (h : Dq K H1 v (.str i)) : TyX K H1 v (.type "str") := by
  obtain rfl := dq_str h
  exact .base (.str i)
theorem ty_tuple {ds : List PyData} {v : V} {H1 : Hp} (h : Dq K H1 v (.tuple ds)) : TyX K H1 v (.type "tuple") := by
  obtain ⟨a, xs, rfl, h1, _⟩ := dp_tup h
  exact ty_tup h1
theorem kit1 : kitB "int" "int" = some true := by decide +kernel
theorem kit2 : kitB "int" "bool" = some false := by decide +kernel
theorem kit3 : kitB "tuple" "tuple" = some true := by decide +kernel
theorem kit4 : kitB "str" "str" = some true := by decide +kernel
end
end K16

end K16OText
section K16R1Text
set_option autoImplicit false
set_option linter.all false
set_option maxRecDepth 100000
set_option Elab.async false
namespace K16
open PySem PySem.Spec PyProof.Rows L2
section
variable {K : PySem.W.Frag} {T : Tb} {H : Hp} {σ : L2.St} {ta tb te : TE} {P : De → Prop} {b : Bool}
def someB : De → Bool
  | .d .none => false
  | _ => true
theorem dq_some {H : Hp} {v : V} {d : De} (h : Dq K H v d) : (!decide (v = .non)) = someB d := by
  cases d with
  | s s =>
    obtain ⟨a, xs, rfl, _⟩ := sv_tag h
    rfl
  | d d =>
    cases d with
    | none => rw [dq_non h]; rfl
    | list ds => obtain ⟨a, xs, rfl, _⟩ := h; rfl
    | tuple ds => obtain ⟨a, xs, rfl, _⟩ := dp_tup (show Dp K H v (.tuple ds) from h); rfl
    | bool b => rw [dq_bl h]; rfl
    | int b => rw [dq_int h]; rfl
    | str b => rw [dq_str h]; rfl
    | dict b => cases (show Dp K H v (.dict b) from h)
theorem ed_notN (h : EvP K T ta σ H P) (hb : ∀ d, P d → someB d = b) : EvD K T (tOp (fun x y H Q => y = .non ∧ Q (.bl (!decide (x = .non))) H) ta (tC .non)) σ H (.bool b) := .of fun H1 g Q q =>
  h H1 g _ fun v d H2 g2 hv hd => ⟨rfl, by rw [dq_some hv, hb d hd]; exact q _ H2 g2 .bl⟩
theorem ed_isN (h : EvP K T ta σ H P) (hb : ∀ d, P d → someB d = !b) : EvD K T (tOp (fun x y H Q => y = .non ∧ Q (.bl (decide (x = .non))) H) ta (tC .non)) σ H (.bool b) := .of fun H1 g Q q =>
  h H1 g _ fun v d H2 g2 hv hd => ⟨rfl, by
    have e := (dq_some hv).trans (hb d hd)
    have e : decide (v = .non) = b := by simpa using e
    rw [e]
    exact q _ H2 g2 .bl⟩
end
theorem eqLL : decide (("left" : Str) = "left") = true := by decide +kernel
theorem eqLR : decide (("left" : Str) = "right") = false := by decide +kernel
theorem eqRL : decide (("right" : Str) = "left") = false := by decide +kernel
theorem eqRR : decide (("right" : Str) = "right") = true := by decide +kernel
section
variable {K : PySem.W.Frag} {T : Tb} {H : Hp} {σ : L2.St} {tb : TE} {p : Addr}
theorem ed_ixL0 (kS : ∀ H, Kn K H p ["left", "right"]) (h : EvD K T tb σ H (.str "left")) : EvD K T (tTix K (tC (.ref p)) (tCons tb tNil)) σ H (.int ((0 : Nat) : Int)) := ed_tixC kS h rfl fun m hm => absurd hm (Nat.not_lt_zero m)
theorem ed_ixR1 (kS : ∀ H, Kn K H p ["left", "right"]) (h : EvD K T tb σ H (.str "right")) : EvD K T (tTix K (tC (.ref p)) (tCons tb tNil)) σ H (.int ((1 : Nat) : Int)) := ed_tixC kS h rfl fun m hm => by
  have : m = 0 := by omega
  subst this
  exact fun z => absurd (Option.some.inj z) (of_decide_eq_false eqLR)
theorem ed_sideL (kS : ∀ H, Kn K H p ["left", "right"]) (h : EvD K T tb σ H (.str "left")) : EvD K T (tOp (rI0 fun a b => .int (a + b)) (tC (.int 1)) (tTix K (tC (.ref p)) (tCons tb tNil))) σ H (.int ((1 : Nat) : Int)) := ed_I0 ed_int (ed_ixL0 kS h) fun _ => .int
theorem ed_sideR (kS : ∀ H, Kn K H p ["left", "right"]) (h : EvD K T tb σ H (.str "right")) : EvD K T (tOp (rI0 fun a b => .int (a + b)) (tC (.int 1)) (tTix K (tC (.ref p)) (tCons tb tNil))) σ H (.int ((2 : Nat) : Int)) := ed_I0 ed_int (ed_ixR1 kS h) fun _ => .int
end
theorem mark_eq {ls : List Str} (h : ls.Nodup) (x y : _root_.Fin ls.length) : decide (ls.get x = ls.get y) = decide (x = y) := by
  by_cases c : x = y
  · rw [c]; simp
  · rw [decide_eq_false c, decide_eq_false]
    intro e
    exact c (Fin.ext ((List.getElem_inj h).mp e))
def RHolds (d : Nat) (ds : List De) (P : De → Prop) : Prop := ∃ (s : So) (x y : Va s), ds = [.s s, .d (enc s x), .d (enc s y)] ∧ dep s < d ∧ Wf s ∧ Sm 8 s x ∧ Sm 8 s y ∧ P = fun r => r = .bool (holds s x y)
def isRow : So → Bool
  | .lane _ => true
  | .heap _ => true
  | _ => false
def RPlaces (d : Nat) (ds : List De) (P : De → Prop) : Prop := ∃ (s : So) (x y : Va s), ds = [.s s, .d (enc s x), .d (enc s y)] ∧ dep s ≤ d ∧ isRow s = true ∧ Wf s ∧ Sm 8 s x ∧ Sm 8 s y ∧ P = fun r => someB r = holds s x y
abbrev sRawHolds : Stmt := topS 21
abbrev nRawHolds : List Str := ["sort", "v", "u", "kind"]
theorem scRawHolds : FnScope nRawHolds ["sort", "v", "u"] (defScope sRawHolds) := ⟨rfl, rfl, rfl, by decide +kernel, rfl, by decide +kernel, by decide +kernel⟩
section
variable {P : Program} {w : World} {K : PySem.W.Frag} {mg : Str → Option Value} {base : Heap} {T : Tb} {aS : Addr}
theorem hasRawHolds (d : Nat) (D : DefOk K mg "raw_holds" sRawHolds ["sort", "v", "u"]) (C : Cn K mg aS) (kS : ∀ H, Kn K H aS ["left", "right"]) (h_raw_holds : Has P w K mg base (11 + 3 * d) "raw_holds" ["sort", "v", "u"] (spOf T K (RHolds d))) (h_raw_places : Has P w K mg base (13 + 3 * d) "raw_places" ["sort", "v", "u"] (spOf T K (RPlaces d))) :
    Has P w K mg base (14 + 3 * d) "raw_holds" ["sort", "v", "u"] (spOf T K (RHolds (d + 1))) := by
  have nd := scRawHolds.nd
  refine D.pure (13 + 3 * d) scRawHolds (fun ds Pd h => ?_) fun f cdv A outer s H E vs ds Pd hr hT hv hR => ?_
  · obtain ⟨s, x, y, rfl, _⟩ := h
    rfl
  obtain ⟨so, x, y, rfl, hd, hw, sx, sy, rfl⟩ := hR
  obtain ⟨v1, v2, v3, rfl, h1, h2, h3⟩ := dqa3 hv
  refine ⟨_, (pss_cons (ps_set (i := 3) nd rfl (Or.inl rfl) (pe_ix ix_tup (pv 0) pe_int (fun _ _ => rfl)))
    (pss_cons (ps_if (pt_cmpR op_eq (pv 3) pe_str (nomark _)) (pss_one (ps_ret (pe_cmpR op_eq (pv 1) (pv 2) (nomark _)))) pss_nil)
    (pss_cons (ps_if (pt_cmpR op_eq (pv 3) pe_str (nomark _)) (pss_one (ps_ret (pe_cmpR op_ge (pv 1) (pv 2) (nomark _)))) pss_nil)
    (pss_cons (ps_if (pt_cmpR op_eq (pv 3) pe_str (nomark _)) (pss_one (ps_ret (pe_and (pe_has h_raw_holds hr (by omega) (pa_cons (pe_ix ix_tup (pv 0) pe_int (fun _ _ => rfl)) (pa_cons (pe_ix ix_tup (pv 1) pe_int (fun _ _ => rfl)) (pa_cons (pe_ix ix_tup (pv 2) pe_int (fun _ _ => rfl)) pa_nil)))) (pe_one (pe_has h_raw_holds hr (by omega) (pa_cons (pe_ix ix_tup (pv 0) pe_int (fun _ _ => rfl)) (pa_cons (pe_ix ix_tup (pv 1) pe_int (fun _ _ => rfl)) (pa_cons (pe_ix ix_tup (pv 2) pe_int (fun _ _ => rfl)) pa_nil)))))))) pss_nil)
    (pss_cons (ps_if (pt_cmpR op_eq (pv 3) pe_str (nomark _)) (pss_one (ps_ret (pe_and (pe_cmpR op_eq (pe_ix ix_tup (pv 1) pe_int (fun _ _ => rfl)) (pe_ix ix_tup (pv 2) pe_int (fun _ _ => rfl)) (nomark _)) (pe_one (pe_has h_raw_holds hr (by omega) (pa_cons (pe_ix ix_tup (pv 0) (pe_op op_add pe_int (pe_tix (pe_glob (v := .ref aS) rfl C.sides rfl) (pa_cons (pe_ix ix_tup (pv 1) pe_int (fun _ _ => rfl)) pa_nil))) (fun _ _ => rfl)) (pa_cons (pe_ix ix_tup (pv 1) pe_int (fun _ _ => rfl)) (pa_cons (pe_ix ix_tup (pv 2) pe_int (fun _ _ => rfl)) pa_nil)))))))) pss_nil)
    (pss_one (ps_ret (pe_cmpR op_notN (pe_has h_raw_places hr (by omega) (pa_cons (pv 0) (pa_cons (pv 1) (pa_cons (pv 2) pa_nil)))) pe_non (nomark _))))))))), ?_⟩
  refine rd_set (ed_tag (ed_var rfl h1) ed_int) fun k H1 g1 hk => ?_
  have h1 := dq_ext g1.ext h1
  have h2 := dq_ext g1.ext h2
  have h3 := dq_ext g1.ext h3
  cases so with
  | mark ls =>
    refine rd_yes (eb_tag (m := 0) (ed_var rfl hk) ed_str) (rd_ret ?_)
    refine (ed_eqS (ed_var rfl h2) (ed_var rfl h3)).is ?_
    exact congrArg De.bool (mark_eq hw.1 x y)
  | count =>
    refine rd_no (eb_tag (m := 0) (ed_var rfl hk) ed_str) (rd_yes (eb_tag (m := 1) (ed_var rfl hk) ed_str) (rd_ret ?_))
    refine (ed_I0 (ed_var rfl h2) (ed_var rfl h3) (fun _ => .bl) : EvD K T _ _ _ (.bool (decide ((y : Nat) ≤ (x : Int))))).is ?_
    exact congrArg De.bool (by simp [holds])
  | both a b =>
    have d1 : dep a < d := by simp only [dep] at hd; omega
    have d2 : dep b < d := by simp only [dep] at hd; omega
    refine rd_no (eb_tag (m := 0) (ed_var rfl hk) ed_str) (rd_no (eb_tag (m := 1) (ed_var rfl hk) ed_str) (rd_yes (eb_tag (m := 2) (ed_var rfl hk) ed_str) (rd_ret ?_)))
    refine (ed_and (ed_call (ea_cons (ed_sub (ed_var rfl h1) ed_int rfl) (ea_cons (ed_ixT (n := 0) (ed_var rfl h2) ed_int rfl (enc_nl _ _)) (ea_cons (ed_ixT (n := 0) (ed_var rfl h3) ed_int rfl (enc_nl _ _)) ea_nil))) ⟨a, x.1, y.1, rfl, d1, hw.1, sx.1, sy.1, rfl⟩)
      fun _ => ed_call (ea_cons (ed_sub (ed_var rfl h1) ed_int rfl) (ea_cons (ed_ixT (n := 1) (ed_var rfl h2) ed_int rfl (enc_nl _ _)) (ea_cons (ed_ixT (n := 1) (ed_var rfl h3) ed_int rfl (enc_nl _ _)) ea_nil))) ⟨b, x.2, y.2, rfl, d2, hw.2, sx.2, sy.2, rfl⟩)
  | either a b =>
    have d1 : dep a < d := by simp only [dep] at hd; omega
    have d2 : dep b < d := by simp only [dep] at hd; omega
    refine rd_no (eb_tag (m := 0) (ed_var rfl hk) ed_str) (rd_no (eb_tag (m := 1) (ed_var rfl hk) ed_str) (rd_no (eb_tag (m := 2) (ed_var rfl hk) ed_str) (rd_yes (eb_tag (m := 3) (ed_var rfl hk) ed_str) (rd_ret ?_))))
    cases x with
    | inl x =>
      cases y with
      | inl y => exact (ed_and ((ed_eqS (ed_ixT (n := 0) (ed_var rfl h2) ed_int rfl (fun _ z => nomatch z)) (ed_ixT (n := 0) (ed_var rfl h3) ed_int rfl (fun _ z => nomatch z))).is (congrArg De.bool eqLL)) fun _ => ed_call (ea_cons (ed_sub (n := 1) (ed_var rfl h1) (ed_sideL kS (ed_ixT (n := 0) (ed_var rfl h2) ed_int rfl (fun _ z => nomatch z))) rfl) (ea_cons (ed_ixT (n := 1) (ed_var rfl h2) ed_int rfl (enc_nl _ _)) (ea_cons (ed_ixT (n := 1) (ed_var rfl h3) ed_int rfl (enc_nl _ _)) ea_nil))) ⟨a, x, y, rfl, d1, hw.1, sx, sy, rfl⟩)
      | inr y => exact (ed_and (c := true) ((ed_eqS (ed_ixT (n := 0) (ed_var rfl h2) ed_int rfl (fun _ z => nomatch z)) (ed_ixT (n := 0) (ed_var rfl h3) ed_int rfl (fun _ z => nomatch z))).is (congrArg De.bool eqLR)) fun z => nomatch z)
    | inr x =>
      cases y with
      | inl y => exact (ed_and (c := true) ((ed_eqS (ed_ixT (n := 0) (ed_var rfl h2) ed_int rfl (fun _ z => nomatch z)) (ed_ixT (n := 0) (ed_var rfl h3) ed_int rfl (fun _ z => nomatch z))).is (congrArg De.bool eqRL)) fun z => nomatch z)
      | inr y => exact (ed_and ((ed_eqS (ed_ixT (n := 0) (ed_var rfl h2) ed_int rfl (fun _ z => nomatch z)) (ed_ixT (n := 0) (ed_var rfl h3) ed_int rfl (fun _ z => nomatch z))).is (congrArg De.bool eqRR)) fun _ => ed_call (ea_cons (ed_sub (n := 2) (ed_var rfl h1) (ed_sideR kS (ed_ixT (n := 0) (ed_var rfl h2) ed_int rfl (fun _ z => nomatch z))) rfl) (ea_cons (ed_ixT (n := 1) (ed_var rfl h2) ed_int rfl (enc_nl _ _)) (ea_cons (ed_ixT (n := 1) (ed_var rfl h3) ed_int rfl (enc_nl _ _)) ea_nil))) ⟨b, x, y, rfl, d2, hw.2, sx, sy, rfl⟩)
  | lane a =>
    refine rd_no (eb_tag (m := 0) (ed_var rfl hk) ed_str) (rd_no (eb_tag (m := 1) (ed_var rfl hk) ed_str) (rd_no (eb_tag (m := 2) (ed_var rfl hk) ed_str) (rd_no (eb_tag (m := 3) (ed_var rfl hk) ed_str) (rd_ret ?_))))
    exact ed_notN (ed_call (ea_cons (ed_var rfl h1) (ea_cons (ed_var rfl h2) (ea_cons (ed_var rfl h3) ea_nil))) ⟨.lane a, x, y, rfl, Nat.le_of_lt_succ hd, rfl, hw, sx, sy, rfl⟩) fun _ h => h
  | heap a =>
    refine rd_no (eb_tag (m := 0) (ed_var rfl hk) ed_str) (rd_no (eb_tag (m := 1) (ed_var rfl hk) ed_str) (rd_no (eb_tag (m := 2) (ed_var rfl hk) ed_str) (rd_no (eb_tag (m := 3) (ed_var rfl hk) ed_str) (rd_ret ?_))))
    exact ed_notN (ed_call (ea_cons (ed_var rfl h1) (ea_cons (ed_var rfl h2) (ea_cons (ed_var rfl h3) ea_nil))) ⟨.heap a, x, y, rfl, Nat.le_of_lt_succ hd, rfl, hw, sx, sy, rfl⟩) fun _ h => h
end
end K16

end K16R1Text
section K16R7Text
set_option autoImplicit false
set_option linter.all false
set_option maxRecDepth 100000
set_option Elab.async false
set_option pp.maxSteps 350
set_option pp.deepTerms false
set_option pp.deepTerms.threshold 4
namespace K16
open PySem PySem.Spec PyProof.Rows L2
/-! ### defs that make lambdas -/
/-- the table of code objects of the def whose code object is at c -/
structure LamOk (T : Tb) (base : Heap) (mg : Str → Option Value) (c P : Addr) (q : Str) : Prop where
  tb : LamX.TabB base mg c P
  mem : (P, q) ∈ T
  uniq : ∀ p ∈ T, p.1 = P → p.2 = q
structure DefOkC (K : PySem.W.Frag) (mg : Str → Option Value) (x : Str) (st : Stmt) (ps : List Str) (c : Addr) : Prop where
  ex : ∃ (f : Addr) (oc : Value) (od : Option Addr) (kV doc pm : Value) (an : Option Addr) (ct : Value) (osl : Array (Option Value)),
    K.lookup f = some ⟨oc, od, .func (PySem.W.fnOf x x (defArgs st) (defBody st) (defScope st) .none kV doc pm an (.ref c) ct), osl⟩ ∧ PySem.W.codeIn K (.ref c) x = true ∧ PySem.W.keepIn K (.ref f) = true ∧
    L2.Binds K (PySem.W.fnOf x x (defArgs st) (defBody st) (defScope st) .none kV doc pm an (.ref c) ct) ps [] ∧ mg x = some (.ref f)
section
variable {P : Program} {w : World} {K : PySem.W.Frag} {mg : Str → Option Value} {base : Heap} {x : Str} {st : Stmt} {ps N : List Str} {k j : Nat} {c : Addr} {T : Tb} {R : List De → (De → Prop) → Prop}
theorem DefOkC.pure (k : Nat) (D : DefOkC K mg x st ps c) (S : FnScope N ps (defScope st)) (hl : ∀ ds Pd, R ds Pd → ds.length = ps.length)
    (body : ∀ (f : Addr) (A : Around) (outer : List Env) (s : Shared) (H : Hp) (vs : List V) (ds : List De) (Pd : De → Prop), Room k (A.deeper (envOfC x (defScope st) s.heap.objs.size f (.ref c))) → LamX.Tabs T H → DqA K H vs ds → R ds Pd →
      ∀ E, ∃ t, PSs (cxOf CX0 P w K mg base N x (defScope st) f (.ref c) A outer s H E).nox (defBody st) t ∧ RetP K T t (start N vs) H Pd) (hk : k + 1 ≤ j := by omega) : Has P w K mg base j x ps (spOf T K R) := by
  refine Has.mono (j := k + 1) ?_ hk
  obtain ⟨f, oc, od, kV, doc, pm, an, ct, osl, lk, hcd, kp, b, g⟩ := D.ex
  refine ⟨f, _, g, kp, b, fn_of lk hcd S (fun vs H Q E h => ?_) fun A outer s H vs Q E hr hsp => ?_⟩
  · obtain ⟨_, ds, Pd, hv, hR, _⟩ := h
    rw [F2.length hv]
    exact hl ds Pd hR
  · obtain ⟨hT, ds, Pd, hv, hR, q⟩ := hsp
    obtain ⟨t, h1, h2⟩ := body f A outer s H vs ds Pd hr hT hv hR E
    exact ⟨t, h1.nox, ret_fin h2 hT q⟩
end
section
variable {K : PySem.W.Frag} {T : Tb} {H : Hp} {σ : L2.St} {ta tb : TE}
theorem inV_str (x : Str) (ls : List Str) : inV (.str x) (ls.map V.str) = decide (x ∈ ls) := by
  unfold inV
  rw [Bool.eq_iff_iff, List.any_eq_true, decide_eq_true_eq]
  constructor
  · rintro ⟨y, hy, e⟩
    obtain ⟨z, hz, rfl⟩ := List.mem_map.mp hy
    have e : (z == x) = true := e
    rw [← eq_of_beq e]
    exact hz
  · intro h
    exact ⟨.str x, List.mem_map.mpr ⟨x, h, rfl⟩, by show (x == x) = true; exact beq_self_eq_true x⟩
theorem dps_strs' : ∀ {ls : List Str} {xs : List V}, DpAll K H xs (ls.map PyData.str) → xs = ls.map V.str
  | [], xs, h => by
    have h : DpAll K H xs [] := h
    cases h
    rfl
  | n :: ls, xs, h => by
    have h : DpAll K H xs (.str n :: ls.map PyData.str) := h
    cases h with
    | cons a t => rw [dp_str a, dps_strs' t]; rfl
theorem flat_strs (ls : List Str) : (ls.map V.str).all flatV = true := by
  rw [List.all_map, List.all_eq_true]
  intro _ _
  rfl
theorem ed_inS {x : Str} {ls : List Str} (ha : EvD K T ta σ H (.str x)) (hb : EvD K T tb σ H (.tuple (ls.map PyData.str))) : EvD K T (tOp (rIn K false) ta tb) σ H (.bool (decide (x ∈ ls))) := .of fun H1 g Q q =>
  ha.run g fun v H2 g2 hv => hb.run (g.trans g2) fun w H3 g3 hw => by
    obtain rfl := dq_str hv
    obtain ⟨p, xs, rfl, h1, h2⟩ := dp_tup hw
    obtain rfl := dps_strs' h2
    refine ⟨p, _, rfl, .inr h1, rfl, flat_strs ls, ?_⟩
    rw [if_neg Bool.false_ne_true, inV_str]
    exact q _ H3 (g2.trans g3) .bl
theorem tag2 : ∀ i, i < 6 → decide (tagN i ∈ [("mark" : Str), "count"]) = (i == 0 || i == 1) := by decide +kernel
/-- the kind is mark or count -/
theorem eb_flat {s : So} (ha : EvD K T ta σ H (.str (tag s))) : EvB T (tTest (tOp (rIn K false) ta (tTup (tCons (tC (.str "mark")) (tCons (tC (.str "count")) tNil))))) σ H (no s == 0 || no s == 1) :=
  (eb_test (ed_inS (ls := ["mark", "count"]) ha (ed_tup (ea_cons ed_str (ea_cons ed_str ea_nil)) rfl (by decide)))).is (by rw [tag_no]; exact tag2 _ (no_lt s))
end
/-! ### value_key -/
def RKey (d : Nat) (ds : List De) (P : De → Prop) : Prop := ∃ (s : So) (x : Va s), ds = [.s s, .d (enc s x)] ∧ dep s < d ∧ Wf s ∧ Sm 8 s x ∧ P = fun r => r = .d (kd true s x)
abbrev sValueKey : Stmt := topS 12
abbrev nValueKey : List Str := ["sort", "value", "kind", "side", "one"]
theorem scValueKey : FnScope nValueKey ["sort", "value"] (defScope sValueKey) := ⟨rfl, rfl, rfl, by decide +kernel, rfl, by decide +kernel, by decide +kernel⟩
theorem kd_nl {m : Bool} (s : So) (v : Va s) : ∀ x, kd m s v ≠ .list x := fun x e => by
  have := noL_kd (m := m) s v
  rw [e] at this
  cases this
section
variable {P : Program} {w : World} {K : PySem.W.Frag} {mg : Str → Option Value} {base : Heap} {T : Tb} {aS : Addr}
theorem hasValueKey (d : Nat) (D : DefOk K mg "value_key" sValueKey ["sort", "value"]) (M : Bi mg) (C : Cn K mg aS) (kS : ∀ H, Kn K H aS ["left", "right"]) (h_value_key : Has P w K mg base d "value_key" ["sort", "value"] (spOf T K (RKey d))) :
    Has P w K mg base (d + 1) "value_key" ["sort", "value"] (spOf T K (RKey (d + 1))) := by
  have nd := scValueKey.nd
  refine D.pure d scValueKey (fun ds Pd h => ?_) fun f cdv A outer s H E vs ds Pd hr hT hv hR => ?_
  · obtain ⟨s, x, rfl, _⟩ := h
    rfl
  obtain ⟨so, x, rfl, hd, hw, sx, rfl⟩ := hR
  obtain ⟨v1, v2, rfl, h1, h2⟩ := dqa2 hv
  refine ⟨_, (pss_cons (ps_set (i := 2) nd rfl (Or.inl rfl) (pe_ix ix_tup (pv 0) pe_int (fun _ _ => rfl)))
    (pss_cons (ps_if (pt_cmpR op_eq (pv 2) pe_str (nomark _)) (pss_one (ps_ret (pe_tup (pa_cons (pe_tix (pe_ix ix_tup (pv 0) pe_int (fun _ _ => rfl)) (pa_cons (pv 1) pa_nil)) pa_nil)))) pss_nil)
    (pss_cons (ps_if (pt_cmpR op_eq (pv 2) pe_str (nomark _)) (pss_one (ps_ret (pe_tup (pa_cons (pv 1) pa_nil)))) pss_nil)
    (pss_cons (ps_if (pt_cmpR op_eq (pv 2) pe_str (nomark _)) (pss_one (ps_ret (pe_tup (pa_cons (pe_has h_value_key hr (by omega) (pa_cons (pe_ix ix_tup (pv 0) pe_int (fun _ _ => rfl)) (pa_cons (pe_ix ix_tup (pv 1) pe_int (fun _ _ => rfl)) pa_nil))) (pa_cons (pe_has h_value_key hr (by omega) (pa_cons (pe_ix ix_tup (pv 0) pe_int (fun _ _ => rfl)) (pa_cons (pe_ix ix_tup (pv 1) pe_int (fun _ _ => rfl)) pa_nil))) pa_nil))))) pss_nil)
    (pss_cons (ps_if (pt_cmpR op_eq (pv 2) pe_str (nomark _)) (pss_cons (ps_set (i := 3) nd rfl (Or.inl rfl) (pe_tix (pe_glob (v := .ref aS) rfl C.sides rfl) (pa_cons (pe_ix ix_tup (pv 1) pe_int (fun _ _ => rfl)) pa_nil)))
    (pss_one (ps_ret (pe_tup (pa_cons (pv 3) (pa_cons (pe_has h_value_key hr (by omega) (pa_cons (pe_ix ix_tup (pv 0) (pe_op op_add pe_int (pv 3)) (fun _ _ => rfl)) (pa_cons (pe_ix ix_tup (pv 1) pe_int (fun _ _ => rfl)) pa_nil))) pa_nil)))))) pss_nil)
    (pss_one (ps_ret (pe_tupleOf rfl (M.tuple) (pe_lc (own := [("one", 4)]) rfl nd (pi_tup (pv 1)) (blkOk_by (N := nValueKey) (sc := (defScope sValueKey)) (by decide +kernel)) (fun _ _ _ _ _ => (pg_name (i := 4) nd rfl (Or.inl rfl))) (fun _ _ _ _ _ => pts_nil) (fun _ _ _ _ _ => (pe_has h_value_key hr (by omega) (pa_cons (pe_ix (r := rIxT K) ix_tup (pv 0) pe_int (fun _ _ => rfl)) (pa_cons (pv 4) pa_nil))))))))))))), ?_⟩
  refine rd_set (ed_tag (ed_var rfl h1) ed_int) fun k H1 g1 hk => ?_
  have h1 := dq_ext g1.ext h1
  have h2 := dq_ext g1.ext h2
  cases so with
  | mark ls =>
    refine rd_yes (eb_tag (m := 0) (ed_var rfl hk) ed_str) (rd_ret ?_)
    refine ed_tup (as := [.int (((x : _root_.Fin ls.length).val : Nat) : Int)]) (ea_cons (ed_tixM (ed_var rfl h1) ed_int (ed_var rfl h2) (List.getElem?_eq_getElem x.isLt) fun m hm e => ?_) ea_nil) rfl (by simp)
    have := (List.getElem?_eq_some_iff.mp e)
    obtain ⟨h3, h4⟩ := this
    have := (List.getElem_inj hw.1).mp h4
    omega
  | count =>
    refine rd_no (eb_tag (m := 0) (ed_var rfl hk) ed_str) (rd_yes (eb_tag (m := 1) (ed_var rfl hk) ed_str) (rd_ret ?_))
    exact ed_tup (as := [.d (.int ((x : Nat) : Int))]) (ea_cons (ed_var rfl h2) ea_nil) rfl (by simp)
  | both a b =>
    have d1 : dep a < d := by simp only [dep] at hd; omega
    have d2 : dep b < d := by simp only [dep] at hd; omega
    refine rd_no (eb_tag (m := 0) (ed_var rfl hk) ed_str) (rd_no (eb_tag (m := 1) (ed_var rfl hk) ed_str) (rd_yes (eb_tag (m := 2) (ed_var rfl hk) ed_str) (rd_ret ?_)))
    exact ed_tup (as := [.d (kd true a x.1), .d (kd true b x.2)]) (ea_cons (ed_call (ea_cons (ed_sub (n := 1) (ed_var rfl h1) ed_int rfl) (ea_cons (ed_ixT (n := 0) (ed_var rfl h2) ed_int rfl (enc_nl _ _)) ea_nil)) ⟨a, x.1, rfl, d1, hw.1, sx.1, rfl⟩)
      (ea_cons (ed_call (ea_cons (ed_sub (n := 2) (ed_var rfl h1) ed_int rfl) (ea_cons (ed_ixT (n := 1) (ed_var rfl h2) ed_int rfl (enc_nl _ _)) ea_nil)) ⟨b, x.2, rfl, d2, hw.2, sx.2, rfl⟩) ea_nil)) rfl (by simp)
  | either a b =>
    have d1 : dep a < d := by simp only [dep] at hd; omega
    have d2 : dep b < d := by simp only [dep] at hd; omega
    refine rd_no (eb_tag (m := 0) (ed_var rfl hk) ed_str) (rd_no (eb_tag (m := 1) (ed_var rfl hk) ed_str) (rd_no (eb_tag (m := 2) (ed_var rfl hk) ed_str) (rd_yes (eb_tag (m := 3) (ed_var rfl hk) ed_str) ?_)))
    cases x with
    | inl x =>
      refine rd_set (ed_ixL0 kS (ed_ixT (n := 0) (ed_var rfl h2) ed_int rfl (fun _ z => nomatch z))) fun k2 H2 g2 hk2 => rd_ret ?_
      have h1 := dq_ext g2.ext h1
      have h2 := dq_ext g2.ext h2
      exact ed_tup (as := [.d (.int 0), .d (kd true a x)]) (ea_cons (ed_var rfl hk2) (ea_cons (ed_call (ea_cons (ed_sub (n := 1) (ed_var rfl h1) (ed_I0 (d := .int ((1 : Nat) : Int)) ed_int (ed_var rfl hk2) fun _ => .int) rfl) (ea_cons (ed_ixT (n := 1) (ed_var rfl h2) ed_int rfl (enc_nl _ _)) ea_nil)) ⟨a, x, rfl, d1, hw.1, sx, rfl⟩) ea_nil)) rfl (by simp)
    | inr x =>
      refine rd_set (ed_ixR1 kS (ed_ixT (n := 0) (ed_var rfl h2) ed_int rfl (fun _ z => nomatch z))) fun k2 H2 g2 hk2 => rd_ret ?_
      have h1 := dq_ext g2.ext h1
      have h2 := dq_ext g2.ext h2
      exact ed_tup (as := [.d (.int 1), .d (kd true b x)]) (ea_cons (ed_var rfl hk2) (ea_cons (ed_call (ea_cons (ed_sub (n := 2) (ed_var rfl h1) (ed_I0 (d := .int ((2 : Nat) : Int)) ed_int (ed_var rfl hk2) fun _ => .int) rfl) (ea_cons (ed_ixT (n := 1) (ed_var rfl h2) ed_int rfl (enc_nl _ _)) ea_nil)) ⟨b, x, rfl, d2, hw.2, sx, rfl⟩) ea_nil)) rfl (by simp)
  | lane a =>
    have d1 : dep a < d := by simp only [dep] at hd; omega
    refine rd_no (eb_tag (m := 0) (ed_var rfl hk) ed_str) (rd_no (eb_tag (m := 1) (ed_var rfl hk) ed_str) (rd_no (eb_tag (m := 2) (ed_var rfl hk) ed_str) (rd_no (eb_tag (m := 3) (ed_var rfl hk) ed_str) (rd_ret ?_))))
    exact ed_tupL (el_lcTM (x : List (Va a)) (enc a) (kd true a) (ed_var rfl h2) (by have := sx.1; omega) (by intro _; rfl) fun i y hy v H3 g3 hv => EvD.e (ed_call (ea_cons (ed_sub (n := 1) (ed_var rfl (dq_ext g3.ext h1)) ed_int rfl) (ea_cons (ed_var rfl (.of hv (enc_nl _ _))) ea_nil)) ⟨a, y, rfl, d1, hw, sx.2 y (List.mem_of_getElem? hy), rfl⟩) (noL_kd _ _)).toD
  | heap a =>
    have d1 : dep a < d := by simp only [dep] at hd; omega
    refine rd_no (eb_tag (m := 0) (ed_var rfl hk) ed_str) (rd_no (eb_tag (m := 1) (ed_var rfl hk) ed_str) (rd_no (eb_tag (m := 2) (ed_var rfl hk) ed_str) (rd_no (eb_tag (m := 3) (ed_var rfl hk) ed_str) (rd_ret ?_))))
    exact ed_tupL (el_lcTM (x : List (Va a)) (enc a) (kd true a) (ed_var rfl h2) (by have := sx.1; omega) (by intro _; rfl) fun i y hy v H3 g3 hv => EvD.e (ed_call (ea_cons (ed_sub (n := 1) (ed_var rfl (dq_ext g3.ext h1)) ed_int rfl) (ea_cons (ed_var rfl (.of hv (enc_nl _ _))) ea_nil)) ⟨a, y, rfl, d1, hw, sx.2 y (List.mem_of_getElem? hy), rfl⟩) (noL_kd _ _)).toD
end
end K16

end K16R7Text
section K16R8Text
set_option autoImplicit false
set_option linter.all false
set_option maxRecDepth 100000
set_option Elab.async false
set_option pp.maxSteps 350
set_option pp.deepTerms false
set_option pp.deepTerms.threshold 4
namespace K16
open PySem PySem.Spec PyProof.Rows L2 NdefX
def RSort (d : Nat) (ds : List De) (P : De → Prop) : Prop := ∃ (s : So) (vs : List (Va s)) (de : De), ds = [.s s, de] ∧ (de = .list (vs.map (enc s)) ∨ de = .tuple (vs.map (enc s))) ∧ dep s < d ∧ Wf s ∧ (∀ v ∈ vs, Sm 8 s v) ∧ P = fun r => r = .list ((sortV s vs).map (enc s))
abbrev sSortedValues : Stmt := topS 13
abbrev nSortedValues : List Str := ["sort", "values"]
theorem scSortedValues : FnScope nSortedValues ["sort", "values"] (defScope sSortedValues) := ⟨rfl, rfl, rfl, by decide +kernel, rfl, by decide +kernel, by decide +kernel⟩
def lamQ (x : Str) : Str := (x ++ ".<locals>.") ++ "<lambda>"
section
variable {P : Program} {w : World} {K : PySem.W.Frag} {mg : Str → Option Value} {base : Heap} {T : Tb} {c Pt : Addr}
theorem hasSortedValues (d : Nat) (hd : d ≤ 20) (D : DefOkC K mg "sorted_values" sSortedValues ["sort", "values"] c) (M : Bi mg) (LO : LamOk T base mg c Pt (lamQ "sorted_values")) (h_value_key : Has P w K mg base d "value_key" ["sort", "value"] (spOf T K (RKey d))) :
    Has P w K mg base (d + 4) "sorted_values" ["sort", "values"] (spOf T K (RSort d)) := by
  have nd := scSortedValues.nd
  refine D.pure (d + 3) scSortedValues (fun ds Pd h => ?_) fun f A outer s H vs ds Pd hr hT hv hR E => ?_
  · obtain ⟨s, x, de, rfl, _⟩ := h
    rfl
  obtain ⟨so, xs, de, rfl, hde, hd, hw, sx, rfl⟩ := hR
  obtain ⟨v1, v2, rfl, h1, h2⟩ := dqa2 hv
  refine ⟨_, pss_one (ps_ret (pe_sortK (T := T) (N' := ["value", "sort"]) (fr := ["sort"]) (js := [0]) (a := "value") (k := d) (O := ordS so) (enc := kd true so) rfl M.sorted (pa_cons (pv 1) pa_nil) LO.tb rfl LO.mem LO.uniq (nscope_by (by decide +kernel)) ?_ ?_ rfl hr (by omega) (keySys true so hw ?_)
    (fun f' c' A' outer' s' H' hr' => pe_has h_value_key hr' (by omega) (pa_cons (pv 1) (pa_cons (pv 0) pa_nil))) rfl (fun _ _ _ _ _ _ => rfl))), ?_⟩
  · exact (ndef_free (fr := ["sort"]) (sc := defScope sSortedValues) (by decide +kernel))
  · exact (ndef_fr (sc := defScope sSortedValues) (by decide +kernel))
  · have h1 : dep so < 20 := by omega
    have := hr.un
    show (A.deeper _).units + 1 + 1 + dep so + 4 < cLine
    omega
  · refine rd_ret (EvL.toD (el_sortK hde (ea_cons (ed_var rfl h2) ea_nil) fun i v hv x H1 g1 hx => ?_))
    exact ed_call (ea_cons (ed_var rfl (dq_ext g1.ext h1)) (ea_cons (ed_var rfl (.of hx (enc_nl _ _))) ea_nil)) ⟨so, v, rfl, hd, hw, sx v (List.mem_of_getElem? hv), rfl⟩
end
end K16

end K16R8Text
section K16R9Text
set_option autoImplicit false
set_option linter.all false
set_option maxRecDepth 100000
set_option Elab.async false
set_option pp.maxSteps 350
set_option pp.deepTerms false
set_option pp.deepTerms.threshold 4
namespace K16
open PySem PySem.Spec PyProof.Rows L2
/-! ### is it formed -/
def isF : (s : So) → Va s → Bool
  | .mark _ => fun _ => true
  | .count => fun (n : Nat) => decide ((n : Int) ≤ 99)
  | .both a b => fun v => isF a v.1 && isF b v.2
  | .either a b => fun v => match v with
    | .inl v => isF a v
    | .inr v => isF b v
  | .lane a => fun (v : List (Va a)) => decide (v.length ≤ 8) && v.all (isF a)
  | .heap a => fun (v : List (Va a)) => decide (v.length ≤ 8) && v.all (isF a) && decide (v = sortV a v)
theorem isF_sm : ∀ {s : So} {v : Va s}, isF s v = true → Sm 8 s v
  | .mark _, v, h => True.intro
  | .count, v, h => True.intro
  | .both a b, v, h => by
    have h : (isF a v.1 && isF b v.2) = true := h
    rw [Bool.and_eq_true] at h
    exact ⟨isF_sm h.1, isF_sm h.2⟩
  | .either a b, .inl v, h => isF_sm (s := a) h
  | .either a b, .inr v, h => isF_sm (s := b) h
  | .lane a, v, h => by
    have h : (decide (List.length v ≤ 8) && List.all v (isF a)) = true := h
    rw [Bool.and_eq_true, List.all_eq_true, decide_eq_true_eq] at h
    exact ⟨h.1, fun x hx => isF_sm (h.2 x hx)⟩
  | .heap a, v, h => by
    have h : (decide (List.length v ≤ 8) && List.all v (isF a) && decide (v = sortV a v)) = true := h
    rw [Bool.and_eq_true, Bool.and_eq_true, List.all_eq_true, decide_eq_true_eq] at h
    exact ⟨h.1.1, fun x hx => isF_sm (h.1.2 x hx)⟩
abbrev sIsNumber : Stmt := topS 7
abbrev nIsNumber : List Str := ["value", "most"]
theorem scIsNumber : FnScope nIsNumber ["value", "most"] (defScope sIsNumber) := ⟨rfl, rfl, rfl, by decide +kernel, rfl, by decide +kernel, by decide +kernel⟩
abbrev sIsPair : Stmt := topS 8
abbrev nIsPair : List Str := ["value"]
theorem scIsPair : FnScope nIsPair ["value"] (defScope sIsPair) := ⟨rfl, rfl, rfl, by decide +kernel, rfl, by decide +kernel, by decide +kernel⟩
abbrev sIsSide : Stmt := topS 9
abbrev nIsSide : List Str := ["value"]
theorem scIsSide : FnScope nIsSide ["value"] (defScope sIsSide) := ⟨rfl, rfl, rfl, by decide +kernel, rfl, by decide +kernel, by decide +kernel⟩
abbrev sBadPlace : Stmt := topS 10
abbrev nBadPlace : List Str := ["sort", "data", "kind", "place", "one"]
theorem scBadPlace : FnScope nBadPlace ["sort", "data"] (defScope sBadPlace) := ⟨rfl, rfl, rfl, by decide +kernel, rfl, by decide +kernel, by decide +kernel⟩
abbrev sIsFormed : Stmt := topS 15
abbrev nIsFormed : List Str := ["sort", "value", "kind", "one"]
theorem scIsFormed : FnScope nIsFormed ["sort", "value"] (defScope sIsFormed) := ⟨rfl, rfl, rfl, by decide +kernel, rfl, by decide +kernel, by decide +kernel⟩
def RNum (ds : List De) (P : De → Prop) : Prop := ∃ i : Int, ds = [.d (.int i), .d (.int 99)] ∧ P = fun r => r = .bool (decide (0 ≤ i) && decide (i ≤ 99))
def RPair (ds : List De) (P : De → Prop) : Prop := ∃ xs : List PyData, ds = [.d (.tuple xs)] ∧ P = fun r => r = .bool (decide ((xs.length : Int) = 2))
def RSide (ds : List De) (P : De → Prop) : Prop := ∃ (z : Str) (x : PyData), ds = [.d (.tuple [.str z, x])] ∧ z ∈ [("left" : Str), "right"] ∧ P = fun r => r = .bool true
def RBad (ds : List De) (P : De → Prop) : Prop := ∃ (s : So) (v : Va s), ds = [.s s, .d (enc s v)] ∧ (no s == 0 || no s == 1) = true ∧ P = fun r => someB r = !isF s v
def RForm (d : Nat) (ds : List De) (P : De → Prop) : Prop := ∃ (s : So) (v : Va s), ds = [.s s, .d (enc s v)] ∧ dep s < d ∧ Wf s ∧ Sm 1000 s v ∧ P = fun r => r = .bool (isF s v)
section
variable {P : Program} {w : World} {K : PySem.W.Frag} {mg : Str → Option Value} {base : Heap} {T : Tb} {aS : Addr}
theorem hasIsNumber (D : DefOk K mg "is_number" sIsNumber ["value", "most"]) (M : Bi mg) : Has P w K mg base 1 "is_number" ["value", "most"] (spOf T K RNum) := by
  have nd := scIsNumber.nd
  refine D.pure 0 scIsNumber (fun ds Pd h => ?_) fun f cdv A outer s H E vs ds Pd hr hT hv hR => ?_
  · obtain ⟨i, rfl, _⟩ := h
    rfl
  obtain ⟨i, rfl, rfl⟩ := hR
  obtain ⟨v1, v2, rfl, h1, h2⟩ := dqa2 hv
  refine ⟨_, (pss_one (ps_ret (pe_and (pe_callB call_isi rfl (M.isi) (by decide +kernel) (pa_cons (pv 0) (pa_cons (pe_bltn (v := .ty "int") (u := .type "int") rfl (M.int) (by decide +kernel) rfl) pa_nil))) (pe_and (pe_not (pe_callB call_isi rfl (M.isi) (by decide +kernel) (pa_cons (pv 0) (pa_cons (pe_bltn (v := .ty "bool") (u := .type "bool") rfl (M.bool) (by decide +kernel) rfl) pa_nil)))) (pe_one (pe_chain op_le op_le pe_int (pv 0) (pv 1))))))), ?_⟩
  refine rd_ret ?_
  have e1 := ed_isi (K := K) (T := T) (σ := start nIsNumber [v1, v2]) (m := "int") (ed_var (i := 0) rfl h1) (fun _ _ h => ty_int h) kit1
  have e2 := ed_isi (K := K) (T := T) (σ := start nIsNumber [v1, v2]) (m := "bool") (ed_var (i := 0) rfl h1) (fun _ _ h => ty_int h) kit2
  have e3 : EvD K T (tChain (rI0 fun i j => .bl (decide (i ≤ j))) (rI0 fun i j => .bl (decide (i ≤ j))) (tC (.int 0)) (tVar 0) (tVar 1)) (start nIsNumber [v1, v2]) H (.bool (decide (0 ≤ i) && decide (i ≤ 99))) := .of fun H1 g Q q => by
    obtain rfl := dq_int h1
    obtain rfl := dq_int h2
    refine ⟨_, rfl, 0, i, rfl, rfl, decide (0 ≤ i), rfl, ?_⟩
    cases c : decide (0 ≤ i) with
    | false =>
      rw [if_neg Bool.false_ne_true]
      exact q _ H1 g.self (by rw [c, Bool.false_and]; exact .bl)
    | true =>
      rw [if_pos rfl]
      exact ⟨_, rfl, i, 99, rfl, rfl, q _ H1 g.self (by rw [c, Bool.true_and]; exact .bl)⟩
  exact EvD.is (ed_and (K := K) (T := T) e1 fun _ => ed_and (ed_not e2) fun _ => e3) rfl
theorem hasIsPair (D : DefOk K mg "is_pair" sIsPair ["value"]) (M : Bi mg) : Has P w K mg base 1 "is_pair" ["value"] (spOf T K RPair) := by
  have nd := scIsPair.nd
  refine D.pure 0 scIsPair (fun ds Pd h => ?_) fun f cdv A outer s H E vs ds Pd hr hT hv hR => ?_
  · obtain ⟨i, rfl, _⟩ := h
    rfl
  obtain ⟨xs, rfl, rfl⟩ := hR
  obtain ⟨v1, rfl, h1⟩ := dqa1 hv
  refine ⟨_, (pss_one (ps_ret (pe_and (pe_callB call_isi rfl (M.isi) (by decide +kernel) (pa_cons (pv 0) (pa_cons (pe_bltn (v := .ty "tuple") (u := .type "tuple") rfl (M.tuple) (by decide +kernel) rfl) pa_nil))) (pe_one (pe_cmpR op_eq (pe_callB call_len_seq rfl (M.len) PySem.boot_len (pa_cons (pv 0) pa_nil)) pe_int (nomark _)))))), ?_⟩
  refine rd_ret ?_
  exact (ed_and (ed_isi (ed_var rfl h1) (fun _ _ h => ty_tuple h) kit3) fun _ => ed_eqI (ed_lenT (ed_var rfl h1)) ed_int)
theorem hasIsSide (D : DefOk K mg "is_side" sIsSide ["value"]) (M : Bi mg) (C : Cn K mg aS) (h_is_pair : Has P w K mg base 1 "is_pair" ["value"] (spOf T K RPair)) : Has P w K mg base 2 "is_side" ["value"] (spOf T K RSide) := by
  have nd := scIsSide.nd
  refine D.pure 1 scIsSide (fun ds Pd h => ?_) fun f cdv A outer s H E vs ds Pd hr hT hv hR => ?_
  · obtain ⟨i, x, rfl, _⟩ := h
    rfl
  obtain ⟨z, x, rfl, hz, rfl⟩ := hR
  obtain ⟨v1, rfl, h1⟩ := dqa1 hv
  refine ⟨_, (pss_one (ps_ret (pe_and (pe_has h_is_pair hr (by omega) (pa_cons (pv 0) pa_nil)) (pe_and (pe_callB call_isi rfl (M.isi) (by decide +kernel) (pa_cons (pe_ix ix_tup (pv 0) pe_int (fun _ _ => rfl)) (pa_cons (pe_bltn (v := .ty "str") (u := .type "str") rfl (M.str) (by decide +kernel) rfl) pa_nil))) (pe_one (pe_cmpR op_in_seq (pe_ix ix_tup (pv 0) pe_int (fun _ _ => rfl)) (pe_glob (v := .ref aS) rfl C.sides rfl) (by rfl))))))), ?_⟩
  refine rd_ret ?_
  have e3 := ed_inS (K := K) (T := T) (σ := start nIsSide [v1]) (tb := tC (.ref aS)) (ls := ["left", "right"]) (ed_ixT (n := 0) (ed_var (i := 0) rfl h1) ed_int rfl fun _ z => nomatch z) (ed_c fun H1 _ => .tup (C.sidesT H1) (dps_strs ["left", "right"]))
  rw [decide_eq_true hz] at e3
  exact (ed_and (b := true) (ed_call (ea_cons (ed_var rfl h1) ea_nil) ⟨_, rfl, rfl⟩) fun _ => ed_and (ed_isi (ed_ixT (n := 0) (ed_var rfl h1) ed_int rfl fun _ z => nomatch z) (fun _ _ h => ty_str h) kit4) fun _ => e3)
theorem hasBadPlace (D : DefOk K mg "bad_place" sBadPlace ["sort", "data"]) (M : Bi mg) (C : Cn K mg aS) (h_is_number : Has P w K mg base 1 "is_number" ["value", "most"] (spOf T K RNum)) : Has P w K mg base 2 "bad_place" ["sort", "data"] (spOf T K RBad) := by
  have nd := scBadPlace.nd
  obtain ⟨tMN, hMN⟩ := C.mn
  refine D.pure 1 scBadPlace (fun ds Pd h => ?_) fun f cdv A outer s H E vs ds Pd hr hT hv hR => ?_
  · obtain ⟨i, x, rfl, _⟩ := h
    rfl
  obtain ⟨so, x, rfl, hf, rfl⟩ := hR
  obtain ⟨v1, v2, rfl, h1, h2⟩ := dqa2 hv
  refine ⟨_, (pss_cons (ps_set (i := 2) nd rfl (Or.inl rfl) (pe_ix ix_tup (pv 0) pe_int (fun _ _ => rfl)))
    (pss_cons (ps_if (pt_cmpR op_eq (pv 2) pe_str (nomark _)) (pss_one (ps_ret (pe_ifExp (PW.pt (pw_and (pt_val (pe_callB call_isi rfl (M.isi) (by decide +kernel) (pa_cons (pv 1) (pa_cons (pe_bltn (v := .ty "str") (u := .type "str") rfl (M.str) (by decide +kernel) rfl) pa_nil)))) (pw_and1 (pt_cmpR op_in_seq (pv 1) (pe_ix ix_tup (pv 0) pe_int (fun _ _ => rfl)) (by rfl))))) pe_non (pe_tup pa_nil)))) pss_nil)
    (pss_cons (ps_if (pt_cmpR op_eq (pv 2) pe_str (nomark _)) (pss_one (ps_ret (pe_ifExp (pt_val (pe_has h_is_number hr (by omega) (pa_cons (pv 1) (pa_cons (pe_glob (v := .int 99) rfl hMN ⟨tMN, rfl⟩) pa_nil)))) pe_non (pe_tup pa_nil)))) pss_nil)
    pss_never))), ?_⟩
  refine rd_set (ed_tag (ed_var rfl h1) ed_int) fun k H1 g1 hk => ?_
  have h1 := dq_ext g1.ext h1
  have h2 := dq_ext g1.ext h2
  cases so with
  | mark ls =>
    refine rd_yes (eb_tag (m := 0) (ed_var rfl hk) ed_str) (rd_ret ?_)
    have hx : ls.get x ∈ ls := List.get_mem ls x
    have e1 := eb_and (eb_val (ed_isi (K := K) (T := T) (H := H1) (σ := (start nBadPlace [v1, v2]).set 2 (some k)) (m := "str") (ed_var (i := 1) rfl h2) (fun _ _ h => ty_str h) kit4)) fun _ => eb_test (ed_inS (ls := ls) (ed_var (i := 1) rfl h2) (ed_letters (ed_var (i := 0) rfl h1) ed_int))
    rw [decide_eq_true hx, Bool.true_and] at e1
    exact ed_if e1 (fun _ => ed_non.toP rfl) fun z => nomatch z
  | count =>
    refine rd_no (eb_tag (m := 0) (ed_var rfl hk) ed_str) (rd_yes (eb_tag (m := 1) (ed_var rfl hk) ed_str) (rd_ret ?_))
    have e1 := eb_val (ed_call (R := RNum) (K := K) (T := T) (H := H1) (σ := (start nBadPlace [v1, v2]).set 2 (some k)) (ea_cons (ed_var (i := 1) rfl h2) (ea_cons ed_int ea_nil)) ⟨((x : Nat) : Int), rfl, rfl⟩)
    have e0 : decide ((0 : Int) ≤ ((x : Nat) : Int)) = true := decide_eq_true (by omega)
    rw [e0, Bool.true_and] at e1
    refine ed_if e1 (fun z => ed_non.toP ?_) fun z => EvD.toP (ed_tup (as := []) ea_nil rfl (by simp)) ?_
    · show false = !decide (((x : Nat) : Int) ≤ 99)
      rw [z]; rfl
    · show true = !decide (((x : Nat) : Int) ≤ 99)
      rw [z]; rfl
  | _ => cases hf
end
end K16

end K16R9Text
section K16FText
set_option autoImplicit false
set_option linter.all false
/-! The number of ways, how many there are, how long they are: plain Lean. -/
namespace K16
section
variable {A : Type}
def lwStep (W : A → A → Nat) (x : A) (f : List A → Nat) : List A → Nat
  | [] => 1
  | y :: u => f (y :: u) + lwStep W x f u + f u * W x y
def lwRows (W : A → A → Nat) : List A → List A → Nat
  | [] => fun _ => 1
  | x :: v => lwStep W x (lwRows W v)
/-! the dict of sums -/
abbrev Sums := List (List Nat × Nat)
def lookS : Sums → List Nat → Nat
  | [], _ => 0
  | x :: d, k => if x.1 = k then x.2 else lookS d k
def putS : Sums → List Nat → Nat → Sums
  | [], k, n => [(k, n)]
  | x :: d, k, n => if x.1 = k then (k, n) :: d else x :: putS d k n
def hwPlace (row : Nat → Nat) (left : List Nat) (many : Nat) (more : Sums) (p : Nat) : Sums :=
  putS more (left.filter fun q => decide (q ≠ p)) (lookS more (left.filter fun q => decide (q ≠ p)) + many * row p)
def hwLeft (row : Nat → Nat) (more : Sums) (lm : List Nat × Nat) : Sums := lm.1.foldl (hwPlace row lm.1 lm.2) more
def hwStep (W : A → A → Nat) (u : List A) (sums : Sums) (x : A) : Sums := sums.foldl (hwLeft fun p => ((u[p]?).map fun y => W x y).getD 0) sums
def total (d : Sums) : Nat := (d.map Prod.snd).sum
def heapW (W : A → A → Nat) (v u : List A) : Nat := total (v.foldl (hwStep W u) [(List.range u.length, 1)])
end
def ways : (s : So) → Va s → Va s → Nat
  | .mark _ => fun _ _ => 1
  | .count => fun _ _ => 1
  | .both a b => fun v u => ways a v.1 u.1 * ways b v.2 u.2
  | .either a b => fun v u => match v, u with
    | .inl v, .inl u => ways a v u
    | .inr v, .inr u => ways b v u
    | .inl _, .inr _ => 1
    | .inr _, .inl _ => 1
  | .lane a => fun v u => lwRows (ways a) v u
  | .heap a => fun v u => heapW (ways a) v u
/-- the bound -/
def wcap : So → Nat
  | .mark _ => 1
  | .count => 1
  | .both a b => wcap a * wcap b
  | .either a b => max (wcap a) (wcap b)
  | .lane a => 1 + 2 * ((3 + 2 * wcap a) * (1 + wcap a))
  | .heap a => (1 + 2 * wcap a) * (1 + 2 * wcap a)
theorem wcap_pos : ∀ s : So, 1 ≤ wcap s
  | .mark _ => Nat.le_refl _
  | .count => Nat.le_refl _
  | .both a b => Nat.mul_le_mul (wcap_pos a) (wcap_pos b)
  | .either a b => Nat.le_trans (wcap_pos a) (Nat.le_max_left _ _)
  | .lane a => by simp only [wcap]; omega
  | .heap a => by
    have h : 1 ≤ 1 + 2 * wcap a := by omega
    exact Nat.mul_le_mul h h
section
variable {A : Type}
theorem lwStep_le {Q : A → Prop} {W : A → A → Nat} {x : A} {f : List A → Nat} {B F : Nat} (hW : ∀ y, Q y → W x y ≤ B) (hf : ∀ u, (∀ y ∈ u, Q y) → u.length ≤ 2 → f u ≤ F) : ∀ u : List A, (∀ y ∈ u, Q y) → u.length ≤ 2 → lwStep W x f u ≤ 1 + u.length * (F * (1 + B))
  | [], _, _ => by simp [lwStep]
  | y :: u, hq, h => by
    have hq' : ∀ y ∈ u, Q y := fun z hz => hq z (List.mem_cons_of_mem _ hz)
    have h' : u.length + 1 ≤ 2 := h
    have ih := lwStep_le hW hf u hq' (by omega)
    have h1 := hf (y :: u) hq h
    have h2 := hf u hq' (by omega)
    have h3 := Nat.mul_le_mul h2 (hW y (hq y (List.mem_cons_self ..)))
    rw [lwStep, List.length_cons, Nat.succ_mul]
    have e : F * (1 + B) = F + F * B := by rw [Nat.mul_add, Nat.mul_one]
    omega
/-- the rows' bound -/
def rcap (B : Nat) : Nat → Nat
  | 0 => 1
  | k + 1 => 1 + 2 * (rcap B k * (1 + B))
theorem lwRows_le {Q : A → Prop} {W : A → A → Nat} {B : Nat} (hW : ∀ x y, Q x → Q y → W x y ≤ B) : ∀ v u : List A, (∀ y ∈ v, Q y) → (∀ y ∈ u, Q y) → u.length ≤ 2 → lwRows W v u ≤ rcap B v.length
  | [], u, _, _, _ => Nat.le_refl _
  | x :: v, u, hv, hu, h => by
    have z := lwStep_le (x := x) (Q := Q) (fun y hy => hW x y (hv x (List.mem_cons_self ..)) hy) (fun u hu h => lwRows_le hW v u (fun y hy => hv y (List.mem_cons_of_mem _ hy)) hu h) u hu h
    refine Nat.le_trans z ?_
    show _ ≤ 1 + 2 * (rcap B v.length * (1 + B))
    have := Nat.mul_le_mul_right (rcap B v.length * (1 + B)) h
    omega
theorem rcap_mono (B : Nat) : ∀ k, rcap B k ≤ rcap B (k + 1)
  | 0 => by simp only [rcap]; omega
  | k + 1 => by
    have := Nat.mul_le_mul_right (1 + B) (rcap_mono B k)
    show 1 + 2 * (rcap B k * (1 + B)) ≤ 1 + 2 * (rcap B (k + 1) * (1 + B))
    omega
theorem rcap_le (B : Nat) {k : Nat} (h : k ≤ 2) : rcap B k ≤ 1 + 2 * ((3 + 2 * B) * (1 + B)) := by
  have e : rcap B 2 = 1 + 2 * ((3 + 2 * B) * (1 + B)) := by
    show 1 + 2 * ((1 + 2 * (1 * (1 + B))) * (1 + B)) = _
    have : 1 + 2 * (1 * (1 + B)) = 3 + 2 * B := by omega
    rw [this]
  rw [← e]
  match k, h with
  | 0, _ => exact Nat.le_trans (rcap_mono B 0) (rcap_mono B 1)
  | 1, _ => exact rcap_mono B 1
  | 2, _ => exact Nat.le_refl _
/-! sums -/
theorem total_put : ∀ (d : Sums) (k : List Nat) (n : Nat), total (putS d k (lookS d k + n)) = total d + n
  | [], k, n => by simp [putS, lookS, total]
  | x :: d, k, n => by
    rw [putS, lookS]
    by_cases c : x.1 = k
    · rw [if_pos c, if_pos c]
      simp only [total, List.map_cons, List.sum_cons]
      omega
    · rw [if_neg c, if_neg c]
      have ih := total_put d k n
      simp only [total, List.map_cons, List.sum_cons] at ih ⊢
      omega
theorem total_left {row : Nat → Nat} {B : Nat} (hr : ∀ p, row p ≤ B) (left : List Nat) (many : Nat) : ∀ (l : List Nat) (more : Sums), total (l.foldl (hwPlace row left many) more) ≤ total more + l.length * (many * B)
  | [], more => by simp
  | p :: l, more => by
    rw [List.foldl_cons]
    refine Nat.le_trans (total_left hr left many l _) ?_
    unfold hwPlace
    rw [total_put, List.length_cons, Nat.succ_mul]
    have := Nat.mul_le_mul_left many (hr p)
    omega
theorem len_put : ∀ (d : Sums) (k : List Nat) (n : Nat), ∀ x ∈ putS d k n, x ∈ d ∨ x.1 = k
  | [], k, n, x, hx => by
    have : x = (k, n) := by simpa [putS] using hx
    exact .inr (by rw [this])
  | y :: d, k, n, x, hx => by
    rw [putS] at hx
    split at hx
    · rcases List.mem_cons.mp hx with e | h
      · exact .inr (by rw [e])
      · exact .inl (List.mem_cons_of_mem _ h)
    · rcases List.mem_cons.mp hx with e | h
      · exact .inl (by rw [e]; exact List.mem_cons_self ..)
      · rcases len_put d k n x h with h | h
        · exact .inl (List.mem_cons_of_mem _ h)
        · exact .inr h
/-- keys: short, without the same place twice -/
def KeyOk (m : Nat) (d : Sums) : Prop := ∀ x ∈ d, x.1.Nodup ∧ ∀ p ∈ x.1, p < m
theorem KeyOk.put {m : Nat} {d : Sums} {k : List Nat} {n : Nat} (h : KeyOk m d) (hk : k.Nodup ∧ ∀ p ∈ k, p < m) : KeyOk m (putS d k n) := fun x hx => by
  rcases len_put d k n x hx with h1 | h1
  · exact h x h1
  · rw [h1]; exact hk
theorem KeyOk.left {m : Nat} {row : Nat → Nat} {left : List Nat} {many : Nat} (hl : left.Nodup ∧ ∀ p ∈ left, p < m) : ∀ (l : List Nat) {more : Sums}, KeyOk m more → KeyOk m (l.foldl (hwPlace row left many) more)
  | [], more, h => h
  | p :: l, more, h => by
    rw [List.foldl_cons]
    exact KeyOk.left hl l (h.put ⟨hl.1.sublist List.filter_sublist, fun q hq => hl.2 q (List.mem_filter.mp hq).1⟩)
theorem step_ok {m : Nat} {row : Nat → Nat} {B : Nat} (hr : ∀ p, row p ≤ B) : ∀ (l : Sums) (more : Sums), KeyOk m l → KeyOk m more → KeyOk m (l.foldl (hwLeft row) more) ∧ total (l.foldl (hwLeft row) more) ≤ total more + m * (total l * B)
  | [], more, _, h => ⟨h, by simp⟩
  | x :: l, more, hx, h => by
    rw [List.foldl_cons]
    have h0 := hx x (List.mem_cons_self ..)
    obtain ⟨h1, h2⟩ := step_ok hr l (hwLeft row more x) (fun y hy => hx y (List.mem_cons_of_mem _ hy)) (KeyOk.left h0 x.1 h)
    refine ⟨h1, Nat.le_trans h2 ?_⟩
    have h3 := total_left hr x.1 x.2 x.1 more
    have hlen : x.1.length ≤ m := by
      have := nodup_sub_len x.1 (List.range m) h0.1 fun p hp => List.mem_range.mpr (h0.2 p hp)
      simpa using this
    have h4 := Nat.mul_le_mul_right (x.2 * B) hlen
    have e : m * (total (x :: l) * B) = m * (x.2 * B) + m * (total l * B) := by
      have : total (x :: l) = x.2 + total l := by simp [total]
      rw [this, Nat.add_mul, Nat.mul_add]
    unfold hwLeft
    omega
theorem heap_fold {Q : A → Prop} {W : A → A → Nat} {B : Nat} (hW : ∀ x y, Q x → Q y → W x y ≤ B) (u : List A) (hu : ∀ y ∈ u, Q y) : ∀ (v : List A) (d : Sums), (∀ y ∈ v, Q y) → KeyOk u.length d → KeyOk u.length (v.foldl (hwStep W u) d) ∧ (u.length ≤ 2 → total (v.foldl (hwStep W u) d) ≤ total d * (1 + 2 * B) ^ v.length)
  | [], d, _, h => ⟨h, fun _ => by simp⟩
  | x :: v, d, hv, h => by
    rw [List.foldl_cons]
    have hr : ∀ p : Nat, (((u[p]? : Option A)).map fun y => W x y).getD 0 ≤ B := fun p => by
      cases e : u[p]? with
      | none => exact Nat.zero_le _
      | some y => exact hW x y (hv x (List.mem_cons_self ..)) (hu y (List.mem_of_getElem? e))
    obtain ⟨h1, h2⟩ := step_ok (m := u.length) hr d d h h
    obtain ⟨h3, h4⟩ := heap_fold hW u hu v (hwStep W u d x) (fun y hy => hv y (List.mem_cons_of_mem _ hy)) h1
    refine ⟨h3, fun hu => Nat.le_trans (h4 hu) ?_⟩
    have h5 : total (hwStep W u d x) ≤ total d * (1 + 2 * B) := by
      refine Nat.le_trans h2 ?_
      have := Nat.mul_le_mul_right (total d * B) hu
      have e : total d * (1 + 2 * B) = total d + 2 * (total d * B) := by
        rw [Nat.mul_add, Nat.mul_one]
        congr 1
        rw [Nat.mul_left_comm]
      omega
    have := Nat.mul_le_mul_right ((1 + 2 * B) ^ v.length) h5
    rw [List.length_cons, Nat.pow_succ, Nat.mul_comm ((1 + 2 * B) ^ v.length), ← Nat.mul_assoc]
    exact this
theorem total_mem : ∀ {d : Sums} {x : List Nat × Nat}, x ∈ d → x.2 ≤ total d
  | y :: d, x, h => by
    have e : total (y :: d) = y.2 + total d := by simp [total]
    rw [e]
    rcases List.mem_cons.mp h with h | h
    · rw [h]; exact Nat.le_add_right _ _
    · exact Nat.le_trans (total_mem h) (Nat.le_add_left _ _)
theorem pow_cap (B : Nat) {k : Nat} (h : k ≤ 2) : (1 + 2 * B) ^ k ≤ (1 + 2 * B) * (1 + 2 * B) := by
  have e : (1 + 2 * B) ^ 2 = (1 + 2 * B) * (1 + 2 * B) := by rw [Nat.pow_succ, Nat.pow_one]
  rw [← e]
  exact Nat.pow_le_pow_right (by omega) h
theorem heap_start (m : Nat) : KeyOk m [(List.range m, 1)] := fun x hx => by
  have : x = (List.range m, 1) := by simpa using hx
  rw [this]
  exact ⟨List.nodup_range, fun p hp => List.mem_range.mp hp⟩
theorem heapW_le {Q : A → Prop} {W : A → A → Nat} {B : Nat} (hW : ∀ x y, Q x → Q y → W x y ≤ B) (v u : List A) (qv : ∀ y ∈ v, Q y) (qu : ∀ y ∈ u, Q y) (hv : v.length ≤ 2) (hu : u.length ≤ 2) : heapW W v u ≤ (1 + 2 * B) * (1 + 2 * B) := by
  obtain ⟨_, h⟩ := heap_fold hW u qu v [(List.range u.length, 1)] qv (heap_start _)
  have h := h hu
  have e : total [(List.range u.length, 1)] = 1 := by simp [total]
  rw [e, Nat.one_mul] at h
  exact Nat.le_trans h (pow_cap B hv)
end
theorem ways_le : ∀ (s : So) (v u : Va s), Sm 2 s v → Sm 2 s u → ways s v u ≤ wcap s
  | .mark _, v, u, _, _ => Nat.le_refl _
  | .count, v, u, _, _ => Nat.le_refl _
  | .both a b, v, u, hv, hu => Nat.mul_le_mul (ways_le a _ _ hv.1 hu.1) (ways_le b _ _ hv.2 hu.2)
  | .either a b, .inl v, .inl u, hv, hu => Nat.le_trans (ways_le a v u hv hu) (Nat.le_max_left _ _)
  | .either a b, .inr v, .inr u, hv, hu => Nat.le_trans (ways_le b v u hv hu) (Nat.le_max_right _ _)
  | .either a b, .inl v, .inr u, hv, hu => wcap_pos (.either a b)
  | .either a b, .inr v, .inl u, hv, hu => wcap_pos (.either a b)
  | .lane a, v, u, hv, hu => Nat.le_trans (lwRows_le (Q := Sm 2 a) (ways_le a) v u hv.2 hu.2 hu.1) (rcap_le _ hv.1)
  | .heap a, v, u, hv, hu => heapW_le (Q := Sm 2 a) (ways_le a) v u hv.2 hu.2 hv.1 hu.1
end K16

end K16FText
section K16F2Text
set_option autoImplicit false
set_option linter.all false
/-! How many hold both, how long they are. -/
namespace K16
section
variable {A : Type}
theorem flat_len {B C : Type} {n : Nat} {f : B → List C} : ∀ (l : List B), (∀ x ∈ l, (f x).length ≤ n) → (l.flatMap f).length ≤ l.length * n
  | [], _ => by simp
  | x :: l, h => by
    have h1 := h x (List.mem_cons_self ..)
    have h2 := flat_len l fun y hy => h y (List.mem_cons_of_mem _ hy)
    rw [List.flatMap_cons, List.length_append, List.length_cons, Nat.succ_mul]
    omega
theorem laneStep_len {Q : A → Prop} {lst : List (List A) → List (List A)} {B : A → A → List A} {x : A} {v : List A} {f : List A → List (List A)} {c F : Nat} (hl : ∀ L, (lst L).length ≤ L.length) (hB : ∀ y, Q y → (B x y).length ≤ c) (hf : ∀ u, (∀ y ∈ u, Q y) → u.length ≤ 2 → (f u).length ≤ F) :
    ∀ u : List A, (∀ y ∈ u, Q y) → u.length ≤ 2 → (laneStep lst B x v f u).length ≤ 1 + u.length * (F * (1 + c))
  | [], _, _ => by simp [laneStep]
  | y :: u, hq, h => by
    have h' : u.length + 1 ≤ 2 := h
    have hq' : ∀ y ∈ u, Q y := fun z hz => hq z (List.mem_cons_of_mem _ hz)
    have ih := laneStep_len (v := v) hl hB hf u hq' (by omega)
    have h1 := hf (y :: u) hq h
    have h2 := hf u hq' (by omega)
    have h3 := hB y (hq y (List.mem_cons_self ..))
    have h4 := flat_len (f := fun b => (f u).map (b :: ·)) (n := F) (B x y) fun b _ => by rw [List.length_map]; exact h2
    have h5 := Nat.mul_le_mul_right F h3
    rw [laneStep, List.length_cons, Nat.succ_mul]
    refine Nat.le_trans (hl _) ?_
    rw [List.length_append, List.length_append, List.length_map, List.length_map]
    have e : F * (1 + c) = F + c * F := by rw [Nat.mul_add, Nat.mul_one, Nat.mul_comm]
    omega
theorem laneRows_len {Q : A → Prop} {lst : List (List A) → List (List A)} {B : A → A → List A} {c : Nat} (hl : ∀ L, (lst L).length ≤ L.length) (hB : ∀ x y, Q x → Q y → (B x y).length ≤ c) : ∀ v u : List A, (∀ y ∈ v, Q y) → (∀ y ∈ u, Q y) → u.length ≤ 2 → (laneRows lst B v u).length ≤ rcap c v.length
  | [], u, _, _, _ => Nat.le_refl _
  | x :: v, u, hv, hu, h => by
    have z := laneStep_len (x := x) (v := v) (Q := Q) hl (fun y hy => hB x y (hv x (List.mem_cons_self ..)) hy) (fun u hu h => laneRows_len hl hB v u (fun y hy => hv y (List.mem_cons_of_mem _ hy)) hu h) u hu h
    refine Nat.le_trans z ?_
    show _ ≤ 1 + 2 * (rcap c v.length * (1 + c))
    have := Nat.mul_le_mul_right (rcap c v.length * (1 + c)) h
    omega
theorem laneRows_two {Q R : A → Prop} {lst : List (List A) → List (List A)} {B : A → A → List A} (hl : ∀ L m, m ∈ lst L → m ∈ L) (qr : ∀ x, Q x → R x) (hB : ∀ x y, Q x → Q y → ∀ b ∈ B x y, R b) : ∀ v u : List A, (∀ y ∈ v, Q y) → (∀ y ∈ u, Q y) → ∀ m ∈ laneRows lst B v u, m.length ≤ v.length + u.length ∧ ∀ y ∈ m, R y := by
  intro v
  induction v with
  | nil =>
    intro u _ hu m hm
    have : m = u := by simpa [laneRows] using hm
    rw [this]
    exact ⟨by simp, fun y hy => qr y (hu y hy)⟩
  | cons x v ihv =>
    intro u
    induction u with
    | nil =>
      intro hv _ m hm
      have : m = x :: v := by simpa [laneRows, laneStep] using hm
      rw [this]
      exact ⟨by simp, fun y hy => qr y (hv y hy)⟩
    | cons y u ihu =>
      intro hv hu m hm
      have hv' : ∀ y ∈ v, Q y := fun z hz => hv z (List.mem_cons_of_mem _ hz)
      have hu' : ∀ y ∈ u, Q y := fun z hz => hu z (List.mem_cons_of_mem _ hz)
      have hm := hl _ _ (show m ∈ lst _ from hm)
      rcases List.mem_append.mp hm with hm | hm
      · rcases List.mem_append.mp hm with hm | hm
        · obtain ⟨r, hr, rfl⟩ := List.mem_map.mp hm
          obtain ⟨h1, h2⟩ := ihv (y :: u) hv' hu r hr
          refine ⟨by simp only [List.length_cons] at h1 ⊢; omega, fun z hz => ?_⟩
          rcases List.mem_cons.mp hz with e | hz
          · rw [e]; exact qr x (hv x (List.mem_cons_self ..))
          · exact h2 z hz
        · obtain ⟨r, hr, rfl⟩ := List.mem_map.mp hm
          obtain ⟨h1, h2⟩ := ihu hv hu' r hr
          refine ⟨by simp only [List.length_cons] at h1 ⊢; omega, fun z hz => ?_⟩
          rcases List.mem_cons.mp hz with e | hz
          · rw [e]; exact qr y (hu y (List.mem_cons_self ..))
          · exact h2 z hz
      · obtain ⟨b, hb, hm⟩ := List.mem_flatMap.mp hm
        obtain ⟨r, hr, rfl⟩ := List.mem_map.mp hm
        obtain ⟨h1, h2⟩ := ihv u hv' hu' r hr
        refine ⟨by simp only [List.length_cons] at h1 ⊢; omega, fun z hz => ?_⟩
        rcases List.mem_cons.mp hz with e | hz
        · rw [e]; exact hB x y (hv x (List.mem_cons_self ..)) (hu y (List.mem_cons_self ..)) b hb
        · exact h2 z hz
/-! heaps -/
/-- a row: what was found, the places left -/
structure HOk (Q : A → Prop) (k m : Nat) (r : List A × List Nat) : Prop where
  f : r.1.length ≤ k
  l : r.2.length ≤ m
  q : ∀ y ∈ r.1, Q y
theorem heapStep_ok {Q : A → Prop} {B : A → A → List A} {u : List A} {x : A} {k m : Nat} (hx : Q x) (hB : ∀ (p : Nat) y, u[p]? = some y → ∀ b ∈ B x y, Q b) {rows : List (List A × List Nat)} (h : ∀ r ∈ rows, HOk Q k m r) : ∀ r ∈ heapStep B u rows x, HOk Q (k + 1) m r := fun r hr => by
  unfold heapStep at hr
  rcases List.mem_append.mp hr with hr | hr
  · obtain ⟨r0, h0, rfl⟩ := List.mem_map.mp hr
    have z := h r0 h0
    refine ⟨?_, z.l, fun y hy => ?_⟩
    · have := z.f
      simp only [List.length_append, List.length_singleton]
      omega
    · rcases List.mem_append.mp hy with hy | hy
      · exact z.q y hy
      · rw [List.mem_singleton.mp hy]; exact hx
  · obtain ⟨r0, h0, hr⟩ := List.mem_flatMap.mp hr
    have z := h r0 h0
    obtain ⟨p, hp, hr⟩ := List.mem_flatMap.mp hr
    cases e : u[p]? with
    | none => rw [e] at hr; simp at hr
    | some y =>
      rw [e] at hr
      obtain ⟨b, hb, rfl⟩ := List.mem_map.mp hr
      refine ⟨?_, Nat.le_trans (List.length_filter_le _ _) z.l, fun w hw => ?_⟩
      · have := z.f
        simp only [List.length_append, List.length_singleton]
        omega
      · rcases List.mem_append.mp hw with hw | hw
        · exact z.q w hw
        · rw [List.mem_singleton.mp hw]; exact hB p y e b hb
theorem heapStep_len {Q : A → Prop} {B : A → A → List A} {u : List A} {x : A} {k m c : Nat} (hB : ∀ (p : Nat) y, u[p]? = some y → (B x y).length ≤ c) {rows : List (List A × List Nat)} (h : ∀ r ∈ rows, HOk Q k m r) : (heapStep B u rows x).length ≤ rows.length * (1 + m * c) := by
  unfold heapStep
  rw [List.length_append, List.length_map, Nat.mul_add, Nat.mul_one]
  refine Nat.add_le_add_left (flat_len rows fun r hr => ?_) _
  have z := h r hr
  have e : (heapPairs B u x r).length ≤ r.2.length * c := by
    unfold heapPairs
    refine flat_len r.2 fun p _ => ?_
    cases e : u[p]? with
    | none => exact Nat.zero_le _
    | some y =>
      show ((B x y).map _).length ≤ c
      rw [List.length_map]
      exact hB p y e
  exact Nat.le_trans e (Nat.mul_le_mul_right c z.l)
theorem heapFold_ok {Q R : A → Prop} {B : A → A → List A} {u : List A} {m c : Nat} (qr : ∀ x, Q x → R x) (hB : ∀ x y, Q x → Q y → (∀ b ∈ B x y, R b) ∧ (B x y).length ≤ c) (hu : ∀ y ∈ u, Q y) : ∀ (v : List A) (k : Nat) (rows : List (List A × List Nat)), (∀ y ∈ v, Q y) → (∀ r ∈ rows, HOk R k m r) →
    (∀ r ∈ v.foldl (heapStep B u) rows, HOk R (k + v.length) m r) ∧ (v.foldl (heapStep B u) rows).length ≤ rows.length * (1 + m * c) ^ v.length
  | [], k, rows, _, h => ⟨h, by simp⟩
  | x :: v, k, rows, hv, h => by
    have hx := hv x (List.mem_cons_self ..)
    have hm : ∀ (p : Nat) y, u[p]? = some y → Q y := fun p y e => hu y (List.mem_of_getElem? e)
    have h1 := heapStep_ok (B := B) (u := u) (x := x) (qr x hx) (fun p y e => (hB x y hx (hm p y e)).1) h
    have h2 := heapStep_len (B := B) (u := u) (x := x) (c := c) (fun p y e => (hB x y hx (hm p y e)).2) h
    obtain ⟨h3, h4⟩ := heapFold_ok qr hB hu v (k + 1) (heapStep B u rows x) (fun y hy => hv y (List.mem_cons_of_mem _ hy)) h1
    rw [List.foldl_cons, List.length_cons]
    refine ⟨fun r hr => ?_, Nat.le_trans h4 ?_⟩
    · have := h3 r hr
      rw [show k + (v.length + 1) = k + 1 + v.length by omega]
      exact this
    · have := Nat.mul_le_mul_right ((1 + m * c) ^ v.length) h2
      rw [Nat.pow_succ, Nat.mul_comm ((1 + m * c) ^ v.length), ← Nat.mul_assoc]
      exact this
theorem elems_len (u : List A) (l : List Nat) : (elems u l).length ≤ l.length := List.length_filterMap_le _ _
theorem elems_mem {Q : A → Prop} {u : List A} (hu : ∀ y ∈ u, Q y) {l : List Nat} {y : A} (h : y ∈ elems u l) : Q y := by
  obtain ⟨p, _, e⟩ := List.mem_filterMap.mp h
  exact hu y (List.mem_of_getElem? e)
theorem dedup_len [DecidableEq A] (xs : List A) : (dedup xs).length ≤ xs.length := by
  have g : ∀ (xs acc : List A), (xs.foldl (fun acc x => if x ∈ acc then acc else acc ++ [x]) acc).length ≤ acc.length + xs.length := by
    intro xs
    induction xs with
    | nil => intro acc; simp
    | cons x xs ih =>
      intro acc
      rw [List.foldl_cons]
      refine Nat.le_trans (ih _) ?_
      split
      · simp only [List.length_cons]; omega
      · simp only [List.length_append, List.length_cons, List.length_nil]; omega
  have := g xs []
  simpa [dedup] using this
end
theorem sm_mono : ∀ {s : So} {v : Va s} {n m : Nat}, n ≤ m → Sm n s v → Sm m s v
  | .mark _, v, n, m, _, h => h
  | .count, v, n, m, _, h => h
  | .both a b, v, n, m, hm, h => ⟨sm_mono hm h.1, sm_mono hm h.2⟩
  | .either a b, .inl v, n, m, hm, h => sm_mono (s := a) hm h
  | .either a b, .inr v, n, m, hm, h => sm_mono (s := b) hm h
  | .lane a, v, n, m, hm, h => ⟨Nat.le_trans h.1 hm, fun x hx => sm_mono hm (h.2 x hx)⟩
  | .heap a, v, n, m, hm, h => ⟨Nat.le_trans h.1 hm, fun x hx => sm_mono hm (h.2 x hx)⟩
theorem form_sm : ∀ {s : So} {v : Va s} {n : Nat}, Sm n s v → Sm n s (form s v)
  | .mark _, v, n, h => h
  | .count, v, n, h => h
  | .both a b, v, n, h => ⟨form_sm h.1, form_sm h.2⟩
  | .either a b, .inl v, n, h => form_sm (s := a) h
  | .either a b, .inr v, n, h => form_sm (s := b) h
  | .lane a, v, n, h => ⟨by rw [show form (.lane a) v = List.map (form a) v from rfl, List.length_map]; exact h.1, fun x hx => by
      obtain ⟨y, hy, rfl⟩ := List.mem_map.mp hx
      exact form_sm (h.2 y hy)⟩
  | .heap a, v, n, h => ⟨by rw [show form (.heap a) v = sortV a (List.map (form a) v) from rfl, (sortV_perm _ _).length_eq, List.length_map]; exact h.1, fun x hx => by
      obtain ⟨y, hy, rfl⟩ := List.mem_map.mp ((sortV_perm _ _).mem_iff.mp hx)
      exact form_sm (h.2 y hy)⟩
/-- what holds both: few, and no row longer than four -/
theorem rawBoth_few : ∀ (s : So) (v u : Va s), Sm 2 s v → Sm 2 s u → (rawBoth s v u).length ≤ wcap s ∧ ∀ m ∈ rawBoth s v u, Sm 4 s m
  | .mark ls, v, u, _, _ => by
    constructor
    · show (if v = u then [v] else []).length ≤ 1
      split <;> simp
    · exact fun m _ => True.intro
  | .count, v, u, _, _ => ⟨Nat.le_refl _, fun m _ => True.intro⟩
  | .both a b, v, u, hv, hu => by
    obtain ⟨h1, h2⟩ := rawBoth_few a v.1 u.1 hv.1 hu.1
    obtain ⟨h3, h4⟩ := rawBoth_few b v.2 u.2 hv.2 hu.2
    constructor
    · refine Nat.le_trans (flat_len (n := wcap b) _ fun x _ => by rw [List.length_map]; exact h3) ?_
      exact Nat.mul_le_mul_right _ h1
    · intro m hm
      obtain ⟨x, hx, hm⟩ := List.mem_flatMap.mp hm
      obtain ⟨y, hy, rfl⟩ := List.mem_map.mp hm
      exact ⟨h2 x hx, h4 y hy⟩
  | .either a b, .inl v, .inl u, hv, hu => by
    obtain ⟨h1, h2⟩ := rawBoth_few a v u hv hu
    refine ⟨?_, fun m hm => ?_⟩
    · show ((rawBoth a v u).map _).length ≤ _
      rw [List.length_map]
      exact Nat.le_trans h1 (Nat.le_max_left _ _)
    · obtain ⟨x, hx, rfl⟩ := List.mem_map.mp hm
      exact h2 x hx
  | .either a b, .inr v, .inr u, hv, hu => by
    obtain ⟨h1, h2⟩ := rawBoth_few b v u hv hu
    refine ⟨?_, fun m hm => ?_⟩
    · show ((rawBoth b v u).map _).length ≤ _
      rw [List.length_map]
      exact Nat.le_trans h1 (Nat.le_max_right _ _)
    · obtain ⟨x, hx, rfl⟩ := List.mem_map.mp hm
      exact h2 x hx
  | .either a b, .inl v, .inr u, _, _ => ⟨Nat.zero_le _, fun m hm => by cases hm⟩
  | .either a b, .inr v, .inl u, _, _ => ⟨Nat.zero_le _, fun m hm => by cases hm⟩
  | .lane a, v, u, hv, hu => by
    have len := laneRows_len (Q := Sm 2 a) (lst := least (.lane a)) (c := wcap a) (least_len (.lane a)) (fun x y hx hy => (rawBoth_few a x y hx hy).1) v u hv.2 hu.2 hu.1
    refine ⟨Nat.le_trans len (rcap_le _ hv.1), fun m hm => ?_⟩
    have q4 : ∀ w : List (Va a), (∀ y ∈ w, Sm 2 a y) → ∀ y ∈ w, Sm 4 a y := fun w h y hy => sm_mono (by omega) (h y hy)
    have z := laneRows_two (lst := least (.lane a)) (fun L m h => mem_least h) (B := rawBoth a) (Q := Sm 2 a) (R := Sm 4 a) (fun x h => sm_mono (by omega) h) (fun x y hx hy => (rawBoth_few a x y hx hy).2) v u hv.2 hu.2 m hm
    have h1 : List.length v ≤ 2 := hv.1
    have h2 : List.length u ≤ 2 := hu.1
    have h3 : List.length m ≤ List.length v + List.length u := z.1
    exact ⟨by omega, z.2⟩
  | .heap a, v, u, hv, hu => by
    have hm : List.length u ≤ 2 := hu.1
    have hk : List.length v ≤ 2 := hv.1
    obtain ⟨h1, h2⟩ := heapFold_ok (Q := Sm 2 a) (R := Sm 4 a) (m := 2) (c := wcap a) (B := rawBoth a) (u := u) (fun x h => sm_mono (by omega) h) (fun x y hx hy => ⟨(rawBoth_few a x y hx hy).2, (rawBoth_few a x y hx hy).1⟩) hu.2 v 0 [([], List.range (List.length u))] hv.2 (fun r hr => by
      have : r = ([], List.range (List.length u)) := by simpa using hr
      rw [this]
      exact ⟨by simp, by simpa using hm, fun y hy => by cases hy⟩)
    constructor
    · refine Nat.le_trans (least_len _ _) (Nat.le_trans (dedup_len _) ?_)
      show (List.map _ _).length ≤ _
      rw [List.length_map]
      refine Nat.le_trans h2 ?_
      rw [List.length_singleton, Nat.one_mul]
      exact pow_cap _ hk
    · intro m hm'
      have hm' := mem_dedup.mp (mem_least hm')
      obtain ⟨r, hr, rfl⟩ := List.mem_map.mp hm'
      have z := h1 r hr
      refine form_sm (s := .heap a) ⟨?_, fun y hy => ?_⟩
      · have h3 := z.f
        have h4 := z.l
        have h5 := elems_len u r.2
        rw [List.length_append]
        omega
      · rcases List.mem_append.mp hy with hy | hy
        · exact z.q y hy
        · exact sm_mono (n := 2) (by omega) (elems_mem (Q := Sm 2 a) hu.2 hy)
end K16

end K16F2Text
section K16R10Text
set_option autoImplicit false
set_option linter.all false
set_option maxRecDepth 100000
set_option Elab.async false
set_option pp.maxSteps 350
set_option pp.deepTerms false
set_option pp.deepTerms.threshold 4
namespace K16
open PySem PySem.Spec PyProof.Rows L2
theorem plain_enc : ∀ (s : So) (v : Va s), (enc s v).plain = true
  | .mark ls, v => rfl
  | .count, v => rfl
  | .both a b, v => by simp [enc, PyData.plain, PyData.plainAll, plain_enc a, plain_enc b]
  | .either a b, .inl v => by simp [enc, PyData.plain, PyData.plainAll, plain_enc a]
  | .either a b, .inr v => by simp [enc, PyData.plain, PyData.plainAll, plain_enc b]
  | .lane a, v => by
    show PyData.plainAll (List.map (enc a) v) = true
    exact plainAll_iff.mpr fun d hd => by
      obtain ⟨x, _, rfl⟩ := List.mem_map.mp hd
      exact plain_enc a x
  | .heap a, v => by
    show PyData.plainAll (List.map (enc a) v) = true
    exact plainAll_iff.mpr fun d hd => by
      obtain ⟨x, _, rfl⟩ := List.mem_map.mp hd
      exact plain_enc a x
theorem depth_enc : ∀ (s : So) (v : Va s), (enc s v).depth ≤ dep s + 1
  | .mark ls, v => by simp [enc, PyData.depth]
  | .count, v => by simp [enc, PyData.depth]
  | .both a b, v => by
    have h1 := depth_enc a v.1
    have h2 := depth_enc b v.2
    simp [enc, PyData.depth, PyData.depthAll, dep]
    omega
  | .either a b, .inl v => by
    have h1 := depth_enc a v
    simp [enc, PyData.depth, PyData.depthAll, dep]
    omega
  | .either a b, .inr v => by
    have h1 := depth_enc b v
    simp [enc, PyData.depth, PyData.depthAll, dep]
    omega
  | .lane a, v => by
    show PyData.depthAll (List.map (enc a) v) + 1 ≤ dep a + 1 + 1
    exact Nat.succ_le_succ (depthAll_le fun d hd => by
      obtain ⟨x, _, rfl⟩ := List.mem_map.mp hd
      exact depth_enc a x)
  | .heap a, v => by
    show PyData.depthAll (List.map (enc a) v) + 1 ≤ dep a + 1 + 1
    exact Nat.succ_le_succ (depthAll_le fun d hd => by
      obtain ⟨x, _, rfl⟩ := List.mem_map.mp hd
      exact depth_enc a x)
theorem eqv_enc : ∀ (s : So) (h : Wf s) (x y : Va s), PyData.eqv (enc s x) (enc s y) = decide (x = y)
  | .mark ls, h, x, y => by
    have e := mark_eq h.1 x y
    show PyData.eqv (.str (ls.get x)) (.str (ls.get y)) = decide (x = y)
    rw [← e]
    simp only [PyData.eqv]
    rfl
  | .count, h, x, y => by
    have e := nat_eq x y
    show PyData.eqv (.int ((x : Nat) : Int)) (.int ((y : Nat) : Int)) = decide ((x : Nat) = y)
    rw [← e]
    simp only [PyData.eqv]
    rfl
  | .both a b, h, (x1, x2), (y1, y2) => by
    show PyData.eqvAll [enc a x1, enc b x2] [enc a y1, enc b y2] = _
    simp only [PyData.eqvAll, eqv_enc a h.1 x1 y1, eqv_enc b h.2 x2 y2, Bool.and_true]
    rw [← Bool.decide_and]
    exact decide_eq_decide.mpr (by simp [Prod.ext_iff])
  | .either a b, h, .inl x, .inl y => by
    show PyData.eqvAll [.str "left", enc a x] [.str "left", enc a y] = _
    simp only [PyData.eqvAll, eqv_enc a h.1 x y, Bool.and_true]
    simp [PyData.eqv]
  | .either a b, h, .inr x, .inr y => by
    show PyData.eqvAll [.str "right", enc b x] [.str "right", enc b y] = _
    simp only [PyData.eqvAll, eqv_enc b h.2 x y, Bool.and_true]
    simp [PyData.eqv]
  | .either a b, h, .inl x, .inr y => by
    have e : (("left" : Str) == "right") = false := eqLR
    show PyData.eqvAll [.str "left", enc a x] [.str "right", enc b y] = _
    simp [PyData.eqvAll, PyData.eqv, e]
  | .either a b, h, .inr x, .inl y => by
    have e : (("right" : Str) == "left") = false := eqRL
    show PyData.eqvAll [.str "right", enc b x] [.str "left", enc a y] = _
    simp [PyData.eqvAll, PyData.eqv, e]
  | .lane a, h, x, y => eqvAll_map (eqv_enc a h) x y
  | .heap a, h, x, y => eqvAll_map (eqv_enc a h) x y
section
variable {K : PySem.W.Frag} {T : Tb} {H : Hp} {σ : L2.St} {ta tb : TE}
theorem ed_tagE {s : So} {m : Nat} (ha : EvD K T ta σ H (.str (tag s))) (hb : EvD K T tb σ H (.str (tagN m))) (hm : m < 6 := by decide) : EvD K T (tOp rEq ta tb) σ H (.bool (no s == m)) :=
  (ed_eqS ha hb).is (congrArg De.bool (by rw [tag_no]; exact tagN_inj _ (no_lt s) _ hm))
end
abbrev sOneForm : Stmt := topS 14
abbrev nOneForm : List Str := ["sort", "data", "kind", "found", "one"]
theorem scOneForm : FnScope nOneForm ["sort", "data"] (defScope sOneForm) := ⟨rfl, rfl, rfl, by decide +kernel, rfl, by decide +kernel, by decide +kernel⟩
def ROne (d : Nat) (ds : List De) (P : De → Prop) : Prop := ∃ (s : So) (v : Va s), ds = [.s s, .d (enc s v)] ∧ dep s < d ∧ Wf s ∧ Sm 8 s v ∧ P = fun r => r = .d (enc s (form s v))
section
variable {P : Program} {w : World} {K : PySem.W.Frag} {mg : Str → Option Value} {base : Heap} {T : Tb} {aS : Addr}
theorem hasIsFormed (d : Nat) (hd0 : d ≤ 20) (D : DefOk K mg "is_formed" sIsFormed ["sort", "value"]) (M : Bi mg) (C : Cn K mg aS) (kS : ∀ H, Kn K H aS ["left", "right"]) (h_is_pair : Has P w K mg base 1 "is_pair" ["value"] (spOf T K RPair)) (h_is_side : Has P w K mg base 2 "is_side" ["value"] (spOf T K RSide)) (h_bad_place : Has P w K mg base 2 "bad_place" ["sort", "data"] (spOf T K RBad))
    (h_sorted_values : Has P w K mg base (d + 4) "sorted_values" ["sort", "values"] (spOf T K (RSort d))) (h_is_formed : Has P w K mg base (d + 5) "is_formed" ["sort", "value"] (spOf T K (RForm d))) :
    Has P w K mg base (d + 6) "is_formed" ["sort", "value"] (spOf T K (RForm (d + 1))) := by
  have nd := scIsFormed.nd
  obtain ⟨tME, hME⟩ := C.me
  refine D.pure (d + 5) scIsFormed (fun ds Pd h => ?_) fun f cdv A outer s H E vs ds Pd hr hT hv hR => ?_
  · obtain ⟨s, x, rfl, _⟩ := h
    rfl
  obtain ⟨so, x, rfl, hd, hw, sx, rfl⟩ := hR
  obtain ⟨v1, v2, rfl, h1, h2⟩ := dqa2 hv
  have hu : (cxOf CX0 P w K mg base nIsFormed "is_formed" (defScope sIsFormed) f cdv A outer s H E).nox.A.units + 64 < cLine := hr.units
  refine ⟨_, (pss_cons (ps_set (i := 2) nd rfl (Or.inl rfl) (pe_ix ix_tup (pv 0) pe_int (fun _ _ => rfl)))
    (pss_cons (ps_if (pt_cmpR op_in_seq (pv 2) (pe_tup (pa_cons pe_str (pa_cons pe_str pa_nil))) (by rfl)) (pss_one (ps_ret (pe_cmpR op_isN (pe_has h_bad_place hr (by omega) (pa_cons (pv 0) (pa_cons (pv 1) pa_nil))) pe_non (nomark _)))) pss_nil)
    (pss_cons (ps_if (pt_cmpR op_eq (pv 2) pe_str (nomark _)) (pss_one (ps_ret (pe_and (pe_has h_is_pair hr (by omega) (pa_cons (pv 1) pa_nil)) (pe_and (pe_has h_is_formed hr (by omega) (pa_cons (pe_ix ix_tup (pv 0) pe_int (fun _ _ => rfl)) (pa_cons (pe_ix ix_tup (pv 1) pe_int (fun _ _ => rfl)) pa_nil))) (pe_one (pe_has h_is_formed hr (by omega) (pa_cons (pe_ix ix_tup (pv 0) pe_int (fun _ _ => rfl)) (pa_cons (pe_ix ix_tup (pv 1) pe_int (fun _ _ => rfl)) pa_nil)))))))) pss_nil)
    (pss_cons (ps_if (pt_cmpR op_eq (pv 2) pe_str (nomark _)) (pss_one (ps_ret (pe_and (pe_has h_is_side hr (by omega) (pa_cons (pv 1) pa_nil)) (pe_one (pe_has h_is_formed hr (by omega) (pa_cons (pe_ix ix_tup (pv 0) (pe_op op_add pe_int (pe_tix (pe_glob (v := .ref aS) rfl C.sides rfl) (pa_cons (pe_ix ix_tup (pv 1) pe_int (fun _ _ => rfl)) pa_nil))) (fun _ _ => rfl)) (pa_cons (pe_ix ix_tup (pv 1) pe_int (fun _ _ => rfl)) pa_nil))))))) pss_nil)
    (pss_cons (ps_if (PW.pt (pw_or (pt_not (pt_val (pe_callB call_isi rfl (M.isi) (by decide +kernel) (pa_cons (pv 1) (pa_cons (pe_bltn (v := .ty "tuple") (u := .type "tuple") rfl (M.tuple) (by decide +kernel) rfl) pa_nil))))) (pw_or1 (pt_cmpR op_gt (pe_callB call_len_seq rfl (M.len) PySem.boot_len (pa_cons (pv 1) pa_nil)) (pe_glob (v := .int 8) rfl hME ⟨tME, rfl⟩) (nomark _))))) (pss_one (ps_ret pe_bl)) pss_nil)
    (pss_cons (ps_if (pt_not (pt_val (pe_callB (cr_all rfl) rfl (M.all) (by decide +kernel) (pa_cons (pe_lc (own := [("one", 3)]) rfl nd (pi_tup (pv 1)) (blkOk_by (N := nIsFormed) (sc := (defScope sIsFormed)) (by decide +kernel)) (fun _ _ _ _ _ => (pg_name (i := 3) nd rfl (Or.inl rfl))) (fun _ _ _ _ _ => pts_nil) (fun _ _ _ _ _ => (pe_has h_is_formed hr (by omega) (pa_cons (pe_ix (r := rIxT K) ix_tup (pv 0) pe_int (fun _ _ => rfl)) (pa_cons (pv 3) pa_nil))))) pa_nil)))) (pss_one (ps_ret pe_bl)) pss_nil)
    (pss_one (ps_ret (pe_or (pe_cmpR op_eq (pv 2) pe_str (nomark _)) (pe_one (pe_cmpR (op_eqP hu) (pe_callTy call_list_of rfl (M.list) (by decide +kernel) (pa_cons (pv 1) pa_nil)) (pe_has h_sorted_values hr (by omega) (pa_cons (pe_ix ix_tup (pv 0) pe_int (fun _ _ => rfl)) (pa_cons (pv 1) pa_nil))) (nomark _)))))))))))), ?_⟩
  refine rd_set (ed_tag (ed_var rfl h1) ed_int) fun k H1 g1 hk => ?_
  have h1 := dq_ext g1.ext h1
  have h2 := dq_ext g1.ext h2
  have flat : ∀ s : So, tag so = tag s → True := fun _ _ => True.intro
  have mf := eb_flat (K := K) (T := T) (H := H1) (σ := (start nIsFormed [v1, v2]).set 2 (some k)) (ta := tVar 2) (ed_var rfl hk)
  have rows : ∀ (a : So) (v : List (Va a)), dep a < d → Wf a → v.length ≤ 1000 → (∀ y ∈ v, Sm 1000 a y) → Dq K H1 v2 (.tuple (v.map (enc a))) → sub so 1 = some a →
      EvD K T (tCB (rAll K) (tCons (tLc (iTup K (tVar 1)) (gName 3) tYes (tCall (spOf T K (RForm d)) [] E0 (tCons (tOp (rIxT K) (tVar 0) (tC (.int 1))) (tCons (tVar 3) tNil))) [3]) tNil)) ((start nIsFormed [v1, v2]).set 2 (some k)) H1 (.bool (v.all (isF a))) := fun a v hda hwa hl hs hv2 hsub => by
    have z := ed_all (K := K) (T := T) (bs := v.map (isF a)) (EvL.toD (EvL.is (el_lcTM (K := K) (T := T) (H := H1) (σ := (start nIsFormed [v1, v2]).set 2 (some k)) (j := 3) (tl := tVar 1) (te := tCall (spOf T K (RForm d)) [] E0 (tCons (tOp (rIxT K) (tVar 0) (tC (.int 1))) (tCons (tVar 3) tNil))) (vs := [3]) v (enc a) (fun y => .bool (isF a y)) (ed_var rfl hv2) (by omega) (by intro _; rfl) fun i y hy vv H3 g3 hvv => EvD.e (ed_call (ea_cons ?_ (ea_cons (ed_var rfl (.of hvv (enc_nl _ _))) ea_nil)) ⟨a, y, rfl, hda, hwa, hs y (List.mem_of_getElem? hy), rfl⟩) rfl) (by rw [List.map_map]; rfl)))
    · have e : (v.map (isF a)).all id = v.all (isF a) := by rw [List.all_map]; rfl
      rw [e] at z
      exact z
    · exact ed_sub (n := 1) (s := so) (a := a) (ed_var rfl (dq_ext g3.ext h1)) ed_int hsub
  -- a lane's, a heap's
  have both : ∀ (a : So) (v : List (Va a)), (so = .lane a ∨ so = .heap a) → dep a < d → Wf a → v.length ≤ 1000 → (∀ y ∈ v, Sm 1000 a y) → Dq K H1 v2 (.tuple (v.map (enc a))) → sub so 1 = some a → ∀ r : Bool, ((decide (v.length ≤ 8) && v.all (isF a) && (no so == 4 || decide (v = sortV a v))) = r) → RetP K T (tSeq (tIfS (tOr (tNot (tB (tCB (rIsi K) (tCons (tVar 1) (tCons (tC (.ty "tuple")) tNil))))) (tTest (tOp (rI0 fun i j => .bl (decide (j < i))) (tCB (fun xs H Q => ∃ p n, xs = [V.ref p] ∧ ((SqL K H p n) ∨ SqT K H p n) ∧ Q (.int n.length) H) (tCons (tVar 1) tNil)) (tC (.int 8))))) (tRet (tC (.bl false))) tNext)
      (tSeq (tIfS (tNot (tB (tCB (rAll K) (tCons (tLc (iTup K (tVar 1)) (gName 3) tYes (tCall (spOf T K (RForm d)) [] E0 (tCons (tOp (rIxT K) (tVar 0) (tC (.int 1))) (tCons (tVar 3) tNil))) [3]) tNil)))) (tRet (tC (.bl false))) tNext)
        (tRet (tOrV (tOp rEq (tVar 2) (tC (.str "lane"))) (tOp (rEqP K) (tCB (fun xs H Q => ∃ p ys, xs = [V.ref p] ∧ (SqL K H p ys ∨ SqT K H p ys) ∧ ∀ l, H l = none → Q (.ref l) (upd H l (.lst ys))) (tCons (tVar 1) tNil)) (tCall (spOf T K (RSort d)) [] E0 (tCons (tOp (rIxT K) (tVar 0) (tC (.int 1))) (tCons (tVar 1) tNil)))))))) ((start nIsFormed [v1, v2]).set 2 (some k)) H1 fun x => x = .bool r := fun a v hso hda hwa hl hs hv2 hsub r hr => by
    have L := ed_lenT (T := T) (K := K) (H := H1) (σ := (start nIsFormed [v1, v2]).set 2 (some k)) (ed_var (i := 1) rfl hv2)
    rw [List.length_map] at L
    have c1 := eb_or (eb_not (eb_val (ed_isi (K := K) (T := T) (H := H1) (σ := (start nIsFormed [v1, v2]).set 2 (some k)) (m := "tuple") (ed_var (i := 1) rfl hv2) (fun _ _ h => ty_tuple h) kit3))) fun _ => eb_test (ed_I0 (g := fun i j => .bl (decide (j < i))) (d := .bool (decide ((8 : Int) < ((v.length : Nat) : Int)))) L (ed_int (n := 8)) fun _ => .bl)
    rw [show (!true) = false from rfl, Bool.false_or] at c1
    by_cases hl8 : v.length ≤ 8
    · rw [decide_eq_false (show ¬ (8 : Int) < ((v.length : Nat) : Int) by omega)] at c1
      refine rd_no c1 ?_
      have c2 := eb_not (eb_val (rows a v hda hwa hl hs hv2 hsub))
      rw [decide_eq_true hl8, Bool.true_and] at hr
      cases hall : v.all (isF a) with
      | false =>
        rw [hall] at c2 hr
        refine rd_yes c2 (rd_ret ?_)
        rw [← hr]
        exact ed_bl
      | true =>
        rw [hall] at c2 hr
        refine rd_no c2 (rd_ret ?_)
        have s8 : ∀ y ∈ v, Sm 8 a y := fun y hy => isF_sm (List.all_eq_true.mp hall y hy)
        refine EvD.is (ed_or (ed_tagE (m := 4) (ed_var rfl hk) ed_str) fun _ => ed_eqP (el_ofT (ed_var rfl hv2)).toD (ed_call (ea_cons (ed_sub (n := 1) (ed_var rfl h1) ed_int hsub) (ea_cons (ed_var rfl hv2) ea_nil)) ⟨a, v, _, rfl, .inr rfl, hda, hwa, s8, rfl⟩) ?_ ?_ ?_) ?_
        · exact plain_enc (.lane a) v
        · exact plain_enc (.lane a) (sortV a v)
        · have := depth_enc (.lane a) v
          have e : (PyData.list (v.map (enc a))).depth = (enc (.lane a) v).depth := rfl
          rw [e]
          have : dep (.lane a) = dep a + 1 := rfl
          omega
        · rw [← hr]
          have e := eqvAll_map (eqv_enc a hwa) v (sortV a v)
          have e2 : PyData.eqv (.list (v.map (enc a))) (.list ((sortV a v).map (enc a))) = decide (v = sortV a v) := by
            rw [PyData.eqv]
            exact e
          rw [e2, Bool.true_and]
    · rw [decide_eq_true (show (8 : Int) < ((v.length : Nat) : Int) by omega)] at c1
      refine rd_yes c1 (rd_ret ?_)
      rw [← hr, decide_eq_false hl8]
      exact ed_bl
  cases so with
  | mark ls =>
    refine rd_yes mf (rd_ret ?_)
    exact ed_isN (ed_call (ea_cons (ed_var rfl h1) (ea_cons (ed_var rfl h2) ea_nil)) ⟨.mark ls, x, rfl, rfl, rfl⟩) fun _ h => h
  | count =>
    refine rd_yes mf (rd_ret ?_)
    exact ed_isN (ed_call (ea_cons (ed_var rfl h1) (ea_cons (ed_var rfl h2) ea_nil)) ⟨.count, x, rfl, rfl, rfl⟩) fun _ h => h
  | both a b =>
    have d1 : dep a < d := by simp only [dep] at hd; omega
    have d2 : dep b < d := by simp only [dep] at hd; omega
    refine rd_no mf (rd_yes (eb_tag (m := 2) (ed_var rfl hk) ed_str) (rd_ret ?_))
    exact EvD.is (ed_and (b := true) (ed_call (ea_cons (ed_var rfl h2) ea_nil) ⟨_, rfl, rfl⟩) fun _ => ed_and (ed_call (ea_cons (ed_sub (n := 1) (ed_var rfl h1) ed_int rfl) (ea_cons (ed_ixT (n := 0) (ed_var rfl h2) ed_int rfl (enc_nl _ _)) ea_nil)) ⟨a, x.1, rfl, d1, hw.1, sx.1, rfl⟩)
      fun _ => ed_call (ea_cons (ed_sub (n := 2) (ed_var rfl h1) ed_int rfl) (ea_cons (ed_ixT (n := 1) (ed_var rfl h2) ed_int rfl (enc_nl _ _)) ea_nil)) ⟨b, x.2, rfl, d2, hw.2, sx.2, rfl⟩) rfl
  | either a b =>
    have d1 : dep a < d := by simp only [dep] at hd; omega
    have d2 : dep b < d := by simp only [dep] at hd; omega
    refine rd_no mf (rd_no (eb_tag (m := 2) (ed_var rfl hk) ed_str) (rd_yes (eb_tag (m := 3) (ed_var rfl hk) ed_str) (rd_ret ?_)))
    cases x with
    | inl x => exact EvD.is (ed_and (b := true) (ed_call (ea_cons (ed_var rfl h2) ea_nil) ⟨_, _, rfl, by simp, rfl⟩) fun _ => ed_call (ea_cons (ed_sub (n := 1) (ed_var rfl h1) (ed_sideL kS (ed_ixT (n := 0) (ed_var rfl h2) ed_int rfl (fun _ z => nomatch z))) rfl) (ea_cons (ed_ixT (n := 1) (ed_var rfl h2) ed_int rfl (enc_nl _ _)) ea_nil)) ⟨a, x, rfl, d1, hw.1, sx, rfl⟩) rfl
    | inr x => exact EvD.is (ed_and (b := true) (ed_call (ea_cons (ed_var rfl h2) ea_nil) ⟨_, _, rfl, by simp, rfl⟩) fun _ => ed_call (ea_cons (ed_sub (n := 2) (ed_var rfl h1) (ed_sideR kS (ed_ixT (n := 0) (ed_var rfl h2) ed_int rfl (fun _ z => nomatch z))) rfl) (ea_cons (ed_ixT (n := 1) (ed_var rfl h2) ed_int rfl (enc_nl _ _)) ea_nil)) ⟨b, x, rfl, d2, hw.2, sx, rfl⟩) rfl
  | lane a =>
    refine rd_no mf (rd_no (eb_tag (m := 2) (ed_var rfl hk) ed_str) (rd_no (eb_tag (m := 3) (ed_var rfl hk) ed_str) ?_))
    exact both a x (.inl rfl) (by simp only [dep] at hd; omega) hw sx.1 sx.2 h2 rfl _ (by simp [no, isF])
  | heap a =>
    refine rd_no mf (rd_no (eb_tag (m := 2) (ed_var rfl hk) ed_str) (rd_no (eb_tag (m := 3) (ed_var rfl hk) ed_str) ?_))
    exact both a x (.inr rfl) (by simp only [dep] at hd; omega) hw sx.1 sx.2 h2 rfl _ (by simp [no, isF])
end
end K16

end K16R10Text
section K16R11Text
set_option autoImplicit false
set_option linter.all false
set_option maxRecDepth 100000
set_option Elab.async false
set_option pp.maxSteps 350
set_option pp.deepTerms false
set_option pp.deepTerms.threshold 4
namespace K16
open PySem PySem.Spec PyProof.Rows L2
abbrev sIsIn : Stmt := topS 25
abbrev nIsIn : List Str := ["sort", "some", "v", "u"]
theorem scIsIn : FnScope nIsIn ["sort", "some", "v"] (defScope sIsIn) := ⟨rfl, rfl, rfl, by decide +kernel, rfl, by decide +kernel, by decide +kernel⟩
abbrev sLeast : Stmt := topS 26
abbrev nLeast : List Str := ["sort", "some", "found", "v", "u"]
theorem scLeast : FnScope nLeast ["sort", "some"] (defScope sLeast) := ⟨rfl, rfl, rfl, by decide +kernel, rfl, by decide +kernel, by decide +kernel⟩
abbrev sContains : Stmt := topS 27
abbrev nContains : List Str := ["sort", "some", "others", "v"]
theorem scContains : FnScope nContains ["sort", "some", "others"] (defScope sContains) := ⟨rfl, rfl, rfl, by decide +kernel, rfl, by decide +kernel, by decide +kernel⟩
abbrev sTogether : Stmt := topS 28
abbrev nTogether : List Str := ["sort", "some", "others"]
theorem scTogether : FnScope nTogether ["sort", "some", "others"] (defScope sTogether) := ⟨rfl, rfl, rfl, by decide +kernel, rfl, by decide +kernel, by decide +kernel⟩
def Vok (s : So) (vs : List (Va s)) : Prop := vs.length ≤ 20000 ∧ ∀ v ∈ vs, Sm 8 s v
def Lst (s : So) (vs : List (Va s)) : De := .d (.list (vs.map (enc s)))
def RIn (d : Nat) (ds : List De) (P : De → Prop) : Prop := ∃ (s : So) (us : List (Va s)) (v : Va s), ds = [.s s, Lst s us, .d (enc s v)] ∧ dep s < d ∧ Wf s ∧ Vok s us ∧ Sm 8 s v ∧ P = fun r => r = .bool (inUp s us v)
def RLeast (d : Nat) (ds : List De) (P : De → Prop) : Prop := ∃ (s : So) (us : List (Va s)), ds = [.s s, Lst s us] ∧ dep s < d ∧ Wf s ∧ Vok s us ∧ P = fun r => r = Lst s (least s us)
def RCont (d : Nat) (ds : List De) (P : De → Prop) : Prop := ∃ (s : So) (us vs : List (Va s)), ds = [.s s, Lst s us, Lst s vs] ∧ dep s < d ∧ Wf s ∧ Vok s us ∧ Vok s vs ∧ P = fun r => r = .bool (contains s us vs)
def RTog (d : Nat) (ds : List De) (P : De → Prop) : Prop := ∃ (s : So) (us vs : List (Va s)), ds = [.s s, Lst s us, Lst s vs] ∧ dep s < d ∧ Wf s ∧ Vok s us ∧ Vok s vs ∧ us.length + vs.length ≤ 20000 ∧ P = fun r => r = Lst s (together s us vs)
theorem stepLen (s : So) (f : List (Va s)) (v : Va s) : (leastStep s f v).length ≤ f.length + 1 := by
  unfold leastStep
  split
  · omega
  · rw [List.length_append, List.length_singleton]
    have := List.length_filter_le (fun u => !holds s u v) f
    omega
theorem stepMem {s : So} {f : List (Va s)} {v x : Va s} (h : x ∈ leastStep s f v) : x ∈ f ∨ x = v := by
  unfold leastStep at h
  split at h
  · exact .inl h
  · rcases List.mem_append.mp h with h | h
    · exact .inl (List.mem_filter.mp h).1
    · exact .inr (List.mem_singleton.mp h)
section
variable {P : Program} {w : World} {K : PySem.W.Frag} {mg : Str → Option Value} {base : Heap} {T : Tb} {aS : Addr}
theorem hasIsIn (d : Nat) (D : DefOk K mg "is_in" sIsIn ["sort", "some", "v"]) (M : Bi mg) (h_raw_holds : Has P w K mg base (11 + 3 * d) "raw_holds" ["sort", "v", "u"] (spOf T K (RHolds d))) :
    Has P w K mg base (12 + 3 * d) "is_in" ["sort", "some", "v"] (spOf T K (RIn d)) := by
  have nd := scIsIn.nd
  refine D.pure (11 + 3 * d) scIsIn (fun ds Pd h => ?_) fun f cdv A outer s H E vs ds Pd hr hT hv hR => ?_
  · obtain ⟨s, x, v, rfl, _⟩ := h
    rfl
  obtain ⟨so, us, v, rfl, hd, hw, hus, hsv, rfl⟩ := hR
  obtain ⟨v1, v2, v3, rfl, h1, h2, h3⟩ := dqa3 hv
  refine ⟨_, (pss_one (ps_ret (pe_callB (cr_any rfl) rfl (M.any) (by decide +kernel) (pa_cons (pe_lc (own := [("u", 3)]) rfl nd (pi_list (pv 1)) (blkOk_by (N := nIsIn) (sc := (defScope sIsIn)) (by decide +kernel)) (fun _ _ _ _ _ => (pg_name (i := 3) nd rfl (Or.inl rfl))) (fun _ _ _ _ _ => pts_nil) (fun _ _ _ _ _ => (pe_has h_raw_holds hr (by omega) (pa_cons (pv 0) (pa_cons (pv 2) (pa_cons (pv 3) pa_nil)))))) pa_nil)))), ?_⟩
  refine rd_ret ?_
  have z := ed_any (K := K) (T := T) (bs := us.map fun u => holds so v u) (EvL.toD (EvL.is (el_lcM (K := K) (T := T) (H := H) (σ := start nIsIn [v1, v2, v3]) (j := 3) (tl := tVar 1) (te := tCall (spOf T K (RHolds d)) [] E0 (tCons (tVar 0) (tCons (tVar 2) (tCons (tVar 3) tNil)))) (vs := [3]) us (enc so) (fun u => .bool (holds so v u)) (ed_var rfl h2) (by have := hus.1; omega) (by intro _; rfl) fun i y hy vv H3 g3 hvv => EvD.e (ed_call (ea_cons (ed_var rfl (dq_ext g3.ext h1)) (ea_cons (ed_var rfl (dq_ext g3.ext h3)) (ea_cons (ed_var rfl (.of hvv (enc_nl _ _))) ea_nil))) ⟨so, v, y, rfl, hd, hw, hsv, hus.2 y (List.mem_of_getElem? hy), rfl⟩) rfl) (by rw [List.map_map]; rfl)))
  refine EvD.is z ?_
  congr 1
  unfold inUp
  rw [List.any_map]
  rfl
theorem hasContains (d : Nat) (D : DefOk K mg "contains" sContains ["sort", "some", "others"]) (M : Bi mg) (h_is_in : Has P w K mg base (12 + 3 * d) "is_in" ["sort", "some", "v"] (spOf T K (RIn d))) :
    Has P w K mg base (13 + 3 * d) "contains" ["sort", "some", "others"] (spOf T K (RCont d)) := by
  have nd := scContains.nd
  refine D.pure (12 + 3 * d) scContains (fun ds Pd h => ?_) fun f cdv A outer s H E vs ds Pd hr hT hv hR => ?_
  · obtain ⟨s, x, v, rfl, _⟩ := h
    rfl
  obtain ⟨so, us, vs, rfl, hd, hw, hus, hvs, rfl⟩ := hR
  obtain ⟨v1, v2, v3, rfl, h1, h2, h3⟩ := dqa3 hv
  refine ⟨_, (pss_one (ps_ret (pe_callB (cr_all rfl) rfl (M.all) (by decide +kernel) (pa_cons (pe_lc (own := [("v", 3)]) rfl nd (pi_list (pv 2)) (blkOk_by (N := nContains) (sc := (defScope sContains)) (by decide +kernel)) (fun _ _ _ _ _ => (pg_name (i := 3) nd rfl (Or.inl rfl))) (fun _ _ _ _ _ => pts_nil) (fun _ _ _ _ _ => (pe_has h_is_in hr (by omega) (pa_cons (pv 0) (pa_cons (pv 1) (pa_cons (pv 3) pa_nil)))))) pa_nil)))), ?_⟩
  refine rd_ret ?_
  have z := ed_all (K := K) (T := T) (bs := vs.map fun v => inUp so us v) (EvL.toD (EvL.is (el_lcM (K := K) (T := T) (H := H) (σ := start nContains [v1, v2, v3]) (j := 3) (tl := tVar 2) (te := tCall (spOf T K (RIn d)) [] E0 (tCons (tVar 0) (tCons (tVar 1) (tCons (tVar 3) tNil)))) (vs := [3]) vs (enc so) (fun v => .bool (inUp so us v)) (ed_var rfl h3) (by have := hvs.1; omega) (by intro _; rfl) fun i y hy vv H3 g3 hvv => EvD.e (ed_call (ea_cons (ed_var rfl (dq_ext g3.ext h1)) (ea_cons (ed_var rfl (dq_ext g3.ext h2)) (ea_cons (ed_var rfl (.of hvv (enc_nl _ _))) ea_nil))) ⟨so, us, y, rfl, hd, hw, hus, hvs.2 y (List.mem_of_getElem? hy), rfl⟩) rfl) (by rw [List.map_map]; rfl)))
  refine EvD.is z ?_
  congr 1
  unfold contains
  rw [List.all_map]
  rfl
theorem hasLeast (d : Nat) (D : DefOk K mg "least" sLeast ["sort", "some"]) (M : Bi mg) (h_raw_holds : Has P w K mg base (11 + 3 * d) "raw_holds" ["sort", "v", "u"] (spOf T K (RHolds d))) (h_is_in : Has P w K mg base (12 + 3 * d) "is_in" ["sort", "some", "v"] (spOf T K (RIn d))) (h_sorted_values : Has P w K mg base (d + 4) "sorted_values" ["sort", "values"] (spOf T K (RSort d))) :
    Has P w K mg base (13 + 3 * d) "least" ["sort", "some"] (spOf T K (RLeast d)) := by
  have nd := scLeast.nd
  refine D.pure (12 + 3 * d) scLeast (fun ds Pd h => ?_) fun f cdv A outer s H E vs ds Pd hr hT hv hR => ?_
  · obtain ⟨s, x, rfl, _⟩ := h
    rfl
  obtain ⟨so, us, rfl, hd, hw, hus, rfl⟩ := hR
  obtain ⟨v1, v2, rfl, h1, h2⟩ := dqa2 hv
  refine ⟨_, (pss_cons (ps_set (i := 2) nd rfl (Or.inl rfl) (pe_lst pa_nil))
    (pss_cons (ps_for PassesOwn.never rfl (pi_list (pv 1)) (pg_name (i := 3) nd rfl (Or.inr rfl)) (pss_one (ps_if (pt_not (pt_val (pe_has h_is_in hr (by omega) (pa_cons (pv 0) (pa_cons (pv 2) (pa_cons (pv 3) pa_nil)))))) (pss_one (ps_set (i := 2) nd rfl (Or.inl rfl) (pe_op op_cat (pe_lc (own := [("u", 4)]) rfl nd (pi_list (pv 2)) (blkOk_by (N := nLeast) (sc := (defScope sLeast)) (by decide +kernel)) (fun _ _ _ _ _ => (pg_name (i := 4) nd rfl (Or.inl rfl))) (fun _ _ _ _ _ => (pts_one (pt_not (pt_val (pe_has h_raw_holds hr (by omega) (pa_cons (pv 0) (pa_cons (pv 4) (pa_cons (pv 3) pa_nil)))))))) (fun _ _ _ _ _ => (pv 4))) (pe_lst (pa_cons (pv 3) pa_nil))))) pss_nil)))
    (pss_one (ps_ret (pe_has h_sorted_values hr (by omega) (pa_cons (pv 0) (pa_cons (pv 2) pa_nil))))))), ?_⟩
  intro H0 g0 D q
  have h1 := dq_ext g0.ext h1
  obtain ⟨ua, xs, rfl, hu, du⟩ := dq_ext g0.ext h2
  have hdu := dps_len du
  rw [List.length_map] at hdu
  have q' : ∀ v_1 H2, Gr T H0 H2 → Dq K H2 v_1 (Lst so (least so us)) → D.rt v_1 H2 := fun a b c e => q a _ b c e rfl
  refine s_seq (s_asg ((el_lst (K := K) (T := T) (H := H0) ea_nil rfl (by decide)).run g0.self fun F fs H1 nF g1 hF dF => ?_))
  cases dF
  dsimp only
  refine s_seq ⟨.ref ua, rfl, ua, rfl, ⟨xs, .of (g1.stay hu True.intro)⟩, for_list (xs := xs) (fun i σ H' => ∃ (F : Addr) (fs : List V) (o3 o4 : Option V), σ = [some v1, some (.ref ua), some (.ref F), o3, o4] ∧ H' F = some (.lst fs) ∧ DpAll K H' fs (((us.take i).foldl (leastStep so) []).map (enc so)) ∧ Gr T H0 H' ∧ ((us.take i).foldl (leastStep so) []).length ≤ i ∧ ∀ x ∈ (us.take i).foldl (leastStep so) [], Sm 8 so x) ?_ ?_ ?_ ?_⟩
  · exact ⟨F, [], none, none, rfl, hF, .nil, g1, Nat.le_refl _, fun x hx => by simp at hx⟩
  · rintro i σ H' _ ⟨_, _, _, _, _, _, _, g, _⟩
    exact .of (g.stay hu True.intro)
  · rintro i y σ H' hy ⟨F, fs, o3, o4, rfl, hF, dF, g', hl, hs⟩
    obtain ⟨d0, e1, e2⟩ := dps_at du hy
    rw [List.getElem?_map] at e1
    have hi : i < us.length := by
      have := (List.getElem?_eq_some_iff.mp hy).1
      omega
    obtain ⟨v, ev⟩ : ∃ v, us[i]? = some v := ⟨_, List.getElem?_eq_getElem hi⟩
    rw [ev] at e1
    cases e1
    have hsv := hus.2 v (List.mem_of_getElem? ev)
    have hus1 := hus.1
    have et : (us.take (i + 1)).foldl (leastStep so) [] = leastStep so ((us.take i).foldl (leastStep so) []) v := by
      rw [List.take_add_one, ev, List.foldl_append]
      rfl
    generalize (us.take i).foldl (leastStep so) [] = fd at dF hl hs et
    have fok : Vok so fd := ⟨by omega, hs⟩
    have hyv : Dq K H' y (.d (enc so v)) := .of (dp_ext g'.ext e2) (enc_nl _ _)
    refine s_ifB (T := T) (eb_not (eb_val (ed_call (K := K) (T := T) (R := RIn d) (H := H') (σ := ([some v1, some (.ref ua), some (.ref F), o3, o4].set 3 (some y))) (ea_cons (ed_var (i := 0) rfl (dq_ext g'.ext h1)) (ea_cons (ed_var (i := 2) (d := Lst so fd) rfl (Dq.lst hF dF)) (ea_cons (ed_var (i := 3) rfl hyv) ea_nil))) ⟨so, fd, v, rfl, hd, hw, fok, hsv, rfl⟩))) (.refl g'.tab) fun H2 g2 => ?_
    have gs := g'.trans g2
    cases c : inUp so fd v with
    | true =>
      rw [if_neg (by simp)]
      refine ⟨F, fs, _, _, rfl, g2.stay hF True.intro, ?_, gs, ?_, ?_⟩
      · rw [et, leastStep, if_pos c]
        exact dps_ext g2.ext dF
      · rw [et, leastStep, if_pos c]
        omega
      · rw [et, leastStep, if_pos c]
        exact hs
    | false =>
      rw [if_pos (by rfl)]
      have el : EvL K T (tOp rCat (tLc (iList K (tVar 2)) (gName 4) (tNot (tB (tCall (spOf T K (RHolds d)) [] E0 (tCons (tVar 0) (tCons (tVar 4) (tCons (tVar 3) tNil)))))) (tVar 4) [4]) (tLst (tCons (tVar 3) tNil))) ([some v1, some (.ref ua), some (.ref F), o3, o4].set 3 (some y)) H2 ((((fd.filter fun u => !holds so u v).map (enc so)) ++ [enc so v])) := by
        refine el_cat (el_lcL fd (enc so) (fun u => !holds so u v) (enc so) (ed_var rfl (Dq.lst (g2.stay hF True.intro) (dps_ext g2.ext dF))) (by omega) (by intro _; rfl) (fun j x hx vv H3 g3 hvv => ?_) (fun j x hx _ vv H3 g3 hvv => ?_)).toD (el_lst (as := [.d (enc so v)]) (ea_cons (ed_var rfl (dq_ext g2.ext hyv)) ea_nil) rfl (by simp)).toD ?_
        · exact eb_not (eb_val (ed_call (ea_cons (ed_var rfl (dq_ext (gs.trans g3).ext h1)) (ea_cons (ed_var rfl (.of hvv (enc_nl _ _))) (ea_cons (ed_var rfl (dq_ext (g2.trans g3).ext hyv)) ea_nil))) ⟨so, x, v, rfl, hd, hw, hs x (List.mem_of_getElem? hx), hsv, rfl⟩))
        · exact EvD.e (ed_var rfl (.of hvv (enc_nl _ _))) (noL_enc _ _)
        · have := List.length_filter_le (fun u => !holds so u v) fd
          rw [List.length_map, List.length_singleton]
          omega
      refine s_asg (el.run g2.self fun F2 fs2 H3 nF2 g3 hF2 dF2 => ?_)
      refine ⟨F2, fs2, _, _, rfl, hF2, ?_, gs.trans g3, ?_, ?_⟩
      · rw [et, leastStep, if_neg (by rw [c]; simp), List.map_append]
        exact dF2
      · rw [et]
        have := stepLen so fd v
        omega
      · intro x hx
        rw [et] at hx
        rcases stepMem hx with hx | hx
        · exact hs x hx
        · rw [hx]; exact hsv
  · rintro σ H' ⟨F, fs, o3, o4, rfl, hF, dF, g', hl, hs⟩
    have e0 : us.take xs.length = us := List.take_of_length_le (by omega)
    rw [e0] at dF hl hs
    refine s_ret ((ed_call (K := K) (T := T) (R := RSort d) (H := H') (ea_cons (ed_var (i := 0) rfl (dq_ext g'.ext h1)) (ea_cons (ed_var (i := 2) rfl (Dq.lst hF dF)) ea_nil)) ⟨so, us.foldl (leastStep so) [], _, rfl, .inl rfl, hd, hw, hs, rfl⟩).run g'.self fun v2 d2 H2 g2 hv2 e => q' v2 H2 (g'.trans g2) ?_)
    rw [e] at hv2
    exact hv2
theorem hasTogether (d : Nat) (D : DefOk K mg "together" sTogether ["sort", "some", "others"]) (M : Bi mg) (h_least : Has P w K mg base (13 + 3 * d) "least" ["sort", "some"] (spOf T K (RLeast d))) :
    Has P w K mg base (14 + 3 * d) "together" ["sort", "some", "others"] (spOf T K (RTog d)) := by
  have nd := scTogether.nd
  refine D.pure (13 + 3 * d) scTogether (fun ds Pd h => ?_) fun f cdv A outer s H E vs ds Pd hr hT hv hR => ?_
  · obtain ⟨s, x, v, rfl, _⟩ := h
    rfl
  obtain ⟨so, us, vs, rfl, hd, hw, hus, hvs, hl, rfl⟩ := hR
  obtain ⟨v1, v2, v3, rfl, h1, h2, h3⟩ := dqa3 hv
  refine ⟨_, (pss_one (ps_ret (pe_has h_least hr (by omega) (pa_cons (pv 0) (pa_cons (pe_op op_cat (pe_callTy call_list_of rfl (M.list) (by decide +kernel) (pa_cons (pv 1) pa_nil)) (pe_callTy call_list_of rfl (M.list) (by decide +kernel) (pa_cons (pv 2) pa_nil))) pa_nil))))), ?_⟩
  refine rd_ret ?_
  refine ed_call (ea_cons (ed_var rfl h1) (ea_cons (EvD.is (d1 := Lst so (us ++ vs)) (el_cat (el_ofL (ed_var rfl h2)).toD (el_ofL (ed_var rfl h3)).toD (by rw [List.length_map, List.length_map]; omega)).toD ?_) ea_nil)) ⟨so, us ++ vs, rfl, hd, hw, ⟨by rw [List.length_append]; exact hl, fun x hx => ?_⟩, rfl⟩
  · unfold Lst
    rw [List.map_append]
  · rcases List.mem_append.mp hx with hx | hx
    · exact hus.2 x hx
    · exact hvs.2 x hx
end
end K16

end K16R11Text
section K16R16Text
set_option autoImplicit false
set_option linter.all false
set_option maxRecDepth 100000
set_option Elab.async false
set_option pp.maxSteps 700
set_option pp.deepTerms false
set_option pp.deepTerms.threshold 4
/-! Promises of a list that is new. -/
namespace K16
open PySem PySem.Spec PyProof.Rows L2 NdefX
def spN (T : Tb) (K : PySem.W.Frag) (R : List De → List PyData → Prop) : Sp := fun vs H Q _ => LamX.Tabs T H ∧ ∃ (ds : List De) (out : List PyData), DqA K H vs ds ∧ R ds out ∧ ∀ p xs H2, Nw H p → Gr T H H2 → H2 p = some (.lst xs) → DpAll K H2 xs out → Q (.ref p) H2
def RetN (K : PySem.W.Frag) (T : Tb) (ts : TS) (σ : L2.St) (H : Hp) (out : List PyData) : Prop := ∀ H1, Gr T H H1 → ∀ D : Ends, (∀ p xs H2, Nw H1 p → Gr T H1 H2 → H2 p = some (.lst xs) → DpAll K H2 xs out → D.rt (.ref p) H2) → ts D σ H1
section
variable {P : Program} {w : World} {K : PySem.W.Frag} {mg : Str → Option Value} {base : Heap} {x : Str} {st : Stmt} {ps N : List Str} {k j : Nat} {c : Addr} {T : Tb} {R : List De → List PyData → Prop}
theorem DefOk.pureN (k : Nat) (D : DefOk K mg x st ps) (S : FnScope N ps (defScope st)) (hl : ∀ ds Pd, R ds Pd → ds.length = ps.length)
    (body : ∀ (f : Addr) (cdv : Value) (A : Around) (outer : List Env) (s : Shared) (H : Hp) (E : XK) (vs : List V) (ds : List De) (out : List PyData), Room k (A.deeper (envOfC x (defScope st) s.heap.objs.size f cdv)) → LamX.Tabs T H → DqA K H vs ds → R ds out →
      ∃ t, PSs (cxOf CX0 P w K mg base N x (defScope st) f cdv A outer s H E).nox (defBody st) t ∧ RetN K T t (start N vs) H out) (hk : k + 1 ≤ j := by omega) : Has P w K mg base j x ps (spN T K R) := by
  refine Has.mono (j := k + 1) ?_ hk
  refine D.has S (fun vs H Q E h => ?_) fun f cdv A outer s H E vs Q hr h => ?_
  · obtain ⟨_, ds, Pd, hv, hR, _⟩ := h
    rw [F2.length hv]
    exact hl ds Pd hR
  · obtain ⟨hT, ds, Pd, hv, hR, q⟩ := h
    obtain ⟨t, h1, h2⟩ := body f cdv A outer s H E vs ds Pd hr hT hv hR
    exact ⟨t, h1, h2 H (.refl hT) _ q⟩
theorem DefOkC.pureN (k : Nat) (D : DefOkC K mg x st ps c) (S : FnScope N ps (defScope st)) (hl : ∀ ds Pd, R ds Pd → ds.length = ps.length)
    (body : ∀ (f : Addr) (A : Around) (outer : List Env) (s : Shared) (H : Hp) (vs : List V) (ds : List De) (out : List PyData), Room k (A.deeper (envOfC x (defScope st) s.heap.objs.size f (.ref c))) → LamX.Tabs T H → DqA K H vs ds → R ds out →
      ∀ E, ∃ t, PSs (cxOf CX0 P w K mg base N x (defScope st) f (.ref c) A outer s H E).nox (defBody st) t ∧ RetN K T t (start N vs) H out) (hk : k + 1 ≤ j := by omega) : Has P w K mg base j x ps (spN T K R) := by
  refine Has.mono (j := k + 1) ?_ hk
  obtain ⟨f, oc, od, kV, doc, pm, an, ct, osl, lk, hcd, kp, b, g⟩ := D.ex
  refine ⟨f, _, g, kp, b, fn_of lk hcd S (fun vs H Q E h => ?_) fun A outer s H vs Q E hr hsp => ?_⟩
  · obtain ⟨_, ds, Pd, hv, hR, _⟩ := h
    rw [F2.length hv]
    exact hl ds Pd hR
  · obtain ⟨hT, ds, Pd, hv, hR, q⟩ := hsp
    obtain ⟨t, h1, h2⟩ := body f A outer s H vs ds Pd hr hT hv hR E
    exact ⟨t, h1.nox, h2 H (.refl hT) _ q⟩
theorem el_callN {tA : TA} {E : XK} {σ : L2.St} {H : Hp} {as : List De} {out : List PyData} (h : EvA K T tA σ H as) (hR : R as out) : EvL K T (tCall (spN T K R) [] E tA) σ H out := fun H1 g Q q => h H1 g _ fun vs H2 g2 hv => by
  refine ⟨g2.tab, as, out, by rw [List.append_nil]; exact hv, hR, fun p xs H3 n g3 h1 h2 => q p xs H3 (g2.nn n) (g2.trans g3) h1 h2⟩
theorem rn_ret {te : TE} {σ : L2.St} {H : Hp} {out : List PyData} (h : EvL K T te σ H out) : RetN K T (tRet te) σ H out := fun H1 g D q => h H1 g _ q
end
def RSortN (d : Nat) (ds : List De) (out : List PyData) : Prop := ∃ (s : So) (vs : List (Va s)) (de : De), ds = [.s s, de] ∧ (de = .list (vs.map (enc s)) ∨ de = .tuple (vs.map (enc s))) ∧ dep s < d ∧ Wf s ∧ (∀ v ∈ vs, Sm 8 s v) ∧ out = (sortV s vs).map (enc s)
def RLeastN (d : Nat) (ds : List De) (out : List PyData) : Prop := ∃ (s : So) (us : List (Va s)), ds = [.s s, Lst s us] ∧ dep s < d ∧ Wf s ∧ Vok s us ∧ out = (least s us).map (enc s)
section
variable {P : Program} {w : World} {K : PySem.W.Frag} {mg : Str → Option Value} {base : Heap} {T : Tb} {aS : Addr} {c Pt : Addr}
theorem hasSortedValuesN (d : Nat) (hd : d ≤ 20) (D : DefOkC K mg "sorted_values" sSortedValues ["sort", "values"] c) (M : Bi mg) (LO : LamOk T base mg c Pt (lamQ "sorted_values")) (h_value_key : Has P w K mg base d "value_key" ["sort", "value"] (spOf T K (RKey d))) :
    Has P w K mg base (d + 4) "sorted_values" ["sort", "values"] (spN T K (RSortN d)) := by
  have nd := scSortedValues.nd
  refine D.pureN (d + 3) scSortedValues (fun ds Pd h => ?_) fun f A outer s H vs ds Pd hr hT hv hR E => ?_
  · obtain ⟨s, x, de, rfl, _⟩ := h
    rfl
  obtain ⟨so, xs, de, rfl, hde, hd, hw, sx, rfl⟩ := hR
  obtain ⟨v1, v2, rfl, h1, h2⟩ := dqa2 hv
  refine ⟨_, pss_one (ps_ret (pe_sortK (T := T) (N' := ["value", "sort"]) (fr := ["sort"]) (js := [0]) (a := "value") (k := d) (O := ordS so) (enc := kd true so) rfl M.sorted (pa_cons (pv 1) pa_nil) LO.tb rfl LO.mem LO.uniq (nscope_by (by decide +kernel)) ?_ ?_ rfl hr (by omega) (keySys true so hw ?_)
    (fun f' c' A' outer' s' H' hr' => pe_has h_value_key hr' (by omega) (pa_cons (pv 1) (pa_cons (pv 0) pa_nil))) rfl (fun _ _ _ _ _ _ => rfl))), ?_⟩
  · exact (ndef_free (fr := ["sort"]) (sc := defScope sSortedValues) (by decide +kernel))
  · exact (ndef_fr (sc := defScope sSortedValues) (by decide +kernel))
  · have h1 : dep so < 20 := by omega
    have := hr.un
    show (A.deeper _).units + 1 + 1 + dep so + 4 < cLine
    omega
  · refine rn_ret (el_sortK hde (ea_cons (ed_var rfl h2) ea_nil) fun i v hv x H1 g1 hx => ?_)
    exact ed_call (ea_cons (ed_var rfl (dq_ext g1.ext h1)) (ea_cons (ed_var rfl (.of hx (enc_nl _ _))) ea_nil)) ⟨so, v, rfl, hd, hw, sx v (List.mem_of_getElem? hv), rfl⟩
theorem hasLeastN (d : Nat) (D : DefOk K mg "least" sLeast ["sort", "some"]) (M : Bi mg) (h_raw_holds : Has P w K mg base (11 + 3 * d) "raw_holds" ["sort", "v", "u"] (spOf T K (RHolds d))) (h_is_in : Has P w K mg base (12 + 3 * d) "is_in" ["sort", "some", "v"] (spOf T K (RIn d))) (h_sorted_values : Has P w K mg base (d + 4) "sorted_values" ["sort", "values"] (spN T K (RSortN d))) :
    Has P w K mg base (13 + 3 * d) "least" ["sort", "some"] (spN T K (RLeastN d)) := by
  have nd := scLeast.nd
  refine D.pureN (12 + 3 * d) scLeast (fun ds Pd h => ?_) fun f cdv A outer s H E vs ds Pd hr hT hv hR => ?_
  · obtain ⟨s, x, rfl, _⟩ := h
    rfl
  obtain ⟨so, us, rfl, hd, hw, hus, rfl⟩ := hR
  obtain ⟨v1, v2, rfl, h1, h2⟩ := dqa2 hv
  refine ⟨_, (pss_cons (ps_set (i := 2) nd rfl (Or.inl rfl) (pe_lst pa_nil))
    (pss_cons (ps_for PassesOwn.never rfl (pi_list (pv 1)) (pg_name (i := 3) nd rfl (Or.inr rfl)) (pss_one (ps_if (pt_not (pt_val (pe_has h_is_in hr (by omega) (pa_cons (pv 0) (pa_cons (pv 2) (pa_cons (pv 3) pa_nil)))))) (pss_one (ps_set (i := 2) nd rfl (Or.inl rfl) (pe_op op_cat (pe_lc (own := [("u", 4)]) rfl nd (pi_list (pv 2)) (blkOk_by (N := nLeast) (sc := (defScope sLeast)) (by decide +kernel)) (fun _ _ _ _ _ => (pg_name (i := 4) nd rfl (Or.inl rfl))) (fun _ _ _ _ _ => (pts_one (pt_not (pt_val (pe_has h_raw_holds hr (by omega) (pa_cons (pv 0) (pa_cons (pv 4) (pa_cons (pv 3) pa_nil)))))))) (fun _ _ _ _ _ => (pv 4))) (pe_lst (pa_cons (pv 3) pa_nil))))) pss_nil)))
    (pss_one (ps_ret (pe_has h_sorted_values hr (by omega) (pa_cons (pv 0) (pa_cons (pv 2) pa_nil))))))), ?_⟩
  intro H0 g0 D q
  have h1 := dq_ext g0.ext h1
  obtain ⟨ua, xs, rfl, hu, du⟩ := dq_ext g0.ext h2
  have hdu := dps_len du
  rw [List.length_map] at hdu
  have q' := q
  refine s_seq (s_asg ((el_lst (K := K) (T := T) (H := H0) ea_nil rfl (by decide)).run g0.self fun F fs H1 nF g1 hF dF => ?_))
  cases dF
  dsimp only
  refine s_seq ⟨.ref ua, rfl, ua, rfl, ⟨xs, .of (g1.stay hu True.intro)⟩, for_list (xs := xs) (fun i σ H' => ∃ (F : Addr) (fs : List V) (o3 o4 : Option V), σ = [some v1, some (.ref ua), some (.ref F), o3, o4] ∧ H' F = some (.lst fs) ∧ DpAll K H' fs (((us.take i).foldl (leastStep so) []).map (enc so)) ∧ Gr T H0 H' ∧ ((us.take i).foldl (leastStep so) []).length ≤ i ∧ ∀ x ∈ (us.take i).foldl (leastStep so) [], Sm 8 so x) ?_ ?_ ?_ ?_⟩
  · exact ⟨F, [], none, none, rfl, hF, .nil, g1, Nat.le_refl _, fun x hx => by simp at hx⟩
  · rintro i σ H' _ ⟨_, _, _, _, _, _, _, g, _⟩
    exact .of (g.stay hu True.intro)
  · rintro i y σ H' hy ⟨F, fs, o3, o4, rfl, hF, dF, g', hl, hs⟩
    obtain ⟨d0, e1, e2⟩ := dps_at du hy
    rw [List.getElem?_map] at e1
    have hi : i < us.length := by
      have := (List.getElem?_eq_some_iff.mp hy).1
      omega
    obtain ⟨v, ev⟩ : ∃ v, us[i]? = some v := ⟨_, List.getElem?_eq_getElem hi⟩
    rw [ev] at e1
    cases e1
    have hsv := hus.2 v (List.mem_of_getElem? ev)
    have hus1 := hus.1
    have et : (us.take (i + 1)).foldl (leastStep so) [] = leastStep so ((us.take i).foldl (leastStep so) []) v := by
      rw [List.take_add_one, ev, List.foldl_append]
      rfl
    generalize (us.take i).foldl (leastStep so) [] = fd at dF hl hs et
    have fok : Vok so fd := ⟨by omega, hs⟩
    have hyv : Dq K H' y (.d (enc so v)) := .of (dp_ext g'.ext e2) (enc_nl _ _)
    refine s_ifB (T := T) (eb_not (eb_val (ed_call (K := K) (T := T) (R := RIn d) (H := H') (σ := ([some v1, some (.ref ua), some (.ref F), o3, o4].set 3 (some y))) (ea_cons (ed_var (i := 0) rfl (dq_ext g'.ext h1)) (ea_cons (ed_var (i := 2) (d := Lst so fd) rfl (Dq.lst hF dF)) (ea_cons (ed_var (i := 3) rfl hyv) ea_nil))) ⟨so, fd, v, rfl, hd, hw, fok, hsv, rfl⟩))) (.refl g'.tab) fun H2 g2 => ?_
    have gs := g'.trans g2
    cases c : inUp so fd v with
    | true =>
      rw [if_neg (by simp)]
      refine ⟨F, fs, _, _, rfl, g2.stay hF True.intro, ?_, gs, ?_, ?_⟩
      · rw [et, leastStep, if_pos c]
        exact dps_ext g2.ext dF
      · rw [et, leastStep, if_pos c]
        omega
      · rw [et, leastStep, if_pos c]
        exact hs
    | false =>
      rw [if_pos (by rfl)]
      have el : EvL K T (tOp rCat (tLc (iList K (tVar 2)) (gName 4) (tNot (tB (tCall (spOf T K (RHolds d)) [] E0 (tCons (tVar 0) (tCons (tVar 4) (tCons (tVar 3) tNil)))))) (tVar 4) [4]) (tLst (tCons (tVar 3) tNil))) ([some v1, some (.ref ua), some (.ref F), o3, o4].set 3 (some y)) H2 ((((fd.filter fun u => !holds so u v).map (enc so)) ++ [enc so v])) := by
        refine el_cat (el_lcL fd (enc so) (fun u => !holds so u v) (enc so) (ed_var rfl (Dq.lst (g2.stay hF True.intro) (dps_ext g2.ext dF))) (by omega) (by intro _; rfl) (fun j x hx vv H3 g3 hvv => ?_) (fun j x hx _ vv H3 g3 hvv => ?_)).toD (el_lst (as := [.d (enc so v)]) (ea_cons (ed_var rfl (dq_ext g2.ext hyv)) ea_nil) rfl (by simp)).toD ?_
        · exact eb_not (eb_val (ed_call (ea_cons (ed_var rfl (dq_ext (gs.trans g3).ext h1)) (ea_cons (ed_var rfl (.of hvv (enc_nl _ _))) (ea_cons (ed_var rfl (dq_ext (g2.trans g3).ext hyv)) ea_nil))) ⟨so, x, v, rfl, hd, hw, hs x (List.mem_of_getElem? hx), hsv, rfl⟩))
        · exact EvD.e (ed_var rfl (.of hvv (enc_nl _ _))) (noL_enc _ _)
        · have := List.length_filter_le (fun u => !holds so u v) fd
          rw [List.length_map, List.length_singleton]
          omega
      refine s_asg (el.run g2.self fun F2 fs2 H3 nF2 g3 hF2 dF2 => ?_)
      refine ⟨F2, fs2, _, _, rfl, hF2, ?_, gs.trans g3, ?_, ?_⟩
      · rw [et, leastStep, if_neg (by rw [c]; simp), List.map_append]
        exact dF2
      · rw [et]
        have := stepLen so fd v
        omega
      · intro x hx
        rw [et] at hx
        rcases stepMem hx with hx | hx
        · exact hs x hx
        · rw [hx]; exact hsv
  · rintro σ H' ⟨F, fs, o3, o4, rfl, hF, dF, g', hl, hs⟩
    have e0 : us.take xs.length = us := List.take_of_length_le (by omega)
    rw [e0] at dF hl hs
    refine s_ret ((el_callN (K := K) (T := T) (R := RSortN d) (H := H') (ea_cons (ed_var (i := 0) rfl (dq_ext g'.ext h1)) (ea_cons (ed_var (i := 2) rfl (Dq.lst hF dF)) ea_nil)) ⟨so, us.foldl (leastStep so) [], _, rfl, .inl rfl, hd, hw, hs, rfl⟩).run g'.self fun p2 xs2 H2 n2 g2 e2 d2 => q' p2 xs2 H2 (g'.nn n2) (g'.trans g2) e2 d2)
end
end K16

end K16R16Text
section K16HText
set_option autoImplicit false
set_option linter.all false
set_option maxRecDepth 100000
set_option Elab.async false
set_option pp.maxSteps 350
set_option pp.deepTerms false
set_option pp.deepTerms.threshold 4
/-! Dicts whose keys are tuples of whole numbers: the display of one pair, dict(d), the walk over d.items(), sum(d.values()). -/
namespace K16
open PySem PySem.W PySem.Calls PyProof.Rows PyProof.V PySem.Spec L2
section
variable {prog : Program} {w : World} {κ : Type} [DecidableEq κ] {knd : HeapKind prog w κ} {A : Around} {E : Value → Shared → Prop} {s : Shared}
theorem storedAllH_fresh : ∀ (ps acc : List (κ × Addr × Value)), ((acc ++ ps).map (·.1)).Nodup → storedAllH acc ps = acc ++ ps
  | [], acc, _ => by
    show acc = acc ++ []
    rw [List.append_nil]
  | p :: ps, acc, hn => by
    show storedAllH (storedH acc p.1 p.2.1 p.2.2) ps = _
    have hf : atKey acc p.1 = none := atKey_none_of_get fun j q e => by
      rw [List.map_append, List.map_cons, List.nodup_append] at hn
      exact hn.2.2 p.1 (List.mem_map.mpr ⟨_, List.mem_of_getElem? e, rfl⟩) p.1 List.mem_cons_self rfl
    rw [storedH_new hf, storedAllH_fresh ps (acc ++ [(p.1, p.2.1, p.2.2)]) (by rw [List.append_assoc]; exact hn), List.append_assoc]
    rfl
theorem call_dictH {o : Addr} {more : List (κ × Addr × Value)} {Q : Value → Shared → Prop} (hu : knd.room A.in1.in1) (hoS : (o == sysModules) = false) (ho : s.heap.DictOfH knd o more) (hsz : more.length ≤ sizeLine)
    (hty : ∀ x ∈ more, s.TypeIs (.ref x.2.1) "tuple") (hap : (more.map fun x => knd.hash x.1).Nodup)
    (hst : (s.heap.push { cls := .type "dict", data := .dict #[] }).DictOfH knd o more)
    (h : ∀ h', h'.DictOfH knd s.heap.objs.size more → Heap.SameBut s.heap.objs.size (s.heap.push { cls := .type "dict", data := .dict #[] }) h' → Q (.ref s.heap.objs.size) { s with heap := h' }) :
    wpAny (model prog w) A (call (.type "dict") [.ref o]) Q E s := by
  refine callType_codes (Q₁ := fun obj s₁ => obj = .ref s.heap.objs.size ∧ s₁ = { s with heap := s.heap.push { cls := .type "dict", data := .dict #[] } }) F.kt_called_dict (F.kt_typeCall_dict_1 _) F.entry_dict_init (kt_code_dict_new _ ⟨rfl, rfl⟩) ?_
  rintro obj s₁ ⟨rfl, rfl⟩
  have hnew : (s.heap.push { cls := .type "dict", data := .dict #[] }).DictOfH knd s.heap.objs.size [] := Heap.DictOfH.new s.heap
  have hn : (more.map (·.1)).Nodup := let ⟨_, _, _, _, _, _, _, _, hn⟩ := ho; hn
  have hdo : s.heap.objs.size ≠ o := by
    obtain ⟨_, _, _, hg, _⟩ := ho
    exact fun e => absurd (Heap.lt_size hg) (by rw [e]; exact Nat.lt_irrefl _)
  refine ⟨hnew.typeIs, F.args_dict_init_2 _ _, ?_⟩
  unfold Builtin.«dict.__init__»
  refine wpAny_bind ?_
  unfold Builtin.Dict.selfAndRest
  refine wpAny_bind (wpAny_notOrdered_dict hnew.typeIs ?_)
  show wpAny _ _ (pure (s.heap.objs.size, [Value.ref o])) _ _ _
  refine wpAny_pure ?_
  show wpAny _ _ (Builtin.Dict.updateFrom "dict.__init__" s.heap.objs.size (.ref o) [] .none) _ _ _
  refine updateFrom_dictH (A := A.in1) .none hu hdo hoS hnew hst (.inr ⟨fun x hx => ?_, hap⟩) (by rw [List.length_nil, Nat.zero_add]; exact hsz) fun h' hd' ho' hs => ?_
  · obtain ⟨oo, e, c⟩ := hty x hx
    exact ⟨oo, Heap.get?_push_of_some _ e, c⟩
  · rw [storedAllH_fresh more [] (by simpa using hn)] at hd'
    exact ⟨rfl, h h' hd' hs⟩
end
section
variable {X : Cx}
/-- a key of whole numbers -/
def nk (l : List Nat) : List L2.Key := l.map fun n => Sum.inl ((n : Nat) : Int)
def nkH (l : List Nat) : Int := reduceHash (Builtin.Tuple.tupleHashOf (l.map fun n => intHash ((n : Nat) : Int)))
theorem nk_hash (P : Program) (w : World) (l : List Nat) : (tupleKind (mixKind P w)).hash (nk l) = nkH l := by
  show reduceHash (Builtin.Tuple.tupleHashOf ((nk l).map (keyH w))) = _
  unfold nk nkH
  rw [List.map_map]
  rfl
def rCopyT (P : Program) (w : World) : List V → Hp → VK → Prop := fun vs H Q => ∃ (a : Addr) (kvs : List (List L2.Key × V)), vs = [.ref a] ∧ H a = some (.dT kvs) ∧ (kvs.map fun p => (tupleKind (mixKind P w)).hash p.1).Nodup ∧ ∀ p, H p = none → Q (.ref p) (upd H p (.dT kvs))
theorem cr_copyT (hu : X.A.units + 64 < cLine) : CallR X (.type "dict") (rCopyT X.prog X.w) := by
  intro pins s σ H vs us Q I r h
  obtain ⟨a, kvs, rfl, ha, hap, q⟩ := h
  obtain rfl := Vals.ref1 r
  obtain ⟨z, hd, xs, rel, dd⟩ := dt_of I.hok ha
  have hl : kvs.length = xs.length := Paired.length rel
  have keep : ∀ b u, s.heap.get? b = some u → (s.heap.push { cls := .type "dict", data := .dict #[] }).get? b = some u := fun b u e => Heap.get?_push_of_some _ e
  have hst : (s.heap.push { cls := .type "dict", data := .dict #[] }).DictOfH (tupleKind (mixKind X.prog X.w)) a xs := by
    obtain ⟨o, es, ep, h1, h2, h3, h4, h5, h6⟩ := dd
    exact ⟨o, es, ep, keep _ _ h1, h2, h3, h4, fun x hx => tupleKind_stays.stays (fun b o vs n e _ => keep _ _ e) (h5 x hx), h6⟩
  have hty : ∀ x ∈ xs, s.TypeIs (.ref x.2.1) "tuple" := fun x hx => by
    obtain ⟨o, es, ep, h1, h2, h3, h4, h5, h6⟩ := dd
    exact tupleKind_stays.tuple (h5 x hx)
  have hap' : (xs.map fun x => (tupleKind (mixKind X.prog X.w)).hash x.1).Nodup := by
    have e : ∀ {l : List (List L2.Key × V)} {m : List (List L2.Key × Addr × Value)}, KT H l m → (l.map fun p => (tupleKind (mixKind X.prog X.w)).hash p.1) = m.map fun x => (tupleKind (mixKind X.prog X.w)).hash x.1 := by
      intro l m q
      induction q with
      | nil => rfl
      | cons h t ih => rw [List.map_cons, List.map_cons, ih, h.1]
    rw [← e rel]
    exact hap
  refine call_dictH (knd := tupleKind (mixKind X.prog X.w)) (show X.A.in1.in1.units < cLine from ?_) hd dd (by rw [← hl]; exact z) hty hap' hst fun h' dd' hs => ?_
  · have e : X.A.in1.in1.units ≤ X.A.units + 2 := by
      show X.A.units + 1 + 1 ≤ _
      omega
    omega
  · have kp : ∀ b u, s.heap.get? b = some u → h'.get? b = some u := fun b q hq => (hs.2 b (Nat.ne_of_lt (Heap.lt_size hq))).trans (Heap.get?_push_of_some _ hq)
    obtain ⟨o, es, ep, h1, h2, h3, h4, h5, h6⟩ := dd'
    have new : ObjOk X.prog X.w (upd H s.heap.objs.size (.dT kvs)) h' s.heap.objs.size (.dT kvs) :=
      ⟨z, beq_eq_false_iff_ne.mpr (Ne.symm (Nat.ne_of_lt I.big)), xs, KT.keeps rel fun b ys e => by
        rw [upd_ne fun e' => by rw [e', I.hok.fresh (Nat.le_refl _)] at e; cases e]
        exact e, o, es, ep, h1, h2, h3, h4, h6⟩
    exact ⟨.ref s.heap.objs.size, _, I.laid (a := s.heap.objs.size) (o := .dT kvs) (t' := s.toks) kp (Nat.le_refl _) new, rfl, q _ (I.hok.fresh (Nat.le_refl _))⟩
/-! ### {key: value} -/
def tDispT1 (tk tv : TE) : TE := fun σ H Q => ∀ p, H p = none → tk σ (upd H p (.dT [])) fun x H1 => tv σ H1 fun y H2 => H2 p = some (.dT []) ∧ ∃ (k : List L2.Key) (b : Addr), x = .ref b ∧ H2 b = some (.tup (k.map kV)) ∧ Q (.ref p) (upd H2 p (.dT [(k, y)]))
theorem pe_dispT1 {pos : Pos} {k v : Expr} {tk tv : TE} (hu : X.A.units + 64 < cLine) (hk : PE X k tk) (hv : PE X v tv) : PE X (.Dict [some k] [v] pos) (tDispT1 tk tv) := by
  refine ⟨fun pins s σ H Q I q => ?_⟩
  have hn := I.hok.fresh (Nat.le_refl s.heap.objs.size)
  have I1 := I.laid (a := s.heap.objs.size) (o := .dT []) (h' := s.heap.push { cls := .type "dict", data := .dict #[] }) (t' := s.toks) (fun _ _ q => Heap.get?_push_of_some _ q) (Nat.le_refl _) (dt_empty s.heap I.big)
  have e1 : (pairTrees [some k] [v] X.env pos).length = 1 := rfl
  rw [arm_eval_Dict, zip_pairTrees [some k] [v] X.env pos rfl rfl, dictDisplay_pairs (pairTrees [some k] [v] X.env pos) (by intro z; rw [z] at e1; cases e1) (by omega)]
  refine wpAny_bind (wpAny_standAt (wpAny_bind (wpAny_subDictH (knd := tupleKind (mixKind X.prog X.w)) (Q := fun d s' => wpAny (model X.prog X.w) X.A (pure (Value.ref d)) _ X.xe s') (show X.A.units < cLine by omega) (by omega) ?_)))
  refine thn ((pps_cons (pos := pos) hk hv pps_nil).run pins _ σ _ (fun ps H2 => match ps with
    | [(x, y)] => H2 s.heap.objs.size = some (.dT []) ∧ ∃ (k : List L2.Key) (b : Addr), x = .ref b ∧ H2 b = some (.tup (k.map kV)) ∧ Q (.ref s.heap.objs.size) (upd H2 s.heap.objs.size (.dT [(k, y)]))
    | _ => False) I1 (q _ hn)) fun ws s2 ⟨ps, H2, I2, rel, q2⟩ => ?_
  cases rel with
  | nil => exact q2.elim
  | @cons a c ps' ws' r1 r2 =>
    cases r2 with
    | cons _ _ => exact q2.elim
    | nil =>
      obtain ⟨x, y⟩ := a
      obtain ⟨kv, vv⟩ := c
      obtain ⟨e, kk, b, ex, eb, q3⟩ := q2
      obtain ⟨rx, ry⟩ := r1
      subst ex
      cases (show kv = Value.ref b from rx)
      obtain ⟨z, hd, xs0, r0, dd⟩ := dt_of I2.hok e
      cases r0
      refine ⟨[(kk, b, vv)], ⟨rfl, rfl, key_of I2.hok eb, True.intro⟩, dd, fun h' tk' dd' hs => wpAny_pure ?_⟩
      rw [storedAllH_fresh [(kk, b, vv)] [] (by simp)] at dd'
      have hbp : b ≠ s.heap.objs.size := fun z' => by rw [z', e] at eb; cases eb
      have he : ∃ q, h'.get? s.heap.objs.size = some q := let ⟨q, _, _, hq, _⟩ := dd'; ⟨q, hq⟩
      obtain ⟨o, es, ep, h1, h2, h3, h4, h5, h6⟩ := dd'
      refine ⟨.ref s.heap.objs.size, upd H2 s.heap.objs.size (.dT [(kk, y)]), d_write I2 (by rw [e]; exact True.intro) hs he ⟨by show 1 ≤ sizeLine; decide, hd, [(kk, b, vv)], .cons ⟨rfl, ?_, ry⟩ .nil, o, es, ep, h1, h2, h3, h4, h6⟩, rfl, q3⟩
      rw [upd_ne hbp]
      exact eb
/-! ### d.values(), sum of them -/
def valuesO (p d : Addr) : HO := .ext fun h => h.IsValuesView p d
theorem valuesO_ok {P : Program} {w : World} {H : Hp} {h : Heap} {p d : Addr} (e : h.get? p = some { cls := .type "dict_values", data := .fields #[.ref d] }) : ObjOk P w H h p (valuesO p d) :=
  ⟨⟨_, e, rfl, rfl⟩, ⟨_, e⟩, fun h1 h2 x k => let ⟨o, ho, r⟩ := x; ⟨o, k o ho, r⟩⟩
def rValuesT : V → List V → Hp → VK → Prop := fun x xs H Q => ∃ (a : Addr) (kvs : List (List L2.Key × V)), x = .ref a ∧ xs = [] ∧ H a = some (.dT kvs) ∧ ∀ p, H p = none → Q (.ref p) (upd H p (valuesO p a))
theorem mt_valuesT : MtR X "dict.values" rValuesT := by
  intro pins s σ H x xs v us Q I rx rxs h
  obtain ⟨a, kvs, rfl, rfl, ha, q⟩ := h
  cases rx
  cases rxs
  obtain ⟨z, hd, xs', rel, o, es, ep, ho, hx, hdat, _⟩ := dt_of I.hok ha
  have hm : s.heap.DictRaw a es ep := ⟨o, ho, hx, hdat⟩
  have hf : H s.heap.objs.size = none := I.hok.fresh (Nat.le_refl _)
  exact call_meetsIn PySem.F.slot_dict_values hm.typeIs PySem.F.entry_dict_values (PySem.F.args_dict_values_1 _) (meets_dict_values_raw a hd) ⟨⟨es, ep, hm⟩,
    .ref s.heap.objs.size, upd H s.heap.objs.size (valuesO s.heap.objs.size a), I.laid (t' := s.toks) (fun b u e => Heap.get?_push_of_some _ e) (Nat.le_refl _) (valuesO_ok (Heap.get?_push_size _ rfl)), rfl, q _ hf⟩
def rSumV : List V → Hp → VK → Prop := fun vs H Q => ∃ (p a : Addr) (kvs : List (List L2.Key × V)) (ns : List Int), vs = [.ref p] ∧ H p = some (valuesO p a) ∧ H a = some (.dT kvs) ∧ kvs.map (·.2) = ns.map V.int ∧ Q (.int ns.sum) H
theorem cr_sumV (hc : X.calm = true) : CallR X (.builtin "sum") rSumV := by
  intro pins s σ H vs us Q I r h
  obtain ⟨p, a, kvs, ns, rfl, hp, ha, hns, q⟩ := h
  obtain rfl := Vals.ref1 r
  have view : s.heap.IsValuesView p a := (show ObjOk X.prog X.w H s.heap p (valuesO p a) from I.hok p _ hp).1
  obtain ⟨z, hd, xs', rel, o, es, ep, ho, hx, hdat, hes, his, hn⟩ := dt_of I.hok ha
  have hm : s.heap.DictRaw a es ep := ⟨o, ho, hx, hdat⟩
  have hh : X.A.handled = none := I.ok.hd hc
  have l1 : kvs.length = xs'.length := Paired.length rel
  have l2 : es.size = xs'.length := size_of_entries hes
  have l3 : kvs.length = ns.length := by rw [← List.length_map (f := (·.2)) (as := kvs), hns, List.length_map]
  have KS := KdlSrc.rawValues (prog := X.prog) (w := X.w) (d := a) (r := p) (es := es) (ep := ep)
  refine call_sum_walkAnyS ?_
  obtain ⟨oI, St, hit, W, st⟩ := KS.iter X.A.in1 s hh ⟨view, hm⟩
  refine hit _ _ ⟨s.heap.objs.size, _, _, _, es.size, _, _, fun i => (ns[i]?).getD 0, rfl, W.toS, st, fun b hb => ?_, fun i v hv => ?_, fun s' t' hmv => ?_⟩
  · show b < (s.heap.push oI).objs.size
    rw [Heap.size_push]
    rcases List.mem_cons.mp hb with e | hb
    · rw [e]; exact Nat.lt_succ_self _
    · rw [List.mem_singleton.mp hb]; exact Nat.lt_succ_of_lt (KS.there _ ⟨view, hm⟩).2
  · obtain ⟨hi, rfl⟩ := hv
    have e1 := entry_at hes i
    rw [Array.getElem?_eq_getElem hi] at e1
    cases hxi : xs'[i]? with
    | none =>
      rw [hxi] at e1
      exact nomatch (show some es[i] = none from e1)
    | some x =>
      rw [hxi] at e1
      have e2 : es[i] = entryOfKey (tupleKind (mixKind X.prog X.w)) x := Option.some.inj e1
      obtain ⟨⟨k0, v0⟩, hk0, r1, r2, r3⟩ := L2.DX.pget rel hxi
      have hv0 : (kvs.map (·.2))[i]? = some v0 := by rw [List.getElem?_map, hk0]; rfl
      rw [hns, List.getElem?_map] at hv0
      cases hni : ns[i]? with
      | none => rw [hni] at hv0; cases hv0
      | some m =>
        rw [hni] at hv0
        cases hv0
        obtain ⟨t, ht⟩ := r3
        refine ⟨t, ?_⟩
        show es[i].val = .int ((ns[i]?).getD 0) t
        rw [hni, e2]
        exact ht
  · have hk : ∀ b o, s.heap.get? b = some o → s'.heap.get? b = some o := fun b o e =>
      hmv.heap b o (fun hI => absurd (Heap.lt_size e) (by rw [List.mem_singleton.mp hI]; exact Nat.lt_irrefl _)) (Heap.get?_push_of_some _ e)
    rw [Moved.eq_with hmv]
    have tot : preSum (fun i => (ns[i]?).getD 0) es.size = ns.sum := by
      have e := preSum_list (h := fun v => match v with | .int i => i | _ => 0) (ns.map V.int) (fun i => (ns[i]?).getD 0) (fun i x e => by
        rw [List.getElem?_map] at e
        cases hni : ns[i]? with
        | none => rw [hni] at e; cases e
        | some m => rw [hni] at e; cases e; rfl) es.size (by rw [List.length_map]; omega)
      rw [e, List.take_of_length_le (by rw [List.length_map]; omega), List.map_map]
      have : ((fun v => match v with | V.int i => i | _ => 0) ∘ V.int) = (id : Int → Int) := rfl
      rw [this, List.map_id]
    rw [tot]
    exact ⟨.int ns.sum, H, I.kept hk, ⟨_, rfl⟩, q⟩
/-! ### for k, v in d.items() -/
theorem frzTv {pins : List (Addr × Obj)} {σ : L2.St} {H : Hp} {s : Shared} {d : Addr} {o : Obj} {kvs : List (List L2.Key × V)} (I : Inv X pins σ H s) (h : H d = some (.frz o (.dT kvs))) :
    (d == sysModules) = false ∧ s.heap.get? d = some o ∧ o.ExactDict ∧ ∃ (es : Array DictEntry) (ep : Nat), o.data = .dict es ep ∧ es.size = kvs.length ∧
      ∀ (i : Nat) (k : List L2.Key) (v : V), kvs[i]? = some (k, v) → ∃ (en : DictEntry) (q : Addr), es[i]? = some en ∧ en.key = .ref q ∧ H q = some (.tup (k.map kV)) ∧ RelV v en.val := by
  obtain ⟨hd, z, hs, xs, pr, o', es, ep, ho, hx, hdt, he, _⟩ := I.hok d _ h
  rw [hd] at ho
  cases ho
  refine ⟨hs, hd, hx, es, ep, hdt, ?_, fun i k v e => ?_⟩
  · have l1 : es.size = xs.length := size_of_entries he
    have l2 : kvs.length = xs.length := Paired.length pr
    omega
  · obtain ⟨b, hb, e1, e2, e3⟩ := paired_get pr e
    have q := entry_at he i
    rw [hb] at q
    exact ⟨_, b.2.1, q, rfl, e2, e3⟩
def ItiT (d : Addr) (o : Obj) (kvs : List (List L2.Key × V)) : It :=
  ⟨fun i H => H d = some (.frz o (.dT kvs)) ∧ i < kvs.length, fun i H x H' => ∃ t k v q, kvs[i]? = some (k, v) ∧ x = .ref t ∧ H t = none ∧ H q = some (.tup (k.map kV)) ∧ H' = upd H t (.tup [.ref q, v]), fun i H => H d = some (.frz o (.dT kvs)) ∧ kvs.length ≤ i⟩
theorem turn_itemsT {P : Program} {w : World} {K : PySem.W.Frag} {d : Addr} {o : Obj} {es : Array DictEntry} {ep : Nat} {kvs : List (List L2.Key × V)} {elts : List Expr} {kk : Nat} {tpos : Pos} (it : Addr) (hod : o.data = .dict es ep) :
    Turn P w K (.Tuple elts kk tpos) (ItiT d o kvs) [it] it (fun i h => ∃ ok ov, IsItemIter h it d i kvs.length ep ok ov) where
  mem := by simp
  obj := fun i h st b hb => by
    have e : b = it := by simpa using hb
    subst e
    obtain ⟨ok, ov, e⟩ := st
    exact ⟨_, e, fun v z => nomatch z⟩
  keep := fun i h h' st k => let ⟨ok, ov, e⟩ := st; ⟨ok, ov, k it (by simp) _ e⟩
  item := by
    intro X hP hw hK hc i pins s σ H E I hf st hg
    subst hP hw hK
    obtain ⟨hd, hi⟩ := hg
    obtain ⟨hs, hgd, hx, es', ep', hdt, hsz, ent⟩ := frzTv I hd
    obtain ⟨rfl, rfl⟩ := dict_ep hod hdt
    obtain ⟨⟨k, v⟩, hkv⟩ : ∃ p, kvs[i]? = some p := ⟨kvs[i], List.getElem?_eq_getElem hi⟩
    obtain ⟨en, q, hen, hkey, hq, hv⟩ := ent i k v hkv
    obtain ⟨ok, ov, he⟩ := st
    rw [← hsz] at he
    have hie : i < es'.size := by omega
    have een : es'[i] = en := by rw [Array.getElem?_eq_getElem hie] at hen; exact Option.some.inj hen
    have hlt : it < s.heap.objs.size := Heap.lt_size he
    refine DT.nextI he ⟨o, hgd, hx, hdt⟩ hie fun h' ho hT hz hk => ?_
    rw [een] at ho hT
    refine ⟨_, rfl, wpAny_letOwnedTupleGo_items (s := { s with heap := h' }) ho fun h'' he' sb => ?_⟩
    have hT2 : h''.get? s.heap.objs.size = some { cls := .type "tuple", data := .seq #[en.key, en.val] } := (sb.2 _ (Nat.ne_of_gt hlt)).trans hT
    have new : ObjOk X.prog X.w (upd H s.heap.objs.size (.tup [.ref q, v])) h'' s.heap.objs.size (.tup [.ref q, v]) :=
      ⟨by show 2 ≤ sizeLine; decide, [en.key, en.val], .cons (by rw [hkey]; exact rfl) (.cons hv .nil), ⟨_, hT2, rfl, _, rfl⟩⟩
    have I1 : Inv X pins σ (upd H s.heap.objs.size (.tup [.ref q, v])) { s with heap := h'' } :=
      I.turnedNew (t' := s.toks) (ch := [it]) (fun b ob hb e => (sb.2 b (by simpa using hb)).trans (hk b ob (by simpa using hb) e)) hf (Nat.le_refl _) new
    refine ⟨.ref s.heap.objs.size, _, I1, rfl, ⟨_, k, v, q, hkv, rfl, I.hok.fresh (Nat.le_refl _), hq, rfl⟩, ⟨en.key, en.val, ?_⟩, fun b hb => ?_⟩
    · rw [← hsz]; exact he'
    · have e : b = it := by simpa using hb
      rw [e, upd_ne (Nat.ne_of_lt hlt)]
      exact (hf it (by simp)).1
  done := by
    intro X hP hw hK hc i pins s σ H E I hf st hg
    subst hP hw hK
    obtain ⟨hd, hi⟩ := hg
    obtain ⟨f0, f1, f2, f3, f4, f5⟩ := hf it (by simp)
    obtain ⟨hs, hgd, hx, es', ep', hdt, hsz, ent⟩ := frzTv I hd
    obtain ⟨rfl, rfl⟩ := dict_ep hod hdt
    obtain ⟨ok, ov, he⟩ := st
    rw [← hsz] at he
    exact DT.endI (I.ok.hd hc) he ⟨o, hgd, hx, hdt⟩ (by omega) fun h' eb => ⟨rfl, I.turned (t' := s.toks) (fun b ob hb e => eb b ob hb e) f0 f1 f3 f4 f5⟩
  self := fun A i s Q E st h => let ⟨_, _, e⟩ := st; PySem.W.kcp_self e h
/-- the dict is locked (tLock) -/
def iItemsT (td : TE) : TI := fun σ H R => td σ H fun x H1 => ∃ d o kvs, x = .ref d ∧ H1 d = some (.frz o (.dT kvs)) ∧ R (ItiT d o kvs) H1
theorem pi_itemsT {e : Expr} {td : TE} {apos cpos : Pos} {elts : List Expr} {kk : Nat} {tpos : Pos} (he : PE X e td) (hbase : attributeBase e "items" X.env (eval e X.env) = eval e X.env := by rfl) (hline : (apos.endLine == cpos.line) = true := by rfl) :
    PI X (.Tuple elts kk tpos) (.Call (.Attribute e "items" apos) [] [] cpos) (iItemsT td) := by
  refine ⟨fun pins s σ H R I h => ?_⟩
  refine wpAny_Call_method (T := "dict") (id := "dict.items") hbase rfl hline F.plainAttrs_dict F.slot_dict_items F.type_dict_items (thn (he.run pins s σ H _ I h) fun u s1 ⟨x, H1, I1, rx, d, o, kvs, ex, hd, q⟩ => ?_)
  subst ex
  obtain rfl : u = Value.ref d := rx
  obtain ⟨hs, hgd, hx, es, ep, hdt, hsz, ent⟩ := frzTv I1 hd
  have raw : DT.Raw s1.heap d es ep := ⟨o, hgd, hx, hdt⟩
  refine ⟨raw.typeIs, fun b q => by cases q; exact ⟨o, hgd, hx.2.1⟩, ?_⟩
  have I2 : Inv X pins σ H1 { s1 with heap := s1.heap.push { cls := .type "dict_items", data := .fields #[.ref d] } } := I1.kept (t' := s1.toks) fun b ob q => Heap.get?_push_of_some _ q
  have fin : wpAny (model X.prog X.w) X.A (pyIter (.ref s1.heap.objs.size)) (PIE X pins σ (.Tuple elts kk tpos) R) X.xe { s1 with heap := s1.heap.push { cls := .type "dict_items", data := .fields #[.ref d] } } := by
    refine DT.iterI (d := d) ⟨_, Heap.get?_push_size _ rfl, rfl, rfl⟩ (raw.push _) (pi_one (tk := s1.toks) I2 _ (turn_itemsT _ hdt) ⟨.none, .none, ?_⟩ q)
    rw [← hsz]
    exact Heap.get?_push_size _ rfl
  show wpAny _ _ (callWith cpos (.builtin "dict.items") [.ref d] [] []) _ X.xe s1
  exact method_meetsIn F.slot_dict_items F.entry_dict_items rfl (PySem.evalArgs_none ⟨rfl, raw.typeIs, F.args_dict_items_1 _, _, DT.meetsItems (es := es) (ep := ep) hs, raw, fin⟩)
end
end K16

end K16HText
section K16F3Text
set_option autoImplicit false
set_option linter.all false
set_option maxRecDepth 100000
set_option Elab.async false
set_option pp.maxSteps 1000
namespace K16
open PySem PySem.Spec PyProof.Rows L2
/-! the dict of sums, as the machine has it -/
def sv (d : Sums) : List (List L2.Key × V) := d.map fun x => (nk x.1, V.int ((x.2 : Nat) : Int))
theorem nk_inj {a b : List Nat} (h : nk a = nk b) : a = b := by
  unfold nk at h
  exact (List.map_inj_right (fun x y e => by cases e; rfl)).mp h
theorem sv_get : ∀ (d : Sums) (k : List Nat), (valV (sv d) (nk k)).getD (.int 0) = .int ((lookS d k : Nat) : Int)
  | [], k => rfl
  | x :: d, k => by
    rw [lookS]
    by_cases c : x.1 = k
    · rw [if_pos c]
      show (valV ((nk x.1, V.int ((x.2 : Nat) : Int)) :: sv d) (nk k)).getD _ = _
      rw [valV_pos (show ((nk x.1, V.int ((x.2 : Nat) : Int)) : List L2.Key × V).1 = nk k by rw [c])]
      rfl
    · rw [if_neg c]
      have e : valV (sv (x :: d)) (nk k) = valV (sv d) (nk k) := by
        unfold valV sv
        rw [List.map_cons, List.find?_cons_of_neg]
        simpa using fun z => c (nk_inj z)
      rw [e]
      exact sv_get d k
theorem map_no {k : List Nat} {v : V} : ∀ d : Sums, (∀ x ∈ d, x.1 ≠ k) → (sv d).map (fun kv => if kv.1 = nk k then (kv.1, v) else kv) = sv d
  | [], _ => rfl
  | x :: d, h => by
    show (if nk x.1 = nk k then (nk x.1, v) else _) :: (sv d).map _ = _
    rw [if_neg fun z => h x List.mem_cons_self (nk_inj z), map_no d fun y hy => h y (List.mem_cons_of_mem _ hy)]
    rfl
theorem put_no {k : List Nat} {n : Nat} : ∀ d : Sums, (∀ x ∈ d, x.1 ≠ k) → putS d k n = d ++ [(k, n)]
  | [], _ => rfl
  | x :: d, h => by
    rw [putS, if_neg (h x List.mem_cons_self), put_no d fun y hy => h y (List.mem_cons_of_mem _ hy)]
    rfl
theorem put_yes {k : List Nat} {n : Nat} : ∀ d : Sums, (d.map (·.1)).Nodup → (∃ x ∈ d, x.1 = k) → (sv d).map (fun kv => if kv.1 = nk k then (kv.1, V.int ((n : Nat) : Int)) else kv) = sv (putS d k n)
  | [], _, h => by obtain ⟨x, hx, _⟩ := h; cases hx
  | x :: d, hn, h => by
    rw [List.map_cons, List.nodup_cons] at hn
    rw [putS]
    show (if nk x.1 = nk k then (nk x.1, V.int ((n : Nat) : Int)) else (nk x.1, V.int ((x.2 : Nat) : Int))) :: (sv d).map _ = _
    by_cases c : x.1 = k
    · rw [if_pos c, if_pos (by rw [c]), map_no d fun y hy e => hn.1 (List.mem_map.mpr ⟨y, hy, by rw [e, c]⟩), c]
      rfl
    · rw [if_neg c, if_neg fun z => c (nk_inj z), put_yes d hn.2]
      · rfl
      · obtain ⟨y, hy, e⟩ := h
        rcases List.mem_cons.mp hy with z | z
        · exact absurd (z ▸ e) c
        · exact ⟨y, z, e⟩
theorem sv_put {d : Sums} {k : List Nat} {n : Nat} (hn : (d.map (·.1)).Nodup) : putK (sv d) (nk k) (.int ((n : Nat) : Int)) = sv (putS d k n) := by
  unfold putK
  by_cases h : ∃ x ∈ d, x.1 = k
  · rw [if_pos, put_yes d hn h]
    obtain ⟨x, hx, e⟩ := h
    rw [List.any_eq_true]
    exact ⟨(nk x.1, V.int ((x.2 : Nat) : Int)), List.mem_map.mpr ⟨x, hx, rfl⟩, by rw [e]; simp⟩
  · have h' : ∀ x ∈ d, x.1 ≠ k := fun x hx e => h ⟨x, hx, e⟩
    rw [if_neg, put_no d h']
    · unfold sv
      rw [List.map_append]
      rfl
    · intro z
      rw [List.any_eq_true] at z
      obtain ⟨y, hy, e⟩ := z
      obtain ⟨x, hx, rfl⟩ := List.mem_map.mp hy
      exact h' x hx (nk_inj (of_decide_eq_true e))
theorem keysS_put {k : List Nat} {n : Nat} : ∀ d : Sums, (putS d k n).map (·.1) = if k ∈ d.map (·.1) then d.map (·.1) else d.map (·.1) ++ [k]
  | [] => rfl
  | x :: d => by
    rw [putS]
    by_cases c : x.1 = k
    · rw [if_pos c, List.map_cons, List.map_cons, if_pos (by rw [c]; exact List.mem_cons_self), c]
    · rw [if_neg c, List.map_cons, keysS_put d, List.map_cons]
      by_cases h : k ∈ d.map (·.1)
      · rw [if_pos h, if_pos (List.mem_cons_of_mem _ h)]
      · rw [if_neg h, if_neg fun z => (List.mem_cons.mp z).elim (fun z => c z.symm) h]
        rfl
/-- keys are different, short, without the same place twice -/
def SOk (m : Nat) (d : Sums) : Prop := (d.map (·.1)).Nodup ∧ KeyOk m d
theorem SOk.put {m : Nat} {d : Sums} {k : List Nat} {n : Nat} (h : SOk m d) (hk : k.Nodup ∧ ∀ p ∈ k, p < m) : SOk m (putS d k n) := by
  refine ⟨?_, h.2.put hk⟩
  rw [keysS_put]
  split
  · exact h.1
  · rename_i c
    rw [List.nodup_append]
    exact ⟨h.1, by simp, fun a ha b hb => by simp at hb; subst hb; exact fun e => c (e ▸ ha)⟩
theorem SOk.place {m : Nat} {row : Nat → Nat} {left : List Nat} {many p : Nat} {d : Sums} (h : SOk m d) (hl : left.Nodup ∧ ∀ p ∈ left, p < m) : SOk m (hwPlace row left many d p) :=
  h.put ⟨hl.1.sublist List.filter_sublist, fun q hq => hl.2 q (List.mem_filter.mp hq).1⟩
theorem SOk.lefts {m : Nat} {row : Nat → Nat} {left : List Nat} {many : Nat} (hl : left.Nodup ∧ ∀ p ∈ left, p < m) : ∀ (l : List Nat) {d : Sums}, SOk m d → SOk m (l.foldl (hwPlace row left many) d)
  | [], d, h => h
  | p :: l, d, h => by
    rw [List.foldl_cons]
    exact SOk.lefts hl l (h.place hl)
def five : List (List Nat) := [[], [0], [1], [0, 1], [1, 0]]
theorem in_five {k : List Nat} (hn : k.Nodup) (h : ∀ p ∈ k, p < 2) : k ∈ five := by
  match k, hn, h with
  | [], _, _ => decide
  | [a], _, h =>
    have := h a (by simp)
    rcases (show a = 0 ∨ a = 1 by omega) with e | e <;> subst e <;> decide
  | [a, b], hn, h =>
    have h1 := h a (by simp)
    have h2 := h b (by simp)
    simp at hn
    rcases (show (a = 0 ∧ b = 1) ∨ (a = 1 ∧ b = 0) by omega) with ⟨e, f⟩ | ⟨e, f⟩ <;> subst e <;> subst f <;> decide
  | a :: b :: c :: r, hn, h =>
    have h1 := h a (by simp)
    have h2 := h b (by simp)
    have h3 := h c (by simp)
    simp at hn
    omega
theorem sub_len {α : Type} : ∀ (l d : List α), l.Nodup → (∀ x ∈ l, x ∈ d) → l.length ≤ d.length
  | [], d, _, _ => Nat.zero_le _
  | x :: l, d, hn, h => by
    obtain ⟨a, b, rfl⟩ := List.append_of_mem (h x List.mem_cons_self)
    rw [List.nodup_cons] at hn
    have q := sub_len l (a ++ b) hn.2 fun y hy => by
      have z := h y (List.mem_cons_of_mem _ hy)
      rw [List.mem_append, List.mem_cons] at z
      rw [List.mem_append]
      rcases z with z | z | z
      · exact .inl z
      · exact absurd (z ▸ hy) hn.1
      · exact .inr z
    rw [List.length_append, List.length_cons]
    rw [List.length_append] at q
    rw [List.length_cons]
    omega
theorem SOk.five {m : Nat} {d : Sums} (h : SOk m d) (hm : m ≤ 2) : ∀ k ∈ d.map (·.1), k ∈ five := fun k hk => by
  obtain ⟨x, hx, rfl⟩ := List.mem_map.mp hk
  have := h.2 x hx
  exact in_five this.1 fun p hp => Nat.lt_of_lt_of_le (this.2 p hp) hm
theorem SOk.len {m : Nat} {d : Sums} (h : SOk m d) (hm : m ≤ 2) : (sv d).length ≤ 5 := by
  have := sub_len _ K16.five h.1 (h.five hm)
  unfold sv
  rw [List.length_map] at this ⊢
  exact this
theorem five_hash : ∀ a ∈ five, ∀ b ∈ five, nkH a = nkH b → a = b := by decide +kernel
theorem SOk.hash {m : Nat} {d : Sums} (P : Program) (w : World) (h : SOk m d) (hm : m ≤ 2) : ((sv d).map fun p => (tupleKind (mixKind P w)).hash p.1).Nodup := by
  have e : ((sv d).map fun p => (tupleKind (mixKind P w)).hash p.1) = (d.map (·.1)).map nkH := by
    unfold sv
    rw [List.map_map, List.map_map]
    exact List.map_congr_left fun x _ => nk_hash P w x.1
  rw [e]
  refine List.pairwise_map.mpr ?_
  refine List.Pairwise.imp_of_mem (fun {a b} ha hb hab z => hab (five_hash a (h.five hm a ha) b (h.five hm b hb) z)) h.1
theorem sok_start (m : Nat) : SOk m [(List.range m, 1)] := ⟨by simp, heap_start m⟩
theorem sv_vals (d : Sums) : (sv d).map (·.2) = (d.map fun x => ((x.2 : Nat) : Int)).map V.int := by
  unfold sv
  rw [List.map_map, List.map_map]
  rfl
theorem sv_total : ∀ d : Sums, (d.map fun x => ((x.2 : Nat) : Int)).sum = ((total d : Nat) : Int)
  | [] => rfl
  | x :: d => by
    rw [List.map_cons, List.sum_cons, sv_total d]
    simp [total]
theorem nk_kV (l : List Nat) : (nk l).map kV = l.map fun n => V.int ((n : Nat) : Int) := by
  unfold nk
  rw [List.map_map]
  rfl
end K16
namespace K16
open PySem PySem.Spec PyProof.Rows L2
theorem for_itemsT {d : Addr} {o : Obj} {kvs : List (List L2.Key × V)} {g : TG} {tb : TS} {D : Ends} {σ : L2.St} {H : Hp} (Pv : Nat → L2.St → Hp → Prop) (h0 : Pv 0 σ H) (hl : ∀ i σ H, i ≤ kvs.length → Pv i σ H → H d = some (.frz o (.dT kvs)))
    (hs : ∀ i k v σ H, kvs[i]? = some (k, v) → Pv i σ H → ∀ t q, H t = none → H q = some (.tup (k.map kV)) → g (.ref t) σ (upd H t (.tup [.ref q, v])) fun σ2 H2 => tb { D with nx := Pv (i + 1), ct := Pv (i + 1), bk := D.nx } σ2 H2) (hd : ∀ σ H, Pv kvs.length σ H → D.nx σ H) :
    ∃ W : Nat → Nat → L2.St → Hp → Prop, (∃ m, W 0 m σ H) ∧ ∀ i m σ H, W i m σ H →
      ((ItiT d o kvs).stop i H ∧ D.nx σ H) ∨ ((ItiT d o kvs).go i H ∧ ∃ N : L2.St → Hp → Prop, (∀ σ' H', N σ' H' → ∃ m', m' < m ∧ W (i + 1) m' σ' H') ∧ ∀ x H', (ItiT d o kvs).yld i H x H' → g x σ H' fun σ2 H2 => tb { D with nx := N, ct := N, bk := D.nx } σ2 H2) := by
  refine ⟨fun i m σ H => m = kvs.length - i ∧ i ≤ kvs.length ∧ Pv i σ H, ⟨kvs.length, by simp, Nat.zero_le _, h0⟩, ?_⟩
  rintro i m σ H ⟨rfl, hi, p⟩
  have q := hl i σ H hi p
  by_cases hlt : i < kvs.length
  · refine .inr ⟨⟨q, hlt⟩, Pv (i + 1), fun σ' H' p' => ⟨kvs.length - (i + 1), by omega, rfl, hlt, p'⟩, fun x H' y => ?_⟩
    obtain ⟨t, k, v, b, e1, rfl, ht, hb, rfl⟩ := y
    exact hs i k v σ H e1 p t b ht hb
  · have e : i = kvs.length := by omega
    subst e
    exact .inl ⟨⟨q, Nat.le_refl _⟩, hd σ H p⟩
end K16

end K16F3Text
section K16R2Text
set_option autoImplicit false
set_option linter.all false
set_option maxRecDepth 100000
set_option Elab.async false
set_option pp.maxSteps 350
set_option pp.deepTerms false
set_option pp.deepTerms.threshold 4
namespace K16
open PySem PySem.Spec PyProof.Rows L2
def encs (a : So) (v : List (Va a)) : PyData := .tuple (v.map (enc a))
def Sms (n : Nat) (a : So) (v : List (Va a)) : Prop := v.length ≤ n ∧ ∀ x ∈ v, Sm n a x
def RRise (d : Nat) (ds : List De) (P : De → Prop) : Prop := ∃ (a : So) (v u : List (Va a)), ds = [.s a, .d (encs a v), .d (encs a u)] ∧ dep a < d ∧ Wf a ∧ Sms 8 a v ∧ Sms 8 a u ∧ P = fun r => someB r = emb (holds a) v u
def RUnlike (d : Nat) (ds : List De) (P : De → Prop) : Prop := ∃ (a : So) (v u : List (Va a)), ds = [.s a, .d (encs a v), .d (encs a u)] ∧ dep a < d ∧ Wf a ∧ Sms 8 a v ∧ Sms 8 a u ∧ P = fun r => someB r = inj (holds a) u v
abbrev sRawPlaces : Stmt := topS 20
abbrev nRawPlaces : List Str := ["sort", "v", "u"]
theorem scRawPlaces : FnScope nRawPlaces ["sort", "v", "u"] (defScope sRawPlaces) := ⟨rfl, rfl, rfl, by decide +kernel, rfl, by decide +kernel, by decide +kernel⟩
abbrev sRisingPlaces : Stmt := topS 16
abbrev nRisingPlaces : List Str := ["sort", "v", "u", "found", "place", "one"]
theorem scRisingPlaces : FnScope nRisingPlaces ["sort", "v", "u"] (defScope sRisingPlaces) := ⟨rfl, rfl, rfl, by decide +kernel, rfl, by decide +kernel, by decide +kernel⟩
def nv (ps : List Nat) : List V := ps.map fun n => V.int ((n : Nat) : Int)
theorem dps_nv {K : PySem.W.Frag} {H : Hp} : ∀ ps : List Nat, DpAll K H (nv ps) (ps.map fun n => .int ((n : Nat) : Int))
  | [] => .nil
  | _ :: ps => .cons (.int _) (dps_nv ps)
section
variable {P : Program} {w : World} {K : PySem.W.Frag} {mg : Str → Option Value} {base : Heap} {T : Tb} {aS : Addr}
theorem hasRawPlaces (d : Nat) (D : DefOk K mg "raw_places" sRawPlaces ["sort", "v", "u"]) (h_rising_places : Has P w K mg base (12 + 3 * d) "rising_places" ["sort", "v", "u"] (spOf T K (RRise d))) (h_unlike_places : Has P w K mg base (12 + 3 * d) "unlike_places" ["sort", "v", "u"] (spOf T K (RUnlike d))) :
    Has P w K mg base (13 + 3 * d) "raw_places" ["sort", "v", "u"] (spOf T K (RPlaces d)) := by
  refine D.pure (12 + 3 * d) scRawPlaces (fun ds Pd h => ?_) fun f cdv A outer s H E vs ds Pd hr hT hv hR => ?_
  · obtain ⟨s, x, y, rfl, _⟩ := h
    rfl
  obtain ⟨so, x, y, rfl, hd, hrow, hw, sx, sy, rfl⟩ := hR
  obtain ⟨v1, v2, v3, rfl, h1, h2, h3⟩ := dqa3 hv
  refine ⟨_, (pss_one (ps_ret (pe_ifExp (pt_cmpR op_eq (pe_ix ix_tup (pv 0) pe_int (fun _ _ => rfl)) pe_str (nomark _)) (pe_has h_rising_places hr (by omega) (pa_cons (pe_ix ix_tup (pv 0) pe_int (fun _ _ => rfl)) (pa_cons (pv 1) (pa_cons (pv 2) pa_nil)))) (pe_has h_unlike_places hr (by omega) (pa_cons (pe_ix ix_tup (pv 0) pe_int (fun _ _ => rfl)) (pa_cons (pv 1) (pa_cons (pv 2) pa_nil))))))), ?_⟩
  refine rd_ret (ed_if (eb_tag (m := 4) (ed_tag (ed_var rfl h1) ed_int) ed_str) (fun e => ?_) fun e => ?_)
  · cases so with
    | lane a =>
      have hd' : dep a < d := Nat.lt_of_succ_le hd
      exact ed_call (ea_cons (ed_sub (n := 1) (ed_var rfl h1) ed_int rfl) (ea_cons (ed_var rfl h2) (ea_cons (ed_var rfl h3) ea_nil))) ⟨a, x, y, rfl, hd', hw, sx, sy, rfl⟩
    | _ => cases e
  · cases so with
    | heap a =>
      have hd' : dep a < d := Nat.lt_of_succ_le hd
      exact ed_call (ea_cons (ed_sub (n := 1) (ed_var rfl h1) ed_int rfl) (ea_cons (ed_var rfl h2) (ea_cons (ed_var rfl h3) ea_nil))) ⟨a, x, y, rfl, hd', hw, sx, sy, rfl⟩
    | lane a => cases e
    | _ => cases hrow
theorem hasRisingPlaces (d : Nat) (D : DefOk K mg "rising_places" sRisingPlaces ["sort", "v", "u"]) (M : Bi mg) (h_raw_holds : Has P w K mg base (11 + 3 * d) "raw_holds" ["sort", "v", "u"] (spOf T K (RHolds d))) :
    Has P w K mg base (12 + 3 * d) "rising_places" ["sort", "v", "u"] (spOf T K (RRise d)) := by
  have nd := scRisingPlaces.nd
  refine D.pure (11 + 3 * d) scRisingPlaces (fun ds Pd h => ?_) fun f cdv A outer s H E vs ds Pd hr hT hv hR => ?_
  · obtain ⟨s, x, y, rfl, _⟩ := h
    rfl
  obtain ⟨a, v, u, rfl, hd, hw, sv, su, rfl⟩ := hR
  obtain ⟨v1, v2, v3, rfl, h1, h2, h3⟩ := dqa3 hv
  refine ⟨_, (pss_cons (ps_par rfl nd (i := 3) (j := 4) rfl rfl (by decide) rfl rfl (pa_cons (pe_lst pa_nil) (pa_cons pe_int pa_nil)) (by rfl))
    (pss_cons (ps_for PassesOwn.never rfl (pi_tup (pv 2)) (pg_name (i := 5) nd rfl (Or.inl rfl)) (pss_cons (ps_while PassesOwn.never (PW.pt (pw_and (pt_cmpR op_lt (pv 4) (pe_callB call_len_seq rfl (M.len) PySem.boot_len (pa_cons (pv 1) pa_nil)) (nomark _)) (pw_and1 (pt_not (pt_val (pe_has h_raw_holds hr (by omega) (pa_cons (pv 0) (pa_cons (pe_ix ix_tup (pv 1) (pv 4) (fun _ _ => rfl)) (pa_cons (pv 5) pa_nil))))))))) (pss_one (ps_aug (i := 4) nd rfl (Or.inl rfl) pe_int ip_add)))
    (pss_cons (ps_if (pt_cmpR op_eq (pv 4) (pe_callB call_len_seq rfl (M.len) PySem.boot_len (pa_cons (pv 1) pa_nil)) (nomark _)) (pss_one (ps_ret pe_non)) pss_nil)
    (pss_cons (ps_expr (pe_bm PySem.F.plainAttrs_list PySem.F.slot_list_append PySem.F.type_list_append mt_append (pv 3) (pa_cons (pv 4) pa_nil)))
    (pss_one (ps_aug (i := 4) nd rfl (Or.inl rfl) pe_int ip_add))))))
    (pss_one (ps_ret (pe_tupleOf rfl (M.tuple) (pv 3)))))), ?_⟩
  intro H0 g0 D q
  have h1 := dq_ext g0.ext h1
  have h2 := dq_ext g0.ext h2
  have h3 := dq_ext g0.ext h3
  refine s_seq (s_par (s_cons ((el_lst (K := K) (T := T) (H := H0) ea_nil rfl (by decide)).run g0.self fun F xs H1 nF g1 hF dF => ?_)))
  refine s_cons ⟨_, _, rfl, ?_⟩
  cases dF
  obtain ⟨ua, us, rfl, hu, du⟩ := dp_tup (show Dp K H0 v3 (.tuple (u.map (enc a))) from h3)
  have hdu := dps_len du
  rw [List.length_map] at hdu
  refine s_seq ⟨.ref ua, rfl, ua, rfl, ⟨us, st_ext g1.ext hu⟩, for_tup (xs := us) (fun i σ H' => ∃ (p : Nat) (ps : List Nat) (o : Option V), σ = [some v1, some v2, some (.ref ua), some (.ref F), some (.int (p : Int)), o] ∧ ps.length ≤ i ∧ H' F = some (.lst (nv ps)) ∧ Gr T H0 H' ∧ p ≤ v.length ∧ emb (holds a) v u = emb (holds a) (v.drop p) (u.drop i)) ?_ ?_ ?_ ?_⟩
  · exact ⟨0, [], none, rfl, Nat.le_refl _, hF, g1, Nat.zero_le _, rfl⟩
  · rintro i σ H' _ ⟨_, _, _, _, _, _, g, _⟩
    exact st_ext g.ext hu
  · rintro i y σ H' hy ⟨p, ps, o, rfl, hps, hF', g', hp, he⟩
    have hi : i < us.length := (List.getElem?_eq_some_iff.mp hy).1
    obtain ⟨d0, e1, e2⟩ := dps_at du hy
    rw [List.getElem?_map] at e1
    obtain ⟨y0, ey⟩ : ∃ y0, u[i]? = some y0 := ⟨_, List.getElem?_eq_getElem (by omega)⟩
    rw [ey] at e1
    cases e1
    have hdrop : u.drop i = y0 :: u.drop (i + 1) := by
      rw [List.drop_eq_getElem_cons (show i < u.length by omega)]
      rw [List.getElem?_eq_getElem (by omega)] at ey
      rw [Option.some.inj ey]
    have L : ∀ (p : Nat) (o : Option V) (H : Hp), Gr T H0 H → EvD K T (tCB (fun xs H Q => ∃ p n, xs = [V.ref p] ∧ ((SqL K H p n) ∨ SqT K H p n) ∧ Q (.int n.length) H) (tCons (tVar 1) tNil)) [some v1, some v2, some (.ref ua), some (V.ref F), some (V.int ((p : Nat) : Int)), o] H (.int (v.length : Nat)) := fun p o H g => by
      have z := ed_lenT (T := T) (ed_var (T := T) (σ := [some v1, some v2, some (.ref ua), some (V.ref F), some (V.int ((p : Nat) : Int)), o]) (i := 1) rfl (dq_ext g.ext h2))
      rw [List.length_map] at z
      exact z
    have su0 := su.2 y0 (List.mem_of_getElem? ey)
    have hy0 : Dq K H0 y (.d (enc a y0)) := .of e2 (enc_nl _ _)
    refine s_seq (s_while (T := T) (fun m σ H'' => ∃ p' : Nat, m = v.length - p' ∧ σ = [some v1, some v2, some (.ref ua), some (.ref F), some (.int (p' : Int)), some y] ∧ H'' F = some (.lst (nv ps)) ∧ Gr T H0 H'' ∧ p' ≤ v.length ∧ emb (holds a) v u = emb (holds a) (v.drop p') (u.drop i))
      (fun σ H'' => ∃ p' : Nat, σ = [some v1, some v2, some (.ref ua), some (.ref F), some (.int (p' : Int)), some y] ∧ H'' F = some (.lst (nv ps)) ∧ Gr T H0 H'' ∧ p' ≤ v.length ∧ emb (holds a) v u = emb (holds a) (v.drop p') (u.drop i) ∧ ∀ x0, v[p']? = some x0 → holds a x0 y0 = true) _ ⟨p, rfl, rfl, hF', g', hp, he⟩ (fun m σ H w => ?_) ?_ ?_)
    · obtain ⟨p', _, _, _, g, _⟩ := w
      exact g.tab
    · rintro m σ H3 ⟨p', rfl, rfl, hF3, g3, hp3, he3⟩
      have c1 : EvB T (tTest (tOp (rI0 fun i j => V.bl (decide (i < j))) (tVar 4) (tCB (fun xs H Q => ∃ p n, xs = [V.ref p] ∧ ((SqL K H p n) ∨ SqT K H p n) ∧ Q (.int n.length) H) (tCons (tVar 1) tNil)))) [some v1, some v2, some (.ref ua), some (.ref F), some (.int (p' : Int)), some y] H3 (decide ((p' : Int) < (v.length : Int))) := (eb_test (ed_I0 (d := .bool (decide ((p' : Int) < (v.length : Int)))) (ed_var rfl .int) (L p' _ H3 g3) fun _ => .bl))
      by_cases hlt : p' < v.length
      · obtain ⟨x0, ex⟩ : ∃ x0, v[p']? = some x0 := ⟨_, List.getElem?_eq_getElem hlt⟩
        have hx0 : (v.map (enc a))[p']? = some (enc a x0) := by rw [List.getElem?_map, ex]; rfl
        have hdv : v.drop p' = x0 :: v.drop (p' + 1) := by
          rw [List.drop_eq_getElem_cons hlt]
          rw [List.getElem?_eq_getElem hlt] at ex
          rw [Option.some.inj ex]
        have cond := eb_and c1 fun _ => eb_not (eb_val (ed_call (K := K) (T := T) (R := RHolds d) (ea_cons (ed_var (i := 0) rfl (dq_ext g3.ext h1)) (ea_cons (ed_ixT (ed_var (i := 1) rfl (dq_ext g3.ext h2)) (ed_var (i := 4) rfl .int) hx0 (enc_nl _ _)) (ea_cons (ed_var (i := 5) rfl (dq_ext g3.ext hy0)) ea_nil))) ⟨a, x0, y0, rfl, hd, hw, sv.2 x0 (List.mem_of_getElem? ex), su0, rfl⟩))
        rw [decide_eq_true (show (p' : Int) < (v.length : Int) by omega), Bool.true_and] at cond
        cases hh : holds a x0 y0 with
        | false =>
          rw [hh] at cond
          refine .inl ⟨cond, fun H4 g4 D' k => s_add (K := K) (T := T) rfl ed_int g4.self fun H5 g5 => k _ _ _ (show v.length - (p' + 1) < v.length - p' by omega) ⟨p' + 1, rfl, rfl, (g4.trans g5).stay hF3 True.intro, (g3.trans g4).trans g5, hlt, ?_⟩⟩
          rw [he3, hdv, hdrop, emb, if_neg (by rw [hh]; exact Bool.false_ne_true)]
        | true =>
          rw [hh] at cond
          exact .inr ⟨cond, fun H4 g4 => ⟨p', rfl, g4.stay hF3 True.intro, g3.trans g4, hp3, he3, fun x1 e => by rw [ex] at e; cases e; exact hh⟩⟩
      · have cond := eb_and (u := tNot (tB (tCall (spOf T K (RHolds d)) [] E0 (tCons (tVar 0) (tCons (tOp (rIxT K) (tVar 1) (tVar 4)) (tCons (tVar 5) tNil)))))) (c := true) c1 fun z => absurd (of_decide_eq_true z) (by omega)
        rw [decide_eq_false (show ¬ (p' : Int) < (v.length : Int) by omega), Bool.false_and] at cond
        refine .inr ⟨cond, fun H4 g4 => ?_⟩
        exact ⟨p', rfl, g4.stay hF3 True.intro, g3.trans g4, hp3, he3, fun x1 e => by have := (List.getElem?_eq_some_iff.mp e).1; omega⟩
    · rintro σ H3 ⟨p', rfl, hF3, g3, hp3, he3, hx3⟩
      refine s_seq (s_ifB (eb_test (ed_eqI (ed_var rfl .int) (L p' _ H3 g3))) g3.self fun H4 g4 => ?_)
      have g4' := g3.trans g4
      by_cases hlt : p' = v.length
      · rw [if_pos (by simp [hlt])]
        refine q _ .none _ g4' .non ?_
        show false = emb (holds a) v u
        rw [he3, hdrop, hlt, List.drop_of_length_le (Nat.le_refl _)]
        rfl
      · rw [if_neg (by simp; omega)]
        obtain ⟨x0, ex⟩ : ∃ x0, v[p']? = some x0 := ⟨_, List.getElem?_eq_getElem (by omega)⟩
        have hdv : v.drop p' = x0 :: v.drop (p' + 1) := by
          rw [List.drop_eq_getElem_cons (show p' < v.length by omega)]
          rw [List.getElem?_eq_getElem (by omega)] at ex
          rw [Option.some.inj ex]
        have hps8 : ps.length < 100000 := by have := su.1; omega
        refine s_seq (s_append (K := K) (T := T) rfl (g4.stay hF3 True.intro) nF g4' (by simpa [nv] using hps8) (ed_var (i := 4) rfl .int) g4'.self fun z H5 g5' g5 hz hF5 => ?_)
        obtain rfl := dq_int hz
        refine s_add (K := K) (T := T) rfl ed_int g5'.self fun H6 g6 => ?_
        refine ⟨p' + 1, ps ++ [p'], some y, rfl, by rw [List.length_append]; simpa using hps, ?_, g5'.trans g6, by omega, ?_⟩
        · refine g6.stay (o := .lst (nv (ps ++ [p']))) ?_ True.intro
          rw [upd_same]
          simp [nv]
        · rw [he3, hdv, hdrop, emb, if_pos (hx3 x0 ex)]
  · rintro σ H' ⟨p, ps, o, rfl, hps, hF', g', hp, he⟩
    refine s_ret ((ed_tupL (ed_var (K := K) (T := T) (i := 3) rfl (.lst hF' (dps_nv ps)))).run g'.self fun x H2 g2 hx => q _ _ _ (g'.trans g2) hx ?_)
    show true = emb (holds a) v u
    rw [he, hdu, List.drop_of_length_le (Nat.le_refl _), emb_nil]
end
end K16

end K16R2Text
section K16R3Text
set_option autoImplicit false
set_option linter.all false
set_option maxRecDepth 100000
set_option Elab.async false
set_option pp.maxSteps 350
set_option pp.deepTerms false
set_option pp.deepTerms.threshold 4
namespace K16
open PySem PySem.Spec PyProof.Rows L2
/-! ### the matching's dicts -/
def gK (g : Gv) : List (Key × V) := g.map fun x => (Sum.inl ((x.1 : Nat) : Int), V.int ((x.2 : Nat) : Int))
def sK (s : List Nat) : List (Key × V) := s.map fun p => (Sum.inl ((p : Nat) : Int), V.bl true)
theorem inl_eq (a b : Nat) : ((Sum.inl ((a : Nat) : Int) : Key) = Sum.inl ((b : Nat) : Int)) ↔ a = b := by
  constructor
  · intro h
    injection h with h
    omega
  · rintro rfl
    rfl
theorem valV_gK : ∀ (g : Gv) (p : Nat), valV (gK g) (Sum.inl ((p : Nat) : Int)) = (look g p).map fun e => V.int ((e : Nat) : Int)
  | [], p => rfl
  | x :: g, p => by
    show valV ((Sum.inl ((x.1 : Nat) : Int), V.int ((x.2 : Nat) : Int)) :: gK g) _ = _
    rw [look]
    by_cases c : x.1 = p
    · rw [if_pos c, valV_pos (by rw [c])]
      rfl
    · rw [if_neg c, valV_neg (fun z => c ((inl_eq _ _).mp z)), valV_gK g p]
theorem valV_sK : ∀ (s : List Nat) (p : Nat), (valV (sK s) (Sum.inl ((p : Nat) : Int))).isSome = decide (p ∈ s)
  | [], p => by simp [sK, valV]
  | x :: s, p => by
    show (valV ((Sum.inl ((x : Nat) : Int), V.bl true) :: sK s) _).isSome = _
    by_cases c : x = p
    · rw [valV_pos (by rw [c])]
      simp [c]
    · rw [valV_neg (fun z => c ((inl_eq _ _).mp z)), valV_sK s p]
      exact decide_eq_decide.mpr (by simp [Ne.symm c])
def gKeys (g : Gv) : List Nat := g.map Prod.fst
theorem put_gK : ∀ (g : Gv) (p e : Nat), (gKeys g).Nodup → putK (gK g) (Sum.inl ((p : Nat) : Int)) (V.int ((e : Nat) : Int)) = gK (putG g p e)
  | [], p, e, _ => rfl
  | x :: g, p, e, h => by
    have h' : (x.1 :: gKeys g).Nodup := h
    rw [List.nodup_cons] at h'
    have ih := put_gK g p e h'.2
    have hx : gK (x :: g) = (Sum.inl ((x.1 : Nat) : Int), V.int ((x.2 : Nat) : Int)) :: gK g := rfl
    rw [putG, hx]
    by_cases c : x.1 = p
    · rw [if_pos c]
      unfold putK
      rw [if_pos (by simp [c]), List.map_cons, if_pos (by rw [c])]
      have : (gK g).map (fun kv => if kv.1 = Sum.inl ((p : Nat) : Int) then (kv.1, V.int ((e : Nat) : Int)) else kv) = gK g := by
        conv => rhs; rw [← List.map_id (gK g)]
        refine List.map_congr_left fun kv hkv => ?_
        rw [if_neg]
        · rfl
        · intro z
          obtain ⟨y, hy, rfl⟩ := List.mem_map.mp hkv
          have : y.1 = p := (inl_eq _ _).mp z
          exact h'.1 (by rw [c, ← this]; exact List.mem_map.mpr ⟨y, hy, rfl⟩)
      rw [this, c]
      rfl
    · rw [if_neg c]
      have hx2 : gK (x :: putG g p e) = (Sum.inl ((x.1 : Nat) : Int), V.int ((x.2 : Nat) : Int)) :: gK (putG g p e) := rfl
      rw [hx2, ← ih]
      unfold putK
      rw [List.any_cons, decide_eq_false (fun z => c ((inl_eq _ _).mp z)), Bool.false_or]
      by_cases d : ((gK g).any fun kv => decide (kv.1 = Sum.inl ((p : Nat) : Int))) = true
      · rw [if_pos d, if_pos d, List.map_cons, if_neg (fun z => c ((inl_eq _ _).mp z))]
      · rw [if_neg d, if_neg d]
        rfl
theorem put_sK (s : List Nat) (p : Nat) (h : p ∉ s) : putK (sK s) (Sum.inl ((p : Nat) : Int)) (V.bl true) = sK (s ++ [p]) := by
  unfold putK
  rw [if_neg, sK, sK, List.map_append]
  · rfl
  · intro z
    rw [List.any_eq_true] at z
    obtain ⟨kv, hkv, e⟩ := z
    obtain ⟨y, hy, rfl⟩ := List.mem_map.mp hkv
    have : y = p := (inl_eq _ _).mp (of_decide_eq_true e)
    exact h (this ▸ hy)
/-- the given, as it goes: keys that differ, within the bounds -/
structure GvOk (n m : Nat) (g : Gv) : Prop where
  nd : (gKeys g).Nodup
  lt : ∀ x ∈ g, x.1 < n ∧ x.2 < m
structure SvOk (n : Nat) (s : List Nat) : Prop where
  nd : s.Nodup
  lt : ∀ p ∈ s, p < n
theorem SvOk.len {n : Nat} {s : List Nat} (h : SvOk n s) : s.length ≤ n := by
  have := nodup_sub_len s (List.range n) h.nd fun x hx => List.mem_range.mpr (h.lt x hx)
  simpa using this
theorem GvOk.len {n m : Nat} {g : Gv} (h : GvOk n m g) : g.length ≤ n := by
  have := nodup_sub_len (gKeys g) (List.range n) h.nd fun x hx => by
    obtain ⟨y, hy, rfl⟩ := List.mem_map.mp hx
    exact List.mem_range.mpr (h.lt y hy).1
  simpa [gKeys] using this
theorem SvOk.snoc {n p : Nat} {s : List Nat} (h : SvOk n s) (hp : p < n) (hs : p ∉ s) : SvOk n (s ++ [p]) :=
  ⟨List.nodup_append.mpr ⟨h.nd, by simp, fun a ha b hb => by rw [List.mem_singleton] at hb; rw [hb]; exact fun z => hs (z ▸ ha)⟩, fun q hq => by
    rcases List.mem_append.mp hq with z | z
    · exact h.lt q z
    · rw [List.mem_singleton.mp z]; exact hp⟩
theorem keys_put : ∀ (g : Gv) (p e q : Nat), q ∈ gKeys (putG g p e) → q ∈ gKeys g ∨ q = p
  | [], p, e, q, h => by
    have h : q ∈ [p] := h
    exact .inr (List.mem_singleton.mp h)
  | x :: g, p, e, q, h => by
    rw [putG] at h
    split at h
    · have h : q ∈ p :: gKeys g := h
      rcases List.mem_cons.mp h with z | z
      · exact .inr z
      · exact .inl (List.mem_cons_of_mem _ z)
    · have h : q ∈ x.1 :: gKeys (putG g p e) := h
      rcases List.mem_cons.mp h with z | z
      · exact .inl (by rw [z]; exact List.mem_cons_self ..)
      · rcases keys_put g p e q z with z | z
        · exact .inl (List.mem_cons_of_mem _ z)
        · exact .inr z
theorem GvOk.put {n m : Nat} : ∀ {g : Gv} {p e : Nat}, GvOk n m g → p < n → e < m → GvOk n m (putG g p e)
  | [], p, e, _, hp, he => ⟨by simp [putG, gKeys], fun x hx => by
      have : x = (p, e) := by simpa [putG] using hx
      rw [this]
      exact ⟨hp, he⟩⟩
  | x :: g, p, e, h, hp, he => by
    have nd : (x.1 :: gKeys g).Nodup := h.nd
    rw [List.nodup_cons] at nd
    have h' : GvOk n m g := ⟨nd.2, fun y hy => h.lt y (List.mem_cons_of_mem _ hy)⟩
    rw [putG]
    by_cases c : x.1 = p
    · rw [if_pos c]
      refine ⟨?_, fun y hy => ?_⟩
      · show (p :: gKeys g).Nodup
        rw [← c]
        exact h.nd
      · rcases List.mem_cons.mp hy with z | z
        · rw [z]; exact ⟨hp, he⟩
        · exact h'.lt y z
    · rw [if_neg c]
      have ih := GvOk.put h' hp he
      refine ⟨?_, fun y hy => ?_⟩
      · show (x.1 :: gKeys (putG g p e)).Nodup
        rw [List.nodup_cons]
        refine ⟨fun z => ?_, ih.nd⟩
        rcases keys_put g p e _ z with z | z
        · exact nd.1 z
        · exact c z
      · rcases List.mem_cons.mp hy with z | z
        · rw [z]; exact h.lt x (List.mem_cons_self ..)
        · exact ih.lt y z
theorem look_mem : ∀ {g : Gv} {p e : Nat}, look g p = some e → (p, e) ∈ g
  | [], p, e, h => by cases h
  | x :: g, p, e, h => by
    rw [look] at h
    split at h
    · rename_i c
      have : x = (p, e) := Prod.ext c (Option.some.inj h)
      rw [this]
      exact List.mem_cons_self ..
    · exact List.mem_cons_of_mem _ (look_mem h)
structure Fok (n m : Nat) (s0 : List Nat) (r : Fr3) : Prop where
  g : GvOk n m r.2.1
  s : SvOk n r.2.2
  sub : ∀ p ∈ s0, p ∈ r.2.2
theorem freedL_ok {n m : Nat} {rec_ : Gv → Nat → List Nat → Fr3} (ih : ∀ g e s, GvOk n m g → SvOk n s → e < m → Fok n m s (rec_ g e s)) {e : Nat} (he : e < m) :
    ∀ (ps : List Nat) (g : Gv) (s : List Nat), (∀ p ∈ ps, p < n) → GvOk n m g → SvOk n s → Fok n m s (freedL rec_ e ps g s)
  | [], g, s, _, hg, hs => ⟨hg, hs, fun _ h => h⟩
  | p :: ps, g, s, hp, hg, hs => by
    have hp' : ∀ q ∈ ps, q < n := fun q hq => hp q (List.mem_cons_of_mem _ hq)
    have hpn := hp p (List.mem_cons_self ..)
    rw [freedL]
    by_cases c : p ∈ s
    · rw [if_pos c]
      exact freedL_ok ih he ps g s hp' hg hs
    · rw [if_neg c]
      have hs1 := hs.snoc hpn c
      cases q : look g p with
      | none => exact ⟨hg.put hpn he, hs1, fun x hx => List.mem_append_left _ hx⟩
      | some e' =>
        have r := ih g e' (s ++ [p]) hg hs1 (hg.lt _ (look_mem q)).2
        show Fok n m s (if (rec_ g e' (s ++ [p])).1 = true then _ else _)
        split
        · exact ⟨r.g.put hpn he, r.s, fun x hx => r.sub x (List.mem_append_left _ hx)⟩
        · have z := freedL_ok ih he ps _ _ hp' r.g r.s
          exact ⟨z.g, z.s, fun x hx => z.sub x (r.sub x (List.mem_append_left _ hx))⟩
theorem freedF_ok {n m : Nat} {rows : List (List Nat)} (hn : ∀ e, ∀ p ∈ rowAt rows e, p < n) : ∀ (k : Nat) (g : Gv) (e : Nat) (s : List Nat), GvOk n m g → SvOk n s → e < m → Fok n m s (freedF rows k g e s)
  | 0, g, e, s, hg, hs, he => ⟨hg, hs, fun _ h => h⟩
  | k + 1, g, e, s, hg, hs, he => freedL_ok (fun g e s => freedF_ok hn k g e s) he _ _ _ (hn e) hg hs
end K16

end K16R3Text
section K16R4Text
set_option autoImplicit false
set_option linter.all false
set_option maxRecDepth 100000
set_option Elab.async false
set_option pp.maxSteps 350
set_option pp.deepTerms false
set_option pp.deepTerms.threshold 4
namespace K16
open PySem PySem.Spec PyProof.Rows L2
def rowsL (H : Hp) : List V → List (List Nat) → Prop := F2 fun v row => ∃ a, v = .ref a ∧ H a = some (.lst (nv row))
/-- all but two dicts stays -/
structure GrD (T : Tb) (G S : Addr) (H H' : Hp) : Prop where
  ext : ∀ b o, b ≠ G → b ≠ S → H b = some o → (∀ ps, o ≠ .tbl ps) → H' b = some o
  tab : LamX.Tabs T H'
section
variable {T : Tb} {G S p : Addr} {H H1 H2 : Hp} {o o0 : HO}
theorem tabs_upd (h : LamX.Tabs T H) (hp : H p = some o0) (h0 : Pl o0) : LamX.Tabs T (upd H p o) :=
  (Gr.mut (T := T) (H0 := fun _ => none) (H := H) (p := p) (o := o) ⟨fun _ _ e => (nomatch e), h⟩ (fun _ e => nomatch e) hp h0).tab
theorem GrD.refl (h : LamX.Tabs T H) : GrD T G S H H := ⟨fun _ _ _ _ e _ => e, h⟩
theorem GrD.trans (a : GrD T G S H H1) (b : GrD T G S H1 H2) : GrD T G S H H2 := ⟨fun c o h1 h2 e n => b.ext c o h1 h2 (a.ext c o h1 h2 e n) n, b.tab⟩
theorem GrD.of (a : Gr T H H1) : GrD T G S H H1 := ⟨fun c o _ _ e n => a.ext c o e n, a.tab⟩
theorem GrD.putG (a : GrD T G S H H1) (h : H1 G = some o0) (h0 : Pl o0) : GrD T G S H (upd H1 G o) :=
  ⟨fun c o h1 h2 e n => by rw [upd_ne h1]; exact a.ext c o h1 h2 e n, tabs_upd a.tab h h0⟩
theorem GrD.putS (a : GrD T G S H H1) (h : H1 S = some o0) (h0 : Pl o0) : GrD T G S H (upd H1 S o) :=
  ⟨fun c o h1 h2 e n => by rw [upd_ne h2]; exact a.ext c o h1 h2 e n, tabs_upd a.tab h h0⟩
end
def spFreed (T : Tb) (k : Nat) : Sp := fun vs H Q _ => LamX.Tabs T H ∧ ∃ (R G S : Addr) (xs : List V) (rows : List (List Nat)) (gv : Gv) (e : Nat) (s : List Nat) (n : Nat),
  vs = [.ref R, .ref G, .int ((e : Nat) : Int), .ref S] ∧ H R = some (.lst xs) ∧ rowsL H xs rows ∧ H G = some (.dK (gK gv)) ∧ H S = some (.dK (sK s)) ∧ G ≠ S ∧ n ≤ 100 ∧ (∀ e, ∀ p ∈ rowAt rows e, p < n) ∧ GvOk n rows.length gv ∧ SvOk n s ∧ e < rows.length ∧ unseen n s < k ∧
  ∀ H', GrD T G S H H' → H' G = some (.dK (gK (freedF rows k gv e s).2.1)) → H' S = some (.dK (sK (freedF rows k gv e s).2.2)) → Q (.bl (freedF rows k gv e s).1) H'
abbrev sFreed : Stmt := topS 17
abbrev nFreed : List Str := ["rows", "given", "element", "seen", "place"]
theorem scFreed : FnScope nFreed ["rows", "given", "element", "seen"] (defScope sFreed) := ⟨rfl, rfl, rfl, by decide +kernel, rfl, by decide +kernel, by decide +kernel⟩
theorem f2_at {A B : Type} {R : A → B → Prop} : ∀ {x : List A} {y : List B}, F2 R x y → ∀ {i : Nat} {a : A}, x[i]? = some a → ∃ b, y[i]? = some b ∧ R a b
  | _, _, .nil, i, a, h => by simp at h
  | _, _, .cons (b := b) r t, 0, a, h => by
    simp at h
    subst h
    exact ⟨b, rfl, r⟩
  | _, _, .cons r t, i + 1, a, h => by
    obtain ⟨b, h1, h2⟩ := f2_at t (i := i) (by simpa using h)
    exact ⟨b, by simpa using h1, h2⟩
theorem rowsL_d {T : Tb} {G S : Addr} {H H1 : Hp} {gG gS : List (Key × V)} {xs : List V} {rows : List (List Nat)} (h : rowsL H xs rows) (hG : H G = some (.dK gG)) (hS : H S = some (.dK gS)) (g : GrD T G S H H1) : rowsL H1 xs rows :=
  F2.imp (fun v row ⟨a, e, q⟩ => ⟨a, e, g.ext a _ (ne_of q hG fun z => nomatch z) (ne_of q hS fun z => nomatch z) q fun _ z => nomatch z⟩) h
section
variable {P : Program} {w : World} {K : PySem.W.Frag} {mg : Str → Option Value} {base : Heap} {T : Tb} {aS : Addr}
theorem nFreed0 (D : DefOk K mg "freed" sFreed ["rows", "given", "element", "seen"]) : Has P w K mg base 0 "freed" ["rows", "given", "element", "seen"] (spFreed T 0) := D.none fun vs H Q E h => by
  obtain ⟨_, R, G, S, xs, rows, gv, e, s, n, _, _, _, _, _, _, _, _, _, _, _, h, _⟩ := h
  exact absurd h (Nat.not_lt_zero _)
theorem hasFreed (k : Nat) (D : DefOk K mg "freed" sFreed ["rows", "given", "element", "seen"]) (h_freed : Has P w K mg base k "freed" ["rows", "given", "element", "seen"] (spFreed T k)) :
    Has P w K mg base (k + 1) "freed" ["rows", "given", "element", "seen"] (spFreed T (k + 1)) := by
  have nd := scFreed.nd
  refine D.has scFreed (fun vs H Q E h => ?_) fun f cdv A outer s H E vs Q hr hsp => ?_
  · obtain ⟨_, R, G, S, xs, rows, gv, e, s, n, rfl, _⟩ := h
    rfl
  obtain ⟨hT, R, G, S, xs, rows, gv, e, sn, n, rfl, hR, hrows, hG, hS, nGS, hn, hlt, okg, oks, he, hun, q⟩ := hsp
  have hu : (cxOf CX0 P w K mg base nFreed "freed" (defScope sFreed) f cdv A outer s H E).nox.A.units + 1 < cLine := by
    have := hr.un
    show (A.deeper _).units + 1 < cLine
    omega
  refine ⟨_, (pss_cons (ps_for PassesOwn.never rfl (pi_list (pe_ix ix_list (pv 0) (pv 2) (fun _ _ => rfl))) (pg_name (i := 4) nd rfl (Or.inl rfl)) (pss_one (ps_if (pt_cmp (pc_dnotin hu (pv 4) (pv 3))) (pss_cons (ps_dput hu (pv 3) (pv 4) pe_bl rfl)
    (pss_one (ps_if (PW.pt (pw_or (pt_cmp (pc_dnotin hu (pv 4) (pv 1))) (pw_or1 (pt_val (pe_has h_freed hr (by omega) (pa_cons (pv 0) (pa_cons (pv 1) (pa_cons (pe_dget hu (pv 1) (pv 4) (fun _ _ => rfl)) (pa_cons (pv 3) pa_nil))))))))) (pss_cons (ps_dput hu (pv 1) (pv 4) (pv 2) rfl)
    (pss_one (ps_ret pe_bl))) pss_nil))) pss_nil)))
    (pss_one (ps_ret pe_bl))), ?_⟩
  obtain ⟨x0, ex, hx0⟩ := F2.at (R := fun v row => ∃ a, v = V.ref a ∧ H a = some (.lst (nv row))) hrows (i := e) (List.getElem?_eq_getElem he)
  obtain ⟨ra, rfl, hra⟩ := hx0
  have hrow : rowAt rows e = rows[e] := by unfold rowAt; rw [List.getElem?_eq_getElem he]; rfl
  refine s_seq ⟨_, rfl, _, rfl, R, xs, ((e : Nat) : Int), .ref ra, rfl, rfl, .of hR, at_nat ex, ra, rfl, ⟨_, .of hra⟩, for_list (xs := nv (rowAt rows e)) (fun i σ H' => ∃ (gv' : Gv) (s' : List Nat) (o : Option V), σ = [some (.ref R), some (.ref G), some (.int ((e : Nat) : Int)), some (.ref S), o] ∧ GrD T G S H H' ∧ H' G = some (.dK (gK gv')) ∧ H' S = some (.dK (sK s')) ∧
    GvOk n rows.length gv' ∧ SvOk n s' ∧ (∀ p ∈ sn, p ∈ s') ∧ freedF rows (k + 1) gv e sn = freedL (freedF rows k) e ((rowAt rows e).drop i) gv' s') ?_ ?_ ?_ ?_⟩
  · exact ⟨gv, sn, none, rfl, .refl hT, hG, hS, okg, oks, fun _ h => h, rfl⟩
  · rintro i σ H' _ ⟨_, _, _, _, g, _⟩
    refine .of (g.ext ra _ (ne_of hra hG fun z => nomatch z) (ne_of hra hS fun z => nomatch z) ?_ fun _ z => nomatch z)
    rw [hrow]
    exact hra
  · rintro i y σ H' hy ⟨gv', s', o, rfl, g, hG', hS', okg', oks', hsub, hF⟩
    have hi : i < (rowAt rows e).length := by
      have := (List.getElem?_eq_some_iff.mp hy).1
      simpa [nv] using this
    obtain ⟨p, hp⟩ : ∃ p, (rowAt rows e)[i]? = some p := ⟨_, List.getElem?_eq_getElem hi⟩
    have hyp : y = .int ((p : Nat) : Int) := by
      unfold nv at hy
      rw [List.getElem?_map, hp] at hy
      exact (Option.some.inj hy).symm
    subst hyp
    have hpn : p < n := hlt e p (List.mem_of_getElem? hp)
    have hdrop : (rowAt rows e).drop i = p :: (rowAt rows e).drop (i + 1) := by
      rw [List.drop_eq_getElem_cons hi]
      rw [List.getElem?_eq_getElem hi] at hp
      rw [Option.some.inj hp]
    rw [hdrop, freedL] at hF
    refine ⟨_, rfl, _, rfl, S, _, rfl, DGet.k (k := Sum.inl ((p : Nat) : Int)) hS', !decide (p ∈ s'), by rw [valV_sK], ?_⟩
    by_cases c : p ∈ s'
    · show ite _ _ _
      rw [if_neg (by simp [c])]
      rw [if_pos c] at hF
      exact ⟨gv', s', _, rfl, g, hG', hS', okg', oks', hsub, hF⟩
    · show ite _ _ _
      rw [if_pos (by simp [c])]
      rw [if_neg c] at hF
      have oks1 := oks'.snoc hpn c
      have hl1 : (sK s').length < sizeLine := by
        have := oks'.len
        have : (sK s').length ≤ 100 := by simp [sK]; omega
        exact Nat.lt_of_le_of_lt this (by decide)
      refine s_seq ⟨_, rfl, _, rfl, S, _, rfl, DPut.k (k := Sum.inl ((p : Nat) : Int)) hS' hl1, ?_⟩
      rw [put_sK s' p c]
      have g1 := g.putS (o := .dK (sK (s' ++ [p]))) hS' True.intro
      have hG1 : upd H' S (.dK (sK (s' ++ [p]))) G = some (.dK (gK gv')) := by rw [upd_ne nGS]; exact hG'
      have hS1 : upd H' S (.dK (sK (s' ++ [p]))) S = some (.dK (sK (s' ++ [p]))) := upd_same
      -- the given gets the place, and True is handed back
      have fin : ∀ (H5 : Hp) (g5 : Gv) (s5 : List Nat), GrD T G S H H5 → H5 G = some (.dK (gK g5)) → H5 S = some (.dK (sK s5)) → GvOk n rows.length g5 → freedF rows (k + 1) gv e sn = (true, putG g5 p e, s5) →
          Q (.bl true) (upd H5 G (.dK (putK (gK g5) (Sum.inl ((p : Nat) : Int)) (V.int ((e : Nat) : Int))))) := fun H5 g5 s5 gr hG5 hS5 ok5 hE => by
        rw [hE] at q
        refine q _ (gr.putG hG5 True.intro) ?_ ?_
        · rw [upd_same, put_gK _ _ _ ok5.nd]
        · rw [upd_ne (Ne.symm nGS)]
          exact hS5
      have glen : ∀ g5 : Gv, GvOk n rows.length g5 → (gK g5).length < sizeLine := fun g5 h => by
        have := h.len
        have : (gK g5).length ≤ 100 := by simp [gK]; omega
        exact Nat.lt_of_le_of_lt this (by decide)
      refine ⟨_, rfl, _, rfl, G, _, rfl, DGet.k (k := Sum.inl ((p : Nat) : Int)) hG1, _, rfl, ?_⟩
      rw [valV_gK]
      cases hl : look gv' p with
      | none =>
        rw [hl] at hF
        show ite _ _ _
        rw [if_pos (by rfl)]
        show ite _ _ _
        rw [if_pos (by rfl)]
        exact s_seq ⟨_, rfl, _, rfl, _, rfl, G, _, rfl, DPut.k (k := Sum.inl ((p : Nat) : Int)) hG1 (glen _ okg'), fin _ _ _ g1 hG1 hS1 okg' hF⟩
      | some e' =>
        rw [hl] at hF
        have hF : freedF rows (k + 1) gv e sn = if (freedF rows k gv' e' (s' ++ [p])).1 = true then (true, putG (freedF rows k gv' e' (s' ++ [p])).2.1 p e, (freedF rows k gv' e' (s' ++ [p])).2.2) else freedL (freedF rows k) e ((rowAt rows e).drop (i + 1)) (freedF rows k gv' e' (s' ++ [p])).2.1 (freedF rows k gv' e' (s' ++ [p])).2.2 := hF
        have he' : e' < rows.length := (okg'.lt _ (look_mem hl)).2
        have r := freedF_ok hlt k gv' e' (s' ++ [p]) okg' oks1 he'
        have hun' : unseen n (s' ++ [p]) < k := by
          have h1 := unseen_less hpn c
          have h2 := unseen_mono (n := n) hsub
          omega
        show ite _ _ _
        rw [if_neg (by simp)]
        refine ⟨_, rfl, _, rfl, _, rfl, _, rfl, G, V.int ((e' : Nat) : Int), rfl, ?_, _, rfl, ?_⟩
        · have := DGet.k (k := Sum.inl ((p : Nat) : Int)) hG1
          rw [valV_gK, hl] at this
          exact this
        refine ⟨g1.tab, R, G, S, xs, rows, gv', e', s' ++ [p], n, rfl, ?_, rowsL_d hrows hG hS g1, hG1, hS1, nGS, hn, hlt, okg', oks1, he', hun', fun H5 gr5 hG5 hS5 => ?_⟩
        · exact g1.ext R _ (ne_of hR hG fun z => nomatch z) (ne_of hR hS fun z => nomatch z) hR fun _ z => nomatch z
        refine ⟨_, rfl, ?_⟩
        by_cases d : (freedF rows k gv' e' (s' ++ [p])).1 = true
        · rw [if_pos d] at hF ⊢
          exact s_seq ⟨_, rfl, _, rfl, _, rfl, G, _, rfl, DPut.k (k := Sum.inl ((p : Nat) : Int)) hG5 (glen _ r.g), fin _ _ _ (g1.trans gr5) hG5 hS5 r.g hF⟩
        · rw [if_neg d] at hF ⊢
          exact ⟨_, _, _, rfl, g1.trans gr5, hG5, hS5, r.g, r.s, fun x hx => r.sub x (List.mem_append_left _ (hsub x hx)), hF⟩
  · rintro σ H' ⟨gv', s', o, rfl, g, hG', hS', okg', oks', hsub, hF⟩
    have e0 : (rowAt rows e).drop (nv (rowAt rows e)).length = [] := by simp [nv]
    rw [e0] at hF
    have hF : freedF rows (k + 1) gv e sn = (false, gv', s') := hF
    rw [hF] at q
    exact q H' g hG' hS'
end
end K16

end K16R4Text
section K16R5Text
set_option autoImplicit false
set_option linter.all false
set_option maxRecDepth 100000
set_option Elab.async false
set_option pp.maxSteps 350
set_option pp.deepTerms false
set_option pp.deepTerms.threshold 4
namespace K16
open PySem PySem.Spec PyProof.Rows L2
def spCan (T : Tb) : Sp := fun vs H Q _ => LamX.Tabs T H ∧ ∃ (R : Addr) (xs : List V) (rows : List (List Nat)) (n : Nat),
  vs = [.ref R] ∧ H R = some (.lst xs) ∧ rowsL H xs rows ∧ n ≤ 9 ∧ rows.length ≤ 1000 ∧ (∀ e, ∀ p ∈ rowAt rows e, p < n) ∧ ∀ H', Gr T H H' → Q (.bl (canF rows (n + 1))) H'
abbrev sCanBePlaced : Stmt := topS 18
abbrev nCanBePlaced : List Str := ["rows", "given", "element"]
theorem scCanBePlaced : FnScope nCanBePlaced ["rows"] (defScope sCanBePlaced) := ⟨rfl, rfl, rfl, by decide +kernel, rfl, by decide +kernel, by decide +kernel⟩
theorem t_yes {σ : L2.St} {H : Hp} {Q : Bool → Hp → Prop} (h : Q true H) : tYes σ H Q := h
section
variable {P : Program} {w : World} {K : PySem.W.Frag} {mg : Str → Option Value} {base : Heap} {T : Tb} {aS : Addr}
theorem hasCanBePlaced (D : DefOk K mg "can_be_placed" sCanBePlaced ["rows"]) (M : Bi mg) (h_freed : ∀ k, k ≤ 10 → Has P w K mg base k "freed" ["rows", "given", "element", "seen"] (spFreed T k)) :
    Has P w K mg base 11 "can_be_placed" ["rows"] (spCan T) := by
  have nd := scCanBePlaced.nd
  refine D.has scCanBePlaced (fun vs H Q E h => ?_) fun f cdv A outer s H E vs Q hr hsp => ?_
  · obtain ⟨_, R, xs, rows, n, rfl, _⟩ := h
    rfl
  obtain ⟨hT, R, xs, rows, n, rfl, hR, hrows, hn, hm, hlt, q⟩ := hsp
  have h_freed := h_freed (n + 1) (by omega)
  refine ⟨_, (pss_cons (ps_set (i := 1) nd rfl (Or.inr rfl) pe_dnewK)
    (pss_one (ps_ret (pe_callB (cr_all rfl) rfl (M.all) (by decide +kernel) (pa_cons (pe_lc (own := [("element", 2)]) rfl nd (pi_range1 rfl (M.range) (pa_cons (pe_callB call_len_seq rfl (M.len) PySem.boot_len (pa_cons (pv 0) pa_nil)) pa_nil)) (blkOk_by (N := nCanBePlaced) (sc := (defScope sCanBePlaced)) (by decide +kernel)) (fun _ _ _ _ _ => (pg_name (i := 2) nd rfl (Or.inl rfl))) (fun _ _ _ _ _ => pts_nil) (fun _ _ _ _ _ => (pe_has h_freed hr (by omega) (pa_cons (pv 0) (pa_cons (pv 1) (pa_cons (pv 2) (pa_cons pe_dnewK pa_nil))))))) pa_nil))))), ?_⟩
  refine s_seq (s_asg fun G hG => ?_)
  have g1 : Gr T H (upd H G (.dK [])) := .new hT hG
  dsimp only
  refine s_ret ?_
  refine ⟨_, rfl, R, xs, rfl, .inl (.of (g1.stay hR True.intro)), (xs.length : Int), rfl, ?_, ?_, fun Dl hD => ?_⟩
  · omega
  · have := F2.length hrows
    omega
  have hlen := F2.length hrows
  rw [Int.toNat_natCast]
  have nD : Nw H Dl := g1.nn (nw_none hD)
  have hGD : G ≠ Dl := ne_of_none (upd_same (a := G) (H := H) (o := .dK [])) hD
  refine lc_range (lo := 0) (n := xs.length) (fun i H' => Gr T H H' ∧ H' G = some (.dK (gK (canAll rows (n + 1) i).2)) ∧ GvOk n rows.length (canAll rows (n + 1) i).2 ∧ H' Dl = some (.lst ((canAll rows (n + 1) i).1.map V.bl)) ∧ (canAll rows (n + 1) i).1.length = i) ?_ ?_ ?_
  · exact ⟨g1.add hD, by rw [upd_ne hGD]; exact upd_same, ⟨by simp [canAll, gKeys], fun x hx => by simp [canAll] at hx⟩, upd_same, rfl⟩
  · rintro i H' hi ⟨g', hG', okg, hD', hl⟩
    refine ⟨rfl, ?_⟩
    refine t_yes ?_
    show ite _ _ _
    rw [if_pos (by rfl)]
    refine ⟨_, rfl, _, rfl, _, rfl, fun S hS => ?_⟩
    have e0 : (0 : Int) + (i : Int) = (i : Int) := Int.zero_add _
    have nS : Nw H S := g'.nn (nw_none hS)
    have gS : Gr T H (upd H' S (.dK [])) := g'.add hS
    have hGS : G ≠ S := ne_of_none hG' hS
    have hDS : Dl ≠ S := ne_of_none hD' hS
    have rr : rowsL (upd H' S (.dK [])) xs rows := F2.imp (fun v row ⟨a, e, q⟩ => ⟨a, e, gS.stay q True.intro⟩) hrows
    refine ⟨gS.tab, R, G, S, xs, rows, (canAll rows (n + 1) i).2, i, [], n, ?_, gS.stay hR True.intro, rr, by rw [upd_ne hGS]; exact hG', upd_same, hGS, by omega, hlt, okg, ⟨by simp, fun p hp => by simp at hp⟩, by omega, by have := unseen_le n []; omega, fun H5 gr hG5 hS5 => ?_⟩
    · simp only [e0]
      rfl
    have hD5 : H5 Dl = some (.lst ((canAll rows (n + 1) i).1.map V.bl)) := gr.ext Dl _ (Ne.symm hGD) hDS (by rw [upd_ne hDS]; exact hD') fun _ z => nomatch z
    refine ⟨_, hD5, ?_, ?_⟩
    · rw [List.length_map, hl]
      exact Nat.lt_of_lt_of_le (show i < 100000 by omega) (by decide)
    have ok := freedF_ok hlt (n + 1) (canAll rows (n + 1) i).2 i [] okg ⟨by simp, fun p hp => by simp at hp⟩ (by omega : i < rows.length)
    have gH5 : Gr T H H5 := ⟨fun b o e n => gr.ext b o (fun z => ?_) (nS.ne e n) (gS.ext b o e n) n, gr.tab⟩
    · rw [canAll_succ]
      refine ⟨gH5.mut nD hD5 True.intro, ?_, ok.g, ?_, ?_⟩
      · rw [upd_ne hGD]
        exact hG5
      · rw [upd_same]
        simp [canStep]
      · simp [canStep, hl]
    · rw [z, hG] at e
      cases e
  · rintro H' ⟨g', hG', okg, hD', hl⟩
    refine ⟨Dl, (canAll rows (n + 1) xs.length).1, rfl, .of hD', ?_⟩
    have e := q H' g'
    unfold canF at e
    rw [← hlen] at e
    exact e
end
end K16

end K16R5Text
section K16R6Text
set_option autoImplicit false
set_option linter.all false
set_option maxRecDepth 100000
set_option Elab.async false
set_option pp.maxSteps 350
set_option pp.deepTerms false
set_option pp.deepTerms.threshold 4
namespace K16
open PySem PySem.Spec PyProof.Rows L2
abbrev sUnlikePlaces : Stmt := topS 19
abbrev nUnlikePlaces : List Str := ["sort", "v", "u", "rows", "found", "element", "place", "rest", "one", "other", "row"]
theorem scUnlikePlaces : FnScope nUnlikePlaces ["sort", "v", "u"] (defScope sUnlikePlaces) := ⟨rfl, rfl, rfl, by decide +kernel, rfl, by decide +kernel, by decide +kernel⟩
def rowP {A : Type} (R : A → A → Bool) (v : List A) (y : A) (k : Nat) : Bool := (v[k]?).any fun x => R x y
def rowsF (F : Addr) (H : Hp) : List V → List (List Nat) → Prop := F2 fun v row => ∃ a, v = .ref a ∧ a ≠ F ∧ H a = some (.lst (nv row))
section
variable {K : PySem.W.Frag} {T : Tb} {H H1 : Hp} {F : Addr}
theorem rowsF.ext (g : Gr T H H1) {xs : List V} {rows : List (List Nat)} (h : rowsF F H xs rows) : rowsF F H1 xs rows := F2.imp (fun v row ⟨a, e, n, q⟩ => ⟨a, e, n, g.stay q True.intro⟩) h
theorem rowsF.upd {o : HO} {xs : List V} {rows : List (List Nat)} (h : rowsF F H xs rows) : rowsF F (upd H F o) xs rows := F2.imp (fun v row ⟨a, e, n, q⟩ => ⟨a, e, n, by rw [upd_ne n]; exact q⟩) h
theorem rowsF.L {xs : List V} {rows : List (List Nat)} (h : rowsF F H xs rows) : rowsL H xs rows := F2.imp (fun v row ⟨a, e, n, q⟩ => ⟨a, e, q⟩) h
theorem rowsL.dps : ∀ {xs : List V} {rows : List (List Nat)}, rowsL H xs rows → DpAll K H xs (rows.map rw_)
  | _, _, .nil => .nil
  | _, _, .cons ⟨a, e, q⟩ t => .cons (e ▸ .lst (.of q) (dps_nv _)) (rowsL.dps t)
theorem f2_drop {A B : Type} {R : A → B → Prop} : ∀ {x : List A} {y : List B} (n : Nat), F2 R x y → F2 R (x.drop n) (y.drop n)
  | _, _, 0, h => h
  | _, _, _ + 1, .nil => .nil
  | _, _, n + 1, .cons _ t => f2_drop n t
theorem f2_take {A B : Type} {R : A → B → Prop} : ∀ {x : List A} {y : List B} (n : Nat), F2 R x y → F2 R (x.take n) (y.take n)
  | _, _, 0, _ => .nil
  | _, _, _ + 1, .nil => .nil
  | _, _, n + 1, .cons h t => .cons h (f2_take n t)
theorem rowOf_eq {A : Type} (R : A → A → Bool) (v : List A) (y : A) : rowOf R v y = (List.range v.length).filter (rowP R v y) := by
  unfold rowOf
  congr 1
theorem rowAt_take_app {rows rest : List (List Nat)} {n : Nat} {k : Nat} {p : Nat} (h : p ∈ rowAt (rows.take k ++ rest) n) : (∃ e, p ∈ rowAt rows e) ∨ ∃ e, p ∈ rowAt rest e := by
  unfold rowAt at h
  rw [List.getElem?_append] at h
  split at h
  · rw [List.getElem?_take] at h
    split at h
    · exact .inl ⟨n, h⟩
    · simp at h
  · exact .inr ⟨_, h⟩
theorem mem_rowAt {rows : List (List Nat)} {e p : Nat} (h : p ∈ rowAt rows e) : ∃ row ∈ rows, p ∈ row := by
  unfold rowAt at h
  cases q : rows[e]? with
  | none => rw [q] at h; simp at h
  | some row =>
    rw [q] at h
    exact ⟨row, List.mem_of_getElem? q, h⟩
theorem rowAt_mem {rows : List (List Nat)} {row : List Nat} {p : Nat} (h : row ∈ rows) (hp : p ∈ row) : ∃ e, p ∈ rowAt rows e := by
  obtain ⟨e, he⟩ := List.mem_iff_getElem?.mp h
  exact ⟨e, by unfold rowAt; rw [he]; exact hp⟩
end
section
variable {P : Program} {w : World} {K : PySem.W.Frag} {mg : Str → Option Value} {base : Heap} {T : Tb} {aS : Addr}
theorem hasUnlikePlaces (d : Nat) (D : DefOk K mg "unlike_places" sUnlikePlaces ["sort", "v", "u"]) (M : Bi mg) (h_raw_holds : Has P w K mg base (11 + 3 * d) "raw_holds" ["sort", "v", "u"] (spOf T K (RHolds d)))
    (h_can_be_placed : Has P w K mg base 11 "can_be_placed" ["rows"] (spCan T)) :
    Has P w K mg base (12 + 3 * d) "unlike_places" ["sort", "v", "u"] (spOf T K (RUnlike d)) := by
  have nd := scUnlikePlaces.nd
  refine D.pure (11 + 3 * d) scUnlikePlaces (fun ds Pd h => ?_) fun f cdv A outer s H E vs ds Pd hr hT hv hR => ?_
  · obtain ⟨s, x, y, rfl, _⟩ := h
    rfl
  obtain ⟨a, v, u, rfl, hd, hw, sv, su, rfl⟩ := hR
  obtain ⟨v1, v2, v3, rfl, h1, h2, h3⟩ := dqa3 hv
  refine ⟨_, (pss_cons (ps_setLc (i := 3) (own := [("one", 8)]) rfl nd rfl rfl (sw_true rfl rfl rfl (by decide +kernel)) (pi_tup (pv 2)) (blkOk_by (N := nUnlikePlaces) (sc := (defScope sUnlikePlaces)) (by decide +kernel)) (fun _ _ _ _ _ => (pg_name (i := 8) nd rfl (Or.inr rfl))) (fun _ _ _ _ _ => pts_nil) (fun _ _ _ _ _ => (pe_lc (own := [("place", 6), ("other", 9)]) rfl nd (pi_enumTK K rfl rfl (M.enumerate) (pa_cons (pv 1) pa_nil)) (blkOk_by (N := nUnlikePlaces) (sc := (relS _ (defScope sUnlikePlaces))) (by decide +kernel)) (fun _ _ _ _ _ => (pg_tupK (n := 2) K rfl rfl (pgs_cons (pg_name (i := 6) nd rfl (Or.inl rfl)) (pgs_cons (pg_name (i := 9) nd rfl (Or.inl rfl)) pgs_nil)))) (fun _ _ _ _ _ => (pts_one (pt_val (pe_has h_raw_holds hr (by omega) (pa_cons (pv 0) (pa_cons (pv 9) (pa_cons (pv 8) pa_nil))))))) (fun _ _ _ _ _ => (pv 6)))))
    (pss_cons (ps_if (pt_not (pt_val (pe_has h_can_be_placed hr (by omega) (pa_cons (pv 3) pa_nil)))) (pss_one (ps_ret pe_non)) pss_nil)
    (pss_cons (ps_set (i := 4) nd rfl (Or.inl rfl) (pe_lst pa_nil))
    (pss_cons (ps_for PassesOwn.never rfl (pi_range1 rfl (M.range) (pa_cons (pe_callB call_len_seq rfl (M.len) PySem.boot_len (pa_cons (pv 3) pa_nil)) pa_nil)) (pg_name (i := 5) nd rfl (Or.inl rfl)) (pss_one (ps_for PassesOwn.never rfl (pi_list (pe_ix ix_list (pv 3) (pv 5) (fun _ _ => rfl))) (pg_name (i := 6) nd rfl (Or.inr rfl)) (pss_cons (ps_setLc (i := 7) (own := [("row", 10)]) rfl nd rfl rfl (sw_true rfl rfl rfl (by decide +kernel)) (pi_list (pe_slice sl_list (pv 3) (po_some (pe_op op_add (pv 5) pe_int)) po_none)) (blkOk_by (N := nUnlikePlaces) (sc := (defScope sUnlikePlaces)) (by decide +kernel)) (fun _ _ _ _ _ => (pg_name (i := 10) nd rfl (Or.inl rfl))) (fun _ _ _ _ _ => pts_nil) (fun _ _ _ _ _ => (pe_lc (own := [("one", 8)]) rfl nd (pi_listK K rfl (pv 10)) (blkOk_by (N := nUnlikePlaces) (sc := (relS _ (defScope sUnlikePlaces))) (by decide +kernel)) (fun _ _ _ _ _ => (pg_name (i := 8) nd rfl (Or.inl rfl))) (fun _ _ _ _ _ => (pts_one (pt_cmpR op_ne (pv 8) (pv 6) (nomark _)))) (fun _ _ _ _ _ => (pv 8)))))
    (pss_one (ps_if (pt_val (pe_has h_can_be_placed hr (by omega) (pa_cons (pv 7) pa_nil))) (pss_cons (ps_expr (pe_bm PySem.F.plainAttrs_list PySem.F.slot_list_append PySem.F.type_list_append mt_append (pv 4) (pa_cons (pv 6) pa_nil)))
    (pss_cons (ps_set (i := 3) nd rfl (Or.inl rfl) (pe_op op_cat (pe_slice sl_list (pv 3) po_none (po_some (pe_op op_add (pv 5) pe_int))) (pv 7)))
    (pss_one ps_break))) pss_nil))))))
    (pss_one (ps_ret (pe_tupleOf rfl (M.tuple) (pv 4)))))))), ?_⟩
  intro H0 g0 D q
  have h1 := dq_ext g0.ext h1
  have h2 := dq_ext g0.ext h2
  have h3 := dq_ext g0.ext h3
  have q' : ∀ v_1 d H2, Gr T H0 H2 → Dq K H2 v_1 d → someB d = inj (holds a) u v → D.rt v_1 H2 := fun a b c d e f => q a b c d e f
  have hN : ∀ e, ∀ p ∈ rowAt (rowsOf (holds a) v u) e, p < v.length := rowsOf_lt (holds a) v u
  -- the rows
  have rows0 : EvLs K T (tLc (iTup K (tVar 2)) (gName 8) tYes (tLc (iEnT K (tCons (tVar 1) tNil)) (gTup K 2 (gCons (gName 6) (gCons (gName 9) gNil))) (tB (tCall (spOf T K (RHolds d)) [] E0 (tCons (tVar 0) (tCons (tVar 9) (tCons (tVar 8) tNil))))) (tVar 6) [6, 9]) [8]) (L2.start nUnlikePlaces [v1, v2, v3]) H0 ((u.filter fun _ => true).map fun y => rw_ (rowOf (holds a) v y)) := by
    refine el_lcTGs u (enc a) (fun _ => true) _ (ed_var rfl h3) (by have := su.1; omega) fun i y hy yv H1 H2 g1 hyv g2 R r => r _ eb_yes (fun _ => ?_) rfl
    have hsy := su.2 y (List.mem_of_getElem? hy)
    refine EvL.e ?_ (noLs_ints _)
    refine EvL.is (el_lcE v (enc a) (rowP (holds a) v y) (fun n => .int ((n : Nat) : Int)) (ea_cons (ed_var rfl (dq_ext g1.ext h2)) ea_nil) (by have := sv.1; omega) (by intro _ _; rfl) (fun k x hx xv H3 g3 hxv => ?_) (fun k x hx hp xv H3 g3 hxv => ?_)) (by rw [rowOf_eq])
    · have hp : rowP (holds a) v y k = holds a x y := by unfold rowP; rw [hx]; rfl
      rw [hp]
      exact eb_val (ed_call (ea_cons (ed_var rfl (dq_ext (g1.trans g3).ext h1)) (ea_cons (ed_var rfl (.of hxv (enc_nl _ _))) (ea_cons (ed_var rfl (.of (dp_ext g3.ext hyv) (enc_nl _ _))) ea_nil))) ⟨a, x, y, rfl, hd, hw, sv.2 x (List.mem_of_getElem? hx), hsy, rfl⟩)
    · exact EvD.e (ed_var rfl .int) rfl
  refine s_seq (s_asg (rows0 H0 g0.self _ fun R xs H1 nR g1 hR els => ?_))
  have ef : ((u.filter fun _ => true).map fun y => rw_ (rowOf (holds a) v y)) = (rowsOf (holds a) v u).map rw_ := by
    rw [List.filter_eq_self.mpr fun _ _ => rfl, rowsOf, List.map_map]
    rfl
  rw [ef] at els
  have rl := els_rows els
  have hm : (rowsOf (holds a) v u).length = u.length := by simp [rowsOf]
  have hv8 := sv.1
  have hu8 := su.1
  dsimp only
  refine s_seq (s_if ?_)
  refine ⟨_, rfl, g1.tab, R, xs, rowsOf (holds a) v u, v.length, rfl, hR, F2.imp (fun _ _ ⟨a, e, _, q⟩ => ⟨a, e, q⟩) rl, by omega, by omega, hN, fun H2 g2 => ⟨_, rfl, ?_⟩⟩
  show ite _ _ _
  rw [canF_inj]
  cases hc : inj (holds a) u v with
  | false =>
    rw [if_pos (by rfl)]
    exact q' _ .none H2 (g1.trans g2) .non (by rw [hc]; rfl)
  | true =>
    rw [if_neg (by simp)]
    refine s_seq (s_asg ((el_lst (K := K) (T := T) (H := H2) ea_nil rfl (by decide)).run g2.self fun F fs H3 nF g3 hF dF => ?_))
    cases dF
    have g13 := g2.trans g3
    have g03 := g1.trans g13
    have nF0 : Nw H0 F := (g1.trans g2).nn nF
    have nF1 : Nw H1 F := g2.nn nF
    have rf0 : rowsF F H3 xs (rowsOf (holds a) v u) := F2.imp (fun _ _ ⟨a, e, n, q⟩ => ⟨a, e, nF1.ne q fun _ z => (nomatch z), g13.stay q True.intro⟩) rl
    have hRF : R ≠ F := nF1.ne hR fun _ z => nomatch z
    have hlx := F2.length rf0
    dsimp only
    refine s_seq ⟨_, rfl, R, xs, rfl, .inl (.of (g13.stay hR True.intro)), (xs.length : Int), rfl, by omega, by omega, ?_⟩
    rw [Int.toNat_natCast]
    refine for_range (fun i σ H' => ∃ (R' : Addr) (xs' : List V) (rows' : List (List Nat)) (ps : List Nat) (o5 o6 o7 o8 o9 o10 : Option V), σ = [some v1, some v2, some v3, some (.ref R'), some (.ref F), o5, o6, o7, o8, o9, o10] ∧ H' R' = some (.lst xs') ∧ R' ≠ F ∧ rowsF F H' xs' rows' ∧ rows'.length = u.length ∧ (∀ e, ∀ p ∈ rowAt rows' e, p < v.length) ∧ (∀ row ∈ rows', row.length ≤ 100) ∧ H' F = some (.lst (nv ps)) ∧ ps.length ≤ i ∧ Gr T H0 H') ?_ ?_ ?_
    · refine ⟨R, xs, _, [], none, none, none, none, none, none, rfl, g13.stay hR True.intro, hRF, rf0, hm, hN, fun row hrow => ?_, hF, Nat.le_refl _, g03⟩
      obtain ⟨y, _, rfl⟩ := List.mem_map.mp hrow
      have : (rowOf (holds a) v y).length ≤ v.length := by
        unfold rowOf
        exact Nat.le_trans (List.length_filter_le _ _) (by simp)
      omega
    · rintro i σ H' hi ⟨R', xs', rows', ps, o5, o6, o7, o8, o9, o10, rfl, hR', hRF', rf', hm', hN', hL', hF', hps, g'⟩
      have hi' : i < rows'.length := by omega
      have e0 : (0 : Int) + (i : Int) = (i : Int) := Int.zero_add _
      rw [e0]
      obtain ⟨x0, ex, ra, rfl, hra1, hra⟩ := F2.at (R := fun v row => ∃ a, v = V.ref a ∧ a ≠ F ∧ H' a = some (.lst (nv row))) rf' (i := i) (List.getElem?_eq_getElem hi')
      refine ⟨_, rfl, _, rfl, R', xs', ((i : Nat) : Int), .ref ra, rfl, rfl, .of hR', at_nat ex, ra, rfl, ⟨_, .of hra⟩, for_list (xs := nv rows'[i]) (fun j σ H'' => ∃ (o6 o7 o8 o9 o10 : Option V), σ = [some v1, some v2, some v3, some (.ref R'), some (.ref F), some (.int ((i : Nat) : Int)), o6, o7, o8, o9, o10] ∧ Gr T H' H'') ?_ ?_ ?_ ?_⟩
      · exact ⟨o6, o7, o8, o9, o10, rfl, .refl g'.tab⟩
      · rintro j σ H'' _ ⟨_, _, _, _, _, _, g⟩
        exact .of (g.stay hra True.intro)
      · rintro j y σ H'' hy ⟨p6, p7, p8, p9, p10, rfl, g''⟩
        obtain ⟨p, hp⟩ : ∃ p, rows'[i][j]? = some p := by
          have := (List.getElem?_eq_some_iff.mp hy).1
          exact ⟨_, List.getElem?_eq_getElem (by simpa [nv] using this)⟩
        have hyp : y = .int ((p : Nat) : Int) := by
          unfold nv at hy
          rw [List.getElem?_map, hp] at hy
          exact (Option.some.inj hy).symm
        subst hyp
        have restL : EvLs K T (tLc (iList K (tSl (rSlL K) (tVar 3) (tPart (tOp (rI0 fun i j => .int (i + j)) (tVar 5) (tC (.int 1)))) tNoPart)) (gName 10) tYes (tLc (iList K (tVar 10)) (gName 8) (tTest (tOp rNe (tVar 8) (tVar 6))) (tVar 8) [8]) [10]) [some v1, some v2, some v3, some (.ref R'), some (.ref F), some (.int ((i : Nat) : Int)), some (.int ((p : Nat) : Int)), p7, p8, p9, p10] H'' (((rows'.drop (i + 1)).filter fun _ => true).map fun row => rw_ (row.filter fun one => !decide ((one : Int) = (p : Int)))) := by
          refine el_lcW (rows'.drop (i + 1)) rw_ (fun _ => true) _ ?_ ?_ (by intro _; rfl) (fun _ _ _ _ _ _ _ => eb_yes) fun k row hk _ yv H4 g4 hyv => ?_
          · have z := (el_drop (n := i + 1) (ed_var (K := K) (T := T) (H := H'') (i := 3) (σ := [some v1, some v2, some v3, some (.ref R'), some (.ref F), some (.int ((i : Nat) : Int)), some (.int ((p : Nat) : Int)), p7, p8, p9, p10]) rfl (.lst (g''.stay hR' True.intro) (rowsL.dps (rf'.ext g'').L))) (ed_I0 (g := fun i j => V.int (i + j)) (d := .int ((i + 1 : Nat) : Int)) (ed_var (i := 5) rfl .int) (ed_int (n := 1)) fun _ => .int)).toD.w
            rw [← List.map_drop] at z
            exact z
          · rw [List.length_drop]
            omega
          · have hrow : row.length < 100000 := by
              have := hL' row (List.mem_of_mem_drop (List.mem_of_getElem? hk))
              omega
            have z := (el_lcW (K := K) (T := T) (H := H4) (σ := [some v1, some v2, some v3, some (.ref R'), some (.ref F), some (.int ((i : Nat) : Int)), some (.int ((p : Nat) : Int)), p7, p8, p9, some yv]) (tl := tVar 10) (vs := [8]) (j := 8) (tt := tTest (tOp rNe (tVar 8) (tVar 6))) (te := tVar 8) row (fun n => .int ((n : Nat) : Int)) (fun one => !decide ((one : Int) = (p : Int))) (fun n => .int ((n : Nat) : Int)) (ew_var rfl hyv) hrow (by intro _; rfl) (fun k one hk1 wv H6 g6 hwv => by
              rw [dp_int hwv]
              exact eb_test (K := K) (ed_neI (ed_var rfl .int) (ed_var rfl .int))) (fun k one hk1 _ wv H6 g6 hwv => by
              rw [dp_int hwv]
              exact EvD.e (ed_var rfl .int) rfl)).toL
            exact EvL.e z (noLs_ints _)
        refine s_seq (s_asg (restL H'' g''.self _ fun Y ys H4 nY g4 hY els4 => ?_))
        have er : ((rows'.drop (i + 1)).filter fun _ => true).map (fun row => rw_ (row.filter fun one => !decide ((one : Int) = (p : Int)))) = ((rows'.drop (i + 1)).map fun row => row.filter fun one => !decide ((one : Int) = (p : Int))).map rw_ := by
          rw [List.filter_eq_self.mpr fun _ _ => rfl, List.map_map]
          rfl
        rw [er] at els4
        have rest4 := els_rows els4
        have hNr : ∀ e, ∀ q ∈ rowAt ((rows'.drop (i + 1)).map fun row => row.filter fun one => !decide ((one : Int) = (p : Int))) e, q < v.length := fun e q hq => by
          obtain ⟨row, h1, h2⟩ := mem_rowAt hq
          obtain ⟨row0, h3, rfl⟩ := List.mem_map.mp h1
          obtain ⟨e2, h4⟩ := rowAt_mem (List.mem_of_mem_drop h3) (List.mem_filter.mp h2).1
          exact hN' e2 q h4
        have g4' := g''.trans g4
        dsimp only
        refine s_if ?_
        refine ⟨_, rfl, g4.tab, Y, ys, _, v.length, rfl, hY, F2.imp (fun _ _ ⟨a, e, _, q⟩ => ⟨a, e, q⟩) rest4, by omega, ?_, hNr, fun H5 g5 => ⟨_, rfl, ?_⟩⟩
        · rw [List.length_map, List.length_drop]
          omega
        have g5' := g4'.trans g5
        show ite _ _ _
        split
        · have hps' : ps.length < 100000 := by omega
          refine s_seq (s_append (K := K) (T := T) (H := H5) (i := 4) rfl (g5'.stay hF' True.intro) nF0 (g'.trans g5') (by simpa [nv] using hps') (ed_var (i := 6) rfl .int) g5.self fun z H6 g6' g6 hz hF6 => ?_)
          obtain rfl := dq_int hz
          have g6'' := g5'.trans g6
          have hFR' : F ≠ R' := Ne.symm hRF'
          have nY' : Y ≠ F := Ne.symm (nY.ne (g''.stay hF' True.intro) fun _ z => nomatch z)
          have hR6 : upd H6 F (.lst (nv ps ++ [V.int ((p : Nat) : Int)])) R' = some (.lst xs') := by rw [upd_ne hRF']; exact g6''.stay hR' True.intro
          have hY6 : upd H6 F (.lst (nv ps ++ [V.int ((p : Nat) : Int)])) Y = some (.lst ys) := by rw [upd_ne nY']; exact (g5.trans g6).stay hY True.intro
          have lxs := F2.length rf'
          have lys := F2.length rest4
          rw [List.length_map, List.length_drop] at lys
          dsimp only
          refine s_seq (s_asg ?_)
          refine ⟨_, rfl, _, rfl, _, _, rfl, rfl, _, rfl, R', xs', rfl, .of hR6, fun p1 hp1 => ?_⟩
          have nYp : Y ≠ p1 := ne_of_none hY6 hp1
          have nFp : F ≠ p1 := ne_of_none upd_same hp1
          refine ⟨_, rfl, p1, Y, _, ys, rfl, rfl, upd_same, by rw [upd_ne nYp]; exact hY6, ?_, fun p2 hp2 => ?_⟩
          · refine sz ?_
            have := cutV_length xs' none (some ((i : Int) + 1))
            omega
          have e1 : cutV xs' none (some ((i : Int) + 1)) = xs'.take (i + 1) := cut_take (n := i + 1)
          have nFp2 : F ≠ p2 := ne_of_none (show upd (upd H6 F (.lst (nv ps ++ [V.int ((p : Nat) : Int)]))) p1 (.lst (cutV xs' none (some ((i : Int) + 1)))) F = some (.lst (nv ps ++ [V.int ((p : Nat) : Int)])) by rw [upd_ne nFp]; exact upd_same) hp2
          have gA : Gr T H0 (upd H6 F (.lst (nv ps ++ [V.int ((p : Nat) : Int)]))) := g6'
          have gB : Gr T (upd H6 F (.lst (nv ps ++ [V.int ((p : Nat) : Int)]))) (upd (upd H6 F (.lst (nv ps ++ [V.int ((p : Nat) : Int)]))) p1 (.lst (cutV xs' none (some ((i : Int) + 1))))) := .new gA.tab hp1
          have gC := gB.add (o := .lst (cutV xs' none (some ((i : Int) + 1)) ++ ys)) hp2
          have rfA : rowsF F (upd H6 F (.lst (nv ps ++ [V.int ((p : Nat) : Int)]))) xs' rows' := (rf'.ext g6'').upd
          have rsA : rowsF F (upd H6 F (.lst (nv ps ++ [V.int ((p : Nat) : Int)]))) ys ((rows'.drop (i + 1)).map fun row => row.filter fun one => !decide ((one : Int) = (p : Int))) := by
            refine F2.imp (fun v row => ?_) rest4
            rintro ⟨a, e, n, q⟩
            have na : a ≠ F := Ne.symm (n.ne (g''.stay hF' True.intro) fun _ z => nomatch z)
            exact ⟨a, e, na, by rw [upd_ne na]; exact (g5.trans g6).stay q True.intro⟩
          refine ⟨p2, _, rows'.take (i + 1) ++ ((rows'.drop (i + 1)).map fun (row : List Nat) => row.filter fun (one : Nat) => !decide ((one : Int) = (p : Int))), ps ++ [p], _, _, _, _, _, _, rfl, upd_same, Ne.symm nFp2, ?_, ?_, ?_, ?_, ?_, ?_, gA.trans gC⟩
          · have z := rowsF.ext gC (F2.app (f2_take (i + 1) rfA) rsA)
            rw [e1] at z ⊢
            exact z
          · rw [List.length_append, List.length_take, List.length_map, List.length_drop]
            omega
          · intro e q hq
            rcases rowAt_take_app hq with ⟨e2, h⟩ | ⟨e2, h⟩
            · exact hN' e2 q h
            · exact hNr e2 q h
          · intro row hrow
            rcases List.mem_append.mp hrow with h | h
            · exact hL' row (List.mem_of_mem_take h)
            · obtain ⟨row0, h3, rfl⟩ := List.mem_map.mp h
              exact Nat.le_trans (List.length_filter_le _ _) (hL' row0 (List.mem_of_mem_drop h3))
          · refine gC.stay (o := .lst (nv (ps ++ [p]))) ?_ True.intro
            rw [upd_same]
            simp [nv]
          · rw [List.length_append, List.length_singleton]
            omega
        · exact ⟨_, _, _, _, _, rfl, g5'⟩
      · rintro σ H'' ⟨p6, p7, p8, p9, p10, rfl, g''⟩
        exact ⟨R', xs', rows', ps, _, p6, p7, p8, p9, p10, rfl, g''.stay hR' True.intro, hRF', rf'.ext g'', hm', hN', hL', g''.stay hF' True.intro, by omega, g'.trans g''⟩
    · rintro σ H' ⟨R', xs', rows', ps, o5, o6, o7, o8, o9, o10, rfl, hR', hRF', rf', hm', hN', hL', hF', hps, g'⟩
      refine s_ret ((ed_tupL (ed_var (K := K) (T := T) (i := 4) rfl (.lst hF' (dps_nv ps)))).run g'.self fun x H5 g5 hx => q' _ _ _ (g'.trans g5) hx (by rw [hc]; rfl))
end
end K16

end K16R6Text
section K16R12Text
set_option autoImplicit false
set_option linter.all false
set_option maxRecDepth 100000
set_option Elab.async false
set_option pp.maxSteps 350
set_option pp.deepTerms false
set_option pp.deepTerms.threshold 4
namespace K16
open PySem PySem.Spec PyProof.Rows L2
abbrev sLaneWays : Stmt := topS 29
abbrev nLaneWays : List Str := ["sort", "v", "u", "ahead", "one", "row", "place"]
theorem scLaneWays : FnScope nLaneWays ["sort", "v", "u"] (defScope sLaneWays) := ⟨rfl, rfl, rfl, by decide +kernel, rfl, by decide +kernel, by decide +kernel⟩
def cap0 : Nat := 2000
def RWays (d : Nat) (ds : List De) (P : De → Prop) : Prop := ∃ (s : So) (v u : Va s), ds = [.s s, .d (enc s v), .d (enc s u)] ∧ dep s < d ∧ Wf s ∧ Sm 2 s v ∧ Sm 2 s u ∧ wcap s ≤ cap0 ∧ P = fun r => r = .int ((ways s v u : Nat) : Int)
def RLaneW (d : Nat) (ds : List De) (P : De → Prop) : Prop := ∃ (a : So) (v u : List (Va a)), ds = [.s a, .d (encs a v), .d (encs a u)] ∧ dep a < d ∧ Wf a ∧ Sms 2 a v ∧ Sms 2 a u ∧ wcap (.lane a) ≤ cap0 ∧ P = fun r => r = .int ((lwRows (ways a) v u : Nat) : Int)
def RHeapW (d : Nat) (ds : List De) (P : De → Prop) : Prop := ∃ (a : So) (v u : List (Va a)), ds = [.s a, .d (encs a v), .d (encs a u)] ∧ dep a < d ∧ Wf a ∧ Sms 2 a v ∧ Sms 2 a u ∧ wcap (.heap a) ≤ cap0 ∧ P = fun r => r = .int ((heapW (ways a) v u : Nat) : Int)
/-! a row of whole numbers -/
def nr (f : Nat → Nat) (m : Nat) : List V := (List.range (m + 1)).map fun p => V.int ((f p : Nat) : Int)
theorem ixNn {n j : Nat} (hj : j < n) : ixN n (j : Int) = some j := by
  unfold ixN
  rw [if_pos (by omega), if_pos (by omega)]
  simp
theorem nr_len (f : Nat → Nat) (m : Nat) : (nr f m).length = m + 1 := by simp [nr]
theorem nr_at (f : Nat → Nat) {m p : Nat} (h : p ≤ m) : (nr f m)[p]? = some (.int ((f p : Nat) : Int)) := by
  unfold nr
  rw [List.getElem?_map, List.getElem?_range (by omega)]
  rfl
theorem nr_set (f : Nat → Nat) {m p : Nat} (h : p ≤ m) (x : Nat) : (nr f m).set p (.int ((x : Nat) : Int)) = nr (fun q => if q = p then x else f q) m := by
  refine List.ext_getElem? fun q => ?_
  rw [List.getElem?_set]
  by_cases hq : q ≤ m
  · rw [nr_at _ hq, nr_at _ hq]
    by_cases c : p = q
    · rw [if_pos c, if_pos (by rw [nr_len]; omega)]
      rw [if_pos c.symm]
    · rw [if_neg c]
      rw [if_neg (Ne.symm c)]
  · have e1 : (nr f m)[q]? = none := List.getElem?_eq_none (by rw [nr_len]; omega)
    have e2 : (nr (fun q => if q = p then x else f q) m)[q]? = none := List.getElem?_eq_none (by rw [nr_len]; omega)
    rw [if_neg (by omega), e1, e2]
theorem nr_rep (m : Nat) : List.replicate (m + 1) (V.int 1) = nr (fun _ => 1) m := by
  refine List.ext_getElem? fun q => ?_
  by_cases hq : q ≤ m
  · rw [nr_at _ hq, List.getElem?_replicate, if_pos (by omega)]
    rfl
  · have e1 : (nr (fun _ => 1) m)[q]? = none := List.getElem?_eq_none (by rw [nr_len]; omega)
    have e2 : (List.replicate (m + 1) (V.int 1))[q]? = none := List.getElem?_eq_none (by rw [List.length_replicate]; omega)
    rw [e1, e2]
theorem nr_dps {K : PySem.W.Frag} {H : Hp} (f : Nat → Nat) (m : Nat) : DpAll K H (nr f m) ((List.range (m + 1)).map fun p => .int ((f p : Nat) : Int)) := by
  unfold nr
  have h : ∀ l : List Nat, DpAll K H (l.map fun p => V.int ((f p : Nat) : Int)) (l.map fun p => .int ((f p : Nat) : Int)) := by
    intro l
    induction l with
    | nil => exact .nil
    | cons x l ih => exact .cons (.int _) ih
  exact h _
section
variable {P : Program} {w : World} {K : PySem.W.Frag} {mg : Str → Option Value} {base : Heap} {T : Tb} {aS : Addr}
theorem ed_nr {T : Tb} {H : Hp} {σ : L2.St} {i : Nat} {A : Addr} {f : Nat → Nat} {m p : Nat} {tb : TE} (hv : σ[i]? = some (some (.ref A))) (hA : H A = some (.lst (nr f m))) (hb : EvD K T tb σ H (.int ((p : Nat) : Int))) (hp : p ≤ m) : EvD K T (tOp (rIxL K) (tVar i) tb) σ H (.int ((f p : Nat) : Int)) :=
  ed_ixL (n := p) (ed_var hv (.lst hA (nr_dps f m))) hb (dd := .int ((f p : Nat) : Int)) (by rw [List.getElem?_map, List.getElem?_range (by omega)]; rfl) fun _ z => nomatch z
theorem ed_add1 {T : Tb} {H : Hp} {σ : L2.St} {i : Nat} {p : Nat} (h : σ[i]? = some (some (.int ((p : Nat) : Int)))) : EvD K T (tOp (rI0 fun i j => .int (i + j)) (tVar i) (tC (.int 1))) σ H (.int ((p + 1 : Nat) : Int)) :=
  ed_I0 (d := .int ((p + 1 : Nat) : Int)) (ed_var h .int) (ed_int (n := 1)) fun _ => .int
theorem for_lstN {T : Tb} {ta : TE} {ts : TS} {σ : L2.St} {H : Hp} {ds : List PyData} {tg : TG} {D : Ends} {H1 : Hp} (hs : EvL K T ta σ H ds) (g : Gr T H H1)
    (k : ∀ a xs H2, Nw H1 a → Gr T H1 H2 → H2 a = some (.lst xs) → DpAll K H2 xs ds → ∃ W : Nat → Nat → L2.St → Hp → Prop, (∃ m, W 0 m σ H2) ∧ ∀ i m σ H, W i m σ H →
      ((Itl K a).stop i H ∧ D.nx σ H) ∨ ((Itl K a).go i H ∧ ∃ N : L2.St → Hp → Prop, (∀ σ' H', N σ' H' → ∃ m', m' < m ∧ W (i + 1) m' σ' H') ∧ ∀ x H', (Itl K a).yld i H x H' → tg x σ H' fun σ2 H2 => ts { D with nx := N, ct := N, bk := D.nx } σ2 H2)) :
    tFor (iList K ta) tg ts D σ H1 := hs H1 g _ fun a xs H2 n g2 h1 h2 => ⟨a, rfl, ⟨xs, .of h1⟩, k a xs H2 n g2 h1 h2⟩
theorem hasLaneWays (d : Nat) (k : Nat) (D : DefOk K mg "lane_ways" sLaneWays ["sort", "v", "u"]) (M : Bi mg) (h_ways : Has P w K mg base k "ways" ["sort", "v", "u"] (spOf T K (RWays d))) :
    Has P w K mg base (k + 1) "lane_ways" ["sort", "v", "u"] (spOf T K (RLaneW d)) := by
  have nd := scLaneWays.nd
  refine D.pure k scLaneWays (fun ds Pd h => ?_) fun f cdv A outer s H E vs ds Pd hr hT hv hR => ?_
  · obtain ⟨s, x, y, rfl, _⟩ := h
    rfl
  obtain ⟨a, v, u, rfl, hd, hw, sv, su, hcap, rfl⟩ := hR
  obtain ⟨v1, v2, v3, rfl, h1, h2, h3⟩ := dqa3 hv
  refine ⟨_, (pss_cons (ps_set (i := 3) nd rfl (Or.inl rfl) (pe_op op_rep (pe_lst (pa_cons pe_int pa_nil)) (pe_op op_add (pe_callB call_len_seq rfl (M.len) PySem.boot_len (pa_cons (pv 2) pa_nil)) pe_int)))
    (pss_cons (ps_for PassesOwn.never rfl (pi_tup (pe_revT (pv 1))) (pg_name (i := 4) nd rfl (Or.inl rfl)) (pss_cons (ps_set (i := 5) nd rfl (Or.inl rfl) (pe_op op_rep (pe_lst (pa_cons pe_int pa_nil)) (pe_op op_add (pe_callB call_len_seq rfl (M.len) PySem.boot_len (pa_cons (pv 2) pa_nil)) pe_int)))
    (pss_cons (ps_for PassesOwn.never rfl (pi_list (pe_revL (pe_listRg rfl rfl (M.list) (prg_1 rfl (M.range) (pe_callB call_len_seq rfl (M.len) PySem.boot_len (pa_cons (pv 2) pa_nil)))))) (pg_name (i := 6) nd rfl (Or.inl rfl)) (pss_one (ps_asg (pe_op op_add (pe_op op_add (pe_ix ix_list (pv 3) (pv 6) (fun _ _ => rfl)) (pe_ix ix_list (pv 5) (pe_op op_add (pv 6) pe_int) (fun _ _ => rfl))) (pe_op op_mul (pe_ix ix_list (pv 3) (pe_op op_add (pv 6) pe_int) (fun _ _ => rfl)) (pe_has h_ways hr (by omega) (pa_cons (pv 0) (pa_cons (pv 4) (pa_cons (pe_ix ix_tup (pv 2) (pv 6) (fun _ _ => rfl)) pa_nil)))))) (pg_sub (pv 5) (pv 6) set_list))))
    (pss_one (ps_set (i := 3) nd rfl (Or.inl rfl) (pv 5))))))
    (pss_one (ps_ret (pe_ix ix_list (pv 3) pe_int (fun _ _ => rfl)))))), ?_⟩
  intro H0 g0 D q
  have h1 := dq_ext g0.ext h1
  have h2 := dq_ext g0.ext h2
  have h3 := dq_ext g0.ext h3
  have q' : ∀ v_1 H2, Gr T H0 H2 → Dq K H2 v_1 (.int ((lwRows (ways a) v u : Nat) : Int)) → D.rt v_1 H2 := fun a b c e => q a _ b c e rfl
  have hu2 := su.1
  have hv2 := sv.1
  -- a row of ones
  have ones : ∀ (σ : L2.St) (H : Hp), σ[2]? = some (some v3) → Gr T H0 H → EvL K T (tOp rRep (tLst (tCons (tC (.int 1)) tNil)) (tOp (rI0 fun i j => .int (i + j)) (tCB (fun xs H Q => ∃ p n, xs = [V.ref p] ∧ ((SqL K H p n) ∨ SqT K H p n) ∧ Q (.int n.length) H) (tCons (tVar 2) tNil)) (tC (.int 1)))) σ H (List.replicate (u.length + 1) (.int 1)) := fun σ H hσ g => by
    have L := ed_lenT (T := T) (ed_var (T := T) (K := K) (σ := σ) (i := 2) hσ (dq_ext g.ext h3))
    rw [List.length_map] at L
    exact el_rep (d := .int 1) (el_lst (as := [.int 1]) (ea_cons ed_int ea_nil) rfl (by simp)).toD (ed_I0 (d := .int ((u.length + 1 : Nat) : Int)) L (ed_int (n := 1)) fun _ => .int) (by omega)
  have rep1 : ∀ {H : Hp} {xs : List V}, DpAll K H xs (List.replicate (u.length + 1) (.int 1)) → xs = nr (fun _ => 1) u.length := fun {H xs} h => by
    rw [← nr_rep]
    have e : (List.replicate (u.length + 1) (PyData.int 1)) = (List.replicate (u.length + 1) (1 : Int)).map PyData.int := by rw [List.map_replicate]
    rw [e] at h
    rw [dps_ints h, List.map_replicate]
  refine s_seq (s_asg ((ones _ H0 rfl (.refl g0.tab)).run (.refl g0.tab) fun A0 xs H1 nA g1 hA dA => ?_))
  obtain rfl := rep1 dA
  dsimp only
  have rv := ed_revT (K := K) (T := T) (H := H1) (ed_var (i := 1) (σ := (start nLaneWays [v1, v2, v3]).set 3 (some (.ref A0))) rfl (dq_ext g1.ext h2))
  refine s_seq (for_tpl rv (.refl g1.tab) fun ra rs H2 g2 hra dra => ?_)
  have g02 := g1.trans g2
  have hlr := dps_len dra
  rw [List.length_reverse, List.length_map] at hlr
  refine for_tup (xs := rs) (fun k σ H' => ∃ (A1 : Addr) (g : Nat → Nat) (o4 o5 o6 : Option V), σ = [some v1, some v2, some v3, some (.ref A1), o4, o5, o6] ∧ H' A1 = some (.lst (nr g u.length)) ∧ (∀ p, p ≤ u.length → g p = lwRows (ways a) (v.drop (v.length - k)) (u.drop p)) ∧ Gr T H2 H' ∧ SqT K H' ra rs) ?_ ?_ ?_ ?_
  · refine ⟨A0, _, none, none, none, rfl, g2.stay hA True.intro, fun p hp => ?_, .refl g2.tab, hra⟩
    rw [Nat.sub_zero, List.drop_length]
    rfl
  · rintro i σ H' _ ⟨_, _, _, _, _, _, _, _, _, h⟩
    exact h
  · rintro k y σ H' hy0 ⟨A1, g, o4, o5, o6, rfl, hA1, hg, gz, hra'⟩
    have g' := g02.trans gz
    have hk : k < v.length := by
      have := (List.getElem?_eq_some_iff.mp hy0).1
      omega
    obtain ⟨d0, e1, e2⟩ := dps_at dra hy0
    obtain ⟨x0, ex⟩ : ∃ x0, v[v.length - 1 - k]? = some x0 := ⟨_, List.getElem?_eq_getElem (by omega)⟩
    rw [List.getElem?_reverse (by rw [List.length_map]; exact hk), List.length_map, List.getElem?_map, ex] at e1
    cases e1
    have hx0 : Dq K H2 y (.d (enc a x0)) := .of e2 (enc_nl _ _)
    have sx0 := sv.2 x0 (List.mem_of_getElem? ex)
    have hdv : v.drop (v.length - (k + 1)) = x0 :: v.drop (v.length - k) := by
      have i1 : v.length - 1 - k < v.length := by omega
      have e3 := List.getElem?_eq_getElem i1
      rw [ex] at e3
      have e4 : v.length - (k + 1) = v.length - 1 - k := by omega
      have e5 : v.length - 1 - k + 1 = v.length - k := by omega
      rw [e4, List.drop_eq_getElem_cons i1, ← Option.some.inj e3, e5]
    refine s_seq (s_asg ((ones _ H' rfl g').run (.refl g'.tab) fun R xs H3 nR g3 hR dR => ?_))
    obtain rfl := rep1 dR
    dsimp only
    have L1 : ∀ (σ : L2.St) (H : Hp), σ[2]? = some (some v3) → Gr T H0 H → EvD K T (tCB (fun xs H Q => ∃ p n, xs = [V.ref p] ∧ ((SqL K H p n) ∨ SqT K H p n) ∧ Q (.int n.length) H) (tCons (tVar 2) tNil)) σ H (.int ((u.length : Nat) : Int)) := fun σ H hσ g => by
      have z := ed_lenT (T := T) (ed_var (T := T) (K := K) (σ := σ) (i := 2) hσ (dq_ext g.ext h3))
      rw [List.length_map] at z
      exact z
    have nAR : A1 ≠ R := nR.ne hA1 fun _ z => by cases z
    refine s_seq (for_lstN (el_rev (el_rg (L1 _ H3 rfl (g'.trans g3)) (by omega)).toD) (.refl g3.tab) fun rb js H4 nb g4 hrb drb => ?_)
    have hjl := dps_len drb
    rw [List.length_reverse, ixs_len] at hjl
    have nRb : R ≠ rb := nb.ne hR fun _ z => by cases z
    refine for_list (xs := js) (fun j σ H'' => ∃ (f : Nat → Nat) (o6 : Option V), σ = [some v1, some v2, some v3, some (.ref A1), some y, some (.ref R), o6] ∧ H'' R = some (.lst (nr f u.length)) ∧ H'' A1 = some (.lst (nr g u.length)) ∧ (∀ p, u.length - j ≤ p → p ≤ u.length → f p = lwStep (ways a) x0 (lwRows (ways a) (v.drop (v.length - k))) (u.drop p)) ∧ Gr T H' H'' ∧ H'' rb = some (.lst js)) ?_ ?_ ?_ ?_
    · refine ⟨_, o6, rfl, g4.stay hR True.intro, g4.stay (g3.stay hA1 True.intro) True.intro, fun p h1 h2 => ?_, g3.trans g4, hrb⟩
      have : p = u.length := by omega
      rw [this, List.drop_length]
      rfl
    · rintro i σ H5 _ ⟨_, _, _, _, _, _, _, h⟩
      exact .of h
    · rintro j w0 σ H5 hw0 ⟨f, o6, rfl, hR5, hA5, hf, g5, hrb5⟩
      have hj : j < u.length := by
        have := (List.getElem?_eq_some_iff.mp hw0).1
        omega
      obtain ⟨d1, e3, e4⟩ := dps_at drb hw0
      obtain ⟨p, hp⟩ : ∃ p, p = u.length - 1 - j := ⟨_, rfl⟩
      rw [List.getElem?_reverse (by rw [ixs_len]; exact hj), ixs_len, ← hp] at e3
      unfold ixs at e3
      rw [List.getElem?_map, List.getElem?_range (by omega)] at e3
      cases e3
      cases e4
      obtain ⟨y0, ey⟩ : ∃ y0, u[p]? = some y0 := ⟨_, List.getElem?_eq_getElem (by omega)⟩
      have hdu : u.drop p = y0 :: u.drop (p + 1) := by
        rw [List.drop_eq_getElem_cons (show p < u.length by omega)]
        rw [List.getElem?_eq_getElem (by omega)] at ey
        rw [Option.some.inj ey]
      have sy0 := su.2 y0 (List.mem_of_getElem? ey)
      have ey' : (u.map (enc a))[p]? = some (enc a y0) := by rw [List.getElem?_map, ey]; rfl
      have hcap' : wcap a ≤ cap0 := by
        refine Nat.le_trans ?_ hcap
        show wcap a ≤ 1 + 2 * ((3 + 2 * wcap a) * (1 + wcap a))
        have := Nat.mul_le_mul_left (3 + 2 * wcap a) (show 1 ≤ 1 + wcap a by omega)
        omega
      have g05 := g'.trans g5
      have val : EvD K T (tOp (rI0 fun i j => .int (i + j)) (tOp (rI0 fun i j => .int (i + j)) (tOp (rIxL K) (tVar 3) (tVar 6)) (tOp (rIxL K) (tVar 5) (tOp (rI0 fun i j => .int (i + j)) (tVar 6) (tC (.int 1))))) (tOp (rI CMul fun i j => .int (i * j)) (tOp (rIxL K) (tVar 3) (tOp (rI0 fun i j => .int (i + j)) (tVar 6) (tC (.int 1)))) (tCall (spOf T K (RWays d)) [] E0 (tCons (tVar 0) (tCons (tVar 4) (tCons (tOp (rIxT K) (tVar 2) (tVar 6)) tNil)))))) [some v1, some v2, some v3, some (.ref A1), some y, some (.ref R), some (V.int ((p : Nat) : Int))] H5 (.int ((g p + f (p + 1) + g (p + 1) * ways a x0 y0 : Nat) : Int)) := by
        have hA' : (some (HO.lst (nr g u.length)) : Option HO) = some (.lst (nr g u.length)) := rfl
        have i6 : EvD K T (tVar 6) [some v1, some v2, some v3, some (.ref A1), some y, some (.ref R), some (V.int ((p : Nat) : Int))] H5 (.int ((p : Nat) : Int)) := ed_var rfl .int
        have a1 := ed_add1 (K := K) (T := T) (H := H5) (σ := [some v1, some v2, some v3, some (.ref A1), some y, some (.ref R), some (V.int ((p : Nat) : Int))]) (i := 6) (p := p) rfl
        have hwle : ways a x0 y0 ≤ cap0 := Nat.le_trans (ways_le a x0 y0 sx0 sy0) hcap'
        have hwle' : ways a x0 y0 ≤ 2000 := hwle
        have c1 : EvD K T (tCall (spOf T K (RWays d)) [] E0 (tCons (tVar 0) (tCons (tVar 4) (tCons (tOp (rIxT K) (tVar 2) (tVar 6)) tNil)))) [some v1, some v2, some v3, some (.ref A1), some y, some (.ref R), some (V.int ((p : Nat) : Int))] H5 (.int ((ways a x0 y0 : Nat) : Int)) := ed_call (K := K) (T := T) (R := RWays d) (ea_cons (ed_var (i := 0) rfl (dq_ext g05.ext h1)) (ea_cons (ed_var (i := 4) rfl (dq_ext (gz.trans g5).ext hx0)) (ea_cons (ed_ixT (ed_var (i := 2) rfl (dq_ext g05.ext h3)) i6 ey' (enc_nl _ _)) ea_nil))) ⟨a, x0, y0, rfl, hd, hw, sx0, sy0, hcap', rfl⟩
        have m1 : EvD K T (tOp (rI CMul fun i j => .int (i * j)) (tOp (rIxL K) (tVar 3) (tOp (rI0 fun i j => .int (i + j)) (tVar 6) (tC (.int 1)))) (tCall (spOf T K (RWays d)) [] E0 (tCons (tVar 0) (tCons (tVar 4) (tCons (tOp (rIxT K) (tVar 2) (tVar 6)) tNil))))) [some v1, some v2, some v3, some (.ref A1), some y, some (.ref R), some (V.int ((p : Nat) : Int))] H5 (.int ((g (p + 1) : Nat) * (ways a x0 y0 : Nat) : Int)) := ed_I (ed_nr rfl hA5 a1 (by omega)) c1 (.inr ⟨by omega, by omega⟩) fun _ => .int
        have s1 := ed_I0 (K := K) (T := T) (g := fun i j => .int (i + j)) (d := .int ((g p : Int) + (f (p + 1) : Int))) (ed_nr (i := 3) rfl hA5 i6 (by omega)) (ed_nr (i := 5) rfl hR5 a1 (by omega)) fun _ => .int
        refine ed_I0 s1 m1 fun _ => ?_
        rw [Int.natCast_add, Int.natCast_add, Int.natCast_mul]
        exact .int
      refine val.run (.refl g5.tab) fun z H6 g6 hz => ?_
      obtain rfl := dq_int hz
      have hR6 := g6.stay hR5 True.intro
      refine ⟨_, rfl, _, rfl, R, nr f u.length, ((p : Nat) : Int), p, rfl, rfl, hR6, ixNn (by rw [nr_len]; omega), ?_⟩
      rw [nr_set f (by omega)]
      refine ⟨_, _, rfl, upd_same .., ?_, fun q hq1 hq2 => ?_, ?_, ?_⟩
      · rw [upd_ne nAR]
        exact g6.stay hA5 True.intro
      · by_cases c : q = p
        · rw [if_pos c, c, hdu, lwStep, ← hdu, hg p (by omega), hf (p + 1) (by omega) (by omega), hg (p + 1) (by omega)]
        · rw [if_neg c]
          exact hf q (by omega) hq2
      · exact (g5.trans g6).mut nR hR6 True.intro
      · rw [upd_ne nRb.symm]
        exact g6.stay hrb5 True.intro
    · rintro σ H5 ⟨f, o6, rfl, hR5, hA5, hf, g5, hrb5⟩
      dsimp only
      refine s_asg ⟨_, rfl, ?_⟩
      refine ⟨R, f, _, _, _, rfl, hR5, fun p hp => ?_, gz.trans g5, st_ext g5.ext hra'⟩
      rw [hf p (by omega) hp, hdv]
      rfl
  · rintro σ H' ⟨A1, g, o4, o5, o6, rfl, hA1, hg, gz, hra'⟩
    have g' := g02.trans gz
    refine s_ret ((ed_nr (K := K) (T := T) (i := 3) rfl hA1 (ed_int (n := 0)) (Nat.zero_le _)).run g'.self fun x H3 g3 hx => q' x H3 (g'.trans g3) ?_)
    have e := hg 0 (Nat.zero_le _)
    rw [hlr, Nat.sub_self, List.drop_zero, List.drop_zero] at e
    rw [e] at hx
    exact hx
end
end K16

end K16R12Text
section K16R13Text
set_option autoImplicit false
set_option linter.all false
set_option maxRecDepth 100000
set_option Elab.async false
set_option pp.maxSteps 350
set_option pp.deepTerms false
set_option pp.deepTerms.threshold 4
namespace K16
open PySem PySem.Spec PyProof.Rows L2
abbrev sWays : Stmt := topS 31
abbrev nWays : List Str := ["sort", "v", "u", "kind"]
theorem scWays : FnScope nWays ["sort", "v", "u"] (defScope sWays) := ⟨rfl, rfl, rfl, by decide +kernel, rfl, by decide +kernel, by decide +kernel⟩
theorem cap_both {a b : So} (h : wcap (.both a b) ≤ cap0) : wcap a ≤ cap0 ∧ wcap b ≤ cap0 := by
  have h : wcap a * wcap b ≤ cap0 := h
  have h1 := wcap_pos a
  have h2 := wcap_pos b
  exact ⟨Nat.le_trans (Nat.le_mul_of_pos_right _ h2) h, Nat.le_trans (Nat.le_mul_of_pos_left _ h1) h⟩
theorem cap_either {a b : So} (h : wcap (.either a b) ≤ cap0) : wcap a ≤ cap0 ∧ wcap b ≤ cap0 := by
  have h : max (wcap a) (wcap b) ≤ cap0 := h
  omega
section
variable {P : Program} {w : World} {K : PySem.W.Frag} {mg : Str → Option Value} {base : Heap} {T : Tb} {aS : Addr}
theorem hasWays (d : Nat) (k : Nat) (D : DefOk K mg "ways" sWays ["sort", "v", "u"]) (C : Cn K mg aS) (kS : ∀ H, Kn K H aS ["left", "right"]) (h_ways : Has P w K mg base k "ways" ["sort", "v", "u"] (spOf T K (RWays d)))
    (h_lane_ways : Has P w K mg base (k + 1) "lane_ways" ["sort", "v", "u"] (spOf T K (RLaneW d))) (h_heap_ways : Has P w K mg base (k + 1) "heap_ways" ["sort", "v", "u"] (spOf T K (RHeapW d))) :
    Has P w K mg base (k + 2) "ways" ["sort", "v", "u"] (spOf T K (RWays (d + 1))) := by
  have nd := scWays.nd
  refine D.pure (k + 1) scWays (fun ds Pd h => ?_) fun f cdv A outer s H E vs ds Pd hr hT hv hR => ?_
  · obtain ⟨s, x, y, rfl, _⟩ := h
    rfl
  obtain ⟨so, x, y, rfl, hd, hw, sx, sy, hcap, rfl⟩ := hR
  obtain ⟨v1, v2, v3, rfl, h1, h2, h3⟩ := dqa3 hv
  refine ⟨_, (pss_cons (ps_set (i := 3) nd rfl (Or.inl rfl) (pe_ix ix_tup (pv 0) pe_int (fun _ _ => rfl)))
    (pss_cons (ps_if (pt_cmpR op_in_seq (pv 3) (pe_tup (pa_cons pe_str (pa_cons pe_str pa_nil))) (by rfl)) (pss_one (ps_ret pe_int)) pss_nil)
    (pss_cons (ps_if (pt_cmpR op_eq (pv 3) pe_str (nomark _)) (pss_one (ps_ret (pe_op op_mul (pe_has h_ways hr (by omega) (pa_cons (pe_ix ix_tup (pv 0) pe_int (fun _ _ => rfl)) (pa_cons (pe_ix ix_tup (pv 1) pe_int (fun _ _ => rfl)) (pa_cons (pe_ix ix_tup (pv 2) pe_int (fun _ _ => rfl)) pa_nil)))) (pe_has h_ways hr (by omega) (pa_cons (pe_ix ix_tup (pv 0) pe_int (fun _ _ => rfl)) (pa_cons (pe_ix ix_tup (pv 1) pe_int (fun _ _ => rfl)) (pa_cons (pe_ix ix_tup (pv 2) pe_int (fun _ _ => rfl)) pa_nil))))))) pss_nil)
    (pss_cons (ps_if (pt_cmpR op_eq (pv 3) pe_str (nomark _)) (pss_one (ps_ret (pe_ifExp (pt_cmpR op_eq (pe_ix ix_tup (pv 1) pe_int (fun _ _ => rfl)) (pe_ix ix_tup (pv 2) pe_int (fun _ _ => rfl)) (nomark _)) (pe_has h_ways hr (by omega) (pa_cons (pe_ix ix_tup (pv 0) (pe_op op_add pe_int (pe_tix (pe_glob (v := .ref aS) rfl C.sides rfl) (pa_cons (pe_ix ix_tup (pv 1) pe_int (fun _ _ => rfl)) pa_nil))) (fun _ _ => rfl)) (pa_cons (pe_ix ix_tup (pv 1) pe_int (fun _ _ => rfl)) (pa_cons (pe_ix ix_tup (pv 2) pe_int (fun _ _ => rfl)) pa_nil)))) pe_int))) pss_nil)
    (pss_one (ps_ret (pe_ifExp (pt_cmpR op_eq (pv 3) pe_str (nomark _)) (pe_has h_lane_ways hr (by omega) (pa_cons (pe_ix ix_tup (pv 0) pe_int (fun _ _ => rfl)) (pa_cons (pv 1) (pa_cons (pv 2) pa_nil)))) (pe_has h_heap_ways hr (by omega) (pa_cons (pe_ix ix_tup (pv 0) pe_int (fun _ _ => rfl)) (pa_cons (pv 1) (pa_cons (pv 2) pa_nil))))))))))), ?_⟩
  refine rd_set (ed_tag (ed_var rfl h1) ed_int) fun k H1 g1 hk => ?_
  have h1 := dq_ext g1.ext h1
  have h2 := dq_ext g1.ext h2
  have h3 := dq_ext g1.ext h3
  have fl := eb_flat (K := K) (T := T) (H := H1) (ta := tVar 3) (σ := (start nWays [v1, v2, v3]).set 3 (some k)) (ed_var rfl hk)
  cases so with
  | mark ls => exact rd_yes fl (rd_ret (ed_int (n := 1)))
  | count => exact rd_yes fl (rd_ret (ed_int (n := 1)))
  | both a b =>
    have d1 : dep a < d := by simp only [dep] at hd; omega
    have d2 : dep b < d := by simp only [dep] at hd; omega
    have c12 := cap_both hcap
    have l2 : ways b x.2 y.2 ≤ 2000 := Nat.le_trans (ways_le b _ _ sx.2 sy.2) c12.2
    refine rd_no fl (rd_yes (eb_tag (m := 2) (ed_var rfl hk) ed_str) (rd_ret ?_))
    refine ed_I (K := K) (T := T) (ed_call (K := K) (T := T) (R := RWays d) (ea_cons (ed_sub (ed_var rfl h1) ed_int rfl) (ea_cons (ed_ixT (n := 0) (ed_var rfl h2) ed_int rfl (enc_nl _ _)) (ea_cons (ed_ixT (n := 0) (ed_var rfl h3) ed_int rfl (enc_nl _ _)) ea_nil))) ⟨a, x.1, y.1, rfl, d1, hw.1, sx.1, sy.1, c12.1, rfl⟩)
      (ed_call (K := K) (T := T) (R := RWays d) (ea_cons (ed_sub (ed_var rfl h1) ed_int rfl) (ea_cons (ed_ixT (n := 1) (ed_var rfl h2) ed_int rfl (enc_nl _ _)) (ea_cons (ed_ixT (n := 1) (ed_var rfl h3) ed_int rfl (enc_nl _ _)) ea_nil))) ⟨b, x.2, y.2, rfl, d2, hw.2, sx.2, sy.2, c12.2, rfl⟩) (.inr ⟨by omega, by omega⟩) fun _ => ?_
    show Dq K _ _ (.int ((ways a x.1 y.1 * ways b x.2 y.2 : Nat) : Int))
    rw [Int.natCast_mul]
    exact .int
  | either a b =>
    have d1 : dep a < d := by simp only [dep] at hd; omega
    have d2 : dep b < d := by simp only [dep] at hd; omega
    have c12 := cap_either hcap
    refine rd_no fl (rd_no (eb_tag (m := 2) (ed_var rfl hk) ed_str) (rd_yes (eb_tag (m := 3) (ed_var rfl hk) ed_str) (rd_ret ?_)))
    cases x with
    | inl x =>
      cases y with
      | inl y => exact ed_if (eb_test ((ed_eqS (ed_ixT (n := 0) (ed_var rfl h2) ed_int rfl (fun _ z => nomatch z)) (ed_ixT (n := 0) (ed_var rfl h3) ed_int rfl (fun _ z => nomatch z))).is (congrArg De.bool eqLL))) (fun _ => ed_call (K := K) (T := T) (R := RWays d) (ea_cons (ed_sub (n := 1) (ed_var rfl h1) (ed_sideL kS (ed_ixT (n := 0) (ed_var rfl h2) ed_int rfl (fun _ z => nomatch z))) rfl) (ea_cons (ed_ixT (n := 1) (ed_var rfl h2) ed_int rfl (enc_nl _ _)) (ea_cons (ed_ixT (n := 1) (ed_var rfl h3) ed_int rfl (enc_nl _ _)) ea_nil))) ⟨a, x, y, rfl, d1, hw.1, sx, sy, c12.1, rfl⟩) fun z => nomatch z
      | inr y => exact ed_if (eb_test ((ed_eqS (ed_ixT (n := 0) (ed_var rfl h2) ed_int rfl (fun _ z => nomatch z)) (ed_ixT (n := 0) (ed_var rfl h3) ed_int rfl (fun _ z => nomatch z))).is (congrArg De.bool eqLR))) (fun z => nomatch z) fun _ => ed_int (n := 1)
    | inr x =>
      cases y with
      | inl y => exact ed_if (eb_test ((ed_eqS (ed_ixT (n := 0) (ed_var rfl h2) ed_int rfl (fun _ z => nomatch z)) (ed_ixT (n := 0) (ed_var rfl h3) ed_int rfl (fun _ z => nomatch z))).is (congrArg De.bool eqRL))) (fun z => nomatch z) fun _ => ed_int (n := 1)
      | inr y => exact ed_if (eb_test ((ed_eqS (ed_ixT (n := 0) (ed_var rfl h2) ed_int rfl (fun _ z => nomatch z)) (ed_ixT (n := 0) (ed_var rfl h3) ed_int rfl (fun _ z => nomatch z))).is (congrArg De.bool eqRR))) (fun _ => ed_call (K := K) (T := T) (R := RWays d) (ea_cons (ed_sub (n := 2) (ed_var rfl h1) (ed_sideR kS (ed_ixT (n := 0) (ed_var rfl h2) ed_int rfl (fun _ z => nomatch z))) rfl) (ea_cons (ed_ixT (n := 1) (ed_var rfl h2) ed_int rfl (enc_nl _ _)) (ea_cons (ed_ixT (n := 1) (ed_var rfl h3) ed_int rfl (enc_nl _ _)) ea_nil))) ⟨b, x, y, rfl, d2, hw.2, sx, sy, c12.2, rfl⟩) fun z => nomatch z
  | lane a =>
    have d1 : dep a < d := Nat.lt_of_succ_lt_succ hd
    refine rd_no fl (rd_no (eb_tag (m := 2) (ed_var rfl hk) ed_str) (rd_no (eb_tag (m := 3) (ed_var rfl hk) ed_str) (rd_ret ?_)))
    exact ed_if (eb_tag (m := 4) (ed_var rfl hk) ed_str) (fun _ => ed_call (K := K) (T := T) (R := RLaneW d) (ea_cons (ed_sub (n := 1) (ed_var rfl h1) ed_int rfl) (ea_cons (ed_var rfl h2) (ea_cons (ed_var rfl h3) ea_nil))) ⟨a, x, y, rfl, d1, hw, sx, sy, hcap, rfl⟩) fun z => nomatch z
  | heap a =>
    have d1 : dep a < d := Nat.lt_of_succ_lt_succ hd
    refine rd_no fl (rd_no (eb_tag (m := 2) (ed_var rfl hk) ed_str) (rd_no (eb_tag (m := 3) (ed_var rfl hk) ed_str) (rd_ret ?_)))
    exact ed_if (eb_tag (m := 4) (ed_var rfl hk) ed_str) (fun z => nomatch z) fun _ => ed_call (K := K) (T := T) (R := RHeapW d) (ea_cons (ed_sub (n := 1) (ed_var rfl h1) ed_int rfl) (ea_cons (ed_var rfl h2) (ea_cons (ed_var rfl h3) ea_nil))) ⟨a, x, y, rfl, d1, hw, sx, sy, hcap, rfl⟩
end
end K16

end K16R13Text
section K16R14Text
set_option autoImplicit false
set_option linter.all false
set_option maxRecDepth 100000
set_option Elab.async false
set_option pp.maxSteps 700
set_option pp.deepTerms false
set_option pp.deepTerms.threshold 4
namespace K16
open PySem PySem.Spec PyProof.Rows L2
abbrev sHeapWays : Stmt := topS 30
abbrev nHeapWays : List Str := ["sort", "v", "u", "sums", "one", "row", "more", "left", "many", "place", "rest", "other"]
theorem scHeapWays : FnScope nHeapWays ["sort", "v", "u"] (defScope sHeapWays) := ⟨rfl, rfl, rfl, by decide +kernel, rfl, by decide +kernel, by decide +kernel⟩
/-- a locked dict, new since H0, is written -/
theorem Gr.mutF {T : Tb} {H0 H : Hp} {p : Addr} {o : HO} {od : Obj} {u : HO} (a : Gr T H0 H) (hp : Nw H0 p) (h : H p = some (.frz od u)) : Gr T H0 (upd H p o) := by
  refine ⟨fun b u e n => ?_, fun q hq => ?_⟩
  · rw [upd_ne (hp.ne e n)]
    exact a.ext b u e n
  · obtain ⟨ps, h1, h2, h3⟩ := a.tab q hq
    refine ⟨ps, ?_, h2, fun pos cv e => ?_⟩
    · rw [upd_ne]
      · exact h1
      · rintro z
        rw [z, h] at h1
        cases h1
    · obtain ⟨c, e1, e2⟩ := h3 pos cv e
      refine ⟨c, e1, ?_⟩
      rw [upd_ne]
      · exact e2
      · rintro z
        rw [z, h] at e2
        cases e2
theorem rgV_nk (n : Nat) : rgV 0 (n : Int) = (nk (List.range n)).map kV := by
  rw [nk_kV]
  unfold rgV
  rw [Int.sub_zero, Int.toNat_natCast]
  refine List.map_congr_left fun i _ => ?_
  rw [Int.zero_add]
theorem Nw.none {H : Hp} {p : Addr} (h : H p = Option.none) : Nw H p := fun o e => by rw [h] at e; cases e
section
variable {P : Program} {w : World} {K : PySem.W.Frag} {mg : Str → Option Value} {base : Heap} {T : Tb} {aS : Addr}
theorem tupRg_run {ta : TE} {σ : L2.St} {H H1 : Hp} {n : Nat} (ha : EvD K T ta σ H (.int (n : Int))) (hn : n ≤ 100000) (g : Gr T H H1) {Q : VK} (k : ∀ H2 b, Gr T H1 H2 → H2 b = none → Q (.ref b) (upd H2 b (.tup (rgV 0 ((n : Nat) : Int))))) : tTupRg (tRg1 ta) σ H1 Q :=
  ha.run g fun v H2 g2 hv => by
    obtain rfl := dq_int hv
    exact ⟨((n : Nat) : Int), rfl, rgok hn, fun b hb => k H2 b g2 hb⟩
theorem hasHeapWays (d' : Nat) (k : Nat) (D : DefOk K mg "heap_ways" sHeapWays ["sort", "v", "u"]) (M : Bi mg) (h_ways : Has P w K mg base k "ways" ["sort", "v", "u"] (spOf T K (RWays d'))) :
    Has P w K mg base (k + 1) "heap_ways" ["sort", "v", "u"] (spOf T K (RHeapW d')) := by
  have nd := scHeapWays.nd
  refine D.pure k scHeapWays (fun ds Pd h => ?_) fun f cdv A outer s H E vs ds Pd hr hT hv hR => ?_
  · obtain ⟨s, x, y, rfl, _⟩ := h
    rfl
  obtain ⟨a, v, u, rfl, hd, hw, svv, su, hcap, rfl⟩ := hR
  obtain ⟨v1, v2, v3, rfl, h1, h2, h3⟩ := dqa3 hv
  have hu : (cxOf CX0 P w K mg base nHeapWays "heap_ways" (defScope sHeapWays) f cdv A outer s H E).nox.A.units + 64 < cLine := hr.units
  have hu1 : (cxOf CX0 P w K mg base nHeapWays "heap_ways" (defScope sHeapWays) f cdv A outer s H E).nox.A.units + 1 < cLine := Nat.lt_of_le_of_lt (Nat.add_le_add_left (by decide : 1 ≤ 64) _) hu
  refine ⟨_, (pss_cons (ps_set (i := 3) nd rfl (Or.inl rfl) (pe_dispT1 hu (pe_tupRg rfl rfl (M.tuple) (prg_1 rfl (M.range) (pe_callB call_len_seq rfl (M.len) PySem.boot_len (pa_cons (pv 2) pa_nil)))) pe_int))
    (pss_cons (ps_for PassesOwn.never rfl (pi_tup (pv 1)) (pg_name (i := 4) nd rfl (Or.inr rfl)) (pss_cons (ps_setLc (i := 5) (own := [("other", 11)]) rfl nd rfl rfl (sw_true rfl rfl rfl (by decide +kernel)) (pi_tup (pv 2)) (blkOk_by (N := nHeapWays) (sc := (defScope sHeapWays)) (by decide +kernel)) (fun _ _ _ _ _ => (pg_name (i := 11) nd rfl (Or.inl rfl))) (fun _ _ _ _ _ => pts_nil) (fun _ _ _ _ _ => (pe_has h_ways hr (by omega) (pa_cons (pv 0) (pa_cons (pv 4) (pa_cons (pv 11) pa_nil))))))
    (pss_cons (ps_set (i := 6) nd rfl (Or.inl rfl) (pe_callTy (cr_copyT hu) rfl (M.dict) (by decide +kernel) (pa_cons (pv 3) pa_nil)))
    (pss_cons (ps_lock (ps_for PassesOwn.never rfl (pi_itemsT (pv 3)) (pg_tupK (n := 2) K rfl rfl (pgs_cons (pg_name (i := 7) nd rfl (Or.inl rfl)) (pgs_cons (pg_name (i := 8) nd rfl (Or.inl rfl)) pgs_nil))) (pss_one (ps_for PassesOwn.never rfl (pi_tup (pv 7)) (pg_name (i := 9) nd rfl (Or.inr rfl)) (pss_cons (ps_set (i := 10) nd rfl (Or.inl rfl) (pe_tupleOf rfl (M.tuple) (pe_lc (own := [("other", 11)]) rfl nd (pi_tup (pv 7)) (blkOk_by (N := nHeapWays) (sc := (defScope sHeapWays)) (by decide +kernel)) (fun _ _ _ _ _ => (pg_name (i := 11) nd rfl (Or.inl rfl))) (fun _ _ _ _ _ => (pts_one (pt_cmpR op_ne (pv 11) (pv 9) (nomark _)))) (fun _ _ _ _ _ => (pv 11)))))
    (pss_one (ps_dput hu1 (pv 6) (pv 10) (pe_op op_add (pe_dget2 hu1 (pv 6) (pv 10) pe_int ⟨rfl, rfl, rfl, rfl⟩) (pe_op op_mul (pv 8) (pe_ix ix_list (pv 5) (pv 9) (fun _ _ => rfl)))) rfl)))))))
    (pss_one (ps_set (i := 3) nd rfl (Or.inl rfl) (pv 6)))))))
    (pss_one (ps_ret (pe_callB (cr_sumV rfl) rfl (M.sum) (by decide +kernel) (pa_cons (pe_bm0 PySem.F.plainAttrs_dict PySem.F.slot_dict_values PySem.F.type_dict_values mt_valuesT (pv 3)) pa_nil)))))), ?_⟩
  intro H0 g0 D q
  have h1 := dq_ext g0.ext h1
  have h2 := dq_ext g0.ext h2
  have h3 := dq_ext g0.ext h3
  have q' : ∀ v_1 H2, Gr T H0 H2 → Dq K H2 v_1 (.int ((heapW (ways a) v u : Nat) : Int)) → D.rt v_1 H2 := fun a b c e => q a _ b c e rfl
  have hu2 := su.1
  have hv2 := svv.1
  have L1 : ∀ (σ : L2.St) (H : Hp), σ[2]? = some (some v3) → Gr T H0 H → EvD K T (tCB (fun xs H Q => ∃ p n, xs = [V.ref p] ∧ ((SqL K H p n) ∨ SqT K H p n) ∧ Q (.int n.length) H) (tCons (tVar 2) tNil)) σ H (.int ((u.length : Nat) : Int)) := fun σ H hσ g => by
    have z := ed_lenT (T := T) (ed_var (T := T) (K := K) (σ := σ) (i := 2) hσ (dq_ext g.ext h3))
    rw [List.length_map] at z
    exact z
  obtain ⟨va, vs, rfl, hva, dva⟩ := dp_tup (show Dp K H0 v2 (.tuple (v.map (enc a))) from h2)
  have hlv := dps_len dva
  rw [List.length_map] at hlv
  refine s_seq (s_asg ?_)
  intro S hS
  have g1 : Gr T H0 (upd H0 S (.dT [])) := .new g0.tab hS
  refine tupRg_run (L1 (start nHeapWays [v1, .ref va, v3]) _ rfl g1) (by omega) g1.self fun H2 b g2 hb => ?_
  have hS2 : H2 S = some (.dT []) := g2.stay upd_same True.intro
  have nbS : S ≠ b := fun z => by rw [← z, hS2] at hb; cases hb
  refine ⟨by rw [upd_ne nbS]; exact hS2, nk (List.range u.length), b, rfl, by rw [upd_same, rgV_nk], ?_⟩
  have g3 : Gr T H0 (upd (upd H2 b (.tup (rgV 0 ((u.length : Nat) : Int)))) S (.dT (sv [(List.range u.length, 1)]))) := ((g1.trans g2).add hb).mut (o0 := .dT []) (.none hS) (by rw [upd_ne nbS]; exact hS2) True.intro
  show tSeq _ _ D _ (upd (upd H2 b (.tup (rgV 0 ((u.length : Nat) : Int)))) S (.dT (sv [(List.range u.length, 1)])))
  refine s_seq ⟨.ref va, rfl, va, rfl, ⟨vs, st_ext g3.ext hva⟩, for_tup (xs := vs) (fun k σ H' => ∃ (S : Addr) (d : Sums) (o4 o5 o6 o7 o8 o9 o10 o11 : Option V), σ = [some v1, some (.ref va), some v3, some (.ref S), o4, o5, o6, o7, o8, o9, o10, o11] ∧ H' S = some (.dT (sv d)) ∧ Nw H0 S ∧ SOk u.length d ∧ v.foldl (hwStep (ways a) u) [(List.range u.length, 1)] = (v.drop k).foldl (hwStep (ways a) u) d ∧ Gr T H0 H') ?_ ?_ ?_ ?_⟩
  · exact ⟨S, _, none, none, none, none, none, none, none, none, rfl, upd_same, .none hS, sok_start _, rfl, g3⟩
  · rintro i σ H' _ ⟨_, _, _, _, _, _, _, _, _, _, _, _, _, _, _, g⟩
    exact st_ext g.ext hva
  · rintro k y σ H' hy ⟨S, d, o4, o5, o6, o7, o8, o9, o10, o11, rfl, hS', nS, sd, he, g'⟩
    have hk : k < v.length := by
      have := (List.getElem?_eq_some_iff.mp hy).1
      omega
    obtain ⟨d0, e1, e2⟩ := dps_at dva hy
    obtain ⟨x0, ex⟩ : ∃ x0, v[k]? = some x0 := ⟨_, List.getElem?_eq_getElem hk⟩
    rw [List.getElem?_map, ex] at e1
    cases e1
    have hx0 : Dq K H0 y (.d (enc a x0)) := .of e2 (enc_nl _ _)
    have sx0 := svv.2 x0 (List.mem_of_getElem? ex)
    have hdv : v.drop k = x0 :: v.drop (k + 1) := by
      rw [List.drop_eq_getElem_cons hk]
      rw [List.getElem?_eq_getElem hk] at ex
      rw [Option.some.inj ex]
    have hcap' : wcap a ≤ cap0 := by
      refine Nat.le_trans ?_ hcap
      show wcap a ≤ (1 + 2 * wcap a) * (1 + 2 * wcap a)
      have := Nat.mul_le_mul_left (1 + 2 * wcap a) (show 1 ≤ 1 + 2 * wcap a by omega)
      omega
    -- the row of ways
    have row0 : EvL K T (tLc (iTup K (tVar 2)) (gName 11) tYes (tCall (spOf T K (RWays d')) [] E0 (tCons (tVar 0) (tCons (tVar 4) (tCons (tVar 11) tNil)))) [11]) [some v1, some (.ref va), some v3, some (.ref S), some y, o5, o6, o7, o8, o9, o10, o11] H' (u.map fun y0 => .int ((ways a x0 y0 : Nat) : Int)) :=
      el_lcTM u (enc a) (fun y0 => .int ((ways a x0 y0 : Nat) : Int)) (ed_var rfl (dq_ext g'.ext h3)) (by omega) (by intro _; rfl) fun i y0 hy0 vv H3 g3 hvv => EvD.e (ed_call (K := K) (T := T) (R := RWays d') (ea_cons (ed_var (i := 0) rfl (dq_ext (g'.trans g3).ext h1)) (ea_cons (ed_var (i := 4) rfl (dq_ext (g'.trans g3).ext hx0)) (ea_cons (ed_var (i := 11) rfl (.of hvv (enc_nl _ _))) ea_nil))) ⟨a, x0, y0, rfl, hd, hw, sx0, su.2 y0 (List.mem_of_getElem? hy0), hcap', rfl⟩) rfl
    refine s_seq (s_asg (row0.run g'.self fun R xs H3 nR g3 hR dR => ?_))
    have eR : xs = (u.map fun y0 => ((ways a x0 y0 : Nat) : Int)).map V.int := by
      refine dps_ints (K := K) (H := H3) ?_
      rw [List.map_map]
      exact dR
    subst eR
    have hS3 := g3.stay hS' True.intro
    have gs3 := g'.trans g3
    dsimp only
    refine s_seq (s_asg ⟨.ref S, rfl, S, sv d, rfl, hS3, sd.hash _ _ hu2, fun Mp hMp => ?_⟩)
    have nSM : S ≠ Mp := fun z => by rw [← z, hS3] at hMp; cases hMp
    have nRM : R ≠ Mp := fun z => by rw [← z, hR] at hMp; cases hMp
    have nM : Nw H0 Mp := gs3.nn (.none hMp)
    have nSR : S ≠ R := fun z => by rw [z, hR] at hS3; cases hS3
    dsimp only
    refine s_seq ⟨S, .dT (sv d), by rw [upd_ne nSM]; exact hS3, True.intro, fun od => ?_⟩
    have gL : Gr T H0 (upd (upd H3 Mp (.dT (sv d))) S (.frz od (.dT (sv d)))) := (gs3.add hMp).mut (o0 := .dT (sv d)) nS (by rw [upd_ne nSM]; exact hS3) True.intro
    let row : Nat → Nat := fun p => ((u[p]?).map fun y => ways a x0 y).getD 0
    refine ⟨.ref S, rfl, S, od, sv d, rfl, upd_same, for_itemsT (fun i σ H'' => ∃ (more : Sums) (o7 o8 o9 o10 : Option V), σ = [some v1, some (.ref va), some v3, some (.ref S), some y, some (.ref R), some (.ref Mp), o7, o8, o9, o10, o11] ∧ H'' Mp = some (.dT (sv more)) ∧ SOk u.length more ∧ d.foldl (hwLeft row) d = (d.drop i).foldl (hwLeft row) more ∧ H'' S = some (.frz od (.dT (sv d))) ∧ H'' R = some (.lst ((u.map fun y0 => ((ways a x0 y0 : Nat) : Int)).map V.int)) ∧ Gr T H0 H'') ?_ ?_ ?_ ?_⟩
    · exact ⟨d, o7, o8, o9, o10, rfl, by rw [upd_ne nSM.symm, upd_same], sd, rfl, upd_same, by rw [upd_ne nSR.symm, upd_ne nRM]; exact hR, gL⟩
    · rintro i σ H'' _ ⟨_, _, _, _, _, _, _, _, _, h, _⟩
      exact h
    · rintro i kk vv σ H4 hkv ⟨more, o7, o8, o9, o10, rfl, hM4, sm, hf, hS4, hR4, g4⟩ t qa ht hq
      have hi : i < d.length := by
        have := (List.getElem?_eq_some_iff.mp hkv).1
        simpa [K16.sv] using this
      obtain ⟨⟨l, n⟩, ed⟩ : ∃ x, d[i]? = some x := ⟨_, List.getElem?_eq_getElem hi⟩
      have e3 : (sv d)[i]? = some (nk l, .int ((n : Nat) : Int)) := by
        unfold K16.sv
        rw [List.getElem?_map, ed]
        rfl
      rw [e3] at hkv
      cases hkv
      have hl : l.Nodup ∧ ∀ p ∈ l, p < u.length := sd.2 _ (List.mem_of_getElem? ed)
      have hld : d.drop i = (l, n) :: d.drop (i + 1) := by
        rw [List.drop_eq_getElem_cons hi]
        rw [List.getElem?_eq_getElem hi] at ed
        rw [Option.some.inj ed]
      have hll : l.length ≤ 2 := by
        have := nodup_sub_len l (List.range u.length) hl.1 fun p hp => List.mem_range.mpr (hl.2 p hp)
        rw [List.length_range] at this
        omega
      have hq4 : H4 qa = some (.tup (l.map fun n => V.int ((n : Nat) : Int))) := by rw [nk_kV] at hq; exact hq
      have ne : ∀ {b o o'}, H4 b = some o → upd H4 t o' b = some o := fun {b o o'} e => by rw [upd_ne (ne_of_none e ht)]; exact e
      have nqM : qa ≠ Mp := fun z => by rw [z, hM4] at hq4; cases hq4
      refine ⟨t, _, rfl, .of upd_same, rfl, _, _, rfl, _, _, rfl, rfl, ?_⟩
      refine ⟨.ref qa, rfl, qa, rfl, ⟨l.map fun n => V.int ((n : Nat) : Int), .of (ne hq4)⟩, for_tup (xs := l.map fun n => V.int ((n : Nat) : Int)) (fun j σ H5 => ∃ (mo : Sums) (o9 o10 : Option V), σ = [some v1, some (.ref va), some v3, some (.ref S), some y, some (.ref R), some (.ref Mp), some (.ref qa), some (.int ((n : Nat) : Int)), o9, o10, o11] ∧ H5 Mp = some (.dT (sv mo)) ∧ SOk u.length mo ∧ l.foldl (hwPlace row l n) more = (l.drop j).foldl (hwPlace row l n) mo ∧ H5 S = some (.frz od (.dT (sv d))) ∧ H5 R = some (.lst ((u.map fun y0 => ((ways a x0 y0 : Nat) : Int)).map V.int)) ∧ H5 qa = some (.tup (l.map fun n => V.int ((n : Nat) : Int))) ∧ Gr T H0 H5) ?_ ?_ ?_ ?_⟩
      · exact ⟨more, o9, o10, rfl, ne hM4, sm, rfl, ne hS4, ne hR4, ne hq4, g4.add ht⟩
      · rintro j σ H5 _ ⟨_, _, _, _, _, _, _, _, _, h, _⟩
        exact .of h
      · rintro j w0 σ H5 hw0 ⟨mo, o9, o10, rfl, hM5, sm5, hf5, hS5, hR5, hq5, g5⟩
        have hj : j < l.length := by
          have := (List.getElem?_eq_some_iff.mp hw0).1
          simpa using this
        obtain ⟨p, ep⟩ : ∃ p, l[j]? = some p := ⟨_, List.getElem?_eq_getElem hj⟩
        rw [List.getElem?_map, ep] at hw0
        cases hw0
        have hlj : l.drop j = p :: l.drop (j + 1) := by
          rw [List.drop_eq_getElem_cons hj]
          rw [List.getElem?_eq_getElem hj] at ep
          rw [Option.some.inj ep]
        have hp := hl.2 p (List.mem_of_getElem? ep)
        obtain ⟨y0, ey⟩ : ∃ y0, u[p]? = some y0 := ⟨_, List.getElem?_eq_getElem hp⟩
        have sy0 := su.2 y0 (List.mem_of_getElem? ey)
        have lD : Dq K H5 (.ref qa) (.tuple (l.map fun n => .int ((n : Nat) : Int))) := .tup (.of hq5) (dps_nv l)
        have comp : EvL K T (tLc (iTup K (tVar 7)) (gName 11) (tTest (tOp rNe (tVar 11) (tVar 9))) (tVar 11) [11]) [some v1, some (.ref va), some v3, some (.ref S), some y, some (.ref R), some (.ref Mp), some (.ref qa), some (.int ((n : Nat) : Int)), some (.int ((p : Nat) : Int)), o10, o11] H5 ((l.filter fun o => decide (o ≠ p)).map fun n => .int ((n : Nat) : Int)) :=
          el_lcT l (fun n => .int ((n : Nat) : Int)) (fun o => decide (o ≠ p)) (fun n => .int ((n : Nat) : Int)) (ed_var rfl lD) (by omega) (by intro _; rfl)
            (fun i x hx v H6 g6 hv => (eb_test (K := K) (ed_neI (x := ((x : Nat) : Int)) (y := ((p : Nat) : Int)) (ed_var rfl (by cases hv; exact .int)) (ed_var rfl .int))).is (by
              by_cases c : x = p
              · simp [c]
              · simp [c]
                omega))
            fun i x hx _ v H6 g6 hv => EvD.e (ed_var rfl (.of hv (fun _ z => nomatch z))) rfl
        refine s_seq (s_asg (comp.run g5.self fun A xs H6 nA g6 hA dA => .inl ⟨A, xs, rfl, .of hA, fun rb hrb => ?_⟩))
        have eA : xs = (nk (l.filter fun o => decide (o ≠ p))).map kV := by
          rw [nk_kV]
          have e := dps_ints (K := K) (H := H6) (bs := (l.filter fun o => decide (o ≠ p)).map fun n => ((n : Nat) : Int)) (by rw [List.map_map]; exact dA)
          rw [e, List.map_map]
          rfl
        subst eA
        have hM6 := g6.stay hM5 True.intro
        have hR6 := g6.stay hR5 True.intro
        have hS6 : H6 S = some (.frz od (.dT (sv d))) := g6.ext _ _ hS5 fun _ z => nomatch z
        have hq6 := g6.stayT hq5
        have ne6 : ∀ {b o o'}, H6 b = some o → upd H6 rb o' b = some o := fun {b o o'} e => by rw [upd_ne (ne_of_none e hrb)]; exact e
        have hM7 : upd H6 rb (.tup ((nk (l.filter fun o => decide (o ≠ p))).map kV)) Mp = some (.dT (sv mo)) := ne6 hM6
        have hrb7 : upd H6 rb (.tup ((nk (l.filter fun o => decide (o ≠ p))).map kV)) rb = some (.tup ((nk (l.filter fun o => decide (o ≠ p))).map kV)) := upd_same
        have hgx : (u.map fun y0 => ((ways a x0 y0 : Nat) : Int)).map V.int = u.map fun y0 => V.int ((ways a x0 y0 : Nat) : Int) := by rw [List.map_map]; rfl
        have hrow : ((u.map fun y0 => ((ways a x0 y0 : Nat) : Int)).map V.int)[p]? = some (.int ((ways a x0 y0 : Nat) : Int)) := by rw [hgx, List.getElem?_map, ey]; rfl
        have hwle : ways a x0 y0 ≤ 2000 := Nat.le_trans (ways_le a x0 y0 sx0 sy0) hcap'
        dsimp only
        refine ⟨.ref Mp, rfl, Mp, rfl, .inr ⟨_, .inl hM7⟩, .ref rb, rfl, _, DGet.t hM7 hrb7, ?_⟩
        refine ⟨.int ((n : Nat) : Int), rfl, .ref R, rfl, .int ((p : Nat) : Int), rfl, R, _, ((p : Nat) : Int), _, rfl, rfl, .of (ne6 hR6), at_nat hrow, ((n : Nat) : Int), ((ways a x0 y0 : Nat) : Int), rfl, rfl, .inr ⟨by omega, by omega⟩, ?_⟩
        refine ⟨_, _, sv_get mo _, rfl, ?_⟩
        have ev : (((lookS mo (l.filter fun o => decide (o ≠ p)) : Nat) : Int) + ((n : Nat) : Int) * ((ways a x0 y0 : Nat) : Int)) = ((lookS mo (l.filter fun o => decide (o ≠ p)) + n * row p : Nat) : Int) := by
          have er : row p = ways a x0 y0 := by
            show ((u[p]?).map fun y => ways a x0 y).getD 0 = _
            rw [ey]
            rfl
          rw [er, Int.natCast_add, Int.natCast_mul]
        have dput : DPut (upd H6 rb (.tup ((nk (l.filter fun o => decide (o ≠ p))).map kV))) Mp (.ref rb) (.int (((lookS mo (l.filter fun o => decide (o ≠ p)) : Nat) : Int) + ((n : Nat) : Int) * ((ways a x0 y0 : Nat) : Int))) (upd (upd H6 rb (.tup ((nk (l.filter fun o => decide (o ≠ p))).map kV))) Mp (.dT (sv (hwPlace row l n mo p)))) := by
          rw [ev]
          show DPut _ _ _ _ (upd _ Mp (.dT (sv (putS mo _ _))))
          rw [← sv_put sm5.1]
          refine DPut.t hM7 hrb7 ?_
          have := sm5.len hu2
          rw [sizeLine_eq]
          omega
        refine ⟨.ref Mp, rfl, .ref rb, rfl, Mp, _, rfl, dput, ?_⟩
        · refine ⟨_, _, _, rfl, upd_same, sm5.place (row := row) (many := n) (p := p) hl, ?_, ?_, ?_, ?_, ?_⟩
          · rw [hf5, hlj, List.foldl_cons]
          · rw [upd_ne nSM]; exact ne6 hS6
          · rw [upd_ne nRM]; exact ne6 hR6
          · rw [upd_ne nqM]; exact ne6 hq6
          · exact ((g5.trans g6).add hrb).mut (o0 := .dT (sv mo)) nM hM7 True.intro
      · rintro σ H5 ⟨mo, o9, o10, rfl, hM5, sm5, hf5, hS5, hR5, hq5, g5⟩
        rw [List.length_map, List.drop_length] at hf5
        refine ⟨mo, some (.ref qa), some (.int ((n : Nat) : Int)), o9, o10, rfl, hM5, sm5, ?_, hS5, hR5, g5⟩
        rw [hf, hld, List.foldl_cons, show hwLeft row more (l, n) = mo from hf5]
    · rintro σ H4 ⟨more, o7, o8, o9, o10, rfl, hM4, sm, hf, hS4, hR4, g4⟩
      refine ⟨hS4, ?_⟩
      dsimp only
      refine s_asg ⟨.ref Mp, rfl, ?_⟩
      refine ⟨Mp, more, some y, some (.ref R), some (.ref Mp), o7, o8, o9, o10, o11, rfl, by rw [upd_ne nSM.symm]; exact hM4, nM, sm, ?_, g4.mutF nS hS4⟩
      rw [he, hdv, List.foldl_cons]
      have ls : (sv d).length = d.length := by simp [K16.sv]
      rw [ls, List.drop_length] at hf
      rw [show hwStep (ways a) u d x0 = more from hf]
  · rintro σ H' ⟨S, d, o4, o5, o6, o7, o8, o9, o10, o11, rfl, hS', nS, sd, he, g'⟩
    rw [hlv, List.drop_length] at he
    dsimp only
    refine s_ret ⟨.ref S, rfl, .inr (.inr (.inl ⟨rfl, .inr ⟨_, hS'⟩⟩)), S, _, rfl, rfl, hS', fun p hp => ?_⟩
    have nSp : S ≠ p := fun z => by rw [← z, hS'] at hp; cases hp
    refine ⟨p, S, sv d, _, rfl, upd_same, by rw [upd_ne nSp]; exact hS', sv_vals d, ?_⟩
    refine q' _ _ (g'.add hp) ?_
    rw [sv_total, show heapW (ways a) v u = total d from by unfold heapW; rw [he]; rfl]
    exact .int
end
end K16

end K16R14Text
section K16R15Text
set_option autoImplicit false
set_option linter.all false
set_option maxRecDepth 100000
set_option Elab.async false
set_option pp.maxSteps 700
set_option pp.deepTerms false
set_option pp.deepTerms.threshold 4
namespace K16
open PySem PySem.Spec PyProof.Rows L2
section
variable {P : Program} {w : World} {K : PySem.W.Frag} {mg : Str → Option Value} {base : Heap} {T : Tb} {aS : Addr}
theorem hasOneForm (d : Nat) (D : DefOk K mg "one_form" sOneForm ["sort", "data"]) (M : Bi mg) (C : Cn K mg aS) (kS : ∀ H, Kn K H aS ["left", "right"]) (h_one_form : Has P w K mg base (d + 5) "one_form" ["sort", "data"] (spOf T K (ROne d))) (h_sorted_values : Has P w K mg base (d + 4) "sorted_values" ["sort", "values"] (spOf T K (RSort d))) :
    Has P w K mg base (d + 6) "one_form" ["sort", "data"] (spOf T K (ROne (d + 1))) := by
  have nd := scOneForm.nd
  refine D.pure (d + 5) scOneForm (fun ds Pd h => ?_) fun f cdv A outer s H E vs ds Pd hr hT hv hR => ?_
  · obtain ⟨s, x, rfl, _⟩ := h
    rfl
  obtain ⟨so, x, rfl, hd, hw, sx, rfl⟩ := hR
  obtain ⟨v1, v2, rfl, h1, h2⟩ := dqa2 hv
  refine ⟨_, (pss_cons (ps_set (i := 2) nd rfl (Or.inl rfl) (pe_ix ix_tup (pv 0) pe_int (fun _ _ => rfl)))
    (pss_cons (ps_if (pt_cmpR op_in_seq (pv 2) (pe_tup (pa_cons pe_str (pa_cons pe_str pa_nil))) (by rfl)) (pss_one (ps_ret (pv 1))) pss_nil)
    (pss_cons (ps_if (pt_cmpR op_eq (pv 2) pe_str (nomark _)) (pss_one (ps_ret (pe_tup (pa_cons (pe_has h_one_form hr (by omega) (pa_cons (pe_ix ix_tup (pv 0) pe_int (fun _ _ => rfl)) (pa_cons (pe_ix ix_tup (pv 1) pe_int (fun _ _ => rfl)) pa_nil))) (pa_cons (pe_has h_one_form hr (by omega) (pa_cons (pe_ix ix_tup (pv 0) pe_int (fun _ _ => rfl)) (pa_cons (pe_ix ix_tup (pv 1) pe_int (fun _ _ => rfl)) pa_nil))) pa_nil))))) pss_nil)
    (pss_cons (ps_if (pt_cmpR op_eq (pv 2) pe_str (nomark _)) (pss_one (ps_ret (pe_tup (pa_cons (pe_ix ix_tup (pv 1) pe_int (fun _ _ => rfl)) (pa_cons (pe_has h_one_form hr (by omega) (pa_cons (pe_ix ix_tup (pv 0) (pe_op op_add pe_int (pe_tix (pe_glob (v := .ref aS) rfl C.sides rfl) (pa_cons (pe_ix ix_tup (pv 1) pe_int (fun _ _ => rfl)) pa_nil))) (fun _ _ => rfl)) (pa_cons (pe_ix ix_tup (pv 1) pe_int (fun _ _ => rfl)) pa_nil))) pa_nil))))) pss_nil)
    (pss_cons (ps_setLc (i := 3) (own := [("one", 4)]) rfl nd rfl rfl (sw_true rfl rfl rfl (by decide +kernel)) (pi_tup (pv 1)) (blkOk_by (N := nOneForm) (sc := (defScope sOneForm)) (by decide +kernel)) (fun _ _ _ _ _ => (pg_name (i := 4) nd rfl (Or.inl rfl))) (fun _ _ _ _ _ => pts_nil) (fun _ _ _ _ _ => (pe_has h_one_form hr (by omega) (pa_cons (pe_ix (r := rIxT K) ix_tup (pv 0) pe_int (fun _ _ => rfl)) (pa_cons (pv 4) pa_nil)))))
    (pss_one (ps_ret (pe_tupleOf rfl (M.tuple) (pe_ifExp (pt_cmpR op_eq (pv 2) pe_str (nomark _)) (pv 3) (pe_has h_sorted_values hr (by omega) (pa_cons (pe_ix ix_tup (pv 0) pe_int (fun _ _ => rfl)) (pa_cons (pv 3) pa_nil)))))))))))), ?_⟩
  refine rd_set (ed_tag (ed_var rfl h1) ed_int) fun k H1 g1 hk => ?_
  have h1 := dq_ext g1.ext h1
  have h2 := dq_ext g1.ext h2
  have fl := eb_flat (K := K) (T := T) (H := H1) (ta := tVar 2) (σ := (start nOneForm [v1, v2]).set 2 (some k)) (ed_var rfl hk)
  cases so with
  | mark ls => exact rd_yes fl (rd_ret (ed_var rfl h2))
  | count => exact rd_yes fl (rd_ret (ed_var rfl h2))
  | both a b =>
    have d1 : dep a < d := by simp only [dep] at hd; omega
    have d2 : dep b < d := by simp only [dep] at hd; omega
    refine rd_no fl (rd_yes (eb_tag (m := 2) (ed_var rfl hk) ed_str) (rd_ret ?_))
    exact ed_tup (ea_cons (ed_call (K := K) (T := T) (R := ROne d) (ea_cons (ed_sub (ed_var rfl h1) ed_int rfl) (ea_cons (ed_ixT (n := 0) (ed_var rfl h2) ed_int rfl (enc_nl _ _)) ea_nil)) ⟨a, x.1, rfl, d1, hw.1, sx.1, rfl⟩)
      (ea_cons (ed_call (K := K) (T := T) (R := ROne d) (ea_cons (ed_sub (ed_var rfl h1) ed_int rfl) (ea_cons (ed_ixT (n := 1) (ed_var rfl h2) ed_int rfl (enc_nl _ _)) ea_nil)) ⟨b, x.2, rfl, d2, hw.2, sx.2, rfl⟩) ea_nil)) rfl (by simp)
  | either a b =>
    have d1 : dep a < d := by simp only [dep] at hd; omega
    have d2 : dep b < d := by simp only [dep] at hd; omega
    refine rd_no fl (rd_no (eb_tag (m := 2) (ed_var rfl hk) ed_str) (rd_yes (eb_tag (m := 3) (ed_var rfl hk) ed_str) (rd_ret ?_)))
    cases x with
    | inl x => exact ed_tup (ea_cons (ed_ixT (n := 0) (ed_var rfl h2) ed_int rfl (fun _ z => nomatch z)) (ea_cons (ed_call (K := K) (T := T) (R := ROne d) (ea_cons (ed_sub (n := 1) (ed_var rfl h1) (ed_sideL kS (ed_ixT (n := 0) (ed_var rfl h2) ed_int rfl (fun _ z => nomatch z))) rfl) (ea_cons (ed_ixT (n := 1) (ed_var rfl h2) ed_int rfl (enc_nl _ _)) ea_nil)) ⟨a, x, rfl, d1, hw.1, sx, rfl⟩) ea_nil)) rfl (by simp)
    | inr x => exact ed_tup (ea_cons (ed_ixT (n := 0) (ed_var rfl h2) ed_int rfl (fun _ z => nomatch z)) (ea_cons (ed_call (K := K) (T := T) (R := ROne d) (ea_cons (ed_sub (n := 2) (ed_var rfl h1) (ed_sideR kS (ed_ixT (n := 0) (ed_var rfl h2) ed_int rfl (fun _ z => nomatch z))) rfl) (ea_cons (ed_ixT (n := 1) (ed_var rfl h2) ed_int rfl (enc_nl _ _)) ea_nil)) ⟨b, x, rfl, d2, hw.2, sx, rfl⟩) ea_nil)) rfl (by simp)
  | lane a =>
    have d1 : dep a < d := Nat.lt_of_succ_lt_succ hd
    have sx1 : (x : List (Va a)).length ≤ 8 := sx.1
    refine rd_no fl (rd_no (eb_tag (m := 2) (ed_var rfl hk) ed_str) (rd_no (eb_tag (m := 3) (ed_var rfl hk) ed_str) ?_))
    refine rd_set (EvL.toD (el_lcTM (x : List (Va a)) (enc a) (fun y => enc a (form a y)) (ed_var rfl h2) (by omega) (by intro _; rfl) fun i y hy v H3 g3 hv => EvD.e (ed_call (K := K) (T := T) (R := ROne d) (ea_cons (ed_sub (n := 1) (ed_var rfl (dq_ext g3.ext h1)) ed_int rfl) (ea_cons (ed_var rfl (.of hv (enc_nl _ _))) ea_nil)) ⟨a, y, rfl, d1, hw, sx.2 y (List.mem_of_getElem? hy), rfl⟩) (noL_enc _ _))) fun F H2 g2 hF => ?_
    refine rd_ret ((ed_tupL (ed_if (eb_tag (m := 4) (ed_var rfl (dq_ext g2.ext hk)) ed_str) (fun _ => ed_var rfl hF) fun z => nomatch z)).is ?_)
    show De.d (.tuple ((x : List (Va a)).map fun y => enc a (form a y))) = .d (.tuple (((x : List (Va a)).map (form a)).map (enc a)))
    rw [List.map_map]
    rfl
  | heap a =>
    have d1 : dep a < d := Nat.lt_of_succ_lt_succ hd
    have sx1 : (x : List (Va a)).length ≤ 8 := sx.1
    refine rd_no fl (rd_no (eb_tag (m := 2) (ed_var rfl hk) ed_str) (rd_no (eb_tag (m := 3) (ed_var rfl hk) ed_str) ?_))
    refine rd_set (EvL.toD (el_lcTM (x : List (Va a)) (enc a) (fun y => enc a (form a y)) (ed_var rfl h2) (by omega) (by intro _; rfl) fun i y hy v H3 g3 hv => EvD.e (ed_call (K := K) (T := T) (R := ROne d) (ea_cons (ed_sub (n := 1) (ed_var rfl (dq_ext g3.ext h1)) ed_int rfl) (ea_cons (ed_var rfl (.of hv (enc_nl _ _))) ea_nil)) ⟨a, y, rfl, d1, hw, sx.2 y (List.mem_of_getElem? hy), rfl⟩) (noL_enc _ _))) fun F H2 g2 hF => ?_
    refine rd_ret (ed_tupL (ds := (sortV a ((x : List (Va a)).map (form a))).map (enc a)) (ed_if (eb_tag (m := 4) (ed_var rfl (dq_ext g2.ext hk)) ed_str) (fun z => nomatch z) fun _ => ed_call (K := K) (T := T) (R := RSort d) (ea_cons (ed_sub (n := 1) (ed_var rfl (dq_ext g2.ext h1)) ed_int rfl) (ea_cons (ed_var rfl hF) ea_nil)) ⟨a, (x : List (Va a)).map (form a), _, rfl, .inl (by rw [List.map_map]; rfl), d1, hw, fun v hv => ?_, rfl⟩))
    obtain ⟨y, hy, rfl⟩ := List.mem_map.mp hv
    exact form_sm (sx.2 y hy)
end
end K16

end K16R15Text
section K16PText
set_option autoImplicit false
set_option linter.all false
set_option maxRecDepth 100000
set_option Elab.async false
set_option pp.maxSteps 700
set_option pp.deepTerms false
set_option pp.deepTerms.threshold 4
/-! Rows of lists; tuples with a star. -/
namespace K16
open PySem PySem.Spec PyProof.Rows L2
section
variable {K : PySem.W.Frag} {T : Tb} {H H1 : Hp} {σ : L2.St} {ta tb tl te : TE} {tt : TT} {vs : List Nat} {j : Nat}
theorem el_lcRs {tA : TA} (n : Nat) (p : Nat → Bool) (g : Nat → PyData) (hs : EvA K T tA σ H [.int (n : Int)]) (hl : n < 100000) (hw : ∀ v, wipe ((wipe σ vs).set j (some v)) vs = wipe σ vs)
    (ht : ∀ (i : Nat), i < n → ∀ H1, Gr T H H1 → EvB T tt ((wipe σ vs).set j (some (.int (i : Int)))) H1 (p i))
    (he : ∀ (i : Nat), i < n → p i = true → ∀ H1, Gr T H H1 → EvE K T te ((wipe σ vs).set j (some (.int (i : Int)))) H1 (g i)) :
    EvLs K T (tLc (iRng1 tA) (gName j) tt te vs) σ H (((List.range n).filter p).map g) := fun H0 g0 Q q => hs H0 g0 _ fun us H1 g1 hv => by
  have e : us = [.int (n : Int)] := by
    cases hv with
    | cons h t =>
      cases t
      rw [dq_int h]
  refine ⟨(n : Int), e, by omega, by omega, fun D hD => ?_⟩
  have en : ((n : Int)).toNat = n := by omega
  rw [en]
  refine lc_range (lo := 0) (n := n) (fun i H' => Cw K T H1 D ((((List.range n).take i).filter p).map g) H') (by simpa using Cw.start g1.tab hD) (fun i H' hi c => ?_) fun H' c => ?_
  · have e0 : (0 : Int) + (i : Int) = (i : Int) := Int.zero_add _
    rw [e0]
    refine ⟨hw _, ?_⟩
    have ex : (List.range n)[i]? = some i := List.getElem?_range hi
    rw [take_filter_map ex]
    exact Cw.turn (d := g i) c (Nat.lt_of_le_of_lt (len_tfm _ p g i) (by simpa using hl)) (ht i hi H1 (g0.trans g1)) (fun hp => he i hi hp H1 (g0.trans g1))
  · rw [List.take_of_length_le (by simp)] at c
    obtain ⟨hD, gg, acc, e1, e2⟩ := c
    exact q D acc H' (g1.nn hD) (g1.trans gg) e1 (F2.imp (fun _ _ h => El.base g1 h) e2)
theorem rep_row {n : Nat} {d : PyData} (ha : EvD K T ta σ H (.d d)) (hb : EvD K T tb σ H (.int (n : Int))) (hl : n ≤ 100000) (g : Gr T H H1) {Q : VK}
    (k : ∀ R b x H2, Nw H1 R → Nw H1 b → b ≠ R → Gr T H1 H2 → H2 R = some (.lst (List.replicate n (.ref b))) → H2 b = some (.lst [x]) → Dp K H2 x d → Q (.ref R) H2) : tOp rRep (tLst (tCons (tLst (tCons ta tNil)) tNil)) tb σ H1 Q := by
  refine ha.run g fun x H2 g2 hx => ?_
  refine ⟨by show 1 ≤ sizeLine; decide, fun b hb1 => ?_⟩
  refine ⟨by show 1 ≤ sizeLine; decide, fun p1 hp1 => ?_⟩
  have gb : Gr T H1 (upd H2 b (.lst [x])) := g2.add hb1
  have gp : Gr T H1 (upd (upd H2 b (.lst [x])) p1 (.lst [.ref b])) := gb.add hp1
  refine hb.run (g.trans gp) fun w H3 g3 hw => ?_
  obtain rfl := dq_int hw
  have nbp : b ≠ p1 := ne_of_none upd_same hp1
  have h3b : H3 b = some (.lst [x]) := g3.stay (by rw [upd_ne nbp]; exact upd_same) True.intro
  refine ⟨p1, (n : Int), [.ref b], rfl, rfl, g3.stay upd_same True.intro, by omega, by omega, by simpa using sz hl, fun R hR => ?_⟩
  have e : (List.replicate ((n : Int)).toNat [V.ref b]).flatten = List.replicate n (.ref b) := by
    rw [Int.toNat_natCast]
    exact rep_one n _
  rw [e]
  have nbR : b ≠ R := ne_of_none h3b hR
  have g4 := gp.trans g3
  refine k R b x _ (g4.nn (nw_none hR)) (g2.nn (nw_none hb1)) nbR (g4.add hR) upd_same (by rw [upd_ne nbR]; exact h3b) ?_
  exact dp_ext ((((Gr.new (T := T) (g2.tab) hb1).trans (.new gb.tab hp1)).trans g3).add hR).ext hx.dp
theorem ed_tupStar {d : PyData} {ds : List PyData} (ha : EvD K T ta σ H (.d d)) (hb : EvD K T tb σ H (.tuple ds)) (hl : ds.length < 100000) : EvD K T (tTup (tCons ta (StX.tStar K tb tNil))) σ H (.tuple (d :: ds)) := .of fun H1 g Q q =>
  ha.run g fun x H2 g2 hx => hb.run (g.trans g2) fun y H3 g3 hy => by
    obtain ⟨a, xs, rfl, h1, h2⟩ := dp_tup hy
    refine ⟨a, xs, rfl, .inl h1, ?_⟩
    have hlen := dps_len h2
    refine ⟨sz (by rw [List.append_nil, List.length_cons]; omega), fun p hp => ?_⟩
    rw [List.append_nil]
    exact new_tup (g2.trans g3) hp (.cons (dp_ext g3.ext hx.dp) h2) q
end
/-- at A the list xs of lists; the one at p holds f p -/
def RwX (K : PySem.W.Frag) (H : Hp) (A : Addr) (xs : List V) (f : Nat → List PyData) (m : Nat) : Prop :=
  H A = some (.lst xs) ∧ xs.length = m + 1 ∧ ∀ p, p ≤ m → ∃ b ys, xs[p]? = some (.ref b) ∧ b ≠ A ∧ H b = some (.lst ys) ∧ DpAll K H ys (f p) ∧ noLs (f p) = true
section
variable {K : PySem.W.Frag} {T : Tb} {H H1 : Hp} {A b : Addr} {xs ys : List V} {f : Nat → List PyData} {m p : Nat} {L : List PyData}
theorem RwX.ext (h : RwX K H A xs f m) (g : Gr T H H1) : RwX K H1 A xs f m := by
  refine ⟨g.stay h.1 True.intro, h.2.1, fun p hp => ?_⟩
  obtain ⟨b, ys, h1, h2, h3, h4, h5⟩ := h.2.2 p hp
  exact ⟨b, ys, h1, h2, g.stay h3 True.intro, dps_ext g.ext h4, h5⟩
theorem RwX.set (h : RwX K H A xs f m) (hp : p ≤ m) (hb : H b = some (.lst ys)) (nb : b ≠ A) (hd : DpAll K H ys L) (hn : noLs L = true) : RwX K (upd H A (.lst (xs.set p (.ref b)))) A (xs.set p (.ref b)) (fun q => if q = p then L else f q) m := by
  refine ⟨upd_same, by rw [List.length_set]; exact h.2.1, fun q hq => ?_⟩
  rw [List.getElem?_set]
  by_cases c : p = q
  · rw [if_pos c, if_pos (by rw [h.2.1]; omega)]
    refine ⟨b, ys, rfl, nb, by rw [upd_ne nb]; exact hb, ?_, ?_⟩
    · dsimp only
      rw [if_pos c.symm]
      exact dps_upd h.1 hn hd
    · dsimp only
      rw [if_pos c.symm]
      exact hn
  · rw [if_neg c]
    obtain ⟨b1, ys1, h1, h2, h3, h4, h5⟩ := h.2.2 q hq
    refine ⟨b1, ys1, h1, h2, by rw [upd_ne h2]; exact h3, ?_, ?_⟩
    · dsimp only
      rw [if_neg (Ne.symm c)]
      exact dps_upd h.1 h5 h4
    · dsimp only
      rw [if_neg (Ne.symm c)]
      exact h5
theorem RwX.dp (h : RwX K H A xs f m) (hp : p ≤ m) : ∃ v, xs[p]? = some v ∧ Dp K H v (.list (f p)) := by
  obtain ⟨b, ys, h1, h2, h3, h4, h5⟩ := h.2.2 p hp
  exact ⟨_, h1, .lst (.of h3) h4⟩
/-- ahead[place], told weakly -/
theorem RwX.ew {σ : L2.St} {i : Nat} {tb : TE} (h : RwX K H A xs f m) (hv : σ[i]? = some (some (.ref A))) (hb : EvD K T tb σ H (.int ((p : Nat) : Int))) (hp : p ≤ m) : EvW K T (tOp (rIxL K) (tVar i) tb) σ H (.list (f p)) := fun H1 g Q q => by
  refine ⟨_, hv, hb.run g fun w H2 g2 hw => ?_⟩
  obtain rfl := dq_int hw
  obtain ⟨v, e, hd⟩ := h.dp hp
  exact ⟨A, xs, _, v, rfl, rfl, .of ((g.trans g2).stay h.1 True.intro), at_nat e, q v H2 g2 (dp_ext (g.trans g2).ext hd)⟩
theorem RwX.of_els {Hb : Hp} {g : Nat → List PyData} (hA : H A = some (.lst xs)) (h : Els K Hb H A xs ((List.range (m + 1)).map fun p => .list (g p))) : RwX K H A xs g m := by
  have hlen := F2.length h
  refine ⟨hA, by rw [hlen]; simp, fun p hp => ?_⟩
  obtain ⟨x, ex⟩ : ∃ x, xs[p]? = some x := ⟨_, List.getElem?_eq_getElem (by rw [hlen]; simp; omega)⟩
  have e2 : ((List.range (m + 1)).map fun p => PyData.list (g p))[p]? = some (.list (g p)) := by
    rw [List.getElem?_map, List.getElem?_range (by omega)]
    rfl
  obtain ⟨x', ex', hx⟩ := F2.at (R := El K Hb H A) h e2
  rw [ex] at ex'
  cases ex'
  rcases hx with ⟨z, _⟩ | ⟨p1, ys, es, e3, e4, n, h1, h2, h3⟩
  · cases z
  · cases e4
    exact ⟨p1, ys, by rw [ex, e3], n.1, h1, h2, h3⟩
end
end K16

end K16PText
section K16R17Text
set_option autoImplicit false
set_option linter.all false
set_option maxRecDepth 100000
set_option Elab.async false
set_option pp.maxSteps 700
set_option pp.deepTerms false
set_option pp.deepTerms.threshold 4
namespace K16
open PySem PySem.Spec PyProof.Rows L2
abbrev sLanesHeld : Stmt := topS 32
abbrev nLanesHeld : List Str := ["sort", "v", "u", "ahead", "begin", "row", "place", "found", "one", "rest"]
theorem scLanesHeld : FnScope nLanesHeld ["sort", "v", "u"] (defScope sLanesHeld) := ⟨rfl, rfl, rfl, by decide +kernel, rfl, by decide +kernel, by decide +kernel⟩
theorem pa_starK {X : Cx} (K : PySem.W.Frag) (hK : X.K = K) {e : Expr} {es : List Expr} {te : TE} {t : TA} {p : Pos} (he : PE X e te) (hr : PA X es t) (hs : starEach (.Starred e p :: es) X.env = (true, eval e X.env) :: starEach es X.env := by rfl) : PA X (.Starred e p :: es) (StX.tStar K te t) := by
  subst hK
  exact StX.pa_star he hr hs
def RBoth (d : Nat) (ds : List De) (P : De → Prop) : Prop := ∃ (s : So) (v u : Va s), ds = [.s s, .d (enc s v), .d (enc s u)] ∧ dep s < d ∧ Wf s ∧ Sm 2 s v ∧ Sm 2 s u ∧ wcap s ≤ cap0 ∧ P = fun r => r = Lst s (rawBoth s v u)
def RLanes (d : Nat) (ds : List De) (P : De → Prop) : Prop := ∃ (a : So) (v u : List (Va a)), ds = [.s (.lane a), .d (encs a v), .d (encs a u)] ∧ dep a < d ∧ Wf a ∧ Sms 2 a v ∧ Sms 2 a u ∧ wcap (.lane a) ≤ cap0 ∧ P = fun r => r = Lst (.lane a) (rawBoth (.lane a) v u)
/-- the lanes that hold both: rows -/
abbrev Rw (a : So) (v u : List (Va a)) : List (Va (.lane a)) := laneRows (least (.lane a)) (rawBoth a) v u
theorem noLs_encL (s : So) (l : List (Va s)) : noLs (l.map (enc s)) = true := noLs_iff.mpr fun d hd => by
  obtain ⟨x, _, rfl⟩ := List.mem_map.mp hd
  exact noL_enc s x
theorem rw_len {a : So} {v u : List (Va a)} (h1 : ∀ y ∈ v, Sm 2 a y) (h2 : ∀ y ∈ u, Sm 2 a y) {m : List (Va a)} (hm : m ∈ Rw a v u) : m.length ≤ v.length + u.length :=
  (laneRows_two (lst := least (.lane a)) (fun L m h => mem_least h) (B := rawBoth a) (Q := Sm 2 a) (R := Sm 4 a) (fun x h => sm_mono (by omega) h) (fun x y hx hy => (rawBoth_few a x y hx hy).2) v u h1 h2 m hm).1
theorem lane_vok {a : So} {x0 y0 : Va a} {v' u' bs : List (Va a)} (hcap : wcap (.lane a) ≤ cap0) (hx : Sm 2 a x0) (hy : Sm 2 a y0) (hv : ∀ y ∈ v', Sm 2 a y) (hu : ∀ y ∈ u', Sm 2 a y) (lv : v'.length ≤ 1) (lu : u'.length ≤ 1) (lb : bs.length ≤ wcap a) (hb : ∀ b ∈ bs, Sm 4 a b) :
    Vok (.lane a) ((Rw a v' (y0 :: u')).map (x0 :: ·) ++ (Rw a (x0 :: v') u').map (y0 :: ·) ++ bs.flatMap fun b => (Rw a v' u').map (b :: ·)) ∧ ((Rw a v' (y0 :: u')).map (x0 :: ·) ++ (Rw a (x0 :: v') u').map (y0 :: ·) ++ bs.flatMap fun b => (Rw a v' u').map (b :: ·)).length ≤ 2000 ∧ (Rw a v' (y0 :: u')).length ≤ 2000 ∧ (Rw a (x0 :: v') u').length ≤ 2000 ∧ (Rw a v' u').length ≤ 2000 := by
  have two : ∀ (v u : List (Va a)), (∀ y ∈ v, Sm 2 a y) → (∀ y ∈ u, Sm 2 a y) → ∀ m ∈ Rw a v u, m.length ≤ v.length + u.length ∧ ∀ y ∈ m, Sm 4 a y := fun v u h1 h2 m hm => laneRows_two (lst := least (.lane a)) (fun L m h => mem_least h) (B := rawBoth a) (Q := Sm 2 a) (R := Sm 4 a) (fun x h => sm_mono (by omega) h) (fun x y hx hy => (rawBoth_few a x y hx hy).2) v u h1 h2 m hm
  have rl : ∀ u : List (Va a), (∀ y ∈ u, Sm 2 a y) → u.length ≤ 2 → (Rw a v' u).length ≤ rcap (wcap a) v'.length := fun u h1 h2 => laneRows_len (Q := Sm 2 a) (lst := least (.lane a)) (c := wcap a) (least_len (.lane a)) (fun x y hx hy => (rawBoth_few a x y hx hy).1) v' u hv h1 h2
  have r1 : rcap (wcap a) v'.length ≤ 3 + 2 * wcap a := by
    rcases (show v'.length = 0 ∨ v'.length = 1 by omega) with e | e
    · rw [e]
      show 1 ≤ _
      omega
    · rw [e]
      show 1 + 2 * (1 * (1 + wcap a)) ≤ _
      omega
  have hyu : ∀ y ∈ y0 :: u', Sm 2 a y := fun y hm => by
    rcases List.mem_cons.mp hm with e | e
    · rw [e]; exact hy
    · exact hu y e
  have hxv : ∀ y ∈ x0 :: v', Sm 2 a y := fun y hm => by
    rcases List.mem_cons.mp hm with e | e
    · rw [e]; exact hx
    · exact hv y e
  have l0 := Nat.le_trans (rl (y0 :: u') hyu (by rw [List.length_cons]; omega)) r1
  have l2 := Nat.le_trans (rl u' hu (by omega)) r1
  have l1 : (Rw a (x0 :: v') u').length ≤ 1 + u'.length * ((3 + 2 * wcap a) * (1 + wcap a)) :=
    laneStep_len (Q := Sm 2 a) (lst := least (.lane a)) (B := rawBoth a) (x := x0) (v := v') (f := Rw a v') (c := wcap a) (F := 3 + 2 * wcap a) (least_len (.lane a)) (fun y h => (rawBoth_few a x0 y hx h).1) (fun u h1 h2 => Nat.le_trans (rl u h1 h2) r1) u' hu (by omega)
  have l3 : (bs.flatMap fun b => (Rw a v' u').map (b :: ·)).length ≤ bs.length * (3 + 2 * wcap a) := flat_len bs fun b _ => by rw [List.length_map]; exact l2
  have hc : 1 + 2 * ((3 + 2 * wcap a) * (1 + wcap a)) ≤ 2000 := hcap
  have m1 := Nat.mul_le_mul_right ((3 + 2 * wcap a) * (1 + wcap a)) lu
  have m2 := Nat.mul_le_mul_right (3 + 2 * wcap a) lb
  have m3 : (3 + 2 * wcap a) * (1 + wcap a) = (3 + 2 * wcap a) + wcap a * (3 + 2 * wcap a) := by rw [Nat.mul_add, Nat.mul_one, Nat.mul_comm (3 + 2 * wcap a) (wcap a)]
  have tot : ((Rw a v' (y0 :: u')).map (x0 :: ·) ++ (Rw a (x0 :: v') u').map (y0 :: ·) ++ bs.flatMap fun b => (Rw a v' u').map (b :: ·)).length ≤ 2000 := by
    rw [List.length_append, List.length_append, List.length_map, List.length_map]
    omega
  refine ⟨⟨by omega, fun m hm => ?_⟩, tot, by omega, by omega, by omega⟩
  have fin : ∀ (z : Va a) (m : List (Va a)), Sm 4 a z → m.length ≤ 3 → (∀ y ∈ m, Sm 4 a y) → Sm 8 (.lane a) (z :: m) := fun z m hz hm h => ⟨by show (z :: m).length ≤ 8; rw [List.length_cons]; omega, fun y hy => by
    rcases List.mem_cons.mp hy with e | e
    · rw [e]; exact sm_mono (by omega) hz
    · exact sm_mono (by omega) (h y e)⟩
  rcases List.mem_append.mp hm with hm | hm
  · rcases List.mem_append.mp hm with hm | hm
    · obtain ⟨m, hm', rfl⟩ := List.mem_map.mp hm
      have z := two v' (y0 :: u') hv hyu m hm'
      have z1 := z.1
      rw [List.length_cons] at z1
      exact fin x0 m (sm_mono (by omega) hx) (by omega) z.2
    · obtain ⟨m, hm', rfl⟩ := List.mem_map.mp hm
      have z := two (x0 :: v') u' hxv hu m hm'
      have z1 := z.1
      rw [List.length_cons] at z1
      exact fin y0 m (sm_mono (by omega) hy) (by omega) z.2
  · obtain ⟨b, hbm, hm2⟩ := List.mem_flatMap.mp hm
    obtain ⟨m, hm', rfl⟩ := List.mem_map.mp hm2
    have z := two v' u' hv hu m hm'
    have z1 := z.1
    exact fin b m (hb b hbm) (by omega) z.2
section
variable {P : Program} {w : World} {K : PySem.W.Frag} {mg : Str → Option Value} {base : Heap} {T : Tb} {aS : Addr}
theorem hasLanesHeld (d : Nat) (D : DefOk K mg "lanes_held" sLanesHeld ["sort", "v", "u"]) (M : Bi mg) (h_raw_both : Has P w K mg base (20 + 3 * d) "raw_both" ["sort", "v", "u"] (spOf T K (RBoth d))) (h_least : Has P w K mg base (16 + 3 * d) "least" ["sort", "some"] (spN T K (RLeastN (d + 1)))) :
    Has P w K mg base (21 + 3 * d) "lanes_held" ["sort", "v", "u"] (spOf T K (RLanes d)) := by
  have nd := scLanesHeld.nd
  refine D.pure (20 + 3 * d) scLanesHeld (fun ds Pd h => ?_) fun f cdv A outer s H E vs ds Pd hr hT hv hR => ?_
  · obtain ⟨s, x, y, rfl, _⟩ := h
    rfl
  obtain ⟨a, v, u, rfl, hd, hw, svv, su, hcap, rfl⟩ := hR
  obtain ⟨v1, v2, v3, rfl, h1, h2, h3⟩ := dqa3 hv
  refine ⟨_, (pss_cons (ps_setLc (i := 3) (own := [("place", 6)]) rfl nd rfl rfl (sw_true rfl rfl rfl (by decide +kernel)) (pi_range1 rfl (M.range) (pa_cons (pe_op op_add (pe_callB call_len_seq rfl (M.len) PySem.boot_len (pa_cons (pv 2) pa_nil)) pe_int) pa_nil)) (blkOk_by (N := nLanesHeld) (sc := (defScope sLanesHeld)) (by decide +kernel)) (fun _ _ _ _ _ => (pg_name (i := 6) nd rfl (Or.inl rfl))) (fun _ _ _ _ _ => pts_nil) (fun _ _ _ _ _ => (pe_lst (pa_cons (pe_slice (r := rSlA K) sl_tupA (pv 2) (po_some (pv 6)) po_none) pa_nil))))
    (pss_cons (ps_for PassesOwn.never rfl (pi_list (pe_revL (pe_listRg rfl rfl (M.list) (prg_1 rfl (M.range) (pe_callB call_len_seq rfl (M.len) PySem.boot_len (pa_cons (pv 1) pa_nil)))))) (pg_name (i := 4) nd rfl (Or.inr rfl)) (pss_cons (ps_set (i := 5) nd rfl (Or.inl rfl) (pe_op op_rep (pe_lst (pa_cons (pe_lst (pa_cons (pe_slice sl_tupA (pv 1) (po_some (pv 4)) po_none) pa_nil)) pa_nil)) (pe_op op_add (pe_callB call_len_seq rfl (M.len) PySem.boot_len (pa_cons (pv 2) pa_nil)) pe_int)))
    (pss_cons (ps_for PassesOwn.never rfl (pi_list (pe_revL (pe_listRg rfl rfl (M.list) (prg_1 rfl (M.range) (pe_callB call_len_seq rfl (M.len) PySem.boot_len (pa_cons (pv 2) pa_nil)))))) (pg_name (i := 6) nd rfl (Or.inr rfl)) (pss_cons (ps_setLc (i := 7) (own := [("rest", 9)]) rfl nd rfl rfl (sw_true rfl rfl rfl (by decide +kernel)) (pi_list (pe_ix ix_list (pv 3) (pv 6) (fun _ _ => rfl))) (blkOk_by (N := nLanesHeld) (sc := (defScope sLanesHeld)) (by decide +kernel)) (fun _ _ _ _ _ => (pg_name (i := 9) nd rfl (Or.inl rfl))) (fun _ _ _ _ _ => pts_nil) (fun _ _ _ _ _ => (pe_tup (pa_cons (pe_ix (r := rIxT K) ix_tup (pv 1) (pv 4) (fun _ _ => rfl)) (pa_starK K rfl (pv 9) pa_nil)))))
    (pss_cons (ps_set (i := 7) nd rfl (Or.inl rfl) (pe_op op_cat (pv 7) (pe_lc (own := [("rest", 9)]) rfl nd (pi_list (pe_ix ix_list (pv 5) (pe_op op_add (pv 6) pe_int) (fun _ _ => rfl))) (blkOk_by (N := nLanesHeld) (sc := (defScope sLanesHeld)) (by decide +kernel)) (fun _ _ _ _ _ => (pg_name (i := 9) nd rfl (Or.inl rfl))) (fun _ _ _ _ _ => pts_nil) (fun _ _ _ _ _ => (pe_tup (pa_cons (pe_ix (r := rIxT K) ix_tup (pv 2) (pv 6) (fun _ _ => rfl)) (pa_starK K rfl (pv 9) pa_nil)))))))
    (pss_cons (ps_for PassesOwn.never rfl (pi_list (pe_has h_raw_both hr (by omega) (pa_cons (pe_ix ix_tup (pv 0) pe_int (fun _ _ => rfl)) (pa_cons (pe_ix ix_tup (pv 1) (pv 4) (fun _ _ => rfl)) (pa_cons (pe_ix ix_tup (pv 2) (pv 6) (fun _ _ => rfl)) pa_nil))))) (pg_name (i := 8) nd rfl (Or.inr rfl)) (pss_one (ps_set (i := 7) nd rfl (Or.inl rfl) (pe_op op_cat (pv 7) (pe_lc (own := [("rest", 9)]) rfl nd (pi_list (pe_ix ix_list (pv 3) (pe_op op_add (pv 6) pe_int) (fun _ _ => rfl))) (blkOk_by (N := nLanesHeld) (sc := (defScope sLanesHeld)) (by decide +kernel)) (fun _ _ _ _ _ => (pg_name (i := 9) nd rfl (Or.inl rfl))) (fun _ _ _ _ _ => pts_nil) (fun _ _ _ _ _ => (pe_tup (pa_cons (pv 8) (pa_starK K rfl (pv 9) pa_nil)))))))))
    (pss_one (ps_asg (pe_has h_least hr (by omega) (pa_cons (pv 0) (pa_cons (pv 7) pa_nil))) (pg_sub (pv 5) (pv 6) set_list)))))))
    (pss_one (ps_set (i := 3) nd rfl (Or.inl rfl) (pv 5))))))
    (pss_one (ps_ret (pe_ix ix_list (pv 3) pe_int (fun _ _ => rfl)))))), ?_⟩
  intro H0 g0 D q
  have h1 := dq_ext g0.ext h1
  have h2 := dq_ext g0.ext h2
  have h3 := dq_ext g0.ext h3
  have q' : ∀ v_1 H2, Gr T H0 H2 → Dq K H2 v_1 (Lst (.lane a) (Rw a v u)) → D.rt v_1 H2 := fun a b c e => q a _ b c e rfl
  have hu2 := su.1
  have hv2 := svv.1
  have L1 : ∀ (σ : L2.St) (H : Hp), σ[2]? = some (some v3) → Gr T H0 H → EvD K T (tCB (fun xs H Q => ∃ p n, xs = [V.ref p] ∧ ((SqL K H p n) ∨ SqT K H p n) ∧ Q (.int n.length) H) (tCons (tVar 2) tNil)) σ H (.int ((u.length : Nat) : Int)) := fun σ H hσ g => by
    have z := ed_lenT (T := T) (ed_var (T := T) (K := K) (σ := σ) (i := 2) hσ (dq_ext g.ext h3))
    rw [List.length_map] at z
    exact z
  have LN2 : ∀ (σ : L2.St) (H : Hp), σ[2]? = some (some v3) → Gr T H0 H → EvD K T (tOp (rI0 fun i j => .int (i + j)) (tCB (fun xs H Q => ∃ p n, xs = [V.ref p] ∧ ((SqL K H p n) ∨ SqT K H p n) ∧ Q (.int n.length) H) (tCons (tVar 2) tNil)) (tC (.int 1))) σ H (.int ((u.length + 1 : Nat) : Int)) := fun σ H hσ g => ed_I0 (d := .int ((u.length + 1 : Nat) : Int)) (L1 σ H hσ g) (ed_int (n := 1)) fun _ => .int
  have L3 : ∀ (σ : L2.St) (H : Hp), σ[1]? = some (some v2) → Gr T H0 H → EvD K T (tCB (fun xs H Q => ∃ p n, xs = [V.ref p] ∧ ((SqL K H p n) ∨ SqT K H p n) ∧ Q (.int n.length) H) (tCons (tVar 1) tNil)) σ H (.int ((v.length : Nat) : Int)) := fun σ H hσ g => by
    have z := ed_lenT (T := T) (ed_var (T := T) (K := K) (σ := σ) (i := 1) hσ (dq_ext g.ext h2))
    rw [List.length_map] at z
    exact z
  -- the first row
  have row0 : EvLs K T (tLc (iRng1 (tCons (tOp (rI0 fun i j => .int (i + j)) (tCB (fun xs H Q => ∃ p n, xs = [V.ref p] ∧ ((SqL K H p n) ∨ SqT K H p n) ∧ Q (.int n.length) H) (tCons (tVar 2) tNil)) (tC (.int 1))) tNil)) (gName 6) tYes (tLst (tCons (tSl (rSlA K) (tVar 2) (tPart (tVar 6)) tNoPart) tNil)) [6]) (start nLanesHeld [v1, v2, v3]) H0 (((List.range (u.length + 1)).filter fun _ => true).map fun p => .list ((Rw a [] (u.drop p)).map (enc (.lane a)))) := by
    refine el_lcRs (u.length + 1) (fun _ => true) _ (ea_cons (LN2 _ _ rfl (.refl g0.tab)) ea_nil) (by omega) (by intro _; rfl) (fun _ _ _ _ => eb_yes) fun i hi _ H1 g1 => ?_
    refine EvL.e (el_lst (as := [.d (enc (.lane a) (u.drop i))]) (ea_cons ?_ ea_nil) rfl (by show 1 ≤ 100000; decide)) (noLs_encL _ _)
    refine (ed_dropT (ed_var (K := K) (T := T) (i := 2) rfl (dq_ext g1.ext h3)) (ed_var (i := 6) rfl .int)).is ?_
    rw [← List.map_drop]
    rfl
  refine s_seq (s_asg (row0 H0 g0.self _ fun A0 xs0 H1 nA g1 hA els => ?_))
  rw [List.filter_eq_self.mpr fun _ _ => rfl] at els
  have rw0 := RwX.of_els hA els
  dsimp only
  refine s_seq (for_lstN (el_rev (el_rg (L3 _ H1 rfl g1) (by omega)).toD) (.refl g1.tab) fun vb js H2 nvb g2 hvb dvb => ?_)
  have g02 := g1.trans g2
  have hjl := dps_len dvb
  rw [List.length_reverse, ixs_len] at hjl
  refine for_list (xs := js) (fun k σ H' => ∃ (A1 : Addr) (xs : List V) (g : Nat → List PyData) (o4 o5 o6 o7 o8 o9 : Option V), σ = [some v1, some v2, some v3, some (.ref A1), o4, o5, o6, o7, o8, o9] ∧ RwX K H' A1 xs g u.length ∧ (∀ p, p ≤ u.length → g p = (Rw a (v.drop (v.length - k)) (u.drop p)).map (enc (.lane a))) ∧ Gr T H2 H') ?_ ?_ ?_ ?_
  · refine ⟨A0, xs0, _, none, none, none, none, none, none, rfl, rw0.ext g2, fun p hp => ?_, .refl g2.tab⟩
    rw [Nat.sub_zero, List.drop_length]
  · rintro i σ H' _ ⟨_, _, _, _, _, _, _, _, _, _, _, _, g⟩
    exact .of (g.stay hvb True.intro)
  · rintro k y σ H' hy ⟨A1, xs, g, o4, o5, o6, o7, o8, o9, rfl, hA1, hg, gz⟩
    have hk : k < v.length := by
      have := (List.getElem?_eq_some_iff.mp hy).1
      omega
    obtain ⟨d1, e3, e4⟩ := dps_at dvb hy
    obtain ⟨i, hi⟩ : ∃ i, i = v.length - 1 - k := ⟨_, rfl⟩
    rw [List.getElem?_reverse (by rw [ixs_len]; exact hk), ixs_len, ← hi] at e3
    unfold ixs at e3
    rw [List.getElem?_map, List.getElem?_range (by omega)] at e3
    cases e3
    cases e4
    obtain ⟨x0, ex⟩ : ∃ x0, v[i]? = some x0 := ⟨_, List.getElem?_eq_getElem (by omega)⟩
    have sx0 := svv.2 x0 (List.mem_of_getElem? ex)
    have ex' : (v.map (enc a))[i]? = some (enc a x0) := by rw [List.getElem?_map, ex]; rfl
    have hdv : v.drop i = x0 :: v.drop (i + 1) := by
      rw [List.drop_eq_getElem_cons (show i < v.length by omega)]
      rw [List.getElem?_eq_getElem (by omega)] at ex
      rw [Option.some.inj ex]
    have ek1 : v.length - (k + 1) = i := by omega
    have ek2 : v.length - k = i + 1 := by omega
    rw [ek2] at hg
    have g' := g02.trans gz
    have sv' : ∀ y ∈ v.drop (i + 1), Sm 2 a y := fun y h => svv.2 y (List.mem_of_mem_drop h)
    have lv' : (v.drop (i + 1)).length ≤ 1 := by rw [List.length_drop]; omega
    refine s_seq (s_asg (rep_row (d := enc (.lane a) (v.drop i)) ((ed_dropT (n := i) (ed_var (K := K) (T := T) (i := 1) (σ := [some v1, some v2, some v3, some (.ref A1), some (.int ((i : Nat) : Int)), o5, o6, o7, o8, o9]) rfl (dq_ext g'.ext h2)) (ed_var (i := 4) rfl .int)).is (by rw [← List.map_drop]; rfl)) (LN2 [some v1, some v2, some v3, some (.ref A1), some (.int ((i : Nat) : Int)), o5, o6, o7, o8, o9] _ rfl g') (by omega) (.refl g'.tab) fun R b0 x H3 nR nb0 nbR g3 hR hb0 dx => ?_))
    have rwR : RwX K H3 R (List.replicate (u.length + 1) (.ref b0)) (fun _ => [enc (.lane a) (v.drop i)]) u.length := ⟨hR, by rw [List.length_replicate], fun p hp => ⟨b0, [x], by rw [List.getElem?_replicate, if_pos (by omega)], nbR, hb0, .cons dx .nil, noLs_iff.mpr fun d hd => by rw [List.mem_singleton.mp hd]; exact noL_enc _ _⟩⟩
    dsimp only
    refine s_seq (for_lstN (el_rev (el_rg (L1 [some v1, some v2, some v3, some (.ref A1), some (.int ((i : Nat) : Int)), some (.ref R), o6, o7, o8, o9] H3 rfl (g'.trans g3)) (by omega)).toD) (.refl g3.tab) fun rb js2 H4 nb g4 hrb drb => ?_)
    have hjl2 := dps_len drb
    rw [List.length_reverse, ixs_len] at hjl2
    have nRb : R ≠ rb := nb.ne hR fun _ z => by cases z
    refine for_list (xs := js2) (fun j σ H'' => ∃ (ys : List V) (f : Nat → List PyData) (o6 o7 o8 o9 : Option V), σ = [some v1, some v2, some v3, some (.ref A1), some (.int ((i : Nat) : Int)), some (.ref R), o6, o7, o8, o9] ∧ RwX K H'' R ys f u.length ∧ (∀ p, u.length - j ≤ p → p ≤ u.length → f p = (Rw a (v.drop i) (u.drop p)).map (enc (.lane a))) ∧ Gr T H' H'' ∧ H'' rb = some (.lst js2)) ?_ ?_ ?_ ?_
    · refine ⟨_, _, o6, o7, o8, o9, rfl, rwR.ext g4, fun p hp1 hp2 => ?_, g3.trans g4, hrb⟩
      have : p = u.length := by omega
      rw [this, List.drop_length, hdv]
      rfl
    · rintro j σ H'' _ ⟨_, _, _, _, _, _, _, _, _, _, h⟩
      exact .of h
    · rintro j w0 σ H5 hw0 ⟨ys, f, o6, o7, o8, o9, rfl, hR5, hf, g5, hrb5⟩
      have hj : j < u.length := by
        have := (List.getElem?_eq_some_iff.mp hw0).1
        omega
      obtain ⟨d1, e3, e4⟩ := dps_at drb hw0
      obtain ⟨p, hp⟩ : ∃ p, p = u.length - 1 - j := ⟨_, rfl⟩
      rw [List.getElem?_reverse (by rw [ixs_len]; exact hj), ixs_len, ← hp] at e3
      unfold ixs at e3
      rw [List.getElem?_map, List.getElem?_range (by omega)] at e3
      cases e3
      cases e4
      obtain ⟨y0, ey⟩ : ∃ y0, u[p]? = some y0 := ⟨_, List.getElem?_eq_getElem (by omega)⟩
      have hdu : u.drop p = y0 :: u.drop (p + 1) := by
        rw [List.drop_eq_getElem_cons (show p < u.length by omega)]
        rw [List.getElem?_eq_getElem (by omega)] at ey
        rw [Option.some.inj ey]
      have sy0 := su.2 y0 (List.mem_of_getElem? ey)
      have ey' : (u.map (enc a))[p]? = some (enc a y0) := by rw [List.getElem?_map, ey]; rfl
      have su' : ∀ y ∈ u.drop (p + 1), Sm 2 a y := fun y h => su.2 y (List.mem_of_mem_drop h)
      have lu' : (u.drop (p + 1)).length ≤ 1 := by rw [List.length_drop]; omega
      have sup : ∀ y ∈ u.drop p, Sm 2 a y := fun y h => su.2 y (List.mem_of_mem_drop h)
      have lup : (u.drop p).length ≤ 2 := by rw [List.length_drop]; omega
      have svi : ∀ y ∈ v.drop i, Sm 2 a y := fun y h => svv.2 y (List.mem_of_mem_drop h)
      have lvi : (v.drop i).length ≤ 2 := by rw [List.length_drop]; omega
      have hcap' : wcap a ≤ cap0 := by
        refine Nat.le_trans ?_ hcap
        show wcap a ≤ 1 + 2 * ((3 + 2 * wcap a) * (1 + wcap a))
        have := Nat.mul_le_mul_left (3 + 2 * wcap a) (show 1 ≤ 1 + wcap a by omega)
        omega
      have few := rawBoth_few a x0 y0 sx0 sy0
      have lens := fun bs h1 h2 => lane_vok (bs := bs) hcap sx0 sy0 sv' su' lv' lu' h1 h2
      have len0 := (lens [] (Nat.zero_le _) fun b h => by cases h).2
      have g05 := g'.trans g5
      -- one row's lists
      have comp1 : EvL K T (tLc (iList K (tOp (rIxL K) (tVar 3) (tVar 6))) (gName 9) tYes (tTup (tCons (tOp (rIxT K) (tVar 1) (tVar 4)) (StX.tStar K (tVar 9) tNil))) [9]) [some v1, some v2, some v3, some (.ref A1), some (.int ((i : Nat) : Int)), some (.ref R), some (.int ((p : Nat) : Int)), o7, o8, o9] H5 (((Rw a (v.drop (i + 1)) (u.drop p)).filter fun _ => true).map fun m => enc (.lane a) (x0 :: m)) := by
        refine (el_lcW (Rw a (v.drop (i + 1)) (u.drop p)) (enc (.lane a)) (fun _ => true) (fun m => enc (.lane a) (x0 :: m)) ?_ (by rw [hdu]; omega) (by intro _; rfl) (fun _ _ _ _ _ _ _ => eb_yes) fun k m hm _ w H6 g6 hw => EvD.e (ed_tupStar (ds := m.map (enc a)) (ed_ixT (ed_var (i := 1) rfl (dq_ext (g05.trans g6).ext h2)) (ed_var (i := 4) rfl .int) ex' (enc_nl _ _)) (ed_var (i := 9) rfl (.of hw (enc_nl (.lane a) _))) ?_) (noL_enc _ _)).toL
        · rw [← hg p (by omega)]
          exact RwX.ew (hA1.ext g5) rfl (ed_var (i := 6) rfl .int) (by omega)
        · rw [List.length_map]
          have := rw_len sv' sup (List.mem_of_getElem? hm)
          omega
      refine s_seq (s_asg (comp1.run g5.self fun F1 fs1 H6 nF1 g6 hF1 dF1 => ?_))
      have eF1 : (((Rw a (v.drop (i + 1)) (u.drop p)).filter fun _ => true).map fun m => enc (.lane a) (x0 :: m)) = ((Rw a (v.drop (i + 1)) (y0 :: u.drop (p + 1))).map (x0 :: ·)).map (enc (.lane a)) := by
        rw [List.filter_eq_self.mpr fun _ _ => rfl, hdu, List.map_map]
        rfl
      rw [eF1] at dF1
      have hR6 := hR5.ext g6
      have g56 := g5.trans g6
      have g06 := g05.trans g6
      dsimp only
      have comp2 : EvL K T (tOp rCat (tVar 7) (tLc (iList K (tOp (rIxL K) (tVar 5) (tOp (rI0 fun i j => .int (i + j)) (tVar 6) (tC (.int 1))))) (gName 9) tYes (tTup (tCons (tOp (rIxT K) (tVar 2) (tVar 6)) (StX.tStar K (tVar 9) tNil))) [9])) [some v1, some v2, some v3, some (.ref A1), some (.int ((i : Nat) : Int)), some (.ref R), some (.int ((p : Nat) : Int)), some (.ref F1), o8, o9] H6 (((Rw a (v.drop (i + 1)) (y0 :: u.drop (p + 1))).map (x0 :: ·)).map (enc (.lane a)) ++ (((Rw a (v.drop i) (u.drop (p + 1))).filter fun _ => true).map fun m => enc (.lane a) (y0 :: m))) := by
        refine el_cat (ed_var (i := 7) rfl (Dq.lst hF1 dF1)) (EvL.toD ?_) ?_
        · refine (el_lcW (Rw a (v.drop i) (u.drop (p + 1))) (enc (.lane a)) (fun _ => true) (fun m => enc (.lane a) (y0 :: m)) ?_ (by rw [hdv]; omega) (by intro _; rfl) (fun _ _ _ _ _ _ _ => eb_yes) fun k m hm _ w H7 g7 hw => EvD.e (ed_tupStar (ds := m.map (enc a)) (ed_ixT (ed_var (i := 2) rfl (dq_ext (g06.trans g7).ext h3)) (ed_var (i := 6) rfl .int) ey' (enc_nl _ _)) (ed_var (i := 9) rfl (.of hw (enc_nl (.lane a) _))) ?_) (noL_enc _ _)).toL
          · rw [← hf (p + 1) (by omega) (by omega)]
            exact RwX.ew hR6 rfl (ed_add1 (p := p) rfl) (by omega)
          · rw [List.length_map]
            have := rw_len svi su' (List.mem_of_getElem? hm)
            omega
        · rw [List.length_map, List.length_map, List.length_map, List.filter_eq_self.mpr fun _ _ => rfl, hdv]
          omega
      refine s_seq (s_asg (comp2.run g6.self fun F2 fs2 H7 nF2 g7 hF2 dF2 => ?_))
      have eF2 : ((Rw a (v.drop (i + 1)) (y0 :: u.drop (p + 1))).map (x0 :: ·)).map (enc (.lane a)) ++ (((Rw a (v.drop i) (u.drop (p + 1))).filter fun _ => true).map fun m => enc (.lane a) (y0 :: m)) = ((Rw a (v.drop (i + 1)) (y0 :: u.drop (p + 1))).map (x0 :: ·) ++ (Rw a (x0 :: v.drop (i + 1)) (u.drop (p + 1))).map (y0 :: ·)).map (enc (.lane a)) := by
        rw [List.filter_eq_self.mpr fun _ _ => rfl, hdv, List.map_append, List.map_map, List.map_map]
        rfl
      rw [eF2] at dF2
      have hR7 := hR6.ext g7
      have g57 := g56.trans g7
      have g07 := g06.trans g7
      dsimp only
      have both : EvD K T (tCall (spOf T K (RBoth d)) [] E0 (tCons (tOp (rIxT K) (tVar 0) (tC (.int 1))) (tCons (tOp (rIxT K) (tVar 1) (tVar 4)) (tCons (tOp (rIxT K) (tVar 2) (tVar 6)) tNil)))) [some v1, some v2, some v3, some (.ref A1), some (.int ((i : Nat) : Int)), some (.ref R), some (.int ((p : Nat) : Int)), some (.ref F2), o8, o9] H7 (Lst a (rawBoth a x0 y0)) := ed_call (K := K) (T := T) (R := RBoth d) (ea_cons (ed_sub (n := 1) (ed_var (i := 0) rfl (dq_ext g07.ext h1)) ed_int rfl) (ea_cons (ed_ixT (ed_var (i := 1) rfl (dq_ext g07.ext h2)) (ed_var (i := 4) rfl .int) ex' (enc_nl _ _)) (ea_cons (ed_ixT (ed_var (i := 2) rfl (dq_ext g07.ext h3)) (ed_var (i := 6) rfl .int) ey' (enc_nl _ _)) ea_nil))) ⟨a, x0, y0, rfl, hd, hw, sx0, sy0, hcap', rfl⟩
      refine s_seq (for_lst (σ0 := []) both (.refl g7.tab) fun ba bs H8 g8 hba dba => ?_)
      have hbl := dps_len dba
      rw [List.length_map] at hbl
      refine for_list (xs := bs) (fun t σ H9 => ∃ (F : Addr) (fs : List V) (o8 o9 : Option V), σ = [some v1, some v2, some v3, some (.ref A1), some (.int ((i : Nat) : Int)), some (.ref R), some (.int ((p : Nat) : Int)), some (.ref F), o8, o9] ∧ H9 F = some (.lst fs) ∧ DpAll K H9 fs (((Rw a (v.drop (i + 1)) (y0 :: u.drop (p + 1))).map (x0 :: ·) ++ (Rw a (x0 :: v.drop (i + 1)) (u.drop (p + 1))).map (y0 :: ·) ++ ((rawBoth a x0 y0).take t).flatMap fun b => (Rw a (v.drop (i + 1)) (u.drop (p + 1))).map (b :: ·)).map (enc (.lane a))) ∧ Gr T H8 H9) ?_ ?_ ?_ ?_
      · refine ⟨F2, fs2, o8, o9, rfl, g8.stay hF2 True.intro, ?_, .refl g8.tab⟩
        rw [List.take_zero, List.flatMap_nil, List.append_nil]
        exact dps_ext g8.ext dF2
      · rintro t σ H9 _ ⟨_, _, _, _, _, _, _, g⟩
        exact .of (g.stay hba True.intro)
      · rintro t z0 σ H9 hz0 ⟨F, fs, o8, o9, rfl, hF, dF, g9⟩
        have ht : t < (rawBoth a x0 y0).length := by
          have := (List.getElem?_eq_some_iff.mp hz0).1
          omega
        obtain ⟨d2, e5, e6⟩ := dps_at dba hz0
        obtain ⟨bb, eb⟩ : ∃ bb, (rawBoth a x0 y0)[t]? = some bb := ⟨_, List.getElem?_eq_getElem ht⟩
        rw [List.getElem?_map, eb] at e5
        cases e5
        have sbb := few.2 bb (List.mem_of_getElem? eb)
        have lt := (lens ((rawBoth a x0 y0).take t) (Nat.le_trans (by rw [List.length_take]; omega) few.1) fun b h => few.2 b (List.mem_of_mem_take h)).2.1
        have g59 := (g57.trans g8).trans g9
        have comp3 : EvL K T (tOp rCat (tVar 7) (tLc (iList K (tOp (rIxL K) (tVar 3) (tOp (rI0 fun i j => .int (i + j)) (tVar 6) (tC (.int 1))))) (gName 9) tYes (tTup (tCons (tVar 8) (StX.tStar K (tVar 9) tNil))) [9])) [some v1, some v2, some v3, some (.ref A1), some (.int ((i : Nat) : Int)), some (.ref R), some (.int ((p : Nat) : Int)), some (.ref F), some z0, o9] H9 (((Rw a (v.drop (i + 1)) (y0 :: u.drop (p + 1))).map (x0 :: ·) ++ (Rw a (x0 :: v.drop (i + 1)) (u.drop (p + 1))).map (y0 :: ·) ++ ((rawBoth a x0 y0).take t).flatMap fun b => (Rw a (v.drop (i + 1)) (u.drop (p + 1))).map (b :: ·)).map (enc (.lane a)) ++ (((Rw a (v.drop (i + 1)) (u.drop (p + 1))).filter fun _ => true).map fun m => enc (.lane a) (bb :: m))) := by
          refine el_cat (ed_var (i := 7) rfl (Dq.lst hF dF)) (EvL.toD ?_) ?_
          · refine (el_lcW (Rw a (v.drop (i + 1)) (u.drop (p + 1))) (enc (.lane a)) (fun _ => true) (fun m => enc (.lane a) (bb :: m)) ?_ (by omega) (by intro _; rfl) (fun _ _ _ _ _ _ _ => eb_yes) fun k m hm _ w H10 g10 hw => EvD.e (ed_tupStar (ds := m.map (enc a)) (ed_var (i := 8) rfl (.of (dp_ext (g9.trans g10).ext e6) (enc_nl _ _))) (ed_var (i := 9) rfl (.of hw (enc_nl (.lane a) _))) ?_) (noL_enc _ _)).toL
            · rw [← hg (p + 1) (by omega)]
              exact RwX.ew (hA1.ext g59) rfl (ed_add1 (p := p) rfl) (by omega)
            · rw [List.length_map]
              have := rw_len sv' su' (List.mem_of_getElem? hm)
              omega
          · rw [List.length_map, List.length_map, List.filter_eq_self.mpr fun _ _ => rfl]
            omega
        refine s_asg (comp3.run g9.self fun F3 fs3 H10 nF3 g10 hF3 dF3 => ?_)
        refine ⟨F3, fs3, some z0, o9, rfl, hF3, ?_, g9.trans g10⟩
        have e7 : ((rawBoth a x0 y0).take (t + 1)).flatMap (fun b => (Rw a (v.drop (i + 1)) (u.drop (p + 1))).map (b :: ·)) = ((rawBoth a x0 y0).take t).flatMap (fun b => (Rw a (v.drop (i + 1)) (u.drop (p + 1))).map (b :: ·)) ++ (Rw a (v.drop (i + 1)) (u.drop (p + 1))).map (bb :: ·) := by
          rw [List.take_add_one, eb, List.flatMap_append]
          simp
        rw [e7, ← List.append_assoc, List.map_append]
        rw [List.filter_eq_self.mpr fun _ _ => rfl] at dF3
        have e8 : ((Rw a (v.drop (i + 1)) (u.drop (p + 1))).map (bb :: ·)).map (enc (.lane a)) = (Rw a (v.drop (i + 1)) (u.drop (p + 1))).map fun m => enc (.lane a) (bb :: m) := by
          rw [List.map_map]
          rfl
        rw [e8]
        exact dF3
      · rintro σ H9 ⟨F, fs, o8, o9, rfl, hF, dF, g9⟩
        rw [List.take_of_length_le (by omega)] at dF
        have lt := (lens (rawBoth a x0 y0) few.1 few.2).1
        have g59 := (g57.trans g8).trans g9
        have g09 := g'.trans g59
        have hR9 := (hR7.ext g8).ext g9
        dsimp only
        refine (el_callN (K := K) (T := T) (R := RLeastN (d + 1)) (H := H9) (σ := [some v1, some v2, some v3, some (.ref A1), some (.int ((i : Nat) : Int)), some (.ref R), some (.int ((p : Nat) : Int)), some (.ref F), o8, o9]) (ea_cons (ed_var (i := 0) rfl (dq_ext g09.ext h1)) (ea_cons (ed_var (i := 7) rfl (Dq.lst hF dF)) ea_nil)) ⟨.lane a, _, rfl, Nat.succ_lt_succ hd, hw, lt, rfl⟩).run g9.self fun Lp ls H10 nL g10 hL dL => ?_
        have hR10 := hR9.ext g10
        have nLR : Lp ≠ R := Ne.symm (nL.ne hR9.1 fun _ z => by cases z)
        refine ⟨.ref R, rfl, .int ((p : Nat) : Int), rfl, R, ys, ((p : Nat) : Int), p, rfl, rfl, hR10.1, ixNn (by rw [hR10.2.1]; omega), ?_⟩
        refine ⟨_, _, _, _, _, _, rfl, RwX.set hR10 (by omega) hL nLR dL (noLs_encL _ _), fun q hq1 hq2 => ?_, ?_, ?_⟩
        · by_cases c : q = p
          · rw [if_pos c, c, hdv, hdu]
            rfl
          · rw [if_neg c]
            exact hf q (by omega) hq2
        · exact (g59.trans g10).mut nR hR10.1 True.intro
        · rw [upd_ne nRb.symm]
          exact ((g6.trans g7).trans (g8.trans (g9.trans g10))).stay hrb5 True.intro
    · rintro σ H5 ⟨ys, f, o6, o7, o8, o9, rfl, hR5, hf, g5, hrb5⟩
      dsimp only
      refine s_asg ⟨_, rfl, ?_⟩
      refine ⟨R, ys, f, _, _, _, _, _, _, rfl, hR5, fun p hp => ?_, gz.trans g5⟩
      rw [hf p (by omega) hp, ek1]
  · rintro σ H' ⟨A1, xs, g, o4, o5, o6, o7, o8, o9, rfl, hA1, hg, gz⟩
    have g' := g02.trans gz
    obtain ⟨b, ys, e1, e2, e3, e4, e5⟩ := hA1.2.2 0 (Nat.zero_le _)
    dsimp only
    refine s_ret ⟨.ref A1, rfl, A1, xs, 0, .ref b, rfl, rfl, .of hA1.1, at_nat (n := 0) e1, q' _ _ g' ?_⟩
    have e := hg 0 (Nat.zero_le _)
    rw [hjl, Nat.sub_self, List.drop_zero, List.drop_zero] at e
    rw [e] at e4
    exact Dq.lst e3 e4
end
end K16

end K16R17Text
section K16QText
set_option autoImplicit false
set_option linter.all false
set_option maxRecDepth 100000
set_option Elab.async false
set_option pp.maxSteps 700
set_option pp.deepTerms false
set_option pp.deepTerms.threshold 4
/-! A dict whose keys are data (tuples of tuples ..), each with True: {x: True for x in xs}, list of it. -/
namespace K16
open PySem PySem.W PySem.Calls PyProof.Rows PyProof.V PySem.Spec L2
mutual
def keyOf : PyData → NestedKey
  | .int i => .num i
  | .str x => .text x
  | .tuple ds => .tup (keysOf ds)
  | _ => .none
def keysOf : List PyData → List NestedKey
  | [] => []
  | d :: ds => keyOf d :: keysOf ds
end
mutual
/-- whole numbers, texts, tuples of such -/
def okD : PyData → Bool
  | .int _ => true
  | .str _ => true
  | .tuple ds => okDs ds
  | _ => false
def okDs : List PyData → Bool
  | [] => true
  | d :: ds => okD d && okDs ds
end
mutual
theorem keyOf_data : ∀ d : PyData, okD d = true → (keyOf d).data = d
  | .int i, _ => rfl
  | .str x, _ => rfl
  | .tuple ds, h => by
    show PyData.tuple (NestedKey.datas (keysOf ds)) = _
    rw [keysOf_data ds h]
  | .none, h => by cases h
  | .bool _, h => by cases h
  | .list _, h => by cases h
  | .dict _, h => by cases h
theorem keysOf_data : ∀ ds : List PyData, okDs ds = true → NestedKey.datas (keysOf ds) = ds
  | [], _ => rfl
  | d :: ds, h => by
    rw [okDs, Bool.and_eq_true] at h
    show (keyOf d).data :: NestedKey.datas (keysOf ds) = _
    rw [keyOf_data d h.1, keysOf_data ds h.2]
end
theorem keyOf_inj {d e : PyData} (hd : okD d = true) (he : okD e = true) (h : keyOf d = keyOf e) : d = e := by
  rw [← keyOf_data d hd, ← keyOf_data e he, h]
section
variable {X : Cx} {pins : List (Addr × Obj)} {σ : L2.St} {H : Hp} {s : Shared}
mutual
theorem Dp.nested (I : Inv X pins σ H s) : ∀ (d : PyData) (v : V) (u : Value), Dp X.K H v d → RelV v u → okD d = true → NestedIs s.heap (keyOf d) u
  | .int i, _, _, h, r, _ => by
    cases h
    obtain ⟨t, rfl⟩ := r
    exact .int i t
  | .str x, _, _, h, r, _ => by
    cases h
    obtain ⟨t, rfl⟩ := r
    exact .text x t
  | .tuple ds, _, _, h, r, k => by
    cases h with
    | tup hs ha =>
      cases r
      obtain ⟨its, rv, ⟨o, ho, hc, n, hd⟩, _⟩ := I.tuple hs
      have z := Dp.nestedAll I ds _ its ha rv k
      exact .tup ho hc hd (by simpa using z)
  | .none, _, _, _, _, k => by cases k
  | .bool _, _, _, _, _, k => by cases k
  | .list _, _, _, _, _, k => by cases k
  | .dict _, _, _, _, _, k => by cases k
theorem Dp.nestedAll (I : Inv X pins σ H s) : ∀ (ds : List PyData) (vs : List V) (us : List Value), DpAll X.K H vs ds → Vals vs us → okDs ds = true → NestedAll s.heap (keysOf ds) us
  | [], _, _, h, r, _ => by
    cases h
    cases r
    exact .nil
  | d :: ds, _, _, h, r, k => by
    rw [okDs, Bool.and_eq_true] at k
    cases h with
    | cons h1 h2 =>
      cases r with
      | cons r1 r2 => exact .cons (Dp.nested I d _ _ h1 r1 k.1) (Dp.nestedAll I ds _ _ h2 r2 k.2)
end
end
/-- the dict at D: the keys xs, each with True -/
def keyO (P : Program) (w : World) (D : Addr) (xs : List (PyData × Addr)) : HO := .ext fun h => (D == sysModules) = false ∧ ∃ (o : Obj) (es : Array DictEntry) (ep : Nat), h.get? D = some o ∧ o.ExactDict ∧ o.data = .dict es ep ∧ es.toList = xs.map fun x => entryOfKey (knd := nestedKind P w) (keyOf x.1, x.2, .bool true)
theorem keyO_ok {P : Program} {w : World} {H : Hp} {h : Heap} {D : Addr} {xs : List (PyData × Addr)} {o : Obj} {es : Array DictEntry} {ep : Nat} (hs : (D == sysModules) = false) (e : h.get? D = some o) (c : o.ExactDict) (d : o.data = .dict es ep) (k : es.toList = xs.map fun x => entryOfKey (knd := nestedKind P w) (keyOf x.1, x.2, .bool true)) : ObjOk P w H h D (keyO P w D xs) :=
  ⟨⟨hs, o, es, ep, e, c, d, k⟩, ⟨_, e⟩, fun h1 h2 x k => let ⟨z, o, es, ep, ho, r⟩ := x; ⟨z, o, es, ep, k o ho, r⟩⟩
structure KeysOk (K : PySem.W.Frag) (H : Hp) (xs : List (PyData × Addr)) : Prop where
  each : ∀ x ∈ xs, Dp K H (.ref x.2) x.1 ∧ okD x.1 = true ∧ (keyOf x.1).depth ≤ 8
  nodup : (xs.map (·.1)).Nodup
def addK (xs : List (PyData × Addr)) (d : PyData) (b : Addr) : List (PyData × Addr) := if keyOf d ∈ xs.map (fun x => keyOf x.1) then xs else xs ++ [(d, b)]
abbrev tri (xs : List (PyData × Addr)) : List (NestedKey × Addr × Value) := xs.map fun x => (keyOf x.1, x.2, .bool true)
theorem KeysOk.tri {K : PySem.W.Frag} {H : Hp} {xs : List (PyData × Addr)} (k : KeysOk K H xs) : ((tri xs).map (·.1)).Nodup := by
  show (((xs.map fun x => (keyOf x.1, x.2, Value.bool true)) : List (NestedKey × Addr × Value)).map (·.1)).Nodup
  rw [List.map_map]
  have e : ((fun x : NestedKey × Addr × Value => x.1) ∘ fun x : PyData × Addr => (keyOf x.1, x.2, Value.bool true)) = fun x => keyOf x.1 := rfl
  rw [e]
  refine List.pairwise_map.mpr ?_
  have n := List.pairwise_map.mp k.nodup
  exact List.Pairwise.imp_of_mem (fun {a b} ha hb hab z => hab (keyOf_inj (k.each a ha).2.1 (k.each b hb).2.1 z)) n
theorem storedH_tri (xs : List (PyData × Addr)) (d : PyData) (b : Addr) : storedH (tri xs) (keyOf d) b (.bool true) = tri (addK xs d b) := by
  unfold storedH addK
  by_cases h : keyOf d ∈ xs.map (fun x => keyOf x.1)
  · obtain ⟨x, hx, e⟩ := List.mem_map.mp h
    rw [if_pos h, if_pos]
    · rw [List.map_map]
      refine List.map_congr_left fun y _ => ?_
      show putAt (keyOf d) (.bool true) (keyOf y.1, y.2, Value.bool true) = _
      unfold putAt
      split <;> rfl
    · rw [atKey, Option.isSome_map, List.find?_isSome]
      exact ⟨(keyOf x.1, x.2, .bool true), List.mem_map.mpr ⟨x, hx, rfl⟩, by simpa using e⟩
  · rw [if_neg h, if_neg]
    · show tri xs ++ [(keyOf d, b, Value.bool true)] = List.map _ (xs ++ [(d, b)])
      rw [List.map_append]
      rfl
    · rw [atKey, Option.isSome_map, List.find?_isSome]
      rintro ⟨y, hy, e⟩
      obtain ⟨x, hx, rfl⟩ := List.mem_map.mp hy
      exact h (List.mem_map.mpr ⟨x, hx, by simpa using e⟩)
section
variable {X : Cx} {pins : List (Addr × Obj)} {σ : L2.St} {H : Hp} {s : Shared} {E : Value → Shared → Prop} {D b : Addr} {xs : List (PyData × Addr)} {d : PyData} {Q : Unit → Shared → Prop}
theorem keyO_at (I : Inv X pins σ H s) (hD : H D = some (keyO X.prog X.w D xs)) (k : KeysOk X.K H xs) : (D == sysModules) = false ∧ s.heap.DictOfH (nestedKind X.prog X.w) D (tri xs) := by
  obtain ⟨hs, o, es, ep, ho, c, hdt, he⟩ := (show ObjOk X.prog X.w H s.heap D (keyO X.prog X.w D xs) from I.hok D _ hD).1
  refine ⟨hs, o, es, ep, ho, c, hdt, by rw [he, List.map_map]; rfl, fun x hx => ?_, k.tri⟩
  obtain ⟨y, hy, rfl⟩ := List.mem_map.mp hx
  have z := k.each y hy
  exact ⟨Dp.nested I _ _ _ z.1 rfl z.2.1, z.2.2⟩
theorem k_dictSet (hu : X.A.units + 8 < cLine) (I : Inv X pins σ H s) (hD : H D = some (keyO X.prog X.w D xs)) (k : KeysOk X.K H xs) (hz : xs.length < sizeLine) (hb : Dp X.K H (.ref b) d) (ok : okD d = true) (dp : (keyOf d).depth ≤ 8)
    (h : ∀ s', Inv X pins σ (upd H D (keyO X.prog X.w D (addK xs d b))) s' → Q () s') : wpAny (model X.prog X.w) X.A (dictSet D (.ref b) (.bool true)) Q E s := by
  obtain ⟨hs, dd⟩ := keyO_at I hD k
  refine wpAny_dictSet_heap (knd := nestedKind X.prog X.w) (k := keyOf d) hu ⟨Dp.nested I _ _ _ hb rfl ok, dp⟩ dd (fun h' dd' hs' => h _ ?_) (by rw [List.length_map]; omega)
  rw [storedH_tri] at dd'
  obtain ⟨o, es, ep, h1, h2, h3, h4, h5, h6⟩ := dd'
  exact d_write I (by rw [hD]; exact True.intro) hs' ⟨o, h1⟩ (keyO_ok hs h1 h2 h3 (by rw [h4, List.map_map]; rfl))
end
end K16

end K16QText
section K16Q2Text
set_option autoImplicit false
set_option linter.all false
set_option maxRecDepth 100000
set_option Elab.async false
set_option pp.maxSteps 700
set_option pp.deepTerms false
set_option pp.deepTerms.threshold 4
/-! {x: True for x in xs}, its keys data; the dict is tracked (keyO). -/
namespace K16
open PySem PySem.W PySem.Calls PyProof.Rows PyProof.V PySem.Spec L2
section
variable {X : Cx}
/-- the reading: D the new dict; each turn a key, told as data, with True -/
def tDk (P : Program) (w : World) (K : PySem.W.Frag) (wi : TI) (g : TG) (tk tv : TE) (vs : List Nat) : TE := fun σ H Q => wi σ H fun J H1 => ∀ D, H1 D = none → ∃ W : Nat → Nat → Hp → Prop, (∃ m, W 0 m (upd H1 D (keyO P w D []))) ∧ ∀ i m H, W i m H →
  (J.stop i H ∧ Q (.ref D) H) ∨ (J.go i H ∧ ∃ Nx : Hp → Prop, (∀ H', Nx H' → ∃ m', m' < m ∧ W (i + 1) m' H') ∧ ∀ x H', J.yld i H x H' → g x (wipe σ vs) H' fun σ2 H2 => wipe σ2 vs = wipe σ vs ∧ tk σ2 H2 fun y H4 => tv σ2 H4 fun z H5 =>
    ∃ xs d b, y = .ref b ∧ z = .bl true ∧ H5 D = some (keyO P w D xs) ∧ KeysOk K H5 xs ∧ xs.length < sizeLine ∧ Dp K H5 (.ref b) d ∧ okD d = true ∧ (keyOf d).depth ≤ 8 ∧ Nx (upd H5 D (keyO P w D (addK xs d b))))
theorem pe_dk {kx vx tg iter : Expr} {scope : Scope} {own : List (Str × Nat)} {pos : Pos} {wi : TI} {g : TG} {tk tv : TE} (hu : X.A.units + 64 < cLine) (hc : X.calm = true) (hN : X.N.Nodup) (hi : PI X tg iter wi) (ok : BlkOk X.N X.env.scope scope own)
    (hg : ∀ (s : Shared) (H : Hp) (C : Addr) (cl : List (Str × Addr)) (fp : List Addr), PG (X.blk s H scope (compEnvC scope cl C X.env) fp) tg g)
    (hk : ∀ (s : Shared) (H : Hp) (C : Addr) (cl : List (Str × Addr)) (fp : List Addr), PE (X.blk s H scope (compEnvC scope cl C X.env) fp) kx tk)
    (he : ∀ (s : Shared) (H : Hp) (C : Addr) (cl : List (Str × Addr)) (fp : List Addr), PE (X.blk s H scope (compEnvC scope cl C X.env) fp) vx tv) (hs : ∀ x, foldedSetIterable iter X.env x = pure x := by intro _; rfl) :
    PE X (.DictComp kx vx [⟨tg, iter, [], 0⟩] scope pos) (tDk X.prog X.w X.K wi g tk tv (own.map (·.2))) := by
  refine ⟨fun pins s σ H Q I h => ?_⟩
  rw [arm_eval_DictComp]
  have hfree : ∀ y ∈ scope.names, y.2 = .free → ∃ c, X.env.cells.lookup y.1 = some c := fun y hy e => (ok.free y hy e).elim (fun k => I.ok.has _ (.inl k)) fun k => I.ok.has _ (.inr k)
  refine wpAny_comprehension_free (use := none) rfl hs (closure_ok hfree) ok.kind (fun y hy e => by rw [ok.uniq y hy, e])
    (thn (hi.run pins s σ H _ I h) fun xv s1 hx => thn hx fun itv s2 h2 => ?_)
  obtain ⟨it, fp, tn, J, H2, e, I2, T, st2, f2, q⟩ := h2
  subst e
  refine wpAny_newObj_type (newEnv_comp ?_)
  have hDn : H2 s2.heap.objs.size = none := I2.hok.fresh (Nat.le_refl _)
  have hDs : (s2.heap.objs.size == sysModules) = false := beq_eq_false_iff_ne.mpr (Ne.symm (Nat.ne_of_lt I2.big))
  generalize hD : s2.heap.objs.size = D at hDn hDs
  obtain ⟨W, ⟨m0, w0⟩, turn⟩ := q D hDn
  generalize hs3 : ({ s2 with heap := s2.heap.push { cls := .type "dict", data := .dict #[] } } : Shared) = s3
  have h3 : s3.heap = s2.heap.push { cls := .type "dict", data := .dict #[] } := by rw [← hs3]
  have I3 : Inv X pins σ (upd H2 D (keyO X.prog X.w D [])) s3 := by
    rw [← hs3]
    refine I2.laid (t' := s2.toks) (fun b o e => Heap.get?_push_of_some _ e) (Nat.le_of_eq hD) (keyO_ok (o := { cls := .type "dict", data := .dict #[] }) hDs ?_ ⟨rfl, rfl, rfl⟩ rfl rfl)
    rw [← hD]
    exact Heap.get?_push_size _ rfl
  have f3 : ∀ b ∈ fp, FpOk X pins (upd H2 D (keyO X.prog X.w D [])) b ∧ b < s3.heap.objs.size := fun b hb => by
    obtain ⟨o, e, _⟩ := T.obj _ _ st2 b hb
    have hlt := Heap.lt_size e
    refine ⟨⟨?_, (f2 b hb).2⟩, by rw [h3, Heap.size_push]; exact Nat.lt_succ_of_lt hlt⟩
    rw [upd_ne (by rw [← hD]; exact Nat.ne_of_lt hlt)]
    exact (f2 b hb).1
  have st3 : tn 0 s3.heap := T.keep _ _ _ st2 fun b _ o e => by rw [h3]; exact Heap.get?_push_of_some _ e
  have I4 := block_start I3 ok hN f3
  generalize hH3 : upd H2 D (keyO X.prog X.w D []) = H3 at I3 I4 w0 f3
  show codeAny _ _ (.compStart (.DictComp kx vx [⟨tg, iter, [], 0⟩] scope pos) 0 (.ref it) (.ref D) (compEnvC scope (cellsFrom (s3.heap.objs.size + 1) scope.names (cloFrom X.env.cells scope.names [])) s3.heap.objs.size X.env)) _ { s3 with heap := pushCells (s3.heap.push { cls := .type "dict", data := .dict #[] }) scope.names }
  have pg := hg s3 H3 s3.heap.objs.size (cellsFrom (s3.heap.objs.size + 1) scope.names (cloFrom X.env.cells scope.names [])) fp
  have pk := hk s3 H3 s3.heap.objs.size (cellsFrom (s3.heap.objs.size + 1) scope.names (cloFrom X.env.cells scope.names [])) fp
  have pe := he s3 H3 s3.heap.objs.size (cellsFrom (s3.heap.objs.size + 1) scope.names (cloFrom X.env.cells scope.names [])) fp
  have nfp : ∀ b ∈ fp, H3 b = none := fun b hb => (f3 b hb).1.1
  generalize hce : compEnvC scope (cellsFrom (s3.heap.objs.size + 1) scope.names (cloFrom X.env.cells scope.names [])) s3.heap.objs.size X.env = ce at I4 pg pk pe ⊢
  have cL : ce.locals = s3.heap.objs.size := by subst hce; rfl
  generalize hs4 : ({ s3 with heap := pushCells (s3.heap.push { cls := .type "dict", data := .dict #[] }) scope.names } : Shared) = s4 at I4 ⊢
  have st4 : tn 0 s4.heap := T.keep _ _ _ st3 fun b _ o e => by rw [← hs4]; exact pushCells_keeps _ _ _ _ (Heap.get?_push_of_some _ e)
  have stat : ∀ {σ' : L2.St} {H' : Hp} {s' : Shared}, Inv (X.blk s3 H3 scope ce fp) [] σ' H' s' → (∀ b ∈ fp, H' b = none) → ∀ b ∈ fp, FpOk (X.blk s3 H3 scope ce fp) [] H' b := fun {σ' H' s'} I' hn b hb =>
    ⟨hn b hb, (I'.ok.exf b hb).1, I'.ok.exfs b hb, .inl hb, fun x c e => (I'.ok.exf b hb).2 x c e, fun p hp => absurd (show p ∈ ([] : List (Addr × Obj)) ++ [] from hp) (by simp)⟩
  have loop : codeAny (model X.prog X.w) X.A (.compLoop (.DictComp kx vx [⟨tg, iter, [], 0⟩] scope pos) 0 (.ref it) (.ref D) ce) (compPost (model X.prog X.w) X.A X.xe none (EP X pins σ Q) (.ref D) s3.heap.objs.size) s4 := by
    refine compLoop_anyD (fun n s' => ∃ i H', Inv (X.blk s3 H3 scope ce fp) [] (wipe σ (own.map (·.2))) H' s' ∧ tn i s'.heap ∧ (∀ b ∈ fp, H' b = none) ∧ W i n H') ?_ m0 ⟨0, H3, I4, st4, nfp, w0⟩
    rintro n s5 ⟨i, H5, I5, st5, n5, w5⟩
    rcases turn i n H5 w5 with ⟨stop, qq⟩ | ⟨go, Nx, hNx, step⟩
    · refine thnF (T.done (X.blk s3 H3 scope ce fp) rfl rfl rfl hc i [] s5 _ H5 (fun _ _ => False) I5 (stat I5 n5) st5 stop) fun r s6 ⟨hr, I6⟩ => ?_
      subst hr
      have I7 : Inv X pins σ H5 s6 := I3.call' (ch := fp) I6.os I6.base I6.hok I6.bare fun b hb => ⟨(f3 b hb).1.2.2.2.1, (f3 b hb).1.2.1, (f3 b hb).1.2.2.2.2.1, (f3 b hb).1.2.2.2.2.2⟩
      have nC : H5 s3.heap.objs.size = none := by
        have z : H5 ce.locals = none := I6.free
        rw [cL] at z
        exact z
      obtain ⟨m, hn, _⟩ := I6.loc
      have hn : s6.heap.Ns ce.locals m := hn
      rw [cL] at hn
      refine ⟨m, hn, fun h'' sb => ?_⟩
      obtain ⟨f0, f1, f2, f3, f4, f5⟩ := I3.fpOk (Nat.le_refl _) nC
      exact ⟨.ref D, H5, I7.turned (t' := s6.toks) (fun b o hb e => (sb.2 b hb).trans e) f0 f1 f3 f4 f5, rfl, qq⟩
    · refine thnF (T.item (X.blk s3 H3 scope ce fp) rfl rfl rfl hc i [] s5 _ H5 (fun _ _ => False) I5 (stat I5 n5) st5 go) fun r s6 ⟨u, hr, h6⟩ => ?_
      subst hr
      refine thnF h6 fun _ s7 ⟨x, H7, I7, r7, y7, st7, n7⟩ => ?_
      have I7' := I7.pinned (stat I7 n7) (T.obj _ _ st7)
      refine thnF (pg.run _ s7 _ H7 x u _ I7' r7 (step x H7 y7)) fun _ s8 ⟨σ8, H8, I8, hw8, q8⟩ => ?_
      rw [List.forIn_nil]
      refine wpAny_pure ?_
      rw [if_pos rfl]
      refine thnF (pk.run _ s8 σ8 H8 _ I8 q8) fun z s10 ⟨yk, H10, I10, r10, q10⟩ => ?_
      refine thnF (pe.run _ s10 σ8 H10 _ I10 q10) fun z2 s11 ⟨yv, H11, I11, r11, xs, d, b, ek, ev, hD11, k11, hz11, hb, okd, dpd, nx⟩ => ?_
      subst ek ev
      cases (show z = Value.ref b from r10)
      cases (show z2 = Value.bool true from r11)
      refine k_dictSet (X := X.blk s3 H3 scope ce fp) ?_ I11 hD11 k11 hz11 hb okd dpd fun s12 I12 => ?_
      · show X.A.units + 8 < cLine
        omega
      obtain ⟨m', hm, w'⟩ := hNx _ nx
      have pin' : ∀ c' ∈ fp, ∀ o, s7.heap.get? c' = some o → s12.heap.get? c' = some o ∧ (upd H11 D (keyO X.prog X.w D (addK xs d b))) c' = none := fun b' hb' o e =>
        let z := I12.pin (b', o) (List.mem_append_right _ (List.mem_append_right _ (mem_pinsAt hb' e)))
        ⟨z.1, z.2.1⟩
      have hl : (wipe σ (own.map (·.2))).length = σ8.length := by rw [← hw8, wipe_length]
      refine ⟨m', hm, i + 1, _, (I12.unpinned (pins := [])).weak hl (fun j v e => ?_), T.keep _ _ _ st7 fun b hb o e => (pin' b hb o e).1, fun b' hb' => ?_, w'⟩
      · rw [← hw8] at e
        exact (wipe_some e).1
      · obtain ⟨o, e, _⟩ := T.obj _ _ st7 b' hb'
        exact (pin' b' hb' o e).2
  exact codeAny_compStart_dict loop (T.self X.A 0 _ _ _ st4 loop)
end
end K16

end K16Q2Text
section K16Q3Text
set_option autoImplicit false
set_option linter.all false
set_option maxRecDepth 100000
set_option Elab.async false
set_option pp.maxSteps 700
set_option pp.deepTerms false
set_option pp.deepTerms.threshold 4
/-! list({x: True for x in xs}). -/
namespace K16
open PySem PySem.W PySem.Calls PyProof.Rows PyProof.V PySem.Spec L2
theorem vals_get : ∀ (vs : List V) (us : List Value), vs.length = us.length → (∀ (j : Nat) (v : V) (u : Value), vs[j]? = some v → us[j]? = some u → RelV v u) → Vals vs us
  | [], [], _, _ => .nil
  | [], _ :: _, h, _ => by cases h
  | _ :: _, [], h, _ => by cases h
  | v :: vs, u :: us, h, r => .cons (r 0 v u rfl rfl) (vals_get vs us (by simpa using h) fun j v' u' h1 h2 => r (j + 1) v' u' (by simpa using h1) (by simpa using h2))
section
variable {X : Cx}
def rListK (P : Program) (w : World) : List V → Hp → VK → Prop := fun vs H Q => ∃ (D : Addr) (xs : List (PyData × Addr)), vs = [.ref D] ∧ H D = some (keyO P w D xs) ∧ xs.length ≤ sizeLine ∧ ∀ p, H p = none → Q (.ref p) (upd H p (.lst (xs.map fun x => V.ref x.2)))
theorem cr_listK (hc : X.calm = true) : CallR X (.type "list") (rListK X.prog X.w) := by
  intro pins s σ H vs us Q I r h
  obtain ⟨D, xs, rfl, hD, hz, q⟩ := h
  obtain rfl := Vals.ref1 r
  obtain ⟨hs, o, es, ep, ho, c, hdt, he⟩ := (show ObjOk X.prog X.w H s.heap D (keyO X.prog X.w D xs) from I.hok D _ hD).1
  have hl : es.size = xs.length := by
    have := congrArg List.length he
    rw [List.length_map] at this
    simpa using this
  refine kdl_call (KdlSrc.rawDict hs) (I.ok.hd hc) ⟨o, ho, c, hdt⟩ (by omega) fun h' tk acc c' hk hS hacc => ?_
  have key : ∀ (i : Nat) (hi : i < es.size) (x : PyData × Addr), xs[i]? = some x → es[i].key = .ref x.2 := fun i hi x ex => by
    have e1 : es.toList[i]? = some (entryOfKey (knd := nestedKind X.prog X.w) (keyOf x.1, x.2, .bool true)) := by rw [he, List.getElem?_map, ex]; rfl
    rw [Array.getElem?_toList, Array.getElem?_eq_getElem hi] at e1
    rw [Option.some.inj e1]
    rfl
  have hv : Vals (xs.map fun x => V.ref x.2) acc.toList := by
    refine vals_get _ _ ?_ fun j v u h1 h2 => ?_
    · have h1 : acc.toList.length = es.size := by rw [Array.length_toList]; exact hacc.1
      rw [List.length_map, h1, hl]
    · rw [List.getElem?_map] at h1
      cases ex : xs[j]? with
      | none => rw [ex] at h1; cases h1
      | some x =>
        rw [ex] at h1
        cases h1
        rw [Array.getElem?_toList] at h2
        obtain ⟨hi, e⟩ := hacc.2 j u h2
        rw [e, key j hi x ex]
        rfl
  exact ⟨.ref s.heap.objs.size, upd H s.heap.objs.size (.lst (xs.map fun x => V.ref x.2)), I.laid (t' := tk) hk (Nat.le_refl _) ⟨by rw [List.length_map]; exact hz, acc.toList, c', hv, by rw [Array.toArray_toList]; exact hS⟩, rfl, q _ (I.hok.fresh (Nat.le_refl _))⟩
end
section
variable {K : PySem.W.Frag} {T : Tb} {P : Program} {w : World}
theorem dk_list {a : Addr} {xs : List V} {g : TG} {tk tv : TE} {vs : List Nat} {σ : L2.St} {H1 : Hp} {D : Addr} {Qd : Hp → Prop} (Pv : Nat → Hp → Prop) (h0 : Pv 0 (upd H1 D (keyO P w D []))) (hl : ∀ i H, i ≤ xs.length → Pv i H → SqL K H a xs)
    (hs : ∀ i x H, xs[i]? = some x → Pv i H → g x (wipe σ vs) H fun σ2 H2 => wipe σ2 vs = wipe σ vs ∧ tk σ2 H2 fun y H4 => tv σ2 H4 fun z H5 =>
      ∃ xs d b, y = .ref b ∧ z = .bl true ∧ H5 D = some (keyO P w D xs) ∧ KeysOk K H5 xs ∧ xs.length < sizeLine ∧ Dp K H5 (.ref b) d ∧ okD d = true ∧ (keyOf d).depth ≤ 8 ∧ Pv (i + 1) (upd H5 D (keyO P w D (addK xs d b)))) (hd : ∀ H, Pv xs.length H → Qd H) :
    ∃ W : Nat → Nat → Hp → Prop, (∃ m, W 0 m (upd H1 D (keyO P w D []))) ∧ ∀ i m H, W i m H →
      ((Itl K a).stop i H ∧ Qd H) ∨ ((Itl K a).go i H ∧ ∃ Nx : Hp → Prop, (∀ H', Nx H' → ∃ m', m' < m ∧ W (i + 1) m' H') ∧ ∀ x H', (Itl K a).yld i H x H' → g x (wipe σ vs) H' fun σ2 H2 => wipe σ2 vs = wipe σ vs ∧ tk σ2 H2 fun y H4 => tv σ2 H4 fun z H5 =>
        ∃ xs d b, y = .ref b ∧ z = .bl true ∧ H5 D = some (keyO P w D xs) ∧ KeysOk K H5 xs ∧ xs.length < sizeLine ∧ Dp K H5 (.ref b) d ∧ okD d = true ∧ (keyOf d).depth ≤ 8 ∧ Nx (upd H5 D (keyO P w D (addK xs d b)))) := by
  refine ⟨fun i m H => m = xs.length - i ∧ i ≤ xs.length ∧ Pv i H, ⟨xs.length, by simp, Nat.zero_le _, h0⟩, ?_⟩
  rintro i m H ⟨rfl, hi, p⟩
  have q := hl i H hi p
  by_cases hlt : i < xs.length
  · refine .inr ⟨⟨xs, xs[i], q, by simp [hlt]⟩, Pv (i + 1), fun H' p' => ⟨xs.length - (i + 1), by omega, rfl, hlt, p'⟩, fun x H' y => ?_⟩
    obtain ⟨e, y⟩ := y
    subst e
    exact hs i x _ (y xs q) p
  · have e : i = xs.length := by omega
    subst e
    exact .inl ⟨⟨xs, q, Nat.le_refl _⟩, hd H p⟩
/-- the members, each once, in the order of their first coming -/
theorem el_dk {A : Type} [DecidableEq A] {H : Hp} {σ : L2.St} {tl : TE} {j : Nat} {vs : List Nat} (xs : List A) (f : A → List PyData) (hf : ∀ x ∈ xs, ∀ y ∈ xs, f x = f y → x = y) (ok : ∀ x ∈ xs, okDs (f x) = true) (dp : ∀ x ∈ xs, (keyOf (.tuple (f x))).depth ≤ 8)
    (hs : EvD K T tl σ H (.list (xs.map fun x => .tuple (f x)))) (hl : xs.length < 100000) (hw : ∀ v, wipe ((wipe σ vs).set j (some v)) vs = wipe σ vs) (hv : ∀ v, ((wipe σ vs).set j (some v))[j]? = some (some v)) :
    EvL K T (tCB (rListK P w) (tCons (tDk P w K (iList K tl) (gName j) (tVar j) (tC (.bl true)) vs) tNil)) σ H ((dedup xs).map fun x => .tuple (f x)) := fun H0 g0 Q q => hs.run g0 fun v H1 g1 hv1 => by
  obtain ⟨a, ys, rfl, h1, h2⟩ := hv1
  have hlen := dps_len h2
  rw [List.length_map] at hlen
  have stay : ∀ {D : Addr} (_ : H1 D = none) {ks : List (PyData × Addr)}, Gr T H1 (upd H1 D (keyO P w D ks)) := fun hD => .new g1.tab hD
  refine ⟨a, rfl, ⟨ys, .of h1⟩, fun D hD => dk_list (xs := ys) (fun i H' => ∃ ks, H' = upd H1 D (keyO P w D ks) ∧ KeysOk K H1 ks ∧ ks.map (·.1) = (dedup (xs.take i)).map fun x => .tuple (f x)) ?_ (fun i H' _ c => ?_) (fun i y H' hi c => ?_) fun H' c => ?_⟩
  · exact ⟨[], rfl, ⟨(fun x hx => nomatch hx), List.nodup_nil⟩, rfl⟩
  · obtain ⟨ks, rfl, _⟩ := c
    exact .of ((stay hD).stay h1 True.intro)
  · obtain ⟨ks, rfl, kok, hks⟩ := c
    obtain ⟨d0, e1, e2⟩ := dps_at h2 hi
    rw [List.getElem?_map] at e1
    cases ex : xs[i]? with
    | none => rw [ex] at e1; cases e1
    | some x =>
      rw [ex] at e1
      cases e1
      have hx := List.mem_of_getElem? ex
      have e2' := dp_ext (stay hD (ks := ks)).ext e2
      obtain ⟨b, zs, rfl, hb1, hb2⟩ : ∃ b zs, y = .ref b ∧ SqT K (upd H1 D (keyO P w D ks)) b zs ∧ DpAll K (upd H1 D (keyO P w D ks)) zs (f x) := by
        cases e2' with
        | tup hs ha => exact ⟨_, _, rfl, hs, ha⟩
      have klen : ks.length ≤ xs.length := by
        have e := congrArg List.length hks
        rw [List.length_map, List.length_map] at e
        have := dedup_len (xs.take i)
        rw [List.length_take] at this
        omega
      refine ⟨hw _, .ref b, hv _, ks, .tuple (f x), b, rfl, rfl, upd_same, ⟨fun x hx => ⟨dp_ext (stay hD).ext (kok.each x hx).1, (kok.each x hx).2⟩, kok.nodup⟩, ?_, e2', ok x hx, dp x hx, addK ks (.tuple (f x)) b, ?_, ?_, ?_⟩
      · exact Nat.lt_of_le_of_lt klen (Nat.lt_of_lt_of_le hl (by decide))
      · funext c
        by_cases e : c = D
        · rw [e, upd_same, upd_same]
        · rw [upd_ne e, upd_ne e, upd_ne e]
      · unfold addK
        split
        · exact kok
        · rename_i nin
          refine ⟨fun z hz => ?_, ?_⟩
          · rcases List.mem_append.mp hz with hz | hz
            · exact kok.each z hz
            · rw [List.mem_singleton.mp hz]
              exact ⟨e2, ok x hx, dp x hx⟩
          · rw [List.map_append, List.nodup_append]
            refine ⟨kok.nodup, by simp, fun z hz z2 hz2 e => nin ?_⟩
            have e3 : z2 = .tuple (f x) := by simpa using hz2
            obtain ⟨t, ht, e4⟩ := List.mem_map.mp hz
            exact List.mem_map.mpr ⟨t, ht, by rw [e4, e, e3]⟩
      · have et : dedup (xs.take (i + 1)) = if x ∈ dedup (xs.take i) then dedup (xs.take i) else dedup (xs.take i) ++ [x] := by
          unfold dedup
          rw [List.take_add_one, ex, List.foldl_append]
          rfl
        have iff : keyOf (.tuple (f x)) ∈ ks.map (fun x => keyOf x.1) ↔ x ∈ dedup (xs.take i) := by
          constructor
          · intro h
            obtain ⟨t, ht, e⟩ := List.mem_map.mp h
            have e3 := keyOf_inj (e := .tuple (f x)) (kok.each t ht).2.1 (ok x hx) e
            have h4 : t.1 ∈ ks.map (·.1) := List.mem_map.mpr ⟨t, ht, rfl⟩
            rw [hks] at h4
            obtain ⟨y2, hy2, e5⟩ := List.mem_map.mp h4
            rw [e3] at e5
            have hy3 : y2 ∈ xs := List.mem_of_mem_take (mem_dedup.mp hy2)
            rw [← hf y2 hy3 x hx (by injection e5)]
            exact hy2
          · intro h
            have h4 : PyData.tuple (f x) ∈ ks.map (·.1) := by
              rw [hks]
              exact List.mem_map.mpr ⟨x, h, rfl⟩
            obtain ⟨t, ht, e⟩ := List.mem_map.mp h4
            exact List.mem_map.mpr ⟨t, ht, by rw [e]⟩
        rw [et]
        unfold addK
        by_cases c : x ∈ dedup (xs.take i)
        · rw [if_pos (iff.mpr c), if_pos c]
          exact hks
        · rw [if_neg fun z => c (iff.mp z), if_neg c, List.map_append, List.map_append, hks]
          rfl
  · obtain ⟨ks, rfl, kok, hks⟩ := c
    have et : xs.take ys.length = xs := List.take_of_length_le (by omega)
    rw [et] at hks
    have klen : ks.length ≤ xs.length := by
      have e := congrArg List.length hks
      rw [List.length_map, List.length_map] at e
      have := dedup_len xs
      omega
    refine ⟨D, ks, rfl, upd_same, Nat.le_trans klen (Nat.le_of_lt (Nat.lt_of_lt_of_le hl (by decide))), fun p hp => ?_⟩
    refine q p _ _ (g1.nn ((stay hD).nn (nw_none hp))) (g1.trans ((stay hD).add hp)) upd_same ?_
    rw [← hks]
    have all : ∀ l : List (PyData × Addr), (∀ x ∈ l, Dp K H1 (.ref x.2) x.1) → DpAll K H1 (l.map fun x => V.ref x.2) (l.map (·.1)) := by
      intro l
      induction l with
      | nil => exact fun _ => .nil
      | cons x l ih => exact fun h => .cons (h x List.mem_cons_self) (ih fun y hy => h y (List.mem_cons_of_mem _ hy))
    exact dps_ext ((stay hD).add hp).ext (all ks fun x hx => (kok.each x hx).1)
end
end K16

end K16Q3Text
section K16P2Text
set_option autoImplicit false
set_option linter.all false
set_option maxRecDepth 100000
set_option Elab.async false
set_option pp.maxSteps 700
set_option pp.deepTerms false
set_option pp.deepTerms.threshold 4
/-! Lists of pairs. -/
namespace K16
open PySem PySem.Spec PyProof.Rows L2
section
variable {K : PySem.W.Frag} {T : Tb} {H H1 : Hp} {σ : L2.St} {ta tb tl te : TE} {tt : TT} {vs : List Nat} {i j : Nat}
theorem ed_tupStarE {d : PyData} {ds : List PyData} (ha : EvD K T ta σ H (.tuple ds)) (hb : EvD K T tb σ H (.d d)) (hl : ds.length < 100000) : EvD K T (tTup (StX.tStar K ta (tCons tb tNil))) σ H (.tuple (ds ++ [d])) := .of fun H1 g Q q =>
  ha.run g fun y H2 g2 hy => by
    obtain ⟨a, xs, rfl, h1, h2⟩ := dp_tup hy
    refine ⟨a, xs, rfl, .inl h1, hb.run (g.trans g2) fun x H3 g3 hx => ?_⟩
    have hlen := dps_len h2
    refine ⟨sz (by rw [List.length_append, List.length_singleton]; omega), fun p hp => ?_⟩
    exact new_tup (g2.trans g3) hp (dps_app (dps_ext g3.ext h2) (.cons hx.dp .nil)) q
/-- a pair's target -/
theorem pair_tg {x : V} {d e : PyData} {Q : L2.St → Hp → Prop} (hx : Dp K H x (.tuple [d, e])) (k : ∀ a b, Dp K H a d → Dp K H b e → Q ((σ.set i (some a)).set j (some b)) H) : gTup K 2 (gCons (gName i) (gCons (gName j) gNil)) x σ H Q := by
  cases hx with
  | tup hs ha =>
    cases ha with
    | cons h1 t =>
      cases t with
      | cons h2 t =>
        cases t
        exact ⟨_, _, rfl, hs, rfl, _, _, rfl, _, _, rfl, rfl, k _ _ h1 h2⟩
/-- a comprehension over a list of pairs -/
theorem el_lcP {A : Type} (xs : List A) (f f' : A → PyData) (g : A → PyData) (hs : EvD K T tl σ H (.list (xs.map fun x => .tuple [f x, f' x]))) (hl : xs.length < 100000) (hw : ∀ u v, wipe (((wipe σ vs).set i (some u)).set j (some v)) vs = wipe σ vs)
    (he : ∀ (k : Nat) (x : A), xs[k]? = some x → ∀ a b H1, Gr T H H1 → Dp K H1 a (f x) → Dp K H1 b (f' x) → EvE K T te (((wipe σ vs).set i (some a)).set j (some b)) H1 (g x)) :
    EvL K T (tLc (iList K tl) (gTup K 2 (gCons (gName i) (gCons (gName j) gNil))) tYes te vs) σ H (xs.map g) := by
  have q := el_lcG (tt := tYes) (te := te) (vs := vs) (tg := gTup K 2 (gCons (gName i) (gCons (gName j) gNil))) xs (fun x => .tuple [f x, f' x]) (fun _ => true) g hs hl fun k x hx v H1 H2 g1 hv g2 R r => by
    cases hv with
    | tup hs ha =>
      cases ha with
      | cons h1 t =>
        cases t with
        | cons h2 t =>
          cases t
          exact ⟨_, _, rfl, st_ext g2.ext hs, rfl, _, _, rfl, _, _, rfl, rfl, r _ eb_yes (fun _ => he k x hx _ _ H1 g1 h1 h2) (hw _ _)⟩
  rw [List.filter_eq_self.mpr fun _ _ => rfl] at q
  exact q
end
end K16

end K16P2Text
section K16F4Text
set_option autoImplicit false
set_option linter.all false
/-! Heaps that hold both: what the rows are, while they are made. -/
namespace K16
section
variable {A : Type}
theorem flat_take_len {B C : Type} (f : B → List C) : ∀ (l : List B) (i : Nat), ((l.take i).flatMap f).length ≤ (l.flatMap f).length
  | [], i => by simp
  | x :: l, 0 => by simp
  | x :: l, i + 1 => by
    have := flat_take_len f l i
    rw [List.take_succ_cons, List.flatMap_cons, List.flatMap_cons, List.length_append, List.length_append]
    omega
/-- the places of the rows are places of u -/
def InU (m : Nat) (rows : List (List A × List Nat)) : Prop := ∀ r ∈ rows, ∀ p ∈ r.2, p < m
theorem inU_step {B : A → A → List A} {u : List A} {x : A} {m : Nat} {rows : List (List A × List Nat)} (h : InU m rows) : InU m (heapStep B u rows x) := fun r hr p hp => by
  unfold heapStep at hr
  rcases List.mem_append.mp hr with hr | hr
  · obtain ⟨r0, h0, rfl⟩ := List.mem_map.mp hr
    exact h r0 h0 p hp
  · obtain ⟨r0, h0, hr⟩ := List.mem_flatMap.mp hr
    obtain ⟨p0, hp0, hr⟩ := List.mem_flatMap.mp hr
    cases e : u[p0]? with
    | none => rw [e] at hr; simp at hr
    | some y =>
      rw [e] at hr
      obtain ⟨b, hb, rfl⟩ := List.mem_map.mp hr
      exact h r0 h0 p (List.mem_filter.mp hp).1
theorem inU_fold {B : A → A → List A} {u : List A} {m : Nat} : ∀ (v : List A) (rows : List (List A × List Nat)), InU m rows → InU m (v.foldl (heapStep B u) rows)
  | [], _, h => h
  | x :: v, rows, h => by
    rw [List.foldl_cons]
    exact inU_fold v _ (inU_step h)
theorem inU_start (m : Nat) : InU m [(([] : List A), List.range m)] := fun r hr p hp => by
  have : r = ([], List.range m) := by simpa using hr
  rw [this] at hp
  exact List.mem_range.mp hp
end
end K16

end K16F4Text
section K16K4Text
set_option autoImplicit false
set_option linter.all false
set_option Elab.async false
/-! Values as keys. -/
namespace K16
open PySem PySem.Spec PyProof.Rows L2
theorem okDs_iff {ds : List PyData} : okDs ds = true ↔ ∀ d ∈ ds, okD d = true := by
  induction ds with
  | nil => simp [okDs]
  | cons d ds ih => simp [okDs, ih]
theorem okD_enc : ∀ (s : So) (v : Va s), okD (enc s v) = true
  | .mark ls, v => rfl
  | .count, v => rfl
  | .both a b, v => by
    show okDs [enc a v.1, enc b v.2] = true
    simp [okDs, okD_enc a v.1, okD_enc b v.2]
  | .either a b, .inl v => by
    show okDs [.str "left", enc a v] = true
    simp [okDs, okD, okD_enc a v]
  | .either a b, .inr v => by
    show okDs [.str "right", enc b v] = true
    simp [okDs, okD, okD_enc b v]
  | .lane a, v => by
    show okDs (List.map (enc a) v) = true
    rw [okDs_iff]
    intro d hd
    obtain ⟨x, _, rfl⟩ := List.mem_map.mp hd
    exact okD_enc a x
  | .heap a, v => by
    show okDs (List.map (enc a) v) = true
    rw [okDs_iff]
    intro d hd
    obtain ⟨x, _, rfl⟩ := List.mem_map.mp hd
    exact okD_enc a x
theorem kdepths_le {n : Nat} : ∀ ks : List NestedKey, (∀ k ∈ ks, k.depth ≤ n) → NestedKey.depthAll ks ≤ n
  | [], _ => Nat.zero_le _
  | k :: ks, h => by
    rw [NestedKey.depthAll]
    have h1 := h k List.mem_cons_self
    have h2 := kdepths_le ks fun x hx => h x (List.mem_cons_of_mem _ hx)
    omega
theorem keysOf_map (ds : List PyData) : keysOf ds = ds.map keyOf := by
  induction ds with
  | nil => rfl
  | cons d ds ih => rw [keysOf, ih]; rfl
theorem kdepth_enc : ∀ (s : So) (v : Va s), (keyOf (enc s v)).depth ≤ dep s
  | .mark ls, v => Nat.le_refl _
  | .count, v => Nat.le_refl _
  | .both a b, v => by
    have h1 := kdepth_enc a v.1
    have h2 := kdepth_enc b v.2
    show NestedKey.depthAll [keyOf (enc a v.1), keyOf (enc b v.2)] + 1 ≤ max (dep a) (dep b) + 1
    simp only [NestedKey.depthAll]
    omega
  | .either a b, .inl v => by
    have h1 := kdepth_enc a v
    show NestedKey.depthAll [.text "left", keyOf (enc a v)] + 1 ≤ max (dep a) (dep b) + 1
    simp only [NestedKey.depthAll, NestedKey.depth]
    omega
  | .either a b, .inr v => by
    have h1 := kdepth_enc b v
    show NestedKey.depthAll [.text "right", keyOf (enc b v)] + 1 ≤ max (dep a) (dep b) + 1
    simp only [NestedKey.depthAll, NestedKey.depth]
    omega
  | .lane a, v => by
    show NestedKey.depthAll (keysOf (List.map (enc a) v)) + 1 ≤ dep a + 1
    refine Nat.succ_le_succ (kdepths_le _ fun k hk => ?_)
    rw [keysOf_map] at hk
    obtain ⟨d, hd, rfl⟩ := List.mem_map.mp hk
    obtain ⟨x, _, rfl⟩ := List.mem_map.mp hd
    exact kdepth_enc a x
  | .heap a, v => by
    show NestedKey.depthAll (keysOf (List.map (enc a) v)) + 1 ≤ dep a + 1
    refine Nat.succ_le_succ (kdepths_le _ fun k hk => ?_)
    rw [keysOf_map] at hk
    obtain ⟨d, hd, rfl⟩ := List.mem_map.mp hk
    obtain ⟨x, _, rfl⟩ := List.mem_map.mp hd
    exact kdepth_enc a x
theorem enc_inj {s : So} (h : Wf s) {x y : Va s} (e : enc s x = enc s y) : x = y := by
  have e1 := eqv_enc s h x y
  rw [← e, eqv_enc s h x x] at e1
  exact of_decide_eq_true (e1.symm.trans (decide_eq_true rfl))
end K16

end K16K4Text
section K16R18Text
set_option autoImplicit false
set_option linter.all false
set_option maxRecDepth 100000
set_option Elab.async false
set_option pp.maxSteps 700
set_option pp.deepTerms false
set_option pp.deepTerms.threshold 4
namespace K16
open PySem PySem.Spec PyProof.Rows L2
abbrev sHeapsHeld : Stmt := topS 33
abbrev nHeapsHeld : List Str := ["sort", "v", "u", "rows", "one", "more", "found", "left", "place", "rest", "every", "value", "other", "both"]
theorem scHeapsHeld : FnScope nHeapsHeld ["sort", "v", "u"] (defScope sHeapsHeld) := ⟨rfl, rfl, rfl, by decide +kernel, rfl, by decide +kernel, by decide +kernel⟩
theorem pe_tupleOfK {X : Cx} (K : PySem.W.Frag) (hK : X.K = K) {e : Expr} {te : TE} {p pos : Pos} (hg : Gl X "tuple") (hm : X.mg "tuple" = none) (he : PE X e te) (hs : starEach [e] X.env = (false, eval e X.env) :: starEach [] X.env := by rfl) : PE X (.Call (.Name "tuple" p) [e] [] pos) (tThen te (kTup K)) := by
  subst hK
  exact pe_tupleOf hg hm he hs
def RHeaps (d : Nat) (ds : List De) (P : De → Prop) : Prop := ∃ (a : So) (v u : List (Va a)), ds = [.s (.heap a), .d (encs a v), .d (encs a u)] ∧ dep a < d ∧ Wf a ∧ Sms 2 a v ∧ Sms 2 a u ∧ wcap (.heap a) ≤ cap0 ∧ P = fun r => r = Lst (.heap a) (rawBoth (.heap a) v u)
def hpPlace {A : Type} (B : A → A → List A) (u : List A) (x : A) (r : List A × List Nat) (p : Nat) : List (List A × List Nat) := match u[p]? with
  | some y => (B x y).map fun b => (r.1 ++ [b], r.2.filter fun q => decide (q ≠ p))
  | none => []
/-- a row's data -/
def hrow (a : So) (r : List (Va a) × List Nat) : PyData := .tuple [.tuple (r.1.map (enc a)), .tuple (r.2.map fun n => .int ((n : Nat) : Int))]
theorem noL_hrow (a : So) (r : List (Va a) × List Nat) : noL (hrow a r) = true := by
  show (noLs (r.1.map (enc a)) && (noLs (r.2.map fun n => .int ((n : Nat) : Int)) && true)) = true
  rw [noLs_encL, noLs_ints]
  rfl
theorem elems_map {a : So} {u : List (Va a)} : ∀ l : List Nat, (∀ p ∈ l, p < u.length) → (elems u l).map (enc a) = l.map fun p => ((u[p]?).map (enc a)).getD .none
  | [], _ => rfl
  | p :: l, h => by
    have hp := h p List.mem_cons_self
    have e : u[p]? = some u[p] := List.getElem?_eq_getElem hp
    have ih := elems_map l fun q hq => h q (List.mem_cons_of_mem _ hq)
    unfold elems at ih ⊢
    rw [List.filterMap_cons, e, List.map_cons, List.map_cons, ih, e]
    rfl
section
variable {P : Program} {w : World} {K : PySem.W.Frag} {mg : Str → Option Value} {base : Heap} {T : Tb} {aS : Addr}
theorem hasHeapsHeld (d : Nat) (hd5 : d ≤ 5) (D : DefOk K mg "heaps_held" sHeapsHeld ["sort", "v", "u"]) (M : Bi mg) (h_raw_both : Has P w K mg base (20 + 3 * d) "raw_both" ["sort", "v", "u"] (spOf T K (RBoth d))) (h_one_form : Has P w K mg base (d + 6) "one_form" ["sort", "data"] (spOf T K (ROne (d + 1)))) (h_least : Has P w K mg base (16 + 3 * d) "least" ["sort", "some"] (spOf T K (RLeast (d + 1)))) :
    Has P w K mg base (21 + 3 * d) "heaps_held" ["sort", "v", "u"] (spOf T K (RHeaps d)) := by
  have nd := scHeapsHeld.nd
  refine D.pure (20 + 3 * d) scHeapsHeld (fun ds Pd h => ?_) fun f cdv A outer s H E vs ds Pd hr hT hv hR => ?_
  · obtain ⟨s, x, y, rfl, _⟩ := h
    rfl
  obtain ⟨a, v, u, rfl, hd, hw, svv, su, hcap, rfl⟩ := hR
  obtain ⟨v1, v2, v3, rfl, h1, h2, h3⟩ := dqa3 hv
  have hu : (cxOf CX0 P w K mg base nHeapsHeld "heaps_held" (defScope sHeapsHeld) f cdv A outer s H E).nox.A.units + 64 < cLine := hr.units
  refine ⟨_, (pss_cons (ps_set (i := 3) nd rfl (Or.inl rfl) (pe_lst (pa_cons (pe_tup (pa_cons (pe_tup pa_nil) (pa_cons (pe_tupRg rfl rfl (M.tuple) (prg_1 rfl (M.range) (pe_callB call_len_seq rfl (M.len) PySem.boot_len (pa_cons (pv 2) pa_nil)))) pa_nil))) pa_nil)))
    (pss_cons (ps_for PassesOwn.never rfl (pi_tup (pv 1)) (pg_name (i := 4) nd rfl (Or.inr rfl)) (pss_cons (ps_setLc (i := 5) (own := [("found", 6), ("left", 7)]) rfl nd rfl rfl (sw_true rfl rfl rfl (by decide +kernel)) (pi_list (pv 3)) (blkOk_by (N := nHeapsHeld) (sc := (defScope sHeapsHeld)) (by decide +kernel)) (fun _ _ _ _ _ => (pg_tupK (n := 2) K rfl rfl (pgs_cons (pg_name (i := 6) nd rfl (Or.inl rfl)) (pgs_cons (pg_name (i := 7) nd rfl (Or.inl rfl)) pgs_nil)))) (fun _ _ _ _ _ => pts_nil) (fun _ _ _ _ _ => (pe_tup (pa_cons (pe_tup (pa_starK K rfl (pv 6) (pa_cons (pv 4) pa_nil))) (pa_cons (pv 7) pa_nil)))))
    (pss_cons (ps_for PassesOwn.never rfl (pi_list (pv 3)) (pg_tupK (n := 2) K rfl rfl (pgs_cons (pg_name (i := 6) nd rfl (Or.inr rfl)) (pgs_cons (pg_name (i := 7) nd rfl (Or.inl rfl)) pgs_nil))) (pss_one (ps_for PassesOwn.never rfl (pi_tup (pv 7)) (pg_name (i := 8) nd rfl (Or.inr rfl)) (pss_cons (ps_set (i := 9) nd rfl (Or.inr rfl) (pe_tupleOf rfl (M.tuple) (pe_lc (own := [("other", 12)]) rfl nd (pi_tup (pv 7)) (blkOk_by (N := nHeapsHeld) (sc := (defScope sHeapsHeld)) (by decide +kernel)) (fun _ _ _ _ _ => (pg_name (i := 12) nd rfl (Or.inl rfl))) (fun _ _ _ _ _ => (pts_one (pt_cmpR op_ne (pv 12) (pv 8) (nomark _)))) (fun _ _ _ _ _ => (pv 12)))))
    (pss_one (ps_set (i := 5) nd rfl (Or.inl rfl) (pe_op op_cat (pv 5) (pe_lc (own := [("both", 13)]) rfl nd (pi_list (pe_has h_raw_both hr (by omega) (pa_cons (pe_ix ix_tup (pv 0) pe_int (fun _ _ => rfl)) (pa_cons (pv 4) (pa_cons (pe_ix ix_tup (pv 2) (pv 8) (fun _ _ => rfl)) pa_nil))))) (blkOk_by (N := nHeapsHeld) (sc := (defScope sHeapsHeld)) (by decide +kernel)) (fun _ _ _ _ _ => (pg_name (i := 13) nd rfl (Or.inl rfl))) (fun _ _ _ _ _ => pts_nil) (fun _ _ _ _ _ => (pe_tup (pa_cons (pe_tup (pa_starK K rfl (pv 6) (pa_cons (pv 13) pa_nil))) (pa_cons (pv 9) pa_nil))))))))))))
    (pss_one (ps_set (i := 3) nd rfl (Or.inl rfl) (pv 5))))))
    (pss_cons (ps_setLc (i := 10) (own := [("found", 6), ("left", 7)]) rfl nd rfl rfl (sw_true rfl rfl rfl (by decide +kernel)) (pi_list (pv 3)) (blkOk_by (N := nHeapsHeld) (sc := (defScope sHeapsHeld)) (by decide +kernel)) (fun _ _ _ _ _ => (pg_tupK (n := 2) K rfl rfl (pgs_cons (pg_name (i := 6) nd rfl (Or.inl rfl)) (pgs_cons (pg_name (i := 7) nd rfl (Or.inl rfl)) pgs_nil)))) (fun _ _ _ _ _ => pts_nil) (fun _ _ _ _ _ => (pe_has h_one_form hr (by omega) (pa_cons (pv 0) (pa_cons (pe_op (r := rCatA K) op_catA (pv 6) (pe_tupleOfK K rfl rfl (M.tuple) (pe_lc (own := [("place", 8)]) rfl nd (pi_tupK K rfl (pv 7)) (blkOk_by (N := nHeapsHeld) (sc := (relS _ (defScope sHeapsHeld))) (by decide +kernel)) (fun _ _ _ _ _ => (pg_name (i := 8) nd rfl (Or.inl rfl))) (fun _ _ _ _ _ => pts_nil) (fun _ _ _ _ _ => (pe_ix (r := rIxT K) ix_tup (pv 2) (pv 8) (fun _ _ => rfl)))))) pa_nil)))))
    (pss_one (ps_ret (pe_has h_least hr (by omega) (pa_cons (pv 0) (pa_cons (pe_callTy (cr_listK rfl) rfl (M.list) (by decide +kernel) (pa_cons (pe_dk (own := [("value", 11)]) hu rfl nd (pi_list (pv 10)) (blkOk_by (N := nHeapsHeld) (sc := (defScope sHeapsHeld)) (by decide +kernel)) (fun _ _ _ _ _ => (pg_name (i := 11) nd rfl (Or.inl rfl))) (fun _ _ _ _ _ => (pv 11)) (fun _ _ _ _ _ => pe_bl)) pa_nil)) pa_nil)))))))), ?_⟩
  intro H0 g0 D q
  have h1 := dq_ext g0.ext h1
  have h2 := dq_ext g0.ext h2
  have h3 := dq_ext g0.ext h3
  have q' : ∀ v_1 H2, Gr T H0 H2 → Dq K H2 v_1 (Lst (.heap a) (rawBoth (.heap a) v u)) → D.rt v_1 H2 := fun a b c e => q a _ b c e rfl
  have hu2 := su.1
  have hv2 := svv.1
  have L1 : ∀ (σ : L2.St) (H : Hp), σ[2]? = some (some v3) → Gr T H0 H → EvD K T (tCB (fun xs H Q => ∃ p n, xs = [V.ref p] ∧ ((SqL K H p n) ∨ SqT K H p n) ∧ Q (.int n.length) H) (tCons (tVar 2) tNil)) σ H (.int ((u.length : Nat) : Int)) := fun σ H hσ g => by
    have z := ed_lenT (T := T) (ed_var (T := T) (K := K) (σ := σ) (i := 2) hσ (dq_ext g.ext h3))
    rw [List.length_map] at z
    exact z
  have rows0 : EvL K T (tLst (tCons (tTup (tCons (tTup tNil) (tCons (tTupRg (tRg1 (tCB (fun xs H Q => ∃ p n, xs = [V.ref p] ∧ ((SqL K H p n) ∨ SqT K H p n) ∧ Q (.int n.length) H) (tCons (tVar 2) tNil)))) tNil))) tNil)) (start nHeapsHeld [v1, v2, v3]) H0 [hrow a ([], List.range u.length)] := by
    refine el_lst (as := [.d (hrow a ([], List.range u.length))]) (ea_cons ?_ ea_nil) rfl (by simp)
    exact ed_tup (as := [.d (.tuple []), .d (.tuple (ixs u.length))]) (ea_cons (ed_tup (as := []) ea_nil rfl (by simp)) (ea_cons (ed_rgT (L1 _ _ rfl (.refl g0.tab)) (by omega)) ea_nil)) rfl (by simp)
  refine s_seq (s_asg (rows0.run g0.self fun R0 xs0 H1 nR g1 hR dR => ?_))
  obtain ⟨va, vs, rfl, hva, dva⟩ := dp_tup (show Dp K H0 v2 (.tuple (v.map (enc a))) from h2)
  have hlv := dps_len dva
  rw [List.length_map] at hlv
  have hcap' : wcap a ≤ cap0 := by
    refine Nat.le_trans ?_ hcap
    show wcap a ≤ (1 + 2 * wcap a) * (1 + 2 * wcap a)
    have := Nat.mul_le_mul_left (1 + 2 * wcap a) (show 1 ≤ 1 + 2 * wcap a by omega)
    omega
  dsimp only
  refine s_seq ⟨.ref va, rfl, va, rfl, ⟨vs, st_ext g1.ext hva⟩, for_tup (xs := vs) (fun k σ H' => ∃ (R : Addr) (xs : List V) (o4 o5 o6 o7 o8 o9 o10 o11 o12 o13 : Option V), σ = [some v1, some (.ref va), some v3, some (.ref R), o4, o5, o6, o7, o8, o9, o10, o11, o12, o13] ∧ H' R = some (.lst xs) ∧ DpAll K H' xs (((v.take k).foldl (heapStep (rawBoth a) u) [([], List.range u.length)]).map (hrow a)) ∧ Gr T H0 H') ?_ ?_ ?_ ?_⟩
  · exact ⟨R0, xs0, none, none, none, none, none, none, none, none, none, none, rfl, hR, dR, g1⟩
  · rintro i σ H' _ ⟨_, _, _, _, _, _, _, _, _, _, _, _, _, _, _, g⟩
    exact st_ext g.ext hva
  · rintro k y σ H' hy ⟨R, xs, o4, o5, o6, o7, o8, o9, o10, o11, o12, o13, rfl, hR, dR, g'⟩
    have hk : k < v.length := by
      have := (List.getElem?_eq_some_iff.mp hy).1
      omega
    obtain ⟨d0, e1, e2⟩ := dps_at dva hy
    obtain ⟨x0, ex⟩ : ∃ x0, v[k]? = some x0 := ⟨_, List.getElem?_eq_getElem hk⟩
    rw [List.getElem?_map, ex] at e1
    cases e1
    have hx0 : Dq K H0 y (.d (enc a x0)) := .of e2 (enc_nl _ _)
    have sx0 := svv.2 x0 (List.mem_of_getElem? ex)
    have start0 : ∀ r ∈ [(([] : List (Va a)), List.range u.length)], HOk (Sm 4 a) 0 2 r := fun r hr => by
      have : r = ([], List.range u.length) := by simpa using hr
      rw [this]
      exact ⟨Nat.le_refl _, by rw [List.length_range]; exact hu2, fun y hy => nomatch hy⟩
    have fold := fun (n : Nat) => heapFold_ok (Q := Sm 2 a) (R := Sm 4 a) (m := 2) (c := wcap a) (B := rawBoth a) (u := u) (fun x h => sm_mono (by omega) h) (fun x y hx hy => ⟨(rawBoth_few a x y hx hy).2, (rawBoth_few a x y hx hy).1⟩) su.2 (v.take n) 0 _ (fun y h => svv.2 y (List.mem_of_mem_take h)) start0
    have foldL : ∀ n, ((v.take n).foldl (heapStep (rawBoth a) u) [(([] : List (Va a)), List.range u.length)]).length ≤ 2000 := fun n => by
      have z := (fold n).2
      have pc := pow_cap (wcap a) (k := (v.take n).length) (by rw [List.length_take]; omega)
      have hcap2 : (1 + 2 * wcap a) * (1 + 2 * wcap a) ≤ 2000 := hcap
      rw [List.length_singleton, Nat.one_mul] at z
      omega
    have etk : (v.take (k + 1)).foldl (heapStep (rawBoth a) u) [(([] : List (Va a)), List.range u.length)] = heapStep (rawBoth a) u ((v.take k).foldl (heapStep (rawBoth a) u) [(([] : List (Va a)), List.range u.length)]) x0 := by
      rw [List.take_add_one, ex, List.foldl_append]
      rfl
    have len1 := foldL (k + 1)
    have len0 := foldL k
    have fo := (fold k).1
    have inU := inU_fold (B := rawBoth a) (u := u) (v.take k) _ (inU_start u.length)
    rw [etk] at len1
    rw [etk]
    generalize (v.take k).foldl (heapStep (rawBoth a) u) [(([] : List (Va a)), List.range u.length)] = rows at dR fo inU len0 len1
    have lenS : rows.length + (rows.flatMap (heapPairs (rawBoth a) u x0)).length ≤ 2000 := by
      unfold heapStep at len1
      rw [List.length_append, List.length_map] at len1
      exact len1
    have ltk : (v.take k).length ≤ 2 := by rw [List.length_take]; omega
    have more0 : EvL K T (tLc (iList K (tVar 3)) (gTup K 2 (gCons (gName 6) (gCons (gName 7) gNil))) tYes (tTup (tCons (tTup (StX.tStar K (tVar 6) (tCons (tVar 4) tNil))) (tCons (tVar 7) tNil))) [6, 7]) [some v1, some (.ref va), some v3, some (.ref R), some y, o5, o6, o7, o8, o9, o10, o11, o12, o13] H' (rows.map fun r => hrow a (r.1 ++ [x0], r.2)) := by
      refine el_lcP rows (fun r => .tuple (r.1.map (enc a))) (fun r => .tuple (r.2.map fun n => .int ((n : Nat) : Int))) _ (ed_var rfl (Dq.lst hR dR)) (by omega) (by intro _ _; rfl) fun i r hr a' b' H2 g2 ha hb => EvD.e (ed_tup (as := [.d (.tuple ((r.1 ++ [x0]).map (enc a))), .d (.tuple (r.2.map fun n => .int ((n : Nat) : Int)))]) (ea_cons ?_ (ea_cons (ed_var (i := 7) rfl (.of hb (fun _ z => nomatch z))) ea_nil)) rfl (by simp)) (noL_hrow _ _)
      have ok := fo r (List.mem_of_getElem? hr)
      have okf := ok.f
      refine (ed_tupStarE (d := enc a x0) (ds := r.1.map (enc a)) (ed_var (i := 6) rfl (.of ha (fun _ z => nomatch z))) (ed_var (i := 4) rfl (dq_ext (g'.trans g2).ext hx0)) (by rw [List.length_map]; omega)).is ?_
      rw [List.map_append]
      rfl
    dsimp only
    refine s_seq (s_asg (more0.run g'.self fun M0 ms0 H1' nM0 g3 hM0 dM0 => ?_))
    have gr3 := g'.trans g3
    have hR3 := g3.stay hR True.intro
    have dR3 := dps_ext g3.ext dR
    have hxl := dps_len dR3
    rw [List.length_map] at hxl
    dsimp only
    refine s_seq ⟨.ref R, rfl, R, rfl, ⟨xs, .of hR3⟩, for_list (xs := xs) (fun i σ H'' => ∃ (M : Addr) (ms : List V) (o6 o7 o8 o9 : Option V), σ = [some v1, some (.ref va), some v3, some (.ref R), some y, some (.ref M), o6, o7, o8, o9, o10, o11, o12, o13] ∧ H'' M = some (.lst ms) ∧ DpAll K H'' ms (((rows.map fun r => (r.1 ++ [x0], r.2)) ++ (rows.take i).flatMap (heapPairs (rawBoth a) u x0)).map (hrow a)) ∧ Gr T H1' H'') ?_ ?_ ?_ ?_⟩
    · refine ⟨M0, ms0, _, _, _, _, rfl, hM0, ?_, .refl g3.tab⟩
      rw [List.take_zero, List.flatMap_nil, List.append_nil, List.map_map]
      exact dM0
    · rintro i σ H'' _ ⟨_, _, _, _, _, _, _, _, _, g⟩
      exact .of (g.stay hR3 True.intro)
    · rintro i z0 σ H4 hz0 ⟨M, ms, o6, o7, o8, o9, rfl, hM, dM, g4⟩
      have hi : i < rows.length := by
        have := (List.getElem?_eq_some_iff.mp hz0).1
        omega
      obtain ⟨d1, e3, e4⟩ := dps_at dR3 hz0
      obtain ⟨r, er⟩ : ∃ r, rows[i]? = some r := ⟨_, List.getElem?_eq_getElem hi⟩
      rw [List.getElem?_map, er] at e3
      cases e3
      have hr := List.mem_of_getElem? er
      have ok := fo r hr
      have okf := ok.f
      have okl := ok.l
      refine pair_tg (dp_ext g4.ext e4) fun fa fl hfa hfl => ?_
      obtain ⟨la, ls, rfl, hla, dla⟩ := dp_tup hfl
      have hll := dps_len dla
      rw [List.length_map] at hll
      refine ⟨.ref la, rfl, la, rfl, ⟨ls, hla⟩, for_tup (xs := ls) (fun j σ H'' => ∃ (M : Addr) (ms : List V) (o8 o9 : Option V), σ = [some v1, some (.ref va), some v3, some (.ref R), some y, some (.ref M), some fa, some (.ref la), o8, o9, o10, o11, o12, o13] ∧ H'' M = some (.lst ms) ∧ DpAll K H'' ms (((rows.map fun r => (r.1 ++ [x0], r.2)) ++ (rows.take i).flatMap (heapPairs (rawBoth a) u x0) ++ (r.2.take j).flatMap (hpPlace (rawBoth a) u x0 r)).map (hrow a)) ∧ Gr T H4 H'') ?_ ?_ ?_ ?_⟩
      · refine ⟨M, ms, _, _, rfl, hM, ?_, .refl g4.tab⟩
        rw [List.take_zero, List.flatMap_nil, List.append_nil]
        exact dM
      · rintro j σ H'' _ ⟨_, _, _, _, _, _, _, g⟩
        exact st_ext g.ext hla
      · rintro j w0 σ H5 hw0 ⟨M, ms, o8, o9, rfl, hM, dM, g5⟩
        have hj : j < r.2.length := by
          have := (List.getElem?_eq_some_iff.mp hw0).1
          omega
        obtain ⟨p, ep⟩ : ∃ p, r.2[j]? = some p := ⟨_, List.getElem?_eq_getElem hj⟩
        obtain ⟨d2, e5, e6⟩ := dps_at dla hw0
        rw [List.getElem?_map, ep] at e5
        cases e5
        cases e6
        have hpu := inU r hr p (List.mem_of_getElem? ep)
        obtain ⟨y0, ey⟩ : ∃ y0, u[p]? = some y0 := ⟨_, List.getElem?_eq_getElem hpu⟩
        have sy0 := su.2 y0 (List.mem_of_getElem? ey)
        have ey' : (u.map (enc a))[p]? = some (enc a y0) := by rw [List.getElem?_map, ey]; rfl
        have g05 := (gr3.trans g4).trans g5
        have few := rawBoth_few a x0 y0 sx0 sy0
        have h2000 : wcap a ≤ 2000 := hcap'
        have comp : EvD K T (tThen (tLc (iTup K (tVar 7)) (gName 12) (tTest (tOp rNe (tVar 12) (tVar 8))) (tVar 12) [12]) (kTup K)) [some v1, some (.ref va), some v3, some (.ref R), some y, some (.ref M), some fa, some (.ref la), some (.int ((p : Nat) : Int)), o9, o10, o11, o12, o13] H5 (.tuple ((r.2.filter fun o => decide (o ≠ p)).map fun n => .int ((n : Nat) : Int))) :=
          ed_tupL (EvL.toD (el_lcT r.2 (fun n => .int ((n : Nat) : Int)) (fun o => decide (o ≠ p)) (fun n => .int ((n : Nat) : Int)) (ed_var rfl (.of (dp_ext g5.ext hfl) (fun _ z => nomatch z))) (by omega) (by intro _; rfl)
            (fun i x hx v H6 g6 hv => (eb_test (K := K) (ed_neI (x := ((x : Nat) : Int)) (y := ((p : Nat) : Int)) (ed_var rfl (by cases hv; exact .int)) (ed_var rfl .int))).is (by
              by_cases c : x = p
              · simp [c]
              · simp [c]
                omega))
            fun i x hx _ v H6 g6 hv => EvD.e (ed_var rfl (.of hv (fun _ z => nomatch z))) rfl))
        refine s_seq (s_asg (comp.run g5.self fun rv H6 g6 hrv => ?_))
        have g06 := g05.trans g6
        have lenR : ((r.2.take j).flatMap (hpPlace (rawBoth a) u x0 r)).length ≤ (heapPairs (rawBoth a) u x0 r).length := flat_take_len _ _ _
        have lenA : ((rows.take i).flatMap (heapPairs (rawBoth a) u x0)).length + (heapPairs (rawBoth a) u x0 r).length ≤ (rows.flatMap (heapPairs (rawBoth a) u x0)).length := by
          have z := flat_take_len (heapPairs (rawBoth a) u x0) rows (i + 1)
          rw [List.take_add_one, er, List.flatMap_append, List.length_append] at z
          simpa using z
        have cat : EvL K T (tOp rCat (tVar 5) (tLc (iList K (tCall (spOf T K (RBoth d)) [] E0 (tCons (tOp (rIxT K) (tVar 0) (tC (.int 1))) (tCons (tVar 4) (tCons (tOp (rIxT K) (tVar 2) (tVar 8)) tNil))))) (gName 13) tYes (tTup (tCons (tTup (StX.tStar K (tVar 6) (tCons (tVar 13) tNil))) (tCons (tVar 9) tNil))) [13])) [some v1, some (.ref va), some v3, some (.ref R), some y, some (.ref M), some fa, some (.ref la), some (.int ((p : Nat) : Int)), some rv, o10, o11, o12, o13] H6 ((((rows.map fun r => (r.1 ++ [x0], r.2)) ++ (rows.take i).flatMap (heapPairs (rawBoth a) u x0) ++ (r.2.take j).flatMap (hpPlace (rawBoth a) u x0 r)).map (hrow a)) ++ ((rawBoth a x0 y0).filter fun _ => true).map fun b => hrow a (r.1 ++ [b], r.2.filter fun o => decide (o ≠ p))) := by
          refine el_cat (ed_var (i := 5) rfl (Dq.lst (g6.stay hM True.intro) (dps_ext g6.ext dM))) (EvL.toD ?_) ?_
          · refine el_lcL (rawBoth a x0 y0) (enc a) (fun _ => true) (fun b => hrow a (r.1 ++ [b], r.2.filter fun o => decide (o ≠ p))) (ed_call (K := K) (T := T) (R := RBoth d) (ea_cons (ed_sub (n := 1) (ed_var (i := 0) rfl (dq_ext g06.ext h1)) ed_int rfl) (ea_cons (ed_var (i := 4) rfl (dq_ext g06.ext hx0)) (ea_cons (ed_ixT (ed_var (i := 2) rfl (dq_ext g06.ext h3)) (ed_var (i := 8) rfl .int) ey' (enc_nl _ _)) ea_nil))) ⟨a, x0, y0, rfl, hd, hw, sx0, sy0, hcap', rfl⟩) (by have := few.1; omega) (by intro _; rfl) (fun _ _ _ _ _ _ _ => eb_yes) fun t b hb _ w H7 g7 hw => EvD.e (ed_tup (as := [.d (.tuple ((r.1 ++ [b]).map (enc a))), .d (.tuple ((r.2.filter fun o => decide (o ≠ p)).map fun n => .int ((n : Nat) : Int)))]) (ea_cons ?_ (ea_cons (ed_var (i := 9) rfl (dq_ext g7.ext hrv)) ea_nil)) rfl (by simp)) (noL_hrow _ _)
            refine (ed_tupStarE (d := enc a b) (ds := r.1.map (enc a)) (ed_var (i := 6) rfl (.of (dp_ext ((g5.trans g6).trans g7).ext hfa) (fun _ z => nomatch z))) (ed_var (i := 13) rfl (.of hw (enc_nl _ _))) (by rw [List.length_map]; omega)).is ?_
            rw [List.map_append]
            rfl
          · have := few.1
            have h2000 : wcap a ≤ 2000 := hcap'
            rw [List.length_map, List.length_map, List.filter_eq_self.mpr fun _ _ => rfl, List.length_append, List.length_append, List.length_map]
            omega
        refine s_asg (cat.run g6.self fun M2 ms2 H7 nM2 g7 hM2 dM2 => ?_)
        refine ⟨M2, ms2, some (.int ((p : Nat) : Int)), some rv, rfl, hM2, ?_, (g5.trans g6).trans g7⟩
        have e7 : (r.2.take (j + 1)).flatMap (hpPlace (rawBoth a) u x0 r) = (r.2.take j).flatMap (hpPlace (rawBoth a) u x0 r) ++ (rawBoth a x0 y0).map fun b => (r.1 ++ [b], r.2.filter fun o => decide (o ≠ p)) := by
          rw [List.take_add_one, ep, List.flatMap_append]
          have : hpPlace (rawBoth a) u x0 r p = (rawBoth a x0 y0).map fun b => (r.1 ++ [b], r.2.filter fun o => decide (o ≠ p)) := by
            unfold hpPlace
            rw [ey]
          simp [this]
        rw [e7, ← List.append_assoc, List.map_append, List.map_map]
        rw [List.filter_eq_self.mpr fun _ _ => rfl] at dM2
        exact dM2
      · rintro σ H5 ⟨M, ms, o8, o9, rfl, hM, dM, g5⟩
        rw [hll, List.take_length] at dM
        refine ⟨M, ms, _, _, _, _, rfl, hM, ?_, g4.trans g5⟩
        have e8 : (rows.take (i + 1)).flatMap (heapPairs (rawBoth a) u x0) = (rows.take i).flatMap (heapPairs (rawBoth a) u x0) ++ r.2.flatMap (hpPlace (rawBoth a) u x0 r) := by
          rw [List.take_add_one, er, List.flatMap_append]
          have : r.2.flatMap (hpPlace (rawBoth a) u x0 r) = heapPairs (rawBoth a) u x0 r := rfl
          rw [this]
          simp
        rw [e8, ← List.append_assoc]
        exact dM
    · rintro σ H4 ⟨M, ms, o6, o7, o8, o9, rfl, hM, dM, g4⟩
      rw [hxl, List.take_length] at dM
      dsimp only
      refine s_asg ⟨.ref M, rfl, ?_⟩
      exact ⟨M, ms, _, _, _, _, _, _, _, _, _, _, rfl, hM, dM, gr3.trans g4⟩
  · rintro σ H' ⟨R, xs, o4, o5, o6, o7, o8, o9, o10, o11, o12, o13, rfl, hR, dR, g'⟩
    rw [List.take_of_length_le (by omega)] at dR
    have fo := heapFold_ok (Q := Sm 2 a) (R := Sm 4 a) (m := 2) (c := wcap a) (B := rawBoth a) (u := u) (fun x h => sm_mono (by omega) h) (fun x y hx hy => ⟨(rawBoth_few a x y hx hy).2, (rawBoth_few a x y hx hy).1⟩) su.2 v 0 [([], List.range u.length)] svv.2 (fun r hr => by
      have : r = ([], List.range u.length) := by simpa using hr
      rw [this]
      exact ⟨Nat.le_refl _, by rw [List.length_range]; exact hu2, fun y hy => nomatch hy⟩)
    have inU := inU_fold (B := rawBoth a) (u := u) v _ (inU_start u.length)
    have pc := pow_cap (wcap a) hv2
    have hcap2 : (1 + 2 * wcap a) * (1 + 2 * wcap a) ≤ 2000 := hcap
    have hsh : rawBoth (.heap a) v u = least (.heap a) (dedup ((v.foldl (heapStep (rawBoth a) u) [([], List.range u.length)]).map fun r => form (.heap a) (r.1 ++ elems u r.2))) := rfl
    generalize v.foldl (heapStep (rawBoth a) u) [([], List.range u.length)] = rows at dR fo inU hsh
    have hlen : rows.length ≤ 2000 := by
      have z := fo.2
      rw [List.length_singleton, Nat.one_mul] at z
      omega
    have every : EvL K T (tLc (iList K (tVar 3)) (gTup K 2 (gCons (gName 6) (gCons (gName 7) gNil))) tYes (tCall (spOf T K (ROne (d + 1))) [] E0 (tCons (tVar 0) (tCons (tOp (rCatA K) (tVar 6) (tThen (tLc (iTup K (tVar 7)) (gName 8) tYes (tOp (rIxT K) (tVar 2) (tVar 8)) [8]) (kTup K))) tNil))) [6, 7]) [some v1, some (.ref va), some v3, some (.ref R), o4, o5, o6, o7, o8, o9, o10, o11, o12, o13] H' (rows.map fun r => enc (.heap a) (form (.heap a) (r.1 ++ elems u r.2))) := by
      refine el_lcP rows (fun r => .tuple (r.1.map (enc a))) (fun r => .tuple (r.2.map fun n => .int ((n : Nat) : Int))) _ (ed_var rfl (Dq.lst hR dR)) (by omega) (by intro _ _; rfl) fun k r hr a' b' H2 g2 ha hb => EvD.e (ed_call (K := K) (T := T) (R := ROne (d + 1)) (ea_cons (ed_var (i := 0) rfl (dq_ext (g'.trans g2).ext h1)) (ea_cons ?_ ea_nil)) ⟨.heap a, r.1 ++ elems u r.2, rfl, Nat.succ_lt_succ hd, hw, ?_, rfl⟩) (noL_enc _ _)
      · have hr' := List.mem_of_getElem? hr
        have ok := fo.1 r hr'
        have okl := ok.l
        have okf := ok.f
        refine (ed_catT (ds := r.1.map (enc a)) (es := r.2.map fun p => ((u[p]?).map (enc a)).getD .none) (ed_var (i := 6) rfl (.of ha (fun _ z => nomatch z))) (ed_tupL (EvL.toD (el_lcTM r.2 (fun n => .int ((n : Nat) : Int)) (fun p => ((u[p]?).map (enc a)).getD .none) (ed_var (i := 7) rfl (.of hb (fun _ z => nomatch z))) (by omega) (by intro _; rfl) fun t p hp w0 H3 g3 hw0 => ?_))) ?_).is ?_
        · have hpu := inU r hr' p (List.mem_of_getElem? hp)
          obtain ⟨y0, ey⟩ : ∃ y0, u[p]? = some y0 := ⟨_, List.getElem?_eq_getElem hpu⟩
          have ey' : (u.map (enc a))[p]? = some (enc a y0) := by rw [List.getElem?_map, ey]; rfl
          rw [ey]
          exact EvD.e (ed_ixT (ed_var (i := 2) rfl (dq_ext ((g'.trans g2).trans g3).ext h3)) (ed_var (i := 8) rfl (.of hw0 (fun _ z => nomatch z))) ey' (enc_nl _ _)) (noL_enc _ _)
        · rw [List.length_map, List.length_map]
          omega
        · rw [← elems_map r.2 (inU r hr'), ← List.map_append]
          rfl
      · have hr' := List.mem_of_getElem? hr
        have ok := fo.1 r hr'
        have okl := ok.l
        have okf := ok.f
        have el := elems_len u r.2
        refine ⟨by show (r.1 ++ elems u r.2).length ≤ 8; rw [List.length_append]; omega, fun y hy => ?_⟩
        rcases List.mem_append.mp hy with h | h
        · exact sm_mono (by omega) (ok.q y h)
        · exact sm_mono (by omega) (elems_mem (Q := Sm 2 a) su.2 h)
    dsimp only
    refine s_seq (s_asg (every.run g'.self fun Ev es H2 nE g2 hE dE => ?_))
    have eE : (rows.map fun r => enc (.heap a) (form (.heap a) (r.1 ++ elems u r.2))) = (rows.map fun r => form (.heap a) (r.1 ++ elems u r.2)).map (enc (.heap a)) := by
      rw [List.map_map]
      rfl
    rw [eE] at dE
    have g2' := g'.trans g2
    dsimp only
    have dE' : DpAll K H2 es ((rows.map fun r => form (.heap a) (r.1 ++ elems u r.2)).map fun x => .tuple (List.map (enc a) x)) := dE
    have ddl := dedup_len (rows.map fun r => form (.heap a) (r.1 ++ elems u r.2))
    rw [List.length_map] at ddl
    have inj : ∀ x y : List (Va a), x.map (enc a) = y.map (enc a) → x = y := fun x y e => enc_inj (s := .heap a) hw (congrArg PyData.tuple e)
    have mem : ∀ m ∈ dedup (rows.map fun r => form (.heap a) (r.1 ++ elems u r.2)), Sm 8 (.heap a) m := fun m hm => by
      have hm' := mem_dedup.mp hm
      obtain ⟨r, hr, rfl⟩ := List.mem_map.mp hm'
      have z := fo.1 r hr
      refine form_sm (s := .heap a) ⟨?_, fun y hy => ?_⟩
      · have h3 := z.f
        have h4 := z.l
        have h5 := elems_len u r.2
        rw [List.length_append]
        omega
      · rcases List.mem_append.mp hy with hy | hy
        · exact sm_mono (by omega) (z.q y hy)
        · exact sm_mono (n := 2) (by omega) (elems_mem (Q := Sm 2 a) su.2 hy)
    refine s_ret ((ed_call (R := RLeast (d + 1)) (ea_cons (ed_var (i := 0) rfl (dq_ext g2'.ext h1)) (ea_cons (EvL.toD (el_dk (P := P) (w := w) (rows.map fun r => form (.heap a) (r.1 ++ elems u r.2)) (fun m : List (Va a) => m.map (enc a)) (fun x _ y _ e => inj x y e) (fun x _ => okD_enc (.heap a) x) (fun x _ => Nat.le_trans (kdepth_enc (.heap a) x) (show dep a + 1 ≤ 8 by omega)) (ed_var (i := 10) rfl (Dq.lst hE dE')) (by rw [List.length_map]; omega) (by intro _; rfl) (by intro _; rfl))) ea_nil)) ⟨.heap a, dedup (rows.map fun r => form (.heap a) (r.1 ++ elems u r.2)), rfl, Nat.succ_lt_succ hd, hw, ⟨by omega, mem⟩, rfl⟩).run g2.self fun x d2 H3 g3 hx e => q' x H3 (g2'.trans g3) ?_)
    rw [hsh]
    exact e ▸ hx
end
end K16

end K16R18Text
section K16R19Text
set_option autoImplicit false
set_option linter.all false
set_option maxRecDepth 100000
set_option Elab.async false
set_option pp.maxSteps 700
set_option pp.deepTerms false
set_option pp.deepTerms.threshold 4
namespace K16
open PySem PySem.Spec PyProof.Rows L2
abbrev sRawBoth : Stmt := topS 34
abbrev nRawBoth : List Str := ["sort", "v", "u", "kind", "others", "found", "one", "other"]
theorem scRawBoth : FnScope nRawBoth ["sort", "v", "u"] (defScope sRawBoth) := ⟨rfl, rfl, rfl, by decide +kernel, rfl, by decide +kernel, by decide +kernel⟩
section
variable {K : PySem.W.Frag} {T : Tb} {H : Hp} {σ : L2.St} {tl te ta tb : TE} {vs vs1 : List Nat} {jo ji jv : Nat}
theorem ed_max {x y : Nat} (ha : EvD K T ta σ H (.int (x : Int))) (hb : EvD K T tb σ H (.int (y : Int))) : EvD K T (tCB (fun xs H Q => ∃ i j, xs = [V.int i, V.int j] ∧ Q (.int (if j > i then j else i)) H) (tCons ta (tCons tb tNil))) σ H (.int ((if y > x then y else x : Nat) : Int)) := .of fun H1 g Q q =>
  ha.run g fun v H2 g2 hv => hb.run (g.trans g2) fun w H3 g3 hw => by
    obtain rfl := dq_int hv
    obtain rfl := dq_int hw
    refine ⟨_, _, rfl, q _ H3 (g2.trans g3) ?_⟩
    have e : (if ((y : Nat) : Int) > ((x : Nat) : Int) then ((y : Nat) : Int) else ((x : Nat) : Int)) = ((if y > x then y else x : Nat) : Int) := by
      by_cases c : y > x
      · rw [if_pos c, if_pos (by omega)]
      · rw [if_neg c, if_neg (by omega)]
    rw [e]
    exact .int
/-- a comprehension over two lists, the second one a name's -/
theorem el_lc2 {A B : Type} {b : Addr} {ws : List V} (xs : List A) (ys : List B) (f : A → PyData) (f1 : B → PyData) (g : A → B → PyData) (hs : EvD K T tl σ H (.list (xs.map f))) (hσ : ∀ v, ((wipe σ vs).set jo (some v))[jv]? = some (some (.ref b))) (hb : H b = some (.lst ws)) (db : DpAll K H ws (ys.map f1))
    (hl : (xs.flatMap fun x => ys.map (g x)).length < 100000) (hw : ∀ v, wipe ((wipe σ vs).set jo (some v)) vs = wipe σ vs) (hw1 : ∀ u v, wipe ((wipe ((wipe σ vs).set jo (some u)) vs1).set ji (some v)) vs1 = wipe ((wipe σ vs).set jo (some u)) vs1)
    (he : ∀ (i : Nat) (x : A) (j : Nat) (y : B), xs[i]? = some x → ys[j]? = some y → ∀ u v H1, Gr T H H1 → Dp K H1 u (f x) → Dp K H1 v (f1 y) → EvE K T te ((wipe ((wipe σ vs).set jo (some u)) vs1).set ji (some v)) H1 (g x y)) :
    EvL K T (tLc2 (iList K tl) (gName jo) tYes (iList K (tVar jv)) (gName ji) tYes te vs vs1) σ H (xs.flatMap fun x => ys.map (g x)) := fun H0 g0 Q q => hs.run g0 fun v H1 g1 hv => by
  obtain ⟨a, zs, rfl, h1, h2⟩ := hv
  have g01 := g0.trans g1
  have hb1 := g01.stay hb True.intro
  have db1 := dps_ext g01.ext db
  have hzl := dps_len h2
  have hwl := dps_len db
  rw [List.length_map] at hzl hwl
  refine ⟨a, rfl, ⟨zs, .of h1⟩, fun D hD => ?_⟩
  refine ⟨fun i m H' => m = zs.length - i ∧ i ≤ zs.length ∧ Cw K T H1 D ((xs.take i).flatMap fun x => ys.map (g x)) H', ⟨_, rfl, Nat.zero_le _, by simpa using Cw.start g1.tab hD⟩, ?_⟩
  rintro i m H' ⟨rfl, hi, c⟩
  have h1' : SqL K H' a zs := .of (c.2.1.stay h1 True.intro)
  by_cases hlt : i < zs.length
  · refine .inr ⟨⟨zs, zs[i], h1', by simp [hlt]⟩, fun H' => Cw K T H1 D ((xs.take (i + 1)).flatMap fun x => ys.map (g x)) H', fun H' p => ⟨zs.length - (i + 1), by omega, rfl, hlt, p⟩, ?_⟩
    rintro x0 H2 ⟨rfl, y⟩
    obtain ⟨d, hd, hx0⟩ := dps_at h2 (y zs h1')
    obtain ⟨x, ex⟩ : ∃ x, xs[i]? = some x := ⟨_, List.getElem?_eq_getElem (by omega)⟩
    rw [List.getElem?_map, ex] at hd
    cases hd
    have es : (xs.take (i + 1)).flatMap (fun x => ys.map (g x)) = (xs.take i).flatMap (fun x => ys.map (g x)) ++ ys.map (g x) := by
      rw [List.take_add_one, ex, List.flatMap_append]
      simp
    refine ⟨hw _, ?_⟩
    refine t_yes ?_
    show ite _ _ _
    rw [if_pos (by rfl)]
    refine ⟨.ref b, hσ x0, b, rfl, ⟨ws, .of (c.2.1.stay hb1 True.intro)⟩, ?_⟩
    refine ⟨fun j k H5 => k = ws.length - j ∧ j ≤ ws.length ∧ Cw K T H1 D ((xs.take i).flatMap (fun x => ys.map (g x)) ++ (ys.take j).map (g x)) H5, ⟨_, rfl, Nat.zero_le _, by simpa using c⟩, ?_⟩
    rintro j k H5 ⟨rfl, hj, c5⟩
    have hb5 : SqL K H5 b ws := .of (c5.2.1.stay hb1 True.intro)
    by_cases hlj : j < ws.length
    · refine .inr ⟨⟨ws, ws[j], hb5, by simp [hlj]⟩, fun H' => Cw K T H1 D ((xs.take i).flatMap (fun x => ys.map (g x)) ++ (ys.take (j + 1)).map (g x)) H', fun H' p => ⟨ws.length - (j + 1), by omega, rfl, hlj, p⟩, ?_⟩
      rintro y0 H6 ⟨rfl, y6⟩
      obtain ⟨d1, hd1, hy0⟩ := dps_at db1 (y6 ws hb5)
      obtain ⟨yy, ey⟩ : ∃ yy, ys[j]? = some yy := ⟨_, List.getElem?_eq_getElem (by omega)⟩
      rw [List.getElem?_map, ey] at hd1
      cases hd1
      refine ⟨hw1 _ _, ?_⟩
      have e : (xs.take i).flatMap (fun x => ys.map (g x)) ++ (ys.take (j + 1)).map (g x) = if true = true then ((xs.take i).flatMap (fun x => ys.map (g x)) ++ (ys.take j).map (g x)) ++ [g x yy] else ((xs.take i).flatMap (fun x => ys.map (g x)) ++ (ys.take j).map (g x)) := by
        rw [if_pos rfl, List.take_add_one, ey, List.map_append, List.append_assoc]
        rfl
      have lt : ((xs.take i).flatMap (fun x => ys.map (g x)) ++ (ys.take j).map (g x)).length < 100000 := by
        refine Nat.lt_of_le_of_lt ?_ hl
        have z := flat_take_len (fun x => ys.map (g x)) xs (i + 1)
        rw [es, List.length_append, List.length_map] at z
        rw [List.length_append, List.length_map, List.length_take]
        omega
      rw [e]
      exact Cw.turn (d := g x yy) c5 lt eb_yes fun _ => he i x j yy ex ey _ _ H1 g01 hx0 hy0
    · refine .inl ⟨⟨ws, hb5, by omega⟩, ?_⟩
      rw [es]
      have ej : ys.take j = ys := List.take_of_length_le (by omega)
      rw [ej] at c5
      exact c5
  · refine .inl ⟨⟨zs, h1', by omega⟩, ?_⟩
    rw [List.take_of_length_le (by omega)] at c
    obtain ⟨nD, gg, acc, e1, e2⟩ := c
    exact q D acc H' (g1.nn nD) (g1.trans gg) e1 (els_dps e2)
end
section
variable {P : Program} {w : World} {K : PySem.W.Frag} {mg : Str → Option Value} {base : Heap} {T : Tb} {aS : Addr}
theorem hasRawBoth (d : Nat) (D : DefOk K mg "raw_both" sRawBoth ["sort", "v", "u"]) (C : Cn K mg aS) (M : Bi mg) (kS : ∀ H, Kn K H aS ["left", "right"]) (h_raw_both : Has P w K mg base (20 + 3 * d) "raw_both" ["sort", "v", "u"] (spOf T K (RBoth d)))
    (h_lanes_held : Has P w K mg base (21 + 3 * d) "lanes_held" ["sort", "v", "u"] (spOf T K (RLanes d))) (h_heaps_held : Has P w K mg base (21 + 3 * d) "heaps_held" ["sort", "v", "u"] (spOf T K (RHeaps d))) :
    Has P w K mg base (23 + 3 * d) "raw_both" ["sort", "v", "u"] (spOf T K (RBoth (d + 1))) := by
  have nd := scRawBoth.nd
  refine D.pure (22 + 3 * d) scRawBoth (fun ds Pd h => ?_) fun f cdv A outer s H E vs ds Pd hr hT hv hR => ?_
  · obtain ⟨s, x, y, rfl, _⟩ := h
    rfl
  obtain ⟨so, x, y, rfl, hd, hw, sx, sy, hcap, rfl⟩ := hR
  obtain ⟨v1, v2, v3, rfl, h1, h2, h3⟩ := dqa3 hv
  refine ⟨_, (pss_cons (ps_set (i := 3) nd rfl (Or.inl rfl) (pe_ix ix_tup (pv 0) pe_int (fun _ _ => rfl)))
    (pss_cons (ps_if (pt_cmpR op_eq (pv 3) pe_str (nomark _)) (pss_one (ps_ret (pe_ifExp (pt_cmpR op_eq (pv 1) (pv 2) (nomark _)) (pe_lst (pa_cons (pv 1) pa_nil)) (pe_lst pa_nil)))) pss_nil)
    (pss_cons (ps_if (pt_cmpR op_eq (pv 3) pe_str (nomark _)) (pss_one (ps_ret (pe_lst (pa_cons (pe_callB (call_max2 rfl) rfl (M.max) (by decide +kernel) (pa_cons (pv 1) (pa_cons (pv 2) pa_nil))) pa_nil)))) pss_nil)
    (pss_cons (ps_if (pt_cmpR op_eq (pv 3) pe_str (nomark _)) (pss_cons (ps_set (i := 4) nd rfl (Or.inr rfl) (pe_has h_raw_both hr (by omega) (pa_cons (pe_ix ix_tup (pv 0) pe_int (fun _ _ => rfl)) (pa_cons (pe_ix ix_tup (pv 1) pe_int (fun _ _ => rfl)) (pa_cons (pe_ix ix_tup (pv 2) pe_int (fun _ _ => rfl)) pa_nil)))))
    (pss_one (ps_ret (pe_lc2 (own := [("one", 6), ("other", 7)]) (vs1 := [7]) rfl nd (pi_list (pe_has h_raw_both hr (by omega) (pa_cons (pe_ix ix_tup (pv 0) pe_int (fun _ _ => rfl)) (pa_cons (pe_ix ix_tup (pv 1) pe_int (fun _ _ => rfl)) (pa_cons (pe_ix ix_tup (pv 2) pe_int (fun _ _ => rfl)) pa_nil))))) (blkOk_by (N := nRawBoth) (sc := (defScope sRawBoth)) (by decide +kernel)) (by decide) (fun _ _ _ _ _ => (pg_name (i := 6) nd rfl (Or.inl rfl))) (fun _ _ _ _ _ => pts_nil) (fun _ _ _ _ _ => (pi_listK K rfl (pv 4))) (fun _ _ _ _ _ => (pg_name (i := 7) nd rfl (Or.inl rfl))) (fun _ _ _ _ _ => pts_nil) (fun _ _ _ _ _ => (pe_tup (pa_cons (pv 6) (pa_cons (pv 7) pa_nil)))))))) pss_nil)
    (pss_cons (ps_if (pt_cmpR op_eq (pv 3) pe_str (nomark _)) (pss_cons (ps_set (i := 5) nd rfl (Or.inl rfl) (pe_ifExp (pt_cmpR op_eq (pe_ix ix_tup (pv 1) pe_int (fun _ _ => rfl)) (pe_ix ix_tup (pv 2) pe_int (fun _ _ => rfl)) (nomark _)) (pe_has h_raw_both hr (by omega) (pa_cons (pe_ix ix_tup (pv 0) (pe_op op_add pe_int (pe_tix (pe_glob (v := .ref aS) rfl C.sides rfl) (pa_cons (pe_ix ix_tup (pv 1) pe_int (fun _ _ => rfl)) pa_nil))) (fun _ _ => rfl)) (pa_cons (pe_ix ix_tup (pv 1) pe_int (fun _ _ => rfl)) (pa_cons (pe_ix ix_tup (pv 2) pe_int (fun _ _ => rfl)) pa_nil)))) (pe_lst pa_nil)))
    (pss_one (ps_ret (pe_lc (own := [("one", 6)]) rfl nd (pi_list (pv 5)) (blkOk_by (N := nRawBoth) (sc := (defScope sRawBoth)) (by decide +kernel)) (fun _ _ _ _ _ => (pg_name (i := 6) nd rfl (Or.inl rfl))) (fun _ _ _ _ _ => pts_nil) (fun _ _ _ _ _ => (pe_tup (pa_cons (pe_ix (r := rIxT K) ix_tup (pv 1) pe_int (fun _ _ => rfl)) (pa_cons (pv 6) pa_nil)))))))) pss_nil)
    (pss_one (ps_ret (pe_ifExp (pt_cmpR op_eq (pv 3) pe_str (nomark _)) (pe_has h_lanes_held hr (by omega) (pa_cons (pv 0) (pa_cons (pv 1) (pa_cons (pv 2) pa_nil)))) (pe_has h_heaps_held hr (by omega) (pa_cons (pv 0) (pa_cons (pv 1) (pa_cons (pv 2) pa_nil)))))))))))), ?_⟩
  refine rd_set (ed_tag (ed_var rfl h1) ed_int) fun k H1 g1 hk => ?_
  have h1 := dq_ext g1.ext h1
  have h2 := dq_ext g1.ext h2
  have h3 := dq_ext g1.ext h3
  cases so with
  | mark ls =>
    refine rd_yes (eb_tag (m := 0) (ed_var rfl hk) ed_str) (rd_ret ?_)
    refine ed_if ((eb_test (ed_eqS (ed_var rfl h2) (ed_var rfl h3))).is (mark_eq hw.1 x y)) (fun e => ?_) fun e => ?_
    · have e := of_decide_eq_true e
      refine (EvL.toD (el_lst (as := [.d (enc (.mark ls) x)]) (ea_cons (ed_var rfl h2) ea_nil) rfl (by simp))).is ?_
      show _ = Lst (.mark ls) (if x = y then [x] else [])
      rw [if_pos e]
      rfl
    · have e := of_decide_eq_false e
      refine (EvL.toD (el_lst (as := []) ea_nil rfl (by simp))).is ?_
      show _ = Lst (.mark ls) (if x = y then [x] else [])
      rw [if_neg e]
      rfl
  | count =>
    refine rd_no (eb_tag (m := 0) (ed_var rfl hk) ed_str) (rd_yes (eb_tag (m := 1) (ed_var rfl hk) ed_str) (rd_ret ?_))
    exact EvL.toD (el_lst (as := [.int _]) (ea_cons (ed_max (ed_var rfl h2) (ed_var rfl h3)) ea_nil) rfl (by show 1 ≤ 100000; omega))
  | both a b =>
    have d1 : dep a < d := by simp only [dep] at hd; omega
    have d2 : dep b < d := by simp only [dep] at hd; omega
    have c12 := cap_both hcap
    refine rd_no (eb_tag (m := 0) (ed_var rfl hk) ed_str) (rd_no (eb_tag (m := 1) (ed_var rfl hk) ed_str) (rd_yes (eb_tag (m := 2) (ed_var rfl hk) ed_str) ?_))
    refine rd_set (ed_call (K := K) (T := T) (R := RBoth d) (ea_cons (ed_sub (n := 2) (ed_var rfl h1) ed_int rfl) (ea_cons (ed_ixT (n := 1) (ed_var rfl h2) ed_int rfl (enc_nl _ _)) (ea_cons (ed_ixT (n := 1) (ed_var rfl h3) ed_int rfl (enc_nl _ _)) ea_nil))) ⟨b, x.2, y.2, rfl, d2, hw.2, sx.2, sy.2, c12.2, rfl⟩) fun o H2 g2 ho => ?_
    obtain ⟨ob, ws, rfl, hob, dob⟩ := ho
    have h1 := dq_ext g2.ext h1
    have h2 := dq_ext g2.ext h2
    have h3 := dq_ext g2.ext h3
    have few := rawBoth_few (.both a b) x y sx sy
    refine rd_ret ?_
    refine (EvL.toD (el_lc2 (rawBoth a x.1 y.1) (rawBoth b x.2 y.2) (enc a) (enc b) (fun p q => enc (.both a b) (p, q)) (ed_call (K := K) (T := T) (R := RBoth d) (ea_cons (ed_sub (n := 1) (ed_var rfl h1) ed_int rfl) (ea_cons (ed_ixT (n := 0) (ed_var rfl h2) ed_int rfl (enc_nl _ _)) (ea_cons (ed_ixT (n := 0) (ed_var rfl h3) ed_int rfl (enc_nl _ _)) ea_nil))) ⟨a, x.1, y.1, rfl, d1, hw.1, sx.1, sy.1, c12.1, rfl⟩) (by intro _; rfl) hob dob ?_ (by intro _; rfl) (by intro _ _; rfl) ?_)).is ?_
    · have h2000 : wcap (.both a b) ≤ 2000 := hcap
      have l := few.1
      have e : ((rawBoth a x.1 y.1).flatMap fun p => (rawBoth b x.2 y.2).map fun q => enc (.both a b) (p, q)).length = (rawBoth (.both a b) x y).length := by
        show _ = ((rawBoth a x.1 y.1).flatMap fun p => (rawBoth b x.2 y.2).map fun q => (p, q)).length
        rw [List.length_flatMap, List.length_flatMap]
        simp only [List.length_map]
      rw [e]
      omega
    · intro i p j q _ _ u v H3 g3 hu hv
      exact EvD.e (ed_tup (as := [.d (enc a p), .d (enc b q)]) (ea_cons (ed_var (i := 6) rfl (.of hu (enc_nl _ _))) (ea_cons (ed_var (i := 7) rfl (.of hv (enc_nl _ _))) ea_nil)) rfl (by simp)) (noL_enc (.both a b) (p, q))
    · have e : ((rawBoth a x.1 y.1).flatMap fun p => (rawBoth b x.2 y.2).map fun q => enc (.both a b) (p, q)) = (rawBoth (.both a b) x y).map (enc (.both a b)) := by
        show _ = ((rawBoth a x.1 y.1).flatMap fun p => (rawBoth b x.2 y.2).map fun q => (p, q)).map (enc (.both a b))
        rw [List.map_flatMap]
        congr 1
        funext p
        rw [List.map_map]
        rfl
      rw [e]
      rfl
  | either a b =>
    have d1 : dep a < d := by simp only [dep] at hd; omega
    have d2 : dep b < d := by simp only [dep] at hd; omega
    have c12 := cap_either hcap
    refine rd_no (eb_tag (m := 0) (ed_var rfl hk) ed_str) (rd_no (eb_tag (m := 1) (ed_var rfl hk) ed_str) (rd_no (eb_tag (m := 2) (ed_var rfl hk) ed_str) (rd_yes (eb_tag (m := 3) (ed_var rfl hk) ed_str) ?_)))
    have fin : ∀ {C : So} (r : List (Va C)) (side : Str) (z : PyData) (inj : Va C → Va (.either a b)) (o : V) (H2 : Hp), Dq K H1 v2 (.d (.tuple [.str side, z])) → (∀ t, enc (.either a b) (inj t) = .tuple [.str side, enc C t]) → r.length ≤ 2000 → Gr T H1 H2 → Dq K H2 o (Lst C r) → EvD K T (tLc (iList K (tVar 5)) (gName 6) tYes (tTup (tCons (tOp (rIxT K) (tVar 1) (tC (.int 0))) (tCons (tVar 6) tNil))) [6]) [some v1, some v2, some v3, some k, none, some o, none, none] H2 (Lst (.either a b) (r.map inj)) := fun {C} r side z inj o H2 hx he hl g2 ho => by
      refine (EvL.toD (el_lcL r (enc C) (fun _ => true) (fun t => enc (.either a b) (inj t)) (ed_var (i := 5) rfl ho) (by omega) (by intro _; rfl) (fun _ _ _ _ _ _ _ => eb_yes) fun t y0 _ _ w H3 g3 hw => ?_)).is ?_
      · rw [he]
        exact EvD.e (ed_tup (as := [.d (.str side), .d (enc C y0)]) (ea_cons (ed_ixT (n := 0) (ed_var (i := 1) rfl (dq_ext (g2.trans g3).ext hx)) ed_int rfl (fun _ z => nomatch z)) (ea_cons (ed_var (i := 6) rfl (.of hw (enc_nl _ _))) ea_nil)) rfl (by simp)) (he y0 ▸ noL_enc _ _)
      · rw [List.filter_eq_self.mpr fun _ _ => rfl]
        show De.list _ = De.list _
        rw [List.map_map]
        rfl
    have none_ : ∀ (σ : L2.St), EvD K T (tLst tNil) σ H1 (.list []) := fun σ => EvL.toD (el_lst (as := []) ea_nil rfl (by simp))
    cases x with
    | inl x =>
      cases y with
      | inl y =>
        have few := rawBoth_few a x y sx sy
        have c1 : wcap a ≤ 2000 := c12.1
        refine rd_set (d1 := Lst a (rawBoth a x y)) (ed_if (eb_test ((ed_eqS (ed_ixT (n := 0) (ed_var rfl h2) ed_int rfl (fun _ z => nomatch z)) (ed_ixT (n := 0) (ed_var rfl h3) ed_int rfl (fun _ z => nomatch z))).is (congrArg De.bool eqLL))) (fun _ => ed_call (K := K) (T := T) (R := RBoth d) (ea_cons (ed_sub (n := 1) (ed_var rfl h1) (ed_sideL kS (ed_ixT (n := 0) (ed_var rfl h2) ed_int rfl (fun _ z => nomatch z))) rfl) (ea_cons (ed_ixT (n := 1) (ed_var rfl h2) ed_int rfl (enc_nl _ _)) (ea_cons (ed_ixT (n := 1) (ed_var rfl h3) ed_int rfl (enc_nl _ _)) ea_nil))) ⟨a, x, y, rfl, d1, hw.1, sx, sy, c12.1, rfl⟩) fun z => nomatch z) fun o H2 g2 ho => rd_ret ?_
        exact fin (rawBoth a x y) "left" (enc a x) .inl o H2 h2 (fun _ => rfl) (by omega) g2 ho
      | inr y =>
        refine rd_set (d1 := .list []) (ed_if (eb_test ((ed_eqS (ed_ixT (n := 0) (ed_var rfl h2) ed_int rfl (fun _ z => nomatch z)) (ed_ixT (n := 0) (ed_var rfl h3) ed_int rfl (fun _ z => nomatch z))).is (congrArg De.bool eqLR))) (fun z => nomatch z) fun _ => none_ _) fun o H2 g2 ho => rd_ret ?_
        exact fin (C := a) [] "left" (enc a x) .inl o H2 h2 (fun _ => rfl) (by simp) g2 ho
    | inr x =>
      cases y with
      | inl y =>
        refine rd_set (d1 := .list []) (ed_if (eb_test ((ed_eqS (ed_ixT (n := 0) (ed_var rfl h2) ed_int rfl (fun _ z => nomatch z)) (ed_ixT (n := 0) (ed_var rfl h3) ed_int rfl (fun _ z => nomatch z))).is (congrArg De.bool eqRL))) (fun z => nomatch z) fun _ => none_ _) fun o H2 g2 ho => rd_ret ?_
        exact fin (C := b) [] "right" (enc b x) .inr o H2 h2 (fun _ => rfl) (by simp) g2 ho
      | inr y =>
        have few := rawBoth_few b x y sx sy
        have c2 : wcap b ≤ 2000 := c12.2
        refine rd_set (d1 := Lst b (rawBoth b x y)) (ed_if (eb_test ((ed_eqS (ed_ixT (n := 0) (ed_var rfl h2) ed_int rfl (fun _ z => nomatch z)) (ed_ixT (n := 0) (ed_var rfl h3) ed_int rfl (fun _ z => nomatch z))).is (congrArg De.bool eqRR))) (fun _ => ed_call (K := K) (T := T) (R := RBoth d) (ea_cons (ed_sub (n := 2) (ed_var rfl h1) (ed_sideR kS (ed_ixT (n := 0) (ed_var rfl h2) ed_int rfl (fun _ z => nomatch z))) rfl) (ea_cons (ed_ixT (n := 1) (ed_var rfl h2) ed_int rfl (enc_nl _ _)) (ea_cons (ed_ixT (n := 1) (ed_var rfl h3) ed_int rfl (enc_nl _ _)) ea_nil))) ⟨b, x, y, rfl, d2, hw.2, sx, sy, c12.2, rfl⟩) fun z => nomatch z) fun o H2 g2 ho => rd_ret ?_
        exact fin (rawBoth b x y) "right" (enc b x) .inr o H2 h2 (fun _ => rfl) (by omega) g2 ho
  | lane a =>
    have d1 : dep a < d := Nat.lt_of_succ_lt_succ hd
    refine rd_no (eb_tag (m := 0) (ed_var rfl hk) ed_str) (rd_no (eb_tag (m := 1) (ed_var rfl hk) ed_str) (rd_no (eb_tag (m := 2) (ed_var rfl hk) ed_str) (rd_no (eb_tag (m := 3) (ed_var rfl hk) ed_str) (rd_ret ?_))))
    exact ed_if (eb_tag (m := 4) (ed_var rfl hk) ed_str) (fun _ => ed_call (K := K) (T := T) (R := RLanes d) (ea_cons (ed_var rfl h1) (ea_cons (ed_var rfl h2) (ea_cons (ed_var rfl h3) ea_nil))) ⟨a, x, y, rfl, d1, hw, sx, sy, hcap, rfl⟩) fun z => nomatch z
  | heap a =>
    have d1 : dep a < d := Nat.lt_of_succ_lt_succ hd
    refine rd_no (eb_tag (m := 0) (ed_var rfl hk) ed_str) (rd_no (eb_tag (m := 1) (ed_var rfl hk) ed_str) (rd_no (eb_tag (m := 2) (ed_var rfl hk) ed_str) (rd_no (eb_tag (m := 3) (ed_var rfl hk) ed_str) (rd_ret ?_))))
    exact ed_if (eb_tag (m := 4) (ed_var rfl hk) ed_str) (fun z => nomatch z) fun _ => ed_call (K := K) (T := T) (R := RHeaps d) (ea_cons (ed_var rfl h1) (ea_cons (ed_var rfl h2) (ea_cons (ed_var rfl h3) ea_nil))) ⟨a, x, y, rfl, d1, hw, sx, sy, hcap, rfl⟩
end
end K16

end K16R19Text
section K16XText
set_option autoImplicit false
set_option linter.all false
set_option maxRecDepth 100000
set_option Elab.async false
set_option pp.maxSteps 700
set_option pp.deepTerms false
set_option pp.deepTerms.threshold 4
/-! Defs that may raise TooMany. -/
namespace K16
open PySem PySem.Spec PyProof.Rows L2
structure Tm (K : PySem.W.Frag) (mg : Str → Option Value) (CF : Addr) : Prop where
  g : mg "TooMany" = some (.ref CF)
  x : PySem.W.excIn K CF [.type "ValueError", .type "Exception", .type "BaseException", .type "object"] "ValueError.__new__" = true
  k : PySem.W.keepIn K (.ref CF) = true
  b : PySem.W.subIn K (.ref CF) (.type "BaseException") = some true
  t : PySem.W.typeIn K (.ref CF) = some (.type "type")
  e : PySem.W.exmOne K (.ref CF) (.ref CF) = some true
/-- X() -/
theorem pmk_own0 {X : Cx} {C : Addr} {bmB : List Value} {B newId initId : String} {x : Str} {p pos : Pos} (F : ExcBaseFacts B newId initId bmB) (q : PySem.W.excIn X.K C bmB newId = true) (gC : X.mg x = some (.ref C)) (kC : PySem.W.keepIn X.K (.ref C) = true) (r : Raises X (.ref C)) (hg : Gl X x)
    (hdb : (x == ("__debug__" : Str)) = false := by decide) : PMk X (.Call (.Name x p) [] [] pos) (fun _ H Q => Q (.ref C) none H) := by
  intro pins s σ H Q I h
  refine wpAny_Call_Name_kw (ld_glob I hg gC ?_ hdb)
  refine PySem.W.callWith_K0 (first := []) I.kIn kC ?_
  show wpAny _ _ (call (.ref C) []) _ _ _
  obtain ⟨bm, N, nm, qn, bs, hdct, sn, sub, ab, col, dd, k0, k1, k2, k3, k5, mN, hC, hN, hni, T⟩ := exc_obj I.kIn q
  refine wpAny_call_exc_subT F T hC hN hni (fun h' e hm => ?_) (by show 0 ≤ sizeLine; exact Nat.zero_le _)
  exact mk_of I hm r h (I.hok.gone hm.new)
/-- a promise: what is asked, whether it comes to a value, the value -/
def spX (T : Tb) (K : PySem.W.Frag) (CF : Addr) (R : List De → Bool → De → Prop) : Sp := fun vs H Q E => LamX.Tabs T H ∧ ∃ ds ok d, DqA K H vs ds ∧ R ds ok d ∧ (ok = true → ∀ v H', Gr T H H' → Dq K H' v d → Q v H') ∧ (ok = false → ∀ H', Gr T H H' → E (.ref CF) none H')
/-- where it comes to a list, the list is new -/
def spXN (T : Tb) (K : PySem.W.Frag) (CF : Addr) (R : List De → Bool → List PyData → Prop) : Sp := fun vs H Q E => LamX.Tabs T H ∧ ∃ ds ok out, DqA K H vs ds ∧ R ds ok out ∧ (ok = true → ∀ p xs H', Nw H p → Gr T H H' → H' p = some (.lst xs) → DpAll K H' xs out → Q (.ref p) H') ∧ (ok = false → ∀ H', Gr T H H' → E (.ref CF) none H')
def HasX (P : Program) (w : World) (K : PySem.W.Frag) (mg : Str → Option Value) (base : Heap) (k : Nat) (x : Str) (ps : List Str) (sp : Sp) : Prop :=
  ∃ f fd, mg x = some (.ref f) ∧ PySem.W.keepIn K (.ref f) = true ∧ L2.Binds K fd ps [] ∧ FnOk P w K mg base (L2.CX P w) k f fd ps sp
section
variable {P : Program} {w : World} {K : PySem.W.Frag} {mg : Str → Option Value} {base : Heap} {x : Str} {st : Stmt} {ps N : List Str} {k j : Nat} {sp : Sp}
theorem DefOk.hasX (D : DefOk K mg x st ps) (S : FnScope N ps (defScope st)) (hl : ∀ vs H Q E, sp vs H Q E → vs.length = ps.length)
    (body : ∀ (f : Addr) (cdv : Value) (A : Around) (outer : List Env) (s : Shared) (H : Hp) (E : XK) (vs : List V) (Q : VK), Room k (A.deeper (envOfC x (defScope st) s.heap.objs.size f cdv)) → sp vs H Q E →
      ∃ t, PSs (cxOf (L2.CX P w) P w K mg base N x (defScope st) f cdv A outer s H E) (defBody st) t ∧ t { nx := fun _ H' => Q .non H', rt := Q } (start N vs) H) : HasX P w K mg base (k + 1) x ps sp := by
  obtain ⟨f, fd, F, b, g⟩ := D.ex
  exact ⟨f, fd, g, F.kp, b, F.okX S hl fun cdv A outer s H vs Q E hr h => body f cdv A outer s H E vs Q hr h⟩
end
theorem pe_hasX {X : Cx} {k j : Nat} {x : Str} {ps : List Str} {sp : Sp} {E : XK} {p pos : Pos} {e : Expr} {es : List Expr} {t : TA} (h : HasX X.prog X.w X.K X.mg X.base k x ps sp) (hr : Room j X.A) (hk : k ≤ j) (hx : Passes (L2.CX X.prog X.w) X E) (ha : PA X (e :: es) t) (hg : Gl X x := by rfl)
    (hdb : (x == ("__debug__" : Str)) = false := by decide) (he : starEach (e :: es) X.env = (false, eval e X.env) :: starEach es X.env := by rfl) (hpl : (backTo pos (starEach es X.env)).any (·.1) = false := by rfl) :
    PE X (.Call (.Name x p) (e :: es) [] pos) (tCall sp [] E t) := by
  obtain ⟨f, fd, h1, h2, h3, h4⟩ := h
  exact pe_call h4 (hr.mono hk) hg h1 h2 h3 .nil hx ha hdb he hpl
theorem pe_hasS {X : Cx} {k j : Nat} {x : Str} {ps : List Str} {sp : Sp} {E : L2.St → XK} {p pos : Pos} {e : Expr} {es : List Expr} {t : TA} (h : HasX X.prog X.w X.K X.mg X.base k x ps sp) (hr : Room j X.A) (hk : k ≤ j) (hx : ∀ σ, PassesAt (L2.CX X.prog X.w) X σ (E σ)) (ha : PA X (e :: es) t) (hg : Gl X x := by rfl)
    (hdb : (x == ("__debug__" : Str)) = false := by decide) (he : starEach (e :: es) X.env = (false, eval e X.env) :: starEach es X.env := by rfl) (hpl : (backTo pos (starEach es X.env)).any (·.1) = false := by rfl) :
    PE X (.Call (.Name x p) (e :: es) [] pos) (tCallS sp E t) := by
  obtain ⟨f, fd, h1, h2, h3, h4⟩ := h
  exact pe_callS h4 (hr.mono hk) hg h1 h2 h3 hx ha hdb he hpl
/-! the mirror -/
def okBoth (s : So) (v u : Va s) : Bool := decide (ways s v u ≤ 500) && (rawBoth s v u).all (isF s)
def okCommon (s : So) (xs ys : List (Va s)) : Bool := xs.all (fun v => ys.all fun u => okBoth s v u) && decide ((rawCommon s xs ys).length ≤ 60)
def RBothX (d : Nat) (ds : List De) (ok : Bool) (r : De) : Prop := ∃ (s : So) (v u : Va s), ds = [.s s, .d (enc s v), .d (enc s u)] ∧ dep s < d ∧ Wf s ∧ Sm 2 s v ∧ Sm 2 s u ∧ wcap s ≤ cap0 ∧ ok = okBoth s v u ∧ r = Lst s (rawBoth s v u)
def RCom (d : Nat) (ds : List De) (ok : Bool) (out : List PyData) : Prop := ∃ (s : So) (xs ys : List (Va s)), ds = [.s s, Lst s xs, Lst s ys] ∧ dep s < d ∧ Wf s ∧ (∀ v ∈ xs, Sm 2 s v) ∧ (∀ u ∈ ys, Sm 2 s u) ∧ xs.length ≤ 3 ∧ ys.length ≤ 3 ∧ wcap s ≤ cap0 ∧ ok = okCommon s xs ys ∧ out = (rawCommon s xs ys).map (enc s)
end K16

end K16XText
section K16R21Text
set_option autoImplicit false
set_option linter.all false
set_option maxRecDepth 100000
set_option Elab.async false
set_option pp.maxSteps 700
set_option pp.deepTerms false
set_option pp.deepTerms.threshold 4
namespace K16
open PySem PySem.Spec PyProof.Rows L2
abbrev sLawKey : Stmt := topS 40
abbrev nLawKey : List Str := ["_law_sort", "_law_v", "_law_place", "_law_part"]
theorem scLawKey : FnScope nLawKey ["_law_sort", "_law_v"] (defScope sLawKey) := ⟨rfl, rfl, rfl, by decide +kernel, rfl, by decide +kernel, by decide +kernel⟩
def RLKey (d : Nat) (ds : List De) (P : De → Prop) : Prop := ∃ (s : So) (x : Va s), ds = [.s s, .d (enc s x)] ∧ dep s < d ∧ Wf s ∧ Sm 8 s x ∧ P = fun r => r = .d (kd false s x)
section
variable {K : PySem.W.Frag} {T : Tb} {H : Hp} {σ : L2.St} {ta tb te to : TE}
theorem ed_int1 {b : Bool} (h : EvD K T te σ H (.bool b)) : EvD K T (tCB (fun xs H Q => (∃ i, xs = [V.int i] ∧ Q (.int i) H) ∨ ∃ k, xs = [V.bl k] ∧ Q (.int (if k then 1 else 0)) H) (tCons te tNil)) σ H (.int (if b then 1 else 0)) := .of fun H1 g Q q => h.run g fun v H2 g2 hv => by
  obtain rfl := dq_bl hv
  exact .inr ⟨b, rfl, q _ H2 g2 .int⟩
theorem flat_strs' (ls : List Str) : (ls.map V.str).all flatV = true := flat_strs ls
/-- list(t).index(x), texts -/
theorem ed_lixM {ls : List Str} {z : Str} {j : Nat} (ha : EvD K T ta σ H (.tuple (ls.map PyData.str))) (hb : EvD K T tb σ H (.str z)) (h1 : ls[j]? = some z) (h2 : ∀ m, m < j → ls[m]? ≠ some z) :
    EvD K T (tBM K "list" (rIndex K) (tCB (fun xs H Q => ∃ p ys, xs = [V.ref p] ∧ (SqL K H p ys ∨ SqT K H p ys) ∧ ∀ l, H l = none → Q (.ref l) (upd H l (.lst ys))) (tCons ta tNil)) (tCons tb tNil)) σ H (.int ((j : Nat) : Int)) := .of fun H1 g Q q =>
  (el_ofT ha).run g fun p xs H2 np g2 hp dp => by
    refine ⟨.inl ⟨rfl, xs, .of hp⟩, hb.run (g.trans g2) fun w H3 g3 hw => ?_⟩
    obtain rfl := dq_str hw
    have e : xs = ls.map V.str := dps_strs' dp
    subst e
    have hp3 := g3.stay hp True.intro
    refine ⟨p, ls.map V.str, .str z, j, .str z, rfl, rfl, .of hp3, rfl, flat_strs ls, by rw [List.getElem?_map, h1]; rfl, by simp [eqV], fun m z' hm e => ?_, q _ H3 (g2.trans g3) .int⟩
    rw [List.getElem?_map] at e
    cases e' : ls[m]? with
    | none => rw [e'] at e; cases e
    | some y =>
      rw [e'] at e
      cases e
      have : y ≠ z := fun c => h2 m hm (by rw [e', c])
      simp [eqV, this]
end
section
variable {P : Program} {w : World} {K : PySem.W.Frag} {mg : Str → Option Value} {base : Heap} {T : Tb} {aS : Addr}
theorem hasLawKey (d : Nat) (D : DefOk K mg "_law_key" sLawKey ["_law_sort", "_law_v"]) (M : Bi mg) (h__law_key : Has P w K mg base d "_law_key" ["_law_sort", "_law_v"] (spOf T K (RLKey d))) :
    Has P w K mg base (d + 1) "_law_key" ["_law_sort", "_law_v"] (spOf T K (RLKey (d + 1))) := by
  have nd := scLawKey.nd
  refine D.pure d scLawKey (fun ds Pd h => ?_) fun f cdv A outer s H E vs ds Pd hr hT hv hR => ?_
  · obtain ⟨s, x, rfl, _⟩ := h
    rfl
  obtain ⟨so, x, rfl, hd, hw, sx, rfl⟩ := hR
  obtain ⟨v1, v2, rfl, h1, h2⟩ := dqa2 hv
  refine ⟨_, (pss_cons (ps_if (pt_cmpR op_eq (pe_ix ix_tup (pv 0) pe_int (fun _ _ => rfl)) pe_str (nomark _)) (pss_one (ps_ret (pe_bm PySem.F.plainAttrs_list PySem.F.slot_list_index PySem.F.type_list_index mt_index (pe_callTy call_list_of rfl (M.list) (by decide +kernel) (pa_cons (pe_ix ix_tup (pv 0) pe_int (fun _ _ => rfl)) pa_nil)) (pa_cons (pv 1) pa_nil)))) pss_nil)
    (pss_cons (ps_if (pt_cmpR op_eq (pe_ix ix_tup (pv 0) pe_int (fun _ _ => rfl)) pe_str (nomark _)) (pss_one (ps_ret (pv 1))) pss_nil)
    (pss_cons (ps_if (pt_cmpR op_eq (pe_ix ix_tup (pv 0) pe_int (fun _ _ => rfl)) pe_str (nomark _)) (pss_one (ps_ret (pe_tup (pa_cons (pe_has h__law_key hr (by omega) (pa_cons (pe_ix ix_tup (pv 0) pe_int (fun _ _ => rfl)) (pa_cons (pe_ix ix_tup (pv 1) pe_int (fun _ _ => rfl)) pa_nil))) (pa_cons (pe_has h__law_key hr (by omega) (pa_cons (pe_ix ix_tup (pv 0) pe_int (fun _ _ => rfl)) (pa_cons (pe_ix ix_tup (pv 1) pe_int (fun _ _ => rfl)) pa_nil))) pa_nil))))) pss_nil)
    (pss_cons (ps_if (pt_cmpR op_eq (pe_ix ix_tup (pv 0) pe_int (fun _ _ => rfl)) pe_str (nomark _)) (pss_cons (ps_set (i := 2) nd rfl (Or.inl rfl) (pe_callTy call_int1 rfl (M.int) (by decide +kernel) (pa_cons (pe_cmpR op_eq (pe_ix ix_tup (pv 1) pe_int (fun _ _ => rfl)) pe_str (nomark _)) pa_nil)))
    (pss_one (ps_ret (pe_tup (pa_cons (pv 2) (pa_cons (pe_has h__law_key hr (by omega) (pa_cons (pe_ix ix_tup (pv 0) (pe_op op_add pe_int (pv 2)) (fun _ _ => rfl)) (pa_cons (pe_ix ix_tup (pv 1) pe_int (fun _ _ => rfl)) pa_nil))) pa_nil)))))) pss_nil)
    (pss_one (ps_ret (pe_tupleOf rfl (M.tuple) (pe_lc (own := [("_law_part", 3)]) rfl nd (pi_tup (pv 1)) (blkOk_by (N := nLawKey) (sc := (defScope sLawKey)) (by decide +kernel)) (fun _ _ _ _ _ => (pg_name (i := 3) nd rfl (Or.inl rfl))) (fun _ _ _ _ _ => pts_nil) (fun _ _ _ _ _ => (pe_has h__law_key hr (by omega) (pa_cons (pe_ix (r := rIxT K) ix_tup (pv 0) pe_int (fun _ _ => rfl)) (pa_cons (pv 3) pa_nil)))))))))))), ?_⟩
  have hk : EvD K T (tOp (rIxT K) (tVar 0) (tC (.int 0))) (start nLawKey [v1, v2]) H (.str (tag so)) := ed_tag (ed_var rfl h1) ed_int
  cases so with
  | mark ls =>
    refine rd_yes (eb_tag (m := 0) hk ed_str) (rd_ret ?_)
    refine ed_lixM (j := (x : _root_.Fin ls.length).val) (ed_letters (ed_var rfl h1) ed_int) (ed_var rfl h2) (List.getElem?_eq_getElem x.isLt) fun m hm e => ?_
    have := (List.getElem?_eq_some_iff.mp e)
    obtain ⟨h3, h4⟩ := this
    have := (List.getElem_inj hw.1).mp h4
    omega
  | count =>
    refine rd_no (eb_tag (m := 0) hk ed_str) (rd_yes (eb_tag (m := 1) hk ed_str) (rd_ret ?_))
    exact ed_var rfl h2
  | both a b =>
    have d1 : dep a < d := by simp only [dep] at hd; omega
    have d2 : dep b < d := by simp only [dep] at hd; omega
    refine rd_no (eb_tag (m := 0) hk ed_str) (rd_no (eb_tag (m := 1) hk ed_str) (rd_yes (eb_tag (m := 2) hk ed_str) (rd_ret ?_)))
    exact ed_tup (as := [.d (kd false a x.1), .d (kd false b x.2)]) (ea_cons (ed_call (ea_cons (ed_sub (n := 1) (ed_var rfl h1) ed_int rfl) (ea_cons (ed_ixT (n := 0) (ed_var rfl h2) ed_int rfl (enc_nl _ _)) ea_nil)) ⟨a, x.1, rfl, d1, hw.1, sx.1, rfl⟩)
      (ea_cons (ed_call (ea_cons (ed_sub (n := 2) (ed_var rfl h1) ed_int rfl) (ea_cons (ed_ixT (n := 1) (ed_var rfl h2) ed_int rfl (enc_nl _ _)) ea_nil)) ⟨b, x.2, rfl, d2, hw.2, sx.2, rfl⟩) ea_nil)) rfl (by simp)
  | either a b =>
    have d1 : dep a < d := by simp only [dep] at hd; omega
    have d2 : dep b < d := by simp only [dep] at hd; omega
    refine rd_no (eb_tag (m := 0) hk ed_str) (rd_no (eb_tag (m := 1) hk ed_str) (rd_no (eb_tag (m := 2) hk ed_str) (rd_yes (eb_tag (m := 3) hk ed_str) ?_)))
    cases x with
    | inl x =>
      refine rd_set (d1 := .int 0) ((ed_int1 ((ed_eqS (ed_ixT (n := 0) (ed_var rfl h2) ed_int rfl (fun _ z => nomatch z)) ed_str).is (congrArg De.bool eqLR))).is rfl) fun k2 H2 g2 hk2 => rd_ret ?_
      have h1 := dq_ext g2.ext h1
      have h2 := dq_ext g2.ext h2
      exact ed_tup (as := [.d (.int 0), .d (kd false a x)]) (ea_cons (ed_var rfl hk2) (ea_cons (ed_call (ea_cons (ed_sub (n := 1) (ed_var rfl h1) (ed_I0 (d := .int ((1 : Nat) : Int)) ed_int (ed_var rfl hk2) fun _ => .int) rfl) (ea_cons (ed_ixT (n := 1) (ed_var rfl h2) ed_int rfl (enc_nl _ _)) ea_nil)) ⟨a, x, rfl, d1, hw.1, sx, rfl⟩) ea_nil)) rfl (by simp)
    | inr x =>
      refine rd_set (d1 := .int 1) ((ed_int1 ((ed_eqS (ed_ixT (n := 0) (ed_var rfl h2) ed_int rfl (fun _ z => nomatch z)) ed_str).is (congrArg De.bool eqRR))).is rfl) fun k2 H2 g2 hk2 => rd_ret ?_
      have h1 := dq_ext g2.ext h1
      have h2 := dq_ext g2.ext h2
      exact ed_tup (as := [.d (.int 1), .d (kd false b x)]) (ea_cons (ed_var rfl hk2) (ea_cons (ed_call (ea_cons (ed_sub (n := 2) (ed_var rfl h1) (ed_I0 (d := .int ((2 : Nat) : Int)) ed_int (ed_var rfl hk2) fun _ => .int) rfl) (ea_cons (ed_ixT (n := 1) (ed_var rfl h2) ed_int rfl (enc_nl _ _)) ea_nil)) ⟨b, x, rfl, d2, hw.2, sx, rfl⟩) ea_nil)) rfl (by simp)
  | lane a =>
    have d1 : dep a < d := Nat.lt_of_succ_lt_succ hd
    refine rd_no (eb_tag (m := 0) hk ed_str) (rd_no (eb_tag (m := 1) hk ed_str) (rd_no (eb_tag (m := 2) hk ed_str) (rd_no (eb_tag (m := 3) hk ed_str) (rd_ret ?_))))
    exact ed_tupL (el_lcTM (x : List (Va a)) (enc a) (kd false a) (ed_var rfl h2) (by have := sx.1; omega) (by intro _; rfl) fun i y hy v H3 g3 hv => EvD.e (ed_call (ea_cons (ed_sub (n := 1) (ed_var rfl (dq_ext g3.ext h1)) ed_int rfl) (ea_cons (ed_var rfl (.of hv (enc_nl _ _))) ea_nil)) ⟨a, y, rfl, d1, hw, sx.2 y (List.mem_of_getElem? hy), rfl⟩) (noL_kd _ _)).toD
  | heap a =>
    have d1 : dep a < d := Nat.lt_of_succ_lt_succ hd
    refine rd_no (eb_tag (m := 0) hk ed_str) (rd_no (eb_tag (m := 1) hk ed_str) (rd_no (eb_tag (m := 2) hk ed_str) (rd_no (eb_tag (m := 3) hk ed_str) (rd_ret ?_))))
    exact ed_tupL (el_lcTM (x : List (Va a)) (enc a) (kd false a) (ed_var rfl h2) (by have := sx.1; omega) (by intro _; rfl) fun i y hy v H3 g3 hv => EvD.e (ed_call (ea_cons (ed_sub (n := 1) (ed_var rfl (dq_ext g3.ext h1)) ed_int rfl) (ea_cons (ed_var rfl (.of hv (enc_nl _ _))) ea_nil)) ⟨a, y, rfl, d1, hw, sx.2 y (List.mem_of_getElem? hy), rfl⟩) (noL_kd _ _)).toD
end
end K16

end K16R21Text
section K16R22Text
set_option autoImplicit false
set_option linter.all false
set_option maxRecDepth 100000
set_option Elab.async false
set_option pp.maxSteps 700
set_option pp.deepTerms false
set_option pp.deepTerms.threshold 4
namespace K16
open PySem PySem.Spec PyProof.Rows L2 NdefX
abbrev sLawFormed : Stmt := topS 41
abbrev nLawFormed : List Str := ["_law_sort", "_law_v", "_law_found", "_law_part"]
theorem scLawFormed : FnScope nLawFormed ["_law_sort", "_law_v"] (defScope sLawFormed) := ⟨rfl, rfl, rfl, by decide +kernel, rfl, by decide +kernel, by decide +kernel⟩
def RLForm (d : Nat) (ds : List De) (P : De → Prop) : Prop := ∃ (s : So) (x : Va s), ds = [.s s, .d (enc s x)] ∧ dep s < d ∧ Wf s ∧ Sm 8 s x ∧ P = fun r => r = .d (enc s (form s x))
def inn : So → So
  | .heap a => a
  | .mark l => .mark l
  | .count => .count
  | .both a b => .both a b
  | .either a b => .either a b
  | .lane a => .lane a
theorem wf_inn {s : So} (h : Wf s) : Wf (inn s) := by
  cases s with
  | heap a => exact h
  | _ => exact h
theorem dep_inn (s : So) : dep (inn s) ≤ dep s := by
  cases s with
  | heap a => exact Nat.le_succ _
  | _ => exact Nat.le_refl _
section
variable {P : Program} {w : World} {K : PySem.W.Frag} {mg : Str → Option Value} {base : Heap} {T : Tb} {c Pt : Addr}
theorem hasLawFormed (d : Nat) (hd20 : d ≤ 15) (D : DefOkC K mg "_law_formed" sLawFormed ["_law_sort", "_law_v"] c) (M : Bi mg) (LO : LamOk T base mg c Pt (lamQ "_law_formed")) (h__law_key : Has P w K mg base d "_law_key" ["_law_sort", "_law_v"] (spOf T K (RLKey d))) (h__law_formed : Has P w K mg base (d + 4) "_law_formed" ["_law_sort", "_law_v"] (spOf T K (RLForm d))) :
    Has P w K mg base (d + 5) "_law_formed" ["_law_sort", "_law_v"] (spOf T K (RLForm (d + 1))) := by
  have nd := scLawFormed.nd
  refine D.pure (d + 4) scLawFormed (fun ds Pd h => ?_) fun f A outer s H vs ds Pd hr hT hv hR E => ?_
  · obtain ⟨s, x, rfl, _⟩ := h
    rfl
  obtain ⟨so, x, rfl, hd, hw, sx, rfl⟩ := hR
  obtain ⟨v1, v2, rfl, h1, h2⟩ := dqa2 hv
  refine ⟨_, (pss_cons (ps_if (pt_cmpR op_eq (pe_ix ix_tup (pv 0) pe_int (fun _ _ => rfl)) pe_str (nomark _)) (pss_one (ps_ret (pe_tup (pa_cons (pe_has h__law_formed hr (by omega) (pa_cons (pe_ix ix_tup (pv 0) pe_int (fun _ _ => rfl)) (pa_cons (pe_ix ix_tup (pv 1) pe_int (fun _ _ => rfl)) pa_nil))) (pa_cons (pe_has h__law_formed hr (by omega) (pa_cons (pe_ix ix_tup (pv 0) pe_int (fun _ _ => rfl)) (pa_cons (pe_ix ix_tup (pv 1) pe_int (fun _ _ => rfl)) pa_nil))) pa_nil))))) pss_nil)
    (pss_cons (ps_if (pt_cmpR op_eq (pe_ix ix_tup (pv 0) pe_int (fun _ _ => rfl)) pe_str (nomark _)) (pss_one (ps_ret (pe_tup (pa_cons (pe_ix ix_tup (pv 1) pe_int (fun _ _ => rfl)) (pa_cons (pe_has h__law_formed hr (by omega) (pa_cons (pe_ix ix_tup (pv 0) (pe_op op_add pe_int (pe_callTy call_int1 rfl (M.int) (by decide +kernel) (pa_cons (pe_cmpR op_eq (pe_ix ix_tup (pv 1) pe_int (fun _ _ => rfl)) pe_str (nomark _)) pa_nil))) (fun _ _ => rfl)) (pa_cons (pe_ix ix_tup (pv 1) pe_int (fun _ _ => rfl)) pa_nil))) pa_nil))))) pss_nil)
    (pss_cons (ps_if (pt_cmpR op_in_seq (pe_ix ix_tup (pv 0) pe_int (fun _ _ => rfl)) (pe_tup (pa_cons pe_str (pa_cons pe_str pa_nil))) (by rfl)) (pss_one (ps_ret (pv 1))) pss_nil)
    (pss_cons (ps_setLc (i := 2) (own := [("_law_part", 3)]) rfl nd rfl rfl (sw_true rfl rfl rfl (by decide +kernel)) (pi_tup (pv 1)) (blkOk_by (N := nLawFormed) (sc := (defScope sLawFormed)) (by decide +kernel)) (fun _ _ _ _ _ => (pg_name (i := 3) nd rfl (Or.inl rfl))) (fun _ _ _ _ _ => pts_nil) (fun _ _ _ _ _ => (pe_has h__law_formed hr (by omega) (pa_cons (pe_ix (r := rIxT K) ix_tup (pv 0) pe_int (fun _ _ => rfl)) (pa_cons (pv 3) pa_nil)))))
    (pss_one (ps_ret (pe_tupleOf rfl (M.tuple) (pe_ifExp (pt_cmpR op_eq (pe_ix ix_tup (pv 0) pe_int (fun _ _ => rfl)) pe_str (nomark _)) (pv 2) (pe_sortK (T := T) (N' := ["_law_part", "_law_sort"]) (fr := ["_law_sort"]) (js := [0]) (a := "_law_part") (k := d) (O := ordS (inn so)) (enc := kd false (inn so)) rfl M.sorted (pa_cons (pv 2) pa_nil) LO.tb rfl LO.mem LO.uniq (nscope_by (by decide +kernel)) ?_ ?_ rfl hr (by omega) (keySys false (inn so) (wf_inn hw) ?_)
    (fun f' c' A' outer' s' H' hr' => pe_has h__law_key hr' (by omega) (pa_cons (pe_ix (r := rIxT K) ix_tup (pv 1) pe_int (fun _ _ => rfl)) (pa_cons (pv 0) pa_nil))) rfl (fun _ _ _ _ _ _ => rfl)))))))))), ?_⟩
  · exact (ndef_free (fr := ["_law_sort"]) (sc := defScope sLawFormed) (by decide +kernel))
  · exact (ndef_fr (sc := defScope sLawFormed) (by decide +kernel))
  · have h1 : dep so < 16 := by omega
    have h2 := dep_inn so
    have := hr.un
    show (A.deeper _).units + 1 + 1 + dep (inn so) + 4 < cLine
    omega
  have hk : EvD K T (tOp (rIxT K) (tVar 0) (tC (.int 0))) (start nLawFormed [v1, v2]) H (.str (tag so)) := ed_tag (ed_var rfl h1) ed_int
  have fl := eb_flat hk
  cases so with
  | mark ls => exact rd_no (eb_tag (m := 2) hk ed_str) (rd_no (eb_tag (m := 3) hk ed_str) (rd_yes fl (rd_ret (ed_var rfl h2))))
  | count => exact rd_no (eb_tag (m := 2) hk ed_str) (rd_no (eb_tag (m := 3) hk ed_str) (rd_yes fl (rd_ret (ed_var rfl h2))))
  | both a b =>
    have d1 : dep a < d := by simp only [dep] at hd; omega
    have d2 : dep b < d := by simp only [dep] at hd; omega
    refine rd_yes (eb_tag (m := 2) hk ed_str) (rd_ret ?_)
    exact ed_tup (ea_cons (ed_call (K := K) (T := T) (R := RLForm d) (ea_cons (ed_sub (ed_var rfl h1) ed_int rfl) (ea_cons (ed_ixT (n := 0) (ed_var rfl h2) ed_int rfl (enc_nl _ _)) ea_nil)) ⟨a, x.1, rfl, d1, hw.1, sx.1, rfl⟩)
      (ea_cons (ed_call (K := K) (T := T) (R := RLForm d) (ea_cons (ed_sub (ed_var rfl h1) ed_int rfl) (ea_cons (ed_ixT (n := 1) (ed_var rfl h2) ed_int rfl (enc_nl _ _)) ea_nil)) ⟨b, x.2, rfl, d2, hw.2, sx.2, rfl⟩) ea_nil)) rfl (by simp)
  | either a b =>
    have d1 : dep a < d := by simp only [dep] at hd; omega
    have d2 : dep b < d := by simp only [dep] at hd; omega
    refine rd_no (eb_tag (m := 2) hk ed_str) (rd_yes (eb_tag (m := 3) hk ed_str) (rd_ret ?_))
    cases x with
    | inl x => exact ed_tup (ea_cons (ed_ixT (n := 0) (ed_var rfl h2) ed_int rfl (fun _ z => nomatch z)) (ea_cons (ed_call (K := K) (T := T) (R := RLForm d) (ea_cons (ed_sub (n := 1) (ed_var rfl h1) (ed_I0 (d := .int ((1 : Nat) : Int)) ed_int (ed_int1 ((ed_eqS (ed_ixT (n := 0) (ed_var rfl h2) ed_int rfl (fun _ z => nomatch z)) ed_str).is (congrArg De.bool eqLR))) fun _ => .int) rfl) (ea_cons (ed_ixT (n := 1) (ed_var rfl h2) ed_int rfl (enc_nl _ _)) ea_nil)) ⟨a, x, rfl, d1, hw.1, sx, rfl⟩) ea_nil)) rfl (by simp)
    | inr x => exact ed_tup (ea_cons (ed_ixT (n := 0) (ed_var rfl h2) ed_int rfl (fun _ z => nomatch z)) (ea_cons (ed_call (K := K) (T := T) (R := RLForm d) (ea_cons (ed_sub (n := 2) (ed_var rfl h1) (ed_I0 (d := .int ((2 : Nat) : Int)) ed_int (ed_int1 ((ed_eqS (ed_ixT (n := 0) (ed_var rfl h2) ed_int rfl (fun _ z => nomatch z)) ed_str).is (congrArg De.bool eqRR))) fun _ => .int) rfl) (ea_cons (ed_ixT (n := 1) (ed_var rfl h2) ed_int rfl (enc_nl _ _)) ea_nil)) ⟨b, x, rfl, d2, hw.2, sx, rfl⟩) ea_nil)) rfl (by simp)
  | lane a =>
    have d1 : dep a < d := Nat.lt_of_succ_lt_succ hd
    have sx1 : (x : List (Va a)).length ≤ 8 := sx.1
    refine rd_no (eb_tag (m := 2) hk ed_str) (rd_no (eb_tag (m := 3) hk ed_str) (rd_no fl ?_))
    refine rd_set (EvL.toD (el_lcTM (x : List (Va a)) (enc a) (fun y => enc a (form a y)) (ed_var rfl h2) (by omega) (by intro _; rfl) fun i y hy v H3 g3 hv => EvD.e (ed_call (K := K) (T := T) (R := RLForm d) (ea_cons (ed_sub (n := 1) (ed_var rfl (dq_ext g3.ext h1)) ed_int rfl) (ea_cons (ed_var rfl (.of hv (enc_nl _ _))) ea_nil)) ⟨a, y, rfl, d1, hw, sx.2 y (List.mem_of_getElem? hy), rfl⟩) (noL_enc _ _))) fun F H2 g2 hF => ?_
    refine rd_ret ((ed_tupL (ed_if (eb_tag (m := 4) (ed_tag (ed_var rfl (dq_ext g2.ext h1)) ed_int) ed_str) (fun _ => ed_var rfl hF) fun z => nomatch z)).is ?_)
    show De.d (.tuple ((x : List (Va a)).map fun y => enc a (form a y))) = .d (.tuple (((x : List (Va a)).map (form a)).map (enc a)))
    rw [List.map_map]
    rfl
  | heap a =>
    have d1 : dep a < d := Nat.lt_of_succ_lt_succ hd
    have sx1 : (x : List (Va a)).length ≤ 8 := sx.1
    refine rd_no (eb_tag (m := 2) hk ed_str) (rd_no (eb_tag (m := 3) hk ed_str) (rd_no fl ?_))
    refine rd_set (EvL.toD (el_lcTM (x : List (Va a)) (enc a) (fun y => enc a (form a y)) (ed_var rfl h2) (by omega) (by intro _; rfl) fun i y hy v H3 g3 hv => EvD.e (ed_call (K := K) (T := T) (R := RLForm d) (ea_cons (ed_sub (n := 1) (ed_var rfl (dq_ext g3.ext h1)) ed_int rfl) (ea_cons (ed_var rfl (.of hv (enc_nl _ _))) ea_nil)) ⟨a, y, rfl, d1, hw, sx.2 y (List.mem_of_getElem? hy), rfl⟩) (noL_enc _ _))) fun F H2 g2 hF => ?_
    refine rd_ret (ed_tupL (ds := (sortV a ((x : List (Va a)).map (form a))).map (enc a)) (ed_if (eb_tag (m := 4) (ed_tag (ed_var rfl (dq_ext g2.ext h1)) ed_int) ed_str) (fun z => nomatch z) fun _ => EvL.toD (el_sortK (s := a) (vs := (x : List (Va a)).map (form a)) (.inl rfl) (ea_cons (ed_var rfl (by rw [List.map_map]; exact hF)) ea_nil) fun i v hv x' H3 g3 hx => ?_)))
    obtain ⟨y, hy, rfl⟩ := List.mem_map.mp (List.mem_of_getElem? hv)
    exact ed_call (K := K) (T := T) (R := RLKey d) (ea_cons (ed_sub (n := 1) (ed_var rfl (dq_ext (g2.trans g3).ext h1)) ed_int rfl) (ea_cons (ed_var rfl (.of hx (enc_nl _ _))) ea_nil)) ⟨a, form a y, rfl, d1, hw, form_sm (sx.2 y hy), rfl⟩
end
end K16

end K16R22Text
section K16R23Text
set_option autoImplicit false
set_option linter.all false
set_option maxRecDepth 100000
set_option Elab.async false
set_option pp.maxSteps 700
set_option pp.deepTerms false
set_option pp.deepTerms.threshold 4
namespace K16
open PySem PySem.Spec PyProof.Rows L2
abbrev sLawGiven : Stmt := topS 42
abbrev nLawGiven : List Str := ["_law_sort", "_law_some_here", "_law_asked", "_law_k", "_law_part"]
theorem scLawGiven : FnScope nLawGiven ["_law_sort", "_law_some_here", "_law_asked"] (defScope sLawGiven) := ⟨rfl, rfl, rfl, by decide +kernel, rfl, by decide +kernel, by decide +kernel⟩
abbrev sLawHolds : Stmt := topS 43
abbrev nLawHolds : List Str := ["_law_sort", "_law_v", "_law_u", "_law_at", "_law_part"]
theorem scLawHolds : FnScope nLawHolds ["_law_sort", "_law_v", "_law_u"] (defScope sLawHolds) := ⟨rfl, rfl, rfl, by decide +kernel, rfl, by decide +kernel, by decide +kernel⟩
/-! tests that are sound: true only where C holds -/
def EvS (T : Tb) (t : TT) (σ : L2.St) (H : Hp) (C : Prop) : Prop := ∀ H1, Gr T H H1 → ∀ Q : Bool → Hp → Prop, (∀ b H2, Gr T H1 H2 → (b = true → C) → Q b H2) → t σ H1 Q
/-- a truth value that is sound -/
def Snd (C : Prop) (r : De) : Prop := ∃ b : Bool, r = .bool b ∧ (b = true → C)
section
variable {K : PySem.W.Frag} {T : Tb} {H H1 : Hp} {σ : L2.St} {ta tb te : TE} {t u : TT} {C C' : Prop} {b : Bool}
theorem es_of (h : EvB T t σ H b) (k : b = true → C) : EvS T t σ H C := fun H1 g Q q => h H1 g _ fun H2 g2 => q b H2 g2 k
theorem es_test (h : EvP K T te σ H (Snd C)) : EvS T (tTest te) σ H C := fun H1 g Q q => h H1 g _ fun v d H2 g2 hv ⟨b, e, k⟩ => by
  subst e
  exact ⟨b, dq_bl hv, q b H2 g2 k⟩
theorem es_and (h1 : EvS T t σ H C) (h2 : C → EvS T u σ H C') : EvS T (tAnd t u) σ H (C ∧ C') := fun H1 g Q q => h1 H1 g _ fun b H2 g2 k => by
  cases b with
  | true =>
    show u σ H2 Q
    exact h2 (k rfl) H2 (g.trans g2) Q fun b H3 g3 k3 => q b H3 (g2.trans g3) fun e => ⟨k rfl, k3 e⟩
  | false => exact q false H2 g2 fun z => nomatch z
theorem ep_and (h1 : EvP K T ta σ H (Snd C)) (h2 : C → EvP K T tb σ H (Snd C')) : EvP K T (tAndV ta tb) σ H (Snd (C ∧ C')) := fun H1 g Q q => h1 H1 g _ fun v d H2 g2 hv ⟨b, e, k⟩ => by
  subst e
  refine ⟨b, dq_bl hv, ?_⟩
  cases b with
  | true =>
    show tb σ H2 Q
    exact h2 (k rfl) H2 (g.trans g2) _ fun w d H3 g3 hw ⟨b, e, k3⟩ => q w d H3 (g2.trans g3) hw ⟨b, e, fun e => ⟨k rfl, k3 e⟩⟩
  | false => exact q _ (.bool false) H2 g2 .bl ⟨false, rfl, fun z => nomatch z⟩
theorem ep_of (h : EvD K T te σ H (.bool b)) (k : b = true → C) : EvP K T te σ H (Snd C) := fun H1 g Q q => h.run g fun v H2 g2 hv => q v _ H2 g2 hv ⟨b, rfl, k⟩
theorem Snd.imp {C C' : Prop} (k : C → C') : ∀ r, Snd C r → Snd C' r := fun r ⟨b, e, h⟩ => ⟨b, e, fun z => k (h z)⟩
/-- a for over the places of a tuple -/
theorem for_ent {a : Addr} {ys : List V} {g : TG} {tb : TS} {D : Ends} (Pv : Nat → L2.St → Hp → Prop) (h0 : Pv 0 σ H) (hl : ∀ i σ H, i ≤ ys.length → Pv i σ H → SqT K H a ys)
    (hs : ∀ i y σ H T2, ys[i]? = some y → Pv i σ H → H T2 = none → g (.ref T2) σ (upd H T2 (.tup [.int ((i : Nat) : Int), y])) fun σ2 H2 => tb { D with nx := Pv (i + 1), ct := Pv (i + 1), bk := D.nx } σ2 H2) (hd : ∀ σ H, Pv ys.length σ H → D.nx σ H) :
    ∃ W : Nat → Nat → L2.St → Hp → Prop, (∃ m, W 0 m σ H) ∧ ∀ i m σ H, W i m σ H →
      ((Iet K a).stop i H ∧ D.nx σ H) ∨ ((Iet K a).go i H ∧ ∃ N : L2.St → Hp → Prop, (∀ σ' H', N σ' H' → ∃ m', m' < m ∧ W (i + 1) m' σ' H') ∧ ∀ x H', (Iet K a).yld i H x H' → g x σ H' fun σ2 H2 => tb { D with nx := N, ct := N, bk := D.nx } σ2 H2) := by
  refine ⟨fun i m σ H => m = ys.length - i ∧ i ≤ ys.length ∧ Pv i σ H, ⟨ys.length, by simp, Nat.zero_le _, h0⟩, ?_⟩
  rintro i m σ H ⟨rfl, hi, p⟩
  have q := hl i σ H hi p
  by_cases hlt : i < ys.length
  · refine .inr ⟨⟨ys, ys[i], q, by simp [hlt]⟩, Pv (i + 1), fun σ' H' p' => ⟨ys.length - (i + 1), by omega, rfl, hlt, p'⟩, ?_⟩
    rintro x H' ⟨T2, y, rfl, hT, rfl, hy⟩
    exact hs i y σ H T2 (hy ys q) p hT
  · have e : i = ys.length := by omega
    subst e
    exact .inl ⟨⟨ys, q, rfl⟩, hd σ H p⟩
end
theorem emb_snoc {A : Type} {R : A → A → Prop} {v u : List A} {x y : A} (h : Emb R v u) (r : R x y) : Emb R (v ++ [x]) (u ++ [y]) := by
  obtain ⟨w, h1, h2⟩ := h
  exact ⟨w ++ [x], h1.append (.refl _), F2.app h2 (.cons r .nil)⟩
theorem emb_more {A : Type} {R : A → A → Prop} {v u : List A} {x : A} (h : Emb R v u) : Emb R (v ++ [x]) u := by
  obtain ⟨w, h1, h2⟩ := h
  exact ⟨w, h1.trans (List.sublist_append_left _ _), h2⟩
theorem pick_at {A : Type} {v : List A} {k : Nat} {x : A} (h : v[k]? = some x) : (x, v.take k ++ v.drop (k + 1)) ∈ picks v := by
  refine mem_picks.mpr ⟨v.take k, v.drop (k + 1), ?_, rfl⟩
  have hk := (List.getElem?_eq_some_iff.mp h).1
  have e : v.drop k = x :: v.drop (k + 1) := by
    rw [List.drop_eq_getElem_cons hk]
    rw [List.getElem?_eq_getElem hk] at h
    rw [Option.some.inj h]
  rw [← e, List.take_append_drop]
def RLHolds (d : Nat) (ds : List De) (P : De → Prop) : Prop := ∃ (s : So) (x y : Va s), ds = [.s s, .d (enc s x), .d (enc s y)] ∧ dep s < d ∧ Wf s ∧ Sm 8 s x ∧ Sm 8 s y ∧ P = Snd (holds s x y = true)
def RLGiven (d n : Nat) (ds : List De) (P : De → Prop) : Prop := ∃ (a : So) (v u : List (Va a)), ds = [.s a, .d (encs a v), .d (encs a u)] ∧ dep a < d ∧ Wf a ∧ Sms 8 a v ∧ Sms 8 a u ∧ u.length < n ∧ P = Snd (inj (holds a) u v = true)
section
variable {P : Program} {w : World} {K : PySem.W.Frag} {mg : Str → Option Value} {base : Heap} {T : Tb} {aS : Addr}
theorem hasLawGiven (d n k : Nat) (D : DefOk K mg "_law_given" sLawGiven ["_law_sort", "_law_some_here", "_law_asked"]) (M : Bi mg) (h__law_holds : Has P w K mg base k "_law_holds" ["_law_sort", "_law_v", "_law_u"] (spOf T K (RLHolds d))) (h__law_given : Has P w K mg base (k + n) "_law_given" ["_law_sort", "_law_some_here", "_law_asked"] (spOf T K (RLGiven d n))) :
    Has P w K mg base (k + n + 1) "_law_given" ["_law_sort", "_law_some_here", "_law_asked"] (spOf T K (RLGiven d (n + 1))) := by
  have nd := scLawGiven.nd
  refine D.pure (k + n) scLawGiven (fun ds Pd h => ?_) fun f cdv A outer s H E vs ds Pd hr hT hv hR => ?_
  · obtain ⟨s, x, y, rfl, _⟩ := h
    rfl
  obtain ⟨a, v, u, rfl, hd, hw, sv, su, hn, rfl⟩ := hR
  obtain ⟨v1, v2, v3, rfl, h1, h2, h3⟩ := dqa3 hv
  refine ⟨_, (pss_cons (ps_if (pt_cmpR op_eq (pe_callB call_len_seq rfl (M.len) PySem.boot_len (pa_cons (pv 2) pa_nil)) pe_int (nomark _)) (pss_one (ps_ret pe_bl)) pss_nil)
    (pss_cons (ps_for PassesOwn.never rfl (pi_enumTK K rfl rfl (M.enumerate) (pa_cons (pv 1) pa_nil)) (pg_tupK (n := 2) K rfl rfl (pgs_cons (pg_name (i := 3) nd rfl (Or.inl rfl)) (pgs_cons (pg_name (i := 4) nd rfl (Or.inl rfl)) pgs_nil))) (pss_one (ps_if (PW.pt (pw_and (pt_val (pe_has h__law_holds hr (by omega) (pa_cons (pv 0) (pa_cons (pv 4) (pa_cons (pe_ix ix_tup (pv 2) pe_int (fun _ _ => rfl)) pa_nil))))) (pw_and1 (pt_val (pe_has h__law_given hr (by omega) (pa_cons (pv 0) (pa_cons (pe_op op_catA (pe_slice sl_tupA (pv 1) po_none (po_some (pv 3))) (pe_slice sl_tupA (pv 1) (po_some (pe_op op_add (pv 3) pe_int)) po_none)) (pa_cons (pe_slice sl_tupA (pv 2) (po_some pe_int) po_none) pa_nil)))))))) (pss_one (ps_ret pe_bl)) pss_nil)))
    (pss_one (ps_ret pe_bl)))), ?_⟩
  have L1 := ed_lenT (T := T) (ed_var (T := T) (K := K) (σ := start nLawGiven [v1, v2, v3]) (i := 2) rfl (show Dq K H v3 (.tuple (u.map (enc a))) from h3))
  rw [List.length_map] at L1
  have ze : EvB T (tTest (tOp rEq (tCB (fun xs H Q => ∃ p n, xs = [V.ref p] ∧ ((SqL K H p n) ∨ SqT K H p n) ∧ Q (.int n.length) H) (tCons (tVar 2) tNil)) (tC (.int 0)))) (start nLawGiven [v1, v2, v3]) H (decide (((u.length : Nat) : Int) = ((0 : Nat) : Int))) := eb_test (ed_eqI L1 (ed_int (n := 0)))
  cases u with
  | nil =>
    refine rd_yes (ze.is (by simp)) (rd_ret (ep_of ed_bl fun _ => ?_))
    cases v <;> rfl
  | cons y u =>
    refine rd_no (ze.is (by simp; omega)) ?_
    obtain ⟨va, vs, rfl, hva, dva⟩ := dp_tup (show Dp K H v2 (.tuple (v.map (enc a))) from h2)
    have hlv := dps_len dva
    rw [List.length_map] at hlv
    have sv1 : v.length ≤ 8 := sv.1
    have su1 : (y :: u).length ≤ 8 := su.1
    intro H0 g0 D q
    refine s_seq ⟨.ref va, rfl, ?_⟩
    refine ⟨va, vs, rfl, st_ext g0.ext hva, for_ent (ys := vs) (fun i σ H' => ∃ o3 o4 : Option V, σ = [some v1, some (.ref va), some v3, o3, o4] ∧ Gr T H0 H') ?_ ?_ ?_ ?_⟩
    · exact ⟨none, none, rfl, g0.self⟩
    · rintro i σ H' _ ⟨_, _, _, g⟩
      exact st_ext (g0.trans g).ext hva
    · rintro i x σ H' T2 hx ⟨o3, o4, rfl, g⟩ hT2
      have hi : i < v.length := by
        have := (List.getElem?_eq_some_iff.mp hx).1
        omega
      obtain ⟨d0, e1, e2⟩ := dps_at dva hx
      obtain ⟨x0, ex⟩ : ∃ x0, v[i]? = some x0 := ⟨_, List.getElem?_eq_getElem hi⟩
      rw [List.getElem?_map, ex] at e1
      cases e1
      have hx0 : Dq K H x (.d (enc a x0)) := .of e2 (enc_nl _ _)
      have g1 : Gr T H0 (upd H' T2 (.tup [.int ((i : Nat) : Int), x])) := g.add hT2
      have g01 := g0.trans g1
      refine ⟨T2, _, rfl, .of upd_same, rfl, _, _, rfl, _, _, rfl, rfl, ?_⟩
      have tst : EvS T (tAnd (tTest (tCall (spOf T K (RLHolds d)) [] E0 (tCons (tVar 0) (tCons (tVar 4) (tCons (tOp (rIxT K) (tVar 2) (tC (.int 0))) tNil))))) (tTest (tCall (spOf T K (RLGiven d n)) [] E0 (tCons (tVar 0) (tCons (tOp (rCatA K) (tSl (rSlA K) (tVar 1) tNoPart (tPart (tVar 3))) (tSl (rSlA K) (tVar 1) (tPart (tOp (rI0 fun i j => .int (i + j)) (tVar 3) (tC (.int 1)))) tNoPart)) (tCons (tSl (rSlA K) (tVar 2) (tPart (tC (.int 1))) tNoPart) tNil)))))) [some v1, some (.ref va), some v3, some (.int ((i : Nat) : Int)), some x] H (holds a x0 y = true ∧ inj (holds a) u (v.take i ++ v.drop (i + 1)) = true) := by
        refine es_and (es_test (ed_call (K := K) (T := T) (R := RLHolds d) (ea_cons (ed_var (i := 0) rfl h1) (ea_cons (ed_var (i := 4) rfl hx0) (ea_cons (ed_ixT (n := 0) (ed_var (i := 2) rfl h3) ed_int rfl (enc_nl _ _)) ea_nil))) ⟨a, x0, y, rfl, hd, hw, sv.2 x0 (List.mem_of_getElem? ex), su.2 y List.mem_cons_self, rfl⟩)) fun _ => es_test (ed_call (K := K) (T := T) (R := RLGiven d n) (ea_cons (ed_var (i := 0) rfl h1) (ea_cons (EvD.is (d1 := .d (encs a (v.take i ++ v.drop (i + 1)))) (ed_catT (ed_takeT (n := i) (ed_var (i := 1) rfl (show Dq K H (.ref va) (.tuple (v.map (enc a))) from h2)) (ed_var (i := 3) rfl .int)) (ed_dropT (n := i + 1) (ed_var (i := 1) rfl (show Dq K H (.ref va) (.tuple (v.map (enc a))) from h2)) (ed_add1 rfl)) ?_) ?_) (ea_cons (EvD.is (d1 := .d (encs a u)) (ed_dropT (n := 1) (ed_var (i := 2) rfl (show Dq K H v3 (.tuple ((y :: u).map (enc a))) from h3)) (ed_int (n := 1))) ?_) ea_nil))) ⟨a, v.take i ++ v.drop (i + 1), u, rfl, hd, hw, ⟨?_, fun z hz => ?_⟩, ⟨?_, fun z hz => su.2 z (List.mem_cons_of_mem _ hz)⟩, ?_, rfl⟩)
        · rw [List.length_take, List.length_drop, List.length_map]
          omega
        · rw [← List.map_take, ← List.map_drop, ← List.map_append]
          rfl
        · rfl
        · rw [List.length_append, List.length_take, List.length_drop]
          omega
        · rcases List.mem_append.mp hz with h | h
          · exact sv.2 z (List.mem_of_mem_take h)
          · exact sv.2 z (List.mem_of_mem_drop h)
        · rw [List.length_cons] at su1
          omega
        · rw [List.length_cons] at hn
          omega
      refine s_if (tst _ g01 _ fun b H3 g3 hb => ?_)
      cases b with
      | true =>
        rw [if_pos rfl]
        refine s_ret (q _ (.bool true) H3 (g1.trans g3) .bl ⟨true, rfl, fun _ => ?_⟩)
        have h := hb rfl
        rw [inj, List.any_eq_true]
        exact ⟨_, pick_at ex, by rw [h.1, h.2]; rfl⟩
      | false =>
        rw [if_neg Bool.false_ne_true]
        exact ⟨_, _, rfl, g1.trans g3⟩
    · rintro σ H' ⟨o3, o4, rfl, g⟩
      dsimp only
      exact s_ret (q _ (.bool false) H' g .bl ⟨false, rfl, fun z => nomatch z⟩)
theorem hasLawHolds (d k : Nat) (D : DefOk K mg "_law_holds" sLawHolds ["_law_sort", "_law_v", "_law_u"]) (M : Bi mg) (h__law_holds : Has P w K mg base k "_law_holds" ["_law_sort", "_law_v", "_law_u"] (spOf T K (RLHolds d))) (h__law_given : Has P w K mg base (k + 9) "_law_given" ["_law_sort", "_law_some_here", "_law_asked"] (spOf T K (RLGiven d 9))) :
    Has P w K mg base (k + 10) "_law_holds" ["_law_sort", "_law_v", "_law_u"] (spOf T K (RLHolds (d + 1))) := by
  have nd := scLawHolds.nd
  refine D.pure (k + 9) scLawHolds (fun ds Pd h => ?_) fun f cdv A outer s H E vs ds Pd hr hT hv hR => ?_
  · obtain ⟨s, x, y, rfl, _⟩ := h
    rfl
  obtain ⟨so, x, y, rfl, hd, hw, sx, sy, rfl⟩ := hR
  obtain ⟨v1, v2, v3, rfl, h1, h2, h3⟩ := dqa3 hv
  refine ⟨_, (pss_cons (ps_if (pt_cmpR op_in_seq (pe_ix ix_tup (pv 0) pe_int (fun _ _ => rfl)) (pe_tup (pa_cons pe_str (pa_cons pe_str pa_nil))) (by rfl)) (pss_one (ps_ret (pe_ifExp (pt_cmpR op_eq (pe_ix ix_tup (pv 0) pe_int (fun _ _ => rfl)) pe_str (nomark _)) (pe_cmpR op_eq (pv 1) (pv 2) (nomark _)) (pe_cmpR op_ge (pv 1) (pv 2) (nomark _))))) pss_nil)
    (pss_cons (ps_if (pt_cmpR op_eq (pe_ix ix_tup (pv 0) pe_int (fun _ _ => rfl)) pe_str (nomark _)) (pss_one (ps_ret (pe_and (pe_has h__law_holds hr (by omega) (pa_cons (pe_ix ix_tup (pv 0) pe_int (fun _ _ => rfl)) (pa_cons (pe_ix ix_tup (pv 1) pe_int (fun _ _ => rfl)) (pa_cons (pe_ix ix_tup (pv 2) pe_int (fun _ _ => rfl)) pa_nil)))) (pe_one (pe_has h__law_holds hr (by omega) (pa_cons (pe_ix ix_tup (pv 0) pe_int (fun _ _ => rfl)) (pa_cons (pe_ix ix_tup (pv 1) pe_int (fun _ _ => rfl)) (pa_cons (pe_ix ix_tup (pv 2) pe_int (fun _ _ => rfl)) pa_nil)))))))) pss_nil)
    (pss_cons (ps_if (pt_cmpR op_eq (pe_ix ix_tup (pv 0) pe_int (fun _ _ => rfl)) pe_str (nomark _)) (pss_one (ps_ret (pe_and (pe_cmpR op_eq (pe_ix ix_tup (pv 1) pe_int (fun _ _ => rfl)) (pe_ix ix_tup (pv 2) pe_int (fun _ _ => rfl)) (nomark _)) (pe_one (pe_has h__law_holds hr (by omega) (pa_cons (pe_ix ix_tup (pv 0) (pe_op op_add pe_int (pe_callTy call_int1 rfl (M.int) (by decide +kernel) (pa_cons (pe_cmpR op_eq (pe_ix ix_tup (pv 1) pe_int (fun _ _ => rfl)) pe_str (nomark _)) pa_nil))) (fun _ _ => rfl)) (pa_cons (pe_ix ix_tup (pv 1) pe_int (fun _ _ => rfl)) (pa_cons (pe_ix ix_tup (pv 2) pe_int (fun _ _ => rfl)) pa_nil)))))))) pss_nil)
    (pss_cons (ps_if (pt_cmpR op_eq (pe_ix ix_tup (pv 0) pe_int (fun _ _ => rfl)) pe_str (nomark _)) (pss_one (ps_ret (pe_and (pe_cmpR op_ge (pe_callB call_len_seq rfl (M.len) PySem.boot_len (pa_cons (pv 1) pa_nil)) (pe_callB call_len_seq rfl (M.len) PySem.boot_len (pa_cons (pv 2) pa_nil)) (nomark _)) (pe_one (pe_has h__law_given hr (by omega) (pa_cons (pe_ix ix_tup (pv 0) pe_int (fun _ _ => rfl)) (pa_cons (pv 1) (pa_cons (pv 2) pa_nil)))))))) pss_nil)
    (pss_cons (ps_set (i := 3) nd rfl (Or.inl rfl) pe_int)
    (pss_cons (ps_for PassesOwn.never rfl (pi_tup (pv 1)) (pg_name (i := 4) nd rfl (Or.inl rfl)) (pss_one (ps_if (PW.pt (pw_and (pt_cmpR op_lt (pv 3) (pe_callB call_len_seq rfl (M.len) PySem.boot_len (pa_cons (pv 2) pa_nil)) (nomark _)) (pw_and1 (pt_val (pe_has h__law_holds hr (by omega) (pa_cons (pe_ix ix_tup (pv 0) pe_int (fun _ _ => rfl)) (pa_cons (pv 4) (pa_cons (pe_ix ix_tup (pv 2) (pv 3) (fun _ _ => rfl)) pa_nil)))))))) (pss_one (ps_set (i := 3) nd rfl (Or.inl rfl) (pe_op op_add (pv 3) pe_int))) pss_nil)))
    (pss_one (ps_ret (pe_cmpR op_eq (pv 3) (pe_callB call_len_seq rfl (M.len) PySem.boot_len (pa_cons (pv 2) pa_nil)) (nomark _)))))))))), ?_⟩
  have hk : EvD K T (tOp (rIxT K) (tVar 0) (tC (.int 0))) (start nLawHolds [v1, v2, v3]) H (.str (tag so)) := ed_tag (ed_var rfl h1) ed_int
  have fl := eb_flat hk
  cases so with
  | mark ls =>
    refine rd_yes fl (rd_ret ?_)
    refine ed_if (eb_tag (m := 0) hk ed_str) (fun _ => ?_) fun z => nomatch z
    refine ep_of (b := decide (x = y)) ((ed_eqS (ed_var rfl h2) (ed_var rfl h3)).is (congrArg De.bool (mark_eq hw.1 x y))) fun e => e
  | count =>
    refine rd_yes fl (rd_ret ?_)
    refine ed_if (eb_tag (m := 0) hk ed_str) (fun z => nomatch z) fun _ => ?_
    refine ep_of (b := decide (((y : Nat) : Int) ≤ ((x : Nat) : Int))) (ed_I0 (ed_var rfl h2) (ed_var rfl h3) (fun _ => .bl) : EvD K T _ _ _ _) fun e => ?_
    have e := of_decide_eq_true e
    show decide ((y : Nat) ≤ x) = true
    exact decide_eq_true (Int.ofNat_le.mp e)
  | both a b =>
    have d1 : dep a < d := by simp only [dep] at hd; omega
    have d2 : dep b < d := by simp only [dep] at hd; omega
    refine rd_no fl (rd_yes (eb_tag (m := 2) hk ed_str) (rd_ret ?_))
    refine (ep_and (ed_call (K := K) (T := T) (R := RLHolds d) (ea_cons (ed_sub (ed_var rfl h1) ed_int rfl) (ea_cons (ed_ixT (n := 0) (ed_var rfl h2) ed_int rfl (enc_nl _ _)) (ea_cons (ed_ixT (n := 0) (ed_var rfl h3) ed_int rfl (enc_nl _ _)) ea_nil))) ⟨a, x.1, y.1, rfl, d1, hw.1, sx.1, sy.1, rfl⟩)
      fun _ => ed_call (K := K) (T := T) (R := RLHolds d) (ea_cons (ed_sub (ed_var rfl h1) ed_int rfl) (ea_cons (ed_ixT (n := 1) (ed_var rfl h2) ed_int rfl (enc_nl _ _)) (ea_cons (ed_ixT (n := 1) (ed_var rfl h3) ed_int rfl (enc_nl _ _)) ea_nil))) ⟨b, x.2, y.2, rfl, d2, hw.2, sx.2, sy.2, rfl⟩).imp (Snd.imp fun h => ?_)
    show (holds a x.1 y.1 && holds b x.2 y.2) = true
    rw [h.1, h.2]
    rfl
  | either a b =>
    have d1 : dep a < d := by simp only [dep] at hd; omega
    have d2 : dep b < d := by simp only [dep] at hd; omega
    refine rd_no fl (rd_no (eb_tag (m := 2) hk ed_str) (rd_yes (eb_tag (m := 3) hk ed_str) (rd_ret ?_)))
    cases x with
    | inl x =>
      cases y with
      | inl y => exact (ep_and (C := True) (ep_of ((ed_eqS (ed_ixT (n := 0) (ed_var rfl h2) ed_int rfl (fun _ z => nomatch z)) (ed_ixT (n := 0) (ed_var rfl h3) ed_int rfl (fun _ z => nomatch z))).is (congrArg De.bool eqLL)) fun _ => True.intro) fun _ => ed_call (K := K) (T := T) (R := RLHolds d) (ea_cons (ed_sub (n := 1) (ed_var rfl h1) (ed_I0 (d := .int ((1 : Nat) : Int)) ed_int (ed_int1 ((ed_eqS (ed_ixT (n := 0) (ed_var rfl h2) ed_int rfl (fun _ z => nomatch z)) ed_str).is (congrArg De.bool eqLR))) fun _ => .int) rfl) (ea_cons (ed_ixT (n := 1) (ed_var rfl h2) ed_int rfl (enc_nl _ _)) (ea_cons (ed_ixT (n := 1) (ed_var rfl h3) ed_int rfl (enc_nl _ _)) ea_nil))) ⟨a, x, y, rfl, d1, hw.1, sx, sy, rfl⟩).imp (Snd.imp fun h => h.2)
      | inr y => exact (ep_and (C := False) (C' := False) (ep_of (b := false) ((ed_eqS (ed_ixT (n := 0) (ed_var rfl h2) ed_int rfl (fun _ z => nomatch z)) (ed_ixT (n := 0) (ed_var rfl h3) ed_int rfl (fun _ z => nomatch z))).is (congrArg De.bool eqLR)) fun z => nomatch z) fun z => z.elim).imp (Snd.imp fun h => h.1.elim)
    | inr x =>
      cases y with
      | inl y => exact (ep_and (C := False) (C' := False) (ep_of (b := false) ((ed_eqS (ed_ixT (n := 0) (ed_var rfl h2) ed_int rfl (fun _ z => nomatch z)) (ed_ixT (n := 0) (ed_var rfl h3) ed_int rfl (fun _ z => nomatch z))).is (congrArg De.bool eqRL)) fun z => nomatch z) fun z => z.elim).imp (Snd.imp fun h => h.1.elim)
      | inr y => exact (ep_and (C := True) (ep_of ((ed_eqS (ed_ixT (n := 0) (ed_var rfl h2) ed_int rfl (fun _ z => nomatch z)) (ed_ixT (n := 0) (ed_var rfl h3) ed_int rfl (fun _ z => nomatch z))).is (congrArg De.bool eqRR)) fun _ => True.intro) fun _ => ed_call (K := K) (T := T) (R := RLHolds d) (ea_cons (ed_sub (n := 2) (ed_var rfl h1) (ed_I0 (d := .int ((2 : Nat) : Int)) ed_int (ed_int1 ((ed_eqS (ed_ixT (n := 0) (ed_var rfl h2) ed_int rfl (fun _ z => nomatch z)) ed_str).is (congrArg De.bool eqRR))) fun _ => .int) rfl) (ea_cons (ed_ixT (n := 1) (ed_var rfl h2) ed_int rfl (enc_nl _ _)) (ea_cons (ed_ixT (n := 1) (ed_var rfl h3) ed_int rfl (enc_nl _ _)) ea_nil))) ⟨b, x, y, rfl, d2, hw.2, sx, sy, rfl⟩).imp (Snd.imp fun h => h.2)
  | lane a =>
    have d1 : dep a < d := Nat.lt_of_succ_lt_succ hd
    refine rd_no fl (rd_no (eb_tag (m := 2) hk ed_str) (rd_no (eb_tag (m := 3) hk ed_str) (rd_no (eb_tag (m := 5) hk ed_str) ?_)))
    let v : List (Va a) := x
    let u : List (Va a) := y
    have sx1 : v.length ≤ 8 := sx.1
    have sy1 : u.length ≤ 8 := sy.1
    obtain ⟨va, vs, rfl, hva, dva⟩ := dp_tup (show Dp K H v2 (.tuple (v.map (enc a))) from h2)
    have hlv := dps_len dva
    rw [List.length_map] at hlv
    have L1 : ∀ (σ : L2.St), σ[2]? = some (some v3) → EvD K T (tCB (fun xs H Q => ∃ p n, xs = [V.ref p] ∧ ((SqL K H p n) ∨ SqT K H p n) ∧ Q (.int n.length) H) (tCons (tVar 2) tNil)) σ H (.int ((u.length : Nat) : Int)) := fun σ hσ => by
      have z := ed_lenT (T := T) (ed_var (T := T) (K := K) (σ := σ) (i := 2) hσ (show Dq K H v3 (.tuple (u.map (enc a))) from h3))
      rw [List.length_map] at z
      exact z
    intro H0 g0 D q
    refine s_seq (s_asg ?_)
    refine s_seq ⟨.ref va, rfl, va, rfl, ⟨vs, st_ext g0.ext hva⟩, for_tup (xs := vs) (fun i σ H' => ∃ (j : Nat) (o4 : Option V), σ = [some v1, some (.ref va), some v3, some (.int ((j : Nat) : Int)), o4] ∧ j ≤ u.length ∧ Emb (fun p r => holds a p r = true) (v.take i) (u.take j) ∧ Gr T H0 H') ?_ ?_ ?_ ?_⟩
    · exact ⟨0, none, rfl, Nat.zero_le _, ⟨[], List.nil_sublist _, .nil⟩, g0.self⟩
    · rintro i σ H' _ ⟨_, _, _, _, _, g⟩
      exact st_ext (g0.trans g).ext hva
    · rintro i p0 σ H' hp0 ⟨j, o4, rfl, hj, em, g⟩
      have hi : i < v.length := by
        have := (List.getElem?_eq_some_iff.mp hp0).1
        omega
      obtain ⟨d0, e1, e2⟩ := dps_at dva hp0
      obtain ⟨x0, ex⟩ : ∃ x0, v[i]? = some x0 := ⟨_, List.getElem?_eq_getElem hi⟩
      rw [List.getElem?_map, ex] at e1
      cases e1
      have hx0 : Dq K H p0 (.d (enc a x0)) := .of e2 (enc_nl _ _)
      have e3 : v.take (i + 1) = v.take i ++ [x0] := by rw [List.take_add_one, ex]; rfl
      have tst : EvS T (tAnd (tTest (tOp (rI0 fun i j => .bl (decide (i < j))) (tVar 3) (tCB (fun xs H Q => ∃ p n, xs = [V.ref p] ∧ ((SqL K H p n) ∨ SqT K H p n) ∧ Q (.int n.length) H) (tCons (tVar 2) tNil)))) (tTest (tCall (spOf T K (RLHolds d)) [] E0 (tCons (tOp (rIxT K) (tVar 0) (tC (.int 1))) (tCons (tVar 4) (tCons (tOp (rIxT K) (tVar 2) (tVar 3)) tNil)))))) [some v1, some (.ref va), some v3, some (.int ((j : Nat) : Int)), some p0] H (j < u.length ∧ ∃ y0, u[j]? = some y0 ∧ holds a x0 y0 = true) := by
        refine es_and (es_of (b := decide (((j : Nat) : Int) < ((u.length : Nat) : Int))) (eb_test (K := K) (ed_I0 (ed_var (i := 3) rfl .int) (L1 _ rfl) fun _ => .bl)) fun e => by have := of_decide_eq_true e; omega) fun hjl => ?_
        obtain ⟨y0, ey⟩ : ∃ y0, u[j]? = some y0 := ⟨_, List.getElem?_eq_getElem hjl⟩
        have ey' : (u.map (enc a))[j]? = some (enc a y0) := by rw [List.getElem?_map, ey]; rfl
        refine es_test ((ed_call (K := K) (T := T) (R := RLHolds d) (ea_cons (ed_sub (n := 1) (ed_var (i := 0) rfl h1) ed_int rfl) (ea_cons (ed_var (i := 4) rfl hx0) (ea_cons (ed_ixT (n := j) (ed_var (i := 2) rfl (show Dq K H v3 (.tuple (u.map (enc a))) from h3)) (ed_var (i := 3) rfl .int) ey' (enc_nl _ _)) ea_nil))) ⟨a, x0, y0, rfl, d1, hw, sx.2 x0 (List.mem_of_getElem? ex), sy.2 y0 (List.mem_of_getElem? ey), rfl⟩).imp (Snd.imp fun h => ⟨y0, ey, h⟩))
      refine s_if (tst _ (g0.trans g) _ fun b H3 g3 hb => ?_)
      cases b with
      | true =>
        rw [if_pos rfl]
        obtain ⟨hjl, y0, ey, h⟩ := hb rfl
        refine s_asg ?_
        refine (ed_add1 (p := j) (K := K) (T := T) (H := H3) (σ := [some v1, some (.ref va), some v3, some (.int ((j : Nat) : Int)), some p0]) (i := 3) rfl).run (.refl g3.tab) fun w H4 g4 hw => ?_
        obtain rfl := dq_int hw
        refine ⟨j + 1, _, rfl, hjl, ?_, (g.trans g3).trans g4⟩
        have e4 : u.take (j + 1) = u.take j ++ [y0] := by rw [List.take_add_one, ey]; rfl
        rw [e3, e4]
        exact emb_snoc em h
      | false =>
        rw [if_neg Bool.false_ne_true]
        refine ⟨j, _, rfl, hj, ?_, g.trans g3⟩
        rw [e3]
        exact emb_more em
    · rintro σ H' ⟨j, o4, rfl, hj, em, g⟩
      dsimp only
      have gg := g0.trans g
      refine s_ret ((ed_eqI (ed_var (i := 3) (σ := [some v1, some (.ref va), some v3, some (.int ((j : Nat) : Int)), o4]) rfl .int) (L1 _ rfl) : EvD K T _ _ H (.bool (decide (((j : Nat) : Int) = ((u.length : Nat) : Int))))).run gg fun w H3 g3 hw => q w _ H3 (g.trans g3) hw ⟨_, rfl, fun e => ?_⟩)
      have e := of_decide_eq_true e
      have e : j = u.length := Int.ofNat_inj.mp e
      rw [hlv, List.take_length, e, List.take_length] at em
      exact emb_iff.mpr em
  | heap a =>
    have d1 : dep a < d := Nat.lt_of_succ_lt_succ hd
    refine rd_no fl (rd_no (eb_tag (m := 2) hk ed_str) (rd_no (eb_tag (m := 3) hk ed_str) (rd_yes (eb_tag (m := 5) hk ed_str) (rd_ret ?_))))
    let v : List (Va a) := x
    let u : List (Va a) := y
    have sx1 : v.length ≤ 8 := sx.1
    have sy1 : u.length ≤ 8 := sy.1
    have LX := ed_lenT (T := T) (ed_var (T := T) (K := K) (σ := start nLawHolds [v1, v2, v3]) (i := 1) rfl (show Dq K H v2 (.tuple (v.map (enc a))) from h2))
    have LY := ed_lenT (T := T) (ed_var (T := T) (K := K) (σ := start nLawHolds [v1, v2, v3]) (i := 2) rfl (show Dq K H v3 (.tuple (u.map (enc a))) from h3))
    exact (ep_and (C := True) (ep_of (ed_I0 LX LY (fun _ => .bl)) fun _ => True.intro) fun _ => ed_call (K := K) (T := T) (R := RLGiven d 9) (ea_cons (ed_sub (n := 1) (ed_var rfl h1) ed_int rfl) (ea_cons (ed_var rfl h2) (ea_cons (ed_var rfl h3) ea_nil))) ⟨a, v, u, rfl, d1, hw, sx, sy, by omega, rfl⟩).imp (Snd.imp fun h => h.2)
end
end K16

end K16R23Text
section K16YText
set_option autoImplicit false
set_option linter.all false
set_option maxRecDepth 100000
set_option Elab.async false
set_option pp.maxSteps 700
set_option pp.deepTerms false
set_option pp.deepTerms.threshold 4
/-! The source of drawn numbers: a dict D and the list C of its cells; they alone are written. -/
namespace K16
open PySem PySem.Spec PyProof.Rows L2
def srcK (C : Addr) (l m t : Int) : List (Key × V) := [(.inr "cells", .ref C), (.inr "left", .int l), (.inr "mixed", .int m), (.inr "turn", .int t)]
theorem src_cells (C : Addr) (l m t : Int) : valV (srcK C l m t) (.inr "cells") = some (.ref C) := by rfl
theorem src_left (C : Addr) (l m t : Int) : valV (srcK C l m t) (.inr "left") = some (.int l) := by rfl
theorem src_mixed (C : Addr) (l m t : Int) : valV (srcK C l m t) (.inr "mixed") = some (.int m) := by rfl
theorem src_turn (C : Addr) (l m t : Int) : valV (srcK C l m t) (.inr "turn") = some (.int t) := by rfl
theorem src_putL (C : Addr) (l m t x : Int) : putK (srcK C l m t) (.inr "left") (.int x) = srcK C x m t := by rfl
theorem src_putT (C : Addr) (l m t x : Int) : putK (srcK C l m t) (.inr "turn") (.int x) = srcK C l m x := by rfl
def Src (H : Hp) (D C : Addr) : Prop := ∃ (l m t : Int) (cells : List Int), H D = some (.dK (srcK C l m t)) ∧ H C = some (.lst (cells.map V.int))
/-- all but the source -/
def hid (D C : Addr) (H : Hp) : Hp := fun b => if b = D ∨ b = C then none else H b
def nlD : De → Bool
  | .d x => noL x
  | .s _ => true
section
variable {K : PySem.W.Frag} {T : Tb} {H H1 B : Hp} {D C : Addr}
theorem hid_ne {b : Addr} (h1 : b ≠ D) (h2 : b ≠ C) : hid D C H b = H b := if_neg fun z => z.elim h1 h2
theorem hid_some {b : Addr} {o : HO} (h : hid D C H b = some o) : H b = some o ∧ b ≠ D ∧ b ≠ C := by
  unfold hid at h
  by_cases c : b = D ∨ b = C
  · rw [if_pos c] at h; cases h
  · rw [if_neg c] at h
    exact ⟨h, fun z => c (.inl z), fun z => c (.inr z)⟩
theorem hid_sub : LamX.ExtN (hid D C H) H := fun b o h _ => (hid_some h).1
theorem hid_ext (e : LamX.ExtN H H1) : LamX.ExtN (hid D C H) (hid D C H1) := fun b o h n => by
  obtain ⟨h, h1, h2⟩ := hid_some h
  rw [hid_ne h1 h2]
  exact e b o h n
theorem hid_tab (h : LamX.Tabs T H) : Gr T (hid D C H) H := ⟨hid_sub, h⟩
/-- from a base without the source -/
theorem base_hid (hD : B D = none) (hC : B C = none) (e : LamX.ExtN B H) : LamX.ExtN B (hid D C H) := fun b o h n => by
  rw [hid_ne (fun z => by rw [z, hD] at h; cases h) (fun z => by rw [z, hC] at h; cases h)]
  exact e b o h n
theorem hid_D : hid D C H D = none := if_pos (.inl rfl)
theorem hid_C : hid D C H C = none := if_pos (.inr rfl)
theorem hid_idem : LamX.ExtN (hid D C H) (hid D C (hid D C H)) := base_hid hid_D hid_C (.refl _)
theorem Src.stay (h : Src H D C) (g : Gr T H H1) : Src H1 D C := by
  obtain ⟨l, m, t, cells, h1, h2⟩ := h
  exact ⟨l, m, t, cells, g.stay h1 True.intro, g.stay h2 True.intro⟩
theorem Src.ne (h : Src H D C) : D ≠ C := fun z => by
  obtain ⟨l, m, t, cells, h1, h2⟩ := h
  rw [z, h2] at h1
  cases h1
theorem st_hid (S : Src H D C) {p : Addr} {xs : List V} (h : SqT K H p xs) : SqT K (hid D C H) p xs := by
  obtain ⟨l, m, t, cells, h1, h2⟩ := S
  rcases h with (h | ⟨o, h⟩) | h
  · exact .inl (.inl (by rw [hid_ne (fun z => by rw [z, h1] at h; cases h) (fun z => by rw [z, h2] at h; cases h)]; exact h))
  · exact .inl (.inr ⟨o, by rw [hid_ne (fun z => by rw [z, h1] at h; cases h) (fun z => by rw [z, h2] at h; cases h)]; exact h⟩)
  · exact .inr h
mutual
theorem dp_hid (S : Src H D C) : ∀ {v : V} {d : PyData}, noL d = true → Dp K H v d → Dp K (hid D C H) v d
  | _, _, _, .non => .non
  | _, _, _, .bl b => .bl b
  | _, _, _, .int i => .int i
  | _, _, _, .str x => .str x
  | _, _, h, .lst s a => by simp [noL] at h
  | _, _, h, .tup s a => .tup (st_hid S s) (dps_hid S (by simpa [noL] using h) a)
theorem dps_hid (S : Src H D C) : ∀ {vs : List V} {ds : List PyData}, noLs ds = true → DpAll K H vs ds → DpAll K (hid D C H) vs ds
  | _, _, _, .nil => .nil
  | _, _, h, .cons a b => .cons (dp_hid S (by rw [noLs, Bool.and_eq_true] at h; exact h.1) a) (dps_hid S (by rw [noLs, Bool.and_eq_true] at h; exact h.2) b)
end
theorem sv_hid (S : Src H D C) : ∀ {s : So} {v : V}, Sv K H v s → Sv K (hid D C H) v s
  | .mark ls, v, ⟨a, b, o, e, h1, h2, h3⟩ => by
    refine ⟨a, b, o, e, st_hid S h1, ?_, h3⟩
    obtain ⟨l, m, t, cells, k1, k2⟩ := S
    rw [hid_ne (fun z => by rw [z, k1] at h2; cases h2) (fun z => by rw [z, k2] at h2; cases h2)]
    exact h2
  | .count, v, ⟨a, e, h1⟩ => ⟨a, e, st_hid S h1⟩
  | .both x y, v, ⟨a, u, w, e, h1, h2, h3⟩ => ⟨a, u, w, e, st_hid S h1, sv_hid S h2, sv_hid S h3⟩
  | .either x y, v, ⟨a, u, w, e, h1, h2, h3⟩ => ⟨a, u, w, e, st_hid S h1, sv_hid S h2, sv_hid S h3⟩
  | .lane x, v, ⟨a, u, e, h1, h2⟩ => ⟨a, u, e, st_hid S h1, sv_hid S h2⟩
  | .heap x, v, ⟨a, u, e, h1, h2⟩ => ⟨a, u, e, st_hid S h1, sv_hid S h2⟩
theorem dq_hid (S : Src H D C) {v : V} : ∀ {d : De}, nlD d = true → Dq K H v d → Dq K (hid D C H) v d
  | .s _, _, h => sv_hid S h
  | .d x, n, h => by
    have n : noL x = true := n
    have h := dp_hid S n h.dp
    exact .of h fun y z => by rw [z] at n; cases n
theorem dqa_hid (S : Src H D C) {us : List V} {ds : List De} (n : ∀ d ∈ ds, nlD d = true) (h : DqA K H us ds) : DqA K (hid D C H) us ds := by
  induction h with
  | nil => exact .nil
  | cons a b ih => exact .cons (dq_hid S (n _ List.mem_cons_self) a) (ih fun d hd => n d (List.mem_cons_of_mem _ hd))
/-- a list made later than the source -/
theorem lst_hid (S : Src H D C) {p : Addr} {xs : List V} {ds : List PyData} (hp : H p = some (.lst xs)) (np : p ≠ C) (hd : DpAll K H xs ds) (n : noLs ds = true) : Dq K (hid D C H) (.ref p) (.list ds) := by
  refine .lst (a := p) (xs := xs) ?_ (dps_hid S n hd)
  obtain ⟨l, m, t, cells, k1, k2⟩ := S
  rw [hid_ne (fun z => by rw [z, k1] at hp; cases hp) np]
  exact hp
theorem Src.nw (S : Src H D C) {p : Addr} (n : Nw H p) : p ≠ C := by
  obtain ⟨l, m, t, cells, k1, k2⟩ := S
  exact Ne.symm (n.ne k2 fun _ z => nomatch z)
end
/-- promises of defs that take the source ahead of all -/
def spS (T : Tb) (K : PySem.W.Frag) (R : List De → (De → Prop) → Prop) : Sp := fun vs H Q _ => LamX.Tabs T H ∧ ∃ D C us ds P, vs = .ref D :: us ∧ Src H D C ∧ DqA K (hid D C H) us ds ∧ R ds P ∧ ∀ v d H', Gr T (hid D C H) H' → Src H' D C → Dq K (hid D C H') v d → P d → Q v H'
/-- a reading that may write the source -/
def EvQ (K : PySem.W.Frag) (T : Tb) (D C : Addr) (te : TE) (σ : L2.St) (B : Hp) (P : De → Prop) : Prop := ∀ H1, Gr T B H1 → Src H1 D C → ∀ Q : VK, (∀ v d H2, Gr T B H2 → Gr T (hid D C H1) H2 → Src H2 D C → Dq K (hid D C H2) v d → P d → Q v H2) → te σ H1 Q
section
variable {K : PySem.W.Frag} {T : Tb} {H H1 B : Hp} {D C : Addr} {σ : L2.St} {te ta : TE} {tA : TA} {ds : List De} {d : De} {P : De → Prop} {R : List De → (De → Prop) → Prop} {i : Nat} {E : XK}
theorem eq_callQ (hD : B D = none) (hC : B C = none) (hσ : σ[i]? = some (some (.ref D))) (ha : EvA K T tA σ B ds) (n : ∀ d ∈ ds, nlD d = true) (hR : R ds P) : EvQ K T D C (tCall (spS T K R) [] E (tCons (tVar i) tA)) σ B P := fun H1 g S Q q =>
  ⟨_, hσ, ha H1 g _ fun us H2 g2 hus => by
    show spS T K R ((.ref D :: us) ++ []) H2 Q E
    rw [List.append_nil]
    have S2 := S.stay g2
    refine ⟨g2.tab, D, C, us, ds, P, rfl, S2, dqa_hid S2 n hus, hR, fun v d H3 g3 S3 hv p => q v d H3 ?_ ?_ S3 hv p⟩
    · exact ⟨(base_hid hD hC (g.trans g2).ext).trans g3.ext, g3.tab⟩
    · exact ⟨(hid_ext g2.ext).trans g3.ext, g3.tab⟩⟩
/-- a reading that writes nothing -/
theorem eq_ofD (hD : B D = none) (hC : B C = none) (h : EvP K T te σ B P) (n : ∀ d, P d → nlD d = true) : EvQ K T D C te σ B P := fun H1 g S Q q =>
  h H1 g _ fun v d H2 g2 hv p => q v d H2 (g.trans g2) ⟨hid_sub.trans g2.ext, g2.tab⟩ (S.stay g2) (dq_hid (S.stay g2) (n d p) hv) p
theorem ed_dget {x : Str} {kvs : List (Key × V)} {n : Int} (hσ : σ[i]? = some (some (.ref D))) (hH : H D = some (.dK kvs)) (hv : valV kvs (.inr x) = some (.int n)) : EvD K T (tDGet (tVar i) (tC (.str x))) σ H (.int n) := .of fun H1 g Q q =>
  ⟨_, hσ, D, .int n, rfl, by
    have z := DGet.k (k := (.inr x : Key)) (g.stay hH (by trivial : Pl (.dK kvs)))
    rw [hv] at z
    exact z, q _ H1 g.self .int⟩
/-- an object that is no table is written: by one of its own kind, where the base lacks it -/
theorem Gr.wr {T : Tb} {o : HO} (g : Gr T B H) {p : Addr} (hp : B p = none) {o0 : HO} (h : H p = some o0) (h0 : Pl o0) : Gr T B (upd H p o) := g.mut (.none hp) h h0
end
end K16

end K16YText
section K16R24Text
set_option autoImplicit false
set_option linter.all false
set_option maxRecDepth 100000
set_option Elab.async false
set_option pp.maxSteps 700
set_option pp.deepTerms false
set_option pp.deepTerms.threshold 4
namespace K16
open PySem PySem.Spec PyProof.Rows L2
abbrev sLawOpenCells : Stmt := topS 38
abbrev nLawOpenCells : List Str := ["_law_script", "_law_mixed", "_law_cell", "_law_cells"]
theorem scLawOpenCells : FnScope nLawOpenCells ["_law_script"] (defScope sLawOpenCells) := ⟨rfl, rfl, rfl, by decide +kernel, rfl, by decide +kernel, by decide +kernel⟩
abbrev sLawPick : Stmt := topS 39
abbrev nLawPick : List Str := ["_law_source", "_law_many", "_law_cells", "_law_left", "_law_turn", "_law_mixed"]
theorem scLawPick : FnScope nLawPick ["_law_source", "_law_many"] (defScope sLawPick) := ⟨rfl, rfl, rfl, by decide +kernel, rfl, by decide +kernel, by decide +kernel⟩
def spOpen (T : Tb) (K : PySem.W.Frag) : Sp := fun vs H Q _ => LamX.Tabs T H ∧ ∃ (p : Addr) (ns : List Int), vs = [.ref p] ∧ SqL K H p (ns.map V.int) ∧ ns.length ≤ 1000 ∧ ∀ D C H', Gr T H H' → Src H' D C → Q (.ref D) H'
def RPick (ds : List De) (P : De → Prop) : Prop := ∃ m : Nat, ds = [.int ((m : Nat) : Int)] ∧ m < 1000000 ∧ P = fun r => ∃ n : Nat, r = .int ((n : Nat) : Int) ∧ n < max m 1
section
variable {K : PySem.W.Frag} {T : Tb} {H H1 B : Hp} {σ : L2.St} {te ta tb : TE}
theorem ed_intI {n : Int} (h : EvD K T te σ H (.int n)) : EvD K T (tCB (fun xs H Q => (∃ i, xs = [V.int i] ∧ Q (.int i) H) ∨ ∃ k, xs = [V.bl k] ∧ Q (.int (if k then 1 else 0)) H) (tCons te tNil)) σ H (.int n) := .of fun H1 g Q q => h.run g fun v H2 g2 hv => by
  obtain rfl := dq_int hv
  exact .inl ⟨n, rfl, q _ H2 g2 .int⟩
theorem ed_abs {n : Int} (h : EvD K T te σ H (.int n)) : EvD K T (tCB (fun xs H Q => ∃ i, xs = [V.int i] ∧ Q (.int (if i < 0 then -i else i)) H) (tCons te tNil)) σ H (.int (if n < 0 then -n else n)) := .of fun H1 g Q q => h.run g fun v H2 g2 hv => by
  obtain rfl := dq_int hv
  exact ⟨n, rfl, q _ H2 g2 .int⟩
theorem s_dput {D : Ends} {td ty tv : TE} (h : tv σ H fun v H1 => td σ H1 fun x H2 => ty σ H2 fun y H3 => ∃ a H4, x = .ref a ∧ DPut H3 a y v H4 ∧ D.nx σ H4) : sDPut td ty tv D σ H := h
theorem mulR {a b : Int} (h : -(2 ^ 64) < b ∧ b < 2 ^ 64) : CMul a b := .inr h
end
section
variable {P : Program} {w : World} {K : PySem.W.Frag} {mg : Str → Option Value} {base : Heap} {T : Tb} {aS : Addr}
theorem hasOpenCells (D : DefOk K mg "_law_open_cells" sLawOpenCells ["_law_script"]) (M : Bi mg) : Has P w K mg base 1 "_law_open_cells" ["_law_script"] (spOpen T K) := by
  have nd := scLawOpenCells.nd
  refine D.has scLawOpenCells (fun vs H Q E h => ?_) fun f cdv A outer s H E vs Q hr hsp => ?_
  · obtain ⟨_, p, ns, rfl, _⟩ := h
    rfl
  obtain ⟨hT, p, ns, rfl, hp, hl, q⟩ := hsp
  refine ⟨_, (pss_cons (ps_set (i := 1) nd rfl (Or.inl rfl) pe_int)
    (pss_cons (ps_for PassesOwn.never rfl (pi_list (pv 0)) (pg_name (i := 2) nd rfl (Or.inl rfl)) (pss_one (ps_set (i := 1) nd rfl (Or.inl rfl) (pe_op op_mod (pe_callTy call_int1 rfl (M.int) (by decide +kernel) (pa_cons (pe_op op_add (pe_op op_add (pe_op op_mul (pv 1) pe_int) (pe_op op_mul (pv 2) pe_int)) pe_int) pa_nil)) pe_int))))
    (pss_cons (ps_setLc (i := 3) (own := [("_law_cell", 2)]) rfl nd rfl rfl (sw_true rfl rfl rfl (by decide +kernel)) (pi_list (pv 0)) (blkOk_by (N := nLawOpenCells) (sc := (defScope sLawOpenCells)) (by decide +kernel)) (fun _ _ _ _ _ => (pg_name (i := 2) nd rfl (Or.inl rfl))) (fun _ _ _ _ _ => pts_nil) (fun _ _ _ _ _ => (pe_callB call_abs rfl (M.abs) (by decide +kernel) (pa_cons (pv 2) pa_nil))))
    (pss_one (ps_ret (pe_disp (pps_cons pe_str (pe_revL (pv 3)) (pps_cons pe_str pe_int (pps_cons pe_str (pv 1) (pps_cons pe_str pe_int pps_nil)))) rfl rfl (by simp) (by decide))))))), ?_⟩
  refine s_seq (s_asg ?_)
  refine s_seq ⟨.ref p, rfl, p, rfl, ⟨_, hp⟩, for_list (xs := ns.map V.int) (fun k σ H' => ∃ (m : Int) (o2 o3 : Option V), σ = [some (.ref p), some (.int m), o2, o3] ∧ Gr T H H') ?_ ?_ ?_ ?_⟩
  · exact ⟨11, none, none, rfl, .refl hT⟩
  · rintro i σ H' _ ⟨_, _, _, _, g⟩
    exact sq_ext g.ext hp
  · rintro i y σ H' hy ⟨m, o2, o3, rfl, g⟩
    obtain ⟨n, rfl⟩ : ∃ n, y = V.int n := by
      rw [List.getElem?_map] at hy
      cases e : ns[i]? with
      | none => rw [e] at hy; cases hy
      | some n => rw [e] at hy; exact ⟨n, (Option.some.inj hy).symm⟩
    refine s_asg ?_
    refine (EvD.run (K := K) (T := T) (H := H') (σ := [some (.ref p), some (.int m), some (.int n), o3]) (d := .int (((m * 69069 + n * 31) + 5) % 2147483629)) ?_ (.refl g.tab) fun v H2 g2 hv => ?_)
    · exact ed_I (ed_intI (ed_I0 (a := m * 69069 + n * 31) (ed_I0 (a := m * 69069) (b := n * 31) (ed_I (a := m) (b := 69069) (ed_var rfl .int) ed_int (mulR (by decide)) fun _ => .int) (ed_I (a := n) (b := 31) (ed_var rfl .int) ed_int (mulR (by decide)) fun _ => .int) fun _ => .int) (ed_int (n := 5)) fun _ => .int)) (ed_int (n := 2147483629)) (by decide) fun _ => .int
    · obtain rfl := dq_int hv
      exact ⟨_, _, _, rfl, g.trans g2⟩
  · rintro σ H' ⟨m, o2, o3, rfl, g⟩
    have hp' := sq_ext g.ext hp
    dsimp only
    have comp : EvLs K T (tLc (iList K (tVar 0)) (gName 2) tYes (tCB (fun xs H Q => ∃ i, xs = [V.int i] ∧ Q (.int (if i < 0 then -i else i)) H) (tCons (tVar 2) tNil)) [2]) [some (.ref p), some (.int m), o2, o3] H' ((ns.filter fun _ => true).map fun n => .int (if n < 0 then -n else n)) := by
      refine el_lcW ns PyData.int (fun _ => true) _ (ew_var rfl (.lst hp' ?_)) (by omega) (by intro _; rfl) (fun _ _ _ _ _ _ _ => eb_yes) fun i n hn _ v H1 g1 hv => EvD.e (ed_abs (ed_var rfl (by cases hv; exact .int))) rfl
      have h : ∀ l : List Int, DpAll K H' (l.map V.int) (l.map PyData.int) := by
        intro l
        induction l with
        | nil => exact .nil
        | cons x l ih => exact .cons (.int _) ih
      exact h ns
    refine s_seq (s_asg (comp.toL.run (.refl g.tab) fun L ls H2 nL g2 hL dL => ?_))
    have eL : ls = (ns.map fun n => if n < 0 then -n else n).map V.int := by
      rw [List.filter_eq_self.mpr fun _ _ => rfl] at dL
      refine dps_ints (K := K) (H := H2) ?_
      rw [List.map_map]
      exact dL
    subst eL
    dsimp only
    refine s_ret fun d hd => ?_
    have g3 : Gr T H2 (upd H2 d (.dK [])) := .new g2.tab hd
    have hL3 := g3.stay hL True.intro
    refine ⟨.ref L, rfl, L, _, rfl, .of hL3, fun c hc => ?_⟩
    have g4 := g3.add (o := .lst ((ns.map fun n => if n < 0 then -n else n).map V.int).reverse) hc
    have ndc : d ≠ c := ne_of_none (upd_same (a := d) (H := H2) (o := .dK [])) hc
    have hd4 : upd (upd H2 d (.dK [])) c (.lst ((ns.map fun n => if n < 0 then -n else n).map V.int).reverse) d = some (.dK []) := by rw [upd_ne ndc]; exact upd_same
    refine ⟨_, rfl, ?_⟩
    refine ⟨hd4, [(.inr "cells", .ref c), (.inr "left", .int 1), (.inr "mixed", .int m), (.inr "turn", .int 0)], rfl, by simp, ?_⟩
    refine q d c _ ((g.trans g2).trans (g4.mut (.none hd) hd4 True.intro)) ⟨1, m, 0, ((ns.map fun n => if n < 0 then -n else n)).reverse, upd_same, ?_⟩
    rw [upd_ne (Ne.symm ndc), upd_same, List.map_reverse]
theorem hasPick (D : DefOk K mg "_law_pick" sLawPick ["_law_source", "_law_many"]) (M : Bi mg) : Has P w K mg base 1 "_law_pick" ["_law_source", "_law_many"] (spS T K RPick) := by
  have nd := scLawPick.nd
  refine D.has scLawPick (fun vs H Q E h => ?_) fun f cdv A outer s H E vs Q hr hsp => ?_
  · obtain ⟨_, D, C, us, ds, Pd, rfl, _, hus, ⟨m, rfl, _⟩, _⟩ := h
    obtain ⟨x, rfl, _⟩ := dqa1 hus
    rfl
  obtain ⟨hT, D, C, us, ds, Pd, rfl, S, hus, ⟨m, rfl, hm, rfl⟩, q⟩ := hsp
  obtain ⟨v1, rfl, h1⟩ := dqa1 hus
  obtain rfl := dq_int h1
  have hu0 : (cxOf CX0 P w K mg base nLawPick "_law_pick" (defScope sLawPick) f cdv A outer s H E).nox.A.units + 64 < cLine := hr.units
  have hu : (cxOf CX0 P w K mg base nLawPick "_law_pick" (defScope sLawPick) f cdv A outer s H E).nox.A.units + 1 < cLine := Nat.lt_of_le_of_lt (Nat.add_le_add_left (by decide : 1 ≤ 64) _) hu0
  refine ⟨_, (pss_cons (ps_if (pt_cmpR op_lt (pv 1) pe_int (nomark _)) (pss_one (ps_ret pe_int)) pss_nil)
    (pss_cons (ps_set (i := 2) nd rfl (Or.inl rfl) (pe_dget hu (pv 0) pe_str (fun _ _ => rfl)))
    (pss_cons (ps_while PassesOwn.never (PW.pt (pw_and (pt_cmpR op_lt (pe_dget hu (pv 0) pe_str (fun _ _ => rfl)) pe_int (nomark _)) (pw_and1 (pt_cmpR op_gt (pe_callB call_len_seq rfl (M.len) PySem.boot_len (pa_cons (pv 2) pa_nil)) pe_int (nomark _))))) (pss_one (ps_dput hu (pv 0) pe_str (pe_bm0 PySem.F.plainAttrs_list PySem.F.slot_list_pop PySem.F.type_list_pop mt_pop (pv 2)) rfl)))
    (pss_cons (ps_set (i := 3) nd rfl (Or.inl rfl) (pe_dget hu (pv 0) pe_str (fun _ _ => rfl)))
    (pss_cons (ps_if (pt_cmpR op_gt (pv 3) pe_int (nomark _)) (pss_cons (ps_dput hu (pv 0) pe_str (pe_op op_fdiv (pv 3) (pv 1)) rfl)
    (pss_one (ps_ret (pe_op op_mod (pe_callTy call_int1 rfl (M.int) (by decide +kernel) (pa_cons (pv 3) pa_nil)) (pv 1))))) pss_nil)
    (pss_cons (ps_dput hu (pv 0) pe_str (pe_op op_add (pe_dget hu (pv 0) pe_str (fun _ _ => rfl)) pe_int) rfl)
    (pss_cons (ps_set (i := 4) nd rfl (Or.inl rfl) (pe_dget hu (pv 0) pe_str (fun _ _ => rfl)))
    (pss_cons (ps_set (i := 5) nd rfl (Or.inl rfl) (pe_op op_mod (pe_callTy call_int1 rfl (M.int) (by decide +kernel) (pa_cons (pe_op op_add (pe_dget hu (pv 0) pe_str (fun _ _ => rfl)) (pe_op op_mul (pv 4) pe_int)) pa_nil)) pe_int))
    (pss_cons (ps_set (i := 5) nd rfl (Or.inl rfl) (pe_op op_mod (pe_callTy call_int1 rfl (M.int) (by decide +kernel) (pa_cons (pe_op op_add (pe_op op_mul (pv 5) (pv 5)) (pe_op op_mul (pv 4) pe_int)) pa_nil)) pe_int))
    (pss_one (ps_ret (pe_op op_mod (pe_callTy call_int1 rfl (M.int) (by decide +kernel) (pa_cons (pe_op op_fdiv (pv 5) pe_int) pa_nil)) (pv 1))))))))))))), ?_⟩
  have fin : ∀ (n : Nat) H', Gr T (hid D C H) H' → Src H' D C → n < max m 1 → Q (.int ((n : Nat) : Int)) H' := fun n H' g S' hn => q _ (.int ((n : Nat) : Int)) H' g S' .int ⟨n, rfl, hn⟩
  have finI : ∀ (x : Int) H', Gr T (hid D C H) H' → Src H' D C → 1 < m → Q (.int (x % ((m : Nat) : Int))) H' := fun x H' g S' hm1 => by
    have p1 := Int.emod_nonneg x (show ((m : Nat) : Int) ≠ 0 by omega)
    have p2 := Int.emod_lt_of_pos x (show 0 < ((m : Nat) : Int) by omega)
    obtain ⟨n, e⟩ := Int.eq_ofNat_of_zero_le p1
    rw [e]
    exact fin n H' g S' (by omega)
  have gr0 : Gr T (hid D C H) H := hid_tab hT
  refine s_seq (s_ifB (b := decide (((m : Nat) : Int) < 2)) (eb_test (K := K) (ed_I0 (ed_var rfl .int) (ed_int (n := 2)) fun _ => .bl)) (.refl hT) fun H1 g1 => ?_)
  by_cases c : m < 2
  · rw [if_pos (by simp; omega)]
    exact s_ret (fin 0 H1 (gr0.trans g1) (S.stay g1) (by omega))
  rw [if_neg (by simp; omega)]
  dsimp only [tNext]
  have gr1 := gr0.trans g1
  obtain ⟨l0, m0, t0, cells0, hD, hC⟩ := S.stay g1
  have nDC := (S.stay g1).ne
  refine s_seq (s_asg ⟨_, rfl, D, .ref C, rfl, by rw [← src_cells C l0 m0 t0]; exact DGet.k (k := (.inr "cells" : Key)) hD, ?_⟩)
  dsimp only
  -- the loop
  refine s_seq (s_while (T := T) (fun k σ H' => ∃ (l : Int) (cells : List Int), σ = [some (.ref D), some (.int ((m : Nat) : Int)), some (.ref C), none, none, none] ∧ k = cells.length ∧ H' D = some (.dK (srcK C l m0 t0)) ∧ H' C = some (.lst (cells.map V.int)) ∧ Gr T (hid D C H) H') (fun σ H' => ∃ (l : Int) (cells : List Int), σ = [some (.ref D), some (.int ((m : Nat) : Int)), some (.ref C), none, none, none] ∧ H' D = some (.dK (srcK C l m0 t0)) ∧ H' C = some (.lst (cells.map V.int)) ∧ Gr T (hid D C H) H') cells0.length ⟨l0, cells0, rfl, rfl, hD, hC, gr1⟩ (fun _ _ _ ⟨_, _, _, _, _, _, g⟩ => g.tab) ?_ ?_)
  · rintro k σ H2 ⟨l, cells, rfl, rfl, hD2, hC2, g2⟩
    have dC : DpAll K H2 (cells.map V.int) (cells.map PyData.int) := by
      have h : ∀ l : List Int, DpAll K H2 (l.map V.int) (l.map PyData.int) := by
        intro l
        induction l with
        | nil => exact .nil
        | cons x l ih => exact .cons (.int _) ih
      exact h cells
    have ln := ed_lenL (T := T) (ed_var (T := T) (K := K) (σ := [some (.ref D), some (.int ((m : Nat) : Int)), some (.ref C), none, none, none]) (i := 2) rfl (Dq.lst hC2 dC))
    rw [List.length_map] at ln
    have tst : EvB T (tAnd (tTest (tOp (rI0 fun i j => .bl (decide (i < j))) (tDGet (tVar 0) (tC (.str "left"))) (tC (.int 2)))) (tTest (tOp (rI0 fun i j => .bl (decide (j < i))) (tCB (fun xs H Q => ∃ p n, xs = [V.ref p] ∧ ((SqL K H p n) ∨ SqT K H p n) ∧ Q (.int n.length) H) (tCons (tVar 2) tNil)) (tC (.int 0))))) [some (.ref D), some (.int ((m : Nat) : Int)), some (.ref C), none, none, none] H2 (decide (l < 2) && decide ((0 : Int) < ((cells.length : Nat) : Int))) :=
      eb_and (eb_test (K := K) (ed_I0 (ed_dget rfl hD2 (src_left C l m0 t0)) (ed_int (n := 2)) fun _ => .bl)) fun _ => eb_test (K := K) (ed_I0 ln (ed_int (n := 0)) fun _ => .bl)
    by_cases cc : l < 2 ∧ 0 < cells.length
    · refine .inl ⟨tst.is (by simp; omega), fun H3 g3 D' hn => ?_⟩
      have hD3 := g3.stay hD2 True.intro
      have hC3 := g3.stay hC2 True.intro
      obtain ⟨z, hz⟩ : ∃ z, cells[cells.length - 1]? = some z := ⟨_, List.getElem?_eq_getElem (by omega)⟩
      refine ⟨.ref C, rfl, .inl ⟨rfl, _, .of hC3⟩, C, cells.map V.int, .int z, rfl, rfl, hC3, by rw [List.length_map, List.getElem?_map, hz]; rfl, ?_⟩
      have hD4 : upd H3 C (.lst (cells.map V.int).dropLast) D = some (.dK (srcK C l m0 t0)) := by rw [upd_ne nDC]; exact hD3
      refine ⟨_, rfl, D, _, rfl, .k (k := .inr "left") hD4 (by show 4 < sizeLine; rw [sizeLine_eq]; omega), ?_⟩
      rw [src_putL]
      refine hn (cells.dropLast.length) _ _ (by rw [List.length_dropLast]; omega) ⟨z, cells.dropLast, rfl, rfl, upd_same, ?_, ?_⟩
      · rw [upd_ne (Ne.symm nDC), upd_same, List.map_dropLast]
      · exact ((g2.trans g3).wr hid_C hC3 True.intro).wr hid_D hD4 True.intro
    · have e0 : (decide (l < 2) && decide ((0 : Int) < ((cells.length : Nat) : Int))) = false := by
        cases hb : (decide (l < 2) && decide ((0 : Int) < ((cells.length : Nat) : Int))) with
        | false => rfl
        | true =>
          rw [Bool.and_eq_true] at hb
          have h1 := of_decide_eq_true hb.1
          have h2 := of_decide_eq_true hb.2
          exact absurd ⟨h1, by omega⟩ cc
      exact .inr ⟨tst.is e0, fun H3 g3 => ⟨l, cells, rfl, g3.stay hD2 True.intro, g3.stay hC2 True.intro, g2.trans g3⟩⟩
  · rintro σ H2 ⟨l, cells, rfl, hD2, hC2, g2⟩
    dsimp only
    refine s_seq (s_asg ((ed_dget (K := K) (T := T) (H := H2) (σ := [some (.ref D), some (.int ((m : Nat) : Int)), some (.ref C), none, none, none]) (i := 0) rfl hD2 (src_left C l m0 t0)).run (.refl g2.tab) fun lv H3 g3 hlv => ?_))
    obtain rfl := dq_int hlv
    have hD3 := g3.stay hD2 True.intro
    have hC3 := g3.stay hC2 True.intro
    have g23 := g2.trans g3
    dsimp only
    refine s_seq (s_ifB (b := decide ((1 : Int) < l)) (eb_test (K := K) (ed_I0 (H := H3) (ed_var (i := 3) rfl .int) (ed_int (n := 1)) fun _ => .bl)) (.refl g3.tab) fun H4 g4 => ?_)
    have hD4 := g4.stay hD3 True.intro
    have hC4 := g4.stay hC3 True.intro
    have g24 := g23.trans g4
    by_cases c1 : (1 : Int) < l
    · rw [if_pos (by simp; omega)]
      refine s_seq ⟨_, rfl, .int ((m : Nat) : Int), rfl, l, ((m : Nat) : Int), rfl, rfl, ⟨by omega, by omega⟩, _, rfl, D, _, rfl, .k (k := .inr "left") hD4 (by show 4 < sizeLine; rw [sizeLine_eq]; omega), ?_⟩
      rw [src_putL]
      have g5 := g24.wr (o := .dK (srcK C (l / ((m : Nat) : Int)) m0 t0)) hid_D hD4 True.intro
      dsimp only
      refine s_ret ?_
      refine ⟨_, rfl, .inl ⟨l, rfl, _, rfl, l, ((m : Nat) : Int), rfl, rfl, by omega, ?_⟩⟩
      exact finI l _ g5 ⟨_, _, _, cells, upd_same, by rw [upd_ne (Ne.symm nDC)]; exact hC4⟩ (by omega)
    · rw [if_neg (by simp; omega)]
      dsimp only [tNext]
      refine s_seq (s_dput ((ed_I0 (K := K) (T := T) (H := H4) (σ := [some (.ref D), some (.int ((m : Nat) : Int)), some (.ref C), some (.int l), none, none]) (a := t0) (d := .int (t0 + 1)) (ed_dget (i := 0) rfl hD4 (src_turn C l m0 t0)) (ed_int (n := 1)) fun _ => .int).run (.refl g4.tab) fun tv H5 g5 htv => ?_))
      obtain rfl := dq_int htv
      have hD5 := g5.stay hD4 True.intro
      have hC5 := g5.stay hC4 True.intro
      refine ⟨_, rfl, D, _, rfl, .k (k := .inr "turn") hD5 (by show 4 < sizeLine; rw [sizeLine_eq]; omega), ?_⟩
      rw [src_putT]
      have g6 := (g24.trans g5).wr (o := .dK (srcK C l m0 (t0 + 1))) hid_D hD5 True.intro
      have hD6 : upd H5 D (.dK (srcK C l m0 (t0 + 1))) D = some (.dK (srcK C l m0 (t0 + 1))) := upd_same
      have hC6 : upd H5 D (.dK (srcK C l m0 (t0 + 1))) C = some (.lst (cells.map V.int)) := by rw [upd_ne (Ne.symm nDC)]; exact hC5
      generalize upd H5 D (.dK (srcK C l m0 (t0 + 1))) = H6 at g6 hD6 hC6 ⊢
      dsimp only
      refine s_seq (s_asg ((ed_dget (K := K) (T := T) (H := H6) (σ := [some (.ref D), some (.int ((m : Nat) : Int)), some (.ref C), some (.int l), none, none]) (i := 0) rfl hD6 (src_turn C l m0 (t0 + 1))).run (.refl g6.tab) fun lv H7 g7 hlv => ?_))
      obtain rfl := dq_int hlv
      have hD7 := g7.stay hD6 True.intro
      have g67 := g6.trans g7
      dsimp only
      refine s_seq (s_asg ((EvD.run (K := K) (T := T) (H := H7) (σ := [some (.ref D), some (.int ((m : Nat) : Int)), some (.ref C), some (.int l), some (.int (t0 + 1)), none]) (d := .int ((m0 + (t0 + 1) * 104729) % 998244353)) (ed_I (ed_intI (ed_I0 (a := m0) (b := (t0 + 1) * 104729) (ed_dget (i := 0) rfl hD7 (src_mixed C l m0 (t0 + 1))) (ed_I (a := t0 + 1) (b := 104729) (ed_var (i := 4) rfl .int) ed_int (mulR (by decide)) fun _ => .int) fun _ => .int)) (ed_int (n := 998244353)) (by decide) fun _ => .int) (.refl g67.tab) fun lv H8 g8 hlv => ?_)))
      obtain rfl := dq_int hlv
      have p1 := Int.emod_nonneg (m0 + (t0 + 1) * 104729) (show (998244353 : Int) ≠ 0 by decide)
      have p2 := Int.emod_lt_of_pos (m0 + (t0 + 1) * 104729) (show (0 : Int) < 998244353 by decide)
      generalize (m0 + (t0 + 1) * 104729) % 998244353 = y at p1 p2 ⊢
      have g68 := g67.trans g8
      dsimp only
      refine s_seq (s_asg ((EvD.run (K := K) (T := T) (H := H8) (σ := [some (.ref D), some (.int ((m : Nat) : Int)), some (.ref C), some (.int l), some (.int (t0 + 1)), some (.int y)]) (d := .int ((y * y + (t0 + 1) * 17) % 2147483647)) (ed_I (ed_intI (ed_I0 (a := y * y) (b := (t0 + 1) * 17) (ed_I (a := y) (b := y) (ed_var (i := 5) rfl .int) (ed_var (i := 5) rfl .int) (.inl ⟨by omega, by omega⟩) fun _ => .int) (ed_I (a := t0 + 1) (b := 17) (ed_var (i := 4) rfl .int) ed_int (mulR (by decide)) fun _ => .int) fun _ => .int)) (ed_int (n := 2147483647)) (by decide) fun _ => .int) (.refl g68.tab) fun lv H9 g9 hlv => ?_)))
      obtain rfl := dq_int hlv
      have g69 := g68.trans g9
      dsimp only
      refine s_ret ((EvD.run (K := K) (T := T) (H := H9) (σ := [some (.ref D), some (.int ((m : Nat) : Int)), some (.ref C), some (.int l), some (.int (t0 + 1)), some (.int ((y * y + (t0 + 1) * 17) % 2147483647))]) (d := .int (((y * y + (t0 + 1) * 17) % 2147483647 / 16) % ((m : Nat) : Int))) (ed_I (ed_intI (ed_I (a := (y * y + (t0 + 1) * 17) % 2147483647) (b := 16) (ed_var (i := 5) rfl .int) ed_int ⟨by decide, by decide⟩ fun _ => .int)) (ed_var (i := 1) rfl .int) (by omega) fun _ => .int) (.refl g69.tab) fun lv H10 g10 hlv => ?_))
      obtain rfl := dq_int hlv
      exact finI _ H10 (g69.trans g10) ⟨l, m0, t0 + 1, cells, ((g7.trans g8).trans (g9.trans g10)).stay hD6 True.intro, ((g7.trans g8).trans (g9.trans g10)).stay hC6 True.intro⟩ (by omega)
end
end K16

end K16R24Text
section K16R25Text
set_option autoImplicit false
set_option linter.all false
set_option maxRecDepth 100000
set_option Elab.async false
set_option pp.maxSteps 700
set_option pp.deepTerms false
set_option pp.deepTerms.threshold 4
namespace K16
open PySem PySem.Spec PyProof.Rows L2
abbrev sLawMuch : Stmt := topS 52
abbrev nLawMuch : List Str := ["_law_sort"]
theorem scLawMuch : FnScope nLawMuch ["_law_sort"] (defScope sLawMuch) := ⟨rfl, rfl, rfl, by decide +kernel, rfl, by decide +kernel, by decide +kernel⟩
abbrev sLawDrawSort : Stmt := topS 45
abbrev nLawDrawSort : List Str := ["_law_source", "_law_mark", "_law_count", "_law_lane", "_law_heap", "_law_some_here"]
theorem scLawDrawSort : FnScope nLawDrawSort ["_law_source"] (defScope sLawDrawSort) := ⟨rfl, rfl, rfl, by decide +kernel, rfl, by decide +kernel, by decide +kernel⟩
/-! a tuple, known to its object -/
def tTupF (t : TA) : TE := fun σ H Q => t σ H fun xs H1 => xs.length ≤ sizeLine ∧ ∀ p o, H1 p = none → o.dict = none → Q (.ref p) (upd H1 p (.frz o (.tup xs)))
theorem pe_tupF {X : Cx} {es : List Expr} {t : TA} {x1 : Nat} {pos : Pos} (h : PA X es t) : PE X (.Tuple es x1 pos) (tTupF t) := by
  refine ⟨fun pins s σ H Q I hq => ?_⟩
  refine wpAny_Tuple_spliced (thn (h.run pos pins s σ H _ I hq) fun us s1 ⟨xs, H1, I1, r, z, q⟩ => ⟨by rw [← r.length]; exact z, ?_⟩)
  have hf : H1 s1.heap.objs.size = none := I1.hok.fresh (Nat.le_refl _)
  refine ⟨.ref s1.heap.objs.size, upd H1 s1.heap.objs.size (.frz { cls := .type "tuple", data := .seq us.toArray } (.tup xs)), I1.laid (t' := s1.toks) (fun b u e => Heap.get?_push_of_some _ e) (Nat.le_refl _) ?_, rfl, q _ _ hf rfl⟩
  exact ⟨Heap.get?_push_size _ rfl, z, us, r, ⟨_, Heap.get?_push_size _ rfl, rfl, _, rfl⟩⟩
section
variable {K : PySem.W.Frag} {T : Tb} {H H1 B : Hp} {σ : L2.St} {te ta tb : TE} {tA : TA} {D C : Addr}
theorem ed_eqD {d e : PyData} (ha : EvD K T ta σ H (.d d)) (hb : EvD K T tb σ H (.d e)) (h1 : SeqAt.shaped d = true) (h2 : SeqAt.shaped e = true) : EvD K T (tOp (rEqD K) ta tb) σ H (.bool (PyData.eqv d e)) := .of fun H1 g Q q =>
  ha.run g fun v H2 g2 hv => hb.run (g.trans g2) fun w H3 g3 hw => ⟨d, e, (dq_ext g3.ext hv).dp, hw.dp, h1, h2, q _ H3 (g2.trans g3) .bl⟩
theorem ed_neD {d e : PyData} (ha : EvD K T ta σ H (.d d)) (hb : EvD K T tb σ H (.d e)) (h1 : SeqAt.shaped d = true) (h2 : SeqAt.shaped e = true) : EvD K T (tOp (rNeD K) ta tb) σ H (.bool (!PyData.eqv d e)) := .of fun H1 g Q q =>
  ha.run g fun v H2 g2 hv => hb.run (g.trans g2) fun w H3 g3 hw => ⟨d, e, (dq_ext g3.ext hv).dp, hw.dp, h1, h2, q _ H3 (g2.trans g3) .bl⟩
theorem shaped_tags : ∀ i, i < 6 → ∀ j, j < 6 → SeqAt.shaped (.list [.str (tagN i), .str (tagN j)]) = true := by decide +kernel
/-- letters, known to their object -/
def Lt (H : Hp) (v : V) (ls : List Str) : Prop := ∃ b o, v = .ref b ∧ H b = some (.frz o (.tup (ls.map V.str))) ∧ o.dict = none
theorem Lt.ext {v : V} {ls : List Str} (e : LamX.ExtN H H1) (h : Lt H v ls) : Lt H1 v ls := by
  obtain ⟨b, o, rfl, h1, h2⟩ := h
  exact ⟨b, o, rfl, e _ _ h1 (fun _ z => nomatch z), h2⟩
def EvT (T : Tb) (te : TE) (σ : L2.St) (H : Hp) (ls : List Str) : Prop := ∀ H1, Gr T H H1 → ∀ Q : VK, (∀ v H2, Gr T H1 H2 → Lt H2 v ls → Q v H2) → te σ H1 Q
def EvTs (T : Tb) (tA : TA) (σ : L2.St) (H : Hp) (lss : List (List Str)) : Prop := ∀ H1, Gr T H H1 → ∀ Q : List V → Hp → Prop, (∀ vs H2, Gr T H1 H2 → F2 (Lt H2) vs lss → Q vs H2) → tA σ H1 Q
theorem lt_nil : EvTs T tNil σ H [] := fun H1 g Q q => q [] H1 g.self .nil
theorem lt_cons {ls : List Str} {lss : List (List Str)} (h : EvT T te σ H ls) (hr : EvTs T tA σ H lss) : EvTs T (tCons te tA) σ H (ls :: lss) := fun H1 g Q q =>
  h H1 g _ fun v H2 g2 hv => hr H2 (g.trans g2) _ fun vs H3 g3 hvs => q _ H3 (g2.trans g3) (.cons (hv.ext g3.ext) hvs)
theorem lt_tup {ls : List Str} (h : ∀ H1, Gr T H H1 → ∀ Q : List V → Hp → Prop, Q (ls.map V.str) H1 → tA σ H1 Q) (hl : ls.length ≤ 100000) : EvT T (tTupF tA) σ H ls := fun H1 g Q q =>
  h H1 g _ ⟨by rw [List.length_map]; exact Nat.le_trans hl (by decide), fun p o hp ho => q _ _ (g.self.add hp) ⟨p, o, rfl, upd_same, ho⟩⟩
/-! sorts made -/
theorem es_count (h : EvD K T ta σ H (.str "count")) : EvD K T (tTup (tCons ta tNil)) σ H (.s .count) := .of fun H1 g Q q => h.run g fun v H2 g2 hv => by
  obtain rfl := dq_str hv
  exact ⟨by show 1 ≤ sizeLine; decide, fun p hp => q _ _ (g2.add hp) ⟨p, rfl, .of upd_same⟩⟩
theorem es_lane {a : So} (h : EvD K T tb σ H (.s a)) : EvD K T (tTup (tCons (tC (.str "lane")) (tCons tb tNil))) σ H (.s (.lane a)) := .of fun H1 g Q q => h.run g fun v H2 g2 hv =>
  ⟨by show 2 ≤ sizeLine; decide, fun p hp => q _ _ (g2.add hp) ⟨p, v, rfl, .of upd_same, dq_ext (d := .s a) (Gr.new (T := T) g2.tab hp).ext hv⟩⟩
theorem es_heap {a : So} (h : EvD K T tb σ H (.s a)) : EvD K T (tTup (tCons (tC (.str "heap")) (tCons tb tNil))) σ H (.s (.heap a)) := .of fun H1 g Q q => h.run g fun v H2 g2 hv =>
  ⟨by show 2 ≤ sizeLine; decide, fun p hp => q _ _ (g2.add hp) ⟨p, v, rfl, .of upd_same, dq_ext (d := .s a) (Gr.new (T := T) g2.tab hp).ext hv⟩⟩
theorem es_both {a b : So} (h : EvD K T ta σ H (.s a)) (h2 : EvD K T tb σ H (.s b)) : EvD K T (tTup (tCons (tC (.str "both")) (tCons ta (tCons tb tNil)))) σ H (.s (.both a b)) := .of fun H1 g Q q => h.run g fun v H2 g2 hv => h2.run (g.trans g2) fun w H3 g3 hw =>
  ⟨by show 3 ≤ sizeLine; decide, fun p hp => q _ _ ((g2.trans g3).add hp) ⟨p, v, w, rfl, .of upd_same, dq_ext (d := .s a) (Gr.new (T := T) g3.tab hp).ext (dq_ext (d := .s a) g3.ext hv), dq_ext (d := .s b) (Gr.new (T := T) g3.tab hp).ext hw⟩⟩
theorem es_either {a b : So} (h : EvD K T ta σ H (.s a)) (h2 : EvD K T tb σ H (.s b)) : EvD K T (tTup (tCons (tC (.str "either")) (tCons ta (tCons tb tNil)))) σ H (.s (.either a b)) := .of fun H1 g Q q => h.run g fun v H2 g2 hv => h2.run (g.trans g2) fun w H3 g3 hw =>
  ⟨by show 3 ≤ sizeLine; decide, fun p hp => q _ _ ((g2.trans g3).add hp) ⟨p, v, w, rfl, .of upd_same, dq_ext (d := .s a) (Gr.new (T := T) g3.tab hp).ext (dq_ext (d := .s a) g3.ext hv), dq_ext (d := .s b) (Gr.new (T := T) g3.tab hp).ext hw⟩⟩
/-- lists of sorts -/
def LsS (K : PySem.W.Frag) (H : Hp) (v : V) (ss : List So) : Prop := ∃ p xs, v = .ref p ∧ H p = some (.lst xs) ∧ DqA K H xs (ss.map De.s)
theorem LsS.ext {v : V} {ss : List So} (g : Gr T H H1) (h : LsS K H v ss) : LsS K H1 v ss := by
  obtain ⟨p, xs, rfl, h1, h2⟩ := h
  exact ⟨p, xs, rfl, g.stay h1 True.intro, dqa_ext g.ext h2⟩
def EvSs (K : PySem.W.Frag) (T : Tb) (te : TE) (σ : L2.St) (H : Hp) (ss : List So) : Prop := ∀ H1, Gr T H H1 → ∀ Q : VK, (∀ p H2, Nw H1 p → Gr T H1 H2 → LsS K H2 (.ref p) ss → Q (.ref p) H2) → te σ H1 Q
theorem ess_lst {ss : List So} (h : EvA K T tA σ H (ss.map De.s)) (hl : ss.length ≤ 1000) : EvSs K T (tLst tA) σ H ss := fun H1 g Q q =>
  h H1 g _ fun vs H2 g2 hvs => ⟨by rw [F2.length hvs, List.length_map]; exact Nat.le_trans hl (by decide), fun p hp => q p _ (g2.nn (nw_none hp)) (g2.add hp) ⟨p, vs, rfl, upd_same, dqa_ext (Gr.new (T := T) g2.tab hp).ext hvs⟩⟩
theorem ess_cat {i : Nat} {v : V} {ss st : List So} (hσ : σ[i]? = some (some v)) (hv : LsS K H v ss) (h : EvSs K T tb σ H st) (hl : ss.length + st.length ≤ 1000) : EvSs K T (tOp rCat (tVar i) tb) σ H (ss ++ st) := fun H1 g Q q => ⟨v, hσ, h H1 g _ fun p2 H2 n2 g2 hw => by
  obtain ⟨p, xs, rfl, h1, h2⟩ := (hv.ext g).ext g2
  obtain ⟨p', ys, e, k1, k2⟩ := hw
  cases e
  have l1 := F2.length h2
  have l2 := F2.length k2
  rw [List.length_map] at l1 l2
  exact ⟨p, p2, xs, ys, rfl, rfl, h1, k1, by rw [l1, l2]; exact Nat.le_trans hl (by decide), fun r hr => q r _ (g2.nn (nw_none hr)) (g2.add hr) ⟨r, xs ++ ys, rfl, upd_same, by
    rw [List.map_append]
    exact dqa_ext (Gr.new (T := T) g2.tab hr).ext (F2.app h2 k2)⟩⟩⟩
end
/-! which sorts are drawn -/
def lss : List (List Str) := [["a", "b"], ["b", "a"], ["x", "y"], ["a", "b", "c"], ["left"]]
def mk1 (m : So) : List So := [.count, m, .lane m, .lane m, .heap m, .heap m, .both m .count, .lane .count, .both .count .count]
def mk2 (m : So) : List So := [.heap (.both m .count), .lane (.both m .count), .both (.lane m) .count]
def mk3 (m : So) : List So := [.either .count (.lane m), .lane (.heap m), .both (.lane m) (.heap m), .heap (.lane m), .heap .count]
def mk4 (m : So) : List So := [.either m (.heap m), .both (.lane m) (.lane m), .heap (.either m .count)]
def mks (m : So) : List So := ((mk1 m ++ mk2 m) ++ mk3 m ++ mk4 m) ++ [.both m m]
/-- a drawn sort -/
def Drawn (s : So) : Prop := ∃ ls ∈ lss, s ∈ mks (.mark ls)
structure Good (s : So) : Prop where
  d : dep s < 3
  w : Wf s
  c : wcap s ≤ cap0
theorem drawn_good {s : So} (h : Drawn s) : Good s := by
  obtain ⟨ls, h1, h2⟩ := h
  have wl : Wf (.mark ls) := by
    have : ∀ ls ∈ lss, ls.Nodup ∧ ls ≠ [] := by decide +kernel
    exact this ls h1
  have wc : wcap (.mark ls) = 1 := rfl
  have c : Wf .count := True.intro
  have all : ∀ s ∈ mks (.mark ls), Good s := by
    intro s hs
    simp only [mks, mk1, mk2, mk3, mk4, List.cons_append, List.nil_append, List.mem_cons, List.not_mem_nil, or_false] at hs
    rcases hs with rfl | rfl | rfl | rfl | rfl | rfl | rfl | rfl | rfl | rfl | rfl | rfl | rfl | rfl | rfl | rfl | rfl | rfl | rfl | rfl | rfl
    all_goals
      refine ⟨?_, ?_, ?_⟩
      · simp only [dep]
        decide
      · simp [Wf, wl.1, wl.2]
      · simp only [wcap, cap0]
        decide
  exact all s h2
def RMuch (ds : List De) (P : De → Prop) : Prop := ∃ s : So, ds = [.s s] ∧ P = fun r => ∃ n : Nat, r = .int ((n : Nat) : Int) ∧ n ≤ 2
def RDrawS (ds : List De) (P : De → Prop) : Prop := ds = [] ∧ P = fun r => ∃ s, r = .s s ∧ Drawn s
section
variable {P : Program} {w : World} {K : PySem.W.Frag} {mg : Str → Option Value} {base : Heap} {T : Tb} {aS : Addr}
theorem hasMuch (D : DefOk K mg "_law_much" sLawMuch ["_law_sort"]) : Has P w K mg base 1 "_law_much" ["_law_sort"] (spOf T K RMuch) := by
  have nd := scLawMuch.nd
  refine D.pure 0 scLawMuch (fun ds Pd h => ?_) fun f cdv A outer s H E vs ds Pd hr hT hv hR => ?_
  · obtain ⟨s, rfl, _⟩ := h
    rfl
  obtain ⟨so, rfl, rfl⟩ := hR
  obtain ⟨v1, rfl, h1⟩ := dqa1 hv
  have hu : (cxOf CX0 P w K mg base nLawMuch "_law_much" (defScope sLawMuch) f cdv A outer s H E).nox.A.units + 64 < cLine := hr.units
  refine ⟨_, (pss_cons (ps_if (PW.pt (pw_and (pt_cmpR op_eq (pe_ix ix_tup (pv 0) pe_int (fun _ _ => rfl)) pe_str (nomark _)) (pw_and1 (pt_cmpR (op_eqD hu) (pe_lst (pa_cons (pe_ix ix_tup (pe_ix ix_tup (pv 0) pe_int (fun _ _ => rfl)) pe_int (fun _ _ => rfl)) (pa_cons (pe_ix ix_tup (pe_ix ix_tup (pv 0) pe_int (fun _ _ => rfl)) pe_int (fun _ _ => rfl)) pa_nil))) (pe_lst (pa_cons pe_str (pa_cons pe_str pa_nil))) (nomark _))))) (pss_one (ps_ret pe_int)) pss_nil)
    (pss_one (ps_ret (pe_ifExp (PW.pt (pw_and (pt_cmpR op_eq (pe_ix ix_tup (pv 0) pe_int (fun _ _ => rfl)) pe_str (nomark _)) (pw_and1 (pt_cmpR op_eq (pe_ix ix_tup (pe_ix ix_tup (pv 0) pe_int (fun _ _ => rfl)) pe_int (fun _ _ => rfl)) pe_str (nomark _))))) pe_int pe_int)))), ?_⟩
  have hk : EvD K T (tOp (rIxT K) (tVar 0) (tC (.int 0))) (start nLawMuch [v1]) H (.str (tag so)) := ed_tag (ed_var rfl h1) ed_int
  have e1 : EvP K T (tC (.int 1)) (start nLawMuch [v1]) H (fun r => ∃ n : Nat, r = .int ((n : Nat) : Int) ∧ n ≤ 2) := fun H1 g Q q => q _ (.int ((1 : Nat) : Int)) H1 g.self .int ⟨1, rfl, by decide⟩
  have e2 : EvP K T (tC (.int 2)) (start nLawMuch [v1]) H (fun r => ∃ n : Nat, r = .int ((n : Nat) : Int) ∧ n ≤ 2) := fun H1 g Q q => q _ (.int ((2 : Nat) : Int)) H1 g.self .int ⟨2, rfl, by decide⟩
  have rest : RetP K T (tRet (tIf (tAnd (tTest (tOp rEq (tOp (rIxT K) (tVar 0) (tC (.int 0))) (tC (.str "heap")))) (tTest (tOp rEq (tOp (rIxT K) (tOp (rIxT K) (tVar 0) (tC (.int 1))) (tC (.int 0))) (tC (.str "lane"))))) (tC (.int 1)) (tC (.int 2)))) (start nLawMuch [v1]) H (fun r => ∃ n : Nat, r = .int ((n : Nat) : Int) ∧ n ≤ 2) := by
    have t5 := eb_tag (m := 5) hk ed_str
    cases hn : (no so == 5) with
    | true =>
      rw [hn] at t5
      cases so with
      | heap a => exact rd_ret (ed_if (eb_and (c := no a == 4) t5 fun _ => eb_tag (m := 4) (ed_tag (ed_sub (n := 1) (ed_var rfl h1) ed_int rfl) ed_int) ed_str) (fun _ => e1) fun _ => e2)
      | _ => cases hn
    | false =>
      rw [hn] at t5
      exact rd_ret (ed_if (eb_and (c := true) t5 fun z => nomatch z) (fun _ => e1) fun _ => e2)
  have t2 := eb_tag (m := 2) hk ed_str
  cases hn : (no so == 2) with
  | true =>
    rw [hn] at t2
    cases so with
    | both a b =>
      have lists : EvB T (tTest (tOp (rEqD K) (tLst (tCons (tOp (rIxT K) (tOp (rIxT K) (tVar 0) (tC (.int 1))) (tC (.int 0))) (tCons (tOp (rIxT K) (tOp (rIxT K) (tVar 0) (tC (.int 2))) (tC (.int 0))) tNil))) (tLst (tCons (tC (.str "lane")) (tCons (tC (.str "lane")) tNil))))) (start nLawMuch [v1]) H (PyData.eqv (.list [.str (tag a), .str (tag b)]) (.list [.str "lane", .str "lane"])) :=
        eb_test (ed_eqD (EvL.toD (el_lst (as := [.str (tag a), .str (tag b)]) (ea_cons (ed_tag (ed_sub (n := 1) (ed_var rfl h1) ed_int rfl) ed_int) (ea_cons (ed_tag (ed_sub (n := 2) (ed_var rfl h1) ed_int rfl) ed_int) ea_nil)) rfl (by simp))) (EvL.toD (el_lst (as := [.str "lane", .str "lane"]) (ea_cons ed_str (ea_cons ed_str ea_nil)) rfl (by simp))) (by rw [tag_no a, tag_no b]; exact shaped_tags _ (no_lt a) _ (no_lt b)) (by decide +kernel))
      exact rd_if (eb_and t2 fun _ => lists) (fun _ => rd_ret e1) fun _ => rest
    | _ => cases hn
  | false =>
    rw [hn] at t2
    exact rd_if (eb_and (c := true) t2 fun z => nomatch z) (fun _ => rd_ret e1) fun _ => rest
end
end K16

end K16R25Text
section K16R26Text
set_option autoImplicit false
set_option linter.all false
set_option maxRecDepth 100000
set_option Elab.async false
set_option pp.maxSteps 700
set_option pp.deepTerms false
set_option pp.deepTerms.threshold 4
namespace K16
open PySem PySem.Spec PyProof.Rows L2
section
variable {K : PySem.W.Frag} {T : Tb} {H H1 B : Hp} {σ : L2.St} {te ta tb : TE} {tA : TA} {D C : Addr}
theorem lt_hid (S : Src H D C) {v : V} {ls : List Str} (h : Lt H v ls) : Lt (hid D C H) v ls := by
  obtain ⟨b, o, rfl, h1, h2⟩ := h
  refine ⟨b, o, rfl, ?_, h2⟩
  obtain ⟨l, m, t, cells, k1, k2⟩ := S
  rw [hid_ne (fun z => by rw [z, k1] at h1; cases h1) (fun z => by rw [z, k2] at h1; cases h1)]
  exact h1
/-- a new list stays while the source is written -/
theorem keep_lst (S : Src H D C) {p : Addr} {xs : List V} (hp : H p = some (.lst xs)) (np : p ≠ C) (g : Gr T (hid D C H) H1) : H1 p = some (.lst xs) := by
  obtain ⟨l, m, t, cells, k1, k2⟩ := S
  refine g.ext p _ ?_ fun _ z => nomatch z
  rw [hid_ne (fun z => by rw [z, k1] at hp; cases hp) np]
  exact hp
theorem s_tag {x : V} {Q : List V → Hp → Prop} (h : te σ H fun y H1 => Q [x, y] H1) : tCons (tC x) (tCons te tNil) σ H Q := h
theorem s_op {r : R2} {Q : VK} (h : ta σ H fun x H1 => tb σ H1 fun y H2 => r x y H2 Q) : tOp r ta tb σ H Q := h
theorem s_lst {Q : VK} (h : tA σ H fun xs H1 => xs.length ≤ sizeLine ∧ ∀ p, H1 p = none → Q (.ref p) (upd H1 p (.lst xs))) : tLst tA σ H Q := h
theorem s_tup {Q : VK} (h : tA σ H fun xs H1 => xs.length ≤ sizeLine ∧ ∀ p, H1 p = none → Q (.ref p) (upd H1 p (.tup xs))) : tTup tA σ H Q := h
theorem s_par3 {i j l : Nat} {D : Ends} (h : tA σ H fun vs H1 => ∃ u v w, vs = [u, v, w] ∧ D.nx (((σ.set i (some u)).set j (some v)).set l (some w)) H1) : tPar3 i j l tA D σ H := h
/-- a pick below m, the source in slot i -/
theorem eq_pick {i m : Nat} (hD : B D = none) (hC : B C = none) (hσ : σ[i]? = some (some (.ref D))) (hm : m < 1000000) : EvQ K T D C (tCall (spS T K RPick) [] E0 (tCons (tVar i) (tCons (tC (.int ((m : Nat) : Int))) tNil))) σ B (fun r => ∃ n : Nat, r = .int ((n : Nat) : Int) ∧ n < max m 1) :=
  eq_callQ hD hC hσ (ea_cons ed_int ea_nil) (by intro d hd; rw [List.mem_singleton.mp hd]; rfl) ⟨m, rfl, hm, rfl⟩
end
theorem F2.get {A B : Type} {R : A → B → Prop} {as : List A} {bs : List B} (h : F2 R as bs) {n : Nat} {b : B} (e : bs[n]? = some b) : ∃ a, as[n]? = some a ∧ R a b := F2.at (R := R) h e
section
variable {P : Program} {w : World} {K : PySem.W.Frag} {mg : Str → Option Value} {base : Heap} {T : Tb} {aS : Addr}
theorem hasDrawSort (D : DefOk K mg "_law_draw_sort" sLawDrawSort ["_law_source"]) (h__law_pick : Has P w K mg base 1 "_law_pick" ["_law_source", "_law_many"] (spS T K RPick)) : Has P w K mg base 2 "_law_draw_sort" ["_law_source"] (spS T K RDrawS) := by
  have nd := scLawDrawSort.nd
  refine D.has scLawDrawSort (fun vs H Q E h => ?_) fun f cdv A outer s H E vs Q hr hsp => ?_
  · obtain ⟨_, D, C, us, ds, Pd, rfl, _, hus, ⟨rfl, _⟩, _⟩ := h
    cases hus
    rfl
  obtain ⟨hT, D, C, us, ds, Pd, rfl, S, hus, ⟨rfl, rfl⟩, q⟩ := hsp
  cases hus
  refine ⟨_, (pss_cons (ps_set (i := 1) nd rfl (Or.inl rfl) (pe_tup (pa_cons pe_str (pa_cons (pe_ix ix_list (pe_lst (pa_cons (pe_tupF (pa_cons pe_str (pa_cons pe_str pa_nil))) (pa_cons (pe_tupF (pa_cons pe_str (pa_cons pe_str pa_nil))) (pa_cons (pe_tupF (pa_cons pe_str (pa_cons pe_str pa_nil))) (pa_cons (pe_tupF (pa_cons pe_str (pa_cons pe_str (pa_cons pe_str pa_nil)))) (pa_cons (pe_tupF (pa_cons pe_str pa_nil)) pa_nil)))))) (pe_has h__law_pick hr (by omega) (pa_cons (pv 0) (pa_cons pe_int pa_nil))) (fun _ _ => rfl)) pa_nil))))
    (pss_cons (ps_par3 rfl nd (i := 2) (j := 3) (l := 4) rfl rfl rfl (by decide) (by decide) (by decide) rfl rfl rfl (pa_cons (pe_tup (pa_cons pe_str pa_nil)) (pa_cons (pe_tup (pa_cons pe_str (pa_cons (pv 1) pa_nil))) (pa_cons (pe_tup (pa_cons pe_str (pa_cons (pv 1) pa_nil))) pa_nil))) (by rfl))
    (pss_cons (ps_set (i := 5) nd rfl (Or.inl rfl) (pe_lst (pa_cons (pv 2) (pa_cons (pv 1) (pa_cons (pv 3) (pa_cons (pv 3) (pa_cons (pv 4) (pa_cons (pv 4) (pa_cons (pe_tup (pa_cons pe_str (pa_cons (pv 1) (pa_cons (pv 2) pa_nil)))) (pa_cons (pe_tup (pa_cons pe_str (pa_cons (pv 2) pa_nil))) (pa_cons (pe_tup (pa_cons pe_str (pa_cons (pv 2) (pa_cons (pv 2) pa_nil)))) pa_nil)))))))))))
    (pss_cons (ps_set (i := 5) nd rfl (Or.inl rfl) (pe_op op_cat (pv 5) (pe_lst (pa_cons (pe_tup (pa_cons pe_str (pa_cons (pe_tup (pa_cons pe_str (pa_cons (pv 1) (pa_cons (pv 2) pa_nil)))) pa_nil))) (pa_cons (pe_tup (pa_cons pe_str (pa_cons (pe_tup (pa_cons pe_str (pa_cons (pv 1) (pa_cons (pv 2) pa_nil)))) pa_nil))) (pa_cons (pe_tup (pa_cons pe_str (pa_cons (pv 3) (pa_cons (pv 2) pa_nil)))) pa_nil))))))
    (pss_cons (ps_set (i := 5) nd rfl (Or.inl rfl) (pe_op op_cat (pv 5) (pe_lst (pa_cons (pe_tup (pa_cons pe_str (pa_cons (pv 2) (pa_cons (pv 3) pa_nil)))) (pa_cons (pe_tup (pa_cons pe_str (pa_cons (pv 4) pa_nil))) (pa_cons (pe_tup (pa_cons pe_str (pa_cons (pv 3) (pa_cons (pv 4) pa_nil)))) (pa_cons (pe_tup (pa_cons pe_str (pa_cons (pv 3) pa_nil))) (pa_cons (pe_tup (pa_cons pe_str (pa_cons (pv 2) pa_nil))) pa_nil))))))))
    (pss_cons (ps_set (i := 5) nd rfl (Or.inl rfl) (pe_op op_cat (pv 5) (pe_lst (pa_cons (pe_tup (pa_cons pe_str (pa_cons (pv 1) (pa_cons (pv 4) pa_nil)))) (pa_cons (pe_tup (pa_cons pe_str (pa_cons (pv 3) (pa_cons (pv 3) pa_nil)))) (pa_cons (pe_tup (pa_cons pe_str (pa_cons (pe_tup (pa_cons pe_str (pa_cons (pv 1) (pa_cons (pv 2) pa_nil)))) pa_nil))) pa_nil))))))
    (pss_one (ps_ret (pe_ix ix_list (pe_op op_cat (pv 5) (pe_lst (pa_cons (pe_tup (pa_cons pe_str (pa_cons (pv 1) (pa_cons (pv 1) pa_nil)))) pa_nil))) (pe_has h__law_pick hr (by omega) (pa_cons (pv 0) (pa_cons pe_int pa_nil))) (fun _ _ => rfl)))))))))), ?_⟩
  have lts : EvTs T (tCons (tTupF (tCons (tC (.str "a")) (tCons (tC (.str "b")) tNil))) (tCons (tTupF (tCons (tC (.str "b")) (tCons (tC (.str "a")) tNil))) (tCons (tTupF (tCons (tC (.str "x")) (tCons (tC (.str "y")) tNil))) (tCons (tTupF (tCons (tC (.str "a")) (tCons (tC (.str "b")) (tCons (tC (.str "c")) tNil)))) (tCons (tTupF (tCons (tC (.str "left")) tNil)) tNil))))) (start nLawDrawSort [.ref D]) H lss :=
    lt_cons (lt_tup (fun _ _ _ h => h) (by decide)) (lt_cons (lt_tup (fun _ _ _ h => h) (by decide)) (lt_cons (lt_tup (fun _ _ _ h => h) (by decide)) (lt_cons (lt_tup (fun _ _ _ h => h) (by decide)) (lt_cons (lt_tup (fun _ _ _ h => h) (by decide)) lt_nil))))
  refine s_seq (s_asg ?_)
  refine s_tup (s_tag (s_op (s_lst (lts H (.refl hT) _ fun vs H1 g1 hvs => ?_))))
  have hlv := F2.length hvs
  refine ⟨by rw [hlv]; decide, fun p hp => ?_⟩
  have g2 := g1.add (o := .lst vs) hp
  have S2 := S.stay g2
  have np : p ≠ C := S.nw (g1.nn (nw_none hp))
  refine eq_pick (K := K) (T := T) (B := hid D C H) (m := 5) hid_D hid_C rfl (by decide) _ ((hid_tab hT).trans g2) S2 _ fun nv d H3 gB gh S3 hnv hP => ?_
  obtain ⟨n, rfl, hn⟩ := hP
  obtain rfl := dq_int hnv
  have hp3 := keep_lst S2 (xs := vs) upd_same np gh
  obtain ⟨ls, els⟩ : ∃ ls, lss[n]? = some ls := ⟨_, List.getElem?_eq_getElem (by show n < 5; omega)⟩
  obtain ⟨lv, elv, hlt⟩ := F2.get hvs els
  have hlt3 : Lt H3 lv ls := (lt_hid S2 (hlt.ext (Gr.new (T := T) g1.tab hp).ext)).ext gh.ext
  obtain ⟨b, o, rfl, hb, ho⟩ := hlt3
  refine ⟨p, vs, ((n : Nat) : Int), .ref b, rfl, rfl, .of hp3, at_nat elv, ?_⟩
  refine ⟨by show 2 ≤ sizeLine; decide, fun qa hqa => ?_⟩
  have g4 : Gr T H3 (upd H3 qa (.tup [.str "mark", .ref b])) := .new gh.tab hqa
  have gB4 := gB.trans g4
  have S4 := S3.stay g4
  have hm : Sv K (upd H3 qa (.tup [.str "mark", .ref b])) (.ref qa) (.mark ls) := ⟨qa, b, o, rfl, .of upd_same, by rw [upd_ne (ne_of_none hb hqa)]; exact hb, ho⟩
  generalize upd H3 qa (.tup [.str "mark", .ref b]) = H4 at gB4 S4 hm g4 ⊢
  have dr : ∀ s ∈ mks (.mark ls), Drawn s := fun s hs => ⟨ls, List.mem_of_getElem? els, hs⟩
  generalize So.mark ls = mk at hm dr
  clear g4
  have t4 := gB4.tab
  dsimp only
  have hm : Dq K H4 (.ref qa) (.s mk) := hm
  -- count, lane, heap
  have three : EvA K T (tCons (tTup (tCons (tC (.str "count")) tNil)) (tCons (tTup (tCons (tC (.str "lane")) (tCons (tVar 1) tNil))) (tCons (tTup (tCons (tC (.str "heap")) (tCons (tVar 1) tNil))) tNil))) [some (.ref D), some (.ref qa), none, none, none, none] H4 [.s .count, .s (.lane mk), .s (.heap mk)] :=
    ea_cons (es_count ed_str) (ea_cons (es_lane (ed_var (i := 1) rfl hm)) (ea_cons (es_heap (ed_var (i := 1) rfl hm)) ea_nil))
  refine s_seq (s_par3 (three.run (.refl t4) fun us H5 g5 hus => ?_))
  obtain ⟨vc, vl, vh, rfl, hc, hl, hh⟩ := dqa3 hus
  refine ⟨vc, vl, vh, rfl, ?_⟩
  have hm5 := dq_ext g5.ext hm
  dsimp only
  -- the first nine
  have m1 : EvSs K T (tLst (tCons (tVar 2) (tCons (tVar 1) (tCons (tVar 3) (tCons (tVar 3) (tCons (tVar 4) (tCons (tVar 4) (tCons (tTup (tCons (tC (.str "both")) (tCons (tVar 1) (tCons (tVar 2) tNil)))) (tCons (tTup (tCons (tC (.str "lane")) (tCons (tVar 2) tNil))) (tCons (tTup (tCons (tC (.str "both")) (tCons (tVar 2) (tCons (tVar 2) tNil)))) tNil)))))))))) [some (.ref D), some (.ref qa), some vc, some vl, some vh, none] H5 (mk1 mk) :=
    ess_lst (ea_cons (ed_var rfl hc) (ea_cons (ed_var rfl hm5) (ea_cons (ed_var rfl hl) (ea_cons (ed_var rfl hl) (ea_cons (ed_var rfl hh) (ea_cons (ed_var rfl hh) (ea_cons (es_both (ed_var rfl hm5) (ed_var rfl hc)) (ea_cons (es_lane (ed_var rfl hc)) (ea_cons (es_both (ed_var rfl hc) (ed_var rfl hc)) ea_nil))))))))) (by show 9 ≤ 1000; decide)
  refine s_seq (s_asg (m1 H5 g5.self _ fun p1 H6 n1 g6 hp1 => ?_))
  have g46 := g5.trans g6
  have e6 := g6.ext
  have hm6 := dq_ext e6 hm5
  have hc6 := dq_ext e6 hc
  have hl6 := dq_ext e6 hl
  have hh6 := dq_ext e6 hh
  dsimp only
  have m2 : EvSs K T (tOp rCat (tVar 5) (tLst (tCons (tTup (tCons (tC (.str "heap")) (tCons (tTup (tCons (tC (.str "both")) (tCons (tVar 1) (tCons (tVar 2) tNil)))) tNil))) (tCons (tTup (tCons (tC (.str "lane")) (tCons (tTup (tCons (tC (.str "both")) (tCons (tVar 1) (tCons (tVar 2) tNil)))) tNil))) (tCons (tTup (tCons (tC (.str "both")) (tCons (tVar 3) (tCons (tVar 2) tNil)))) tNil))))) [some (.ref D), some (.ref qa), some vc, some vl, some vh, some (.ref p1)] H6 (mk1 mk ++ mk2 mk) :=
    ess_cat rfl hp1 (ess_lst (ea_cons (es_heap (es_both (ed_var rfl hm6) (ed_var rfl hc6))) (ea_cons (es_lane (es_both (ed_var rfl hm6) (ed_var rfl hc6))) (ea_cons (es_both (ed_var rfl hl6) (ed_var rfl hc6)) ea_nil))) (by show 3 ≤ 1000; decide)) (by show 9 + 3 ≤ 1000; decide)
  refine s_seq (s_asg (m2 H6 g6.self _ fun p2 H7 n2 g7 hp2 => ?_))
  have g47 := g46.trans g7
  have e7 := g7.ext
  have hm7 := dq_ext e7 hm6
  have hc7 := dq_ext e7 hc6
  have hl7 := dq_ext e7 hl6
  have hh7 := dq_ext e7 hh6
  dsimp only
  have m3 : EvSs K T (tOp rCat (tVar 5) (tLst (tCons (tTup (tCons (tC (.str "either")) (tCons (tVar 2) (tCons (tVar 3) tNil)))) (tCons (tTup (tCons (tC (.str "lane")) (tCons (tVar 4) tNil))) (tCons (tTup (tCons (tC (.str "both")) (tCons (tVar 3) (tCons (tVar 4) tNil)))) (tCons (tTup (tCons (tC (.str "heap")) (tCons (tVar 3) tNil))) (tCons (tTup (tCons (tC (.str "heap")) (tCons (tVar 2) tNil))) tNil))))))) [some (.ref D), some (.ref qa), some vc, some vl, some vh, some (.ref p2)] H7 ((mk1 mk ++ mk2 mk) ++ mk3 mk) :=
    ess_cat rfl hp2 (ess_lst (ea_cons (es_either (ed_var rfl hc7) (ed_var rfl hl7)) (ea_cons (es_lane (ed_var rfl hh7)) (ea_cons (es_both (ed_var rfl hl7) (ed_var rfl hh7)) (ea_cons (es_heap (ed_var rfl hl7)) (ea_cons (es_heap (ed_var rfl hc7)) ea_nil))))) (by show 5 ≤ 1000; decide)) (by show 12 + 5 ≤ 1000; decide)
  refine s_seq (s_asg (m3 H7 g7.self _ fun p3 H8 n3 g8 hp3 => ?_))
  have g48 := g47.trans g8
  have e8 := g8.ext
  have hm8 := dq_ext e8 hm7
  have hc8 := dq_ext e8 hc7
  have hl8 := dq_ext e8 hl7
  have hh8 := dq_ext e8 hh7
  dsimp only
  have m4 : EvSs K T (tOp rCat (tVar 5) (tLst (tCons (tTup (tCons (tC (.str "either")) (tCons (tVar 1) (tCons (tVar 4) tNil)))) (tCons (tTup (tCons (tC (.str "both")) (tCons (tVar 3) (tCons (tVar 3) tNil)))) (tCons (tTup (tCons (tC (.str "heap")) (tCons (tTup (tCons (tC (.str "either")) (tCons (tVar 1) (tCons (tVar 2) tNil)))) tNil))) tNil))))) [some (.ref D), some (.ref qa), some vc, some vl, some vh, some (.ref p3)] H8 (((mk1 mk ++ mk2 mk) ++ mk3 mk) ++ mk4 mk) :=
    ess_cat rfl hp3 (ess_lst (ea_cons (es_either (ed_var rfl hm8) (ed_var rfl hh8)) (ea_cons (es_both (ed_var rfl hl8) (ed_var rfl hl8)) (ea_cons (es_heap (es_either (ed_var rfl hm8) (ed_var rfl hc8))) ea_nil))) (by show 3 ≤ 1000; decide)) (by show 17 + 3 ≤ 1000; decide)
  refine s_seq (s_asg (m4 H8 g8.self _ fun p4 H9 n4 g9 hp4 => ?_))
  have g49 := g48.trans g9
  have hm9 := dq_ext g9.ext hm8
  dsimp only
  refine s_ret ?_
  have m5 : EvSs K T (tOp rCat (tVar 5) (tLst (tCons (tTup (tCons (tC (.str "both")) (tCons (tVar 1) (tCons (tVar 1) tNil)))) tNil))) [some (.ref D), some (.ref qa), some vc, some vl, some vh, some (.ref p4)] H9 (mks mk) :=
    ess_cat rfl hp4 (ess_lst (ss := [.both mk mk]) (ea_cons (es_both (ed_var rfl hm9) (ed_var rfl hm9)) ea_nil) (by show 1 ≤ 1000; decide)) (by show 20 + 1 ≤ 1000; decide)
  refine m5 H9 g9.self _ fun p5 H10 n5 g10 hp5 => ?_
  have g410 := g49.trans g10
  have S9 := S4.stay g49
  have S10 := S4.stay g410
  obtain ⟨p5', xs, e, hx, dx⟩ := hp5
  cases e
  refine eq_pick (K := K) (T := T) (B := hid D C H) (m := 21) hid_D hid_C rfl (by decide) _ (gB4.trans g410) S10 _ fun nv d H11 gB11 gh11 S11 hnv hP => ?_
  obtain ⟨n2, rfl, hn2⟩ := hP
  obtain rfl := dq_int hnv
  have hx11 := keep_lst S10 hx (S9.nw n5) gh11
  obtain ⟨s, es⟩ : ∃ s, (mks mk)[n2]? = some s := ⟨_, List.getElem?_eq_getElem (by show n2 < 21; omega)⟩
  obtain ⟨v, ev, hv⟩ := F2.get dx (b := .s s) (n := n2) (by rw [List.getElem?_map, es]; rfl)
  refine ⟨p5, xs, ((n2 : Nat) : Int), v, rfl, rfl, .of hx11, at_nat ev, ?_⟩
  have hv11 : Dq K H11 v (.s s) := dq_ext gh11.ext (dq_hid S10 (d := .s s) rfl hv)
  exact q v (.s s) H11 gB11 S11 (dq_hid S11 (d := .s s) rfl hv11) ⟨s, rfl, dr s (List.mem_of_getElem? es)⟩
end
end K16

end K16R26Text
section K16R27Text
set_option autoImplicit false
set_option linter.all false
set_option maxRecDepth 100000
set_option Elab.async false
set_option pp.maxSteps 700
set_option pp.deepTerms false
set_option pp.deepTerms.threshold 4
namespace K16
open PySem PySem.Spec PyProof.Rows L2
abbrev sLawDrawValue : Stmt := topS 46
abbrev nLawDrawValue : List Str := ["_law_source", "_law_sort", "_law_most", "_law_place", "_law_found", "_law_lap"]
theorem scLawDrawValue : FnScope nLawDrawValue ["_law_source", "_law_sort", "_law_most"] (defScope sLawDrawValue) := ⟨rfl, rfl, rfl, by decide +kernel, rfl, by decide +kernel, by decide +kernel⟩
/-- what is drawn: numbers to three, rows of at most n, within others of at most two -/
def Dv (n : Nat) : (s : So) → Va s → Prop
  | .mark _ => fun _ => True
  | .count => fun (v : Nat) => v ≤ 3
  | .both a b => fun v => Dv n a v.1 ∧ Dv n b v.2
  | .either a b => fun v => match v with
    | .inl v => Dv n a v
    | .inr v => Dv n b v
  | .lane a => fun (v : List (Va a)) => v.length ≤ n ∧ ∀ y ∈ v, Dv (min n 2) a y
  | .heap a => fun (v : List (Va a)) => v.length ≤ n ∧ ∀ y ∈ v, Dv (min n 2) a y
theorem dv_sm : ∀ {s : So} {n : Nat} {v : Va s}, Dv n s v → Sm n s v
  | .mark _, _, _, _ => True.intro
  | .count, _, _, _ => True.intro
  | .both a b, _, v, h => ⟨dv_sm h.1, dv_sm h.2⟩
  | .either a b, _, .inl v, h => dv_sm (s := a) h
  | .either a b, _, .inr v, h => dv_sm (s := b) h
  | .lane a, n, v, h => ⟨h.1, fun y hy => sm_mono (Nat.min_le_left n 2) (dv_sm (h.2 y hy))⟩
  | .heap a, n, v, h => ⟨h.1, fun y hy => sm_mono (Nat.min_le_left n 2) (dv_sm (h.2 y hy))⟩
theorem dv_form : ∀ {s : So} {n : Nat} {v : Va s}, Dv n s v → Dv n s (form s v)
  | .mark _, _, _, _ => True.intro
  | .count, _, _, h => h
  | .both a b, _, v, h => ⟨dv_form h.1, dv_form h.2⟩
  | .either a b, _, .inl v, h => dv_form (s := a) h
  | .either a b, _, .inr v, h => dv_form (s := b) h
  | .lane a, n, v, h => ⟨by show (List.map (form a) v).length ≤ n; rw [List.length_map]; exact h.1, fun y hy => by
    obtain ⟨x, hx, rfl⟩ := List.mem_map.mp hy
    exact dv_form (h.2 x hx)⟩
  | .heap a, n, v, h => ⟨by show (sortV a (List.map (form a) v)).length ≤ n; rw [(sortV_perm a _).length_eq, List.length_map]; exact h.1, fun y hy => by
    have hy := (sortV_perm a _).mem_iff.mp hy
    obtain ⟨x, hx, rfl⟩ := List.mem_map.mp hy
    exact dv_form (h.2 x hx)⟩
/-- few letters -/
def Mo : So → Prop
  | .mark ls => ls.length < 1000000
  | .count => True
  | .both a b => Mo a ∧ Mo b
  | .either a b => Mo a ∧ Mo b
  | .lane a => Mo a
  | .heap a => Mo a
def RDrawV (d : Nat) (ds : List De) (P : De → Prop) : Prop := ∃ (s : So) (n : Nat), ds = [.s s, .int ((n : Nat) : Int)] ∧ n ≤ 3 ∧ dep s < d ∧ Wf s ∧ Mo s ∧ P = fun r => ∃ x, r = .d (enc s x) ∧ Dv n s x
section
variable {K : PySem.W.Frag} {T : Tb} {H H1 B : Hp} {σ : L2.St} {te ta tb : TE} {tA : TA} {D C L : Addr}
theorem hid_upd {o : HO} (h1 : L ≠ D) (h2 : L ≠ C) : hid D C (upd H L o) = upd (hid D C H) L o := by
  funext b
  by_cases c : b = L
  · subst c
    rw [upd_same, hid_ne h1 h2, upd_same]
  · rw [upd_ne c]
    unfold hid
    rw [upd_ne c]
theorem Src.neD (S : Src H D C) {xs : List V} (h : H L = some (.lst xs)) : L ≠ D := fun z => by
  obtain ⟨l, m, t, cells, k1, k2⟩ := S
  rw [z, k1] at h
  cases h
theorem Src.upd (S : Src H D C) {o : HO} (h1 : L ≠ D) (h2 : L ≠ C) : Src (upd H L o) D C := by
  obtain ⟨l, m, t, cells, k1, k2⟩ := S
  exact ⟨l, m, t, cells, by rw [upd_ne (Ne.symm h1)]; exact k1, by rw [upd_ne (Ne.symm h2)]; exact k2⟩
theorem ed_min {x y : Nat} (ha : EvD K T ta σ H (.int (x : Int))) (hb : EvD K T tb σ H (.int (y : Int))) : EvD K T (tCB (fun xs H Q => ∃ i j, xs = [V.int i, V.int j] ∧ Q (.int (if j < i then j else i)) H) (tCons ta (tCons tb tNil))) σ H (.int ((min x y : Nat) : Int)) := .of fun H1 g Q q =>
  ha.run g fun v H2 g2 hv => hb.run (g.trans g2) fun w H3 g3 hw => by
    obtain rfl := dq_int hv
    obtain rfl := dq_int hw
    refine ⟨_, _, rfl, q _ H3 (g2.trans g3) ?_⟩
    have e : (if ((y : Nat) : Int) < ((x : Nat) : Int) then ((y : Nat) : Int) else ((x : Nat) : Int)) = ((min x y : Nat) : Int) := by
      by_cases c : y < x
      · rw [if_pos (by omega)]; omega
      · rw [if_neg (by omega)]; omega
    rw [e]
    exact .int
theorem noL_dat_letters (ls : List Str) : noL (.tuple (ls.map PyData.str)) = true := noLs_iff.mpr fun d hd => by
  obtain ⟨x, _, rfl⟩ := List.mem_map.mp hd
  rfl
theorem EvQ.imp {P P' : De → Prop} (h : EvQ K T D C te σ B P) (k : ∀ d, P d → P' d) : EvQ K T D C te σ B P' := fun H1 g S Q q => h H1 g S Q fun v d H2 gB gh S2 hv p => q v d H2 gB gh S2 hv (k d p)
/-- [.. for lap in range(a drawn number)]: each turn draws -/
theorem eq_draws {A : Type} {j k : Nat} {tp : TE} {vs : List Nat} (f : A → PyData) (G : A → Prop) (hD : B D = none) (hC : B C = none) (hp : EvQ K T D C tp σ B (fun r => ∃ n : Nat, r = .int ((n : Nat) : Int) ∧ n ≤ k)) (hk : k ≤ 1000)
    (hw : ∀ v, wipe ((wipe σ vs).set j (some v)) vs = wipe σ vs) (he : ∀ (i : Nat) B2, LamX.ExtN B B2 → B2 D = none → B2 C = none → EvQ K T D C te ((wipe σ vs).set j (some (.int ((i : Nat) : Int)))) B2 (fun r => ∃ x, r = .d (f x) ∧ G x)) (nf : ∀ x, noL (f x) = true) :
    ∀ H1, Gr T B H1 → Src H1 D C → ∀ Q : VK, (∀ L acc (xs : List A) H', Gr T B H' → Gr T (hid D C H1) H' → Src H' D C → L ≠ C → H' L = some (.lst acc) → DpAll K (hid D C H') acc (xs.map f) → xs.length ≤ k → (∀ y ∈ xs, G y) → Q (.ref L) H') → tLc (iRng1 (tCons tp tNil)) (gName j) tYes te vs σ H1 Q := fun H1 g S Q q =>
  hp H1 g S _ fun v d H2 gB gh S2 hv ⟨n, e, hn⟩ => by
    subst e
    obtain rfl := dq_int hv
    refine ⟨((n : Nat) : Int), rfl, by omega, by omega, fun L hL => ?_⟩
    have en : ((n : Nat) : Int).toNat = n := by omega
    rw [en]
    have nLD : L ≠ D := fun z => by
      obtain ⟨l, m, t, cells, k1, k2⟩ := S2
      rw [z, k1] at hL
      cases hL
    have nLC : L ≠ C := S2.nw (nw_none hL)
    have nB : Nw B L := gB.nn (nw_none hL)
    have nh : Nw (hid D C H1) L := gh.nn (nw_none hL)
    refine lc_range (lo := 0) (n := n) (fun i H' => Gr T B H' ∧ Gr T (hid D C H1) H' ∧ Src H' D C ∧ ∃ (acc : List V) (xs : List A), H' L = some (.lst acc) ∧ xs.length = i ∧ DpAll K (hid D C H') acc (xs.map f) ∧ ∀ y ∈ xs, G y) ?_ ?_ ?_
    · exact ⟨gB.add hL, gh.add hL, S2.upd nLD nLC, [], [], upd_same, rfl, .nil, fun y hy => by cases hy⟩
    · rintro i H' hi ⟨gB', gh', S', acc, xs, hL', hl, dacc, hG⟩
      have e0 : (0 : Int) + ((i : Nat) : Int) = ((i : Nat) : Int) := Int.zero_add _
      rw [e0]
      refine ⟨hw _, ?_⟩
      refine t_yes ?_
      show ite _ _ _
      rw [if_pos (by rfl)]
      refine he i (hid D C H') (base_hid hD hC gB'.ext) hid_D hid_C H' (hid_tab gB'.tab) S' _ fun v d H4 gB4 gh4 S4 hv ⟨x, e, gx⟩ => ?_
      subst e
      have hL4 := keep_lst S' hL' nLC gh4
      have gB4' : Gr T B H4 := ⟨(base_hid hD hC gB'.ext).trans gB4.ext, gB4.tab⟩
      have gh4' : Gr T (hid D C H1) H4 := ⟨(base_hid hid_D hid_C gh'.ext).trans gB4.ext, gB4.tab⟩
      have la := dps_len dacc
      rw [List.length_map] at la
      refine ⟨acc, hL4, Nat.lt_of_lt_of_le (show acc.length < 1000 by omega) (by decide), gB4'.mut nB hL4 True.intro, gh4'.mut nh hL4 True.intro, S4.upd nLD nLC, acc ++ [v], xs ++ [x], upd_same, by simp [hl], ?_, fun y hy => ?_⟩
      · rw [hid_upd nLD nLC, List.map_append]
        refine dps_upd (ys := acc) (by rw [hid_ne nLD nLC]; exact hL4) ?_ (dps_app (dps_ext (base_hid hid_D hid_C gB4.ext) dacc) (.cons hv.dp .nil))
        refine noLs_iff.mpr fun d hd => ?_
        rcases List.mem_append.mp hd with h | h
        · obtain ⟨z, _, rfl⟩ := List.mem_map.mp h
          exact nf z
        · have : d = f x := by simpa using h
          rw [this]
          exact nf x
      · rcases List.mem_append.mp hy with h | h
        · exact hG y h
        · have : y = x := by simpa using h
          rw [this]
          exact gx
    · rintro H' ⟨gB', gh', S', acc, xs, hL', hl, dacc, hG⟩
      exact q L acc xs H' gB' gh' S' nLC hL' dacc (by omega) hG
/-- a tuple of two drawn things -/
theorem eq_tup2 {P1 P2 : De → Prop} {R : PyData → PyData → Prop} (hD : B D = none) (hC : B C = none) (h1 : EvQ K T D C ta σ B P1) (h2 : ∀ B2, LamX.ExtN B B2 → B2 D = none → B2 C = none → EvQ K T D C tb σ B2 P2)
    (n1 : ∀ d, P1 d → ∃ x, d = .d x ∧ noL x = true) (n2 : ∀ d, P2 d → ∃ x, d = .d x ∧ noL x = true) : EvQ K T D C (tTup (tCons ta (tCons tb tNil))) σ B (fun r => ∃ x y, r = .d (.tuple [x, y]) ∧ P1 (.d x) ∧ P2 (.d y)) := fun H1 g S Q q =>
  h1 H1 g S _ fun v d H2 gB gh S2 hv p => by
    have e : LamX.ExtN B (hid D C H2) := base_hid hD hC gB.ext
    refine h2 (hid D C H2) e hid_D hid_C H2 (hid_tab gB.tab) S2 _ fun w d2 H3 gB2 gh2 S3 hw p2 => ?_
    obtain ⟨x, rfl, nx⟩ := n1 d p
    obtain ⟨y, rfl, ny⟩ := n2 d2 p2
    refine ⟨by show 2 ≤ sizeLine; decide, fun r hr => ?_⟩
    have hv3 : Dp K H3 v x := dp_ext gB2.ext hv.dp
    have hw3 : Dp K H3 w y := dp_ext hid_sub hw.dp
    have gn : Gr T H3 (L2.upd H3 r (.tup [v, w])) := .new gB2.tab hr
    have S4 := S3.stay gn
    refine q _ (.d (.tuple [x, y])) _ ((⟨(base_hid hD hC gB.ext).trans gB2.ext, gB2.tab⟩ : Gr T B H3).trans gn) ((⟨(base_hid hid_D hid_C gh.ext).trans gB2.ext, gB2.tab⟩ : Gr T (hid D C H1) H3).trans gn) S4 (dq_hid S4 (d := .d (.tuple [x, y])) ?_ (.tup (.of upd_same) (.cons (dp_ext gn.ext hv3) (.cons (dp_ext gn.ext hw3) .nil)))) ⟨x, y, rfl, p, p2⟩
    show (noL x && (noL y && true)) = true
    rw [nx, ny]
    rfl
end
section
variable {P : Program} {w : World} {K : PySem.W.Frag} {mg : Str → Option Value} {base : Heap} {T : Tb} {aS : Addr}
theorem hasDrawValue (d : Nat) (D : DefOk K mg "_law_draw_value" sLawDrawValue ["_law_source", "_law_sort", "_law_most"]) (M : Bi mg) (h__law_pick : Has P w K mg base 1 "_law_pick" ["_law_source", "_law_many"] (spS T K RPick))
    (h__law_draw_value : Has P w K mg base (d + 6) "_law_draw_value" ["_law_source", "_law_sort", "_law_most"] (spS T K (RDrawV d))) (h__law_formed : Has P w K mg base (d + 5) "_law_formed" ["_law_sort", "_law_v"] (spOf T K (RLForm (d + 1)))) :
    Has P w K mg base (d + 7) "_law_draw_value" ["_law_source", "_law_sort", "_law_most"] (spS T K (RDrawV (d + 1))) := by
  have nd := scLawDrawValue.nd
  refine D.has scLawDrawValue (fun vs H Q E h => ?_) fun f cdv A outer s H E vs Q hr hsp => ?_
  · obtain ⟨_, D, C, us, ds, Pd, rfl, _, hus, ⟨so, n, rfl, _⟩, _⟩ := h
    obtain ⟨x, y, rfl, _⟩ := dqa2 hus
    rfl
  obtain ⟨hT, D, C, us, ds, Pd, rfl, S, hus, ⟨so, n, rfl, hn, hd, hw, hmo, rfl⟩, q⟩ := hsp
  obtain ⟨v1, v2, rfl, h1, h2⟩ := dqa2 hus
  obtain rfl := dq_int h2
  refine ⟨_, (pss_cons (ps_if (pt_cmpR op_eq (pe_ix ix_tup (pv 1) pe_int (fun _ _ => rfl)) pe_str (nomark _)) (pss_one (ps_ret (pe_ix ix_tup (pe_ix ix_tup (pv 1) pe_int (fun _ _ => rfl)) (pe_has h__law_pick hr (by omega) (pa_cons (pv 0) (pa_cons (pe_callB call_len_seq rfl (M.len) PySem.boot_len (pa_cons (pe_ix ix_tup (pv 1) pe_int (fun _ _ => rfl)) pa_nil)) pa_nil))) (fun _ _ => rfl)))) pss_nil)
    (pss_cons (ps_if (pt_cmpR op_eq (pe_ix ix_tup (pv 1) pe_int (fun _ _ => rfl)) pe_str (nomark _)) (pss_one (ps_ret (pe_ix ix_list (pe_lst (pa_cons pe_int (pa_cons pe_int (pa_cons pe_int (pa_cons pe_int (pa_cons pe_int pa_nil)))))) (pe_has h__law_pick hr (by omega) (pa_cons (pv 0) (pa_cons pe_int pa_nil))) (fun _ _ => rfl)))) pss_nil)
    (pss_cons (ps_if (pt_cmpR op_eq (pe_ix ix_tup (pv 1) pe_int (fun _ _ => rfl)) pe_str (nomark _)) (pss_one (ps_ret (pe_tup (pa_cons (pe_has h__law_draw_value hr (by omega) (pa_cons (pv 0) (pa_cons (pe_ix ix_tup (pv 1) pe_int (fun _ _ => rfl)) (pa_cons (pv 2) pa_nil)))) (pa_cons (pe_has h__law_draw_value hr (by omega) (pa_cons (pv 0) (pa_cons (pe_ix ix_tup (pv 1) pe_int (fun _ _ => rfl)) (pa_cons (pv 2) pa_nil)))) pa_nil))))) pss_nil)
    (pss_cons (ps_if (pt_cmpR op_eq (pe_ix ix_tup (pv 1) pe_int (fun _ _ => rfl)) pe_str (nomark _)) (pss_cons (ps_set (i := 3) nd rfl (Or.inl rfl) (pe_has h__law_pick hr (by omega) (pa_cons (pv 0) (pa_cons pe_int pa_nil))))
    (pss_one (ps_ret (pe_tup (pa_cons (pe_ix ix_list (pe_lst (pa_cons pe_str (pa_cons pe_str pa_nil))) (pv 3) (fun _ _ => rfl)) (pa_cons (pe_has h__law_draw_value hr (by omega) (pa_cons (pv 0) (pa_cons (pe_ix ix_tup (pv 1) (pe_op op_add pe_int (pv 3)) (fun _ _ => rfl)) (pa_cons (pv 2) pa_nil)))) pa_nil)))))) pss_nil)
    (pss_cons (ps_setLc (i := 4) (own := [("_law_lap", 5)]) rfl nd rfl rfl (sw_true rfl rfl rfl (by decide +kernel)) (pi_range1 rfl (M.range) (pa_cons (pe_has h__law_pick hr (by omega) (pa_cons (pv 0) (pa_cons (pe_op op_add (pv 2) pe_int) pa_nil))) pa_nil)) (blkOk_by (N := nLawDrawValue) (sc := (defScope sLawDrawValue)) (by decide +kernel)) (fun _ _ _ _ _ => (pg_name (i := 5) nd rfl (Or.inl rfl))) (fun _ _ _ _ _ => pts_nil) (fun _ _ _ _ _ => (pe_has h__law_draw_value hr (by omega) (pa_cons (pv 0) (pa_cons (pe_ix (r := rIxT K) ix_tup (pv 1) pe_int (fun _ _ => rfl)) (pa_cons (pe_callB (call_min2 rfl) rfl (M.min) (by decide +kernel) (pa_cons (pv 2) (pa_cons pe_int pa_nil))) pa_nil))))))
    (pss_one (ps_ret (pe_has h__law_formed hr (by omega) (pa_cons (pv 1) (pa_cons (pe_tupleOf rfl (M.tuple) (pv 4)) pa_nil)))))))))), ?_⟩
  have B0 : Gr T (hid D C H) H := hid_tab hT
  have fin : ∀ (v : V) (x : Va so) H', Gr T (hid D C H) H' → Src H' D C → Dq K (hid D C H') v (.d (enc so x)) → Dv n so x → Q v H' := fun v x H' g S' hv hx => q v (.d (enc so x)) H' g S' hv ⟨x, rfl, hx⟩
  have hk : ∀ (σ : L2.St), σ[1]? = some (some v1) → EvD K T (tOp (rIxT K) (tVar 1) (tC (.int 0))) σ (hid D C H) (.str (tag so)) := fun σ e => ed_tag (ed_var e h1) ed_int
  -- the tests, one by one
  have no_ : ∀ (m : Nat) (ts tr : TS) (σ : L2.St) (H' : Hp) (D' : Ends), σ[1]? = some (some v1) → (no so == m) = false → m < 6 → Gr T (hid D C H) H' → (∀ H2, Gr T H' H2 → tr D' σ H2) → tSeq (tIfS (tTest (tOp rEq (tOp (rIxT K) (tVar 1) (tC (.int 0))) (tC (.str (tagN m))))) ts tNext) tr D' σ H' := fun m ts tr σ H' D' e hm hm6 g k => by
    refine s_seq (s_ifB (eb_tag (m := m) (hk σ e) ed_str hm6) g fun H2 g2 => ?_)
    rw [hm, if_neg Bool.false_ne_true]
    exact k H2 g2
  have yes_ : ∀ (m : Nat) (ts tr : TS) (σ : L2.St) (H' : Hp) (D' : Ends), σ[1]? = some (some v1) → (no so == m) = true → m < 6 → Gr T (hid D C H) H' → (∀ H2, Gr T H' H2 → ts { D' with nx := tr D' } σ H2) → tSeq (tIfS (tTest (tOp rEq (tOp (rIxT K) (tVar 1) (tC (.int 0))) (tC (.str (tagN m))))) ts tNext) tr D' σ H' := fun m ts tr σ H' D' e hm hm6 g k => by
    refine s_seq (s_ifB (eb_tag (m := m) (hk σ e) ed_str hm6) g fun H2 g2 => ?_)
    rw [hm, if_pos rfl]
    exact k H2 g2
  have rows : ∀ (a : So) (H3 : Hp), dep a < d → Wf a → Mo a → sub so 1 = some a → Gr T (hid D C H) H3 → Src H3 D C → ∀ Q : VK, (∀ L acc (xs : List (Va a)) H', Gr T (hid D C H) H' → Src H' D C → L ≠ C → H' L = some (.lst acc) → DpAll K (hid D C H') acc (xs.map (enc a)) → xs.length ≤ n → (∀ y ∈ xs, Dv (min n 2) a y) → Q (.ref L) H') →
      tLc (iRng1 (tCons (tCall (spS T K RPick) [] E0 (tCons (tVar 0) (tCons (tOp (rI0 fun i j => .int (i + j)) (tVar 2) (tC (.int 1))) tNil))) tNil)) (gName 5) tYes (tCall (spS T K (RDrawV d)) [] E0 (tCons (tVar 0) (tCons (tOp (rIxT K) (tVar 1) (tC (.int 1))) (tCons (tCB (fun xs H Q => ∃ i j, xs = [V.int i, V.int j] ∧ Q (.int (if j < i then j else i)) H) (tCons (tVar 2) (tCons (tC (.int 2)) tNil))) tNil)))) [5] (start nLawDrawValue [.ref D, v1, .int ((n : Nat) : Int)]) H3 Q := fun a H3 hda hwa hma hsub g3 S3 Q k => by
    refine eq_draws (K := K) (T := T) (D := D) (C := C) (B := hid D C H) (j := 5) (k := n) (enc a) (Dv (min n 2) a) hid_D hid_C ((eq_callQ (R := RPick) hid_D hid_C (i := 0) rfl (ea_cons (ed_add1 (i := 2) (p := n) rfl) ea_nil) (by intro d hd; rw [List.mem_singleton.mp hd]; rfl) ⟨n + 1, rfl, by omega, rfl⟩).imp fun d ⟨j, e, hj⟩ => ⟨j, e, by omega⟩) (by omega) (by intro _; rfl) (fun i B2 e hD hC => ?_) (fun x => noL_enc a x) H3 g3 S3 Q fun L acc xs H' a1 a2 a3 a4 a5 a6 a7 a8 => k L acc xs H' a1 a3 a4 a5 a6 a7 a8
    exact eq_callQ (R := RDrawV d) hD hC (i := 0) rfl (ea_cons (ed_sub (n := 1) (ed_var (i := 1) rfl (dq_ext e h1)) ed_int hsub) (ea_cons (ed_min (x := n) (y := 2) (ed_var (i := 2) rfl .int) (ed_int (n := 2))) ea_nil)) (by intro d hd; simp only [List.mem_cons, List.not_mem_nil, or_false] at hd; rcases hd with rfl | rfl <;> rfl) ⟨a, min n 2, rfl, by omega, hda, hwa, hma, rfl⟩
  cases so with
  | mark ls =>
    refine yes_ 0 _ _ _ H _ rfl rfl (by decide) B0 fun H2 g2 => ?_
    have gB := B0.trans g2
    have S2 := S.stay g2
    refine s_ret (s_op ?_)
    refine (ed_letters (ed_var (i := 1) rfl h1) ed_int).run gB fun lv H3 g3 hlv => ?_
    have gB3 := gB.trans g3
    have S3 := S2.stay g3
    obtain ⟨la, lx, rfl, hla, dla⟩ := dp_tup (dp_hid S3 (noL_dat_letters ls) hlv.dp)
    have ll := dps_len dla
    rw [List.length_map] at ll
    have lenL := ed_lenT (K := K) (T := T) (ed_letters (σ := start nLawDrawValue [.ref D, v1, .int ((n : Nat) : Int)]) (ed_var (T := T) (i := 1) rfl h1) (ed_int (n := 1)))
    rw [List.length_map] at lenL
    refine eq_callQ (K := K) (T := T) (R := RPick) hid_D hid_C (i := 0) rfl (ea_cons lenL ea_nil) (by intro d hd; rw [List.mem_singleton.mp hd]; rfl) ⟨ls.length, rfl, hmo, rfl⟩ H3 gB3 S3 _ fun nv d' H4 gB4 gh S4 hnv hP => ?_
    obtain ⟨j, rfl, hj⟩ := hP
    obtain rfl := dq_int hnv
    have hne : ls ≠ [] := hw.2
    have hpos : 0 < ls.length := List.length_pos_iff.mpr hne
    have hj : j < ls.length := by omega
    obtain ⟨x, ex⟩ : ∃ x, lx[j]? = some x := ⟨_, List.getElem?_eq_getElem (by omega)⟩
    obtain ⟨d2, e1, e2⟩ := dps_at dla ex
    rw [List.getElem?_map, List.getElem?_eq_getElem hj] at e1
    cases e1
    cases e2
    refine ⟨la, lx, ((j : Nat) : Int), _, rfl, rfl, st_ext gh.ext hla, at_nat ex, ?_⟩
    exact fin _ (⟨j, hj⟩ : _root_.Fin ls.length) H4 gB4 S4 .str True.intro
  | count =>
    refine no_ 0 _ _ _ H _ rfl rfl (by decide) B0 fun H1 g1 => yes_ 1 _ _ _ H1 _ rfl rfl (by decide) (B0.trans g1) fun H2 g2 => ?_
    have gB := (B0.trans g1).trans g2
    have S2 := (S.stay g1).stay g2
    refine s_ret (s_op ?_)
    refine (el_lst (K := K) (T := T) (H := H2) (σ := start nLawDrawValue [.ref D, v1, .int ((n : Nat) : Int)]) (as := [.int 0, .int 1, .int 1, .int 2, .int 3]) (ds := [.int 0, .int 1, .int 1, .int 2, .int 3]) (ea_cons ed_int (ea_cons ed_int (ea_cons ed_int (ea_cons ed_int (ea_cons ed_int ea_nil))))) rfl (by simp)).run g2.self fun p xs H3 np g3 hp dp => ?_
    have gB3 := gB.trans g3
    have S3 := S2.stay g3
    refine eq_pick (K := K) (T := T) (B := hid D C H) (m := 5) hid_D hid_C rfl (by decide) H3 gB3 S3 _ fun nv d' H4 gB4 gh S4 hnv hP => ?_
    obtain ⟨j, rfl, hj⟩ := hP
    obtain rfl := dq_int hnv
    have hj : j < 5 := by omega
    have hp4 := keep_lst S3 hp (S2.nw np) gh
    have lx := dps_len dp
    obtain ⟨x, ex⟩ : ∃ x, xs[j]? = some x := ⟨_, List.getElem?_eq_getElem (by rw [lx]; exact hj)⟩
    obtain ⟨d2, e1, e2⟩ := dps_at dp ex
    obtain ⟨k, hk3, ek⟩ : ∃ k : Nat, k ≤ 3 ∧ d2 = .int ((k : Nat) : Int) := by
      have : ∀ j, j < 5 → ∀ d2, ([.int 0, .int 1, .int 1, .int 2, .int 3] : List PyData)[j]? = some d2 → ∃ k : Nat, k ≤ 3 ∧ d2 = .int ((k : Nat) : Int) := by
        intro j hj d2 e
        match j, hj with
        | 0, _ => cases e; exact ⟨0, by decide, rfl⟩
        | 1, _ => cases e; exact ⟨1, by decide, rfl⟩
        | 2, _ => cases e; exact ⟨1, by decide, rfl⟩
        | 3, _ => cases e; exact ⟨2, by decide, rfl⟩
        | 4, _ => cases e; exact ⟨3, by decide, rfl⟩
      exact this j hj d2 e1
    subst ek
    cases e2
    refine ⟨p, xs, ((j : Nat) : Int), _, rfl, rfl, .of hp4, at_nat ex, ?_⟩
    exact fin _ (k : Nat) H4 gB4 S4 .int hk3
  | both a b =>
    have d1 : dep a < d := by simp only [dep] at hd; omega
    have d2 : dep b < d := by simp only [dep] at hd; omega
    refine no_ 0 _ _ _ H _ rfl rfl (by decide) B0 fun H1 g1 => no_ 1 _ _ _ H1 _ rfl rfl (by decide) (B0.trans g1) fun H2 g2 => yes_ 2 _ _ _ H2 _ rfl rfl (by decide) ((B0.trans g1).trans g2) fun H3 g3 => ?_
    have gB := ((B0.trans g1).trans g2).trans g3
    have S3 := ((S.stay g1).stay g2).stay g3
    refine s_ret ?_
    refine eq_tup2 (K := K) (T := T) (D := D) (C := C) (B := hid D C H) (P1 := fun r => ∃ x, r = .d (enc a x) ∧ Dv n a x) (P2 := fun r => ∃ x, r = .d (enc b x) ∧ Dv n b x) (R := fun _ _ => True) hid_D hid_C
      (eq_callQ (R := RDrawV d) hid_D hid_C (i := 0) rfl (ea_cons (ed_sub (n := 1) (ed_var (i := 1) rfl h1) ed_int rfl) (ea_cons (ed_var (i := 2) rfl .int) ea_nil)) (by intro d hd; simp only [List.mem_cons, List.not_mem_nil, or_false] at hd; rcases hd with rfl | rfl <;> rfl) ⟨a, n, rfl, hn, d1, hw.1, hmo.1, rfl⟩)
      (fun B2 e hD hC => eq_callQ (R := RDrawV d) hD hC (i := 0) rfl (ea_cons (ed_sub (n := 2) (ed_var (i := 1) rfl (dq_ext e h1)) ed_int rfl) (ea_cons (ed_var (i := 2) rfl .int) ea_nil)) (by intro d hd; simp only [List.mem_cons, List.not_mem_nil, or_false] at hd; rcases hd with rfl | rfl <;> rfl) ⟨b, n, rfl, hn, d2, hw.2, hmo.2, rfl⟩)
      (fun d ⟨x, e, _⟩ => ⟨_, e, noL_enc _ _⟩) (fun d ⟨x, e, _⟩ => ⟨_, e, noL_enc _ _⟩) H3 gB S3 _ fun v d' H4 gB4 gh S4 hv hP => ?_
    obtain ⟨x, y, rfl, ⟨x', ex, dx⟩, ⟨y', ey, dy⟩⟩ := hP
    cases ex
    cases ey
    exact fin v (x', y') H4 gB4 S4 hv ⟨dx, dy⟩
  | either a b =>
    have d1 : dep a < d := by simp only [dep] at hd; omega
    have d2 : dep b < d := by simp only [dep] at hd; omega
    refine no_ 0 _ _ _ H _ rfl rfl (by decide) B0 fun H1 g1 => no_ 1 _ _ _ H1 _ rfl rfl (by decide) (B0.trans g1) fun H2 g2 => no_ 2 _ _ _ H2 _ rfl rfl (by decide) ((B0.trans g1).trans g2) fun H3 g3 => yes_ 3 _ _ _ H3 _ rfl rfl (by decide) (((B0.trans g1).trans g2).trans g3) fun H4 g4 => ?_
    have gB := (((B0.trans g1).trans g2).trans g3).trans g4
    have S4 := (((S.stay g1).stay g2).stay g3).stay g4
    refine s_seq (s_asg ?_)
    refine eq_pick (K := K) (T := T) (B := hid D C H) (m := 2) hid_D hid_C rfl (by decide) H4 gB S4 _ fun nv d' H5 gB5 gh S5 hnv hP => ?_
    obtain ⟨j, rfl, hj⟩ := hP
    obtain rfl := dq_int hnv
    have hj : j < 2 := by omega
    have eB : LamX.ExtN (hid D C H) (hid D C H5) := base_hid hid_D hid_C gB5.ext
    have h15 := dq_ext eB h1
    dsimp only
    refine s_ret ?_
    have sides : EvP K T (tOp (rIxL K) (tLst (tCons (tC (.str "left")) (tCons (tC (.str "right")) tNil))) (tVar 3)) [some (.ref D), some v1, some (.int ((n : Nat) : Int)), some (.int ((j : Nat) : Int)), none, none] (hid D C H5) (fun r => r = .str (if j = 0 then "left" else "right")) := by
      have z := ed_ixL (K := K) (T := T) (H := hid D C H5) (σ := [some (.ref D), some v1, some (.int ((n : Nat) : Int)), some (.int ((j : Nat) : Int)), none, none]) (n := j) (dd := .str (if j = 0 then "left" else "right")) (EvL.toD (el_lst (as := [.str "left", .str "right"]) (ds := [.str "left", .str "right"]) (ea_cons ed_str (ea_cons ed_str ea_nil)) rfl (by simp))) (ed_var (i := 3) rfl .int) ?_ (fun _ z => nomatch z)
      · exact z
      · match j, hj with
        | 0, _ => rfl
        | 1, _ => rfl
    have sub_ : EvD K T (tOp (rIxT K) (tVar 1) (tOp (rI0 fun i j => .int (i + j)) (tC (.int 1)) (tVar 3))) [some (.ref D), some v1, some (.int ((n : Nat) : Int)), some (.int ((j : Nat) : Int)), none, none] (hid D C H5) (.s (if j = 0 then a else b)) := by
      refine ed_sub (n := 1 + j) (ed_var (i := 1) rfl h15) (ed_I0 (d := .int ((1 + j : Nat) : Int)) (ed_int (n := 1)) (ed_var (i := 3) rfl .int) fun _ => ?_) ?_
      · rw [Int.natCast_add]
        exact .int
      · match j, hj with
        | 0, _ => rfl
        | 1, _ => rfl
    have props : dep (if j = 0 then a else b) < d ∧ Wf (if j = 0 then a else b) ∧ Mo (if j = 0 then a else b) := by
      match j, hj with
      | 0, _ => exact ⟨d1, hw.1, hmo.1⟩
      | 1, _ => exact ⟨d2, hw.2, hmo.2⟩
    refine eq_tup2 (K := K) (T := T) (D := D) (C := C) (B := hid D C H5) (P1 := fun r => r = .str (if j = 0 then "left" else "right")) (P2 := fun r => ∃ x, r = .d (enc (if j = 0 then a else b) x) ∧ Dv n (if j = 0 then a else b) x) (R := fun _ _ => True) hid_D hid_C
      (eq_ofD hid_D hid_C sides fun d e => by rw [e]; rfl)
      (fun B2 e hD hC => eq_callQ (R := RDrawV d) hD hC (i := 0) rfl (ea_cons (fun H1 g => sub_ H1 ⟨e.trans g.ext, g.tab⟩) (ea_cons (ed_var (i := 2) rfl .int) ea_nil)) (by intro d hd; simp only [List.mem_cons, List.not_mem_nil, or_false] at hd; rcases hd with rfl | rfl <;> rfl) ⟨(if j = 0 then a else b), n, rfl, hn, props.1, props.2.1, props.2.2, rfl⟩)
      (fun d e => ⟨_, e, rfl⟩) (fun d ⟨x, e, _⟩ => ⟨_, e, noL_enc _ _⟩) H5 (hid_tab gB5.tab) S5 _ fun v d' H6 gB6 gh6 S6 hv hP => ?_
    have gBB : Gr T (hid D C H) H6 := ⟨eB.trans gB6.ext, gB6.tab⟩
    obtain ⟨x, y, rfl, ex, ⟨y', ey, dy⟩⟩ := hP
    cases ex
    cases ey
    match j, hj with
    | 0, _ => exact fin v (.inl y') H6 gBB S6 hv dy
    | 1, _ => exact fin v (.inr y') H6 gBB S6 hv dy
  | lane a =>
    have d1 : dep a < d := Nat.lt_of_succ_lt_succ hd
    refine no_ 0 _ _ _ H _ rfl rfl (by decide) B0 fun H1 g1 => no_ 1 _ _ _ H1 _ rfl rfl (by decide) (B0.trans g1) fun H2 g2 => no_ 2 _ _ _ H2 _ rfl rfl (by decide) ((B0.trans g1).trans g2) fun H3 g3 => no_ 3 _ _ _ H3 _ rfl rfl (by decide) (((B0.trans g1).trans g2).trans g3) fun H4 g4 => ?_
    have gB := (((B0.trans g1).trans g2).trans g3).trans g4
    have S4 := (((S.stay g1).stay g2).stay g3).stay g4
    refine s_seq (s_asg (rows a H4 d1 hw hmo rfl gB S4 _ fun L acc xs H' gB' S' nL hL dacc hl hG => ?_))
    have eB : LamX.ExtN (hid D C H) (hid D C H') := base_hid hid_D hid_C gB'.ext
    have hL' : hid D C H' L = some (.lst acc) := by rw [hid_ne (S'.neD hL) nL]; exact hL
    have sx : Dv n (.lane a) xs := ⟨hl, hG⟩
    dsimp only
    refine s_ret ((ed_call (K := K) (T := T) (R := RLForm (d + 1)) (H := hid D C H') (σ := [some (.ref D), some v1, some (.int ((n : Nat) : Int)), none, some (.ref L), none]) (ea_cons (ed_var (i := 1) rfl (dq_ext eB h1)) (ea_cons (ed_tupL (ed_var (i := 4) rfl (Dq.lst hL' dacc))) ea_nil)) ⟨.lane a, xs, rfl, hd, hw, sm_mono (by omega) (dv_sm sx), rfl⟩).run (hid_tab gB'.tab) fun v r H5 g5 hv e => ?_)
    subst e
    have S5 := S'.stay g5
    exact fin v _ H5 (gB'.trans g5) S5 (dq_hid S5 (d := .d _) (noL_enc _ _) hv) (dv_form sx)
  | heap a =>
    have d1 : dep a < d := Nat.lt_of_succ_lt_succ hd
    refine no_ 0 _ _ _ H _ rfl rfl (by decide) B0 fun H1 g1 => no_ 1 _ _ _ H1 _ rfl rfl (by decide) (B0.trans g1) fun H2 g2 => no_ 2 _ _ _ H2 _ rfl rfl (by decide) ((B0.trans g1).trans g2) fun H3 g3 => no_ 3 _ _ _ H3 _ rfl rfl (by decide) (((B0.trans g1).trans g2).trans g3) fun H4 g4 => ?_
    have gB := (((B0.trans g1).trans g2).trans g3).trans g4
    have S4 := (((S.stay g1).stay g2).stay g3).stay g4
    refine s_seq (s_asg (rows a H4 d1 hw hmo rfl gB S4 _ fun L acc xs H' gB' S' nL hL dacc hl hG => ?_))
    have eB : LamX.ExtN (hid D C H) (hid D C H') := base_hid hid_D hid_C gB'.ext
    have hL' : hid D C H' L = some (.lst acc) := by rw [hid_ne (S'.neD hL) nL]; exact hL
    have sx : Dv n (.heap a) xs := ⟨hl, hG⟩
    dsimp only
    refine s_ret ((ed_call (K := K) (T := T) (R := RLForm (d + 1)) (H := hid D C H') (σ := [some (.ref D), some v1, some (.int ((n : Nat) : Int)), none, some (.ref L), none]) (ea_cons (ed_var (i := 1) rfl (dq_ext eB h1)) (ea_cons (ed_tupL (ed_var (i := 4) rfl (Dq.lst hL' dacc))) ea_nil)) ⟨.heap a, xs, rfl, hd, hw, sm_mono (by omega) (dv_sm sx), rfl⟩).run (hid_tab gB'.tab) fun v r H5 g5 hv e => ?_)
    subst e
    have S5 := S'.stay g5
    exact fin v _ H5 (gB'.trans g5) S5 (dq_hid S5 (d := .d _) (noL_enc _ _) hv) (dv_form sx)
end
end K16

end K16R27Text
section K16R20Text
set_option autoImplicit false
set_option linter.all false
set_option maxRecDepth 100000
set_option Elab.async false
set_option pp.maxSteps 700
set_option pp.deepTerms false
set_option pp.deepTerms.threshold 4
namespace K16
open PySem PySem.Spec PyProof.Rows L2
abbrev sBothHeld : Stmt := topS 35
abbrev nBothHeld : List Str := ["sort", "v", "u", "found", "one"]
theorem scBothHeld : FnScope nBothHeld ["sort", "v", "u"] (defScope sBothHeld) := ⟨rfl, rfl, rfl, by decide +kernel, rfl, by decide +kernel, by decide +kernel⟩
abbrev sCommon : Stmt := topS 36
abbrev nCommon : List Str := ["sort", "some", "others", "found", "v", "u"]
theorem scCommon : FnScope nCommon ["sort", "some", "others"] (defScope sCommon) := ⟨rfl, rfl, rfl, by decide +kernel, rfl, by decide +kernel, by decide +kernel⟩
section
variable {P : Program} {w : World} {K : PySem.W.Frag} {mg : Str → Option Value} {base : Heap} {T : Tb} {aS CF : Addr}
theorem hasBothHeld (d k : Nat) (D : DefOk K mg "both_held" sBothHeld ["sort", "v", "u"]) (C : Cn K mg aS) (M : Bi mg) (TM : Tm K mg CF) (h_ways : Has P w K mg base k "ways" ["sort", "v", "u"] (spOf T K (RWays d))) (h_raw_both : Has P w K mg base k "raw_both" ["sort", "v", "u"] (spOf T K (RBoth d)))
    (h_is_formed : Has P w K mg base k "is_formed" ["sort", "value"] (spOf T K (RForm d))) : HasX P w K mg base (k + 1) "both_held" ["sort", "v", "u"] (spX T K CF (RBothX d)) := by
  have nd := scBothHeld.nd
  obtain ⟨tMW, hMW⟩ := C.mw
  refine D.hasX scBothHeld (fun vs H Q E h => ?_) fun f cdv A outer s H E vs Q hr h => ?_
  · obtain ⟨_, ds, ok, r, hv, ⟨s, x, y, rfl, _⟩, _⟩ := h
    rw [F2.length hv]
    rfl
  obtain ⟨hT, ds, ok, r, hv, ⟨so, x, y, rfl, hd, hw, sx, sy, hcap, rfl, rfl⟩, q, qE⟩ := h
  obtain ⟨v1, v2, v3, rfl, h1, h2, h3⟩ := dqa3 hv
  refine ⟨_, (pss_cons (ps_if (pt_cmpR op_gt (pe_has h_ways hr (by omega) (pa_cons (pv 0) (pa_cons (pv 1) (pa_cons (pv 2) pa_nil)))) (pe_glob (v := .int 500) rfl hMW ⟨tMW, rfl⟩) (nomark _)) (pss_one (ps_raise rfl (takes_of rfl rfl rfl rfl) (pmk_own0 PySem.F.excBase_ValueError TM.x TM.g TM.k (raises_own TM.b TM.t) rfl))) pss_nil)
    (pss_cons (ps_set (i := 3) nd rfl (Or.inl rfl) (pe_has h_raw_both hr (by omega) (pa_cons (pv 0) (pa_cons (pv 1) (pa_cons (pv 2) pa_nil)))))
    (pss_cons (ps_if (pt_not (pt_val (pe_callB (cr_all rfl) rfl (M.all) (by decide +kernel) (pa_cons (pe_lc (own := [("one", 4)]) rfl nd (pi_list (pv 3)) (blkOk_by (N := nBothHeld) (sc := (defScope sBothHeld)) (by decide +kernel)) (fun _ _ _ _ _ => (pg_name (i := 4) nd rfl (Or.inl rfl))) (fun _ _ _ _ _ => pts_nil) (fun _ _ _ _ _ => (pe_has h_is_formed hr (by omega) (pa_cons (pv 0) (pa_cons (pv 4) pa_nil))))) pa_nil)))) (pss_one (ps_raise rfl (takes_of rfl rfl rfl rfl) (pmk_own0 PySem.F.excBase_ValueError TM.x TM.g TM.k (raises_own TM.b TM.t) rfl))) pss_nil)
    (pss_one (ps_ret (pv 3)))))), ?_⟩
  have few := rawBoth_few so x y sx sy
  have h2000 : wcap so ≤ 2000 := hcap
  have wl := ways_le so x y sx sy
  refine s_seq (s_ifB (b := decide (((500 : Nat) : Int) < ((ways so x y : Nat) : Int))) (eb_test (ed_I0 (ed_call (K := K) (T := T) (R := RWays d) (ea_cons (ed_var (i := 0) rfl h1) (ea_cons (ed_var (i := 1) rfl h2) (ea_cons (ed_var (i := 2) rfl h3) ea_nil))) ⟨so, x, y, rfl, hd, hw, sx, sy, hcap, rfl⟩) (ed_int (n := 500)) fun _ => .bl)) (.refl hT) fun H1 g1 => ?_)
  by_cases c : ways so x y ≤ 500
  · rw [if_neg (by simp; omega)]
    have h1 := dq_ext g1.ext h1
    have h2 := dq_ext g1.ext h2
    have h3 := dq_ext g1.ext h3
    dsimp only [tNext]
    refine s_seq (s_asg ((ed_call (K := K) (T := T) (R := RBoth d) (ea_cons (ed_var (i := 0) rfl h1) (ea_cons (ed_var (i := 1) rfl h2) (ea_cons (ed_var (i := 2) rfl h3) ea_nil))) ⟨so, x, y, rfl, hd, hw, sx, sy, hcap, rfl⟩).run (.refl g1.tab) fun F r H2 g2 hF e => ?_))
    subst e
    have g12 := g1.trans g2
    have h1' := dq_ext g2.ext h1
    have all_ : EvB T (tNot (tTest (tCB (rAll K) (tCons (tLc (iList K (tVar 3)) (gName 4) tYes (tCall (spOf T K (RForm d)) [] E0 (tCons (tVar 0) (tCons (tVar 4) tNil))) [4]) tNil)))) ((start nBothHeld [v1, v2, v3]).set 3 (some F)) H2 (!((rawBoth so x y).all (isF so))) := by
      have z := ed_all (K := K) (T := T) (bs := (rawBoth so x y).map (isF so)) (EvL.toD (EvL.is (el_lcM (K := K) (T := T) (H := H2) (σ := (start nBothHeld [v1, v2, v3]).set 3 (some F)) (j := 4) (tl := tVar 3) (te := tCall (spOf T K (RForm d)) [] E0 (tCons (tVar 0) (tCons (tVar 4) tNil))) (vs := [4]) (rawBoth so x y) (enc so) (fun y => .bool (isF so y)) (ed_var rfl hF) (by omega) (by intro _; rfl) fun i y0 hy vv H3 g3 hvv => EvD.e (ed_call (ea_cons (ed_var rfl (dq_ext g3.ext h1')) (ea_cons (ed_var rfl (.of hvv (enc_nl _ _))) ea_nil)) ⟨so, y0, rfl, hd, hw, sm_mono (by omega) (few.2 y0 (List.mem_of_getElem? hy)), rfl⟩) rfl) (by rw [List.map_map]; rfl)))
      have e : ((rawBoth so x y).map (isF so)).all id = (rawBoth so x y).all (isF so) := by rw [List.all_map]; rfl
      rw [e] at z
      exact eb_not (eb_test z)
    dsimp only
    refine s_seq (s_ifB all_ g2.self fun H3 g3 => ?_)
    cases e : (rawBoth so x y).all (isF so) with
    | true =>
      rw [if_neg (by simp)]
      dsimp only [tNext]
      refine s_ret ⟨F, rfl, q ?_ F H3 (g12.trans g3) (dq_ext g3.ext hF)⟩
      unfold okBoth
      rw [e]
      simp [c]
    | false =>
      rw [if_pos (by simp)]
      refine qE ?_ H3 (g12.trans g3)
      unfold okBoth
      rw [e, Bool.and_false]
  · rw [if_pos (by simp; omega)]
    refine qE ?_ H1 g1
    unfold okBoth
    rw [decide_eq_false c]
    rfl
theorem hasCommon (d k : Nat) (hk : 17 + 3 * d ≤ k + 1) (D : DefOk K mg "common" sCommon ["sort", "some", "others"]) (C : Cn K mg aS) (M : Bi mg) (TM : Tm K mg CF) (h_both_held : HasX P w K mg base (k + 1) "both_held" ["sort", "v", "u"] (spX T K CF (RBothX d))) (h_least : Has P w K mg base (13 + 3 * d) "least" ["sort", "some"] (spN T K (RLeastN d))) :
    HasX P w K mg base (k + 2) "common" ["sort", "some", "others"] (spXN T K CF (RCom d)) := by
  have nd := scCommon.nd
  obtain ⟨tMV, hMV⟩ := C.mv
  refine D.hasX scCommon (fun vs H Q E h => ?_) fun f cdv A outer s H E vs Q hr h => ?_
  · obtain ⟨_, ds, ok, r, hv, ⟨s, x, y, rfl, _⟩, _⟩ := h
    rw [F2.length hv]
    rfl
  obtain ⟨hT, ds, ok, r, hv, ⟨so, xs, ys, rfl, hd, hw, sx, sy, lx, ly, hcap, rfl, rfl⟩, q, qE⟩ := h
  obtain ⟨v1, v2, v3, rfl, h1, h2, h3⟩ := dqa3 hv
  have hcap' : wcap so ≤ 2000 := hcap
  refine ⟨_, (pss_cons (ps_set (i := 3) nd rfl (Or.inl rfl) (pe_lst pa_nil))
    (pss_cons (ps_for (passes_of rfl) rfl (pi_list (pv 1)) (pg_name (i := 4) nd rfl (Or.inl rfl)) (pss_one (ps_for (passes_of rfl) rfl (pi_list (pv 2)) (pg_name (i := 5) nd rfl (Or.inl rfl)) (pss_one (ps_set (i := 3) nd rfl (Or.inl rfl) (pe_op op_cat (pv 3) (pe_hasX h_both_held hr (by omega) (passes_call (takes_of rfl rfl rfl rfl) fun _ _ _ _ h => h) (pa_cons (pv 0) (pa_cons (pv 4) (pa_cons (pv 5) pa_nil))))))))))
    (pss_cons (ps_set (i := 3) nd rfl (Or.inl rfl) (pe_has h_least hr (by omega) (pa_cons (pv 0) (pa_cons (pv 3) pa_nil))))
    (pss_cons (ps_if (pt_cmpR op_gt (pe_callB call_len_seq rfl (M.len) PySem.boot_len (pa_cons (pv 3) pa_nil)) (pe_glob (v := .int 60) rfl hMV ⟨tMV, rfl⟩) (nomark _)) (pss_one (ps_raise rfl (takes_of rfl rfl rfl rfl) (pmk_own0 PySem.F.excBase_ValueError TM.x TM.g TM.k (raises_own TM.b TM.t) rfl))) pss_nil)
    (pss_one (ps_ret (pv 3))))))), ?_⟩
  refine s_seq (s_asg ((el_lst (K := K) (T := T) (H := H) (σ := start nCommon [v1, v2, v3]) (as := []) (ds := []) ea_nil rfl (by simp)).run (.refl hT) fun F0 fs0 H1 nF0 g1 hF0 dF0 => ?_))
  obtain ⟨pa, as, rfl, hpa, das⟩ := h2
  obtain ⟨pb, bs, rfl, hpb, dbs⟩ := h3
  have hal := dps_len das
  have hbl := dps_len dbs
  rw [List.length_map] at hal hbl
  have tot : ∀ i j, ((xs.take i).flatMap fun v => (ys.take j).flatMap (rawBoth so v)).length ≤ 18000 := fun i j => by
    have z := flat_len (f := fun v => (ys.take j).flatMap (rawBoth so v)) (n := 6000) (xs.take i) fun v hv => by
      have z := flat_len (f := rawBoth so v) (n := 2000) (ys.take j) fun u hu => Nat.le_trans (rawBoth_few so v u (sx v (List.mem_of_mem_take hv)) (sy u (List.mem_of_mem_take hu))).1 hcap'
      rw [List.length_take] at z
      omega
    rw [List.length_take] at z
    omega
  dsimp only
  refine s_seq ⟨.ref pa, rfl, pa, rfl, ⟨as, .of (g1.stay hpa True.intro)⟩, for_list (xs := as) (fun i σ H' => ∃ (F : Addr) (fs : List V) (o4 o5 : Option V), σ = [some v1, some (.ref pa), some (.ref pb), some (.ref F), o4, o5] ∧ H' F = some (.lst fs) ∧ DpAll K H' fs (((xs.take i).flatMap fun v => ys.flatMap (rawBoth so v)).map (enc so)) ∧ (∀ v ∈ xs.take i, ∀ u ∈ ys, okBoth so v u = true) ∧ Gr T H H') ?_ ?_ ?_ ?_⟩
  · exact ⟨F0, fs0, none, none, rfl, hF0, by simpa using dF0, (by intro v hv; simp at hv), g1⟩
  · rintro i σ H' _ ⟨_, _, _, _, _, _, _, _, g⟩
    exact .of (g.stay hpa True.intro)
  · rintro i y σ H' hy ⟨F, fs, o4, o5, rfl, hF, dF, okp, g'⟩
    have hi : i < xs.length := by
      have := (List.getElem?_eq_some_iff.mp hy).1
      omega
    obtain ⟨d0, e1, e2⟩ := dps_at das hy
    obtain ⟨x0, ex⟩ : ∃ x0, xs[i]? = some x0 := ⟨_, List.getElem?_eq_getElem hi⟩
    rw [List.getElem?_map, ex] at e1
    cases e1
    have hx0 : Dq K H y (.d (enc so x0)) := .of e2 (enc_nl _ _)
    have mx0 := List.mem_of_getElem? ex
    have et : (xs.take (i + 1)).flatMap (fun v => ys.flatMap (rawBoth so v)) = (xs.take i).flatMap (fun v => ys.flatMap (rawBoth so v)) ++ ys.flatMap (rawBoth so x0) := by
      rw [List.take_add_one, ex, List.flatMap_append]
      simp
    have l0 : ((xs.take i).flatMap fun v => ys.flatMap (rawBoth so v)).length + (ys.flatMap (rawBoth so x0)).length ≤ 18000 := by
      have z := tot (i + 1) ys.length
      rw [List.take_length, et, List.length_append] at z
      exact z
    refine ⟨.ref pb, rfl, pb, rfl, ⟨bs, .of (g'.stay hpb True.intro)⟩, for_list (xs := bs) (fun j σ H'' => ∃ (F : Addr) (fs : List V) (o5 : Option V), σ = [some v1, some (.ref pa), some (.ref pb), some (.ref F), some y, o5] ∧ H'' F = some (.lst fs) ∧ DpAll K H'' fs (((xs.take i).flatMap (fun v => ys.flatMap (rawBoth so v)) ++ (ys.take j).flatMap (rawBoth so x0)).map (enc so)) ∧ (∀ u ∈ ys.take j, okBoth so x0 u = true) ∧ Gr T H H'') ?_ ?_ ?_ ?_⟩
    · exact ⟨F, fs, o5, rfl, hF, by simpa using dF, (by intro v hv; simp at hv), g'⟩
    · rintro j σ H' _ ⟨_, _, _, _, _, _, _, g⟩
      exact .of (g.stay hpb True.intro)
    · rintro j z0 σ H2 hz0 ⟨F, fs, o5, rfl, hF, dF, okq, g2⟩
      have hj : j < ys.length := by
        have := (List.getElem?_eq_some_iff.mp hz0).1
        omega
      obtain ⟨d1, e3, e4⟩ := dps_at dbs hz0
      obtain ⟨y0, ey⟩ : ∃ y0, ys[j]? = some y0 := ⟨_, List.getElem?_eq_getElem hj⟩
      rw [List.getElem?_map, ey] at e3
      cases e3
      have hy0 : Dq K H z0 (.d (enc so y0)) := .of e4 (enc_nl _ _)
      have my0 := List.mem_of_getElem? ey
      have ety : (ys.take (j + 1)).flatMap (rawBoth so x0) = (ys.take j).flatMap (rawBoth so x0) ++ rawBoth so x0 y0 := by
        rw [List.take_add_one, ey, List.flatMap_append]
        simp
      have l1 : ((ys.take j).flatMap (rawBoth so x0)).length + (rawBoth so x0 y0).length ≤ (ys.flatMap (rawBoth so x0)).length := by
        have z := flat_take_len (rawBoth so x0) ys (j + 1)
        rw [ety, List.length_append] at z
        exact z
      refine s_asg ?_
      refine ⟨.ref F, rfl, ?_⟩
      refine (ea_cons (ed_var (i := 0) (σ := [some v1, some (.ref pa), some (.ref pb), some (.ref F), some y, some z0]) rfl (dq_ext g2.ext h1)) (ea_cons (ed_var (i := 4) rfl (dq_ext g2.ext hx0)) (ea_cons (ed_var (i := 5) rfl (dq_ext g2.ext hy0)) ea_nil)) : EvA K T _ _ H2 _).run g2.self fun us H3 g3 hus => ?_
      show spX T K CF (RBothX d) (us ++ []) H3 _ _
      rw [List.append_nil]
      refine ⟨g3.tab, _, _, _, hus, ⟨so, x0, y0, rfl, hd, hw, sx x0 mx0, sy y0 my0, hcap, rfl, rfl⟩, fun ok v H4 g4 hv => ?_, fun ok H4 g4 => qE ?_ H4 ((g2.trans g3).trans g4)⟩
      · obtain ⟨c, zs, rfl, k1, k2⟩ := hv
        have hF4 := (g3.trans g4).stay hF True.intro
        refine ⟨F, c, fs, zs, rfl, rfl, hF4, k1, ?_, fun p hp => ?_⟩
        · rw [dps_len dF, dps_len k2, List.length_map, List.length_map, List.length_append]
          exact sz (by omega)
        · refine ⟨p, fs ++ zs, some z0, rfl, upd_same, ?_, fun u hu => ?_, ((g2.trans g3).trans g4).add hp⟩
          · rw [ety, ← List.append_assoc, List.map_append]
            exact dps_ext (Gr.new (T := T) g4.tab hp).ext (dps_app (dps_ext (g3.trans g4).ext dF) k2)
          · rw [List.take_add_one, ey] at hu
            rcases List.mem_append.mp hu with h | h
            · exact okq u h
            · have : u = y0 := by simpa using h
              rw [this]
              exact ok
      · unfold okCommon
        have : (xs.all fun v => ys.all fun u => okBoth so v u) = false := by
          rw [Bool.eq_false_iff]
          intro z
          have z1 := List.all_eq_true.mp (List.all_eq_true.mp z x0 mx0) y0 my0
          rw [ok] at z1
          cases z1
        rw [this]
        rfl
    · rintro σ H2 ⟨F, fs, o5, rfl, hF, dF, okq, g2⟩
      rw [hbl, List.take_length] at dF okq
      refine ⟨F, fs, some y, o5, rfl, hF, ?_, fun v hv => ?_, g2⟩
      · rw [et]
        exact dF
      · rw [List.take_add_one, ex] at hv
        rcases List.mem_append.mp hv with h | h
        · exact okp v h
        · have : v = x0 := by simpa using h
          rw [this]
          exact okq
  · rintro σ H' ⟨F, fs, o4, o5, rfl, hF, dF, okp, g'⟩
    rw [hal, List.take_length] at dF okp
    have all_ : (xs.all fun v => ys.all fun u => okBoth so v u) = true := List.all_eq_true.mpr fun v hv => List.all_eq_true.mpr fun u hu => okp v hv u hu
    have len := tot xs.length ys.length
    rw [List.take_length, List.take_length] at len
    dsimp only
    refine s_seq (s_asg ((el_callN (K := K) (T := T) (H := H') (R := RLeastN d) (σ := [some v1, some (.ref pa), some (.ref pb), some (.ref F), o4, o5]) (ea_cons (ed_var (i := 0) rfl (dq_ext g'.ext h1)) (ea_cons (ed_var (i := 3) (d := Lst so (xs.flatMap fun v => ys.flatMap (rawBoth so v))) rfl (Dq.lst hF dF)) ea_nil)) ⟨so, xs.flatMap fun v => ys.flatMap (rawBoth so v), rfl, hd, hw, ⟨by omega, fun m hm => ?_⟩, rfl⟩).run g'.self fun L ls H2 nL g2 hL dL => ?_))
    · obtain ⟨v, hv, hm⟩ := List.mem_flatMap.mp hm
      obtain ⟨u, hu, hm⟩ := List.mem_flatMap.mp hm
      exact sm_mono (by omega) ((rawBoth_few so v u (sx v hv) (sy u hu)).2 m hm)
    have g02 := g'.trans g2
    have dL : DpAll K H2 ls ((rawCommon so xs ys).map (enc so)) := dL
    have cnt : EvB T (tTest (tOp (rI0 fun i j => .bl (decide (j < i))) (tCB (fun xs H Q => ∃ p n, xs = [V.ref p] ∧ ((SqL K H p n) ∨ SqT K H p n) ∧ Q (.int n.length) H) (tCons (tVar 3) tNil)) (tC (.int 60)))) [some v1, some (.ref pa), some (.ref pb), some (.ref L), o4, o5] H2 (decide (((60 : Nat) : Int) < (((rawCommon so xs ys).length : Nat) : Int))) := by
      have z := ed_lenL (T := T) (ed_var (T := T) (K := K) (σ := [some v1, some (.ref pa), some (.ref pb), some (.ref L), o4, o5]) (i := 3) rfl (Dq.lst hL dL))
      rw [List.length_map] at z
      exact eb_test (K := K) (ed_I0 z (ed_int (n := 60)) fun _ => .bl)
    dsimp only
    refine s_seq (s_ifB cnt g2.self fun H3 g3 => ?_)
    by_cases c : (rawCommon so xs ys).length ≤ 60
    · rw [if_neg (by simp; omega)]
      dsimp only [tNext]
      refine s_ret ⟨.ref L, rfl, q ?_ L ls H3 (g'.nn nL) (g02.trans g3) (g3.stay hL True.intro) (dps_ext g3.ext dL)⟩
      unfold okCommon
      rw [all_]
      simp [c]
    · rw [if_pos (by simp; omega)]
      refine qE ?_ H3 (g02.trans g3)
      unfold okCommon
      rw [decide_eq_false c, Bool.and_false]
end
end K16

end K16R20Text
section K16R28Text
set_option autoImplicit false
set_option linter.all false
set_option maxRecDepth 100000
set_option Elab.async false
set_option pp.maxSteps 700
set_option pp.deepTerms false
set_option pp.deepTerms.threshold 4
namespace K16
open PySem PySem.Spec PyProof.Rows L2
abbrev sLawSome : Stmt := topS 53
abbrev nLawSome : List Str := ["_law_source", "_law_sort", "_law_lap"]
theorem scLawSome : FnScope nLawSome ["_law_source", "_law_sort"] (defScope sLawSome) := ⟨rfl, rfl, rfl, by decide +kernel, rfl, by decide +kernel, by decide +kernel⟩
abbrev sLawMet : Stmt := topS 54
abbrev nLawMet : List Str := ["_law_sort", "_law_some_here", "_law_others"]
theorem scLawMet : FnScope nLawMet ["_law_sort", "_law_some_here", "_law_others"] (defScope sLawMet) := ⟨rfl, rfl, rfl, by decide +kernel, rfl, by decide +kernel, by decide +kernel⟩
theorem dv_mono : ∀ {s : So} {n m : Nat} {v : Va s}, n ≤ m → Dv n s v → Dv m s v
  | .mark _, _, _, _, _, _ => True.intro
  | .count, _, _, _, _, h => h
  | .both a b, _, _, v, h, q => ⟨dv_mono h q.1, dv_mono h q.2⟩
  | .either a b, _, _, .inl v, h, q => dv_mono (s := a) h q
  | .either a b, _, _, .inr v, h, q => dv_mono (s := b) h q
  | .lane a, n, m, v, h, q => ⟨Nat.le_trans q.1 h, fun y hy => dv_mono (by omega) (q.2 y hy)⟩
  | .heap a, n, m, v, h, q => ⟨Nat.le_trans q.1 h, fun y hy => dv_mono (by omega) (q.2 y hy)⟩
def RTogN (d : Nat) (ds : List De) (out : List PyData) : Prop := ∃ (s : So) (us vs : List (Va s)), ds = [.s s, Lst s us, Lst s vs] ∧ dep s < d ∧ Wf s ∧ Vok s us ∧ Vok s vs ∧ us.length + vs.length ≤ 20000 ∧ out = (least s (us ++ vs)).map (enc s)
def RSome (d : Nat) (ds : List De) (P : De → Prop) : Prop := ∃ s : So, ds = [.s s] ∧ dep s < d ∧ Wf s ∧ Mo s ∧ P = fun r => ∃ xs : List (Va s), r = Lst s xs ∧ xs.length ≤ 3 ∧ ∀ x ∈ xs, Dv 2 s x
/-- a list, or None -/
def spMet (T : Tb) (K : PySem.W.Frag) (R : List De → Bool → List PyData → Prop) : Sp := fun vs H Q _ => LamX.Tabs T H ∧ ∃ ds ok out, DqA K H vs ds ∧ R ds ok out ∧ (ok = true → ∀ p xs H', Nw H p → Gr T H H' → H' p = some (.lst xs) → DpAll K H' xs out → Q (.ref p) H') ∧ (ok = false → ∀ H', Gr T H H' → Q .non H')
section
variable {K : PySem.W.Frag} {T : Tb} {H H1 B : Hp} {σ : L2.St} {te ta tb : TE} {tA : TA} {D C L : Addr} {R : List De → (De → Prop) → Prop} {P : De → Prop} {E : XK} {i : Nat}
/-- arguments told weakly -/
theorem eq_callW {A : List De → Prop} (hD : B D = none) (hC : B C = none) (hσ : σ[i]? = some (some (.ref D))) (ha : ∀ H1, Gr T B H1 → ∀ Q : List V → Hp → Prop, (∀ us ds H2, Gr T H1 H2 → DqA K H2 us ds → A ds → Q us H2) → tA σ H1 Q) (hR : ∀ ds, A ds → (∀ d ∈ ds, nlD d = true) ∧ ∃ P0, R ds P0 ∧ ∀ r, P0 r → P r) : EvQ K T D C (tCall (spS T K R) [] E (tCons (tVar i) tA)) σ B P := fun H1 g S Q q =>
  ⟨_, hσ, ha H1 g _ fun us ds H2 g2 hus hA => by
    show spS T K R ((.ref D :: us) ++ []) H2 Q E
    rw [List.append_nil]
    have S2 := S.stay g2
    obtain ⟨n, P0, hr, imp⟩ := hR ds hA
    refine ⟨g2.tab, D, C, us, ds, P0, rfl, S2, dqa_hid S2 n hus, hr, fun v d H3 g3 S3 hv p => q v d H3 ?_ ?_ S3 hv (imp d p)⟩
    · exact ⟨(base_hid hD hC (g.trans g2).ext).trans g3.ext, g3.tab⟩
    · exact ⟨(hid_ext g2.ext).trans g3.ext, g3.tab⟩⟩
end
section
variable {P : Program} {w : World} {K : PySem.W.Frag} {mg : Str → Option Value} {base : Heap} {T : Tb} {aS CF : Addr}
theorem hasTogetherN (d : Nat) (D : DefOk K mg "together" sTogether ["sort", "some", "others"]) (M : Bi mg) (h_least : Has P w K mg base (13 + 3 * d) "least" ["sort", "some"] (spN T K (RLeastN d))) :
    Has P w K mg base (14 + 3 * d) "together" ["sort", "some", "others"] (spN T K (RTogN d)) := by
  have nd := scTogether.nd
  refine D.pureN (13 + 3 * d) scTogether (fun ds Pd h => ?_) fun f cdv A outer s H E vs ds Pd hr hT hv hR => ?_
  · obtain ⟨s, x, v, rfl, _⟩ := h
    rfl
  obtain ⟨so, us, vs, rfl, hd, hw, hus, hvs, hl, rfl⟩ := hR
  obtain ⟨v1, v2, v3, rfl, h1, h2, h3⟩ := dqa3 hv
  refine ⟨_, (pss_one (ps_ret (pe_has h_least hr (by omega) (pa_cons (pv 0) (pa_cons (pe_op op_cat (pe_callTy call_list_of rfl (M.list) (by decide +kernel) (pa_cons (pv 1) pa_nil)) (pe_callTy call_list_of rfl (M.list) (by decide +kernel) (pa_cons (pv 2) pa_nil))) pa_nil))))), ?_⟩
  refine rn_ret ?_
  refine el_callN (R := RLeastN d) (ea_cons (ed_var rfl h1) (ea_cons (EvD.is (d1 := Lst so (us ++ vs)) (el_cat (el_ofL (ed_var rfl h2)).toD (el_ofL (ed_var rfl h3)).toD (by rw [List.length_map, List.length_map]; omega)).toD ?_) ea_nil)) ⟨so, us ++ vs, rfl, hd, hw, ⟨by rw [List.length_append]; exact hl, fun x hx => ?_⟩, rfl⟩
  · unfold Lst
    rw [List.map_append]
  · rcases List.mem_append.mp hx with hx | hx
    · exact hus.2 x hx
    · exact hvs.2 x hx
theorem hasMet (d k : Nat) (D : DefOk K mg "_law_met" sLawMet ["_law_sort", "_law_some_here", "_law_others"]) (TM : Tm K mg CF) (h_common : HasX P w K mg base k "common" ["sort", "some", "others"] (spXN T K CF (RCom d))) :
    Has P w K mg base (k + 1) "_law_met" ["_law_sort", "_law_some_here", "_law_others"] (spMet T K (RCom d)) := by
  have nd := scLawMet.nd
  refine D.has scLawMet (fun vs H Q E h => ?_) fun f cdv A outer s H E vs Q hr h => ?_
  · obtain ⟨_, ds, ok, out, hv, ⟨so, x, y, rfl, _⟩, _⟩ := h
    rw [F2.length hv]
    rfl
  obtain ⟨hT, ds, ok, out, hv, hR, q1, q2⟩ := h
  have hR' := hR
  obtain ⟨so, xs, ys, rfl, _⟩ := hR'
  obtain ⟨v1, v2, v3, rfl, h1, h2, h3⟩ := dqa3 hv
  refine ⟨_, pss_one (ps_try_only (tb := fun W => tRet (tCallS (spXN T K CF (RCom d)) (WE W) (tCons (tVar 0) (tCons (tVar 1) (tCons (tVar 2) tNil))))) (ts := fun _ _ _ => tRet (tC .non)) (Wout := fun _ _ _ _ => False) rfl rfl ⟨rfl, by decide, Or.inl TM.g⟩ takes0
    (fun W pn xe tk _ => pss_one (ps_ret (pe_hasS h_common hr (by omega) (fun σ => passAt tk σ) (by exact pa_cons (pv 0) (pa_cons (pv 1) (pa_cons (pv 2) pa_nil))))))
    (fun _ _ _ _ _ _ _ => pss_one (ps_ret pe_non))), ?_⟩
  show tRet _ _ _ _
  refine s_ret ?_
  refine (ea_cons (ed_var (i := 0) (σ := start nLawMet [v1, v2, v3]) rfl h1) (ea_cons (ed_var (i := 1) rfl h2) (ea_cons (ed_var (i := 2) rfl h3) ea_nil)) : EvA K T _ _ H _).run (.refl hT) fun us H2 g2 hus => ?_
  refine ⟨g2.tab, _, ok, out, hus, hR, fun e p zs H3 n g3 hp dp => q1 e p zs H3 (g2.nn n) (g2.trans g3) hp dp, fun e H3 g3 => ?_⟩
  exact ⟨true, TM.e, fun _ a ha => s_ret (q2 e H3 (g2.trans g3)), fun z => nomatch z⟩
theorem hasSome (d k : Nat) (hk : 1 ≤ k) (D : DefOk K mg "_law_some" sLawSome ["_law_source", "_law_sort"]) (M : Bi mg) (h__law_pick : Has P w K mg base 1 "_law_pick" ["_law_source", "_law_many"] (spS T K RPick)) (h__law_much : Has P w K mg base 1 "_law_much" ["_law_sort"] (spOf T K RMuch))
    (h__law_draw_value : Has P w K mg base k "_law_draw_value" ["_law_source", "_law_sort", "_law_most"] (spS T K (RDrawV d))) :
    Has P w K mg base (k + 1) "_law_some" ["_law_source", "_law_sort"] (spS T K (RSome d)) := by
  have nd := scLawSome.nd
  refine D.has scLawSome (fun vs H Q E h => ?_) fun f cdv A outer s H E vs Q hr hsp => ?_
  · obtain ⟨_, D, C, us, ds, Pd, rfl, _, hus, ⟨so, rfl, _⟩, _⟩ := h
    obtain ⟨x, rfl, _⟩ := dqa1 hus
    rfl
  obtain ⟨hT, D, C, us, ds, Pd, rfl, S, hus, ⟨so, rfl, hd, hw, hmo, rfl⟩, q⟩ := hsp
  obtain ⟨v1, rfl, h1⟩ := dqa1 hus
  refine ⟨_, (pss_one (ps_ret (pe_lc (own := [("_law_lap", 2)]) rfl nd (pi_range1 rfl (M.range) (pa_cons (pe_has h__law_pick hr (by omega) (pa_cons (pv 0) (pa_cons pe_int pa_nil))) pa_nil)) (blkOk_by (N := nLawSome) (sc := (defScope sLawSome)) (by decide +kernel)) (fun _ _ _ _ _ => (pg_name (i := 2) nd rfl (Or.inl rfl))) (fun _ _ _ _ _ => pts_nil) (fun _ _ _ _ _ => (pe_has h__law_draw_value hr (by omega) (pa_cons (pv 0) (pa_cons (pv 1) (pa_cons (pe_has h__law_much hr (by omega) (pa_cons (pv 1) pa_nil)) pa_nil)))))))), ?_⟩
  refine s_ret (eq_draws (K := K) (T := T) (D := D) (C := C) (B := hid D C H) (j := 2) (k := 3) (enc so) (Dv 2 so) hid_D hid_C ((eq_pick (m := 4) hid_D hid_C (i := 0) rfl (by decide)).imp fun d ⟨j, e, hj⟩ => ⟨j, e, by omega⟩) (by omega) (by intro _; rfl) (fun i B2 e hD hC => ?_) (fun x => noL_enc so x) H (hid_tab hT) S _ fun L acc xs H' gB gh S' nL hL dacc hl hG => ?_)
  · refine eq_callW (R := RDrawV d) (A := fun ds => ∃ n : Nat, n ≤ 2 ∧ ds = [.s so, .int ((n : Nat) : Int)]) (P := fun r => ∃ x, r = .d (enc so x) ∧ Dv 2 so x) hD hC (i := 0) rfl (fun H1 g Q q => ?_) fun ds ⟨n, hn, e⟩ => ?_
    · refine (ed_var (K := K) (T := T) (i := 1) (σ := [some (.ref D), some v1, some (.int ((i : Nat) : Int))]) rfl (dq_ext e h1)).run g fun v H2 g2 hv => ?_
      refine (ed_call (K := K) (T := T) (R := RMuch) (H := B2) (σ := [some (.ref D), some v1, some (.int ((i : Nat) : Int))]) (ea_cons (ed_var (i := 1) rfl (dq_ext e h1)) ea_nil) ⟨so, rfl, rfl⟩).run (g.trans g2) fun w r H3 g3 hw ⟨n, er, hn⟩ => ?_
      subst er
      exact q _ [.s so, .int ((n : Nat) : Int)] H3 (g2.trans g3) (.cons (dq_ext g3.ext hv) (.cons hw .nil)) ⟨n, hn, rfl⟩
    · subst e
      refine ⟨by intro d hd; simp only [List.mem_cons, List.not_mem_nil, or_false] at hd; rcases hd with rfl | rfl <;> rfl, ?_⟩
      exact ⟨_, ⟨so, n, rfl, by omega, hd, hw, hmo, rfl⟩, fun r ⟨x, e, hx⟩ => ⟨x, e, dv_mono hn hx⟩⟩
  · exact q (.ref L) (Lst so xs) H' gB S' (Dq.lst (by rw [hid_ne (S'.neD hL) nL]; exact hL) dacc) ⟨xs, rfl, hl, hG⟩
end
end K16

end K16R28Text
section K16ZText
set_option autoImplicit false
set_option linter.all false
set_option maxRecDepth 100000
set_option Elab.async false
/-! What the law's comparisons ask of values as data. -/
namespace K16
open PySem PySem.Spec PyProof.Rows L2
/-- letters that may be laid -/
def Sk : So → Prop
  | .mark ls => ∀ x ∈ ls, PyData.strOk x = true
  | .count => True
  | .both a b => Sk a ∧ Sk b
  | .either a b => Sk a ∧ Sk b
  | .lane a => Sk a
  | .heap a => Sk a
theorem lay_side : PyData.strOk ("left" : Str) = true ∧ PyData.strOk ("right" : Str) = true := by decide +kernel
theorem layAll {A : Type} (f : A → PyData) : ∀ l : List A, (∀ x ∈ l, (f x).canLay0 = true) → PyData.canLayAll0 (l.map f) = true
  | [], _ => rfl
  | x :: l, h => by
    show ((f x).canLay0 && PyData.canLayAll0 (l.map f)) = true
    rw [h x List.mem_cons_self, layAll f l fun y hy => h y (List.mem_cons_of_mem _ hy)]
    rfl
theorem lay_enc : ∀ (s : So) (v : Va s), Sk s → (enc s v).canLay0 = true
  | .mark ls, v, h => h _ (List.get_mem ls v)
  | .count, v, _ => rfl
  | .both a b, v, h => by
    show ((enc a v.1).canLay0 && ((enc b v.2).canLay0 && true)) = true
    rw [lay_enc a v.1 h.1, lay_enc b v.2 h.2]
    rfl
  | .either a b, .inl v, h => by
    show (PyData.strOk ("left" : Str) && ((enc a v).canLay0 && true)) = true
    rw [lay_side.1, lay_enc a v h.1]
    rfl
  | .either a b, .inr v, h => by
    show (PyData.strOk ("right" : Str) && ((enc b v).canLay0 && true)) = true
    rw [lay_side.2, lay_enc b v h.2]
    rfl
  | .lane a, v, h => layAll (enc a) v fun x _ => lay_enc a x h
  | .heap a, v, h => layAll (enc a) v fun x _ => lay_enc a x h
theorem depAll {A : Type} (f : A → PyData) (n : Nat) : ∀ l : List A, (∀ x ∈ l, (f x).depth ≤ n) → PyData.depthAll (l.map f) ≤ n
  | [], _ => Nat.zero_le _
  | x :: l, h => by
    show max (f x).depth (PyData.depthAll (l.map f)) ≤ n
    have h1 := h x List.mem_cons_self
    have h2 := depAll f n l fun y hy => h y (List.mem_cons_of_mem _ hy)
    omega
theorem dep_enc : ∀ (s : So) (v : Va s), (enc s v).depth ≤ dep s
  | .mark ls, v => Nat.zero_le _
  | .count, v => Nat.zero_le _
  | .both a b, v => by
    have h1 := dep_enc a v.1
    have h2 := dep_enc b v.2
    show max (enc a v.1).depth (max (enc b v.2).depth 0) + 1 ≤ max (dep a) (dep b) + 1
    omega
  | .either a b, .inl v => by
    have h1 := dep_enc a v
    show max 0 (max (enc a v).depth 0) + 1 ≤ max (dep a) (dep b) + 1
    omega
  | .either a b, .inr v => by
    have h1 := dep_enc b v
    show max 0 (max (enc b v).depth 0) + 1 ≤ max (dep a) (dep b) + 1
    omega
  | .lane a, v => Nat.succ_le_succ (depAll (enc a) (dep a) v fun x _ => dep_enc a x)
  | .heap a, v => Nat.succ_le_succ (depAll (enc a) (dep a) v fun x _ => dep_enc a x)
theorem shaped_lst {s : So} (h : Sk s) (hd : dep s < 60) (l : List (Va s)) : SeqAt.shaped (.list (l.map (enc s))) = true := by
  unfold SeqAt.shaped
  rw [Bool.and_eq_true]
  refine ⟨layAll (enc s) l fun x _ => lay_enc s x h, decide_eq_true ?_⟩
  have := depAll (enc s) (dep s) l fun x _ => dep_enc s x
  show PyData.depthAll (l.map (enc s)) + 1 ≤ 64
  omega
theorem eqv_lst {s : So} (h : Wf s) : ∀ l : List (Va s), PyData.eqv (.list (l.map (enc s))) (.list (l.map (enc s))) = true := fun l => by
  have all : ∀ l : List (Va s), PyData.eqvAll (l.map (enc s)) (l.map (enc s)) = true := by
    intro l
    induction l with
    | nil => simp [PyData.eqvAll]
    | cons x l ih =>
      rw [List.map_cons, PyData.eqvAll, ih, eqv_enc s h x x]
      simp
  rw [PyData.eqv]
  exact all l
theorem eqv_nil {s : So} (l : List (Va s)) : PyData.eqv (.list (l.map (enc s))) (.list []) = decide (l = []) := by
  rw [PyData.eqv]
  cases l with
  | nil => simp [PyData.eqvAll]
  | cons x l => simp [PyData.eqvAll]
theorem drawn_more {s : So} (h : Drawn s) : Sk s ∧ Mo s := by
  obtain ⟨ls, h1, h2⟩ := h
  have wl : ∀ x ∈ ls, PyData.strOk x = true := by
    have : ∀ ls ∈ lss, ∀ x ∈ ls, PyData.strOk x = true := by decide +kernel
    exact this ls h1
  have wm : ls.length < 1000000 := by
    have : ∀ ls ∈ lss, ls.length < 1000000 := by decide +kernel
    exact this ls h1
  have all : ∀ s ∈ mks (.mark ls), Sk s ∧ Mo s := by
    intro s hs
    simp only [mks, mk1, mk2, mk3, mk4, List.cons_append, List.nil_append, List.mem_cons, List.not_mem_nil, or_false] at hs
    rcases hs with rfl | rfl | rfl | rfl | rfl | rfl | rfl | rfl | rfl | rfl | rfl | rfl | rfl | rfl | rfl | rfl | rfl | rfl | rfl | rfl | rfl
    all_goals exact ⟨by simp only [Sk, and_true, true_and, and_self]; try exact wl, by simp only [Mo, and_true, true_and, and_self]; try exact wm⟩
  exact all s h2
theorem rawCommon_small {s : So} {xs ys : List (Va s)} (hx : ∀ v ∈ xs, Sm 2 s v) (hy : ∀ u ∈ ys, Sm 2 s u) : ∀ m ∈ rawCommon s xs ys, Sm 4 s m := fun m hm => by
  have hm := mem_least hm
  obtain ⟨v, hv, hm⟩ := List.mem_flatMap.mp hm
  obtain ⟨u, hu, hm⟩ := List.mem_flatMap.mp hm
  exact (rawBoth_few s v u (hx v hv) (hy u hu)).2 m hm
end K16

end K16ZText
section K16T1Text
set_option autoImplicit false
set_option linter.all false
set_option maxRecDepth 100000
set_option Elab.async false
/-! Sets' tables: that searches end, that tables can be laid anew; up to 512 slots. -/
namespace K16
open PySem PySem.Spec PyProof.Rows L2
def Mk4 (m : Nat) : Prop := m = 7 ∨ m = 31 ∨ m = 127 ∨ m = 511
/-- the round of i -> 5 i + 1 over 512 -/
def orb : Nat → Nat → List Nat
  | 0, _ => []
  | n + 1, i => i :: orb n ((i * 5 + 1) % 512)
theorem orb_all : ((List.range 512).all fun j => (orb 512 0).contains j) = true := by decide +kernel
theorem orb_mem {j : Nat} : ∀ (n i c : Nat), i = lcgN 511 c → j ∈ orb n i → ∃ b, b < c + n ∧ lcgN 511 b = j
  | 0, _, _, _, h => by cases h
  | n + 1, i, c, hi, h => by
    rcases List.mem_cons.mp h with e | h
    · exact ⟨c, by omega, by rw [e, hi]⟩
    · obtain ⟨b, h1, h2⟩ := orb_mem n _ (c + 1) (by rw [hi]; rfl) h
      exact ⟨b, by omega, h2⟩
theorem lcg512 {j : Nat} (hj : j ≤ 511) : ∃ b, b ≤ 511 ∧ lcgN 511 b = j := by
  have h := List.all_eq_true.mp orb_all j (List.mem_range.mpr (by omega))
  have h : j ∈ orb 512 0 := by simpa using h
  obtain ⟨b, h1, h2⟩ := orb_mem 512 0 0 rfl h
  exact ⟨b, by omega, h2⟩
theorem lcg512_round : lcgN 511 512 = 0 := by decide +kernel
theorem lcg512_mod : ∀ k, lcgN 511 (512 + k) = lcgN 511 k
  | 0 => lcg512_round
  | k + 1 => by
    show (lcgN 511 (512 + k) * 5 + 1) % (511 + 1) = (lcgN 511 k * 5 + 1) % (511 + 1)
    rw [lcg512_mod k]
theorem lcgI512 {i j : Nat} (hi : i ≤ 511) (hj : j ≤ 511) : ∃ k, k ≤ 511 ∧ lcgI 511 i k = j := by
  obtain ⟨a, ha, ea⟩ := lcg512 hi
  obtain ⟨b, hb, eb⟩ := lcg512 hj
  rw [← ea]
  by_cases c : a ≤ b
  · exact ⟨b - a, by omega, by rw [lcgN_add, show a + (b - a) = b by omega, eb]⟩
  · exact ⟨512 + b - a, by omega, by rw [lcgN_add, show a + (512 + b - a) = 512 + b by omega, lcg512_mod, eb]⟩
/-- each slot begins a run -/
theorem runs4 {m : Nat} (hm : Mk4 m) (h : Int) {j : Nat} (hj : j ≤ m) : ∃ n, n ≤ m + 12 ∧ runI m (SetTable.bits h) n = j := by
  rcases hm with e | e | e | e
  · exact run_meets (.inl e) h hj
  · exact run_meets (.inr (.inl e)) h hj
  · exact run_meets (.inr (.inr e)) h hj
  · subst e
    obtain ⟨k, hk, e⟩ := lcgI512 (runI_le 511 (SetTable.bits h) 12) hj
    exact ⟨12 + k, by omega, by rw [runI_tail (bits_lt h)]; exact e⟩
/-- the n-th slot of a search -/
abbrev wy (m : Nat) (h : Int) (k : Nat) : Nat := (nth m (runAt m (SetTable.bits h % (m + 1)) (SetTable.bits h)) k).j
theorem wy_meets {m : Nat} (hm : Mk4 m) (h : Int) {j : Nat} (hj : j ≤ m) : ∃ k, k < 10 * SetTable.turns m ∧ wy m h k = j := by
  obtain ⟨n, hn, e⟩ := runs4 hm h hj
  obtain ⟨k, hk, e2⟩ := run_nth m (SetTable.bits h) n
  refine ⟨k, by unfold SetTable.turns; omega, ?_⟩
  show (nth m (runAt m (SetTable.bits h % (m + 1)) (SetTable.bits h)) k).j = j
  rw [e2]
  exact e
theorem wy_bd (m : Nat) (h : Int) (k : Nat) : wy m h k ≤ m := by
  have hi : SetTable.bits h % (m + 1) ≤ m := Nat.le_of_lt_succ (Nat.mod_lt _ (Nat.succ_pos _))
  have r := runEnd_bd hi
  have q := nth_in (m := m) k (runAt m (SetTable.bits h % (m + 1)) (SetTable.bits h)) (by
    show SetTable.bits h % (m + 1) + (SetTable.runEnd m (SetTable.bits h % (m + 1)) - SetTable.bits h % (m + 1)) ≤ m
    omega)
  exact Nat.le_trans (Nat.le_add_right _ _) q
theorem nodum (m : Nat) : ∀ (k : Nat) (p : SetTable.Probe), p.dummy = none → (nth m p k).dummy = none
  | 0, _, h => h
  | k + 1, p, h => nodum m k (adv m p) (by unfold adv; split <;> exact h)
/-- what a probe answers, an empty slot ahead -/
theorem go_ends (t : SetTable) (r : Ris t.place.toList) (hd : t.dummies = #[]) (hashAt : Nat → Int) (h : Int) : ∀ (f K : Nat) (p : SetTable.Probe), p.dummy = none → K < f → (nth t.mask p K).j ∉ t.place.toList →
    (∃ k, k ≤ K ∧ (nth t.mask p k).j ∉ t.place.toList ∧ SetTable.probe.go t hashAt h f p = some (.empty (nth t.mask p k).j none)) ∨
    ∃ k i, k < K ∧ t.slot (nth t.mask p k).j = .live i ∧ t.place.toList[i]? = some (nth t.mask p k).j ∧ SetTable.probe.go t hashAt h f p = some (.candidate (nth t.mask p k).j i (nth t.mask p (k + 1)))
  | 0, K, p, _, hK, _ => absurd hK (Nat.not_lt_zero _)
  | f + 1, K, p, hp, hK, he => by
    rcases slot_cases r hd p.j with ⟨c, hs⟩ | ⟨i, hi, hs⟩
    · refine .inl ⟨0, Nat.zero_le _, c, ?_⟩
      unfold SetTable.probe.go
      rw [hs]
      show some (SetTable.Met.empty p.j p.dummy) = some (SetTable.Met.empty p.j none)
      rw [hp]
    · cases K with
      | zero => exact absurd (List.mem_of_getElem? hi) he
      | succ K =>
        by_cases hh : hashAt i = h
        · refine .inr ⟨0, i, Nat.succ_pos _, hs, hi, ?_⟩
          unfold SetTable.probe.go
          rw [hs]
          show (if (hashAt i == h) = true then some (SetTable.Met.candidate p.j i (t.advance p)) else _) = _
          rw [if_pos (by rw [hh]; exact beq_self_eq_true h)]
          rfl
        · have e : SetTable.probe.go t hashAt h (f + 1) p = SetTable.probe.go t hashAt h f (adv t.mask p) := by
            conv => lhs; unfold SetTable.probe.go
            rw [hs]
            show (if (hashAt i == h) = true then _ else SetTable.probe.go t hashAt h f (t.advance p)) = _
            rw [if_neg (by rw [beq_iff_eq]; exact hh)]
            rfl
          rw [e]
          rcases go_ends t r hd hashAt h f K (adv t.mask p) (nodum t.mask 1 p hp) (by omega) he with ⟨k, a1, a2, a3⟩ | ⟨k, i2, a1, a2, a3, a4⟩
          · exact .inl ⟨k + 1, by omega, a2, a3⟩
          · exact .inr ⟨k + 1, i2, by omega, a2, a3, a4⟩
/-! ### laid anew -/
/-- who sits: c of them, each with a number below c -/
structure Sits (m c : Nat) (o : Array (Option Nat)) : Prop where
  sz : o.size = m + 1
  lt : ∀ k, some k ∈ o.toList → k < c
  ct : (o.toList.filter Option.isSome).length = c
theorem count_set : ∀ (l : List (Option Nat)) (j k : Nat), l[j]? = some none → ((l.set j (some k)).filter Option.isSome).length = (l.filter Option.isSome).length + 1
  | [], j, k, h => by simp at h
  | x :: l, 0, k, h => by
    have h : x = none := by simpa using h
    subst h
    simp
  | x :: l, j + 1, k, h => by
    have ih := count_set l j k (by simpa using h)
    rw [List.set_cons_succ, List.filter_cons, List.filter_cons]
    split <;> simp [ih]
theorem Sits.init (m : Nat) : Sits m 0 (Array.replicate (m + 1) none) := by
  refine ⟨by simp, fun k h => by simp at h, ?_⟩
  rw [Array.toList_replicate]
  generalize m + 1 = n
  induction n with
  | zero => rfl
  | succ n ih => rw [List.replicate_succ, List.filter_cons]; simpa using ih
theorem Sits.put {m c j : Nat} {o : Array (Option Nat)} (s : Sits m c o) (h : o.toList[j]? = some none) : Sits m (c + 1) (o.setIfInBounds j (some c)) := by
  refine ⟨by rw [Array.size_setIfInBounds]; exact s.sz, fun k hk => ?_, ?_⟩
  · rw [Array.toList_setIfInBounds] at hk
    rcases List.mem_or_eq_of_mem_set hk with hk | hk
    · have := s.lt k hk
      omega
    · cases hk
      omega
  · rw [Array.toList_setIfInBounds, count_set _ _ _ h, s.ct]
theorem Sits.free {m c : Nat} {o : Array (Option Nat)} (s : Sits m c o) (hc : c ≤ m) : ∃ j, j ≤ m ∧ o.toList[j]? = some none := by
  rcases Classical.em (∃ j, j ≤ m ∧ o.toList[j]? = some none) with h | h
  · exact h
  · exfalso
    have all : ∀ x ∈ o.toList, x.isSome = true := fun x hx => by
      obtain ⟨j, hj, e⟩ := List.getElem_of_mem hx
      cases x with
      | some k => rfl
      | none => exact absurd ⟨j, by have := s.sz; rw [Array.length_toList] at hj; omega, by rw [List.getElem?_eq_getElem hj, e]⟩ h
    have e : o.toList.filter Option.isSome = o.toList := List.filter_eq_self.mpr all
    have z := s.ct
    rw [e, Array.length_toList, s.sz] at z
    omega
theorem free_ends (m : Nat) (o : Array (Option Nat)) (hz : o.size = m + 1) : ∀ (n f i b : Nat), i ≤ m → n < f → o.toList[(itL m i b n).1]? = some none → ∃ j, SetTable.layClean.free m o f i b = some j ∧ o.toList[j]? = some none := by
  have found : ∀ (i k : Nat), ((List.range (SetTable.runEnd m i + 1 - i)).find? fun k => (oAt o (i + k)).isNone) = some k → o.toList[i + k]? = some none := fun i k e => by
    have h := List.find?_some e
    rw [Array.getElem?_toList]
    unfold oAt at h
    rw [Array.getD_eq_getD_getElem?] at h
    cases q : o[i + k]? with
    | none => rw [q] at h; simp at h
    | some x =>
      rw [q] at h
      cases x with
      | none => rfl
      | some y => simp at h
  intro n
  induction n with
  | zero =>
    intro f i b hi hf he
    obtain ⟨f, rfl⟩ : ∃ g, f = g + 1 := ⟨f - 1, by omega⟩
    rw [free_succ]
    have he : o.toList[i]? = some none := he
    cases q : (List.range (SetTable.runEnd m i + 1 - i)).find? fun k => (oAt o (i + k)).isNone with
    | some k => exact ⟨i + k, rfl, found i k q⟩
    | none =>
      exfalso
      have r := runEnd_bd hi
      have z := List.find?_eq_none.mp q 0 (List.mem_range.mpr (by omega))
      unfold oAt at z
      rw [Array.getElem?_toList] at he
      rw [Array.getD_eq_getD_getElem?, Nat.add_zero, he] at z
      simp at z
  | succ n ih =>
    intro f i b hi hf he
    obtain ⟨f, rfl⟩ : ∃ g, f = g + 1 := ⟨f - 1, by omega⟩
    rw [free_succ]
    cases q : (List.range (SetTable.runEnd m i + 1 - i)).find? fun k => (oAt o (i + k)).isNone with
    | some k => exact ⟨i + k, rfl, found i k q⟩
    | none => exact ih f _ _ (leap_le m i b) (by omega) he
theorem lay_fold {m : Nat} (hm : Mk4 m) : ∀ (hs : List Int) (c : Nat) (o : Array (Option Nat)), Sits m c o → c + hs.length ≤ m → ∃ o', hs.foldl (stepF m) (some (o, c)) = some (o', c + hs.length) ∧ Sits m (c + hs.length) o'
  | [], c, o, s, _ => ⟨o, rfl, s⟩
  | h :: hs, c, o, s, hl => by
    rw [List.length_cons] at hl
    obtain ⟨j0, hj0, e0⟩ := s.free (by omega)
    obtain ⟨n, hn, en⟩ := runs4 hm h hj0
    obtain ⟨j, e1, e2⟩ := free_ends m o s.sz n (SetTable.turns m) (SetTable.bits h % (m + 1)) (SetTable.bits h) (Nat.le_of_lt_succ (Nat.mod_lt _ (Nat.succ_pos _))) (by unfold SetTable.turns; omega) (by rw [itL_run, en]; exact e0)
    obtain ⟨o', f1, f2⟩ := lay_fold hm hs (c + 1) _ (s.put e2) (by omega)
    refine ⟨o', ?_, ?_⟩
    · rw [List.foldl_cons, stepF_some e1, f1, List.length_cons]
      congr 2
      omega
    · rw [List.length_cons, show c + (hs.length + 1) = c + 1 + hs.length by omega]
      exact f2
theorem live_len (o : Array (Option Nat)) (m : Nat) (hz : o.size = m + 1) : (liveOf m o).length = (o.toList.filter Option.isSome).length := by
  have key : ∀ n, n ≤ o.toList.length → ((List.range n).filterMap fun j => (o.getD j none).map (j, ·)).length = ((o.toList.take n).filter Option.isSome).length := by
    intro n
    induction n with
    | zero => intro _; rfl
    | succ n ih =>
      intro hn
      have hlt : n < o.toList.length := hn
      have ih := ih (Nat.le_of_lt hlt)
      rw [List.range_succ, List.filterMap_append, List.length_append, ih, List.take_add_one, List.getElem?_eq_getElem hlt, List.filter_append, List.length_append]
      congr 1
      have e : o.getD n none = o.toList[n] := by
        rw [Array.getD_eq_getD_getElem?, ← Array.getElem?_toList, List.getElem?_eq_getElem hlt]
        rfl
      rw [List.filterMap_cons, e]
      cases q : o.toList[n] with
      | none => simp
      | some k => simp
  have z := key (m + 1) (by rw [Array.length_toList, hz]; exact Nat.le_refl _)
  rw [List.take_of_length_le (by rw [Array.length_toList, hz]; exact Nat.le_refl _)] at z
  exact z
theorem live_mem {o : Array (Option Nat)} {m : Nat} {x : Nat × Nat} (h : x ∈ liveOf m o) : some x.2 ∈ o.toList := by
  unfold liveOf at h
  obtain ⟨j, hj, e⟩ := List.mem_filterMap.mp h
  cases q : o.getD j none with
  | none => rw [q] at e; cases e
  | some k =>
    rw [q] at e
    cases e
    rw [Array.getD_eq_getD_getElem?] at q
    cases z : o[j]? with
    | none => rw [z] at q; cases q
    | some y =>
      rw [z] at q
      have q : y = some k := q
      subst q
      exact List.mem_of_getElem? (by rw [Array.getElem?_toList]; exact z)
/-- a table laid anew -/
theorem relaid4 (t : SetTable) {hs : Array Int} {wanted M : Nat} (hw : SetTable.sizeAbove wanted - 1 = M) (hM : Mk4 M) (hn : hs.size ≤ M) :
    ∃ (t' : SetTable) (order : Array Nat), t.relaid hs wanted = some (t', order) ∧ order.size = hs.size ∧ (∀ i ∈ order.toList, i < hs.size) ∧ t'.place.size = hs.size ∧ Ris t'.place.toList ∧ t'.dummies = #[] ∧ t'.mask = M ∧ t'.led = t.led ∧ t'.plain = t.plain ∧ (∀ x ∈ t'.place.toList, x ≤ M) := by
  obtain ⟨o, f1, f2⟩ := lay_fold hM hs.toList 0 _ (Sits.init M) (by rw [Array.length_toList]; omega)
  rw [Nat.zero_add, Array.length_toList] at f2
  have hl : (liveOf M o).length = hs.size := by rw [live_len o M f2.sz, f2.ct]
  have e : SetTable.layClean M hs = some o := by
    rw [layClean_eq, f1]
    rfl
  have ris := ris_live (fun j => o.getD j none) (List.range (M + 1)) (by
    have z := ris_range (M + 1)
    simpa using z)
  refine ⟨tabOf t M o, ((liveOf M o).map (·.2)).toArray, ?_, ?_, fun i hi => ?_, ?_, ?_, rfl, rfl, rfl, rfl, fun x hx => ?_⟩
  · rw [relaid_eq, hw, e]
    rfl
  · rw [List.size_toArray, List.length_map, hl]
  · obtain ⟨x, hx, rfl⟩ := List.mem_map.mp hi
    exact f2.lt _ (live_mem hx)
  · show ((liveOf M o).map (·.1)).toArray.size = _
    rw [List.size_toArray, List.length_map, hl]
  · exact ris.1
  · have z := ris.2 x hx
    have := List.mem_range.mp z
    omega
end K16

end K16T1Text
section K16T2Text
set_option autoImplicit false
set_option linter.all false
set_option maxRecDepth 100000
set_option Elab.async false
/-! Sets of nested tuples: what is put in, told weakly. -/
namespace K16
open PySem PySem.Spec PyProof.Rows L2
section
variable {P : Program} {w : World} {A : Around} {E : Value → Shared → Prop} {s : Shared}
/-- of no class statement, n levels down -/
def NoCls (P : Program) (w : World) (n : Nat) (s : Shared) (v : Value) : Prop := ∀ (A : Around) (E : Value → Shared → Prop) (Q : Bool → Shared → Prop), Q false s → wpAny (model P w) A (ofAClassStatement n v) Q E s
theorem NoCls.flat {n : Nat} {v : Value} (h : ofAClassStatement n v = pure false) : NoCls P w n s v := fun A E Q q => by
  rw [h]
  exact wpAny_pure q
theorem NoCls.tup {n m : Nat} {b : Addr} {o : Obj} {vs : Array Value} (ho : s.heap.get? b = some o) (hc : o.cls = .type "tuple") (hd : o.data = .seq vs m) (hi : ∀ v ∈ vs.toList, NoCls P w n s v) : NoCls P w (n + 1) s (.ref b) := fun A E Q q => by
  have hT : s.TypeIs (.ref b) "tuple" := ⟨o, ho, hc⟩
  unfold ofAClassStatement
  refine wpAny_bind (wpAny_typeOf hT ?_)
  dsimp only
  have e : (("tuple" : String) == "tuple") = true := by decide
  simp only [e, if_true, Bool.not_true, Bool.false_eq_true, if_false]
  try refine wpAny_bind (wpAny_pure ?_)
  try simp only [Bool.not_true, Bool.false_eq_true, if_false]
  show wpAny _ _ (seqItems? (.ref b) >>= _) _ _ s
  refine wpAny_bind (wpAny_seqItems ho hd ?_)
  dsimp only
  refine wpAny_bind ?_
  show wpAny _ _ (forIn vs _ _) _ _ s
  rw [← Array.forIn_toList]
  refine wpAny_forIn_list _ (fun rest r s' => r.1 = none ∧ s' = s ∧ ∀ v ∈ rest, NoCls P w n s v) _ ?_ ?_ _ _ ⟨rfl, rfl, hi⟩
  · rintro v rest r s' ⟨hr, rfl, hall⟩
    refine wpAny_bind (hall v List.mem_cons_self _ _ _ ?_)
    simp only [Bool.false_eq_true, if_false]
    exact wpAny_pure ⟨rfl, rfl, fun u hu' => hall u (List.mem_cons_of_mem _ hu')⟩
  · rintro ⟨r1, r2⟩ s' ⟨hr, rfl, _⟩
    simp only at hr
    subst hr
    exact wpAny_pure q
/-- what is hashed by value: some answer, n levels down -/
def HashBy (P : Program) (w : World) (n : Nat) (s : Shared) (v : Value) : Prop := ∀ (A : Around) (E : Value → Shared → Prop) (Q : Bool → Shared → Prop), (∀ r, Q r s) → wpAny (model P w) A (hashByValue n v) Q E s
theorem HashBy.flat {n : Nat} {v : Value} {r : Bool} (h : hashByValue n v = pure r) : HashBy P w n s v := fun A E Q q => by
  rw [h]
  exact wpAny_pure (q r)
theorem HashBy.tup {n m : Nat} {b : Addr} {o : Obj} {vs : Array Value} (ho : s.heap.get? b = some o) (hc : o.cls = .type "tuple") (hd : o.data = .seq vs m) (hi : ∀ v ∈ vs.toList, HashBy P w n s v) : HashBy P w (n + 1) s (.ref b) := fun A E Q q => by
  have hT : s.TypeIs (.ref b) "tuple" := ⟨o, ho, hc⟩
  unfold hashByValue
  refine wpAny_bind (wpAny_specialOf hT F.slot_tuple_hash.lookup ?_)
  show wpAny _ _ (seqItems? (.ref b) >>= _) _ _ s
  refine wpAny_bind (wpAny_seqItems ho hd ?_)
  refine wpAny_bind ?_
  show wpAny _ _ (forIn vs _ _) _ _ s
  rw [← Array.forIn_toList]
  refine wpAny_forIn_list _ (fun rest r s' => s' = s ∧ ∀ v ∈ rest, HashBy P w n s v) _ ?_ ?_ _ _ ⟨rfl, hi⟩
  · rintro v rest r s' ⟨rfl, hall⟩
    refine wpAny_bind (hall v List.mem_cons_self _ _ _ fun z => ?_)
    cases z with
    | true =>
      simp only [Bool.not_true, Bool.false_eq_true, if_false]
      exact wpAny_pure ⟨rfl, fun u hu' => hall u (List.mem_cons_of_mem _ hu')⟩
    | false =>
      simp only [Bool.not_false, if_true]
      refine wpAny_pure ?_
      exact wpAny_pure (q false)
  · rintro ⟨r1, r2⟩ s' ⟨rfl, _⟩
    cases r1 with
    | none => exact wpAny_pure (q true)
    | some z => exact wpAny_pure (q z)
mutual
theorem cls_key : ∀ (k : NestedKey) (v : Value) (n : Nat), NestedIs s.heap k v → k.depth ≤ n → NoCls P w n s v
  | .none, _, n, x, _ => by cases x; exact .flat (by cases n <;> rfl)
  | .num i, _, n, x, _ => by cases x <;> exact .flat (by cases n <;> rfl)
  | .text y, _, n, x, _ => by cases x; exact .flat (by cases n <;> rfl)
  | .tup ks, _, n, x, hn => by
    cases x with
    | tup hg hc hd hk =>
      simp only [NestedKey.depth] at hn
      cases n with
      | zero => omega
      | succ n => exact .tup hg hc hd (cls_keys ks _ n hk (by omega))
theorem cls_keys : ∀ (ks : List NestedKey) (vs : List Value) (n : Nat), NestedAll s.heap ks vs → NestedKey.depthAll ks ≤ n → ∀ v ∈ vs, NoCls P w n s v
  | [], _, n, x, _, v, hv => by cases x; cases hv
  | k :: ks, _, n, x, hn, v, hv => by
    cases x with
    | cons x1 x2 =>
      simp only [NestedKey.depthAll] at hn
      rcases List.mem_cons.mp hv with e | hv
      · rw [e]; exact cls_key k _ n x1 (by omega)
      · exact cls_keys ks _ n x2 (by omega) v hv
end
mutual
theorem hb_key : ∀ (k : NestedKey) (v : Value) (n : Nat), NestedIs s.heap k v → k.depth ≤ n → HashBy P w n s v
  | .none, _, n, x, _ => by cases x; exact .flat (r := true) (by cases n <;> rfl)
  | .num i, _, n, x, _ => by cases x <;> exact .flat (r := true) (by cases n <;> rfl)
  | .text y, _, n, x, _ => by cases x; exact .flat (r := false) (by cases n <;> rfl)
  | .tup ks, _, n, x, hn => by
    cases x with
    | tup hg hc hd hk =>
      simp only [NestedKey.depth] at hn
      cases n with
      | zero => omega
      | succ n => exact .tup hg hc hd (hb_keys ks _ n hk (by omega))
theorem hb_keys : ∀ (ks : List NestedKey) (vs : List Value) (n : Nat), NestedAll s.heap ks vs → NestedKey.depthAll ks ≤ n → ∀ v ∈ vs, HashBy P w n s v
  | [], _, n, x, _, v, hv => by cases x; cases hv
  | k :: ks, _, n, x, hn, v, hv => by
    cases x with
    | cons x1 x2 =>
      simp only [NestedKey.depthAll] at hn
      rcases List.mem_cons.mp hv with e | hv
      · rw [e]; exact hb_key k _ n x1 (by omega)
      · exact hb_keys ks _ n x2 (by omega) v hv
end
/-- a nested tuple that may be a key -/
def NT (P : Program) (w : World) (h : Heap) (b : Addr) : Prop := ∃ k, (nestedKind P w).is h k b
theorem NT.cls {b : Addr} {Q : Bool → Shared → Prop} (h : NT P w s.heap b) (q : Q false s) : wpAny (model P w) A (ofAClassStatement 8 (.ref b)) Q E s := by
  obtain ⟨k, h1, h2⟩ := h
  exact cls_key k _ 8 h1 h2 A E Q q
theorem NT.hb {b : Addr} {Q : Bool → Shared → Prop} (h : NT P w s.heap b) (q : ∀ r, Q r s) : wpAny (model P w) A (hashByValue 8 (.ref b)) Q E s := by
  obtain ⟨k, h1, h2⟩ := h
  exact hb_key k _ 8 h1 h2 A E Q q
theorem NT.quiet {b : Addr} {Q : Bool → Shared → Prop} (h : NT P w s.heap b) (q : Q true s) : wpAny (model P w) A (eqIsQuiet 8 (.ref b)) Q E s := by
  obtain ⟨k, h1⟩ := h
  exact (nestedKind P w).quiet h1 q
theorem NT.eq {b c : Addr} {Q : Bool → Shared → Prop} (hu : A.units + 8 < cLine) (h1 : NT P w s.heap b) (h2 : NT P w s.heap c) (q : ∀ r, Q r s) : wpAny (model P w) A (eqBool (.ref b) (.ref c)) Q E s := by
  obtain ⟨k, h1⟩ := h1
  obtain ⟨k', h2⟩ := h2
  exact (nestedKind P w).eqBool hu h1 h2 (q _)
theorem NT.hash {b : Addr} {Q : Int → Shared → Prop} (hu : A.units + 8 < cLine) (h : NT P w s.heap b) (q : ∀ z n, Q z { s with toks := s.toks + n }) : wpAny (model P w) A (pyHash (.ref b)) Q E s := by
  obtain ⟨k, h1⟩ := h
  exact (nestedKind P w).pyHash hu h1 (q _ _)
/-- a search among such shows nothing -/
theorem unseen_nt {b : Addr} {ys : List Value} {Q : Bool → Shared → Prop} (hb : NT P w s.heap b) (hy : ∀ y ∈ ys, ∃ c, y = Value.ref c ∧ NT P w s.heap c) (q : Q false s) : wpAny (model P w) A (searchCouldBeSeen (.ref b) ys) Q E s := by
  unfold searchCouldBeSeen
  refine wpAny_bind ?_
  refine wpAny_forIn_list _ (fun rest r s' => r.1 = none ∧ s' = s ∧ ∀ y ∈ rest, ∃ c, y = Value.ref c ∧ NT P w s.heap c) _ ?_ ?_ _ _ ⟨rfl, rfl, hy⟩
  · rintro v rest r s' ⟨hr, rfl, hall⟩
    obtain ⟨c, rfl, hc⟩ := hall v List.mem_cons_self
    have more : ∀ y ∈ rest, ∃ c, y = Value.ref c ∧ NT P w s'.heap c := fun u hu' => hall u (List.mem_cons_of_mem _ hu')
    dsimp only
    by_cases hv : (b == c || (carriedByValue (.ref b) && carriedByValue (.ref c))) = true
    · exact wp_if_pos hv (wpAny_pure ⟨rfl, rfl, more⟩)
    · refine wp_if_neg hv (wpAny_bind (hb.quiet ?_))
      simp only [Bool.not_true, Bool.false_eq_true, if_false]
      refine wpAny_bind (hc.quiet ?_)
      simp only [Bool.not_true, Bool.false_eq_true, if_false]
      refine wpAny_bind (hb.cls ?_)
      simp only [Bool.false_eq_true, if_false]
      refine wpAny_bind (hc.cls ?_)
      simp only [Bool.false_eq_true, if_false]
      exact wpAny_pure ⟨rfl, rfl, more⟩
  · rintro ⟨r1, r2⟩ s' ⟨hr, rfl, _⟩
    simp only at hr
    subst hr
    exact wpAny_pure q
/-! ### the set -/
structure SetD (P : Program) (w : World) (h : Heap) (a : Addr) (es : Array (Int × Value)) (ep : Nat) (t : SetTable) : Prop where
  ob : ∃ o, h.get? a = some o ∧ o.ExactSet ∧ o.data = .set es ep t
  ris : Ris t.place.toList
  dm : t.dummies = #[]
  sz : t.place.size = es.size
  mok : Mk4 t.mask
  bd : ∀ x ∈ t.place.toList, x ≤ t.mask
  room : es.size * 5 < t.mask * 3
  few : es.size ≤ 200
  led : w.params.followText "set-order" = true ∨ t.led = true
  it : ∀ e ∈ es.toList, ∃ b, e.2 = Value.ref b ∧ NT P w h b
variable {a : Addr} {es : Array (Int × Value)} {ep : Nat} {t : SetTable}
theorem fits_of (h1 : t.place.size = es.size) (h2 : t.dummies = #[]) (h3 : es.size ≤ t.mask) : t.fits es.size = true := by
  unfold SetTable.fits SetTable.fill
  rw [h2, Bool.and_eq_true, beq_iff_eq, decide_eq_true_eq]
  show t.place.size = es.size ∧ t.place.size + 0 ≤ t.mask
  omega
theorem SetD.fits (R : SetD P w s.heap a es ep t) : t.fits es.size = true := fits_of R.sz R.dm (by have := R.room; omega)
theorem SetD.gw (R : SetD P w s.heap a es ep t) : ¬ t.gaveWay = true := by
  unfold SetTable.gaveWay
  rcases R.mok with e | e | e | e <;> rw [e] <;> decide
theorem SetD.entry (R : SetD P w s.heap a es ep t) {i j : Nat} (h : t.place.toList[i]? = some j) : ∃ z b, es[i]? = some (z, Value.ref b) ∧ NT P w s.heap b := by
  have hi : i < es.size := by
    have h1 := (List.getElem?_eq_some_iff.mp h).1
    have h2 := R.sz
    rw [Array.length_toList] at h1
    omega
  have e : es[i]? = some es[i] := Array.getElem?_eq_getElem hi
  obtain ⟨b, h1, h2⟩ := R.it es[i] (by simp)
  exact ⟨es[i].1, b, by rw [e, ← h1], h2⟩
/-- from the c-th step of the way on -/
theorem srch (R : SetD P w s.heap a es ep t) {x : Addr} (hx : NT P w s.heap x) (hu : A.units + 8 < cLine) (hh : Int) {K : Nat} (hKf : K < 10 * SetTable.turns t.mask) (hK : wy t.mask hh K ∉ t.place.toList) {Q : SetFound → Shared → Prop}
    (hin : 0 < es.size → Q (.there none) s) (hout : ∀ j, j ∉ t.place.toList → j ≤ t.mask → Q (.free j false) s) :
    ∀ (f c : Nat) (stand : Option SetTable.Probe), stand.getD (t.probeStart hh) = nth t.mask (runAt t.mask (SetTable.bits hh % (t.mask + 1)) (SetTable.bits hh)) c → c ≤ K → K - c < f → wpAny (model P w) A (setSearchFrom a (.ref x) hh true f stand) Q E s
  | 0, c, stand, _, _, hf => absurd hf (Nat.not_lt_zero _)
  | f + 1, c, stand, hst, hc, hf => by
    obtain ⟨o, ho, hex, hd⟩ := R.ob
    rw [setSearchFrom_succ]
    refine wpAny_bind (wpAny_setState_of ho hd R.fits ?_)
    dsimp only
    refine wp_if_neg R.gw ?_
    try refine wpAny_bind (wpAny_pure ?_)
    have sh : ∀ q, nth t.mask (nth t.mask (runAt t.mask (SetTable.bits hh % (t.mask + 1)) (SetTable.bits hh)) c) q = nth t.mask (runAt t.mask (SetTable.bits hh % (t.mask + 1)) (SetTable.bits hh)) (c + q) := fun q => (nth_add t.mask c _ q).symm
    have spec := go_ends t R.ris R.dm (fun i => (es[i]?.map (·.1)).getD 0) hh (10 * SetTable.turns t.mask) (K - c) _ (nodum t.mask c (runAt t.mask (SetTable.bits hh % (t.mask + 1)) (SetTable.bits hh)) rfl) (by omega)
      (by rw [sh, show c + (K - c) = K by omega]; exact hK)
    rcases spec with ⟨k, hk, hno, hpr⟩ | ⟨k, i, hk, hs, hi, hpr⟩
    · have hpr' : t.probe (fun i => (es[i]?.map (·.1)).getD 0) hh (stand.getD (t.probeStart hh)) = some (.empty (wy t.mask hh (c + k)) none) := by
        rw [hst]
        rw [sh] at hpr
        exact hpr
      rw [hpr']
      dsimp only
      rw [sh] at hno
      exact wpAny_pure (hout _ hno (wy_bd _ _ _))
    · have hpr' : t.probe (fun i => (es[i]?.map (·.1)).getD 0) hh (stand.getD (t.probeStart hh)) = some (.candidate (wy t.mask hh (c + k)) i (nth t.mask (runAt t.mask (SetTable.bits hh % (t.mask + 1)) (SetTable.bits hh)) (c + (k + 1)))) := by
        rw [hst]
        rw [sh, sh] at hpr
        exact hpr
      rw [hpr']
      dsimp only
      rw [sh] at hs hi
      obtain ⟨z, b, he, hb⟩ := R.entry hi
      have more : wpAny (model P w) A (searchRest a (.ref x) hh true f es t (wy t.mask hh (c + k)) i (nth t.mask (runAt t.mask (SetTable.bits hh % (t.mask + 1)) (SetTable.bits hh)) (c + (k + 1)))) Q E s := by
        unfold searchRest
        rw [he]
        dsimp only
        refine wpAny_bind (wpAny_holding (NT.eq hu hb hx fun r => ?_))
        refine wpAny_bind (wpAny_setState_of ho hd R.fits ?_)
        dsimp only
        cases r with
        | true => exact wp_if_pos (by simp) (wpAny_pure (hin (Nat.lt_of_le_of_lt (Nat.zero_le _) (Array.getElem?_eq_some_iff.mp he).1)))
        | false =>
          refine wp_if_neg (by simp) ?_
          try refine wpAny_bind (wpAny_pure ?_)
          rw [sameMem]
          dsimp only
          simp only [if_true, hs, he]
          refine wpAny_bind (wpAny_isSame_ref_self (wpAny_bind (wpAny_pure ?_)))
          simp only [if_true]
          refine wp_if_neg (by simp) ?_
          exact srch R hx hu hh hKf hK hin hout f (c + (k + 1)) _ rfl (by omega) (by omega)
      by_cases hl : t.led = true
      · refine wp_if_neg (by simp [hl]) ?_
        try refine wpAny_bind (wpAny_pure ?_)
        exact more
      · refine wp_if_pos (by simp [hl]) ?_
        refine wpAny_bind (unseen_nt hx (fun y hy => ?_) ?_)
        · obtain ⟨e, he1, ee⟩ := List.mem_map.mp hy
          have he2 : e ∈ es.toList := by
            have z : e ∈ es ∧ e.1 = hh := by simpa using he1
            simpa using z.1
          obtain ⟨b, h1, h2⟩ := R.it e he2
          exact ⟨b, by rw [← ee, h1], h2⟩
        · refine wp_if_neg (by decide) ?_
          try refine wpAny_bind (wpAny_pure ?_)
          exact more
theorem srch_at (R : SetD P w s.heap a es ep t) {x : Addr} (hx : NT P w s.heap x) (hu : A.units + 8 < cLine) (hh : Int) {Q : SetFound → Shared → Prop}
    (hin : 0 < es.size → Q (.there none) s) (hout : ∀ j, j ∉ t.place.toList → j ≤ t.mask → Q (.free j false) s) : wpAny (model P w) A (setSearch a (.ref x) hh true) Q E s := by
  have hroom := R.room
  have hlen : t.place.toList.length < t.mask + 1 := by
    rw [Array.length_toList, R.sz]
    omega
  obtain ⟨j, hj, hn⟩ := st_missing t.place.toList (t.mask + 1) hlen
  obtain ⟨K, hK, e⟩ := wy_meets R.mok hh (Nat.le_of_lt_succ hj)
  have hbig : K < 100000 := by
    have : 10 * SetTable.turns t.mask ≤ 5260 := by
      unfold SetTable.turns
      rcases R.mok with e | e | e | e <;> omega
    omega
  unfold setSearch
  exact srch R hx hu hh hK (by rw [e]; exact hn) hin hout 100000 0 none rfl (Nat.zero_le _) (by omega)
end
end K16

end K16T2Text
section K16T3Text
set_option autoImplicit false
set_option linter.all false
set_option maxRecDepth 100000
set_option Elab.async false
namespace K16
open PySem PySem.Spec PyProof.Rows L2
section
variable {P : Program} {w : World} {A : Around} {E : Value → Shared → Prop} {s : Shared}
theorem NT.keep {h h' : Heap} {b : Addr} (x : NT P w h b) (k : ∀ c o vs n, h.get? c = some o → o.data = .seq vs n → h'.get? c = some o) : NT P w h' b := by
  obtain ⟨y, hy⟩ := x
  exact ⟨y, (nestedKind_stays (prog := P) (w := w)).stays k hy⟩
theorem NT.but {h h' : Heap} {a b : Addr} {o : Obj} {es : Array (Int × Value)} {ep : Nat} {t : SetTable} (x : NT P w h b) (ho : h.get? a = some o) (hd : o.data = .set es ep t) (hs : Heap.SameBut a h h') : NT P w h' b :=
  x.keep fun c u vs n hc hv => by
    refine (hs.2 c fun e => ?_).trans hc
    rw [e, ho] at hc
    cases hc
    rw [hd] at hv
    cases hv
variable {a : Addr} {es : Array (Int × Value)} {ep : Nat} {t : SetTable}
theorem all_there (es : Array (Int × Value)) : ∀ l : List Nat, (∀ i ∈ l, i < es.size) → (l.filterMap fun i => es[i]?).length = l.length ∧ ∀ e ∈ l.filterMap (fun i => es[i]?), e ∈ es.toList
  | [], _ => ⟨rfl, fun e h => by cases h⟩
  | i :: l, h => by
    obtain ⟨h1, h2⟩ := all_there es l fun j hj => h j (List.mem_cons_of_mem _ hj)
    have hi := h i List.mem_cons_self
    have e : es[i]? = some es[i] := Array.getElem?_eq_getElem hi
    refine ⟨?_, fun x hx => ?_⟩
    · rw [List.filterMap_cons_some e, List.length_cons, h1, List.length_cons]
    · rw [List.filterMap_cons_some e] at hx
      rcases List.mem_cons.mp hx with q | q
      · rw [q]
        simp
      · exact h2 x q
/-- laid anew -/
theorem relay_nt {o : Obj} (ho : s.heap.get? a = some o) (hex : o.ExactSet) (hd : o.data = .set es ep t) (hsz : t.place.size = es.size) (hdm : t.dummies = #[]) (hfl : es.size ≤ t.mask) (few : es.size ≤ 200) (ld : w.params.followText "set-order" = true ∨ t.led = true)
    (it : ∀ e ∈ es.toList, ∃ b, e.2 = Value.ref b ∧ NT P w s.heap b) {wanted M : Nat} (hw : SetTable.sizeAbove wanted - 1 = M) (hM : Mk4 M) (hw2 : SetTable.sizeAbove wanted ≤ 512) (hn : es.size * 5 < M * 3) {Q : Unit → Shared → Prop}
    (hQ : ∀ h' es' ep' t', Heap.SameBut a s.heap h' → SetD P w h' a es' ep' t' → es'.size = es.size → (∀ e ∈ es'.toList, e ∈ es.toList) → Q () { s with heap := h' }) : wpAny (model P w) A (setRelay a wanted) Q E s := by
  have hfits := fits_of hsz hdm hfl
  obtain ⟨t', order, e, q1, q2, q3, q4, q5, q6, q7, q8, q9⟩ := relaid4 t (hs := es.map (·.1)) (wanted := wanted) hw hM (by rw [Array.size_map]; omega)
  rw [Array.size_map] at q1 q3
  obtain ⟨k1, k2⟩ := all_there es order.toList fun i hi => by have := q2 i hi; rw [Array.size_map] at this; exact this
  have et : (order.filterMap (es[·]?)).toList = order.toList.filterMap fun i => es[i]? := Array.toList_filterMap
  have hs2 : (order.filterMap (es[·]?)).size = es.size := by
    rw [← Array.length_toList, et, k1, Array.length_toList, q1]
  rw [setRelay_eq]
  refine wpAny_bind (wpAny_setState_of ho hd hfits ?_)
  dsimp only
  refine wp_if_neg (by rw [sizeLine_eq]; omega) ?_
  try refine wpAny_bind (wpAny_pure ?_)
  rw [e]
  dsimp only
  refine wpAny_bind ?_
  refine wp_if_neg (by rw [hs2]; simp) ?_
  try refine wpAny_bind (wpAny_pure ?_)
  refine wpAny_pure ?_
  dsimp only
  refine wpAny_storeSet_of ho hd ?_ (by rw [hs2, sizeLine_eq]; omega)
  have sb : Heap.SameBut a s.heap (s.heap.update a (Obj.putSet (order.filterMap (es[·]?)) t')) := Heap.SameBut.update ..
  refine hQ _ (order.filterMap (es[·]?)) (ep + 1) t' sb ⟨⟨_, store_at ho hd, ⟨hex.1, hex.2.1, hex.2.2⟩, rfl⟩, q4, q5, by rw [q3, hs2], by rw [q6]; exact hM, by rw [q6]; exact q9, by rw [hs2, q6]; exact hn, by rw [hs2]; exact few, by rw [q7]; exact ld, fun x hx => ?_⟩ hs2 fun x hx => ?_
  · rw [et] at hx
    obtain ⟨b, h1, h2⟩ := it x (k2 x hx)
    exact ⟨b, h1, h2.but ho hd sb⟩
  · rw [et] at hx
    exact k2 x hx
theorem size512 : SetTable.sizeAbove (SetTable.grown 77) = 512 := by decide +kernel
/-- put in -/
theorem add_nt (R : SetD P w s.heap a es ep t) {x : Addr} (hx : NT P w s.heap x) (hu : A.units + 8 < cLine) (hh : Int) (hfew : es.size + 1 ≤ 200) {Q : Bool → Shared → Prop}
    (hQ : ∀ b h' es' ep' t', Heap.SameBut a s.heap h' → SetD P w h' a es' ep' t' → 0 < es'.size → es'.size ≤ es.size + 1 → (∀ e ∈ es'.toList, e.2 = .ref x ∨ ∃ e0 ∈ es.toList, e0.2 = e.2) → Q b { s with heap := h' }) : wpAny (model P w) A (setAddHashed a (.ref x) hh) Q E s := by
  obtain ⟨o, ho, hex, hd⟩ := R.ob
  have hroom := R.room
  unfold setAddHashed
  refine wpAny_holding ?_
  rw [show (100000 : Nat) = 99999 + 1 from rfl, setAddHashedIn_succ]
  refine wpAny_bind (wpAny_setState_of ho hd R.fits ?_)
  dsimp only
  refine wp_if_neg (by simp [byScan, Value.scannable]) ?_
  try refine wpAny_bind (wpAny_pure ?_)
  refine wpAny_bind (srch_at R hx hu hh (fun hp => ?_) fun j hj hjm => ?_)
  · dsimp only
    exact wpAny_pure (hQ false s.heap es ep t (Heap.SameBut.refl a s.heap) R hp (by omega) fun e he => .inr ⟨e, he, rfl⟩)
  · dsimp only
    refine wpAny_bind (wpAny_setState_of ho hd R.fits ?_)
    dsimp only
    have e1 : t.put j = ({ t with place := SetTable.insertAt t.place (SetTable.below t.place j) j, dummies := #[] }, SetTable.below t.place j) := by
      have z := put_dm R.dm j
      unfold SetTable.put at z ⊢
      dsimp only at z ⊢
      rw [z]
    rw [e1]
    dsimp only
    generalize hpp : SetTable.below t.place j = p
    have hne : t.place[SetTable.below t.place j]? ≠ some j := fun q => hj (List.mem_of_getElem? (by rw [Array.getElem?_toList]; exact q))
    have ris1 := ris_insert R.ris hne
    have cut := below_cut R.ris j
    rw [hpp] at ris1 cut
    obtain ⟨c1, c2, c3⟩ := cut
    have psz : (SetTable.insertAt t.place p j).size = t.place.size + 1 := by
      have h := congrArg List.length (SetTable.toList_insertAt t.place p j)
      rw [len_ins _ (by rw [Array.length_toList]; omega)] at h
      simpa using h
    have esz : ∀ e : Int × Value, (SetTable.insertAt es p e).size = es.size + 1 := fun e => by
      have h := congrArg List.length (SetTable.toList_insertAt es p e)
      rw [len_ins _ (by rw [Array.length_toList, ← R.sz]; omega)] at h
      simpa using h
    have emem : ∀ (e y : Int × Value), y ∈ (SetTable.insertAt es p e).toList → y = e ∨ y ∈ es.toList := fun e y hy => by
      rw [SetTable.toList_insertAt] at hy
      exact mem_ins.mp hy
    have pmem : ∀ y ∈ (SetTable.insertAt t.place p j).toList, y ≤ t.mask := fun y hy => by
      rw [SetTable.toList_insertAt] at hy
      rcases mem_ins.mp hy with q | q
      · rw [q]; exact hjm
      · exact R.bd y q
    have go : ∀ pl : Bool, wpAny (model P w) A (do
        storeSet a (SetTable.insertAt es p (hh, Value.ref x)) { t with place := SetTable.insertAt t.place p j, dummies := #[], plain := pl }
        if (!false && ({ t with place := SetTable.insertAt t.place p j, dummies := #[], plain := pl } : SetTable).tooFull) = true then setRelay a (SetTable.grown (es.size + 1))
        return true) Q E s := fun pl => by
      refine wpAny_bind (wpAny_storeSet_of ho hd ?_ (by rw [esz, sizeLine_eq]; omega))
      generalize ht1 : ({ t with place := SetTable.insertAt t.place p j, dummies := #[], plain := pl } : SetTable) = t1
      have t1p : t1.place = SetTable.insertAt t.place p j := by rw [← ht1]
      have t1d : t1.dummies = #[] := by rw [← ht1]
      have t1m : t1.mask = t.mask := by rw [← ht1]
      have t1l : t1.led = t.led := by rw [← ht1]
      have hes := esz (hh, Value.ref x)
      have hem := emem (hh, Value.ref x)
      generalize SetTable.insertAt es p (hh, Value.ref x) = es1 at hes hem ⊢
      have sb : Heap.SameBut a s.heap (s.heap.update a (Obj.putSet es1 t1)) := Heap.SameBut.update ..
      have ho1 := store_at (es' := es1) (t' := t1) ho hd
      generalize s.heap.update a (Obj.putSet es1 t1) = h1 at sb ho1 ⊢
      have it1 : ∀ e ∈ es1.toList, ∃ b, e.2 = Value.ref b ∧ NT P w h1 b := fun e he => by
        rcases hem e he with q | q
        · exact ⟨x, by rw [q], hx.but ho hd sb⟩
        · obtain ⟨b, k1, k2⟩ := R.it e q
          exact ⟨b, k1, k2.but ho hd sb⟩
      have from1 : ∀ e ∈ es1.toList, e.2 = .ref x ∨ ∃ e0 ∈ es.toList, e0.2 = e.2 := fun e he => by
        rcases hem e he with q | q
        · exact .inl (by rw [q])
        · exact .inr ⟨e, q, rfl⟩
      have hsz1 : t1.place.size = es1.size := by rw [t1p, psz, hes, R.sz]
      have full : t1.tooFull = decide ((es.size + 1) * 5 ≥ t.mask * 3) := by
        unfold SetTable.tooFull SetTable.fill
        rw [t1d, hsz1, hes, t1m]
        rfl
      by_cases hf : (es.size + 1) * 5 ≥ t.mask * 3
      · dsimp only
        refine wp_if_pos (by rw [full]; simpa using hf) ?_
        refine wpAny_bind ?_
        have cases3 : (t.mask = 7 ∧ es.size = 4) ∨ (t.mask = 31 ∧ es.size = 18) ∨ (t.mask = 127 ∧ es.size = 76) := by
          rcases R.mok with e | e | e | e <;> rw [e] at hf hroom
          · exact .inl ⟨e, by omega⟩
          · exact .inr (.inl ⟨e, by omega⟩)
          · exact .inr (.inr ⟨e, by omega⟩)
          · exfalso; omega
        have fin : ∀ M, SetTable.sizeAbove (SetTable.grown (es.size + 1)) - 1 = M → Mk4 M → SetTable.sizeAbove (SetTable.grown (es.size + 1)) ≤ 512 → (es.size + 1) * 5 < M * 3 →
            wpAny (model P w) A (setRelay a (SetTable.grown (es.size + 1))) (fun _ s' => wpAny (model P w) A (pure true) Q E s') E { s with heap := h1 } := fun M f1 f2 f3 f4 => by
          refine relay_nt (s := { s with heap := h1 }) ho1 ⟨hex.1, hex.2.1, hex.2.2⟩ rfl hsz1 t1d (by rw [hes, t1m]; rcases cases3 with ⟨e, e2⟩ | ⟨e, e2⟩ | ⟨e, e2⟩ <;> omega) (by rw [hes]; exact hfew) (by rw [t1l]; exact R.led) it1 f1 f2 f3 (by rw [hes]; exact f4) ?_
          intro h2 es2 ep2 t2 sb2 R2 n2 m2
          exact wpAny_pure (hQ true h2 es2 ep2 t2 (sb.trans sb2) R2 (by rw [n2, hes]; omega) (by rw [n2, hes]; exact Nat.le_refl _) fun e he => from1 e (m2 e he))
        rcases cases3 with ⟨_, e2⟩ | ⟨_, e2⟩ | ⟨_, e2⟩
        · exact fin 31 (by rw [e2, size_20]) (.inr (.inl rfl)) (by rw [e2, size_20]; decide) (by omega)
        · exact fin 127 (by rw [e2, size_76]) (.inr (.inr (.inl rfl))) (by rw [e2, size_76]; decide) (by omega)
        · exact fin 511 (by rw [e2, size512]) (.inr (.inr (.inr rfl))) (by rw [e2, size512]; decide) (by omega)
      · dsimp only
        refine wp_if_neg (by rw [full]; simpa using hf) ?_
        refine wpAny_pure (hQ true h1 es1 (ep + 1) t1 sb ⟨⟨_, ho1, ⟨hex.1, hex.2.1, hex.2.2⟩, rfl⟩, by rw [t1p]; exact ris1, t1d, hsz1, by rw [t1m]; exact R.mok, by rw [t1p, t1m]; exact pmem, by rw [hes, t1m]; omega, by rw [hes]; exact hfew, by rw [t1l]; exact R.led, it1⟩ (by rw [hes]; omega) (by rw [hes]; exact Nat.le_refl _) from1)
    cases hp : t.plain with
    | true =>
      simp only [if_true]
      refine wpAny_bind (hx.hb fun r => ?_)
      cases r with
      | true =>
        simp only [if_true]
        exact go true
      | false =>
        simp only [Bool.false_eq_true, if_false]
        exact go false
    | false =>
      simp only [Bool.false_eq_true, if_false]
      try refine wpAny_bind (wpAny_pure ?_)
      simp only [if_true]
      exact go false
end
end K16

end K16T3Text
section K16T4Text
set_option autoImplicit false
set_option linter.all false
set_option maxRecDepth 100000
set_option Elab.async false
/-! set(a list): the values told weakly. -/
namespace K16
open PySem PySem.Spec PyProof.Rows L2
def freshSet (w : World) : Obj := { cls := .type "set", dict := none, data := .set #[] 0 (.fresh 0 0 (!w.params.followText "set-order")) }
/-- a set that can be walked -/
def SetB (w : World) (h : Heap) (a : Addr) (es : Array (Int × Value)) : Prop :=
  ∃ o ep t, h.get? a = some o ∧ o.ExactSet ∧ o.data = .set es ep t ∧ t.fits es.size = true ∧ Ris t.place.toList ∧ es.size ≤ 200 ∧ (w.params.followText "set-order" = true ∨ t.led = true)
/-- values that a set takes -/
structure SetSys (P : Program) (w : World) (S : Addr) (h0 : Heap) (its : List Value) where
  I : Heap → Array (Int × Value) → Prop
  new : ∀ {h}, h.get? S = some (freshSet w) → I h #[]
  keep : ∀ {h h' es}, I h es → (∀ e ∈ es.toList, e.2 ∈ its) → (∀ o, h.get? S = some o → h'.get? S = some o) → (∀ b o, h0.get? b = some o → h'.get? b = some o) → I h' es
  out : ∀ {h es}, I h es → SetB w h S es
  add : ∀ {A : Around} {E : Value → Shared → Prop} {s : Shared} {es : Array (Int × Value)} {v : Value} {Q : Bool → Shared → Prop}, v ∈ its → A.units + 8 < cLine → (∀ b o, h0.get? b = some o → s.heap.get? b = some o) → I s.heap es → es.size + 1 ≤ 200 →
    (∀ b h' tk es', Heap.SameBut S s.heap h' → s.toks ≤ tk → I h' es' → 0 < es'.size → es'.size ≤ es.size + 1 → (∀ e ∈ es'.toList, e.2 = v ∨ ∃ e0 ∈ es.toList, e0.2 = e.2) → Q b { s with heap := h', toks := tk }) → wpAny (model P w) A (setAdd S v) Q E s
section
variable {P : Program} {w : World} {A : Around} {E : Value → Shared → Prop} {s : Shared}
theorem setD_fresh {h : Heap} {a : Addr} (ho : h.get? a = some (freshSet w)) : SetD P w h a #[] 0 (.fresh 0 0 (!w.params.followText "set-order")) where
  ob := ⟨_, ho, ⟨rfl, rfl, rfl⟩, rfl⟩
  ris := List.Pairwise.nil
  dm := rfl
  sz := rfl
  mok := .inl rfl
  bd := fun x hx => by cases hx
  room := by
    show 0 * 5 < 7 * 3
    decide
  few := Nat.zero_le _
  led := by
    show _ ∨ (!w.params.followText "set-order") = true
    cases w.params.followText "set-order"
    · exact .inr rfl
    · exact .inl rfl
  it := fun e he => by simp at he
/-- nested tuples -/
def sysN (P : Program) (w : World) (S : Addr) (h0 : Heap) (its : List Value) (hit : ∀ v ∈ its, ∃ b, v = Value.ref b ∧ NT P w h0 b) : SetSys P w S h0 its where
  I := fun h es => ∃ ep t, SetD P w h S es ep t
  new := fun ho => ⟨_, _, setD_fresh ho⟩
  keep := fun ⟨ep, t, R⟩ hes hS h0k => ⟨ep, t, by
    obtain ⟨o, ho, r⟩ := R.ob
    exact ⟨⟨o, hS o ho, r⟩, R.ris, R.dm, R.sz, R.mok, R.bd, R.room, R.few, R.led, fun e he => by
      obtain ⟨b, e1, e2⟩ := hit _ (hes e he)
      exact ⟨b, e1, e2.keep fun c o _ _ hc _ => h0k c o hc⟩⟩⟩
  out := fun ⟨ep, t, R⟩ => by
    obtain ⟨o, ho, hex, hd⟩ := R.ob
    exact ⟨o, ep, t, ho, hex, hd, fits_of R.sz R.dm (by have := R.room; omega), R.ris, R.few, R.led⟩
  add := fun {A E s es v Q} hv hu h0k ⟨ep, t, R⟩ hfew hQ => by
    obtain ⟨b, rfl, hb⟩ := hit _ hv
    have hb2 : NT P w s.heap b := hb.keep fun c o _ _ hc _ => h0k c o hc
    unfold setAdd
    refine wpAny_holding (wpAny_bind (hb2.hash hu fun z n => ?_))
    exact add_nt (s := { s with toks := s.toks + n }) R hb2 hu z hfew fun b h' es' ep' t' sb R' p n' m => hQ b h' _ es' sb (Nat.le_add_right _ _) ⟨ep', t', R'⟩ p n' m
/-! ### what is carried by value -/
section
variable {Kt : Type} [DecidableEq Kt] {knd : KeyKind P w Kt} {a : Addr}
def SetC (knd : KeyKind P w Kt) (h : Heap) (a : Addr) (es : Array (Int × Value)) : Prop := SetB w h a es ∧ ElemsOf knd es.toList
theorem sc_tail {g : Bool → Sem Unit} (hg : ∀ (b : Bool) (s₁ : Shared) (Q' : Unit → Shared → Prop), Q' () s₁ → wpAny (model P w) A (g b) Q' E s₁)
    {o : Obj} {es : Array (Int × Value)} {ep : Nat} {t : SetTable} (ho : s.heap.get? a = some o) (hex : o.ExactSet) (hd : o.data = .set es ep t)
    {es1 : Array (Int × Value)} {t2 : SetTable} (g1 : ElemsOf knd es1.toList) (hb1 : es1.size ≤ 200) (hf2 : t2.fits es1.size = true) (hr : Ris t2.place.toList) (hl : w.params.followText "set-order" = true ∨ t2.led = true) {wasDummy : Bool} {R : Option Bool → Shared → Prop}
    (hR : ∀ h' es2, Heap.SameBut a s.heap h' → SetC knd h' a es2 → es2.toList.Perm es1.toList → R (some true) { s with heap := h' }) :
    wpAny (model P w) A (do
        storeSet a es1 t2
        if (!wasDummy && t2.tooFull) = true then do
            g (relayAll t2 es1 (SetTable.grown es1.size)).2.2
            storeSet a (relayAll t2 es1 (SetTable.grown es1.size)).1 (relayAll t2 es1 (SetTable.grown es1.size)).2.1
            pure (some true)
          else pure (some true)) R E s := by
  have sb0 : ∀ n, n ≤ 200 → n < scanBound := fun n h => by unfold scanBound; omega
  refine wpAny_bind (wpAny_storeSet_of ho hd ?_ (fits_of_scanBound (sb0 _ hb1)))
  have ho1 := store_at (es' := es1) (t' := t2) ho hd
  have sb1 := Heap.SameBut.update s.heap a (Obj.putSet es1 t2)
  split
  · have pm := relayAll_perm t2 es1 (SetTable.grown es1.size)
    have hf3 := relayAll_fits t2 es1 (SetTable.grown es1.size)
    have hr3 := relayAll_ris t2 es1 (SetTable.grown es1.size)
    have hl3 := relayAll_led t2 es1 (SetTable.grown es1.size)
    generalize relayAll t2 es1 (SetTable.grown es1.size) = Z at pm hf3 hr3 hl3 ⊢
    obtain ⟨es2, t3, gave⟩ := Z
    dsimp only at pm hf3 hr3 hl3 ⊢
    have hsz : es2.size = es1.size := by rw [← Array.length_toList, pm.length_eq, Array.length_toList]
    refine wpAny_bind (hg _ _ _ ?_)
    refine wpAny_bind (wpAny_storeSet_of ho1 rfl ?_ (fits_of_scanBound (sb0 _ (by rw [hsz]; exact hb1))))
    have ho2 := store_at (es' := es2) (t' := t3) ho1 rfl
    refine wpAny_pure (hR _ es2 (sb1.trans (Heap.SameBut.update _ a _)) ?_ pm)
    exact ⟨⟨_, _, t3, ho2, hex, rfl, hf3, hr3, by rw [hsz]; exact hb1, hl.imp id fun z => by rw [hl3]; exact z⟩, fun e he => g1 e (pm.mem_iff.mp he)⟩
  · exact wpAny_pure (hR _ es1 sb1 ⟨⟨_, _, t2, ho1, hex, rfl, hf2, hr, hb1, hl⟩, g1⟩ (List.Perm.refl _))
theorem add_sc {k : Kt} {x : Value} {es : Array (Int × Value)} {Q : Bool → Shared → Prop} (hkey : knd.is k x = true) (hsc : x.scannable = true) (R : SetC knd s.heap a es) (room : es.size + 1 ≤ 200)
    (hQ : ∀ b h' es', Heap.SameBut a s.heap h' → SetC knd h' a es' → 0 < es'.size → es'.size ≤ es.size + 1 → (∀ e ∈ es'.toList, e.2 = x ∨ ∃ e0 ∈ es.toList, e0.2 = e.2) → Q b { s with heap := h' }) :
    wpAny (model P w) A (setAddHashed a x (knd.hash k)) Q E s := by
  obtain ⟨⟨o, ep, t, ho, hex, hd, hf, hr, hb, hl⟩, hel⟩ := id R
  unfold setAddHashed setAddHashedIn
  refine wpAny_holding (wpAny_bind (wpAny_setState_of ho hd hf ?_))
  dsimp only
  rw [byScan_of hsc (by unfold scanBound; omega) hel]
  simp only [↓reduceIte]
  unfold setAddByScan
  refine wpAny_bind ?_
  refine wpAny_bind (wpAny_rule ?_)
  refine wpAny_bind (wpAny_setScan_of hkey ho hd hf hel ?_)
  cases hfi : List.findIdx? (fun e => knd.is k e.2) es.toList with
  | some j =>
    dsimp only
    obtain ⟨hj, pj, _⟩ := List.findIdx?_eq_some_iff_getElem.mp hfi
    rw [Array.length_toList] at hj
    refine wpAny_pure (wpAny_pure ?_)
    exact hQ false s.heap es (Heap.SameBut.refl a s.heap) R (by omega) (by omega) fun e he => .inr ⟨e, he, rfl⟩
  | none =>
    dsimp only
    have hgw : ∀ (b : Bool) {s₁ : Shared} {Q' : Unit → Shared → Prop}, Q' () s₁ → wpAny (model P w) A (match b with | true => rule "set.scan.the-table-gave-way" | false => pure ()) Q' E s₁ :=
      fun b s₁ Q' q => by cases b <;> first | exact wpAny_pure q | exact wpAny_rule q
    have pm := layNew_perm t es (knd.hash k) x
    have hf1 := layNew_fits t es (knd.hash k) x
    have hr1 := layNew_ris t es (knd.hash k) x hr
    have hl1 := layNew_led t es (knd.hash k) x
    generalize layNew t es (knd.hash k) x = Z at pm hf1 hr1 hl1 ⊢
    obtain ⟨es1, t1, wasDummy, gave⟩ := Z
    dsimp only at pm hf1 hr1 hl1 ⊢
    rw [Array.toList_push] at pm
    have pc : es1.toList.Perm ((knd.hash k, x) :: es.toList) := pm.trans (List.perm_append_singleton _ _)
    have g1 : ElemsOf knd es1.toList := fun e he => by
      rcases List.mem_cons.mp (pc.mem_iff.mp he) with z | z
      · rw [z]; exact ⟨⟨k, hkey, rfl⟩, hsc⟩
      · exact hel e z
    have hsz : es1.size = es.size + 1 := by rw [← Array.length_toList, pc.length_eq, List.length_cons, Array.length_toList]
    have hled : w.params.followText "set-order" = true ∨ t1.led = true := hl.imp id fun z => by rw [hl1]; exact z
    have fin : ∀ h' es2, Heap.SameBut a s.heap h' → SetC knd h' a es2 → es2.toList.Perm es1.toList → Q true { s with heap := h' } := fun h' es2 sb r p => by
      have hz : es2.size = es.size + 1 := by rw [← Array.length_toList, p.length_eq, Array.length_toList, hsz]
      refine hQ true h' es2 sb r (by omega) (by omega) fun e he => ?_
      rcases List.mem_cons.mp (pc.mem_iff.mp (p.mem_iff.mp he)) with z | z
      · exact .inl (by rw [z])
      · exact .inr ⟨e, z, rfl⟩
    refine wpAny_bind (hgw _ ?_)
    split
    · refine wpAny_bind ?_
      rw [hashByValue_scannable 8 hsc]
      refine wpAny_pure ?_
      refine sc_tail (knd := knd) ?_ ho hex hd g1 (by rw [hsz]; exact room) ?_ ?_ ?_ ?_
      · intro b s₁ Q' q; cases b <;> first | exact wpAny_pure q | exact wpAny_rule q
      · first | (split <;> first | exact hf1 | exact SetTable.fits_plain_off hf1) | exact hf1
      · first | (split <;> exact hr1) | exact hr1
      · first | (split <;> exact hled) | exact hled
      · intro h' es2 sb r p; dsimp only; exact wpAny_pure (fin h' es2 sb r p)
    · refine wpAny_bind (wpAny_pure ?_)
      simp only [↓reduceIte]
      refine sc_tail (knd := knd) ?_ ho hex hd g1 (by rw [hsz]; exact room) hf1 hr1 hled ?_
      · intro b s₁ Q' q; cases b <;> first | exact wpAny_pure q | exact wpAny_rule q
      · intro h' es2 sb r p; dsimp only; exact wpAny_pure (fin h' es2 sb r p)
def sysC (knd : KeyKind P w Kt) (S : Addr) (h0 : Heap) (its : List Value) (hit : ∀ v ∈ its, (∃ k, knd.is k v = true) ∧ v.scannable = true) : SetSys P w S h0 its where
  I := fun h es => SetC knd h S es
  new := fun ho => ⟨⟨_, 0, _, ho, ⟨rfl, rfl, rfl⟩, rfl, by rfl, List.Pairwise.nil, Nat.zero_le _, by
    show _ ∨ (!w.params.followText "set-order") = true
    cases w.params.followText "set-order"
    · exact .inr rfl
    · exact .inl rfl⟩, fun e he => by simp at he⟩
  keep := fun ⟨⟨o, ep, t, ho, r⟩, hel⟩ hes hS h0k => ⟨⟨o, ep, t, hS o ho, r⟩, hel⟩
  out := fun h => h.1
  add := fun {A E s es v Q} hv hu h0k R hfew hQ => by
    obtain ⟨⟨k, hk⟩, hsc⟩ := hit _ hv
    unfold setAdd
    refine wpAny_holding (wpAny_bind (knd.pyHash hk ?_))
    exact add_sc (s := { s with toks := s.toks + 1 }) hk hsc R hfew fun b h' es' sb R' p n' m => hQ b h' _ es' sb (Nat.le_add_right _ _) R' p n' m
end
/-! ### set(xs) -/
theorem set_update_g {I : Addr} {fp wr : List Addr} {G : Array GenState → Array GenState → Prop} {n : Nat} {Pv : Nat → Value → Prop} {St : Nat → Shared → Prop} {R : Result → Shared → Prop}
    (W : WalksS P w A.in1 I fp wr G n Pv St) (S : Addr) (hSf : S ∉ fp) {h0 : Heap} {its : List Value} (Y : SetSys P w S h0 its) (hfew : n ≤ 200) (hval : ∀ i v, Pv i v → v ∈ its)
    (hS0 : h0.get? S = none) (hw0 : ∀ b ∈ wr, h0.get? b = none) (hu : A.in1.units + 8 < cLine) :
    ∀ (k i : Nat) (s : Shared), n - i = k → i ≤ n → St i s → (∀ b o, h0.get? b = some o → s.heap.get? b = some o) → (∃ es, Y.I s.heap es ∧ es.size ≤ i ∧ (0 < i → 0 < es.size) ∧ ∀ e ∈ es.toList, e.2 ∈ its) →
      (∀ s' es, Moved (S :: wr) G s s' → Y.I s'.heap es → es.size ≤ n → (0 < n → 0 < es.size) → (∀ e ∈ es.toList, e.2 ∈ its) → (∀ b o, h0.get? b = some o → s'.heap.get? b = some o) → R (.ok (.ret .none)) s') →
      codeAny (model P w) A (.builtin "set.update.loop" ⟨[.ref S, .ref I], []⟩) R s := by
  have hSw : S ∉ wr := fun h => hSf (W.sub _ h)
  have hsub : ∀ b ∈ wr, b ∈ S :: wr := fun b hb => List.mem_cons_of_mem _ hb
  have keepM : ∀ {s s' : Shared}, Moved wr G s s' → (∀ b o, h0.get? b = some o → s.heap.get? b = some o) → ∀ b o, h0.get? b = some o → s'.heap.get? b = some o := fun hm hkp b o e =>
    hm.heap b o (fun hb => by rw [hw0 b hb] at e; cases e) (hkp b o e)
  intro k
  induction k with
  | zero =>
    intro i s hk' hi hst hkp ⟨es, hS, z1, z2, z3⟩ hR
    have hin : i = n := by omega
    subst hin
    refine codeAny_builtin F.entry_set_update_loop ?_
    rw [Around.under_plainId F.plain_set_update_loop _]
    show wpAny _ A.in1 (pyNext (.ref I) >>= _) _ _ s
    refine wpAny_bind (W.done s _ _ hst fun s' hm => ?_)
    show wpAny _ A.in1 (ret Value.none) _ _ s'
    have hkp' := keepM hm hkp
    exact wpAny_pure (hR s' es (hm.mono hsub) (Y.keep hS z3 (fun o e => hm.heap S o hSw e) hkp') z1 z2 z3 hkp')
  | succ k ih =>
    intro i s hk' hi hst hkp ⟨es, hS, z1, z2, z3⟩ hR
    have hlt : i < n := by omega
    refine codeAny_builtin F.entry_set_update_loop ?_
    rw [Around.under_plainId F.plain_set_update_loop _]
    show wpAny _ A.in1 (pyNext (.ref I) >>= _) _ _ s
    refine wpAny_bind (W.item i s _ _ hlt hst fun v s' hP hst' hm => ?_)
    have hv := hval i v hP
    have hkp' := keepM hm hkp
    have hS' := Y.keep hS z3 (fun o e => hm.heap S o hSw e) hkp'
    show wpAny _ A.in1 (holding [v] (setAdd S v) >>= _) _ _ s'
    refine wpAny_bind (wpAny_holding ?_)
    refine Y.add hv hu hkp' hS' (by omega) fun b h' tk es' hsb htk hS2 c1 c2 c3 => ?_
    have hkp2 : ∀ b o, h0.get? b = some o → h'.get? b = some o := fun b o e => (hsb.2 b (fun z => by rw [z, hS0] at e; cases e)).trans (hkp' b o e)
    have c4 : ∀ e ∈ es'.toList, e.2 ∈ its := fun e he => by
      rcases c3 e he with q | ⟨e0, h1, h2⟩
      · rw [q]; exact hv
      · rw [← h2]; exact z3 e0 h1
    refine wpAny_pure ⟨plainId_quiet F.plain_set_update_loop _, ih (i + 1) _ (by omega) hlt (W.frame _ s' _ _ hst' htk fun b hb o e => ?_) hkp2 ⟨es', hS2, by omega, fun _ => c1, c4⟩ fun s'' es2 hm'' hS'' y1 y2 y3 hkp'' => ?_⟩
    · rw [hsb.2 b (fun h : b = S => hSf (by rw [← h]; exact hb))]; exact e
    · refine hR s'' es2 (Moved.trans W.gtrans ((hm.mono hsub).then_heap htk fun b o hb e => ?_) hm'') hS'' y1 y2 y3 hkp''
      rw [hsb.2 b (fun h : b = S => hb (by rw [h]; exact List.mem_cons_self))]; exact e
set_option maxHeartbeats 3200000 in
/-- set(xs) -/
theorem call_set_g {l : Addr} {items : Array Value} {Q : Value → Shared → Prop} (hh : A.handled = none) (hl : s.heap.IsList l items) (Y : SetSys P w s.heap.objs.size s.heap items.toList) (hfew : items.size ≤ 200) (hu : A.units + 11 < cLine)
    (h : ∀ (h' : Heap) (tk : Nat) es, SetB w h' s.heap.objs.size es → es.size ≤ items.size → (0 < items.size → 0 < es.size) → (∀ e ∈ es.toList, e.2 ∈ items.toList) → (∀ b o, s.heap.get? b = some o → h'.get? b = some o) → Q (.ref s.heap.objs.size) { s with heap := h', toks := tk }) :
    wpAny (model P w) A (call (.type "set") [.ref l]) Q E s := by
  obtain ⟨c, tl, hmro⟩ := F.called_set.mro
  have hmade := F.called_set.made
  have hsub := F.called_set.sub
  refine wpAny_call (codeAny_of_tree ?_)
  show wpAny _ _ (callAny (.type "set") _) _ _ _
  refine wpAny_pure ⟨Code.quiet_builtin _ (by decide +kernel), codeAny_builtin F.entry_type_call ?_⟩
  rw [Around.under_plain (weight_type_call_type "set" [.ref l] []) rfl]
  have h1 := F.called_set.notType
  have h2 := F.called_set.canCreate
  have hct := F.typeCall_set_1 (.ref l)
  repeat (any_goals (first | assumption | wp_step))
  refine codeAny_mono (code_set_led1 (.ref l) (E := E) (Q₁ := fun obj s₁ => obj = .ref s.heap.objs.size ∧ s₁ = { s with heap := s.heap.push { cls := .type "set", dict := none, data := .set #[] 0 (.fresh 0 0 (!w.params.followText "set-order")) } }) ⟨rfl, rfl⟩) fun r s₁ hr => ?_
  cases r with
  | error e => exact hr
  | ok fl =>
    cases fl with
    | ret obj =>
      obtain ⟨rfl, rfl⟩ := hr
      have hS : (s.heap.push { cls := .type "set", dict := none, data := .set #[] 0 (.fresh 0 0 (!w.params.followText "set-order")) }).get? s.heap.objs.size = some { cls := .type "set", dict := none, data := .set #[] 0 (.fresh 0 0 (!w.params.followText "set-order")) } := Heap.get?_push_size _ rfl
      have hT : Shared.TypeIs { s with heap := s.heap.push { cls := .type "set", dict := none, data := .set #[] 0 (.fresh 0 0 (!w.params.followText "set-order")) } } (.ref s.heap.objs.size) "set" := ⟨_, hS, rfl⟩
      have hli := F.called_set.init.lookup
      have hbi := F.called_set.init.bind (.ref s.heap.objs.size)
      repeat (any_goals (first | assumption | wp_step))
      refine codeAny_mono (codeAny_call_builtin (R := wants (fun r s₂ => r = .none ∧ ∃ h' tk es, s₂ = { s with heap := h', toks := tk } ∧ SetB w h' s.heap.objs.size es ∧ es.size ≤ items.size ∧ (0 < items.size → 0 < es.size) ∧ (∀ e ∈ es.toList, e.2 ∈ items.toList) ∧
          (∀ b o, s.heap.get? b = some o → h'.get? b = some o)) E) F.called_set.init.plain F.entry_set_init (check_set_init_1 hT ?_)) fun r₂ s₂ hr₂ => ?_
      · obtain ⟨ol, hol, hcl, nl, hdl⟩ := hl
        obtain ⟨ocls, odict, odata, oslots⟩ := ol
        simp only at hcl hdl
        subst hcl; subst hdl
        have hol' : (s.heap.push { cls := .type "set", dict := none, data := .set #[] 0 (.fresh 0 0 (!w.params.followText "set-order")) }).get? l = some { cls := .type "list", dict := odict, data := .seq items nl, slots := oslots } := Heap.get?_push_of_some _ hol
        have hsls := F.sub_list_set
        have hslf := F.sub_list_frozenset
        have hne : (Value.type "list" == Value.type "dict") = false := by decide
        have hl1 : (s.heap.push { cls := .type "set", dict := none, data := .set #[] 0 (.fresh 0 0 (!w.params.followText "set-order")) }).IsList l items := ⟨_, hol', rfl, nl, rfl⟩
        unfold Builtin.«set.__init__» noKeywords Builtin.Frozenset.updateFrom
        generalize hPI : pyIter = PI
        wp_walk
        subst hPI
        refine wpAny_pyIter_list hl1 ?_
        refine wpAny_bind (wpAny_runValue ?_)
        have hlS : l < s.heap.objs.size := Heap.lt_size hol
        have hh3 : A.in1.in1.in1.handled = none := by simp [hh]
        have hneI : l ≠ (s.heap.push { cls := .type "set", dict := none, data := .set #[] 0 (.fresh 0 0 (!w.params.followText "set-order")) }).objs.size := by
          rw [Heap.size_push]; exact Nat.ne_of_lt (Nat.lt_succ_of_lt hlS)
        have hSf : s.heap.objs.size ∉ [(s.heap.push { cls := .type "set", dict := none, data := .set #[] 0 (.fresh 0 0 (!w.params.followText "set-order")) }).objs.size, l] := by
          rw [Heap.size_push]; simp only [List.mem_cons, List.mem_singleton, List.not_mem_nil, or_false, not_or]
          exact ⟨Nat.ne_of_lt (Nat.lt_succ_self _), Nat.ne_of_gt hlS⟩
        have hval : ∀ (i : Nat) (v : Value), items[i]? = some v → v ∈ items.toList := fun i v hv => by
          have q : items.toList[i]? = some v := by rw [Array.getElem?_toList]; exact hv
          exact List.mem_of_getElem? q
        have none_of : ∀ b, s.heap.objs.size ≤ b → s.heap.get? b = none := fun b hb => by
          cases q : s.heap.get? b with
          | none => rfl
          | some o => exact absurd (Nat.lt_of_lt_of_le (Heap.lt_size q) hb) (Nat.lt_irrefl _)
        refine set_update_g ((Walks.list hh3 _ l hneI items).toS) s.heap.objs.size
          hSf Y hfew hval (none_of _ (Nat.le_refl _)) (fun b hb => none_of b (by
            rw [List.mem_singleton.mp hb, Heap.size_push]
            exact Nat.le_succ _)) hu (items.size - 0) 0 _ (by omega) (Nat.zero_le _)
          ⟨⟨_, Heap.get?_push_size _ rfl, rfl, rfl⟩, (hl1.push _)⟩ (fun b o e => Heap.get?_push_of_some _ (Heap.get?_push_of_some _ e)) ?hS0 ?hR
        case hS0 =>
          have hget : ((s.heap.push { cls := .type "set", dict := none, data := .set #[] 0 (.fresh 0 0 (!w.params.followText "set-order")) }).push { cls := .type "list_iterator", data := .fields #[.ref l, .int 0 0] }).get? s.heap.objs.size
              = some { cls := .type "set", dict := none, data := .set #[] 0 (.fresh 0 0 (!w.params.followText "set-order")) } := Heap.get?_push_of_some _ hS
          exact ⟨#[], Y.new hget, Nat.le_refl _, fun z => absurd z (Nat.lt_irrefl _), fun e he => by simp at he⟩
        case hR =>
          intro s' es hm hS' z1 z2 z3 hkp
          obtain ⟨h', g2, d', tk', os'⟩ := s'
          have eg : g2 = s.gens := hm.gens
          have ed : d' = s.drawn := hm.drawn
          have eo : os' = s.os := hm.os
          subst eg; subst ed; subst eo
          show wpAny _ _ _ _ _ _
          refine wpAny_pure ?_
          show wpAny _ _ (ret Value.none) _ _ _
          exact wpAny_pure ⟨rfl, h', tk', es, rfl, Y.out hS', z1, z2, z3, hkp⟩
      · cases r₂ with
        | error e => exact hr₂
        | ok fl₂ =>
          cases fl₂ with
          | ret r =>
            obtain ⟨rfl, h', tk, es, rfl, hS', y1, y2, y3, hk'⟩ := hr₂
            repeat (any_goals (first | assumption | wp_step))
            exact h _ _ _ hS' y1 y2 y3 hk'
          | _ => exact hr₂.elim
    | _ => exact hr.elim
end
end K16

end K16T4Text
section K16T5Text
set_option autoImplicit false
set_option linter.all false
set_option maxRecDepth 100000
set_option Elab.async false
/-! The order of the values themselves. -/
namespace K16
open PySem PySem.Spec PySem.Calls PySem.W PyProof.Rows PySem.SeqAt
def ltN : (s : So) → Va s → Va s → Bool
  | .mark ls => fun (v u : _root_.Fin ls.length) => PyProof.Rows.strKind.blt (ls.get v).cps.toList (ls.get u).cps.toList
  | .count => fun (v u : Nat) => decide (v < u)
  | .both a b => fun v u => if v.1 = u.1 then ltN b v.2 u.2 else ltN a v.1 u.1
  | .either a b => fun v u => match v, u with
    | .inl v, .inl u => ltN a v u
    | .inr v, .inr u => ltN b v u
    | .inl _, .inr _ => true
    | .inr _, .inl _ => false
  | .lane a => fun v u => lexL (ltN a) v u
  | .heap a => fun v u => lexL (ltN a) v u
theorem ltN_lin : ∀ s : So, Wf s → Lin (ltN s)
  | .mark ls, hw => ⟨fun (a : _root_.Fin ls.length) => PyProof.Rows.strKind.irrefl _, fun (a b : _root_.Fin ls.length) h => by
      have h : PyProof.Rows.strKind.blt (ls.get a).cps.toList (ls.get b).cps.toList = true := h
      show PyProof.Rows.strKind.blt (ls.get b).cps.toList (ls.get a).cps.toList = false
      cases e : PyProof.Rows.strKind.blt (ls.get b).cps.toList (ls.get a).cps.toList with
      | false => rfl
      | true =>
        have z := PyProof.Rows.strKind.trans _ _ _ h e
        rw [PyProof.Rows.strKind.irrefl] at z
        exact Bool.noConfusion z, fun (a b : _root_.Fin ls.length) h1 h2 => by
      have e := PySem.W.str_of_cps (PyProof.Rows.strKind.total _ _ h1 h2)
      exact Fin.ext ((List.getElem_inj hw.1).mp e), fun (a b c : _root_.Fin ls.length) h1 h2 => PyProof.Rows.strKind.trans _ _ _ h1 h2⟩
  | .count, _ => ⟨fun (a : Nat) => by show decide (a < a) = false; simp, fun (a b : Nat) h => by
      have h : decide (a < b) = true := h
      show decide (b < a) = false
      simp only [decide_eq_true_eq, decide_eq_false_iff_not] at h ⊢
      omega, fun (a b : Nat) h1 h2 => by
      have h1 : decide (a < b) = false := h1
      have h2 : decide (b < a) = false := h2
      simp only [decide_eq_false_iff_not] at h1 h2
      exact Nat.le_antisymm (Nat.le_of_not_lt h2) (Nat.le_of_not_lt h1), fun (a b c : Nat) h1 h2 => by
      have h1 : decide (a < b) = true := h1
      have h2 : decide (b < c) = true := h2
      show decide (a < c) = true
      simp only [decide_eq_true_eq] at h1 h2 ⊢
      omega⟩
  | .both a b, hw => by
    have A := ltN_lin a hw.1
    have B := ltN_lin b hw.2
    refine ⟨fun x => ?_, fun x y h => ?_, fun x y h1 h2 => ?_, fun x y z h1 h2 => ?_⟩
    · show (if x.1 = x.1 then ltN b x.2 x.2 else ltN a x.1 x.1) = false
      rw [if_pos rfl]
      exact B.irr _
    · have h : (if x.1 = y.1 then ltN b x.2 y.2 else ltN a x.1 y.1) = true := h
      show (if y.1 = x.1 then ltN b y.2 x.2 else ltN a y.1 x.1) = false
      by_cases c : x.1 = y.1
      · rw [if_pos c] at h
        rw [if_pos c.symm]
        exact B.asym _ _ h
      · rw [if_neg c] at h
        rw [if_neg (Ne.symm c)]
        exact A.asym _ _ h
    · have h1 : (if x.1 = y.1 then ltN b x.2 y.2 else ltN a x.1 y.1) = false := h1
      have h2 : (if y.1 = x.1 then ltN b y.2 x.2 else ltN a y.1 x.1) = false := h2
      by_cases c : x.1 = y.1
      · rw [if_pos c] at h1
        rw [if_pos c.symm] at h2
        exact Prod.ext c (B.tri _ _ h1 h2)
      · rw [if_neg c] at h1
        rw [if_neg (Ne.symm c)] at h2
        exact absurd (A.tri _ _ h1 h2) c
    · have h1 : (if x.1 = y.1 then ltN b x.2 y.2 else ltN a x.1 y.1) = true := h1
      have h2 : (if y.1 = z.1 then ltN b y.2 z.2 else ltN a y.1 z.1) = true := h2
      show (if x.1 = z.1 then ltN b x.2 z.2 else ltN a x.1 z.1) = true
      by_cases c1 : x.1 = y.1
      · rw [if_pos c1] at h1
        by_cases c2 : y.1 = z.1
        · rw [if_pos c2] at h2
          rw [if_pos (c1.trans c2)]
          exact B.trans _ _ _ h1 h2
        · rw [if_neg c2] at h2
          rw [if_neg (by rw [c1]; exact c2), c1]
          exact h2
      · rw [if_neg c1] at h1
        by_cases c2 : y.1 = z.1
        · rw [if_neg (by rw [← c2]; exact c1), ← c2]
          exact h1
        · rw [if_neg c2] at h2
          have e3 := A.trans _ _ _ h1 h2
          have c3 : x.1 ≠ z.1 := by
            intro q
            rw [q, A.irr] at e3
            cases e3
          rw [if_neg c3]
          exact e3
  | .either a b, hw => by
    have A := ltN_lin a hw.1
    have B := ltN_lin b hw.2
    refine ⟨fun x => ?_, fun x y h => ?_, fun x y h1 h2 => ?_, fun x y z h1 h2 => ?_⟩
    · cases x with
      | inl x => exact A.irr x
      | inr x => exact B.irr x
    · cases x <;> cases y
      · exact A.asym _ _ h
      · rfl
      · cases h
      · exact B.asym _ _ h
    · cases x <;> cases y
      · exact congrArg _ (A.tri _ _ h1 h2)
      · cases h1
      · cases h2
      · exact congrArg _ (B.tri _ _ h1 h2)
    · cases x <;> cases y <;> cases z
      · exact A.trans _ _ _ h1 h2
      · rfl
      · cases h2
      · rfl
      · cases h1
      · cases h1
      · cases h2
      · exact B.trans _ _ _ h1 h2
  | .lane a, hw => (ltN_lin a hw).lex
  | .heap a, hw => (ltN_lin a hw).lex
def isTN : So → Bool
  | .mark _ => false
  | .count => false
  | _ => true
def rowN : (s : So) → Va s → List PyData
  | .mark ls => fun (i : _root_.Fin ls.length) => [.int (i.val : Int)]
  | .count => fun (n : Nat) => [.int (n : Int)]
  | .both a b => fun v => [enc a v.1, enc b v.2]
  | .either a b => fun v => match v with
    | .inl v => [.str "left", enc a v]
    | .inr v => [.str "right", enc b v]
  | .lane a => fun (v : List (Va a)) => v.map (enc a)
  | .heap a => fun (v : List (Va a)) => v.map (enc a)
theorem enc_row : ∀ {s : So} (v : Va s), isTN s = true → enc s v = .tuple (rowN s v)
  | .mark ls, v, h => by cases h
  | .count, v, h => by cases h
  | .both a b, v, h => rfl
  | .either a b, .inl v, h => rfl
  | .either a b, .inr v, h => rfl
  | .lane a, v, h => rfl
  | .heap a, v, h => rfl
theorem plain_rowN {s : So} (v : Va s) : PyData.plainAll (rowN s v) = true := by
  cases s with
  | mark ls => rfl
  | count => rfl
  | both a b => simp [rowN, PyData.plainAll, plain_enc]
  | either a b => cases v <;> simp [rowN, PyData.plainAll, plain_enc, PyData.plain]
  | lane a => exact plain_enc (.lane a) v
  | heap a => exact plain_enc (.heap a) v
/-- what the fast < says of x and y -/
def OneS (A : Around) (st : Shared) (x y : PyData) (r : Bool) : Prop := ∀ a b as bs, Reads st.heap a x as → Reads st.heap b y bs → ∀ (prog : Program) (w : World) (E : Value → Shared → Prop) (Q : Bool → Shared → Prop), Q r st → wpAny (model prog w) A (oneLt' true a b) Q E st
theorem ltS_str {A : Around} {st : Shared} {p q : Str} {r : Bool} (h : r = PyProof.Rows.strKind.blt p.cps.toList q.cps.toList) : LtS A st (.str p) (.str q) r := fun a b as bs ra rb prog w E Q hq => by
  cases ra
  cases rb
  subst h
  exact PyProof.Rows.lt_str hq
theorem oneS_str {A : Around} {st : Shared} {p q : Str} {r : Bool} (h : r = PyProof.Rows.strKind.blt p.cps.toList q.cps.toList) : OneS A st (.str p) (.str q) r := fun a b as bs ra rb prog w E Q hq => by
  cases ra
  cases rb
  subst h
  exact PyProof.Rows.oneLt_str hq
theorem oneS_int {A : Around} {st : Shared} {p q : Int} {r : Bool} (h : r = decide (p < q)) : OneS A st (.int p) (.int q) r := fun a b as bs ra rb prog w E Q hq => by
  cases ra
  cases rb
  subst h
  exact PyProof.Rows.oneLt_int hq
theorem leaf_lt {s : So} (h : isTN s = false) (x y : Va s) (A : Around) (st : Shared) : LtS A st (enc s x) (enc s y) (ltN s x y) := by
  cases s with
  | mark ls => exact ltS_str rfl
  | count => exact ltS_int (nat_lt x y)
  | _ => cases h
theorem leaf_one {s : So} (h : isTN s = false) (x y : Va s) (A : Around) (st : Shared) : OneS A st (enc s x) (enc s y) (ltN s x y) := by
  cases s with
  | mark ls => exact oneS_str rfl
  | count => exact oneS_int (nat_lt x y)
  | _ => cases h
mutual
theorem ltS_enc : ∀ (s : So) (hw : Wf s) (x y : Va s) (A : Around) (st : Shared), A.units + dep s + 2 < cLine → LtS A st (enc s x) (enc s y) (ltN s x y) := fun s hw x y A st hu => by
  by_cases h : isTN s = true
  · rw [enc_row x h, enc_row y h]
    intro a b as bs ra rb
    have hd := depth_enc s x
    rw [enc_row x h] at hd
    exact rcLt_tup ra rb (plain_rowN x) (plain_rowN y) (by omega) (row_enc s hw x y h A st hu)
  · exact leaf_lt (by simpa using h) x y A st
theorem row_enc : ∀ (s : So) (hw : Wf s) (x y : Va s), isTN s = true → ∀ (A : Around) (st : Shared), A.units + dep s + 2 < cLine → FstR (LtS A.in1 st) (rowN s x) (rowN s y) (ltN s x y)
  | .mark ls, hw, x, y, h, A, st, hu => by cases h
  | .count, hw, x, y, h, A, st, hu => by cases h
  | .both a b, hw, (x1, x2), (y1, y2), h, A, st, hu => by
    have hd : dep (.both a b) = max (dep a) (dep b) + 1 := rfl
    show FstR _ [enc a x1, enc b x2] [enc a y1, enc b y2] (if x1 = y1 then ltN b x2 y2 else ltN a x1 y1)
    rw [FstR, eqv_enc a hw.1]
    by_cases c : x1 = y1
    · rw [if_pos (decide_eq_true c), if_pos c, FstR, eqv_enc b hw.2]
      by_cases c2 : x2 = y2
      · rw [if_pos (decide_eq_true c2), c2]
        exact (ltN_lin b hw.2).irr y2
      · rw [if_neg (by simp [c2])]
        exact ltS_enc b hw.2 x2 y2 A.in1 st (by show A.units + 1 + dep b + 2 < cLine; omega)
    · rw [if_neg (by simp [c]), if_neg c]
      exact ltS_enc a hw.1 x1 y1 A.in1 st (by show A.units + 1 + dep a + 2 < cLine; omega)
  | .either a b, hw, .inl x, .inl y, h, A, st, hu => by
    have hd : dep (.either a b) = max (dep a) (dep b) + 1 := rfl
    show FstR _ [.str "left", enc a x] [.str "left", enc a y] (ltN a x y)
    rw [FstR, if_pos (by simp [PyData.eqv]), FstR, eqv_enc a hw.1]
    by_cases c : x = y
    · rw [if_pos (decide_eq_true c), c]
      exact (ltN_lin a hw.1).irr y
    · rw [if_neg (by simp [c])]
      exact ltS_enc a hw.1 x y A.in1 st (by show A.units + 1 + dep a + 2 < cLine; omega)
  | .either a b, hw, .inr x, .inr y, h, A, st, hu => by
    have hd : dep (.either a b) = max (dep a) (dep b) + 1 := rfl
    show FstR _ [.str "right", enc b x] [.str "right", enc b y] (ltN b x y)
    rw [FstR, if_pos (by simp [PyData.eqv]), FstR, eqv_enc b hw.2]
    by_cases c : x = y
    · rw [if_pos (decide_eq_true c), c]
      exact (ltN_lin b hw.2).irr y
    · rw [if_neg (by simp [c])]
      exact ltS_enc b hw.2 x y A.in1 st (by show A.units + 1 + dep b + 2 < cLine; omega)
  | .either a b, hw, .inl x, .inr y, h, A, st, hu => by
    show FstR _ [.str "left", enc a x] [.str "right", enc b y] true
    rw [FstR, if_neg (by decide)]
    exact ltS_str (by decide)
  | .either a b, hw, .inr x, .inl y, h, A, st, hu => by
    show FstR _ [.str "right", enc b x] [.str "left", enc a y] false
    rw [FstR, if_neg (by decide)]
    exact ltS_str (by decide)
  | .lane a, hw, x, y, h, A, st, hu => fst_map (eqv_enc a hw) (fun x y => ltS_enc a hw x y A.in1 st (by have hd : dep (.lane a) = dep a + 1 := rfl; show A.units + 1 + dep a + 2 < cLine; omega)) x y
  | .heap a, hw, x, y, h, A, st, hu => fst_map (eqv_enc a hw) (fun x y => ltS_enc a hw x y A.in1 st (by have hd : dep (.heap a) = dep a + 1 := rfl; show A.units + 1 + dep a + 2 < cLine; omega)) x y
end
def ordN (s : So) (hw : Wf s) : KeyOrd where
  α := Va s
  blt := ltN s
  irrefl := (ltN_lin s hw).irr
  trans := (ltN_lin s hw).trans
  negTrans := fun a b c h => by
    cases e1 : ltN s a b with
    | true => exact .inl rfl
    | false =>
      right
      by_cases e2 : ltN s b a = true
      · exact (ltN_lin s hw).trans b a c e2 h
      · have e := (ltN_lin s hw).tri a b e1 (by simpa using e2)
        rw [← e]
        exact h
  total := (ltN_lin s hw).tri
noncomputable def koN (s : So) (h : Heap) (v : Value) : Option (Va s) := open Classical in if q : ∃ b : Va s, ∃ as, Reads h v (enc s b) as then some q.choose else none
theorem koN_some {s : So} (hw : Wf s) {h : Heap} {v : Value} {b : Va s} {as : List Addr} (r : Reads h v (enc s b) as) : koN s h v = some b := by
  have q : ∃ b : Va s, ∃ as, Reads h v (enc s b) as := ⟨b, as, r⟩
  have e : koN s h v = some q.choose := by
    unfold koN
    rw [dif_pos q]
  obtain ⟨as', h2⟩ := q.choose_spec
  rw [e, enc_inj hw (plain_unique _ _ _ _ _ (plain_enc s _) h2 r)]
theorem koN_inv {s : So} {h : Heap} {v : Value} {b : Va s} (e : koN s h v = some b) : ∃ as, Reads h v (enc s b) as := by
  unfold koN at e
  split at e
  · rename_i q
    cases Option.some.inj e
    exact q.choose_spec
  · cases e
/-- a value's type, the type of a row's first item -/
def tyN : So → Value
  | .mark _ => .type "str"
  | .count => .type "int"
  | _ => .type "tuple"
def ftN : So → Value
  | .both a _ => tyN a
  | .either _ _ => .type "str"
  | .lane a => tyN a
  | .heap a => tyN a
  | _ => .type "tuple"
theorem ty_enc (s : So) (v : Va s) : dataType (enc s v) = tyN s := by
  cases s with
  | either a b => cases v <;> rfl
  | _ => rfl
theorem tyN_leaf {s : So} : (tyN s != Value.type "tuple") = !isTN s := by
  have z1 : (Value.type "str" != Value.type "tuple") = true := by decide
  have z2 : (Value.type "int" != Value.type "tuple") = true := by decide
  have z3 : (Value.type "tuple" != Value.type "tuple") = false := by decide
  cases s with
  | mark ls => exact z1
  | count => exact z2
  | both a b => exact z3
  | either a b => exact z3
  | lane a => exact z3
  | heap a => exact z3
theorem first_tyN {s : So} {x : Va s} {d : PyData} {ds : List PyData} (ht : isTN s = true) (e : rowN s x = d :: ds) : dataType d = ftN s := by
  have lanes : ∀ (a : So) (v : List (Va a)), v.map (enc a) = d :: ds → dataType d = tyN a := by
    intro a v g
    cases v with
    | nil => cases g
    | cons v0 v =>
      injection g with g _
      rw [← g]
      exact ty_enc a v0
  cases s with
  | mark ls => cases ht
  | count => cases ht
  | both a b =>
    injection e with e _
    rw [← e]
    exact ty_enc a x.1
  | either a b =>
    cases x with
    | inl x => injection e with e _; rw [← e]; rfl
    | inr x => injection e with e _; rw [← e]; rfl
  | lane a => exact lanes a x e
  | heap a => exact lanes a x e
theorem fi_rowN {s : So} (hw : Wf s) (h : (ftN s != Value.type "tuple") = true) (ht : isTN s = true) (x y : Va s) (A : Around) (st : Shared) : ∀ d ds e es, rowN s x = d :: ds → rowN s y = e :: es → PyData.eqv d e = false → OneS A st d e (ltN s x y) := by
  intro d ds e es h1 h2 hne
  have lanes : ∀ (a : So) (ha : Wf a) (v u : List (Va a)), isTN a = false → v.map (enc a) = d :: ds → u.map (enc a) = e :: es → OneS A st d e (lexL (ltN a) v u) := by
    intro a hwa v u ha g1 g2
    cases v with
    | nil => cases g1
    | cons v0 v =>
      cases u with
      | nil => cases g2
      | cons u0 u =>
        rw [List.map_cons] at g1 g2
        injection g1 with g1 _
        injection g2 with g2 _
        subst g1 g2
        rw [eqv_enc a hwa] at hne
        rw [lexL, if_neg (of_decide_eq_false hne)]
        exact leaf_one ha v0 u0 A st
  have leaf : ∀ a : So, (tyN a != Value.type "tuple") = true → isTN a = false := fun a z => by
    rw [tyN_leaf] at z
    simpa using z
  cases s with
  | mark ls => cases ht
  | count => cases ht
  | both a b =>
    obtain ⟨x1, x2⟩ := x
    obtain ⟨y1, y2⟩ := y
    injection h1 with h1 _
    injection h2 with h2 _
    subst h1 h2
    have hne : PyData.eqv (enc a x1) (enc a y1) = false := hne
    rw [eqv_enc a hw.1] at hne
    show OneS A st _ _ (if x1 = y1 then _ else _)
    rw [if_neg (of_decide_eq_false hne)]
    exact leaf_one (leaf a h) x1 y1 A st
  | either a b =>
    cases x with
    | inl x =>
      cases y with
      | inl y =>
        injection h1 with h1 _
        injection h2 with h2 _
        subst h1 h2
        exact absurd hne (by decide)
      | inr y =>
        injection h1 with h1 _
        injection h2 with h2 _
        subst h1 h2
        exact oneS_str (show true = _ by decide)
    | inr x =>
      cases y with
      | inl y =>
        injection h1 with h1 _
        injection h2 with h2 _
        subst h1 h2
        exact oneS_str (show false = _ by decide)
      | inr y =>
        injection h1 with h1 _
        injection h2 with h2 _
        subst h1 h2
        exact absurd hne (by decide)
  | lane a => exact lanes a hw x y (leaf a h) h1 h2
  | heap a => exact lanes a hw x y (leaf a h) h1 h2
/-- as kat_row, the first items compared fast -/
theorem kat_rowN {A : Around} {st : Shared} {r : Bool} {prog : Program} {w : World} {f fin : Bool} {Q : Bool → Shared → Prop} : ∀ {xs ys : List PyData} {vs ws : List Value} {as bs : List Addr} {i : Nat}, ReadsAll st.heap vs xs as → ReadsAll st.heap ws ys bs → PyData.plainAll xs = true → PyData.plainAll ys = true → (∀ x ∈ xs, A.units + x.depth < cLine) →
    FstR (LtS A st) xs ys r → (f = true → i = 0 → ∀ x xs' y ys', xs = x :: xs' → ys = y :: ys' → PyData.eqv x y = false → OneS A st x y r) → fin = decide (xs.length < ys.length) → Q r st → KatLex prog w A f fin Q (vs.zip ws) i st
  | [], [], _, _, _, _, _, .nil, .nil, _, _, _, hF, _, hf, hq => kat_nil (by
      have : r = false := hF
      rw [hf, ← this.trans (by simp : false = decide (([] : List PyData).length < ([] : List PyData).length))]
      exact hq)
  | [], _ :: _, _, _, _, _, _, .nil, _, _, _, _, hF, _, hf, hq => by
    rw [List.zip_nil_left]
    have : r = true := hF
    exact kat_nil (by rw [hf]; rw [this] at hq; simpa using hq)
  | _ :: _, [], _, _, _, _, _, _, .nil, _, _, _, hF, _, hf, hq => by
    rw [List.zip_nil_right]
    have : r = false := hF
    exact kat_nil (by rw [hf]; rw [this] at hq; simpa using hq)
  | x :: xs, y :: ys, _, _, _, _, i, .cons r1 rs, .cons r1' rs', hx, hy, hu, hF, hi, hf, hq => by
    rw [PyData.plainAll, Bool.and_eq_true] at hx hy
    rw [List.zip_cons_cons]
    refine kat_cons (eqAt_plain x y A st _ _ _ _ r1 r1' hx.1 hy.1 (Nat.lt_of_le_of_lt (Nat.add_le_add_left (Nat.min_le_left _ _) _) (hu x (List.mem_cons_self ..))) prog w _ _ ?_)
    rw [FstR] at hF
    cases e : PyData.eqv x y with
    | true =>
      rw [e, if_pos rfl] at hF
      exact kat_yes (kat_rowN rs rs' hx.2 hy.2 (fun z hz => hu z (List.mem_cons_of_mem _ hz)) hF (fun _ z => absurd z (Nat.succ_ne_zero i)) (by rw [hf]; exact decide_eq_decide.mpr (by simp)) hq)
    | false =>
      rw [e, if_neg Bool.false_ne_true] at hF
      refine kat_no ?_
      cases hb : (f && i == 0) with
      | false =>
        rw [oneLt'_eq]
        simp only [Bool.false_eq_true, if_false]
        exact wpAny_bind (hF _ _ _ _ r1 r1' prog w _ _ (wpAny_truthy_bool hq))
      | true =>
        rw [Bool.and_eq_true, beq_iff_eq] at hb
        exact hi hb.1 hb.2 _ _ _ _ rfl rfl e _ _ _ _ r1 r1' prog w _ _ hq
section
variable {P : Program} {w : World} {A : Around}
theorem lt_oneN {s : So} (hw : Wf s) (hu : A.units + dep s + 4 < cLine) (st : Shared) (f : Bool) (E : Value → Shared → Prop) (x y : Value) (a b : Va s) (Q : Bool → Shared → Prop) (ha : koN s st.heap x = some a) (hb : koN s st.heap y = some b) (hq : Q (ltN s a b) st) : wpAny (model P w) A (oneLt' f x y) Q E st := by
  obtain ⟨as, ra⟩ := koN_inv ha
  obtain ⟨bs, rb⟩ := koN_inv hb
  have hd := depth_enc s a
  cases f with
  | false =>
    rw [oneLt'_eq]
    simp only [Bool.false_eq_true, if_false]
    exact wpAny_bind (ltS_enc s hw a b A st (by omega) _ _ _ _ ra rb P w E _ (wpAny_truthy_bool hq))
  | true =>
    cases h : isTN s with
    | true =>
      rw [enc_row a h] at ra hd
      rw [enc_row b h] at rb
      exact oneLt_tupF ra rb (plain_rowN a) (plain_rowN b) (by omega) (row_enc s hw a b h A st (by omega)) hq
    | false => exact leaf_one h a b A st _ _ _ _ ra rb P w E Q hq
theorem keySysN (s : So) (hw : Wf s) (hu : A.units + dep s + 4 < cLine) : KeySys P w A (ordN s hw) (enc s) := by
  refine ⟨noL_enc s, fun st kv bs e => ⟨koN s st.heap, inh s hw, ⟨?_, ?_⟩, e.mono fun v b ⟨as, r⟩ => koN_some hw r⟩⟩
  · intro v hv
    obtain ⟨b, _, as, r⟩ := e.left v hv
    exact ⟨b, koN_some hw r⟩
  have em : EachIs (fun v d => ∃ as, Reads st.heap v d as) kv (bs.map (enc s)) := each_mapD e
  cases h : isTN s with
  | false =>
    refine ⟨oneType', fun E x y a b Q ha hb hq => ?_, fun h2 E Q hq => ?_⟩
    · rw [keyLt'_oneType]
      exact lt_oneN hw hu st true E x y a b Q ha hb hq
    · refine kas_kind (T := tyN s) h2 (fun v hv => ?_) (by rw [tyN_leaf, h]; rfl) (beq_self_eq_true _) hq
      obtain ⟨b, _, as, r⟩ := e.left v hv
      rw [← ty_enc s b]
      exact looks_reads r
  | true =>
    by_cases hall : ∀ d ∈ bs.map (enc s), hasIt d = true
    · refine ⟨tuples' (ftN s != Value.type "tuple"), fun E x y a b Q ha hb hq => ?_, fun h2 E Q hq => ?_⟩
      · obtain ⟨as, ra⟩ := koN_inv ha
        obtain ⟨bs, rb⟩ := koN_inv hb
        have hd := depth_enc s a
        rw [enc_row a h] at ra hd
        rw [enc_row b h] at rb
        cases ra with
        | @tuple l o xs n _ _ h1 h2 h3 h4 =>
          cases rb with
          | @tuple l' o' xs' n' _ _ k1 k2 k3 k4 =>
            have n1 : xs.size = (rowN s a).length := by simpa using SeqAt.ReadsAll.length _ _ _ h4
            have n2 : xs'.size = (rowN s b).length := by simpa using SeqAt.ReadsAll.length _ _ _ k4
            refine kat_lt h1 h3 k1 k3 (kat_rowN (r := ltN s a b) h4 k4 (plain_rowN a) (plain_rowN b) (fun x hx => ?_) (FstR.imp (fun x y r q => ?_) (row_enc s hw a b h A st (by omega))) (fun hf _ x xs' y ys' e1 e2 e3 => fi_rowN hw hf h a b A st x xs' y ys' e1 e2 e3) (by rw [n1, n2]) hq)
            · have := depth_mem hx
              rw [PyData.depth] at hd
              omega
            · exact fun a b as bs r1 r2 prog w E Q hq => wpAny_of_in1 (q a b as bs r1 r2 prog w E Q hq)
      · obtain ⟨fs, t1, t2, t3⟩ := each_katTups em fun d hd => by
          obtain ⟨b, _, rfl⟩ := List.mem_map.mp hd
          have := hall _ hd
          rw [enc_row b h] at this ⊢
          cases q : rowN s b with
          | nil => rw [q] at this; cases this
          | cons x r => exact ⟨x, r, rfl⟩
        refine kat_kind (T := ftN s) t1 (by omega) (fun f hf => ?_) (beq_self_eq_true _) hq
        obtain ⟨x, r, as, m1, m2⟩ := t3 f hf
        obtain ⟨b, _, hb⟩ := List.mem_map.mp m1
        rw [enc_row b h] at hb
        injection hb with hb
        rw [← first_tyN h hb]
        exact looks_reads m2
    · obtain ⟨kd', hk, hkind⟩ := kind_mixed (prog := P) (w := w) (A := A) em (fun d hd => by
        obtain ⟨b, _, rfl⟩ := List.mem_map.mp hd
        exact ⟨_, enc_row b h⟩) hall
      refine ⟨kd', fun E x y a b Q ha hb hq => ?_, hkind⟩
      rcases hk with rfl | rfl
      · rw [gen_lt]
        exact lt_oneN hw hu st false E x y a b Q ha hb hq
      · rw [keyLt'_oneType]
        exact lt_oneN hw hu st true E x y a b Q ha hb hq
end
end K16

end K16T5Text
section K16T6Text
set_option autoImplicit false
set_option linter.all false
set_option maxRecDepth 100000
set_option Elab.async false
/-! sorted(set(a list)) over the abstract heap. -/
namespace K16
open PySem PySem.Spec PySem.Calls PySem.W PyProof.Rows L2
/-- a set of some of the values xs -/
def SetO (w : World) (S : Addr) (xs : List V) : HO := .ext fun h => ∃ (es : Array (Int × Value)) (its : List Value), SetB w h S es ∧ Vals xs its ∧ es.size ≤ its.length ∧ (xs ≠ [] → 0 < es.size) ∧ ∀ e ∈ es.toList, e.2 ∈ its
/-- what a set takes -/
def Hsh (K : PySem.W.Frag) (H : Hp) (ys : List V) : Prop :=
  (∃ ds, DpAll K H ys ds ∧ ∀ d ∈ ds, (∃ xs, d = .tuple xs) ∧ okD d = true ∧ (keyOf d).depth ≤ 8) ∨ (∀ y ∈ ys, ∃ i, y = .int i) ∨ ∀ y ∈ ys, ∃ z, y = .str z
def rSet (K : PySem.W.Frag) (w : World) : List V → Hp → VK → Prop := fun xs H Q => ∃ (l : Addr) (ys : List V), xs = [V.ref l] ∧ SqL K H l ys ∧ ys.length ≤ 200 ∧ Hsh K H ys ∧ ∀ S, H S = none → Q (.ref S) (upd H S (SetO w S ys))
theorem vals_at {xs : List V} {us : List Value} (r : Vals xs us) : ∀ u ∈ us, ∃ (i : Nat) (y : V), xs[i]? = some y ∧ us[i]? = some u ∧ RelV y u := by
  induction r with
  | nil => intro u h; cases h
  | cons h t ih =>
    intro u hu
    rcases List.mem_cons.mp hu with e | hu
    · exact ⟨0, _, rfl, by rw [e]; rfl, by rw [e]; exact h⟩
    · obtain ⟨i, y, h1, h2, h3⟩ := ih u hu
      exact ⟨i + 1, y, h1, h2, h3⟩
theorem setO_new {P : Program} {w : World} {H : Hp} {h : Heap} {S : Addr} {xs : List V} {es : Array (Int × Value)} {its : List Value} (h1 : SetB w h S es) (h2 : Vals xs its) (h3 : es.size ≤ its.length) (h4 : xs ≠ [] → 0 < es.size) (h5 : ∀ e ∈ es.toList, e.2 ∈ its) : ObjOk P w H h S (SetO w S xs) := by
  refine ⟨⟨es, its, h1, h2, h3, h4, h5⟩, ?_, fun g1 g2 p k => ?_⟩
  · obtain ⟨o, _, _, ho, _⟩ := h1
    exact ⟨o, ho⟩
  · obtain ⟨es', its', ⟨o', ep', t', ho', r'⟩, q'⟩ := p
    exact ⟨es', its', ⟨o', ep', t', k o' ho', r'⟩, q'⟩
section
variable {X : Cx}
theorem cr_set (hh : X.A.handled = none) (hu : X.A.units + 64 < cLine) : CallR X (.type "set") (rSet X.K X.w) := by
  intro pins s σ H xs us Q I r h
  obtain ⟨l, ys, rfl, hl, hf, hs, q⟩ := h
  rw [Vals.ref1 r]
  obtain ⟨its, rv, pl, hz⟩ := I.list hl
  have hn : H s.heap.objs.size = none := I.hok.fresh (Nat.le_refl _)
  have hlen := rv.length
  have Y : ∃ Y : SetSys X.prog X.w s.heap.objs.size s.heap its.toArray.toList, True := by
    rcases hs with ⟨ds, hd, hok⟩ | hi | hs
    · refine ⟨sysN X.prog X.w _ _ _ fun v hv => ?_, trivial⟩
      obtain ⟨i, y, h1, h2, h3⟩ := vals_at rv v (by simpa using hv)
      obtain ⟨d, e1, e2⟩ := dps_at hd h1
      obtain ⟨⟨ts, rfl⟩, k1, k2⟩ := hok d (List.mem_of_getElem? e1)
      have z := Dp.nested I _ _ _ e2 h3 k1
      cases e2 with
      | tup ha hb =>
        cases h3
        exact ⟨_, rfl, _, z, k2⟩
    · refine ⟨sysC (intKind X.prog X.w) _ _ _ fun v hv => ?_, trivial⟩
      obtain ⟨i, y, h1, h2, h3⟩ := vals_at rv v (by simpa using hv)
      obtain ⟨n, rfl⟩ := hi y (List.mem_of_getElem? h1)
      obtain ⟨t, rfl⟩ := h3
      exact ⟨⟨n, intKind_is _ _ _ _⟩, rfl⟩
    · refine ⟨sysC (PySem.strKind X.prog X.w) _ _ _ fun v hv => ?_, trivial⟩
      obtain ⟨i, y, h1, h2, h3⟩ := vals_at rv v (by simpa using hv)
      obtain ⟨n, rfl⟩ := hs y (List.mem_of_getElem? h1)
      obtain ⟨t, rfl⟩ := h3
      exact ⟨⟨n, strKind_is _ _ _ _⟩, rfl⟩
  obtain ⟨Y, _⟩ := Y
  refine call_set_g hh pl.isList Y (by rw [List.size_toArray, ← hlen]; exact hf) (by omega) fun h' tk es R z1 z2 z3 k => ?_
  refine ⟨.ref s.heap.objs.size, upd H s.heap.objs.size (SetO X.w s.heap.objs.size ys), I.laid (t' := tk) k (Nat.le_refl _) (setO_new R rv (by simpa using z1) (fun ne => z2 ?_) fun e he => by simpa using z3 e he), rfl, q _ hn⟩
  rw [List.size_toArray, ← hlen]
  exact List.length_pos_iff.mpr ne
def rSortedSet (K : PySem.W.Frag) (w : World) (T : Tb) (so : So) : List V → Hp → VK → Prop := fun vs H Q => ∃ (S : Addr) (ys : List V) (bs : List (Va so)), vs = [V.ref S] ∧ H S = some (SetO w S ys) ∧ LamX.Tabs T H ∧ DpAll K H ys (bs.map (enc so)) ∧ ys.length ≤ 200 ∧
  ∀ p H' zs (cs : List (Va so)), Nw H p → Gr T H H' → H' p = some (.lst zs) → DpAll K H' zs (cs.map (enc so)) → (∀ c ∈ cs, c ∈ bs) → cs.length ≤ bs.length → (bs ≠ [] → cs ≠ []) → Q (.ref p) H'
/-- some of the values -/
theorem pick_vals {K : PySem.W.Frag} {H : Hp} {so : So} {ys : List V} {bs : List (Va so)} {its : List Value} (rv : Vals ys its) (hd : DpAll K H ys (bs.map (enc so))) : ∀ us : List Value, (∀ u ∈ us, u ∈ its) → ∃ (zs : List V) (cs : List (Va so)), Vals zs us ∧ DpAll K H zs (cs.map (enc so)) ∧ ∀ c ∈ cs, c ∈ bs
  | [], _ => ⟨[], [], .nil, .nil, fun c h => by cases h⟩
  | u :: us, h => by
    obtain ⟨zs, cs, h1, h2, h3⟩ := pick_vals rv hd us fun x hx => h x (List.mem_cons_of_mem _ hx)
    obtain ⟨i, y, e1, e2, e3⟩ := vals_at rv u (h u List.mem_cons_self)
    obtain ⟨d, d1, d2⟩ := dps_at hd e1
    rw [List.getElem?_map] at d1
    cases hb : bs[i]? with
    | none => rw [hb] at d1; cases d1
    | some b =>
      rw [hb] at d1
      cases d1
      refine ⟨y :: zs, b :: cs, .cons e3 h1, .cons d2 h2, fun c hc => ?_⟩
      rcases List.mem_cons.mp hc with e | hc
      · rw [e]; exact List.mem_of_getElem? hb
      · exact h3 c hc
theorem dps_zipN {K : PySem.W.Frag} {H : Hp} {A : Type} {f : A → PyData} : ∀ {xs : List V} {vs : List A}, DpAll K H xs (vs.map f) → ∀ p ∈ xs.zip vs, Dp K H p.1 (f p.2)
  | _, [], _, p, hp => by simp at hp
  | _, v :: vs, h, p, hp => by
    cases h with
    | cons a b =>
      rw [List.zip_cons_cons] at hp
      rcases List.mem_cons.mp hp with e | hp
      · rw [e]; exact a
      · exact dps_zipN b p hp
theorem dps_pairsN {K : PySem.W.Frag} {H : Hp} {A : Type} {f : A → PyData} : ∀ l : List (V × A), (∀ p ∈ l, Dp K H p.1 (f p.2)) → DpAll K H (l.map Prod.fst) ((l.map Prod.snd).map f)
  | [], _ => .nil
  | p :: l, h => .cons (h p List.mem_cons_self) (dps_pairsN l fun q hq => h q (List.mem_cons_of_mem _ hq))
theorem ordV_sub {K : PySem.W.Frag} {H : Hp} {O : KeyOrd} {f : O.α → PyData} {xs : List V} {bs : List O.α} (h : DpAll K H xs (bs.map f)) : ∃ cs : List O.α, DpAll K H (ordV O xs bs) (cs.map f) ∧ cs.length = bs.length ∧ ∀ c ∈ cs, c ∈ bs := by
  have hl := dps_len h
  rw [List.length_map] at hl
  refine ⟨((xs.zip bs).mergeSort (sortLe O false Prod.snd)).map Prod.snd, dps_pairsN _ fun p hp => dps_zipN h p (List.mem_mergeSort.mp hp), ?_, fun c hc => ?_⟩
  · rw [List.length_map, List.length_mergeSort, List.length_zip, hl, Nat.min_self]
  · obtain ⟨p, hp, rfl⟩ := List.mem_map.mp hc
    exact (List.of_mem_zip (List.mem_mergeSort.mp hp)).2
theorem cr_sortedSet (T : Tb) (so : So) (hw : Wf so) (hh : X.A.handled = none) (hu : X.A.units + dep so + 64 < cLine) : CallR X (.builtin "sorted") (rSortedSet X.K X.w T so) := by
  intro pins s σ H vs us Q I r h
  obtain ⟨S, ys, bs, rfl, hS, hT, hd, hl, q⟩ := h
  rw [Vals.ref1 r]
  obtain ⟨⟨es, its, ⟨o, ep, t, ho, hex, hdt, hfit, ris, hsz, led⟩, rv, z1, z2, z3⟩, _, _⟩ := I.hok S _ hS
  refine Calls.call_function_entry kind_sorted plain_sorted entry_sorted (args_sorted1 _) ?_
  unfold Builtin.«sorted»
  refine wpAny_bind (m := checkCount "sorted" 1 1 _) (wpAny_pure ?_)
  refine wpAny_bind (collect_set (A := X.A.in1) hh ⟨o, ho, hex.1, hdt⟩ hfit (by unfold scanBound; omega) ris led fun s1 us k1 hz g1 o1 pm => ?_)
  have hul : us.length = es.size := by rw [pm.length_eq, List.length_map, Array.length_toList]
  have hus : ∀ u ∈ us, u ∈ its := fun u hu => by
    obtain ⟨e, he, q⟩ := List.mem_map.mp (pm.mem_iff.mp hu)
    rw [← q]
    exact z3 e he
  obtain ⟨zs, cs, c1, c2, c3⟩ := pick_vals rv hd us hus
  have hzl : us.length ≤ sizeLine := by rw [sizeLine_eq]; omega
  refine wpAny_bind (wpAny_newList ?_ hzl)
  have hoL : (s1.heap.push (seqObj "list" us.toArray 0)).get? s1.heap.objs.size = some (seqObj "list" us.toArray 0) := Heap.get?_push_size _ rfl
  have kp1 : ∀ b u, s.heap.get? b = some u → (s1.heap.push (seqObj "list" us.toArray 0)).get? b = some u := fun b u e => Heap.get?_push_of_some _ (k1 b u e)
  have kp2 : ∀ b u, s.heap.get? b = some u → (sortingHeap (s1.heap.push (seqObj "list" us.toArray 0)) s1.heap.objs.size us).get? b = some u := fun b u e => sortingHeap_old (Nat.ne_of_lt (Heap.lt_size (k1 b u e))) (kp1 b u e)
  have J : Inv X pins σ H { s1 with heap := sortingHeap (s1.heap.push (seqObj "list" us.toArray 0)) s1.heap.objs.size us } := I.call' (ch := []) o1 (Un.kept kp2) (I.hok.kept kp2) (by show AllBare s1.gens; rw [g1]; exact I.bare) (fun _ z => nomatch z)
  have e0 : EachIs (fun v b => ∃ as, Reads (sortingHeap (s1.heap.push (seqObj "list" us.toArray 0)) s1.heap.objs.size us) v (enc so b) as) us cs := each_unmap (each_dps (P := X.prog) (w := X.w) (s := { s1 with heap := sortingHeap (s1.heap.push (seqObj "list" us.toArray 0)) s1.heap.objs.size us }) (fun d v u => Dp.reads J d v u) c2 c1)
  obtain ⟨ko, d, SA, ek⟩ := (keySysN (P := X.prog) (w := X.w) (A := X.A.in1.in1) so hw (by show X.A.units + 1 + 1 + dep so + 4 < cLine; omega)).sorts { s1 with heap := sortingHeap (s1.heap.push (seqObj "list" us.toArray 0)) s1.heap.objs.size us } us cs e0
  have hcl : cs.length = zs.length := by rw [dps_len c2, List.length_map]
  have ro := ord_of (d := d) hcl c1 ek
  refine wpAny_bind (wpAny_holding (wpAny_call_entry slot_list_sort ⟨_, hoL, rfl⟩ entry_list_sort (list_sort_vals (s := { s1 with heap := s1.heap.push (seqObj "list" us.toArray 0) }) hoL SA hzl ⟨_, rfl, ?_⟩) (args_list_sort _)))
  obtain ⟨c, hc⟩ := sortedHeap_at (vs := us) (out := (sortVals ⟨ordN so hw, ko, d⟩ false us us).toArray) hoL
  obtain ⟨cs', d1, d2, d3⟩ := ordV_sub (O := ordN so hw) (f := enc so) c2
  have hp : s.heap.objs.size ≤ s1.heap.objs.size := hz
  have hn : H s1.heap.objs.size = none := I.hok.fresh hp
  have kp3 : ∀ b u, s.heap.get? b = some u → (sortedHeap (s1.heap.push (seqObj "list" us.toArray 0)) s1.heap.objs.size us (sortVals ⟨ordN so hw, ko, d⟩ false us us).toArray).get? b = some u := fun b u e => by
    have q := k1 b u e
    have hlt := Heap.lt_size q
    rw [sortedHeap_old (Nat.ne_of_lt hlt) (by rw [size_push']; exact Nat.lt_succ_of_lt hlt)]
    exact Heap.get?_push_of_some _ q
  have ol : (ordV (ordN so hw) zs cs).length ≤ sizeLine := Nat.le_trans (Nat.le_of_eq (ordV_len (O := ordN so hw) (bs := cs) hcl)) (by rw [c1.length]; exact hzl)
  have J2 : Inv X pins σ (upd H s1.heap.objs.size (.lst (ordV (ordN so hw) zs cs))) { s1 with heap := sortedHeap (s1.heap.push (seqObj "list" us.toArray 0)) s1.heap.objs.size us (sortVals ⟨ordN so hw, ko, d⟩ false us us).toArray } :=
    I.call' (ch := []) o1 (Un.laid kp3 hp hn) (I.hok.laid kp3 hp ⟨ol, _, c, ro, hc⟩) (by show AllBare s1.gens; rw [g1]; exact I.bare) (fun _ z => nomatch z)
  have bl := dps_len hd
  rw [List.length_map] at bl
  have cl : cs.length = es.size := by rw [hcl, c1.length, hul]
  have g : Gr T H (upd H s1.heap.objs.size (.lst (ordV (ordN so hw) zs cs))) := .new hT hn
  refine wpAny_pure ⟨_, rfl, .ref s1.heap.objs.size, _, J2, rfl, q _ _ _ cs' (nw_none hn) g upd_same (dps_ext g.ext d1) (fun c hc => c3 c (d3 c hc)) ?_ fun ne e => ?_⟩
  · exact Nat.le_trans (Nat.le_of_eq (d2.trans cl)) (by rw [← bl, rv.length]; exact z1)
  · have hy : ys ≠ [] := fun z => by
      rw [z] at bl
      exact ne (List.length_eq_zero_iff.mp bl.symm)
    have h1 := z2 hy
    have h2 : cs'.length = es.size := d2.trans cl
    have h3 : cs'.length = 0 := congrArg List.length e
    omega
end
end K16

end K16T6Text
section K16T7Text
set_option autoImplicit false
set_option linter.all false
set_option maxRecDepth 100000
set_option Elab.async false
/-! What _law_beneath asks: bounds, loops, sorted(set(..)). -/
namespace K16
open PySem PySem.Spec PyProof.Rows L2
/-- how many values at most stand beneath one -/
def bc (n : Nat) : So → Nat
  | .mark _ => 1
  | .count => 4
  | .both a b => bc n a * bc n b
  | .either a b => max (bc n a) (bc n b)
  | .lane a => (1 + bc (min n 2) a) ^ n
  | .heap a => (1 + bc (min n 2) a) ^ n
def Bk (n : Nat) : So → Prop
  | .mark _ => True
  | .count => True
  | .both a b => Bk n a ∧ Bk n b ∧ bc n a * bc n b ≤ 125
  | .either a b => Bk n a ∧ Bk n b
  | .lane a => Bk (min n 2) a ∧ (1 + bc (min n 2) a) ^ n ≤ 125
  | .heap a => Bk (min n 2) a ∧ (1 + bc (min n 2) a) ^ n ≤ 125
theorem bk_le : ∀ {s : So} {n : Nat}, Bk n s → bc n s ≤ 125
  | .mark _, _, _ => by show 1 ≤ 125; decide
  | .count, _, _ => by show 4 ≤ 125; decide
  | .both a b, _, h => h.2.2
  | .either a b, _, h => Nat.max_le.mpr ⟨bk_le h.1, bk_le h.2⟩
  | .lane a, _, h => h.2
  | .heap a, _, h => h.2
theorem drawn_bk {s : So} (h : Drawn s) : Bk 3 s := by
  obtain ⟨ls, h1, h2⟩ := h
  simp only [mks, mk1, mk2, mk3, mk4, List.cons_append, List.nil_append, List.mem_cons, List.not_mem_nil, or_false] at h2
  rcases h2 with rfl | rfl | rfl | rfl | rfl | rfl | rfl | rfl | rfl | rfl | rfl | rfl | rfl | rfl | rfl | rfl | rfl | rfl | rfl | rfl | rfl
  all_goals simp [Bk, bc]
/-- what stands beneath a value -/
def RBen (d : Nat) (ds : List De) (P : De → Prop) : Prop := ∃ (s : So) (v : Va s) (n : Nat), ds = [.s s, .d (enc s v)] ∧ dep s < d ∧ Wf s ∧ n ≤ 3 ∧ Dv n s v ∧ Bk n s ∧ P = fun r => ∃ xs : List (Va s), r = .d (.list (xs.map (enc s))) ∧ (xs ≠ [] ∧ xs.length ≤ bc n s ∧ ∀ x ∈ xs, Dv n s x)
section
variable {K : PySem.W.Frag} {T : Tb} {H H1 : Hp} {σ : L2.St} {ta tl te : TE} {ts tr : TS} {j : Nat} {t : TT}
/-- a block that may fall through -/
theorem rd_thru {S : L2.St → Hp → Prop} {P : De → Prop} (h : EvB T t σ H true) (h1 : ∀ H1, Gr T H H1 → ∀ D : Ends, (∀ σ2 H2, Gr T H1 H2 → S σ2 H2 → D.nx σ2 H2) → ts D σ H1) (h2 : ∀ σ2 H2, Gr T H H2 → S σ2 H2 → RetP K T tr σ2 H2 P) : RetP K T (tSeq (tIfS t ts tNext) tr) σ H P := fun H1 g D q => h H1 g _ fun H2 g2 => by
  show ts _ σ H2
  refine h1 H2 (g.trans g2) _ fun σ2 H3 g3 hs => ?_
  exact h2 σ2 H3 ((g.trans g2).trans g3) hs H3 (.refl g3.tab) D fun v d H4 g4 => q v d H4 ((g2.trans g3).trans g4)
theorem for_eachL {A : Type} {xs : List A} {f : A → PyData} {D : Ends} (hs : EvD K T ta σ H (.list (xs.map f))) (g : Gr T H H1) (W : Nat → L2.St → Hp → Prop) (h0 : ∀ H2, Gr T H1 H2 → W 0 σ H2)
    (turn : ∀ i x v σ' H', xs[i]? = some x → Gr T H1 H' → W i σ' H' → Dp K H' v (f x) → ∀ D' : Ends, (∀ σ2 H2, Gr T H' H2 → W (i + 1) σ2 H2 → D'.nx σ2 H2) → ts D' (σ'.set j (some v)) H')
    (fin : ∀ σ' H', Gr T H1 H' → W xs.length σ' H' → D.nx σ' H') : tFor (iList K ta) (gName j) ts D σ H1 := by
  refine for_lst (σ0 := σ) hs g fun a vs H2 g2 ha da => ?_
  have hl := dps_len da
  rw [List.length_map] at hl
  refine for_list (xs := vs) (fun i σ H' => Gr T H2 H' ∧ W i σ H') ⟨.refl g2.tab, h0 H2 g2⟩ (fun i σ H' _ h => .of (h.1.stay ha True.intro)) (fun i y σ H' hy h => ?_) fun σ H' h => fin σ H' (g2.trans h.1) (by rw [← hl]; exact h.2)
  obtain ⟨gg, w⟩ := h
  obtain ⟨d, e1, e2⟩ := dps_at da hy
  rw [List.getElem?_map] at e1
  cases ex : xs[i]? with
  | none => rw [ex] at e1; cases e1
  | some x =>
    rw [ex] at e1
    cases e1
    exact turn i x y σ H' ex (g2.trans gg) w (dp_ext gg.ext e2) _ fun σ2 H3 g3 w3 => ⟨gg.trans g3, w3⟩
theorem for_eachT {A : Type} {xs : List A} {f : A → PyData} {D : Ends} (hs : EvD K T ta σ H (.tuple (xs.map f))) (g : Gr T H H1) (W : Nat → L2.St → Hp → Prop) (h0 : ∀ H2, Gr T H1 H2 → W 0 σ H2)
    (turn : ∀ i x v σ' H', xs[i]? = some x → Gr T H1 H' → W i σ' H' → Dp K H' v (f x) → ∀ D' : Ends, (∀ σ2 H2, Gr T H' H2 → W (i + 1) σ2 H2 → D'.nx σ2 H2) → ts D' (σ'.set j (some v)) H')
    (fin : ∀ σ' H', Gr T H1 H' → W xs.length σ' H' → D.nx σ' H') : tFor (iTup K ta) (gName j) ts D σ H1 := by
  refine for_tpl hs g fun a vs H2 g2 ha da => ?_
  have hl := dps_len da
  rw [List.length_map] at hl
  refine for_tup (xs := vs) (fun i σ H' => Gr T H2 H' ∧ W i σ H') ⟨.refl g2.tab, h0 H2 g2⟩ (fun i σ H' _ h => st_ext h.1.ext ha) (fun i y σ H' hy h => ?_) fun σ H' h => fin σ H' (g2.trans h.1) (by rw [← hl]; exact h.2)
  obtain ⟨gg, w⟩ := h
  obtain ⟨d, e1, e2⟩ := dps_at da hy
  rw [List.getElem?_map] at e1
  cases ex : xs[i]? with
  | none => rw [ex] at e1; cases e1
  | some x =>
    rw [ex] at e1
    cases e1
    exact turn i x y σ H' ex (g2.trans gg) w (dp_ext gg.ext e2) _ fun σ2 H3 g3 w3 => ⟨gg.trans g3, w3⟩
/-- over a list told weakly -/
theorem for_eachP {A : Type} {f : A → PyData} {D : Ends} {G : List A → Prop} (hs : EvP K T ta σ H fun r => ∃ xs : List A, r = .d (.list (xs.map f)) ∧ G xs) (g : Gr T H H1)
    (k : ∀ xs, G xs → ∃ W : Nat → L2.St → Hp → Prop, (∀ H2, Gr T H1 H2 → W 0 σ H2) ∧
    (∀ i x v σ' H', xs[i]? = some x → Gr T H1 H' → W i σ' H' → Dp K H' v (f x) → ∀ D' : Ends, (∀ σ2 H2, Gr T H' H2 → W (i + 1) σ2 H2 → D'.nx σ2 H2) → ts D' (σ'.set j (some v)) H') ∧
    (∀ σ' H', Gr T H1 H' → W xs.length σ' H' → D.nx σ' H')) : tFor (iList K ta) (gName j) ts D σ H1 := by
  refine hs.run g fun v r H2 g2 hv hr => ?_
  obtain ⟨xs, rfl, gx⟩ := hr
  obtain ⟨W, w0, w1, w2⟩ := k xs gx
  exact for_eachL (K := K) (ta := tC v) (σ := σ) (H := H2) (xs := xs) (f := f) (ed_c fun H3 g3 => dq_ext g3.ext hv) (.refl g2.tab) W (fun H3 g3 => w0 H3 (g2.trans g3)) (fun i x u σ' H' hx g' w hu => w1 i x u σ' H' hx (g2.trans g') w hu) fun σ' H' g' w => w2 σ' H' (g2.trans g') w
/-- a list over a list told weakly -/
theorem ep_lcM {A : Type} {vs : List Nat} {G : List A → Prop} (f : A → PyData) (h : A → PyData) (hs : EvP K T tl σ H fun r => ∃ xs : List A, r = .d (.list (xs.map f)) ∧ G xs) (hl : ∀ xs, G xs → xs.length < 100000) (hw : ∀ v, wipe ((wipe σ vs).set j (some v)) vs = wipe σ vs)
    (he : ∀ (xs : List A), G xs → ∀ (i : Nat) (x : A), xs[i]? = some x → ∀ v H1, Gr T H H1 → Dp K H1 v (f x) → EvE K T te ((wipe σ vs).set j (some v)) H1 (h x)) :
    EvP K T (tLc (iList K tl) (gName j) tYes te vs) σ H (fun r => ∃ xs : List A, r = .d (.list (xs.map h)) ∧ G xs) := fun H1 g Q q => hs.run g fun v r H2 g2 hv hr => by
  obtain ⟨xs, rfl, gx⟩ := hr
  exact (el_lcM (K := K) (T := T) (tl := tC v) (σ := σ) (H := H2) (j := j) (te := te) (vs := vs) xs f h (ed_c fun H3 g3 => dq_ext g3.ext hv) (hl xs gx) hw fun i x hx u H3 g3 hu => he xs gx i x hx u H3 ((g.trans g2).trans g3) hu) H2 (.refl g2.tab) Q fun p ys H3 np g3 hp dp => q _ _ H3 (g2.trans g3) (.lst hp dp) ⟨xs, rfl, gx⟩
theorem tag45 : ∀ i, i < 6 → decide (tagN i ∈ [("lane" : Str), "heap"]) = (i == 4 || i == 5) := by decide +kernel
/-- the kind is lane or heap -/
theorem eb_rows {s : So} (ha : EvD K T ta σ H (.str (tag s))) : EvB T (tTest (tOp (rIn K false) ta (tTup (tCons (tC (.str "lane")) (tCons (tC (.str "heap")) tNil))))) σ H (no s == 4 || no s == 5) :=
  (eb_test (ed_inS (ls := ["lane", "heap"]) ha (ed_tup (ea_cons ed_str (ea_cons ed_str ea_nil)) rfl (by decide)))).is (by rw [tag_no]; exact tag45 _ (no_lt s))
theorem hsh_enc {so : So} {ys : List V} {xs : List (Va so)} (hd8 : dep so ≤ 8) (h : DpAll K H ys (xs.map (enc so))) : Hsh K H ys := by
  have at_ : ∀ y ∈ ys, ∃ x, Dp K H y (enc so x) := fun y hy => by
    obtain ⟨i, e⟩ := List.getElem?_of_mem hy
    obtain ⟨d, e1, e2⟩ := dps_at h e
    rw [List.getElem?_map] at e1
    cases ex : xs[i]? with
    | none => rw [ex] at e1; cases e1
    | some x =>
      rw [ex] at e1
      cases e1
      exact ⟨x, e2⟩
  have tup : isTN so = true → Hsh K H ys := fun ht => by
    refine .inl ⟨_, h, fun d hd => ?_⟩
    obtain ⟨x, _, rfl⟩ := List.mem_map.mp hd
    exact ⟨⟨_, enc_row x ht⟩, okD_enc so x, Nat.le_trans (kdepth_enc so x) hd8⟩
  cases so with
  | mark ls => exact .inr (.inr fun y hy => by
      obtain ⟨x, hx⟩ := at_ y hy
      exact ⟨_, dp_str hx⟩)
  | count => exact .inr (.inl fun y hy => by
      obtain ⟨x, hx⟩ := at_ y hy
      exact ⟨_, dp_int hx⟩)
  | both a b => exact tup rfl
  | either a b => exact tup rfl
  | lane a => exact tup rfl
  | heap a => exact tup rfl
/-- sorted(set(a new list)) -/
theorem eq_ss {w : World} {so : So} {xs : List (Va so)} (hd8 : dep so ≤ 8) (hl : xs.length ≤ 200) (h : EvL K T tl σ H (xs.map (enc so))) :
    EvP K T (tCB (rSortedSet K w T so) (tCons (tCB (rSet K w) (tCons tl tNil)) tNil)) σ H (fun r => ∃ cs : List (Va so), r = Lst so cs ∧ (∀ c ∈ cs, c ∈ xs) ∧ cs.length ≤ xs.length ∧ (xs ≠ [] → cs ≠ [])) := fun H1 g Q q => by
  refine h H1 g _ fun p ys H2 np g2 hp dp => ?_
  have yl := dps_len dp
  rw [List.length_map] at yl
  refine ⟨p, ys, rfl, .of hp, by omega, hsh_enc hd8 dp, fun S hS => ?_⟩
  have gn : Gr T H2 (upd H2 S (SetO w S ys)) := .new g2.tab hS
  refine ⟨S, ys, xs, rfl, upd_same, gn.tab, dps_ext gn.ext dp, by omega, fun p' H' zs cs np' g' hp' dz c1 c2 c3 => ?_⟩
  exact q (.ref p') (Lst so cs) H' (g2.trans (gn.trans g')) (.lst hp' dz) ⟨cs, rfl, c1, c2, c3⟩
end
end K16

end K16T7Text
section K16R29Text
set_option autoImplicit false
set_option linter.all false
set_option maxRecDepth 100000
set_option Elab.async false
set_option pp.maxSteps 700
set_option pp.deepTerms false
set_option pp.deepTerms.threshold 4
namespace K16
open PySem PySem.Spec PyProof.Rows L2
abbrev sLaw : Stmt := topS 55
abbrev nLaw : List Str := ["_law_script", "_law_source", "_law_turn", "_law_sort", "_law_some_here", "_law_others", "_law_both", "_law_shared", "_law_pool", "_law_v", "_law_here", "_law_there", "_law_u", "_law_one", "_law_two", "_law_found"]
theorem scLaw : FnScope nLaw ["_law_script"] (defScope sLaw) := ⟨rfl, rfl, rfl, by decide +kernel, rfl, by decide +kernel, by decide +kernel⟩
def spLaw (T : Tb) (K : PySem.W.Frag) : Sp := fun vs H Q _ => LamX.Tabs T H ∧ ∃ (p : Addr) (ns : List Int), vs = [.ref p] ∧ SqL K H p (ns.map V.int) ∧ ns.length ≤ 1000 ∧ ∀ H', Q (.bl true) H'
theorem passF {X : Cx} : Passes (L2.CX X.prog X.w) X (fun _ _ _ => False) := fun _ _ _ _ _ _ _ ⟨_, _, _, _, _, _, _, _, _, _, _, _, h⟩ => h.elim
section
variable {K : PySem.W.Frag} {T : Tb} {H H1 B : Hp} {σ : L2.St} {te ta tb : TE} {tA : TA} {D C L : Addr}
theorem inV_false (bs : List Bool) : inV (.bl false) (bs.map V.bl) = !(bs.all id) := by
  unfold inV
  induction bs with
  | nil => rfl
  | cons b bs ih =>
    rw [List.map_cons, List.any_cons, ih, List.all_cons]
    cases b <;> simp [eqV]
theorem flat_bls : ∀ bs : List Bool, (bs.map V.bl).all flatV = true
  | [] => rfl
  | b :: bs => by rw [List.map_cons, List.all_cons, flat_bls bs]; rfl
/-- False not in [..] -/
theorem ed_noF {bs : List Bool} (h : EvD K T te σ H (.list (bs.map PyData.bool))) : EvD K T (tOp (rIn K true) (tC (.bl false)) te) σ H (.bool (bs.all id)) := .of fun H1 g Q q => h.run g fun v H2 g2 hv => by
  obtain ⟨a, xs, rfl, h1, h2⟩ := hv
  obtain rfl := dps_bools h2
  refine ⟨a, _, rfl, .inl (.of h1), rfl, flat_bls bs, ?_⟩
  rw [if_pos rfl, inV_false, Bool.not_not]
  exact q _ H2 g2 .bl
theorem ev_met {d : Nat} {ds : List De} {ok : Bool} {out : List PyData} (ha : EvA K T tA σ H ds) (hR : RCom d ds ok out) : ∀ H1, Gr T H H1 → ∀ Q : VK, (∀ v H2, Gr T H1 H2 → (v = .non ∨ (ok = true ∧ ∃ p xs, v = .ref p ∧ Nw H1 p ∧ H2 p = some (.lst xs) ∧ DpAll K H2 xs out)) → Q v H2) → tCall (spMet T K (RCom d)) [] E0 tA σ H1 Q := fun H1 g Q q => ha H1 g _ fun vs H2 g2 hv => by
  show spMet T K (RCom d) (vs ++ []) H2 Q E0
  rw [List.append_nil]
  exact ⟨g2.tab, ds, ok, out, hv, hR, fun e p xs H3 n g3 h1 h2 => q _ H3 (g2.trans g3) (.inr ⟨e, p, xs, rfl, g2.nn n, h1, h2⟩), fun e H3 g3 => q _ H3 (g2.trans g3) (.inl rfl)⟩
/-- x is not None -/
theorem eb_some {i : Nat} {p : Addr} (h : σ[i]? = some (some (.ref p))) : EvB T (tTest (tOp (fun x y H Q => y = .non ∧ Q (.bl (!decide (x = .non))) H) (tVar i) (tC .non))) σ H true := fun H1 g Q q => ⟨_, h, rfl, true, rfl, q H1 g.self⟩
theorem eb_none {i : Nat} (h : σ[i]? = some (some .non)) : EvB T (tTest (tOp (fun x y H Q => y = .non ∧ Q (.bl (!decide (x = .non))) H) (tVar i) (tC .non))) σ H false := fun H1 g Q q => ⟨_, h, rfl, false, rfl, q H1 g.self⟩
end
section
variable {P : Program} {w : World} {K : PySem.W.Frag} {mg : Str → Option Value} {base : Heap} {T : Tb} {aS CF : Addr}
theorem hasLaw (k : Nat) {fL : Addr} {fdL : FuncData} (F : Fun K "law" "law" sLaw fL fdL) (M : Bi mg) (h__law_open_cells : Has P w K mg base k "_law_open_cells" ["_law_script"] (spOpen T K)) (h__law_draw_sort : Has P w K mg base k "_law_draw_sort" ["_law_source"] (spS T K RDrawS)) (h__law_some : Has P w K mg base k "_law_some" ["_law_source", "_law_sort"] (spS T K (RSome 3)))
    (h_together : Has P w K mg base k "together" ["sort", "some", "others"] (spN T K (RTogN 3))) (h__law_met : Has P w K mg base k "_law_met" ["_law_sort", "_law_some_here", "_law_others"] (spMet T K (RCom 3))) (h__law_beneath : Has P w K mg base k "_law_beneath" ["_law_sort", "_law_v"] (spOf T K (RBen 3)))
    (h__law_draw_value : Has P w K mg base k "_law_draw_value" ["_law_source", "_law_sort", "_law_most"] (spS T K (RDrawV 3))) (h_is_in : Has P w K mg base k "is_in" ["sort", "some", "v"] (spOf T K (RIn 3))) (h_least : Has P w K mg base k "least" ["sort", "some"] (spOf T K (RLeast 3))) (h_contains : Has P w K mg base k "contains" ["sort", "some", "others"] (spOf T K (RCont 3)))
    (h__law_holds : Has P w K mg base k "_law_holds" ["_law_sort", "_law_v", "_law_u"] (spOf T K (RLHolds 3))) (h_both_held : HasX P w K mg base k "both_held" ["sort", "v", "u"] (spX T K CF (RBothX 3))) :
    FnOk P w K mg base CX0 (k + 1) fL fdL ["_law_script"] (spLaw T K) := by
  have nd := scLaw.nd
  refine F.ok scLaw (fun vs H Q E h => ?_) fun cdv A outer s H vs Q E hr hsp => ?_
  · obtain ⟨_, p, ns, rfl, _⟩ := h
    rfl
  obtain ⟨hT, p, ns, rfl, hp, hl, q⟩ := hsp
  have hu : (cxOf CX0 P w K mg base nLaw "law" (defScope sLaw) fL cdv A outer s H E).nox.A.units + 64 < cLine := hr.units
  refine ⟨_, (pss_cons (ps_set (i := 1) nd rfl (Or.inl rfl) (pe_has h__law_open_cells hr (by omega) (pa_cons (pv 0) pa_nil)))
    (pss_cons (ps_for PassesOwn.never rfl (pi_range1 rfl (M.range) (pa_cons pe_int pa_nil)) (pg_name (i := 2) nd rfl (Or.inl rfl)) (pss_cons (ps_set (i := 3) nd rfl (Or.inr rfl) (pe_has h__law_draw_sort hr (by omega) (pa_cons (pv 1) pa_nil)))
    (pss_cons (ps_asg (pe_tup (pa_cons (pe_has h__law_some hr (by omega) (pa_cons (pv 1) (pa_cons (pv 3) pa_nil))) (pa_cons (pe_has h__law_some hr (by omega) (pa_cons (pv 1) (pa_cons (pv 3) pa_nil))) pa_nil))) (pg_tupK (n := 2) K rfl rfl (pgs_cons (pg_name (i := 4) nd rfl (Or.inr rfl)) (pgs_cons (pg_name (i := 5) nd rfl (Or.inl rfl)) pgs_nil))))
    (pss_cons (ps_par rfl nd (i := 6) (j := 7) rfl rfl (by decide) rfl rfl (pa_cons (pe_has h_together hr (by omega) (pa_cons (pv 3) (pa_cons (pv 4) (pa_cons (pv 5) pa_nil)))) (pa_cons (pe_has h__law_met hr (by omega) (pa_cons (pv 3) (pa_cons (pv 4) (pa_cons (pv 5) pa_nil)))) pa_nil)) (by rfl))
    (pss_cons (ps_set (i := 8) nd rfl (Or.inl rfl) (pe_slice sl_list (pe_has h__law_beneath hr (by omega) (pa_cons (pv 3) (pa_cons (pe_has h__law_draw_value hr (by omega) (pa_cons (pv 1) (pa_cons (pv 3) (pa_cons pe_int pa_nil)))) pa_nil))) po_none (po_some pe_int)))
    (pss_cons (ps_for PassesOwn.never rfl (pi_list (pe_op op_cat (pe_op op_cat (pv 8) (pv 4)) (pv 5))) (pg_name (i := 9) nd rfl (Or.inl rfl)) (pss_cons (ps_par rfl nd (i := 10) (j := 11) rfl rfl (by decide) rfl rfl (pa_cons (pe_has h_is_in hr (by omega) (pa_cons (pv 3) (pa_cons (pv 4) (pa_cons (pv 9) pa_nil)))) (pa_cons (pe_has h_is_in hr (by omega) (pa_cons (pv 3) (pa_cons (pv 5) (pa_cons (pv 9) pa_nil)))) pa_nil)) (by rfl))
    (pss_cons (ps_if (PW.pt (pw_or (pt_cmpR op_ne (pe_has h_is_in hr (by omega) (pa_cons (pv 3) (pa_cons (pv 6) (pa_cons (pv 9) pa_nil)))) (pe_or (pv 10) (pe_one (pv 11))) (nomark _)) (pw_or1 (pt_cmpR op_ne (pe_has h_is_in hr (by omega) (pa_cons (pv 3) (pa_cons (pe_has h_least hr (by omega) (pa_cons (pv 3) (pa_cons (pv 4) pa_nil))) (pa_cons (pv 9) pa_nil)))) (pv 10) (nomark _))))) (pss_one (ps_ret pe_bl)) pss_nil)
    (pss_cons (ps_if (PW.pt (pw_and (pt_cmpR op_notN (pv 7) pe_non (nomark _)) (pw_and1 (pt_cmpR op_ne (pe_has h_is_in hr (by omega) (pa_cons (pv 3) (pa_cons (pv 7) (pa_cons (pv 9) pa_nil)))) (pe_and (pv 10) (pe_one (pv 11))) (nomark _))))) (pss_one (ps_ret pe_bl)) pss_nil)
    (pss_one (ps_if (pt_cmpR op_ne (pe_has h_contains hr (by omega) (pa_cons (pv 3) (pa_cons (pv 4) (pa_cons (pe_lst (pa_cons (pv 9) pa_nil)) pa_nil)))) (pv 10) (nomark _)) (pss_one (ps_ret pe_bl)) pss_nil))))))
    (pss_cons (ps_set (i := 9) nd rfl (Or.inl rfl) (pe_ix ix_list (pv 8) (pe_op op_sub (pe_callB call_len_seq rfl (M.len) PySem.boot_len (pa_cons (pv 8) pa_nil)) pe_int) (fun _ _ => rfl)))
    (pss_cons (ps_for PassesOwn.never rfl (pi_list (pv 8)) (pg_name (i := 12) nd rfl (Or.inl rfl)) (pss_one (ps_if (PW.pt (pw_and (pt_val (pe_has h__law_holds hr (by omega) (pa_cons (pv 3) (pa_cons (pv 9) (pa_cons (pv 12) pa_nil))))) (pw_and (pt_val (pe_has h_is_in hr (by omega) (pa_cons (pv 3) (pa_cons (pv 4) (pa_cons (pv 12) pa_nil))))) (pw_and1 (pt_not (pt_val (pe_has h_is_in hr (by omega) (pa_cons (pv 3) (pa_cons (pv 4) (pa_cons (pv 9) pa_nil)))))))))) (pss_one (ps_ret pe_bl)) pss_nil)))
    (pss_cons (ps_if (pt_cmpR op_ne (pe_has h_contains hr (by omega) (pa_cons (pv 3) (pa_cons (pv 4) (pa_cons (pv 5) pa_nil)))) (pe_cmpR op_notIn_seq pe_bl (pe_lc (own := [("_law_u", 12)]) rfl nd (pi_list (pv 5)) (blkOk_by (N := nLaw) (sc := (defScope sLaw)) (by decide +kernel)) (fun _ _ _ _ _ => (pg_name (i := 12) nd rfl (Or.inl rfl))) (fun _ _ _ _ _ => pts_nil) (fun _ _ _ _ _ => (pe_has h_is_in hr (by omega) (pa_cons (pv 3) (pa_cons (pv 4) (pa_cons (pv 12) pa_nil)))))) (by rfl)) (nomark _)) (pss_one (ps_ret pe_bl)) pss_nil)
    (pss_one (ps_if (PW.pt (pw_and (pt_cmpR (op_neD hu) (pv 4) (pe_lst pa_nil) (nomark _)) (pw_and1 (pt_cmpR (op_neD hu) (pv 5) (pe_lst pa_nil) (nomark _))))) (pss_cons (ps_par rfl nd (i := 13) (j := 14) rfl rfl (by decide) rfl rfl (pa_cons (pe_ix ix_list (pv 4) pe_int (fun _ _ => rfl)) (pa_cons (pe_ix ix_list (pv 5) pe_int (fun _ _ => rfl)) pa_nil)) (by rfl))
    (pss_cons (ps_set (i := 15) nd rfl (Or.inl rfl) (pe_has h__law_met hr (by omega) (pa_cons (pv 3) (pa_cons (pe_lst (pa_cons (pv 13) pa_nil)) (pa_cons (pe_lst (pa_cons (pv 14) pa_nil)) pa_nil)))))
    (pss_one (ps_if (PW.pt (pw_and (pt_cmpR op_notN (pv 15) pe_non (nomark _)) (pw_and1 (pt_cmpR (op_neD hu) (pv 15) (pe_hasX (E := fun _ _ _ => False) h_both_held hr (by omega) passF (pa_cons (pv 3) (pa_cons (pv 13) (pa_cons (pv 14) pa_nil)))) (nomark _))))) (pss_one (ps_ret pe_bl)) pss_nil)))) pss_nil)))))))))))
    (pss_one (ps_ret pe_bl)))), ?_⟩
  refine s_seq (s_asg ⟨_, rfl, ?_⟩)
  refine ⟨hT, p, ns, rfl, hp, hl, fun D C H1 g1 S1 => ?_⟩
  dsimp only
  refine s_seq ⟨3, rfl, by decide, by decide, for_range (lo := 0) (n := 3) (fun i σ H' => (∃ o2 o3 o4 o5 o6 o7 o8 o9 o10 o11 o12 o13 o14 o15 : Option V, σ = [some (.ref p), some (.ref D), o2, o3, o4, o5, o6, o7, o8, o9, o10, o11, o12, o13, o14, o15]) ∧ Src H' D C ∧ LamX.Tabs T H') ?_ ?_ ?_⟩
  · exact ⟨⟨_, _, _, _, _, _, _, _, _, _, _, _, _, _, rfl⟩, S1, g1.tab⟩
  · rintro i σ H0 hi ⟨⟨o2, o3, o4, o5, o6, o7, o8, o9, o10, o11, o12, o13, o14, o15, rfl⟩, S0, t0⟩
    refine s_seq (s_asg ?_)
    refine eq_callQ (K := K) (T := T) (R := RDrawS) (D := D) (C := C) (B := hid D C H0) (ds := []) hid_D hid_C (i := 1) rfl ea_nil (by intro d hd; cases hd) ⟨rfl, rfl⟩ H0 (hid_tab t0) S0 _ fun sv d H1 gB1 gh1 S1 hs ⟨s, e, dr⟩ => ?_
    subst e
    have gd := drawn_good dr
    have dm := drawn_more dr
    dsimp only
    refine s_seq ?_
    refine eq_callQ (K := K) (T := T) (R := RSome 3) (D := D) (C := C) (B := hid D C H1) (ds := [.s s]) hid_D hid_C (i := 1) rfl (ea_cons (ed_var (i := 3) rfl hs) ea_nil) (by intro d hd; rw [List.mem_singleton.mp hd]; rfl) ⟨s, rfl, gd.d, gd.w, dm.2, rfl⟩ H1 (hid_tab gB1.tab) S1 _ fun xv d H2 gB2 gh2 S2 hx ⟨xs, e, lx, dx⟩ => ?_
    subst e
    have hs2 := dq_ext (base_hid hid_D hid_C gB2.ext) hs
    refine eq_callQ (K := K) (T := T) (R := RSome 3) (D := D) (C := C) (B := hid D C H2) (ds := [.s s]) hid_D hid_C (i := 1) rfl (ea_cons (ed_var (i := 3) rfl hs2) ea_nil) (by intro d hd; rw [List.mem_singleton.mp hd]; rfl) ⟨s, rfl, gd.d, gd.w, dm.2, rfl⟩ H2 (hid_tab gB2.tab) S2 _ fun yv d H3 gB3 gh3 S3 hy ⟨ys, e, ly, dy⟩ => ?_
    subst e
    have e3 : LamX.ExtN (hid D C H2) (hid D C H3) := base_hid hid_D hid_C gB3.ext
    refine ⟨by show 2 ≤ sizeLine; decide, fun r hr => ⟨r, _, rfl, .of upd_same, rfl, _, _, rfl, _, _, rfl, rfl, ?_⟩⟩
    have g4 : Gr T H3 (upd H3 r (.tup [xv, yv])) := .new gB3.tab hr
    have S4 := S3.stay g4
    have hs4 := dq_ext (hid_ext g4.ext) (dq_ext e3 hs2)
    have hx4 := dq_ext (hid_ext (D := D) (C := C) g4.ext) (dq_ext e3 hx)
    have hy4 := dq_ext (hid_ext (D := D) (C := C) g4.ext) hy
    have t4 := g4.tab
    generalize upd H3 r (.tup [xv, yv]) = H4 at S4 hs4 hx4 hy4 t4 ⊢
    clear g4 hr e3 hs2 hs hx hy gB3 gh3 gB2 gh2 gB1 gh1
    dsimp only
    have vx : Vok s xs := ⟨by omega, fun x h => sm_mono (by omega) (dv_sm (dx x h))⟩
    have vy : Vok s ys := ⟨by omega, fun x h => sm_mono (by omega) (dv_sm (dy x h))⟩
    have sx2 : ∀ v ∈ xs, Sm 2 s v := fun v h => dv_sm (dx v h)
    have sy2 : ∀ v ∈ ys, Sm 2 s v := fun v h => dv_sm (dy v h)
    refine s_seq (s_par ?_)
    refine s_cons ((el_callN (K := K) (T := T) (R := RTogN 3) (H := hid D C H4) (σ := [some (.ref p), some (.ref D), some (.int (0 + (i : Int))), some sv, some xv, some yv, o6, o7, o8, o9, o10, o11, o12, o13, o14, o15]) (ea_cons (ed_var (i := 3) rfl hs4) (ea_cons (ed_var (i := 4) rfl hx4) (ea_cons (ed_var (i := 5) rfl hy4) ea_nil))) ⟨s, xs, ys, rfl, gd.d, gd.w, vx, vy, by omega, rfl⟩).run (hid_tab t4) fun bp bs H5 nb g5 hbp dbs => ?_)
    have S5 := S4.stay g5
    have e5 := hid_ext (D := D) (C := C) g5.ext
    have hs5 := dq_ext e5 hs4
    have hx5 := dq_ext e5 hx4
    have hy5 := dq_ext e5 hy4
    have hb5 : Dq K (hid D C H5) (.ref bp) (Lst s (together s xs ys)) := lst_hid S5 hbp (S4.nw nb) dbs (noLs_encL _ _)
    have σ5 : L2.St := [some (.ref p), some (.ref D), some (.int (0 + (i : Int))), some sv, some xv, some yv, o6, o7, o8, o9, o10, o11, o12, o13, o14, o15]
    refine s_cons (ev_met (K := K) (T := T) (H := hid D C H5) (d := 3) (σ := [some (.ref p), some (.ref D), some (.int (0 + (i : Int))), some sv, some xv, some yv, o6, o7, o8, o9, o10, o11, o12, o13, o14, o15]) (ea_cons (ed_var (i := 3) rfl hs5) (ea_cons (ed_var (i := 4) rfl hx5) (ea_cons (ed_var (i := 5) rfl hy5) ea_nil))) ⟨s, xs, ys, rfl, gd.d, gd.w, sx2, sy2, lx, ly, gd.c, rfl, rfl⟩ H5 (hid_tab g5.tab) _ fun shv H6 g6 hsh => ?_)
    have S6 := S5.stay g6
    have e6 := hid_ext (D := D) (C := C) g6.ext
    have hs6 := dq_ext e6 hs5
    have hx6 := dq_ext e6 hx5
    have hy6 := dq_ext e6 hy5
    have hb6 := dq_ext e6 hb5
    have hsh6 : shv = .non ∨ (okCommon s xs ys = true ∧ ∃ pc, shv = .ref pc ∧ Dq K (hid D C H6) (.ref pc) (Lst s (rawCommon s xs ys))) := by
      rcases hsh with h | ⟨e, pc, zs, rfl, nc, h1, h2⟩
      · exact .inl h
      · exact .inr ⟨e, pc, rfl, lst_hid S6 h1 (S5.nw nc) h2 (noLs_encL _ _)⟩
    have t6 := g6.tab
    clear hsh g6 e6 hb5 hy5 hx5 hs5 e5 dbs hbp nb g5 S5 hy4 hx4 hs4 t4 S4
    refine ⟨_, _, rfl, ?_⟩
    dsimp only
    -- the pool
    refine s_seq (s_asg ?_)
    refine ⟨sv, rfl, ?_⟩
    refine eq_callQ (K := K) (T := T) (R := RDrawV 3) (D := D) (C := C) (B := hid D C H6) (ds := [.s s, .int ((3 : Nat) : Int)]) hid_D hid_C (i := 1) rfl (ea_cons (ed_var (i := 3) rfl hs6) (ea_cons (ed_int (n := 3)) ea_nil)) (by intro d hd; simp only [List.mem_cons, List.not_mem_nil, or_false] at hd; rcases hd with rfl | rfl <;> rfl) ⟨s, 3, rfl, by omega, gd.d, gd.w, dm.2, rfl⟩ H6 (hid_tab t6) S6 _ fun dv d H7 gB7 gh7 S7 hdv ⟨v0, e, dv0⟩ => ?_
    subst e
    have e7 : LamX.ExtN (hid D C H6) H7 := gB7.ext
    have hs7 := dq_ext e7 hs6
    have hx7 := dq_ext e7 hx6
    have hy7 := dq_ext e7 hy6
    have hb7 := dq_ext e7 hb6
    have hsh7 : shv = .non ∨ (okCommon s xs ys = true ∧ ∃ pc, shv = .ref pc ∧ Dq K H7 (.ref pc) (Lst s (rawCommon s xs ys))) := by
      rcases hsh6 with h | ⟨e, pc, h1, h2⟩
      · exact .inl h
      · exact .inr ⟨e, pc, h1, dq_ext e7 h2⟩
    have hdv7 := dq_ext (hid_sub (D := D) (C := C)) hdv
    refine ⟨gB7.tab, [.s s, .d (enc s v0)], _, .cons hs7 (.cons hdv7 .nil), ⟨s, v0, 3, rfl, gd.d, gd.w, Nat.le_refl _, dv0, drawn_bk dr, rfl⟩, fun pv d H8 g8 hpv ⟨zs, e, nz, lz, sz'⟩ => ?_⟩
    subst e
    have sz : ∀ x ∈ zs, Sm 8 s x := fun x h => sm_mono (by omega) (dv_sm (sz' x h))
    obtain ⟨pa, ps, rfl, hpa, dpa⟩ := hpv
    refine ⟨40, rfl, pa, ps, rfl, .of hpa, fun q1 hq1 => ?_⟩
    rw [show cutV ps none (some 40) = ps.take 40 from cut_take (n := 40)]
    have g9 := g8.add (o := .lst (ps.take 40)) hq1
    have S9 := S7.stay g9
    have hp9 : Dq K (upd H8 q1 (.lst (ps.take 40))) (.ref q1) (Lst s (zs.take 40)) := by
      refine Dq.lst upd_same (dps_ext (Gr.new (T := T) g8.tab hq1).ext ?_)
      rw [List.map_take]
      exact dps_take 40 dpa
    have hs9 := dq_ext g9.ext hs7
    have hx9 := dq_ext g9.ext hx7
    have hy9 := dq_ext g9.ext hy7
    have hb9 := dq_ext g9.ext hb7
    have hsh9 : shv = .non ∨ (okCommon s xs ys = true ∧ ∃ pc, shv = .ref pc ∧ Dq K (upd H8 q1 (.lst (ps.take 40))) (.ref pc) (Lst s (rawCommon s xs ys))) := by
      rcases hsh7 with h | ⟨e, pc, h1, h2⟩
      · exact .inl h
      · exact .inr ⟨e, pc, h1, dq_ext g9.ext h2⟩
    have t9 := g9.tab
    have sp : ∀ x ∈ zs.take 40, Sm 8 s x := fun x h => sz x (List.mem_of_mem_take h)
    have lp : (zs.take 40).length ≤ 40 := by rw [List.length_take]; omega
    have np : zs.take 40 ≠ [] := by
      intro e
      cases zs with
      | nil => exact nz rfl
      | cons a l => cases e
    generalize upd H8 q1 (.lst (ps.take 40)) = H9 at S9 hp9 hs9 hx9 hy9 hb9 hsh9 t9 ⊢
    generalize zs.take 40 = pool at hp9 sp lp np
    clear g9 hsh7 hb7 hy7 hx7 hs7 hpa dpa hq1 g8 hdv7 hdv gB7 gh7 S7 e7 hsh6 hb6 hy6 hx6 hs6 t6 S6 nz lz sz sz'
    dsimp only
    have vp : Vok s pool := ⟨by omega, sp⟩
    have vb : Vok s (together s xs ys) := by
      have l := least_len s (xs ++ ys)
      rw [List.length_append] at l
      refine ⟨Nat.le_trans l (by omega), fun x h => ?_⟩
      rcases List.mem_append.mp (mem_least h) with h | h
      · exact vx.2 x h
      · exact vy.2 x h
    have vl : Vok s (least s xs) := by
      have l := least_len s xs
      exact ⟨by omega, fun x h => vx.2 x (mem_least h)⟩
    -- the first loop
    refine s_seq (for_lst (σ0 := [some (.ref p), some (.ref D), some (.int (0 + (i : Int))), some sv, some xv, some yv, some (.ref bp), some shv, some (.ref q1), o9, o10, o11, o12, o13, o14, o15]) (ds := ((pool ++ xs) ++ ys).map (enc s)) (EvD.is (d := .list ((pool.map (enc s) ++ xs.map (enc s)) ++ ys.map (enc s))) (EvL.toD (el_cat (EvL.toD (el_cat (ed_var (i := 8) rfl hp9) (ed_var (i := 4) rfl hx9) (by rw [List.length_map, List.length_map]; omega))) (ed_var (i := 5) rfl hy9) (by rw [List.length_append, List.length_map, List.length_map, List.length_map]; omega))) (by rw [List.map_append, List.map_append])) (.refl t9) fun za zv H10 g10 hza dza => ?_)
    refine for_list (xs := zv) (fun j σ H' => (∃ o9 o10 o11 : Option V, σ = [some (.ref p), some (.ref D), some (.int (0 + (i : Int))), some sv, some xv, some yv, some (.ref bp), some shv, some (.ref q1), o9, o10, o11, o12, o13, o14, o15]) ∧ Gr T H10 H') ?_ ?_ ?_ ?_
    · exact ⟨⟨_, _, _, rfl⟩, .refl g10.tab⟩
    · rintro j σ H' _ ⟨_, g⟩
      exact .of (g.stay hza True.intro)
    · rintro j y σ H' hy0 ⟨⟨o9, o10, o11, rfl⟩, g⟩
      obtain ⟨d0, e1, e2⟩ := dps_at dza hy0
      rw [List.getElem?_map] at e1
      cases ez : ((pool ++ xs) ++ ys)[j]? with
      | none => rw [ez] at e1; cases e1
      | some z =>
      rw [ez] at e1
      cases e1
      have sz8 : Sm 8 s z := by
        rcases List.mem_append.mp (List.mem_of_getElem? ez) with h | h
        · rcases List.mem_append.mp h with h | h
          · exact sp z h
          · exact vx.2 z h
        · exact vy.2 z h
      have g9 := g10.trans g
      have hz : Dq K H' y (.d (enc s z)) := .of (dp_ext g.ext e2) (enc_nl _ _)
      have hs' := dq_ext g9.ext hs9
      have hx' := dq_ext g9.ext hx9
      have hy' := dq_ext g9.ext hy9
      have hb' := dq_ext g9.ext hb9
      have t' := g9.tab
      refine s_seq (s_par ?_)
      refine (ea_cons (ed_call (K := K) (T := T) (R := RIn 3) (H := H') (σ := [some (.ref p), some (.ref D), some (.int (0 + (i : Int))), some sv, some xv, some yv, some (.ref bp), some shv, some (.ref q1), some y, o10, o11, o12, o13, o14, o15]) (ea_cons (ed_var (i := 3) rfl hs') (ea_cons (ed_var (i := 4) rfl hx') (ea_cons (ed_var (i := 9) rfl hz) ea_nil))) ⟨s, xs, z, rfl, gd.d, gd.w, vx, sz8, rfl⟩ : EvD K T _ _ H' (.bool (inUp s xs z))) (ea_cons (ed_call (K := K) (T := T) (R := RIn 3) (H := H') (ea_cons (ed_var (i := 3) rfl hs') (ea_cons (ed_var (i := 5) rfl hy') (ea_cons (ed_var (i := 9) rfl hz) ea_nil))) ⟨s, ys, z, rfl, gd.d, gd.w, vy, sz8, rfl⟩ : EvD K T _ _ H' (.bool (inUp s ys z))) ea_nil)).run (.refl t') fun us H11 g11 hus => ?_
      obtain ⟨w1, w2, rfl, hw1, hw2⟩ := dqa2 hus
      obtain rfl := dq_bl hw1
      obtain rfl := dq_bl hw2
      refine ⟨_, _, rfl, ?_⟩
      dsimp only
      have hz1 := dq_ext g11.ext hz
      have hs1 := dq_ext g11.ext hs'
      have hx1 := dq_ext g11.ext hx'
      have hy1 := dq_ext g11.ext hy'
      have hb1 := dq_ext g11.ext hb'
      have b1 : (inUp s (together s xs ys) z != (inUp s xs z || inUp s ys z)) = false := by rw [together_up]; simp
      have b2 : (inUp s (least s xs) z != inUp s xs z) = false := by rw [least_up]; simp
      have b3 : (inUp s (rawCommon s xs ys) z != (inUp s xs z && inUp s ys z)) = false := by rw [rawCommon_up]; simp
      have b4 : (contains s xs [z] != inUp s xs z) = false := by unfold contains; simp
      refine s_seq (s_ifB (b := false) (EvB.is (eb_or (eb_test (ed_neB (ed_call (K := K) (T := T) (R := RIn 3) (H := H11) (σ := [some (.ref p), some (.ref D), some (.int (0 + (i : Int))), some sv, some xv, some yv, some (.ref bp), some shv, some (.ref q1), some y, some (.bl (inUp s xs z)), some (.bl (inUp s ys z)), o12, o13, o14, o15]) (ea_cons (ed_var (i := 3) rfl hs1) (ea_cons (ed_var (i := 6) rfl hb1) (ea_cons (ed_var (i := 9) rfl hz1) ea_nil))) ⟨s, together s xs ys, z, rfl, gd.d, gd.w, vb, sz8, rfl⟩) (ed_or (ed_var (i := 10) rfl .bl) fun _ => ed_var (i := 11) rfl .bl))) fun _ => eb_test (ed_neB (ed_call (K := K) (T := T) (R := RIn 3) (ea_cons (ed_var (i := 3) rfl hs1) (ea_cons (ed_call (K := K) (T := T) (R := RLeast 3) (ea_cons (ed_var (i := 3) rfl hs1) (ea_cons (ed_var (i := 4) rfl hx1) ea_nil)) ⟨s, xs, rfl, gd.d, gd.w, vx, rfl⟩) (ea_cons (ed_var (i := 9) rfl hz1) ea_nil))) ⟨s, least s xs, z, rfl, gd.d, gd.w, vl, sz8, rfl⟩) (ed_var (i := 10) rfl .bl))) (by rw [b1, b2]; rfl)) (.refl g11.tab) fun H12 g12 => ?_)
      rw [if_neg Bool.false_ne_true]
      dsimp only [tNext]
      have g112 := g11.trans g12
      have hz2 := dq_ext g12.ext hz1
      have hs2 := dq_ext g12.ext hs1
      have hx2 := dq_ext g12.ext hx1
      have sec : EvB T (tAnd (tTest (tOp (fun x y H Q => y = .non ∧ Q (.bl (!decide (x = .non))) H) (tVar 7) (tC .non))) (tTest (tOp rNe (tCall (spOf T K (RIn 3)) [] E0 (tCons (tVar 3) (tCons (tVar 7) (tCons (tVar 9) tNil)))) (tAndV (tVar 10) (tVar 11))))) [some (.ref p), some (.ref D), some (.int (0 + (i : Int))), some sv, some xv, some yv, some (.ref bp), some shv, some (.ref q1), some y, some (.bl (inUp s xs z)), some (.bl (inUp s ys z)), o12, o13, o14, o15] H12 false := by
        rcases hsh9 with rfl | ⟨okc, pc, rfl, hc⟩
        · exact EvB.is (eb_and (c := true) (eb_none rfl) fun z => nomatch z) rfl
        · have vc : Vok s (rawCommon s xs ys) := by
            unfold okCommon at okc
            rw [Bool.and_eq_true] at okc
            have := of_decide_eq_true okc.2
            exact ⟨by omega, fun m hm => sm_mono (by omega) (rawCommon_small sx2 sy2 m hm)⟩
          refine EvB.is (eb_and (eb_some rfl) fun _ => eb_test (ed_neB (ed_call (K := K) (T := T) (R := RIn 3) (ea_cons (ed_var (i := 3) rfl hs2) (ea_cons (ed_var (i := 7) rfl (dq_ext ((g9.trans g11).trans g12).ext hc)) (ea_cons (ed_var (i := 9) rfl hz2) ea_nil))) ⟨s, rawCommon s xs ys, z, rfl, gd.d, gd.w, vc, sz8, rfl⟩) (ed_and (ed_var (i := 10) rfl .bl) fun _ => ed_var (i := 11) rfl .bl))) ?_
          rw [b3]
          rfl
      refine s_seq (s_ifB sec (.refl g12.tab) fun H13 g13 => ?_)
      rw [if_neg Bool.false_ne_true]
      dsimp only [tNext]
      have hz3 := dq_ext g13.ext hz2
      have hs3 := dq_ext g13.ext hs2
      have hx3 := dq_ext g13.ext hx2
      refine s_ifB (b := false) (EvB.is (eb_test (ed_neB (ed_call (K := K) (T := T) (R := RCont 3) (H := H13) (σ := [some (.ref p), some (.ref D), some (.int (0 + (i : Int))), some sv, some xv, some yv, some (.ref bp), some shv, some (.ref q1), some y, some (.bl (inUp s xs z)), some (.bl (inUp s ys z)), o12, o13, o14, o15]) (ea_cons (ed_var (i := 3) rfl hs3) (ea_cons (ed_var (i := 4) rfl hx3) (ea_cons (EvD.is (d1 := Lst s [z]) (EvL.toD (el_lst (as := [.d (enc s z)]) (ea_cons (ed_var (i := 9) rfl hz3) ea_nil) rfl (by simp))) rfl) ea_nil))) ⟨s, xs, [z], rfl, gd.d, gd.w, vx, ⟨by show 1 ≤ 20000; decide, fun x h => by rw [List.mem_singleton.mp h]; exact sz8⟩, rfl⟩) (ed_var (i := 10) rfl .bl))) b4) (.refl g13.tab) fun H14 g14 => ?_
      rw [if_neg Bool.false_ne_true]
      exact ⟨⟨_, _, _, rfl⟩, ((g.trans g11).trans g12).trans (g13.trans g14)⟩
    · rintro σ H11 ⟨⟨o9, o10, o11, rfl⟩, g11⟩
      have gg := g10.trans g11
      have S11 := S9.stay gg
      have hs1 := dq_ext gg.ext hs9
      have hx1 := dq_ext gg.ext hx9
      have hy1 := dq_ext gg.ext hy9
      have hp1 := dq_ext gg.ext hp9
      have t11 := gg.tab
      clear gg hsh9 hb9 hy9 hx9 hs9 hp9 hza dza g10 t9 S9 g11
      dsimp only
      -- the last of the pool
      have lpos : 0 < pool.length := List.length_pos_iff.mpr np
      obtain ⟨vv, evv⟩ : ∃ vv, pool[pool.length - 1]? = some vv := ⟨_, List.getElem?_eq_getElem (by omega)⟩
      have svv := sp vv (List.mem_of_getElem? evv)
      have ln := ed_lenL (T := T) (ed_var (T := T) (K := K) (H := H11) (σ := [some (.ref p), some (.ref D), some (.int (0 + (i : Int))), some sv, some xv, some yv, some (.ref bp), some shv, some (.ref q1), o9, o10, o11, o12, o13, o14, o15]) (i := 8) rfl hp1)
      rw [List.length_map] at ln
      refine s_seq (s_asg ((ed_ixL (K := K) (T := T) (n := pool.length - 1) (dd := enc s vv) (ed_var (i := 8) rfl hp1) (ed_I0 (d := .int ((pool.length - 1 : Nat) : Int)) ln (ed_int (n := 1)) fun _ => by rw [show ((pool.length : Nat) : Int) - 1 = ((pool.length - 1 : Nat) : Int) by omega]; exact .int) (by rw [List.getElem?_map, evv]; rfl) (enc_nl _ _)).run (.refl t11) fun lv H12 g12 hlv => ?_))
      have S12 := S11.stay g12
      have hs2 := dq_ext g12.ext hs1
      have hx2 := dq_ext g12.ext hx1
      have hy2 := dq_ext g12.ext hy1
      have hp2 := dq_ext g12.ext hp1
      have t12 := g12.tab
      clear g12 hp1 hy1 hx1 hs1 S11 t11 ln
      dsimp only
      -- the second loop
      refine s_seq (for_lst (σ0 := [some (.ref p), some (.ref D), some (.int (0 + (i : Int))), some sv, some xv, some yv, some (.ref bp), some shv, some (.ref q1), some lv, o10, o11, o12, o13, o14, o15]) (ed_var (i := 8) rfl hp2) (.refl t12) fun za zv H13 g13 hza dza => ?_)
      refine for_list (xs := zv) (fun j σ H' => (∃ o12 : Option V, σ = [some (.ref p), some (.ref D), some (.int (0 + (i : Int))), some sv, some xv, some yv, some (.ref bp), some shv, some (.ref q1), some lv, o10, o11, o12, o13, o14, o15]) ∧ Gr T H13 H') ?_ ?_ ?_ ?_
      · exact ⟨⟨_, rfl⟩, .refl g13.tab⟩
      · rintro j σ H' _ ⟨_, g⟩
        exact .of (g.stay hza True.intro)
      · rintro j y σ H' hy0 ⟨⟨o12, rfl⟩, g⟩
        obtain ⟨d0, e1, e2⟩ := dps_at dza hy0
        rw [List.getElem?_map] at e1
        cases ez : pool[j]? with
        | none => rw [ez] at e1; cases e1
        | some z =>
        rw [ez] at e1
        cases e1
        have sz8 := sp z (List.mem_of_getElem? ez)
        have hz : Dq K H' y (.d (enc s z)) := .of (dp_ext g.ext e2) (enc_nl _ _)
        have g9 := g13.trans g
        have hs' := dq_ext g9.ext hs2
        have hx' := dq_ext g9.ext hx2
        have hl' := dq_ext g9.ext hlv
        have tst : EvS T (tAnd (tTest (tCall (spOf T K (RLHolds 3)) [] E0 (tCons (tVar 3) (tCons (tVar 9) (tCons (tVar 12) tNil))))) (tAnd (tTest (tCall (spOf T K (RIn 3)) [] E0 (tCons (tVar 3) (tCons (tVar 4) (tCons (tVar 12) tNil))))) (tNot (tTest (tCall (spOf T K (RIn 3)) [] E0 (tCons (tVar 3) (tCons (tVar 4) (tCons (tVar 9) tNil)))))))) [some (.ref p), some (.ref D), some (.int (0 + (i : Int))), some sv, some xv, some yv, some (.ref bp), some shv, some (.ref q1), some lv, o10, o11, some y, o13, o14, o15] H' (holds s vv z = true ∧ inUp s xs z = true ∧ inUp s xs vv = false) := by
          refine es_and (es_test (ed_call (K := K) (T := T) (R := RLHolds 3) (ea_cons (ed_var (i := 3) rfl hs') (ea_cons (ed_var (i := 9) rfl hl') (ea_cons (ed_var (i := 12) rfl hz) ea_nil))) ⟨s, vv, z, rfl, gd.d, gd.w, svv, sz8, rfl⟩)) fun _ => es_and (es_of (b := inUp s xs z) (eb_test (ed_call (K := K) (T := T) (R := RIn 3) (ea_cons (ed_var (i := 3) rfl hs') (ea_cons (ed_var (i := 4) rfl hx') (ea_cons (ed_var (i := 12) rfl hz) ea_nil))) ⟨s, xs, z, rfl, gd.d, gd.w, vx, sz8, rfl⟩)) fun e => e) fun _ => es_of (b := !inUp s xs vv) (eb_not (eb_test (ed_call (K := K) (T := T) (R := RIn 3) (ea_cons (ed_var (i := 3) rfl hs') (ea_cons (ed_var (i := 4) rfl hx') (ea_cons (ed_var (i := 9) rfl hl') ea_nil))) ⟨s, xs, vv, rfl, gd.d, gd.w, vx, svv, rfl⟩))) fun e => by simpa using e
        refine s_if (tst H' g9.self _ fun b H15 g15 hb => ?_)
        cases b with
        | true =>
          obtain ⟨k1, k2, k3⟩ := hb rfl
          rw [inUp_up k1 k2] at k3
          cases k3
        | false =>
          rw [if_neg Bool.false_ne_true]
          exact ⟨⟨_, rfl⟩, g.trans g15⟩
      · rintro σ H14 ⟨⟨o12, rfl⟩, g14⟩
        have gg := g13.trans g14
        have S14 := S12.stay gg
        have hs4 := dq_ext gg.ext hs2
        have hx4 := dq_ext gg.ext hx2
        have hy4 := dq_ext gg.ext hy2
        have t14 := gg.tab
        clear gg g14 g13 hza dza hp2 hy2 hx2 hs2 S12 t12 hlv
        dsimp only
        have bc : (contains s xs ys != ((ys.map fun u => inUp s xs u).all id)) = false := by
          have : ((ys.map fun u => inUp s xs u).all id) = contains s xs ys := by
            unfold contains
            rw [List.all_map]
            rfl
          rw [this]
          simp
        refine s_seq (s_ifB (b := false) (EvB.is (eb_test (ed_neB (ed_call (K := K) (T := T) (R := RCont 3) (H := H14) (σ := [some (.ref p), some (.ref D), some (.int (0 + (i : Int))), some sv, some xv, some yv, some (.ref bp), some shv, some (.ref q1), some lv, o10, o11, o12, o13, o14, o15]) (ea_cons (ed_var (i := 3) rfl hs4) (ea_cons (ed_var (i := 4) rfl hx4) (ea_cons (ed_var (i := 5) rfl hy4) ea_nil))) ⟨s, xs, ys, rfl, gd.d, gd.w, vx, vy, rfl⟩) (ed_noF (bs := ys.map fun u => inUp s xs u) (EvL.toD (EvL.is (el_lcM (K := K) (T := T) (j := 12) (tl := tVar 5) (te := tCall (spOf T K (RIn 3)) [] E0 (tCons (tVar 3) (tCons (tVar 4) (tCons (tVar 12) tNil)))) (vs := [12]) ys (enc s) (fun u => .bool (inUp s xs u)) (ed_var (i := 5) rfl hy4) (by omega) (by intro _; rfl) fun j z hz vv H15 g15 hvv => EvD.e (ed_call (R := RIn 3) (ea_cons (ed_var (i := 3) rfl (dq_ext g15.ext hs4)) (ea_cons (ed_var (i := 4) rfl (dq_ext g15.ext hx4)) (ea_cons (ed_var (i := 12) rfl (.of hvv (enc_nl _ _))) ea_nil))) ⟨s, xs, z, rfl, gd.d, gd.w, vx, vy.2 z (List.mem_of_getElem? hz), rfl⟩) rfl) (by rw [List.map_map]; rfl)))))) bc) (.refl t14) fun H15 g15 => ?_)
        rw [if_neg Bool.false_ne_true]
        have S15 := S14.stay g15
        have hs5 := dq_ext g15.ext hs4
        have hx5 := dq_ext g15.ext hx4
        have hy5 := dq_ext g15.ext hy4
        have t15 := g15.tab
        clear g15 hs4 hx4 hy4 S14 t14 bc
        dsimp only [tNext]
        have sd : dep s < 60 := by have := gd.d; omega
        have lem : ∀ l : List (Va s), EvD K T (tOp (rNeD K) (tVar 4) (tLst tNil)) [some (.ref p), some (.ref D), some (.int (0 + (i : Int))), some sv, some xv, some yv, some (.ref bp), some shv, some (.ref q1), some lv, o10, o11, o12, o13, o14, o15] H15 (.bool (!decide (xs = []))) := fun _ => by
          rw [← eqv_nil]
          exact ed_neD (ed_var (i := 4) rfl hx5) (EvL.toD (el_lst (as := []) ea_nil rfl (by simp))) (shaped_lst dm.1 sd xs) (by decide +kernel)
        have lem2 : EvD K T (tOp (rNeD K) (tVar 5) (tLst tNil)) [some (.ref p), some (.ref D), some (.int (0 + (i : Int))), some sv, some xv, some yv, some (.ref bp), some shv, some (.ref q1), some lv, o10, o11, o12, o13, o14, o15] H15 (.bool (!decide (ys = []))) := by
          rw [← eqv_nil]
          exact ed_neD (ed_var (i := 5) rfl hy5) (EvL.toD (el_lst (as := []) ea_nil rfl (by simp))) (shaped_lst dm.1 sd ys) (by decide +kernel)
        refine s_ifB (eb_and (eb_test (lem [])) fun _ => eb_test lem2) (.refl t15) fun H16 g16 => ?_
        have S16 := S15.stay g16
        cases xs with
        | nil =>
          rw [if_neg (by simp)]
          exact ⟨⟨_, _, _, _, _, _, _, _, _, _, _, _, _, _, rfl⟩, S16, g16.tab⟩
        | cons x0 xs =>
        cases ys with
        | nil =>
          rw [if_neg (by simp)]
          exact ⟨⟨_, _, _, _, _, _, _, _, _, _, _, _, _, _, rfl⟩, S16, g16.tab⟩
        | cons y0 ys =>
        rw [if_pos (by simp)]
        have hs6 := dq_ext g16.ext hs5
        have hx6 := dq_ext g16.ext hx5
        have hy6 := dq_ext g16.ext hy5
        refine s_seq (s_par ?_)
        refine (ea_cons (ed_ixL (n := 0) (dd := enc s x0) (ed_var (i := 4) (σ := [some (.ref p), some (.ref D), some (.int (0 + (i : Int))), some sv, some xv, some yv, some (.ref bp), some shv, some (.ref q1), some lv, o10, o11, o12, o13, o14, o15]) rfl hx6) (ed_int (n := 0)) rfl (enc_nl _ _)) (ea_cons (ed_ixL (n := 0) (dd := enc s y0) (ed_var (i := 5) rfl hy6) (ed_int (n := 0)) rfl (enc_nl _ _)) ea_nil) : EvA K T _ _ H16 _).run g16.self fun us H17 g17 hus => ?_
        obtain ⟨xa, ya, rfl, hxa, hya⟩ := dqa2 hus
        refine ⟨_, _, rfl, ?_⟩
        have hs7 := dq_ext g17.ext hs6
        have S17 := S16.stay g17
        have mx0 := sx2 x0 List.mem_cons_self
        have my0 := sy2 y0 List.mem_cons_self
        dsimp only
        refine s_seq (s_asg (ev_met (K := K) (T := T) (H := H17) (d := 3) (σ := [some (.ref p), some (.ref D), some (.int (0 + (i : Int))), some sv, some xv, some yv, some (.ref bp), some shv, some (.ref q1), some lv, o10, o11, o12, some xa, some ya, o15]) (ea_cons (ed_var (i := 3) rfl hs7) (ea_cons (EvD.is (d1 := Lst s [x0]) (EvL.toD (el_lst (as := [.d (enc s x0)]) (ea_cons (ed_var (i := 13) rfl hxa) ea_nil) rfl (by simp))) rfl) (ea_cons (EvD.is (d1 := Lst s [y0]) (EvL.toD (el_lst (as := [.d (enc s y0)]) (ea_cons (ed_var (i := 14) rfl hya) ea_nil) rfl (by simp))) rfl) ea_nil))) ⟨s, [x0], [y0], rfl, gd.d, gd.w, fun v h => by rw [List.mem_singleton.mp h]; exact mx0, fun v h => by rw [List.mem_singleton.mp h]; exact my0, by show 1 ≤ 3; decide, by show 1 ≤ 3; decide, gd.c, rfl, rfl⟩ H17 g17.self _ fun fv H18 g18 hf => ?_))
        have S18 := S17.stay g18
        dsimp only
        have last : EvB T (tAnd (tTest (tOp (fun x y H Q => y = .non ∧ Q (.bl (!decide (x = .non))) H) (tVar 15) (tC .non))) (tTest (tOp (rNeD K) (tVar 15) (tCall (spX T K CF (RBothX 3)) [] (fun _ _ _ => False) (tCons (tVar 3) (tCons (tVar 13) (tCons (tVar 14) tNil))))))) [some (.ref p), some (.ref D), some (.int (0 + (i : Int))), some sv, some xv, some yv, some (.ref bp), some shv, some (.ref q1), some lv, o10, o11, o12, some xa, some ya, some fv] H18 false := by
          rcases hf with rfl | ⟨okc, pc, zs, rfl, nc, h1, h2⟩
          · exact EvB.is (eb_and (c := true) (eb_none rfl) fun z => nomatch z) rfl
          · have okb : okBoth s x0 y0 = true := by
              unfold okCommon at okc
              rw [Bool.and_eq_true] at okc
              exact List.all_eq_true.mp (List.all_eq_true.mp okc.1 x0 List.mem_cons_self) y0 List.mem_cons_self
            have both : EvD K T (tCall (spX T K CF (RBothX 3)) [] (fun _ _ _ => False) (tCons (tVar 3) (tCons (tVar 13) (tCons (tVar 14) tNil)))) [some (.ref p), some (.ref D), some (.int (0 + (i : Int))), some sv, some xv, some yv, some (.ref bp), some shv, some (.ref q1), some lv, o10, o11, o12, some xa, some ya, some (.ref pc)] H18 (Lst s (rawBoth s x0 y0)) := .of fun H1 g Q q =>
              (ea_cons (ed_var (i := 3) rfl (dq_ext g18.ext hs7)) (ea_cons (ed_var (i := 13) rfl (dq_ext g18.ext hxa)) (ea_cons (ed_var (i := 14) rfl (dq_ext g18.ext hya)) ea_nil)) : EvA K T _ _ H18 [.s s, .d (enc s x0), .d (enc s y0)]).run g fun us H2 g2 hus => by
                show spX T K CF (RBothX 3) (us ++ []) H2 Q (fun _ _ _ => False)
                rw [List.append_nil]
                exact ⟨g2.tab, _, true, _, hus, ⟨s, x0, y0, rfl, gd.d, gd.w, mx0, my0, gd.c, okb.symm, rfl⟩, fun _ v H3 g3 hv => q v H3 (g2.trans g3) hv, fun z => nomatch z⟩
            rw [rawCommon_one] at h2
            refine EvB.is (eb_and (eb_some rfl) fun _ => eb_test (ed_neD (ed_var (i := 15) rfl (Dq.lst h1 h2)) both (shaped_lst dm.1 sd _) (shaped_lst dm.1 sd _))) ?_
            rw [eqv_lst gd.w]
            rfl
        refine s_ifB last (.refl g18.tab) fun H19 g19 => ?_
        rw [if_neg Bool.false_ne_true]
        exact ⟨⟨_, _, _, _, _, _, _, _, _, _, _, _, _, _, rfl⟩, S18.stay g19, g19.tab⟩
  · rintro σ H' ⟨⟨o2, o3, o4, o5, o6, o7, o8, o9, o10, o11, o12, o13, o14, o15, rfl⟩, S0, t0⟩
    dsimp only
    exact s_ret (q H')
end
end K16

end K16R29Text
section K16R30Text
set_option autoImplicit false
set_option linter.all false
set_option maxRecDepth 100000
set_option Elab.async false
set_option pp.maxSteps 700
set_option pp.deepTerms false
set_option pp.deepTerms.threshold 4
namespace K16
open PySem PySem.Spec PyProof.Rows L2 NdefX
abbrev sLawBeneath : Stmt := topS 44
abbrev nLawBeneath : List Str := ["_law_sort", "_law_v", "_law_found", "_law_others", "_law_u", "_law_part", "_law_longer", "_law_other", "_law_row"]
theorem scLawBeneath : FnScope nLawBeneath ["_law_sort", "_law_v"] (defScope sLawBeneath) := ⟨rfl, rfl, rfl, by decide +kernel, rfl, by decide +kernel, by decide +kernel⟩
section
variable {K : PySem.W.Frag} {T : Tb} {H H1 : Hp} {σ : L2.St} {w : World}
/-- what was found so far -/
def Fnd (K : PySem.W.Frag) (so : So) (n : Nat) (v1 v2 : V) : L2.St → Hp → Prop := fun σ H => ∃ (fv : V) (xs : List (Va so)) (o3 o4 o5 o6 o7 o8 : Option V), σ = [some v1, some v2, some fv, o3, o4, o5, o6, o7, o8] ∧ Dq K H fv (.d (.list (xs.map (enc so)))) ∧ xs ≠ [] ∧ xs.length ≤ bc n so ∧ ∀ x ∈ xs, Dv n so x
theorem beneath_tail {d n : Nat} {so : So} {v1 v2 : V} (hd : dep so < d + 1) (hd8 : dep so ≤ 8) (hw : Wf so) (hn : n ≤ 3) (hb : Bk n so) (h1 : Dq K H v1 (.s so)) (hF : Fnd K so n v1 v2 σ H) :
    RetP K T (tSeq (tAsg (tCB (rSortedSet K w T so) (tCons (tCB (rSet K w) (tCons (tLc (iList K (tVar 2)) (gName 4) tYes (tCall (spOf T K (RLForm (d + 1))) [] E0 (tCons (tVar 0) (tCons (tVar 4) tNil))) [4]) tNil)) tNil)) (gName 2))
      (tRet (tSortK K T ["_law_u", "_law_sort"] [0] (ordS so) (kd false so) (tCall (spOf T K (RLKey (d + 1))) [] E0 (tCons (tVar 1) (tCons (tVar 0) tNil))) (tCons (tVar 2) tNil)))) σ H (fun r => ∃ xs : List (Va so), r = .d (.list (xs.map (enc so))) ∧ (xs ≠ [] ∧ xs.length ≤ bc n so ∧ ∀ x ∈ xs, Dv n so x)) := by
  obtain ⟨fv, xs, o3, o4, o5, o6, o7, o8, rfl, hf, ne, hl, hx⟩ := hF
  have b125 := bk_le hb
  have sm8 : ∀ x, Dv n so x → Sm 8 so x := fun x h => sm_mono (by omega) (dv_sm h)
  refine rd_setP (eq_ss (xs := xs.map (form so)) hd8 (by rw [List.length_map]; omega) (EvL.is (el_lcM xs (enc so) (fun y => enc so (form so y)) (ed_var (i := 2) rfl hf) (by omega) (by intro _; rfl) fun i x ex v H3 g3 hv => EvD.e (ed_call (K := K) (T := T) (R := RLForm (d + 1)) (ea_cons (ed_var (i := 0) rfl (dq_ext g3.ext h1)) (ea_cons (ed_var (i := 4) rfl (.of hv (enc_nl _ _))) ea_nil)) ⟨so, x, rfl, hd, hw, sm8 x (hx x (List.mem_of_getElem? ex)), rfl⟩) (noL_enc _ _)) (by rw [List.map_map]; rfl))) fun v r H3 g3 hv hr => ?_
  obtain ⟨cs, rfl, c1, c2, c3⟩ := hr
  have cD : ∀ c ∈ cs, Dv n so c := fun c hc => by
    obtain ⟨x, ex, rfl⟩ := List.mem_map.mp (c1 c hc)
    exact dv_form (hx x ex)
  refine rd_ret (EvD.toP (EvL.toD (el_sortK (s := so) (m := false) (vs := cs) (.inl rfl) (ea_cons (ed_var (i := 2) rfl hv) ea_nil) fun i c ec x' H4 g4 hx' => ed_call (K := K) (T := T) (R := RLKey (d + 1)) (ea_cons (ed_var (i := 1) rfl (dq_ext (g3.trans g4).ext h1)) (ea_cons (ed_var (i := 0) rfl (.of hx' (enc_nl _ _))) ea_nil)) ⟨so, c, rfl, hd, hw, sm8 c (cD c (List.mem_of_getElem? ec)), rfl⟩)) ⟨sortV so cs, rfl, ?_, ?_, fun c hc => cD c ?_⟩)
  · intro z
    have e := (sortV_perm so cs).length_eq
    rw [z] at e
    exact c3 (fun q => ne (List.map_eq_nil_iff.mp q)) (List.length_eq_zero_iff.mp e.symm)
  · rw [(sortV_perm so cs).length_eq]
    rw [List.length_map] at c2
    omega
  · exact (sortV_perm so cs).mem_iff.mp hc
theorem pow_up {x i n : Nat} (h : i ≤ n) : (1 + x) ^ i ≤ (1 + x) ^ n := Nat.pow_le_pow_right (by omega) h
/-- rows: every part may be left out -/
theorem beneath_rows {d m : Nat} {a so : So} {v1 v2 : V} {xs : List (Va a)} {o2 o3 o4 o5 o6 o7 o8 : Option V} (hd : dep a < d) (hw : Wf a) (hm : m ≤ 3) (hb : Bk m a) (hsub : sub so 1 = some a) (h1 : Dq K H v1 (.s so)) (h2 : Dq K H v2 (.d (.tuple (xs.map (enc a))))) (hxl : xs.length ≤ 3) (hx : ∀ x ∈ xs, Dv m a x)
    (hT : LamX.Tabs T H) (hp : (1 + bc m a) ^ xs.length ≤ 125) (D : Ends)
    (q : ∀ σ2 H2, Gr T H H2 → (∃ (fv : V) (zs : List (List (Va a))) (o3 o4 o5 o6 o7 o8 : Option V), σ2 = [some v1, some v2, some fv, o3, o4, o5, o6, o7, o8] ∧ Dq K H2 fv (.d (.list (zs.map fun z => .tuple (z.map (enc a))))) ∧ zs ≠ [] ∧ zs.length ≤ (1 + bc m a) ^ xs.length ∧ ∀ z ∈ zs, z.length ≤ xs.length ∧ ∀ y ∈ z, Dv m a y) → D.nx σ2 H2) :
    tSeq (tAsg (tLst (tCons (tTup tNil) tNil)) (gName 2)) (tFor (iTup K (tVar 1)) (gName 5) (tSeq (tAsg (tLst tNil) (gName 6)) (tSeq (tFor (iList K (tCall (spOf T K (RBen d)) [] E0 (tCons (tOp (rIxT K) (tVar 0) (tC (.int 1))) (tCons (tVar 5) tNil)))) (gName 4) (tAsg (tOp rCat (tVar 6) (tLc (iList K (tVar 2)) (gName 8) tYes (tOp (rCatA K) (tVar 8) (tTup (tCons (tVar 4) tNil))) [8])) (gName 6))) (tAsg (tOp rCat (tVar 2) (tVar 6)) (gName 2))))) D [some v1, some v2, o2, o3, o4, o5, o6, o7, o8] H := by
  refine s_seq (s_asg ?_)
  refine (el_lst (K := K) (T := T) (H := H) (as := [.d (.tuple [])]) (ds := [.tuple []]) (ea_cons (ed_tup ea_nil rfl (by simp)) ea_nil) rfl (by simp)).toD.run (.refl hT) fun f0 H1 g1 hf0 => ?_
  dsimp only
  have hb125 := bk_le hb
  refine for_eachT (K := K) (T := T) (H := H) (xs := xs) (f := enc a) (ed_var (i := 1) rfl h2) g1 (fun i σ' H' => ∃ (fv : V) (zs : List (List (Va a))) (o3 o4 o5 o6 o7 o8 : Option V), σ' = [some v1, some v2, some fv, o3, o4, o5, o6, o7, o8] ∧ Dq K H' fv (.d (.list (zs.map fun z => .tuple (z.map (enc a))))) ∧ zs ≠ [] ∧ zs.length ≤ (1 + bc m a) ^ i ∧ ∀ z ∈ zs, z.length ≤ i ∧ ∀ y ∈ z, Dv m a y) ?_ ?_ ?_
  · intro H2 g2
    refine ⟨f0, [[]], _, _, _, _, _, _, rfl, dq_ext g2.ext hf0, by simp, by simp, fun z hz => ?_⟩
    rw [List.mem_singleton.mp hz]
    exact ⟨Nat.le_refl _, fun y hy => by cases hy⟩
  · rintro i x v σ' H' ex gH ⟨fv, zs, o3, o4, o5, o6, o7, o8, rfl, hf, ne, hzl, hz⟩ hv D' q'
    have hi : i < xs.length := (List.getElem?_eq_some_iff.mp ex).1
    have gg := g1.trans gH
    have z125 : zs.length ≤ 125 := Nat.le_trans hzl (Nat.le_trans (pow_up (by omega)) hp)
    refine s_seq (s_asg ?_)
    refine (el_lst (K := K) (T := T) (H := H') (as := []) (ds := []) ea_nil rfl (by simp)).toD.run (.refl gH.tab) fun l0 H2 g2 hl0 => ?_
    refine s_seq ?_
    refine for_eachP (K := K) (T := T) (H := H2) (f := enc a) (G := fun us : List (Va a) => us ≠ [] ∧ us.length ≤ bc m a ∧ ∀ u ∈ us, Dv m a u) (ed_call (K := K) (T := T) (R := RBen d) (ea_cons (ed_sub (n := 1) (ed_var (i := 0) rfl (dq_ext (gg.trans g2).ext h1)) ed_int hsub) (ea_cons (ed_var (i := 5) rfl (dq_ext g2.ext (.of hv (enc_nl _ _)))) ea_nil)) ⟨a, x, m, rfl, hd, hw, hm, hx x (List.mem_of_getElem? ex), hb, rfl⟩) (.refl g2.tab) fun us gus => ?_
    obtain ⟨une, ul, uD⟩ := gus
    refine ⟨fun k σ2 H3 => ∃ (lv : V) (ws : List (List (Va a))) (o4 o7 o8 : Option V), σ2 = [some v1, some v2, some fv, o3, o4, some v, some lv, o7, o8] ∧ Dq K H3 lv (.d (.list (ws.map fun z => .tuple (z.map (enc a))))) ∧ ws.length = k * zs.length ∧ ∀ z ∈ ws, z.length ≤ i + 1 ∧ ∀ y ∈ z, Dv m a y, ?_, ?_, ?_⟩
    · intro H3 g3
      exact ⟨l0, [], _, _, _, rfl, dq_ext g3.ext hl0, by simp, fun z hz => by cases hz⟩
    · rintro k u uv σ2 H3 eu gH3 ⟨lv, ws, o4, o7, o8, rfl, hlv, wl, hws⟩ huv D2 q2
      have hk : k < us.length := (List.getElem?_eq_some_iff.mp eu).1
      have w1 : ws.length ≤ 125 * 125 := by
        rw [wl]
        exact Nat.mul_le_mul (by omega) z125
      refine s_asg ?_
      refine (EvL.run (el_cat (K := K) (T := T) (H := H3) (ed_var (i := 6) rfl hlv) (EvL.toD (el_lcM (K := K) (T := T) (j := 8) (vs := [8]) zs (fun z => .tuple (z.map (enc a))) (fun z => .tuple ((z ++ [u]).map (enc a))) (ed_var (i := 2) rfl (dq_ext (g2.trans gH3).ext hf)) (by omega) (by intro _; rfl) fun j z ez zv H4 g4 hzv => EvD.e (EvD.is (ed_catT (ed_var (i := 8) rfl (.of hzv fun _ e => nomatch e)) (ed_tup (as := [.d (enc a u)]) (ds := [enc a u]) (ea_cons (ed_var (i := 4) rfl (dq_ext g4.ext (.of huv (enc_nl _ _)))) ea_nil) rfl (by simp)) ?_) (by rw [List.map_append]; rfl)) ?_)) ?_) (.refl gH3.tab) fun p ys H4 np g4 hp4 dp4 => ?_)
      · have := (hz z (List.mem_of_getElem? ez)).1
        rw [List.length_map]
        simp only [List.length_cons, List.length_nil]
        omega
      · exact noL_enc (.lane a) (z ++ [u])
      · rw [List.length_map, List.length_map]
        omega
      · refine q2 _ H4 g4 ⟨.ref p, ws ++ zs.map (fun z => z ++ [u]), _, _, _, rfl, .lst hp4 (by rw [List.map_append, List.map_map]; exact dp4), by rw [List.length_append, List.length_map, wl, Nat.succ_mul], fun z hz' => ?_⟩
        rcases List.mem_append.mp hz' with h | h
        · exact hws z h
        · obtain ⟨z0, h0, rfl⟩ := List.mem_map.mp h
          obtain ⟨k1, k2⟩ := hz z0 h0
          refine ⟨by rw [List.length_append]; simp only [List.length_cons, List.length_nil]; omega, fun y hy => ?_⟩
          rcases List.mem_append.mp hy with h | h
          · exact k2 y h
          · rw [List.mem_singleton.mp h]
            exact uD u (List.mem_of_getElem? eu)
    · rintro σ2 H3 gH3 ⟨lv, ws, o4, o7, o8, rfl, hlv, wl, hws⟩
      dsimp only
      have w1 : ws.length ≤ 125 * 125 := by
        rw [wl]
        exact Nat.mul_le_mul (by omega) z125
      refine s_asg ?_
      refine (EvL.run (el_cat (K := K) (T := T) (H := H3) (ed_var (i := 2) rfl (dq_ext (g2.trans gH3).ext hf)) (ed_var (i := 6) rfl hlv) (by rw [List.length_map, List.length_map]; omega)) (.refl gH3.tab) fun p ys H4 np g4 hp4 dp4 => ?_)
      refine q' _ H4 ((g2.trans gH3).trans g4) ⟨.ref p, zs ++ ws, _, _, _, _, _, _, rfl, .lst hp4 (by rw [List.map_append]; exact dp4), fun e => ne (List.append_eq_nil_iff.mp e).1, ?_, fun z hz' => ?_⟩
      · rw [List.length_append, wl, Nat.pow_succ]
        have h1 : us.length * zs.length ≤ bc m a * (1 + bc m a) ^ i := Nat.mul_le_mul ul hzl
        have h2 : (1 + bc m a) ^ i * (1 + bc m a) = (1 + bc m a) ^ i + bc m a * (1 + bc m a) ^ i := by rw [Nat.mul_add, Nat.mul_one, Nat.mul_comm]
        omega
      · rcases List.mem_append.mp hz' with h | h
        · obtain ⟨k1, k2⟩ := hz z h
          exact ⟨by omega, k2⟩
        · exact hws z h
  · intro σ' H' gH h
    exact q σ' H' (g1.trans gH) h
end
section
variable {P : Program} {w : World} {K : PySem.W.Frag} {mg : Str → Option Value} {base : Heap} {T : Tb} {c Pt : Addr}
theorem hasBeneath (d : Nat) (hd5 : d ≤ 5) (D : DefOkC K mg "_law_beneath" sLawBeneath ["_law_sort", "_law_v"] c) (M : Bi mg) (LO : LamOk T base mg c Pt (lamQ "_law_beneath")) (h__law_key : Has P w K mg base (d + 1) "_law_key" ["_law_sort", "_law_v"] (spOf T K (RLKey (d + 1)))) (h__law_formed : Has P w K mg base (d + 5) "_law_formed" ["_law_sort", "_law_v"] (spOf T K (RLForm (d + 1))))
    (h__law_beneath : Has P w K mg base (d + 6) "_law_beneath" ["_law_sort", "_law_v"] (spOf T K (RBen d))) :
    Has P w K mg base (d + 7) "_law_beneath" ["_law_sort", "_law_v"] (spOf T K (RBen (d + 1))) := by
  have nd := scLawBeneath.nd
  refine D.pure (d + 6) scLawBeneath (fun ds Pd h => ?_) fun f A outer s H vs ds Pd hr hT hv hR E => ?_
  · obtain ⟨s, x, n, rfl, _⟩ := h
    rfl
  obtain ⟨so, x, n, rfl, hd, hw, hn, hdv, hb, rfl⟩ := hR
  obtain ⟨v1, v2, rfl, h1, h2⟩ := dqa2 hv
  have hun : ∀ e : Env, (A.deeper e).units + dep so + 64 < cLine := fun e => by
    have := hr.un
    have h1 : dep so < 6 := by omega
    show A.units + 3 + dep so + 64 < cLine
    have h2 : A.units + 3 + 16 * (d + 6) + 200 < cLine := this
    omega
  refine ⟨_, (pss_cons (ps_set (i := 2) nd rfl (Or.inl rfl) (pe_lst (pa_cons (pv 1) pa_nil)))
    (pss_cons (ps_if (pt_cmpR op_eq (pe_ix ix_tup (pv 0) pe_int (fun _ _ => rfl)) pe_str (nomark _)) (pss_one (ps_set (i := 2) nd rfl (Or.inl rfl) (pe_listRg rfl rfl (M.list) (prg_1 rfl (M.range) (pe_op op_add (pv 1) pe_int))))) pss_nil)
    (pss_cons (ps_if (pt_cmpR op_eq (pe_ix ix_tup (pv 0) pe_int (fun _ _ => rfl)) pe_str (nomark _)) (pss_one (ps_setLc (i := 2) (own := [("_law_u", 4)]) rfl nd rfl rfl (sw_true rfl rfl rfl (by decide +kernel)) (pi_list (pe_has h__law_beneath hr (by omega) (pa_cons (pe_ix ix_tup (pv 0) (pe_op op_add pe_int (pe_callTy call_int1 rfl (M.int) (by decide +kernel) (pa_cons (pe_cmpR op_eq (pe_ix ix_tup (pv 1) pe_int (fun _ _ => rfl)) pe_str (nomark _)) pa_nil))) (fun _ _ => rfl)) (pa_cons (pe_ix ix_tup (pv 1) pe_int (fun _ _ => rfl)) pa_nil)))) (blkOk_by (N := nLawBeneath) (sc := (defScope sLawBeneath)) (by decide +kernel)) (fun _ _ _ _ _ => (pg_name (i := 4) nd rfl (Or.inl rfl))) (fun _ _ _ _ _ => pts_nil) (fun _ _ _ _ _ => (pe_tup (pa_cons (pe_ix (r := rIxT K) ix_tup (pv 1) pe_int (fun _ _ => rfl)) (pa_cons (pv 4) pa_nil)))))) pss_nil)
    (pss_cons (ps_if (pt_cmpR op_eq (pe_ix ix_tup (pv 0) pe_int (fun _ _ => rfl)) pe_str (nomark _)) (pss_cons (ps_par rfl nd (i := 2) (j := 3) rfl rfl (by decide) rfl rfl (pa_cons (pe_lst pa_nil) (pa_cons (pe_has h__law_beneath hr (by omega) (pa_cons (pe_ix ix_tup (pv 0) pe_int (fun _ _ => rfl)) (pa_cons (pe_ix ix_tup (pv 1) pe_int (fun _ _ => rfl)) pa_nil))) pa_nil)) (by rfl))
    (pss_one (ps_for PassesOwn.never rfl (pi_list (pe_has h__law_beneath hr (by omega) (pa_cons (pe_ix ix_tup (pv 0) pe_int (fun _ _ => rfl)) (pa_cons (pe_ix ix_tup (pv 1) pe_int (fun _ _ => rfl)) pa_nil)))) (pg_name (i := 4) nd rfl (Or.inr rfl)) (pss_one (ps_set (i := 2) nd rfl (Or.inl rfl) (pe_op op_cat (pv 2) (pe_lc (own := [("_law_other", 7)]) rfl nd (pi_list (pv 3)) (blkOk_by (N := nLawBeneath) (sc := (defScope sLawBeneath)) (by decide +kernel)) (fun _ _ _ _ _ => (pg_name (i := 7) nd rfl (Or.inl rfl))) (fun _ _ _ _ _ => pts_nil) (fun _ _ _ _ _ => (pe_tup (pa_cons (pv 4) (pa_cons (pv 7) pa_nil))))))))))) pss_nil)
    (pss_cons (ps_if (pt_cmpR op_in_seq (pe_ix ix_tup (pv 0) pe_int (fun _ _ => rfl)) (pe_tup (pa_cons pe_str (pa_cons pe_str pa_nil))) (by rfl)) (pss_cons (ps_set (i := 2) nd rfl (Or.inl rfl) (pe_lst (pa_cons (pe_tup pa_nil) pa_nil)))
    (pss_one (ps_for PassesOwn.never rfl (pi_tup (pv 1)) (pg_name (i := 5) nd rfl (Or.inl rfl)) (pss_cons (ps_set (i := 6) nd rfl (Or.inl rfl) (pe_lst pa_nil))
    (pss_cons (ps_for PassesOwn.never rfl (pi_list (pe_has h__law_beneath hr (by omega) (pa_cons (pe_ix ix_tup (pv 0) pe_int (fun _ _ => rfl)) (pa_cons (pv 5) pa_nil)))) (pg_name (i := 4) nd rfl (Or.inr rfl)) (pss_one (ps_set (i := 6) nd rfl (Or.inl rfl) (pe_op op_cat (pv 6) (pe_lc (own := [("_law_row", 8)]) rfl nd (pi_list (pv 2)) (blkOk_by (N := nLawBeneath) (sc := (defScope sLawBeneath)) (by decide +kernel)) (fun _ _ _ _ _ => (pg_name (i := 8) nd rfl (Or.inl rfl))) (fun _ _ _ _ _ => pts_nil) (fun _ _ _ _ _ => (pe_op (r := rCatA K) op_catA (pv 8) (pe_tup (pa_cons (pv 4) pa_nil)))))))))
    (pss_one (ps_set (i := 2) nd rfl (Or.inl rfl) (pe_op op_cat (pv 2) (pv 6))))))))) pss_nil)
    (pss_cons (ps_set (i := 2) nd rfl (Or.inl rfl) (pe_callB (cr_sortedSet T so hw hr.hd ?_) rfl (M.sorted) (by decide +kernel) (pa_cons (pe_callTy (cr_set hr.hd ?_) rfl (M.set) (by decide +kernel) (pa_cons (pe_lc (own := [("_law_u", 4)]) rfl nd (pi_list (pv 2)) (blkOk_by (N := nLawBeneath) (sc := (defScope sLawBeneath)) (by decide +kernel)) (fun _ _ _ _ _ => (pg_name (i := 4) nd rfl (Or.inl rfl))) (fun _ _ _ _ _ => pts_nil) (fun _ _ _ _ _ => (pe_has h__law_formed hr (by omega) (pa_cons (pv 0) (pa_cons (pv 4) pa_nil))))) pa_nil)) pa_nil)))
    (pss_one (ps_ret (pe_sortK (T := T) (N' := ["_law_u", "_law_sort"]) (fr := ["_law_sort"]) (js := [0]) (a := "_law_u") (k := d + 1) (O := ordS so) (enc := kd false so) rfl M.sorted (pa_cons (pv 2) pa_nil) LO.tb rfl LO.mem LO.uniq (nscope_by (by decide +kernel)) ?_ ?_ rfl hr (by omega) (keySys false so hw ?_)
    (fun f' c' A' outer' s' H' hr' => pe_has h__law_key hr' (by omega) (pa_cons (pv 1) (pa_cons (pv 0) pa_nil))) rfl (fun _ _ _ _ _ _ => rfl)))))))))), ?_⟩
  · first | exact hun _ | exact Nat.lt_of_le_of_lt (Nat.add_le_add_right (Nat.le_add_right _ _) _) (hun _)
  · first | exact hun _ | exact Nat.lt_of_le_of_lt (Nat.add_le_add_right (Nat.le_add_right _ _) _) (hun _)
  · exact (ndef_free (fr := ["_law_sort"]) (sc := defScope sLawBeneath) (by decide +kernel))
  · exact (ndef_fr (sc := defScope sLawBeneath) (by decide +kernel))
  · have := hun (envOfC "_law_beneath" (defScope sLawBeneath) s.heap.objs.size f (.ref c))
    show (A.deeper _).units + 1 + 1 + dep so + 4 < cLine
    omega
  refine rd_set (EvL.toD (el_lst (as := [.d (enc so x)]) (ds := [enc so x]) (ea_cons (ed_var (i := 1) rfl h2) ea_nil) rfl (by simp))) fun fv H1 g1 hf => ?_
  have k1 := dq_ext g1.ext h1
  have k2 := dq_ext g1.ext h2
  have hk : ∀ (σ : L2.St) (H' : Hp), σ[0]? = some (some v1) → Gr T H1 H' → EvD K T (tOp (rIxT K) (tVar 0) (tC (.int 0))) σ H' (.str (tag so)) := fun σ H' e g => ed_tag (ed_var e (dq_ext g.ext k1)) ed_int
  have r1 : Gr T H1 H1 := .refl g1.tab
  have hd8 : dep so ≤ 8 := by omega
  have b125 := bk_le hb
  cases so with
  | mark ls =>
    refine rd_no (eb_tag (m := 1) (hk _ _ rfl r1) ed_str) (rd_no (eb_tag (m := 3) (hk _ _ rfl r1) ed_str) (rd_no (eb_tag (m := 2) (hk _ _ rfl r1) ed_str) (rd_no (eb_rows (hk _ _ rfl r1)) (beneath_tail hd hd8 hw hn hb k1 ⟨fv, [x], _, _, _, _, _, _, rfl, hf, by simp, Nat.le_refl _, fun y hy => ?_⟩))))
    rw [List.mem_singleton.mp hy]
    exact hdv
  | count =>
    have hx3 : (x : Nat) ≤ 3 := hdv
    refine rd_thru (S := Fnd K .count n v1 v2) (eb_tag (m := 1) (hk _ _ rfl r1) ed_str) (fun H2 g2 D' q => ?_) fun σ2 H2 g2 hS => ?_
    · refine s_asg ((EvL.is (el_rg (K := K) (T := T) (H := H1) (n := (x : Nat) + 1) (EvD.is (ed_I0 (d := .int ((((x : Nat) + 1 : Nat)) : Int)) (ed_var (i := 1) rfl k2) (ed_int (n := 1)) fun _ => ?_) rfl) (Nat.le_trans (Nat.succ_le_succ hx3) (by decide))) rfl).run g2 fun p ys H3 np g3 hp dp => ?_)
      · exact (show Dq K _ (.int (((x : Nat) : Int) + 1)) (.int ((((x : Nat) + 1 : Nat)) : Int)) from by rw [Int.natCast_add]; exact .int)
      · refine q _ H3 g3 ⟨.ref p, (List.range ((x : Nat) + 1) : List Nat), _, _, _, _, _, _, rfl, .lst hp dp, ?_, ?_, fun y hy => ?_⟩
        · intro z
          have := congrArg List.length z
          simp at this
        · show (List.range ((x : Nat) + 1)).length ≤ 4
          rw [List.length_range]
          exact Nat.succ_le_succ hx3
        · have hy : (y : Nat) ∈ List.range ((x : Nat) + 1) := hy
          have := List.mem_range.mp hy
          exact (show (y : Nat) ≤ 3 from Nat.le_trans (Nat.le_of_lt_succ this) hx3)
    · have hS' := hS
      obtain ⟨fv', xs, o3, o4, o5, o6, o7, o8, rfl, _⟩ := hS'
      exact rd_no (eb_tag (m := 3) (hk _ _ rfl g2) ed_str) (rd_no (eb_tag (m := 2) (hk _ _ rfl g2) ed_str) (rd_no (eb_rows (hk _ _ rfl g2)) (beneath_tail hd hd8 hw hn hb (dq_ext g2.ext k1) hS)))
  | either a b =>
    have d1 : dep a < d := by simp only [dep] at hd; omega
    have d2 : dep b < d := by simp only [dep] at hd; omega
    refine rd_no (eb_tag (m := 1) (hk _ _ rfl r1) ed_str) (rd_thru (S := Fnd K (.either a b) n v1 v2) (eb_tag (m := 3) (hk _ _ rfl r1) ed_str) (fun H2 g2 D' q => ?_) fun σ2 H2 g2 hS => ?_)
    · refine s_asg ?_
      cases x with
      | inl x =>
        refine (ep_lcM (K := K) (T := T) (H := H1) (j := 4) (vs := [4]) (G := fun us : List (Va a) => us ≠ [] ∧ us.length ≤ bc n a ∧ ∀ u ∈ us, Dv n a u) (enc a) (fun u => enc (.either a b) (.inl u)) (ed_call (K := K) (T := T) (R := RBen d) (ea_cons (ed_sub (n := 1) (ed_var (i := 0) rfl k1) (ed_I0 (d := .int ((1 : Nat) : Int)) ed_int (ed_int1 ((ed_eqS (ed_ixT (n := 0) (ed_var (i := 1) rfl k2) ed_int rfl (fun _ z => nomatch z)) ed_str).is (congrArg De.bool eqLR))) fun _ => .int) rfl) (ea_cons (ed_ixT (n := 1) (ed_var (i := 1) rfl k2) ed_int rfl (enc_nl _ _)) ea_nil)) ⟨a, x, n, rfl, d1, hw.1, hn, hdv, hb.1, rfl⟩) (fun us gu => ?_) (by intro _; rfl) fun us gu i u eu uv H3 g3 hu => ?_).run g2 fun v r H3 g3 hv hr => ?_
        · have := gu.2.1
          have := bk_le hb.1
          omega
        · exact EvD.e (ed_tup (as := [.d (.str "left"), .d (enc a u)]) (ea_cons (ed_ixT (n := 0) (ed_var (i := 1) rfl (dq_ext g3.ext k2)) ed_int rfl (fun _ z => nomatch z)) (ea_cons (ed_var (i := 4) rfl (.of hu (enc_nl _ _))) ea_nil)) rfl (by simp)) (noL_enc (.either a b) (.inl u))
        · obtain ⟨us, rfl, u1, u2, u3⟩ := hr
          refine q _ H3 g3 ⟨v, us.map Sum.inl, _, _, _, _, _, _, rfl, by rw [List.map_map]; exact hv, fun z => u1 (List.map_eq_nil_iff.mp z), ?_, fun y hy => ?_⟩
          · rw [List.length_map]
            exact Nat.le_trans u2 (Nat.le_max_left _ _)
          · obtain ⟨u, hu, rfl⟩ := List.mem_map.mp hy
            exact u3 u hu
      | inr x =>
        refine (ep_lcM (K := K) (T := T) (H := H1) (j := 4) (vs := [4]) (G := fun us : List (Va b) => us ≠ [] ∧ us.length ≤ bc n b ∧ ∀ u ∈ us, Dv n b u) (enc b) (fun u => enc (.either a b) (.inr u)) (ed_call (K := K) (T := T) (R := RBen d) (ea_cons (ed_sub (n := 2) (ed_var (i := 0) rfl k1) (ed_I0 (d := .int ((2 : Nat) : Int)) ed_int (ed_int1 ((ed_eqS (ed_ixT (n := 0) (ed_var (i := 1) rfl k2) ed_int rfl (fun _ z => nomatch z)) ed_str).is (congrArg De.bool eqRR))) fun _ => .int) rfl) (ea_cons (ed_ixT (n := 1) (ed_var (i := 1) rfl k2) ed_int rfl (enc_nl _ _)) ea_nil)) ⟨b, x, n, rfl, d2, hw.2, hn, hdv, hb.2, rfl⟩) (fun us gu => ?_) (by intro _; rfl) fun us gu i u eu uv H3 g3 hu => ?_).run g2 fun v r H3 g3 hv hr => ?_
        · have := gu.2.1
          have := bk_le hb.2
          omega
        · exact EvD.e (ed_tup (as := [.d (.str "right"), .d (enc b u)]) (ea_cons (ed_ixT (n := 0) (ed_var (i := 1) rfl (dq_ext g3.ext k2)) ed_int rfl (fun _ z => nomatch z)) (ea_cons (ed_var (i := 4) rfl (.of hu (enc_nl _ _))) ea_nil)) rfl (by simp)) (noL_enc (.either a b) (.inr u))
        · obtain ⟨us, rfl, u1, u2, u3⟩ := hr
          refine q _ H3 g3 ⟨v, us.map Sum.inr, _, _, _, _, _, _, rfl, by rw [List.map_map]; exact hv, fun z => u1 (List.map_eq_nil_iff.mp z), ?_, fun y hy => ?_⟩
          · rw [List.length_map]
            exact Nat.le_trans u2 (Nat.le_max_right _ _)
          · obtain ⟨u, hu, rfl⟩ := List.mem_map.mp hy
            exact u3 u hu
    · have hS' := hS
      obtain ⟨fv', xs, o3, o4, o5, o6, o7, o8, rfl, _⟩ := hS'
      exact rd_no (eb_tag (m := 2) (hk _ _ rfl g2) ed_str) (rd_no (eb_rows (hk _ _ rfl g2)) (beneath_tail hd hd8 hw hn hb (dq_ext g2.ext k1) hS))
  | both a b =>
    have d1 : dep a < d := by simp only [dep] at hd; omega
    have d2 : dep b < d := by simp only [dep] at hd; omega
    obtain ⟨xa, xb⟩ := x
    obtain ⟨hb1, hb2, hb3⟩ := hb
    have ba := bk_le hb1
    have bb := bk_le hb2
    refine rd_no (eb_tag (m := 1) (hk _ _ rfl r1) ed_str) (rd_no (eb_tag (m := 3) (hk _ _ rfl r1) ed_str) (rd_thru (S := Fnd K (.both a b) n v1 v2) (eb_tag (m := 2) (hk _ _ rfl r1) ed_str) (fun H2 g2 D' q => ?_) fun σ2 H2 g2 hS => ?_))
    · refine s_seq (s_par (s_cons ?_))
      refine (el_lst (K := K) (T := T) (H := H2) (as := []) (ds := []) ea_nil rfl (by simp)).toD.run (.refl g2.tab) fun ev H3 g3 hev => ?_
      refine s_cons ?_
      have g13 := g2.trans g3
      refine (ed_call (K := K) (T := T) (R := RBen d) (H := H1) (ea_cons (ed_sub (n := 2) (ed_var (i := 0) rfl k1) ed_int rfl) (ea_cons (ed_ixT (n := 1) (ed_var (i := 1) rfl k2) ed_int rfl (enc_nl _ _)) ea_nil)) ⟨b, xb, n, rfl, d2, hw.2, hn, hdv.2, hb2, rfl⟩).run g13 fun wv r H4 g4 hwv hr' => ?_
      obtain ⟨ws, rfl, w1, w2, w3⟩ := hr'
      have g14 := g13.trans g4
      refine ⟨ev, wv, rfl, ?_⟩
      dsimp only
      refine for_eachP (K := K) (T := T) (H := H1) (f := enc a) (G := fun us : List (Va a) => us ≠ [] ∧ us.length ≤ bc n a ∧ ∀ u ∈ us, Dv n a u) (ed_call (K := K) (T := T) (R := RBen d) (ea_cons (ed_sub (n := 1) (ed_var (i := 0) rfl k1) ed_int rfl) (ea_cons (ed_ixT (n := 0) (ed_var (i := 1) rfl k2) ed_int rfl (enc_nl _ _)) ea_nil)) ⟨a, xa, n, rfl, d1, hw.1, hn, hdv.1, hb1, rfl⟩) g14 fun us gus => ?_
      obtain ⟨u1, u2, u3⟩ := gus
      refine ⟨fun i σ' H' => ∃ (fv : V) (zs : List (Va (.both a b))) (o4 o5 o6 o7 o8 : Option V), σ' = [some v1, some v2, some fv, some wv, o4, o5, o6, o7, o8] ∧ Dq K H' fv (.d (.list (zs.map (enc (.both a b))))) ∧ zs.length = i * ws.length ∧ ∀ z ∈ zs, Dv n (.both a b) z, ?_, ?_, ?_⟩
      · intro H5 g5
        exact ⟨ev, [], _, _, _, _, _, rfl, dq_ext (g4.trans g5).ext hev, by simp, fun z hz => by cases hz⟩
      · rintro i u uv σ' H' eu gH ⟨fv', zs, o4, o5, o6, o7, o8, rfl, hfv, zl, hz⟩ huv D2 q2
        have hi : i < us.length := (List.getElem?_eq_some_iff.mp eu).1
        have zb : zs.length ≤ 125 * 125 := by
          rw [zl]
          exact Nat.mul_le_mul (by omega) (by omega)
        refine s_asg ((EvL.run (el_cat (K := K) (T := T) (H := H') (ed_var (i := 2) rfl hfv) (EvL.toD (el_lcM (K := K) (T := T) (j := 7) (vs := [7]) ws (enc b) (fun w => enc (.both a b) (u, w)) (ed_var (i := 3) rfl (dq_ext gH.ext hwv)) (by omega) (by intro _; rfl) fun j w' ew v' H5 g5 hv' => EvD.e (ed_tup (as := [.d (enc a u), .d (enc b w')]) (ea_cons (ed_var (i := 4) rfl (dq_ext g5.ext (.of huv (enc_nl _ _)))) (ea_cons (ed_var (i := 7) rfl (.of hv' (enc_nl _ _))) ea_nil)) rfl (by simp)) (noL_enc (.both a b) (u, w')))) (by rw [List.length_map, List.length_map]; omega)) (.refl gH.tab) fun p ys H5 np g5 hp5 dp5 => ?_))
        refine q2 _ H5 g5 ⟨.ref p, zs ++ ws.map (fun w => ((u, w) : Va (.both a b))), _, _, _, _, _, rfl, .lst hp5 (by rw [List.map_append, List.map_map]; exact dp5), by rw [List.length_append, List.length_map, zl, Nat.succ_mul], fun z hz' => ?_⟩
        rcases List.mem_append.mp hz' with h | h
        · exact hz z h
        · obtain ⟨w', hw', rfl⟩ := List.mem_map.mp h
          exact ⟨u3 u (List.mem_of_getElem? eu), w3 w' hw'⟩
      · rintro σ' H' gH ⟨fv', zs, o4, o5, o6, o7, o8, rfl, hfv, zl, hz⟩
        refine q _ H' ((g3.trans g4).trans gH) ⟨fv', zs, _, _, _, _, _, _, rfl, hfv, fun z => ?_, ?_, hz⟩
        · rw [z] at zl
          have hz0 : 0 < us.length * ws.length := Nat.mul_pos (List.length_pos_iff.mpr u1) (List.length_pos_iff.mpr w1)
          simp only [List.length_nil] at zl
          omega
        · rw [zl]
          exact Nat.mul_le_mul u2 w2
    · have hS' := hS
      obtain ⟨fv', xs, o3, o4, o5, o6, o7, o8, rfl, _⟩ := hS'
      exact rd_no (eb_rows (hk _ _ rfl g2)) (beneath_tail hd hd8 hw hn ⟨hb1, hb2, hb3⟩ (dq_ext g2.ext k1) hS)
  | lane a =>
    have d1 : dep a < d := Nat.lt_of_succ_lt_succ hd
    have xl : (x : List (Va a)).length ≤ n := hdv.1
    refine rd_no (eb_tag (m := 1) (hk _ _ rfl r1) ed_str) (rd_no (eb_tag (m := 3) (hk _ _ rfl r1) ed_str) (rd_no (eb_tag (m := 2) (hk _ _ rfl r1) ed_str) (rd_thru (S := Fnd K (.lane a) n v1 v2) (eb_rows (hk _ _ rfl r1)) (fun H2 g2 D' q => ?_) fun σ2 H2 g2 hS => ?_)))
    · refine beneath_rows (K := K) (T := T) (H := H2) (d := d) (m := min n 2) (a := a) (so := .lane a) (xs := (x : List (Va a))) d1 hw (by omega) hb.1 rfl (dq_ext g2.ext k1) (dq_ext g2.ext k2) (by omega) hdv.2 g2.tab (Nat.le_trans (pow_up xl) hb.2) D' fun σ2 H3 g3 hq => q σ2 H3 g3 ?_
      obtain ⟨fv', zs, o3, o4, o5, o6, o7, o8, e, z1, z2, z3, z4⟩ := hq
      exact ⟨fv', zs, o3, o4, o5, o6, o7, o8, e, z1, z2, Nat.le_trans z3 (pow_up xl), fun z hz => ⟨Nat.le_trans (z4 z hz).1 xl, (z4 z hz).2⟩⟩
    · exact beneath_tail hd hd8 hw hn hb (dq_ext g2.ext k1) hS
  | heap a =>
    have d1 : dep a < d := Nat.lt_of_succ_lt_succ hd
    have xl : (x : List (Va a)).length ≤ n := hdv.1
    refine rd_no (eb_tag (m := 1) (hk _ _ rfl r1) ed_str) (rd_no (eb_tag (m := 3) (hk _ _ rfl r1) ed_str) (rd_no (eb_tag (m := 2) (hk _ _ rfl r1) ed_str) (rd_thru (S := Fnd K (.heap a) n v1 v2) (eb_rows (hk _ _ rfl r1)) (fun H2 g2 D' q => ?_) fun σ2 H2 g2 hS => ?_)))
    · refine beneath_rows (K := K) (T := T) (H := H2) (d := d) (m := min n 2) (a := a) (so := .heap a) (xs := (x : List (Va a))) d1 hw (by omega) hb.1 rfl (dq_ext g2.ext k1) (dq_ext g2.ext k2) (by omega) hdv.2 g2.tab (Nat.le_trans (pow_up xl) hb.2) D' fun σ2 H3 g3 hq => q σ2 H3 g3 ?_
      obtain ⟨fv', zs, o3, o4, o5, o6, o7, o8, e, z1, z2, z3, z4⟩ := hq
      exact ⟨fv', zs, o3, o4, o5, o6, o7, o8, e, z1, z2, Nat.le_trans z3 (pow_up xl), fun z hz => ⟨Nat.le_trans (z4 z hz).1 xl, (z4 z hz).2⟩⟩
    · exact beneath_tail hd hd8 hw hn hb (dq_ext g2.ext k1) hS
end
end K16

end K16R30Text
section K16C1Text
set_option autoImplicit false
set_option linter.all false
set_option maxRecDepth 100000
set_option Elab.async false
/-! The promises, one on the other, up to the law. -/
namespace K16
open PySem PySem.Spec PyProof.Rows L2
/-- the defs as they stand -/
structure Defs (K : PySem.W.Frag) (mg : Str → Option Value) (c1 c2 c3 : Addr) : Prop where
  d_raw_holds : DefOk K mg "raw_holds" sRawHolds ["sort", "v", "u"]
  d_raw_places : DefOk K mg "raw_places" sRawPlaces ["sort", "v", "u"]
  d_rising_places : DefOk K mg "rising_places" sRisingPlaces ["sort", "v", "u"]
  d_unlike_places : DefOk K mg "unlike_places" sUnlikePlaces ["sort", "v", "u"]
  d_freed : DefOk K mg "freed" sFreed ["rows", "given", "element", "seen"]
  d_can_be_placed : DefOk K mg "can_be_placed" sCanBePlaced ["rows"]
  d_value_key : DefOk K mg "value_key" sValueKey ["sort", "value"]
  d_is_number : DefOk K mg "is_number" sIsNumber ["value", "most"]
  d_is_pair : DefOk K mg "is_pair" sIsPair ["value"]
  d_is_side : DefOk K mg "is_side" sIsSide ["value"]
  d_bad_place : DefOk K mg "bad_place" sBadPlace ["sort", "data"]
  d_is_formed : DefOk K mg "is_formed" sIsFormed ["sort", "value"]
  d_is_in : DefOk K mg "is_in" sIsIn ["sort", "some", "v"]
  d_contains : DefOk K mg "contains" sContains ["sort", "some", "others"]
  d_least : DefOk K mg "least" sLeast ["sort", "some"]
  d_together : DefOk K mg "together" sTogether ["sort", "some", "others"]
  d_lane_ways : DefOk K mg "lane_ways" sLaneWays ["sort", "v", "u"]
  d_ways : DefOk K mg "ways" sWays ["sort", "v", "u"]
  d_heap_ways : DefOk K mg "heap_ways" sHeapWays ["sort", "v", "u"]
  d_one_form : DefOk K mg "one_form" sOneForm ["sort", "data"]
  d_lanes_held : DefOk K mg "lanes_held" sLanesHeld ["sort", "v", "u"]
  d_heaps_held : DefOk K mg "heaps_held" sHeapsHeld ["sort", "v", "u"]
  d_raw_both : DefOk K mg "raw_both" sRawBoth ["sort", "v", "u"]
  d_both_held : DefOk K mg "both_held" sBothHeld ["sort", "v", "u"]
  d_common : DefOk K mg "common" sCommon ["sort", "some", "others"]
  d__law_key : DefOk K mg "_law_key" sLawKey ["_law_sort", "_law_v"]
  d__law_given : DefOk K mg "_law_given" sLawGiven ["_law_sort", "_law_some_here", "_law_asked"]
  d__law_holds : DefOk K mg "_law_holds" sLawHolds ["_law_sort", "_law_v", "_law_u"]
  d__law_open_cells : DefOk K mg "_law_open_cells" sLawOpenCells ["_law_script"]
  d__law_pick : DefOk K mg "_law_pick" sLawPick ["_law_source", "_law_many"]
  d__law_much : DefOk K mg "_law_much" sLawMuch ["_law_sort"]
  d__law_draw_sort : DefOk K mg "_law_draw_sort" sLawDrawSort ["_law_source"]
  d__law_draw_value : DefOk K mg "_law_draw_value" sLawDrawValue ["_law_source", "_law_sort", "_law_most"]
  d__law_met : DefOk K mg "_law_met" sLawMet ["_law_sort", "_law_some_here", "_law_others"]
  d__law_some : DefOk K mg "_law_some" sLawSome ["_law_source", "_law_sort"]
  d_sorted_values : DefOkC K mg "sorted_values" sSortedValues ["sort", "values"] c1
  d__law_formed : DefOkC K mg "_law_formed" sLawFormed ["_law_sort", "_law_v"] c2
  d__law_beneath : DefOkC K mg "_law_beneath" sLawBeneath ["_law_sort", "_law_v"] c3
section
variable {P : Program} {w : World} {K : PySem.W.Frag} {mg : Str → Option Value} {base : Heap} {T : Tb} {aS CF c1 c2 c3 P1 P2 P3 : Addr} {x : Str} {st : Stmt} {ps : List Str} {c : Addr} {j k : Nat} {sp : Sp}
theorem HasX.mono (h : HasX P w K mg base j x ps sp) (hj : j ≤ k) : HasX P w K mg base k x ps sp := by
  obtain ⟨f, fd, h1, h2, h3, h4⟩ := h
  exact ⟨f, fd, h1, h2, h3, h4.mono hj⟩
theorem DefOkC.none (D : DefOkC K mg x st ps c) (h : ∀ vs H Q E, ¬ sp vs H Q E) : Has P w K mg base 0 x ps sp := by
  obtain ⟨f, oc, od, kV, doc, pm, an, ct, osl, l, cd, kp, b, g⟩ := D.ex
  exact ⟨f, _, g, kp, b, ⟨fun vs H Q E z => absurd z (h vs H Q E), fun A outer s H args us vs Q E _ _ _ _ z => absurd z (h vs H Q E)⟩⟩
variable (F : Defs K mg c1 c2 c3) (M : Bi mg) (C : Cn K mg aS) (kS : ∀ H, Kn K H aS ["left", "right"]) (L1 : LamOk T base mg c1 P1 (lamQ "sorted_values")) (L2' : LamOk T base mg c2 P2 (lamQ "_law_formed")) (L3 : LamOk T base mg c3 P3 (lamQ "_law_beneath")) (TM : Tm K mg CF)
include F M C kS L1 L2' L3 TM
theorem c_key : ∀ d : Nat, d ≤ 5 → Has P w K mg base (d) "value_key" ["sort", "value"] (spOf T K (RKey d))
  | 0, _ => ((F.d_value_key.pure0 fun ds Pd h => by
      obtain ⟨s, x, rfl, hd, _⟩ := h
      exact absurd hd (Nat.not_lt_zero _)).mono (by omega))
  | d + 1, hd => hasValueKey d F.d_value_key M C kS (c_key d (by omega))
theorem c_sort (d : Nat) (hd : d ≤ 5) : Has P w K mg base (d + 4) "sorted_values" ["sort", "values"] (spOf T K (RSort d)) := hasSortedValues d (by omega) F.d_sorted_values M L1 (c_key F M C kS L1 L2' L3 TM d hd)
theorem c_sortN (d : Nat) (hd : d ≤ 5) : Has P w K mg base (d + 4) "sorted_values" ["sort", "values"] (spN T K (RSortN d)) := hasSortedValuesN d (by omega) F.d_sorted_values M L1 (c_key F M C kS L1 L2' L3 TM d hd)
theorem c_freed : ∀ k : Nat, Has P w K mg base (k) "freed" ["rows", "given", "element", "seen"] (spFreed T k)
  | 0 => F.d_freed.none fun vs H Q E h => by
      obtain ⟨_, R, G, S, xs, rows, gv, e, s, n, _, _, _, _, _, _, _, _, _, _, _, h, _⟩ := h
      exact absurd h (Nat.not_lt_zero _)
  | k + 1 => hasFreed k F.d_freed (c_freed k)
theorem c_can : Has P w K mg base (11) "can_be_placed" ["rows"] (spCan T) := hasCanBePlaced F.d_can_be_placed M fun k _ => c_freed F M C kS L1 L2' L3 TM k
theorem c_holds : ∀ d : Nat, d ≤ 5 → Has P w K mg base (11 + 3 * d) "raw_holds" ["sort", "v", "u"] (spOf T K (RHolds d))
  | 0, _ => ((F.d_raw_holds.pure0 fun ds Pd h => by
      obtain ⟨s, x, y, rfl, hd, _⟩ := h
      exact absurd hd (Nat.not_lt_zero _)).mono (by omega))
  | d + 1, hd => by
    have h := c_holds d (by omega)
    have p := hasRawPlaces d F.d_raw_places (hasRisingPlaces d F.d_rising_places M h) (hasUnlikePlaces d F.d_unlike_places M h (c_can F M C kS L1 L2' L3 TM))
    exact (hasRawHolds d F.d_raw_holds C kS h p).mono (by omega)
theorem c_in (d : Nat) (hd : d ≤ 5) : Has P w K mg base (12 + 3 * d) "is_in" ["sort", "some", "v"] (spOf T K (RIn d)) := hasIsIn d F.d_is_in M (c_holds F M C kS L1 L2' L3 TM d hd)
theorem c_cont (d : Nat) (hd : d ≤ 5) : Has P w K mg base (13 + 3 * d) "contains" ["sort", "some", "others"] (spOf T K (RCont d)) := hasContains d F.d_contains M (c_in F M C kS L1 L2' L3 TM d hd)
theorem c_least (d : Nat) (hd : d ≤ 5) : Has P w K mg base (13 + 3 * d) "least" ["sort", "some"] (spOf T K (RLeast d)) := hasLeast d F.d_least M (c_holds F M C kS L1 L2' L3 TM d hd) (c_in F M C kS L1 L2' L3 TM d hd) (c_sort F M C kS L1 L2' L3 TM d hd)
theorem c_leastN (d : Nat) (hd : d ≤ 5) : Has P w K mg base (13 + 3 * d) "least" ["sort", "some"] (spN T K (RLeastN d)) := hasLeastN d F.d_least M (c_holds F M C kS L1 L2' L3 TM d hd) (c_in F M C kS L1 L2' L3 TM d hd) (c_sortN F M C kS L1 L2' L3 TM d hd)
theorem c_formed (d : Nat) (hd : d ≤ 5) : Has P w K mg base (d + 5) "is_formed" ["sort", "value"] (spOf T K (RForm d)) := by
  have p := hasIsPair (P := P) (w := w) (base := base) (T := T) F.d_is_pair M
  have s := hasIsSide F.d_is_side M C p
  have b := hasBadPlace (P := P) (w := w) (base := base) (T := T) F.d_bad_place M C (hasIsNumber F.d_is_number M)
  induction d with
  | zero => exact ((F.d_is_formed.pure0 fun ds Pd h => by
      obtain ⟨s, x, rfl, hd, _⟩ := h
      exact absurd hd (Nat.not_lt_zero _)).mono (by omega))
  | succ d ih => exact hasIsFormed d (by omega) F.d_is_formed M C kS p s b (c_sort F M C kS L1 L2' L3 TM d (by omega)) (ih (by omega))
theorem c_ways : ∀ d : Nat, d ≤ 5 → Has P w K mg base (2 * d) "ways" ["sort", "v", "u"] (spOf T K (RWays d))
  | 0, _ => ((F.d_ways.pure0 fun ds Pd h => by
      obtain ⟨s, x, y, rfl, hd, _⟩ := h
      exact absurd hd (Nat.not_lt_zero _)).mono (by omega))
  | d + 1, hd => by
    have h := c_ways d (by omega)
    exact (hasWays d (2 * d) F.d_ways C kS h (hasLaneWays d (2 * d) F.d_lane_ways M h) (hasHeapWays d (2 * d) F.d_heap_ways M h)).mono (by omega)
theorem c_one : ∀ d : Nat, d ≤ 5 → Has P w K mg base (d + 5) "one_form" ["sort", "data"] (spOf T K (ROne d))
  | 0, _ => ((F.d_one_form.pure0 fun ds Pd h => by
      obtain ⟨s, x, rfl, hd, _⟩ := h
      exact absurd hd (Nat.not_lt_zero _)).mono (by omega))
  | d + 1, hd => hasOneForm d F.d_one_form M C kS (c_one d (by omega)) (c_sort F M C kS L1 L2' L3 TM d (by omega))
theorem c_both : ∀ d : Nat, d ≤ 4 → Has P w K mg base (20 + 3 * d) "raw_both" ["sort", "v", "u"] (spOf T K (RBoth d))
  | 0, _ => ((F.d_raw_both.pure0 fun ds Pd h => by
      obtain ⟨s, x, y, rfl, hd, _⟩ := h
      exact absurd hd (Nat.not_lt_zero _)).mono (by omega))
  | d + 1, hd => by
    have h := c_both d (by omega)
    have l := (c_leastN (P := P) (w := w) F M C kS L1 L2' L3 TM (d + 1) (by omega)).mono (k := 16 + 3 * d) (by omega)
    have m := (c_least (P := P) (w := w) F M C kS L1 L2' L3 TM (d + 1) (by omega)).mono (k := 16 + 3 * d) (by omega)
    have a := hasLanesHeld d F.d_lanes_held M h l
    have b := hasHeapsHeld d (by omega) F.d_heaps_held M h (c_one F M C kS L1 L2' L3 TM (d + 1) (by omega)) m
    exact (hasRawBoth d F.d_raw_both C M kS h a b).mono (by omega)
theorem c_bh : HasX P w K mg base (30) "both_held" ["sort", "v", "u"] (spX T K CF (RBothX 3)) := hasBothHeld 3 29 F.d_both_held C M TM ((c_ways F M C kS L1 L2' L3 TM 3 (by omega)).mono (by omega)) (c_both F M C kS L1 L2' L3 TM 3 (by omega)) ((c_formed F M C kS L1 L2' L3 TM 3 (by omega)).mono (by omega))
theorem c_met : Has P w K mg base (32) "_law_met" ["_law_sort", "_law_some_here", "_law_others"] (spMet T K (RCom 3)) := hasMet 3 31 F.d__law_met TM (hasCommon 3 29 (by omega) F.d_common C M TM (c_bh F M C kS L1 L2' L3 TM) (c_leastN F M C kS L1 L2' L3 TM 3 (by omega)))
theorem c_lkey : ∀ d : Nat, d ≤ 5 → Has P w K mg base (d) "_law_key" ["_law_sort", "_law_v"] (spOf T K (RLKey d))
  | 0, _ => ((F.d__law_key.pure0 fun ds Pd h => by
      obtain ⟨s, x, rfl, hd, _⟩ := h
      exact absurd hd (Nat.not_lt_zero _)).mono (by omega))
  | d + 1, hd => hasLawKey d F.d__law_key M (c_lkey d (by omega))
theorem c_lform : ∀ d : Nat, d ≤ 5 → Has P w K mg base (d + 4) "_law_formed" ["_law_sort", "_law_v"] (spOf T K (RLForm d))
  | 0, _ => ((F.d__law_formed.none fun vs H Q E h => by
      obtain ⟨_, ds, Pd, _, hR, _⟩ := h
      obtain ⟨s, x, rfl, hd, _⟩ := hR
      exact absurd hd (Nat.not_lt_zero _)).mono (by omega))
  | d + 1, hd => (hasLawFormed d (by omega) F.d__law_formed M L2' (c_lkey F M C kS L1 L2' L3 TM d (by omega)) (c_lform d (by omega))).mono (by omega)
theorem c_lgiven (d k : Nat) (h : Has P w K mg base (k) "_law_holds" ["_law_sort", "_law_v", "_law_u"] (spOf T K (RLHolds d))) : ∀ n : Nat, Has P w K mg base (k + n) "_law_given" ["_law_sort", "_law_some_here", "_law_asked"] (spOf T K (RLGiven d n))
  | 0 => ((F.d__law_given.pure0 fun ds Pd h => by
      obtain ⟨a, v, u, rfl, _, _, _, _, hd, _⟩ := h
      exact absurd hd (Nat.not_lt_zero _)).mono (by omega))
  | n + 1 => hasLawGiven d n k F.d__law_given M h (c_lgiven d k h n)
theorem c_lholds : ∀ d : Nat, d ≤ 5 → Has P w K mg base (10 * d) "_law_holds" ["_law_sort", "_law_v", "_law_u"] (spOf T K (RLHolds d))
  | 0, _ => ((F.d__law_holds.pure0 fun ds Pd h => by
      obtain ⟨s, x, y, rfl, hd, _⟩ := h
      exact absurd hd (Nat.not_lt_zero _)).mono (by omega))
  | d + 1, hd => by
    have h := c_lholds d (by omega)
    exact (hasLawHolds d (10 * d) F.d__law_holds M h (c_lgiven F M C kS L1 L2' L3 TM d (10 * d) h 9)).mono (by omega)
theorem c_draw : ∀ d : Nat, d ≤ 4 → Has P w K mg base (d + 6) "_law_draw_value" ["_law_source", "_law_sort", "_law_most"] (spS T K (RDrawV d))
  | 0, _ => ((F.d__law_draw_value.none fun vs H Q E h => by
      obtain ⟨_, D, C, us, ds, Pd, _, _, _, hR, _⟩ := h
      obtain ⟨s, n, rfl, _, hd, _⟩ := hR
      exact absurd hd (Nat.not_lt_zero _)).mono (by omega))
  | d + 1, hd => hasDrawValue d F.d__law_draw_value M (hasPick F.d__law_pick M) (c_draw d (by omega)) ((c_lform F M C kS L1 L2' L3 TM (d + 1) (by omega)).mono (by omega))
theorem c_ben : ∀ d : Nat, d ≤ 4 → Has P w K mg base (d + 6) "_law_beneath" ["_law_sort", "_law_v"] (spOf T K (RBen d))
  | 0, _ => ((F.d__law_beneath.none fun vs H Q E h => by
      obtain ⟨_, ds, Pd, _, hR, _⟩ := h
      obtain ⟨s, x, n, rfl, hd, _⟩ := hR
      exact absurd hd (Nat.not_lt_zero _)).mono (by omega))
  | d + 1, hd => hasBeneath d (by omega) F.d__law_beneath M L3 (c_lkey F M C kS L1 L2' L3 TM (d + 1) (by omega)) ((c_lform F M C kS L1 L2' L3 TM (d + 1) (by omega)).mono (by omega)) (c_ben d (by omega))
theorem c_law {fL : Addr} {fdL : FuncData} (FL : Fun K "law" "law" sLaw fL fdL) : FnOk P w K mg base CX0 33 fL fdL ["_law_script"] (spLaw T K) := by
  have pk := hasPick (P := P) (w := w) (K := K) (base := base) (T := T) F.d__law_pick M
  have dv := c_draw (P := P) (w := w) F M C kS L1 L2' L3 TM 3 (by omega)
  exact hasLaw (CF := CF) 32 FL M ((hasOpenCells F.d__law_open_cells M).mono (by omega)) ((hasDrawSort F.d__law_draw_sort pk).mono (by omega)) ((hasSome 3 9 (by omega) F.d__law_some M pk (hasMuch F.d__law_much) dv).mono (by omega))
    ((hasTogetherN 3 F.d_together M (c_leastN F M C kS L1 L2' L3 TM 3 (by omega))).mono (by omega)) (c_met F M C kS L1 L2' L3 TM) ((c_ben F M C kS L1 L2' L3 TM 3 (by omega)).mono (by omega)) (dv.mono (by omega)) ((c_in F M C kS L1 L2' L3 TM 3 (by omega)).mono (by omega)) ((c_least F M C kS L1 L2' L3 TM 3 (by omega)).mono (by omega)) ((c_cont F M C kS L1 L2' L3 TM 3 (by omega)).mono (by omega)) ((c_lholds F M C kS L1 L2' L3 TM 3 (by omega)).mono (by omega)) ((c_bh F M C kS L1 L2' L3 TM).mono (by omega))
end
end K16

end K16C1Text
section K16E2Text
set_option autoImplicit false
set_option linter.all false
set_option maxRecDepth 100000
set_option Elab.async false
/-! The end. -/
namespace K16
open PySem PySem.Spec PyProof.Rows L2
/-- an error of the class at S is what «except S» names -/
theorem exm_own {K : PySem.W.Frag} {S : Addr} (h1 : PySem.W.subIn K (.ref S) (.type "BaseException") = some true) (h2 : PySem.W.isClsIn K S = true) (h3 : PySem.W.typeIn K (.ref S) = some (.type "type")) (h4 : PySem.W.subIn K (.ref S) (.ref S) = some true) : PySem.W.exmOne K (.ref S) (.ref S) = some true := by
  have z1 : (PySem.W.subIn K (.ref S) (.type "BaseException") == some true) = true := by rw [h1]; rfl
  have z0 : (PySem.W.clsIn K S).isSome = true := h2
  have z2 : ((PySem.W.clsIn K S).isSome && PySem.W.typeIn K (.ref S) == some (.type "type")) = true := by rw [z0, h3]; rfl
  show ite _ (ite _ _ _) _ = _
  rw [if_pos z1, if_pos z2]
  exact h4
section
variable {K : PySem.W.Frag} {h : Heap} {mg : Str → Option Value} {x : Str} {st : Stmt} {ps : List Str} {f c : Addr} {oc kV dc pm cd ct : Value} {od an : Option Addr} {sl : Array (Option Value)}
theorem dk (X : K.In h) (G : h.Ns mainGlobals mg) (a : PySem.W.nsIn K mainGlobals x = some (some (.ref f))) (l : K.lookup f = some ⟨oc, od, .func (PySem.W.fnOf x x (defArgs st) (defBody st) (defScope st) .none kV dc pm an cd ct), sl⟩) (hc : PySem.W.codeIn K cd x = true) (k : PySem.W.keepIn K (.ref f) = true)
    (hb : ∀ (kV doc pm : Value) (an : Option Addr) (cdv ct : Value) (us : List Value), us.length = ps.length → bindArgs (PySem.W.fnOf x x (defArgs st) (defBody st) (defScope st) .none kV doc pm an cdv ct) ⟨us, []⟩ = pure (ps.zip us)) : DefOk K mg x st ps :=
  ⟨f, _, fun_mk l hc k, (fun_mk l hc k).binds hb, PySem.W.mg_of X G a⟩
theorem dkC (X : K.In h) (G : h.Ns mainGlobals mg) (a : PySem.W.nsIn K mainGlobals x = some (some (.ref f))) (l : K.lookup f = some ⟨oc, od, .func (PySem.W.fnOf x x (defArgs st) (defBody st) (defScope st) .none kV dc pm an (.ref c) ct), sl⟩) (hc : PySem.W.codeIn K (.ref c) x = true) (k : PySem.W.keepIn K (.ref f) = true)
    (hb : ∀ (kV doc pm : Value) (an : Option Addr) (cdv ct : Value) (us : List Value), us.length = ps.length → bindArgs (PySem.W.fnOf x x (defArgs st) (defBody st) (defScope st) .none kV doc pm an cdv ct) ⟨us, []⟩ = pure (ps.zip us)) : DefOkC K mg x st ps c :=
  ⟨f, _, _, _, _, _, _, _, _, l, hc, k, (fun_mk l hc k).binds hb, PySem.W.mg_of X G a⟩
/-- the three code objects that make a lambda, their tables -/
def tbT : Tb := [(80, lamQ "sorted_values"), (220, lamQ "_law_formed"), (239, lamQ "_law_beneath")]
theorem tabs_start {H : Hp} (hH : ∀ p ∈ tbT, H p.1 = some (.tbl #[])) : LamX.Tabs tbT H := fun p hp => ⟨#[], hH p hp, by trivial, fun pos cv e => by simp [codeAmong] at e⟩
theorem tb_uniq : ∀ p ∈ tbT, ∀ q ∈ tbT, q.1 = p.1 → q.2 = p.2 := by decide +kernel
variable {w : World} {fa aS CF c1 c2 c3 : Addr} {l : PySem.W.OpenLaw}
theorem law_at (X : K.In h) (G : h.Ns mainGlobals mg) (hfa : mg "law" = some (.ref fa)) (F : Defs K mg c1 c2 c3) (M : Bi mg) (C : Cn K mg aS) (kS : ∀ H, Kn K H aS ["left", "right"]) (TM : Tm K mg CF) (a : PySem.W.nsIn K mainGlobals "law" = some (some (.ref f)))
    (lk : K.lookup f = some ⟨oc, od, .func (PySem.W.fnOf "law" "law" (defArgs sLaw) (defBody sLaw) (defScope sLaw) .none kV dc pm an cd ct), sl⟩) (hc : PySem.W.codeIn K cd "law" = true) (k : PySem.W.keepIn K (.ref f) = true)
    (t1 : PySem.W.codeHdIn K c1 80 = true) (t2 : PySem.W.codeHdIn K c2 220 = true) (t3 : PySem.W.codeHdIn K c3 239 = true) (n1 : K.lookup 80 = none) (n2 : K.lookup 220 = none) (n3 : K.lookup 239 = none) (e1 : h.get? 80 = some { cls := .none, data := .fields #[] }) (e2 : h.get? 220 = some { cls := .none, data := .fields #[] }) (e3 : h.get? 239 = some { cls := .none, data := .fields #[] }) :
    LamX.LawAtS l w K CX0 33 63 "_law_script" mg fa h := by
  have e := hfa.symm.trans (PySem.W.mg_of X G a)
  cases e
  have FL := fun_mk (st := sLaw) lk hc k
  have all3 : ∀ {R : Addr × Addr → Prop}, R (c1, 80) → R (c2, 220) → R (c3, 239) → ∀ p ∈ [(c1, 80), (c2, 220), (c3, 239)], R p := fun {R} r1 r2 r3 p hp => by
    simp only [List.mem_cons, List.not_mem_nil, or_false] at hp
    rcases hp with rfl | rfl | rfl
    · exact r1
    · exact r2
    · exact r3
  refine ⟨PySem.W.fnOf "law" "law" (defArgs sLaw) (defBody sLaw) (defScope sLaw) .none kV dc pm an cd ct, [(c1, 80), (c2, 220), (c3, 239)], spLaw tbT K, all3 e1 e2 e3, all3 n1 n2 n3, all3 (PySem.W.codeHd_of_K X t1) (PySem.W.codeHd_of_K X t2) (PySem.W.codeHd_of_K X t3), fun s u => .of_eq rfl, fun H p ns hl _ hH hS => ?_, fun base _ _ TB => ?_⟩
  · refine ⟨tabs_start fun p hp => ?_, p, ns, rfl, hS, by omega, fun _ => rfl⟩
    simp only [tbT, List.mem_cons, List.not_mem_nil, or_false] at hp
    rcases hp with rfl | rfl | rfl
    · exact hH (c1, 80) (by simp)
    · exact hH (c2, 220) (by simp)
    · exact hH (c3, 239) (by simp)
  · have m1 : (80, lamQ "sorted_values") ∈ tbT := by simp [tbT]
    have m2 : (220, lamQ "_law_formed") ∈ tbT := by simp [tbT]
    have m3 : (239, lamQ "_law_beneath") ∈ tbT := by simp [tbT]
    exact c_law (T := tbT) F M C kS ⟨TB (c1, 80) (by simp), m1, fun p hp e => tb_uniq _ m1 p hp e⟩ ⟨TB (c2, 220) (by simp), m2, fun p hp e => tb_uniq _ m2 p hp e⟩ ⟨TB (c3, 239) (by simp), m3, fun p hp e => tb_uniq _ m3 p hp e⟩ TM FL
/-- the pair of words -/
theorem sides_kn {t1 t2 : Tok} {n : Nat} (l : K.lookup aS = some ⟨.type "tuple", none, .seq #[.str "left" t1, .str "right" t2] n, sl⟩) : ∀ H, Kn K H aS ["left", "right"] := fun H =>
  .inr ⟨.inr ⟨_, _, n, l, rfl, rfl, by simp [sizeLine], .cons ⟨t1, rfl⟩ (.cons ⟨t2, rfl⟩ .nil)⟩, _, l, rfl, rfl⟩
theorem int_of {n : Int} {t : Tok} (X : K.In h) (G : h.Ns mainGlobals mg) (e : PySem.W.nsIn K mainGlobals x = some (some (.int n t))) : ∃ t, mg x = some (.int n t) := ⟨t, PySem.W.mg_of X G e⟩
theorem sides_sq {t1 t2 : Tok} {n : Nat} (l : K.lookup aS = some ⟨.type "tuple", none, .seq #[.str "left" t1, .str "right" t2] n, sl⟩) : ∀ H, SqT K H aS [.str "left", .str "right"] := fun H => (sides_kn l H).sq
end
end K16

end K16E2Text
section K16E3Text
open PySem PySem.W PyProof.Rows K16
set_option pp.maxSteps 300
set_option pp.deepTerms false
set_option maxRecDepth 100000 in
set_option maxHeartbeats 0 in
theorem PySem.Challenge.cw_lossbars_k16_whole_up_sets_by_their_valu_holds : PySem.Challenge.rw_lossbars_k16_whole_up_sets_by_their_valu.Holds := by
  w_on; o_law; k_head; (case hw => w_witness2)
  k_fill
  refine LamX.walk_ofTs (l := PySem.Challenge.rw_lossbars_k16_whole_up_sets_by_their_valu) (n := 63) (k := 33) (x := "_law_script") (CX := fun _ => L2.CX0) rfl (by decide) rfl ⟨rfl, by decide, by decide⟩ (fun w h Y => PySem.W.km_in_of Y) ?qFF (fun _ _ _ _ _ z => z)
  case qFF =>
    intro w mg fa h Y KX G hmg
    have hT := PySem.W.km_tabs_of Y
    refine' K16.law_at KX G hmg ?qD ?qM ?qC ?qkS ?qTM ?qla ?qll ?qlc ?qlk ?qt1 ?qt2 ?qt3 ?qn1 ?qn2 ?qn3 ?qe1 ?qe2 ?qe3
    case qla => k_is
    case qll => k_is
    case qlc => k_is
    case qlk => k_is
    case qD =>
      refine' { d_raw_holds := ?qd_raw_holds, d_raw_places := ?qd_raw_places, d_rising_places := ?qd_rising_places, d_unlike_places := ?qd_unlike_places, d_freed := ?qd_freed, d_can_be_placed := ?qd_can_be_placed, d_value_key := ?qd_value_key, d_is_number := ?qd_is_number, d_is_pair := ?qd_is_pair, d_is_side := ?qd_is_side, d_bad_place := ?qd_bad_place, d_is_formed := ?qd_is_formed, d_is_in := ?qd_is_in, d_contains := ?qd_contains, d_least := ?qd_least, d_together := ?qd_together, d_lane_ways := ?qd_lane_ways, d_ways := ?qd_ways, d_heap_ways := ?qd_heap_ways, d_one_form := ?qd_one_form, d_lanes_held := ?qd_lanes_held, d_heaps_held := ?qd_heaps_held, d_raw_both := ?qd_raw_both, d_both_held := ?qd_both_held, d_common := ?qd_common, d__law_key := ?qd__law_key, d__law_given := ?qd__law_given, d__law_holds := ?qd__law_holds, d__law_open_cells := ?qd__law_open_cells, d__law_pick := ?qd__law_pick, d__law_much := ?qd__law_much, d__law_draw_sort := ?qd__law_draw_sort, d__law_draw_value := ?qd__law_draw_value, d__law_met := ?qd__law_met, d__law_some := ?qd__law_some, d_sorted_values := ?qd_sorted_values, d__law_formed := ?qd__law_formed, d__law_beneath := ?qd__law_beneath }
      case qd_raw_holds =>
        refine' K16.dk KX G ?qa ?ql ?qc ?qk ?qb
        case qa => k_is
        case ql => k_is
        case qc => k_is
        case qk => k_is
        case qb => exact fun _ _ _ _ _ _ us hl => match us, hl with | [_, _, _], _ => rfl
      case qd_raw_places =>
        refine' K16.dk KX G ?qa ?ql ?qc ?qk ?qb
        case qa => k_is
        case ql => k_is
        case qc => k_is
        case qk => k_is
        case qb => exact fun _ _ _ _ _ _ us hl => match us, hl with | [_, _, _], _ => rfl
      case qd_rising_places =>
        refine' K16.dk KX G ?qa ?ql ?qc ?qk ?qb
        case qa => k_is
        case ql => k_is
        case qc => k_is
        case qk => k_is
        case qb => exact fun _ _ _ _ _ _ us hl => match us, hl with | [_, _, _], _ => rfl
      case qd_unlike_places =>
        refine' K16.dk KX G ?qa ?ql ?qc ?qk ?qb
        case qa => k_is
        case ql => k_is
        case qc => k_is
        case qk => k_is
        case qb => exact fun _ _ _ _ _ _ us hl => match us, hl with | [_, _, _], _ => rfl
      case qd_freed =>
        refine' K16.dk KX G ?qa ?ql ?qc ?qk ?qb
        case qa => k_is
        case ql => k_is
        case qc => k_is
        case qk => k_is
        case qb => exact fun _ _ _ _ _ _ us hl => match us, hl with | [_, _, _, _], _ => rfl
      case qd_can_be_placed =>
        refine' K16.dk KX G ?qa ?ql ?qc ?qk ?qb
        case qa => k_is
        case ql => k_is
        case qc => k_is
        case qk => k_is
        case qb => exact fun _ _ _ _ _ _ us hl => match us, hl with | [_], _ => rfl
      case qd_value_key =>
        refine' K16.dk KX G ?qa ?ql ?qc ?qk ?qb
        case qa => k_is
        case ql => k_is
        case qc => k_is
        case qk => k_is
        case qb => exact fun _ _ _ _ _ _ us hl => match us, hl with | [_, _], _ => rfl
      case qd_is_number =>
        refine' K16.dk KX G ?qa ?ql ?qc ?qk ?qb
        case qa => k_is
        case ql => k_is
        case qc => k_is
        case qk => k_is
        case qb => exact fun _ _ _ _ _ _ us hl => match us, hl with | [_, _], _ => rfl
      case qd_is_pair =>
        refine' K16.dk KX G ?qa ?ql ?qc ?qk ?qb
        case qa => k_is
        case ql => k_is
        case qc => k_is
        case qk => k_is
        case qb => exact fun _ _ _ _ _ _ us hl => match us, hl with | [_], _ => rfl
      case qd_is_side =>
        refine' K16.dk KX G ?qa ?ql ?qc ?qk ?qb
        case qa => k_is
        case ql => k_is
        case qc => k_is
        case qk => k_is
        case qb => exact fun _ _ _ _ _ _ us hl => match us, hl with | [_], _ => rfl
      case qd_bad_place =>
        refine' K16.dk KX G ?qa ?ql ?qc ?qk ?qb
        case qa => k_is
        case ql => k_is
        case qc => k_is
        case qk => k_is
        case qb => exact fun _ _ _ _ _ _ us hl => match us, hl with | [_, _], _ => rfl
      case qd_is_formed =>
        refine' K16.dk KX G ?qa ?ql ?qc ?qk ?qb
        case qa => k_is
        case ql => k_is
        case qc => k_is
        case qk => k_is
        case qb => exact fun _ _ _ _ _ _ us hl => match us, hl with | [_, _], _ => rfl
      case qd_is_in =>
        refine' K16.dk KX G ?qa ?ql ?qc ?qk ?qb
        case qa => k_is
        case ql => k_is
        case qc => k_is
        case qk => k_is
        case qb => exact fun _ _ _ _ _ _ us hl => match us, hl with | [_, _, _], _ => rfl
      case qd_contains =>
        refine' K16.dk KX G ?qa ?ql ?qc ?qk ?qb
        case qa => k_is
        case ql => k_is
        case qc => k_is
        case qk => k_is
        case qb => exact fun _ _ _ _ _ _ us hl => match us, hl with | [_, _, _], _ => rfl
      case qd_least =>
        refine' K16.dk KX G ?qa ?ql ?qc ?qk ?qb
        case qa => k_is
        case ql => k_is
        case qc => k_is
        case qk => k_is
        case qb => exact fun _ _ _ _ _ _ us hl => match us, hl with | [_, _], _ => rfl
      case qd_together =>
        refine' K16.dk KX G ?qa ?ql ?qc ?qk ?qb
        case qa => k_is
        case ql => k_is
        case qc => k_is
        case qk => k_is
        case qb => exact fun _ _ _ _ _ _ us hl => match us, hl with | [_, _, _], _ => rfl
      case qd_lane_ways =>
        refine' K16.dk KX G ?qa ?ql ?qc ?qk ?qb
        case qa => k_is
        case ql => k_is
        case qc => k_is
        case qk => k_is
        case qb => exact fun _ _ _ _ _ _ us hl => match us, hl with | [_, _, _], _ => rfl
      case qd_ways =>
        refine' K16.dk KX G ?qa ?ql ?qc ?qk ?qb
        case qa => k_is
        case ql => k_is
        case qc => k_is
        case qk => k_is
        case qb => exact fun _ _ _ _ _ _ us hl => match us, hl with | [_, _, _], _ => rfl
      case qd_heap_ways =>
        refine' K16.dk KX G ?qa ?ql ?qc ?qk ?qb
        case qa => k_is
        case ql => k_is
        case qc => k_is
        case qk => k_is
        case qb => exact fun _ _ _ _ _ _ us hl => match us, hl with | [_, _, _], _ => rfl
      case qd_one_form =>
        refine' K16.dk KX G ?qa ?ql ?qc ?qk ?qb
        case qa => k_is
        case ql => k_is
        case qc => k_is
        case qk => k_is
        case qb => exact fun _ _ _ _ _ _ us hl => match us, hl with | [_, _], _ => rfl
      case qd_lanes_held =>
        refine' K16.dk KX G ?qa ?ql ?qc ?qk ?qb
        case qa => k_is
        case ql => k_is
        case qc => k_is
        case qk => k_is
        case qb => exact fun _ _ _ _ _ _ us hl => match us, hl with | [_, _, _], _ => rfl
      case qd_heaps_held =>
        refine' K16.dk KX G ?qa ?ql ?qc ?qk ?qb
        case qa => k_is
        case ql => k_is
        case qc => k_is
        case qk => k_is
        case qb => exact fun _ _ _ _ _ _ us hl => match us, hl with | [_, _, _], _ => rfl
      case qd_raw_both =>
        refine' K16.dk KX G ?qa ?ql ?qc ?qk ?qb
        case qa => k_is
        case ql => k_is
        case qc => k_is
        case qk => k_is
        case qb => exact fun _ _ _ _ _ _ us hl => match us, hl with | [_, _, _], _ => rfl
      case qd_both_held =>
        refine' K16.dk KX G ?qa ?ql ?qc ?qk ?qb
        case qa => k_is
        case ql => k_is
        case qc => k_is
        case qk => k_is
        case qb => exact fun _ _ _ _ _ _ us hl => match us, hl with | [_, _, _], _ => rfl
      case qd_common =>
        refine' K16.dk KX G ?qa ?ql ?qc ?qk ?qb
        case qa => k_is
        case ql => k_is
        case qc => k_is
        case qk => k_is
        case qb => exact fun _ _ _ _ _ _ us hl => match us, hl with | [_, _, _], _ => rfl
      case qd__law_key =>
        refine' K16.dk KX G ?qa ?ql ?qc ?qk ?qb
        case qa => k_is
        case ql => k_is
        case qc => k_is
        case qk => k_is
        case qb => exact fun _ _ _ _ _ _ us hl => match us, hl with | [_, _], _ => rfl
      case qd__law_given =>
        refine' K16.dk KX G ?qa ?ql ?qc ?qk ?qb
        case qa => k_is
        case ql => k_is
        case qc => k_is
        case qk => k_is
        case qb => exact fun _ _ _ _ _ _ us hl => match us, hl with | [_, _, _], _ => rfl
      case qd__law_holds =>
        refine' K16.dk KX G ?qa ?ql ?qc ?qk ?qb
        case qa => k_is
        case ql => k_is
        case qc => k_is
        case qk => k_is
        case qb => exact fun _ _ _ _ _ _ us hl => match us, hl with | [_, _, _], _ => rfl
      case qd__law_open_cells =>
        refine' K16.dk KX G ?qa ?ql ?qc ?qk ?qb
        case qa => k_is
        case ql => k_is
        case qc => k_is
        case qk => k_is
        case qb => exact fun _ _ _ _ _ _ us hl => match us, hl with | [_], _ => rfl
      case qd__law_pick =>
        refine' K16.dk KX G ?qa ?ql ?qc ?qk ?qb
        case qa => k_is
        case ql => k_is
        case qc => k_is
        case qk => k_is
        case qb => exact fun _ _ _ _ _ _ us hl => match us, hl with | [_, _], _ => rfl
      case qd__law_much =>
        refine' K16.dk KX G ?qa ?ql ?qc ?qk ?qb
        case qa => k_is
        case ql => k_is
        case qc => k_is
        case qk => k_is
        case qb => exact fun _ _ _ _ _ _ us hl => match us, hl with | [_], _ => rfl
      case qd__law_draw_sort =>
        refine' K16.dk KX G ?qa ?ql ?qc ?qk ?qb
        case qa => k_is
        case ql => k_is
        case qc => k_is
        case qk => k_is
        case qb => exact fun _ _ _ _ _ _ us hl => match us, hl with | [_], _ => rfl
      case qd__law_draw_value =>
        refine' K16.dk KX G ?qa ?ql ?qc ?qk ?qb
        case qa => k_is
        case ql => k_is
        case qc => k_is
        case qk => k_is
        case qb => exact fun _ _ _ _ _ _ us hl => match us, hl with | [_, _, _], _ => rfl
      case qd__law_met =>
        refine' K16.dk KX G ?qa ?ql ?qc ?qk ?qb
        case qa => k_is
        case ql => k_is
        case qc => k_is
        case qk => k_is
        case qb => exact fun _ _ _ _ _ _ us hl => match us, hl with | [_, _, _], _ => rfl
      case qd__law_some =>
        refine' K16.dk KX G ?qa ?ql ?qc ?qk ?qb
        case qa => k_is
        case ql => k_is
        case qc => k_is
        case qk => k_is
        case qb => exact fun _ _ _ _ _ _ us hl => match us, hl with | [_, _], _ => rfl
      case qd_sorted_values =>
        refine' K16.dkC KX G ?qa ?ql ?qc ?qk ?qb
        case qa => k_is
        case ql => k_is
        case qc => k_is
        case qk => k_is
        case qb => exact fun _ _ _ _ _ _ us hl => match us, hl with | [_, _], _ => rfl
      case qd__law_formed =>
        refine' K16.dkC KX G ?qa ?ql ?qc ?qk ?qb
        case qa => k_is
        case ql => k_is
        case qc => k_is
        case qk => k_is
        case qb => exact fun _ _ _ _ _ _ us hl => match us, hl with | [_, _], _ => rfl
      case qd__law_beneath =>
        refine' K16.dkC KX G ?qa ?ql ?qc ?qk ?qb
        case qa => k_is
        case ql => k_is
        case qc => k_is
        case qk => k_is
        case qb => exact fun _ _ _ _ _ _ us hl => match us, hl with | [_, _], _ => rfl
    case qM =>
      refine' { len := PySem.W.mg_none_of KX G ?qm_len, any := PySem.W.mg_none_of KX G ?qm_any, all := PySem.W.mg_none_of KX G ?qm_all, isi := PySem.W.mg_none_of KX G ?qm_isi, tuple := PySem.W.mg_none_of KX G ?qm_tuple, list := PySem.W.mg_none_of KX G ?qm_list, range := PySem.W.mg_none_of KX G ?qm_range, str := PySem.W.mg_none_of KX G ?qm_str, int := PySem.W.mg_none_of KX G ?qm_int, bool := PySem.W.mg_none_of KX G ?qm_bool, dict := PySem.W.mg_none_of KX G ?qm_dict, set := PySem.W.mg_none_of KX G ?qm_set, sorted := PySem.W.mg_none_of KX G ?qm_sorted, sum := PySem.W.mg_none_of KX G ?qm_sum, max := PySem.W.mg_none_of KX G ?qm_max, min := PySem.W.mg_none_of KX G ?qm_min, abs := PySem.W.mg_none_of KX G ?qm_abs, enumerate := PySem.W.mg_none_of KX G ?qm_enumerate }
      case qm_len => k_is
      case qm_any => k_is
      case qm_all => k_is
      case qm_isi => k_is
      case qm_tuple => k_is
      case qm_list => k_is
      case qm_range => k_is
      case qm_str => k_is
      case qm_int => k_is
      case qm_bool => k_is
      case qm_dict => k_is
      case qm_set => k_is
      case qm_sorted => k_is
      case qm_sum => k_is
      case qm_max => k_is
      case qm_min => k_is
      case qm_abs => k_is
      case qm_enumerate => k_is
    case qC =>
      refine' { sides := PySem.W.mg_of KX G ?qa, sidesT := K16.sides_sq ?ql, mn := K16.int_of KX G ?qb, me := K16.int_of KX G ?qc, mw := K16.int_of KX G ?qd, mv := K16.int_of KX G ?qe }
      case qa => k_is
      case ql => k_is
      case qb => k_is
      case qc => k_is
      case qd => k_is
      case qe => k_is
    case qkS =>
      refine' K16.sides_kn ?ql
      case ql => k_is
    case qTM =>
      refine' { g := PySem.W.mg_of KX G ?qa, x := ?qx, k := ?qk, b := ?qb, t := ?qt, e := K16.exm_own ?qb9 ?qi9 ?qt9 ?qs9 }
      case qa => k_is
      case qx => k_exc
      case qk => k_is
      case qb => k_is
      case qt => k_is
      case qb9 => k_is
      case qi9 => k_is
      case qt9 => k_is
      case qs9 => first | rfl | k_is
    case qt1 => kernel_rfl
    case qt2 => kernel_rfl
    case qt3 => kernel_rfl
    case qn1 => kernel_rfl
    case qn2 => kernel_rfl
    case qn3 => kernel_rfl
    case qe1 => exact hT 80 (by decide)
    case qe2 => exact hT 220 (by decide)
    case qe3 => exact hT 239 (by decide)
#print axioms PySem.Challenge.cw_lossbars_k16_whole_up_sets_by_their_valu_holds

end K16E3Text
