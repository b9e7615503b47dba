import PyProof.Rows.All
import Wide.All
import OpenK.AllK
import Wide.FinOn
import Lean
import PySem.Challenge.RW_sj0172_01
set_option Elab.async false
set_option maxRecDepth 100000
set_option linter.unusedVariables false
section L1
set_option autoImplicit false
namespace Mine
abbrev Bits := List Bool
inductive T where
  | nil
  | node (x : Bits) (v : Option Nat) (l r : T)
def bitAt (x : Bits) (i : Nat) : Bool := x.getD i false
def lcp : Bits → Bits → Nat
  | a :: x, c :: y => if a = c then lcp x y + 1 else 0
  | _, _ => 0
def T.withC : T → Bool → T → T
  | .nil, _, _ => .nil
  | .node x v l r, p, c => .node x v (bif p then l else c) (bif p then c else r)
def T.leaf (x : Bits) (w : Nat) : T := .node x (some w) .nil .nil
def forkT (k : Nat) (y : Bits) (t : T) (x : Bits) (u : T) : T :=
  ((T.node (y.take k) none .nil .nil).withC (bitAt y k) t).withC (bitAt x k) u
def T.put : T → Bits → Nat → T
  | .nil, x, w => .leaf x w
  | .node y v l r, x, w =>
    if lcp y x = y.length then
      if lcp y x = x.length then .node y (some w) l r
      else bif bitAt x (lcp y x) then .node y v l (r.put x w) else .node y v (l.put x w) r
    else if lcp y x = x.length then (T.leaf x w).withC (bitAt y (lcp y x)) (.node y v l r)
    else forkT (lcp y x) y (.node y v l r) x (.leaf x w)
def T.isNil : T → Bool
  | .nil => true
  | .node .. => false
def T.shrunk : T → T
  | .nil => .nil
  | .node y v l r => if v.isSome || (!l.isNil && !r.isNil) then .node y v l r else if l.isNil then r else l
def T.drop : T → Bits → T
  | .nil, _ => .nil
  | .node y v l r, p =>
    if lcp y p < y.length then .node y v l r
    else if p.length = y.length then (T.node y none l r).shrunk
    else bif bitAt p (lcp y p) then (T.node y v l (r.drop p)).shrunk else (T.node y v (l.drop p) r).shrunk
def ownRow (y : Bits) : Option Nat → List (Bits × Nat)
  | some w => [(y, w)]
  | none => []
def T.all : T → List (Bits × Nat)
  | .nil => []
  | .node y v l r => ownRow y v ++ l.all ++ r.all
def T.belowP : T → Bits → List (Bits × Nat)
  | .nil, _ => []
  | .node y v l r, p =>
    if lcp y p = p.length then (T.node y v l r).all
    else if lcp y p = y.length then bif bitAt p (lcp y p) then r.belowP p else l.belowP p
    else []
def foundBy (y : Bits) (f : Option (Bits × Nat)) : Option Nat → Option (Bits × Nat)
  | some w => some (y, w)
  | none => f
def T.look (b : Nat) : T → Bits → Option (Bits × Nat) → Option (Bits × Nat)
  | .nil, _, f => f
  | .node y v l r, A, f =>
    if A.take y.length = y then
      if y.length = b then foundBy y f v
      else bif bitAt A y.length then r.look b A (foundBy y f v) else l.look b A (foundBy y f v)
    else f
def longer (one other : Option (Bits × Nat)) : Option (Bits × Nat) :=
  match one, other with
  | none, o => o
  | some a, none => some a
  | some a, some c => if a.1.length < c.1.length then some c else some a
def T.putAll (t : T) (rows : List (Bits × Nat)) : T := rows.foldl (fun t r => t.put r.1 r.2) t
def T.over (t u : T) : T := t.putAll u.all
def T.ht : T → Nat
  | .nil => 0
  | .node _ _ l r => max l.ht r.ht + 1
def T.Len (b : Nat) : T → Prop
  | .nil => True
  | .node y _ l r => y.length ≤ b ∧ l.Len b ∧ r.Len b
def T.Under (z : Bits) : T → Prop
  | .nil => True
  | .node y _ _ _ => z <+: y
def T.WF : T → Prop
  | .nil => True
  | .node y v l r => (v = none → l ≠ .nil ∧ r ≠ .nil) ∧ l.Under (y ++ [false]) ∧ r.Under (y ++ [true]) ∧ l.WF ∧ r.WF
def T.get : T → Bits → Option Nat
  | .nil, _ => none
  | .node y v l r, z => if z = y then v else bif bitAt z y.length then r.get z else l.get z

/-! ## bits -/
theorem lcp_le_left : ∀ x y : Bits, lcp x y ≤ x.length
  | [], _ => by simp [lcp]
  | _ :: _, [] => by simp [lcp]
  | a :: x, c :: y => by
    have := lcp_le_left x y
    simp only [lcp, List.length_cons]; split <;> omega
theorem lcp_le_right : ∀ x y : Bits, lcp x y ≤ y.length
  | [], _ => by simp [lcp]
  | _ :: _, [] => by simp [lcp]
  | a :: x, c :: y => by
    have := lcp_le_right x y
    simp only [lcp, List.length_cons]; split <;> omega
theorem lcp_take : ∀ x y : Bits, x.take (lcp x y) = y.take (lcp x y)
  | [], _ => by simp [lcp]
  | _ :: _, [] => by simp [lcp]
  | a :: x, c :: y => by
    have := lcp_take x y
    simp only [lcp]; split
    · rename_i h; subst h; simp [this]
    · simp
theorem lcp_ne : ∀ x y : Bits, lcp x y < x.length → lcp x y < y.length → bitAt y (lcp x y) = !bitAt x (lcp x y)
  | [], _ => by simp [lcp]
  | _ :: _, [] => by simp [lcp]
  | a :: x, c :: y => by
    have := lcp_ne x y
    simp only [lcp, List.length_cons]; split
    · intro h1 h2; simpa [bitAt] using this (by omega) (by omega)
    · rename_i h; intro _ _; cases a <;> cases c <;> simp_all [bitAt]
theorem lcp_max : ∀ p x y : Bits, p <+: x → p <+: y → p.length ≤ lcp x y
  | [], _, _ => by simp
  | q :: p, x, y => by
    intro h1 h2
    obtain ⟨x', rfl⟩ := h1
    obtain ⟨y', rfl⟩ := h2
    have := lcp_max p (p ++ x') (p ++ y') (List.prefix_append ..) (List.prefix_append ..)
    simp [lcp]; omega
theorem pre_of_lcp_left {x y : Bits} (h : lcp x y = x.length) : x <+: y := by
  have := lcp_take x y
  rw [h, List.take_length] at this
  rw [this]; exact List.take_prefix ..
theorem pre_of_lcp_right {x y : Bits} (h : lcp x y = y.length) : y <+: x := by
  have := lcp_take x y
  rw [h, List.take_length] at this
  rw [← this]; exact List.take_prefix ..
theorem bit_of_pre {y z : Bits} (h : y <+: z) {i : Nat} (hi : i < y.length) : bitAt z i = bitAt y i := by
  obtain ⟨w, rfl⟩ := h
  simp [bitAt, List.getD_eq_getElem?_getD, List.getElem?_append_left hi]
theorem pre_bit {y z : Bits} (h : y <+: z) (hl : y.length < z.length) : (y ++ [bitAt z y.length]) <+: z := by
  obtain ⟨w, rfl⟩ := h
  cases w with
  | nil => simp at hl
  | cons c w => exact ⟨w, by simp [bitAt, List.getD_eq_getElem?_getD]⟩
theorem pre_lt {y z : Bits} {c : Bool} (h : (y ++ [c]) <+: z) : y.length < z.length ∧ bitAt z y.length = c ∧ y <+: z := by
  obtain ⟨w, rfl⟩ := h
  refine ⟨by simp, by simp [bitAt, List.getD_eq_getElem?_getD], ⟨c :: w, by simp⟩⟩
theorem pre_antisymm {x y : Bits} (h : x <+: y) (h' : y <+: x) : x = y :=
  h.eq_of_length (Nat.le_antisymm h.length_le h'.length_le)

/-! ## keys -/
theorem T.Under.mono {p q : Bits} (h : p <+: q) : ∀ {t : T}, t.Under q → t.Under p
  | .nil, _ => trivial
  | .node .., hu => h.trans hu
theorem key_pre : ∀ {t : T} {p z : Bits}, t.WF → t.Under p → t.get z ≠ none → p <+: z := by
  intro t
  induction t with
  | nil => intro p z _ _ h; exact absurd rfl h
  | node y v l r ihl ihr =>
    intro p z ⟨_, hl, hr, wl, wr⟩ hu h
    simp only [T.get] at h
    split at h
    · rename_i e; subst e; exact hu
    · cases hb : bitAt z y.length with
      | false => rw [hb] at h; exact (hu : p <+: y).trans (pre_lt (ihl wl hl (by simpa using h))).2.2
      | true => rw [hb] at h; exact (hu : p <+: y).trans (pre_lt (ihr wr hr (by simpa using h))).2.2
theorem key_none {t : T} {p z : Bits} (w : t.WF) (hu : t.Under p) (h : ¬ p <+: z) : t.get z = none := by
  cases e : t.get z with
  | none => rfl
  | some k => exact absurd (key_pre w hu (by rw [e]; simp)) h
theorem get_left {y : Bits} {v : Option Nat} {l r : T} {z : Bits} (h : (y ++ [false]) <+: z) : (T.node y v l r).get z = l.get z := by
  obtain ⟨h1, h2, _⟩ := pre_lt h
  have : z ≠ y := by rintro rfl; omega
  simp [T.get, this, h2]
theorem get_right {y : Bits} {v : Option Nat} {l r : T} {z : Bits} (h : (y ++ [true]) <+: z) : (T.node y v l r).get z = r.get z := by
  obtain ⟨h1, h2, _⟩ := pre_lt h
  have : z ≠ y := by rintro rfl; omega
  simp [T.get, this, h2]
theorem get_root {y : Bits} {v : Option Nat} {l r : T} : (T.node y v l r).get y = v := by simp [T.get]
theorem node_self {y : Bits} {v : Option Nat} {l r : T} : (T.node y v l r).Under y := List.prefix_rfl
theorem has_key : ∀ {t : T}, t.WF → t ≠ .nil → ∃ z, t.get z ≠ none := by
  intro t
  induction t with
  | nil => intro _ h; exact absurd rfl h
  | node y v l r ihl ihr =>
    intro ⟨h0, hl, hr, wl, wr⟩ _
    cases v with
    | some w => exact ⟨y, by rw [get_root]; simp⟩
    | none =>
      obtain ⟨z, hz⟩ := ihl wl (h0 rfl).1
      exact ⟨z, by rw [get_left (key_pre wl hl hz)]; exact hz⟩
theorem root_max {y q : Bits} {v : Option Nat} {l r : T} (w : (T.node y v l r).WF) (h : ∀ z, (T.node y v l r).get z ≠ none → q <+: z) : q <+: y := by
  obtain ⟨h0, hl, hr, wl, wr⟩ := w
  cases v with
  | some k => exact h y (by rw [get_root]; simp)
  | none =>
    obtain ⟨z1, k1⟩ := has_key wl (h0 rfl).1
    obtain ⟨z2, k2⟩ := has_key wr (h0 rfl).2
    have p1 := key_pre wl hl k1
    have p2 := key_pre wr hr k2
    have q1 := h z1 (by rw [get_left p1]; exact k1)
    have q2 := h z2 (by rw [get_right p2]; exact k2)
    obtain ⟨_, b1, y1⟩ := pre_lt p1
    obtain ⟨_, b2, _⟩ := pre_lt p2
    refine List.prefix_of_prefix_length_le q1 y1 ?_
    cases Nat.lt_or_ge y.length q.length with
    | inr h => exact h
    | inl h =>
      have e1 := bit_of_pre q1 h
      have e2 := bit_of_pre q2 h
      rw [b1] at e1; rw [b2] at e2; rw [← e1] at e2; cases e2
theorem tree_ext : ∀ {t u : T}, t.WF → u.WF → (∀ z, t.get z = u.get z) → t = u := by
  intro t
  induction t with
  | nil =>
    intro u _ wu h
    cases u with
    | nil => rfl
    | node y v l r =>
      obtain ⟨z, hz⟩ := has_key wu (by simp)
      exact absurd (h z).symm hz
  | node y v l r ihl ihr =>
    intro u wt wu h
    cases u with
    | nil =>
      obtain ⟨z, hz⟩ := has_key wt (by simp)
      exact absurd (h z) hz
    | node y' v' l' r' =>
      have e : y = y' := by
        refine pre_antisymm (root_max wu fun z hz => key_pre wt node_self (by rw [h]; exact hz)) (root_max wt fun z hz => key_pre wu node_self (by rw [← h]; exact hz))
      subst e
      have ev : v = v' := by have := h y; rwa [get_root, get_root] at this
      subst ev
      obtain ⟨_, hl, hr, wl, wr⟩ := wt
      obtain ⟨_, hl', hr', wl', wr'⟩ := wu
      have el : l = l' := by
        refine ihl wl wl' fun z => ?_
        by_cases hz : (y ++ [false]) <+: z
        · have := h z; rwa [get_left hz, get_left hz] at this
        · rw [key_none wl hl hz, key_none wl' hl' hz]
      have er : r = r' := by
        refine ihr wr wr' fun z => ?_
        by_cases hz : (y ++ [true]) <+: z
        · have := h z; rwa [get_right hz, get_right hz] at this
        · rw [key_none wr hr hz, key_none wr' hr' hz]
      rw [el, er]
end Mine

end L1
section L2
set_option autoImplicit false
namespace Mine
/-! ## put -/
theorem withC_false (x : Bits) (v : Option Nat) (l r c : T) : (T.node x v l r).withC false c = .node x v c r := rfl
theorem withC_true (x : Bits) (v : Option Nat) (l r c : T) : (T.node x v l r).withC true c = .node x v l c := rfl
theorem forkT_eq {k : Nat} {y x : Bits} {t u : T} (h : bitAt x k = !bitAt y k) :
    forkT k y t x u = bif bitAt y k then .node (y.take k) none u t else .node (y.take k) none t u := by
  unfold forkT
  rw [h]
  cases bitAt y k <;> rfl
/-- the ways through put, once -/
inductive PutWay (y x : Bits) : Prop where
  | same (h : x = y)
  | down (h : (y ++ [bitAt x y.length]) <+: x) (e : lcp y x = y.length) (n : lcp y x ≠ x.length)
  | up (h : (x ++ [bitAt y x.length]) <+: y) (e : lcp y x = x.length) (n : lcp y x ≠ y.length)
  | fork (h1 : lcp y x < y.length) (h2 : lcp y x < x.length)
theorem putWay (y x : Bits) : PutWay y x := by
  have l1 := lcp_le_left y x
  have l2 := lcp_le_right y x
  by_cases h1 : lcp y x = y.length
  · have p1 := pre_of_lcp_left h1
    by_cases h2 : lcp y x = x.length
    · exact .same (pre_antisymm (pre_of_lcp_right h2) p1)
    · exact .down (pre_bit p1 (by omega)) h1 h2
  · by_cases h2 : lcp y x = x.length
    · exact .up (pre_bit (pre_of_lcp_right h2) (by omega)) h2 h1
    · exact .fork (by omega) (by omega)
theorem lcp_self (x : Bits) : lcp x x = x.length := by
  induction x with
  | nil => rfl
  | cons a x ih => simp [lcp, ih]
theorem put_same {y : Bits} {v : Option Nat} {l r : T} {w : Nat} : (T.node y v l r).put y w = .node y (some w) l r := by
  simp [T.put, lcp_self]
theorem put_down {y x : Bits} {v : Option Nat} {l r : T} {w : Nat} (e : lcp y x = y.length) (n : lcp y x ≠ x.length) :
    (T.node y v l r).put x w = bif bitAt x y.length then .node y v l (r.put x w) else .node y v (l.put x w) r := by
  rw [T.put, if_pos e, if_neg n, e]
theorem put_up {y x : Bits} {v : Option Nat} {l r : T} {w : Nat} (e : lcp y x = x.length) (n : lcp y x ≠ y.length) :
    (T.node y v l r).put x w = bif bitAt y x.length then .node x (some w) .nil (.node y v l r) else .node x (some w) (.node y v l r) .nil := by
  rw [T.put, if_neg n, if_pos e, e]
  cases bitAt y x.length <;> rfl
theorem put_fork {y x : Bits} {v : Option Nat} {l r : T} {w : Nat} (h1 : lcp y x < y.length) (h2 : lcp y x < x.length) :
    (T.node y v l r).put x w = bif bitAt y (lcp y x) then .node (y.take (lcp y x)) none (.leaf x w) (.node y v l r) else .node (y.take (lcp y x)) none (.node y v l r) (.leaf x w) := by
  rw [T.put, if_neg (Nat.ne_of_lt h1), if_neg (Nat.ne_of_lt h2), forkT_eq (lcp_ne _ _ h1 h2)]
theorem leaf_wf (x : Bits) (w : Nat) : (T.leaf x w).WF := ⟨by simp, trivial, trivial, trivial, trivial⟩
theorem leaf_get (x : Bits) (w : Nat) (z : Bits) : (T.leaf x w).get z = if z = x then some w else none := by
  unfold T.leaf T.get
  split
  · rfl
  · cases bitAt z x.length <;> rfl
theorem take_pre_bit {y : Bits} {k : Nat} (h : k < y.length) : (y.take k ++ [bitAt y k]) <+: y := by
  have := pre_bit (y := y.take k) (z := y) (List.take_prefix ..) (by simp; omega)
  rwa [List.length_take, Nat.min_eq_left (Nat.le_of_lt h)] at this
theorem put_good : ∀ {t : T} {x : Bits} {w : Nat}, t.WF → (t.put x w).WF ∧ (∀ p, t.Under p → p <+: x → (t.put x w).Under p) ∧ t.put x w ≠ .nil ∧
    ∀ z, (t.put x w).get z = if z = x then some w else t.get z := by
  intro t
  induction t with
  | nil => intro x w _; exact ⟨leaf_wf x w, fun p _ h => h, by simp [T.put, T.leaf], leaf_get x w⟩
  | node y v l r ihl ihr =>
    intro x w wt
    have ⟨h0, hl, hr, wl, wr⟩ := wt
    cases putWay y x with
    | same h =>
      subst h
      rw [put_same]
      refine ⟨⟨by simp, hl, hr, wl, wr⟩, fun p h _ => h, by simp, fun z => ?_⟩
      simp only [T.get]
      split <;> rfl
    | down h e n =>
      rw [put_down e n]
      cases hb : bitAt x y.length with
      | false =>
        rw [hb] at h
        obtain ⟨i1, i2, i3, i4⟩ := @ihl x w wl
        refine ⟨⟨fun e => ⟨i3, (h0 e).2⟩, i2 _ hl h, hr, i1, wr⟩, fun p h _ => h, by simp, fun z => ?_⟩
        simp only [cond_false, T.get, i4]
        by_cases hz : z = x
        · subst hz
          have : z ≠ y := by rintro rfl; exact absurd (pre_lt h).1 (Nat.lt_irrefl _)
          simp [this, hb]
        · simp only [if_neg hz]
      | true =>
        rw [hb] at h
        obtain ⟨i1, i2, i3, i4⟩ := @ihr x w wr
        refine ⟨⟨fun e => ⟨(h0 e).1, i3⟩, hl, i2 _ hr h, wl, i1⟩, fun p h _ => h, by simp, fun z => ?_⟩
        simp only [cond_true, T.get, i4]
        by_cases hz : z = x
        · subst hz
          have : z ≠ y := by rintro rfl; exact absurd (pre_lt h).1 (Nat.lt_irrefl _)
          simp [this, hb]
        · simp only [if_neg hz]
    | up h e n =>
      rw [put_up e n]
      cases hb : bitAt y x.length with
      | false =>
        rw [hb] at h
        refine ⟨⟨by simp, h, trivial, wt, trivial⟩, fun p _ hp => hp, by simp, fun z => ?_⟩
        simp only [cond_false]
        rw [T.get]
        split
        · rfl
        · by_cases hz : (x ++ [false]) <+: z
          · rw [(pre_lt hz).2.1]; rfl
          · rw [key_none (p := x ++ [false]) wt h hz]; cases bitAt z x.length <;> simp [T.get]
      | true =>
        rw [hb] at h
        refine ⟨⟨by simp, trivial, h, trivial, wt⟩, fun p _ hp => hp, by simp, fun z => ?_⟩
        simp only [cond_true]
        rw [T.get]
        split
        · rfl
        · by_cases hz : (x ++ [true]) <+: z
          · rw [(pre_lt hz).2.1]; rfl
          · rw [key_none (p := x ++ [true]) wt h hz]; cases bitAt z x.length <;> simp [T.get]
    | fork h1 h2 =>
      rw [put_fork h1 h2]
      have e1 := take_pre_bit h1
      have e2 := take_pre_bit h2
      rw [lcp_ne _ _ h1 h2, ← lcp_take] at e2
      have hp : ∀ p, p <+: y → p <+: x → p <+: y.take (lcp y x) := fun p a c =>
        List.prefix_of_prefix_length_le a (List.take_prefix ..) (by have := lcp_max p y x a c; simp; omega)
      have hlen : (y.take (lcp y x)).length = lcp y x := by simp; omega
      generalize y.take (lcp y x) = q at *
      cases hb : bitAt y (lcp y x) with
      | false =>
        rw [hb] at e1 e2
        refine ⟨⟨by simp [T.leaf], e1, e2, wt, leaf_wf ..⟩, fun p a c => hp p a c, by simp, fun z => ?_⟩
        simp only [cond_false]
        by_cases hz : z = x
        · subst hz
          rw [get_right e2, leaf_get]; simp
        · rw [if_neg hz]
          by_cases hz2 : (q ++ [false]) <+: z
          · rw [get_left hz2]
          · rw [key_none (p := q ++ [false]) wt e1 hz2, T.get]
            split
            · rfl
            · cases bitAt z q.length
              · exact key_none (p := q ++ [false]) wt e1 hz2
              · simp [leaf_get, hz]
      | true =>
        rw [hb] at e1 e2
        refine ⟨⟨by simp [T.leaf], e2, e1, leaf_wf .., wt⟩, fun p a c => hp p a c, by simp, fun z => ?_⟩
        simp only [cond_true]
        by_cases hz : z = x
        · subst hz
          rw [get_left (by simpa using e2), leaf_get]; simp
        · rw [if_neg hz]
          by_cases hz2 : (q ++ [true]) <+: z
          · rw [get_right hz2]
          · rw [key_none (p := q ++ [true]) wt e1 hz2, T.get]
            split
            · rfl
            · cases bitAt z q.length
              · simp [leaf_get, hz]
              · exact key_none (p := q ++ [true]) wt e1 hz2
theorem put_wf {t : T} {x : Bits} {w : Nat} (h : t.WF) : (t.put x w).WF := (put_good h).1
theorem put_get {t : T} {x : Bits} {w : Nat} (h : t.WF) (z : Bits) : (t.put x w).get z = if z = x then some w else t.get z := (put_good h).2.2.2 z
theorem leaf_len {b : Nat} {x : Bits} {w : Nat} (h : x.length ≤ b) : (T.leaf x w).Len b := ⟨h, trivial, trivial⟩
theorem put_len {b : Nat} : ∀ {t : T} {x : Bits} {w : Nat}, t.Len b → x.length ≤ b → (t.put x w).Len b := by
  intro t
  induction t with
  | nil => intro x w _ h; exact leaf_len h
  | node y v l r ihl ihr =>
    intro x w ht hx
    have ⟨hy, hl, hr⟩ := ht
    cases putWay y x with
    | same h => subst h; rw [put_same]; exact ⟨hy, hl, hr⟩
    | down h e n => rw [put_down e n]; exact (match bitAt x y.length with | false => ⟨hy, ihl hl hx, hr⟩ | true => ⟨hy, hl, ihr hr hx⟩)
    | up h e n => rw [put_up e n]; exact (match bitAt y x.length with | false => ⟨hx, ht, trivial⟩ | true => ⟨hx, trivial, ht⟩)
    | fork h1 h2 =>
      rw [put_fork h1 h2]
      have : (y.take (lcp y x)).length ≤ b := by simp; omega
      exact (match bitAt y (lcp y x) with | false => ⟨this, ht, leaf_len hx⟩ | true => ⟨this, leaf_len hx, ht⟩)
theorem ht_le {b : Nat} : ∀ {t : T} {p : Bits}, t.WF → t.Len b → t.Under p → p.length ≤ b + 1 → t.ht + p.length ≤ b + 1 := by
  intro t
  induction t with
  | nil => intro p _ _ _ h; simpa [T.ht] using h
  | node y v l r ihl ihr =>
    intro p ⟨_, hl, hr, wl, wr⟩ ⟨hy, ll, lr⟩ hu _
    have hp : p.length ≤ y.length := (hu : p <+: y).length_le
    have a := ihl wl ll hl (by simp; omega)
    have c := ihr wr lr hr (by simp; omega)
    simp only [List.length_append, List.length_singleton] at a c
    simp only [T.ht]
    omega
theorem ht_le5 {b : Nat} {t : T} (hb : b ≤ 4) (w : t.WF) (h : t.Len b) : t.ht ≤ 5 := by
  have := ht_le (p := []) w h (by cases t <;> simp [T.Under]) (by simp)
  simp at this; omega
/-! ## all -/
theorem mem_all : ∀ {t : T}, t.WF → ∀ x w, (x, w) ∈ t.all ↔ t.get x = some w := by
  intro t
  induction t with
  | nil => intro _ x w; simp [T.all, T.get]
  | node y v l r ihl ihr =>
    intro ⟨_, hl, hr, wl, wr⟩ x w
    simp only [T.all, List.mem_append, ihl wl, ihr wr]
    constructor
    · rintro ((h | h) | h)
      · cases v with
        | none => simp [ownRow] at h
        | some k =>
          simp only [ownRow, List.mem_singleton, Prod.mk.injEq] at h
          obtain ⟨rfl, rfl⟩ := h
          exact get_root
      · rw [get_left (key_pre wl hl (by rw [h]; simp))]; exact h
      · rw [get_right (key_pre wr hr (by rw [h]; simp))]; exact h
    · intro h
      by_cases e : x = y
      · subst e
        rw [get_root] at h; subst h
        exact .inl (.inl (by simp [ownRow]))
      · simp only [T.get, if_neg e] at h
        cases hb : bitAt x y.length with
        | false => rw [hb] at h; exact .inl (.inr h)
        | true => rw [hb] at h; exact .inr h
theorem get_len {b : Nat} : ∀ {t : T} {x : Bits}, t.Len b → t.get x ≠ none → x.length ≤ b := by
  intro t
  induction t with
  | nil => intro x _ h; exact absurd rfl h
  | node y v l r ihl ihr =>
    intro x ⟨hy, hl, hr⟩ h
    simp only [T.get] at h
    split at h
    · rename_i e; subst e; exact hy
    · cases hb : bitAt x y.length with
      | false => rw [hb] at h; exact ihl hl h
      | true => rw [hb] at h; exact ihr hr h
theorem all_len {b : Nat} {t : T} (w : t.WF) (h : t.Len b) : ∀ r ∈ t.all, r.1.length ≤ b := by
  rintro ⟨x, k⟩ hm
  exact get_len h (by rw [(mem_all w x k).mp hm]; simp)
/-! ## putAll, over -/
theorem putAll_wf : ∀ {rows : List (Bits × Nat)} {t : T}, t.WF → (t.putAll rows).WF
  | [], _, h => h
  | r :: rows, t, h => putAll_wf (rows := rows) (t := t.put r.1 r.2) (put_wf h)
theorem putAll_len {b : Nat} : ∀ {rows : List (Bits × Nat)} {t : T}, t.Len b → (∀ r ∈ rows, r.1.length ≤ b) → (t.putAll rows).Len b
  | [], _, h, _ => h
  | r :: rows, t, h, hr => putAll_len (rows := rows) (t := t.put r.1 r.2) (put_len h (hr _ (.head _))) fun q hq => hr _ (.tail _ hq)
theorem putAll_none : ∀ {rows : List (Bits × Nat)} {t : T} {z : Bits}, t.WF → (∀ w, (z, w) ∉ rows) → (t.putAll rows).get z = t.get z
  | [], _, _, _, _ => rfl
  | r :: rows, t, z, h, hz => by
    have := putAll_none (rows := rows) (t := t.put r.1 r.2) (z := z) (put_wf h) fun w hm => hz w (.tail _ hm)
    show ((t.put r.1 r.2).putAll rows).get z = _
    rw [this, put_get h, if_neg]
    rintro rfl
    exact hz r.2 (.head _)
theorem putAll_some : ∀ {rows : List (Bits × Nat)} {t : T} {z : Bits} {w : Nat}, t.WF → (z, w) ∈ rows → (∀ w', (z, w') ∈ rows → w' = w) → (t.putAll rows).get z = some w
  | r :: rows, t, z, w, h, hm, hu => by
    show ((t.put r.1 r.2).putAll rows).get z = _
    by_cases hc : (z, w) ∈ rows
    · exact putAll_some (put_wf h) hc fun w' hw => hu w' (.tail _ hw)
    · have hr : r = (z, w) := by
        rcases List.mem_cons.mp hm with e | e
        · exact e.symm
        · exact absurd e hc
      rw [putAll_none (put_wf h) fun w' hw => hc (by rw [← hu w' (.tail _ hw)]; exact hw), put_get h, hr, if_pos rfl]
theorem over_wf {t u : T} (h : t.WF) : (t.over u).WF := putAll_wf h
theorem over_len {b : Nat} {t u : T} (h : t.Len b) (wu : u.WF) (hu : u.Len b) : (t.over u).Len b := putAll_len h (all_len wu hu)
theorem over_get {t u : T} (h : t.WF) (wu : u.WF) (z : Bits) : (t.over u).get z = (u.get z).or (t.get z) := by
  cases e : u.get z with
  | none =>
    exact putAll_none h fun w hm => by rw [mem_all wu, e] at hm; cases hm
  | some k =>
    exact putAll_some h ((mem_all wu z k).mpr e) fun w' hw => by rw [mem_all wu, e] at hw; exact (Option.some.inj hw).symm
end Mine

end L2
section L3
set_option autoImplicit false
namespace Mine
/-! ## drop -/
theorem isNil_iff {t : T} : t.isNil = true ↔ t = .nil := by cases t <;> simp [T.isNil]
theorem isNil_false {t : T} : t.isNil = false ↔ t ≠ .nil := by cases t <;> simp [T.isNil]
theorem shrunk_node (y : Bits) (v : Option Nat) (l r : T) : (T.node y v l r).shrunk = if v.isSome || (!l.isNil && !r.isNil) then .node y v l r else if l.isNil then r else l := rfl
/-- a node that may be too thin: all of WF but the root's own word -/
def Thin (y : Bits) (l r : T) : Prop := l.Under (y ++ [false]) ∧ r.Under (y ++ [true]) ∧ l.WF ∧ r.WF
theorem shrunk_good {y : Bits} {v : Option Nat} {l r : T} (h : Thin y l r) :
    (T.node y v l r).shrunk.WF ∧ (T.node y v l r).shrunk.Under y ∧ ∀ z, (T.node y v l r).shrunk.get z = (T.node y v l r).get z := by
  obtain ⟨hl, hr, wl, wr⟩ := h
  rw [shrunk_node]
  split
  · rename_i h
    refine ⟨⟨fun e => ?_, hl, hr, wl, wr⟩, node_self, fun _ => rfl⟩
    subst e
    simpa [isNil_false] using h
  · rename_i h
    cases v with
    | some w => simp at h
    | none =>
      cases hb : l.isNil with
      | true =>
        have := isNil_iff.mp hb; subst this
        refine ⟨wr, hr.mono (List.prefix_append ..), fun z => ?_⟩
        simp only [if_true]
        by_cases hz : (y ++ [true]) <+: z
        · rw [get_right hz]
        · rw [key_none wr hr hz, T.get]
          split
          · rfl
          · cases bitAt z y.length
            · rfl
            · exact (key_none wr hr hz).symm
      | false =>
        have hn : r = .nil := by
          rw [hb] at h; simpa [isNil_iff] using h
        subst hn
        refine ⟨wl, hl.mono (List.prefix_append ..), fun z => ?_⟩
        simp only [Bool.false_eq_true, if_false]
        by_cases hz : (y ++ [false]) <+: z
        · rw [get_left hz]
        · rw [key_none wl hl hz, T.get]
          split
          · rfl
          · cases bitAt z y.length
            · exact (key_none wl hl hz).symm
            · rfl
theorem drop_good : ∀ {t : T} {p : Bits}, t.WF → (t.drop p).WF ∧ (∀ q, t.Under q → (t.drop p).Under q) ∧ ∀ z, (t.drop p).get z = if z = p then none else t.get z := by
  intro t
  induction t with
  | nil => intro p _; exact ⟨trivial, fun _ h => h, fun z => by simp [T.drop, T.get]⟩
  | node y v l r ihl ihr =>
    intro p wt
    have ⟨h0, hl, hr, wl, wr⟩ := wt
    rw [T.drop]
    have l1 := lcp_le_left y p
    have l2 := lcp_le_right y p
    by_cases h1 : lcp y p < y.length
    · rw [if_pos h1]
      refine ⟨wt, fun _ h => h, fun z => ?_⟩
      by_cases hz : z = p
      · subst hz
        rw [if_pos rfl]
        refine key_none wt node_self fun hp => ?_
        have := lcp_max y y z List.prefix_rfl hp
        omega
      · rw [if_neg hz]
    · have h1' : lcp y p = y.length := by omega
      rw [if_neg h1]
      have pre := pre_of_lcp_left h1'
      by_cases h2 : p.length = y.length
      · have e : y = p := pre.eq_of_length h2.symm
        subst e
        rw [if_pos rfl]
        obtain ⟨i1, i2, i3⟩ := shrunk_good (v := none) (y := y) ⟨hl, hr, wl, wr⟩
        refine ⟨i1, fun q h => i2.mono h, fun z => ?_⟩
        rw [i3]
        simp only [T.get]
        split <;> rfl
      · rw [if_neg h2, h1']
        have hp := pre_bit pre (by omega)
        have hne : p ≠ y := by rintro rfl; exact h2 rfl
        cases hb : bitAt p y.length with
        | false =>
          rw [hb] at hp
          obtain ⟨j1, j2, j3⟩ := @ihl p wl
          obtain ⟨i1, i2, i3⟩ := shrunk_good (v := v) (y := y) (l := l.drop p) (r := r) ⟨j2 _ hl, hr, j1, wr⟩
          refine ⟨i1, fun q h => i2.mono h, fun z => ?_⟩
          simp only [cond_false]
          rw [i3]
          by_cases hz : z = p
          · subst hz
            rw [get_left hp, j3, if_pos rfl, if_pos rfl]
          · simp only [if_neg hz, T.get, j3]
        | true =>
          rw [hb] at hp
          obtain ⟨j1, j2, j3⟩ := @ihr p wr
          obtain ⟨i1, i2, i3⟩ := shrunk_good (v := v) (y := y) (l := l) (r := r.drop p) ⟨hl, j2 _ hr, wl, j1⟩
          refine ⟨i1, fun q h => i2.mono h, fun z => ?_⟩
          simp only [cond_true]
          rw [i3]
          by_cases hz : z = p
          · subst hz
            rw [get_right hp, j3, if_pos rfl, if_pos rfl]
          · simp only [if_neg hz, T.get, j3]
theorem drop_wf {t : T} {p : Bits} (h : t.WF) : (t.drop p).WF := (drop_good h).1
theorem drop_get {t : T} {p : Bits} (h : t.WF) (z : Bits) : (t.drop p).get z = if z = p then none else t.get z := (drop_good h).2.2 z
theorem shrunk_len {b : Nat} {y : Bits} {v : Option Nat} {l r : T} (h : (T.node y v l r).Len b) : (T.node y v l r).shrunk.Len b := by
  have ⟨_, hl, hr⟩ := h
  rw [shrunk_node]
  split
  · exact h
  · split
    · exact hr
    · exact hl
theorem drop_len {b : Nat} : ∀ {t : T} {p : Bits}, t.Len b → (t.drop p).Len b := by
  intro t
  induction t with
  | nil => intro p h; exact h
  | node y v l r ihl ihr =>
    intro p ht
    have ⟨hy, hl, hr⟩ := ht
    rw [T.drop]
    split
    · exact ht
    · split
      · exact shrunk_len ⟨hy, hl, hr⟩
      · cases bitAt p (lcp y p)
        · exact shrunk_len ⟨hy, ihl hl, hr⟩
        · exact shrunk_len ⟨hy, hl, ihr hr⟩
/-! ## below -/
def T.sub : T → Bits → T
  | .nil, _ => .nil
  | .node y v l r, p =>
    if lcp y p = p.length then .node y v l r
    else if lcp y p = y.length then bif bitAt p (lcp y p) then r.sub p else l.sub p
    else .nil
theorem below_eq : ∀ (t : T) (p : Bits), t.belowP p = (t.sub p).all := by
  intro t
  induction t with
  | nil => intro p; rfl
  | node y v l r ihl ihr =>
    intro p
    rw [T.belowP, T.sub]
    split
    · rfl
    · split
      · cases bitAt p (lcp y p)
        · exact ihl p
        · exact ihr p
      · rfl
theorem sub_good : ∀ {t : T} {p : Bits}, t.WF → (t.sub p).WF ∧ (∀ z, p <+: z → (t.sub p).get z = t.get z) ∧ (∀ z, ¬ p <+: z → (t.sub p).get z = none) := by
  intro t
  induction t with
  | nil => intro p _; exact ⟨trivial, fun _ _ => rfl, fun _ _ => rfl⟩
  | node y v l r ihl ihr =>
    intro p wt
    have ⟨h0, hl, hr, wl, wr⟩ := wt
    have l1 := lcp_le_left y p
    have l2 := lcp_le_right y p
    rw [T.sub]
    by_cases h1 : lcp y p = p.length
    · rw [if_pos h1]
      have pre := pre_of_lcp_right h1
      exact ⟨wt, fun _ _ => rfl, fun z hz => key_none wt node_self fun hy => hz (pre.trans hy)⟩
    · rw [if_neg h1]
      by_cases h2 : lcp y p = y.length
      · rw [if_pos h2, h2]
        have pre := pre_bit (pre_of_lcp_left h2) (by omega)
        cases hb : bitAt p y.length with
        | false =>
          rw [hb] at pre
          obtain ⟨i1, i2, i3⟩ := @ihl p wl
          exact ⟨i1, fun z hz => (i2 z hz).trans (get_left (pre.trans hz)).symm, i3⟩
        | true =>
          rw [hb] at pre
          obtain ⟨i1, i2, i3⟩ := @ihr p wr
          exact ⟨i1, fun z hz => (i2 z hz).trans (get_right (pre.trans hz)).symm, i3⟩
      · rw [if_neg h2]
        refine ⟨trivial, fun z hz => ?_, fun _ _ => rfl⟩
        refine (key_none wt node_self fun hy => ?_).symm
        have a := lcp_take y p
        rcases Nat.le_total y.length p.length with h | h
        · have := lcp_max y y p List.prefix_rfl (List.prefix_of_prefix_length_le hy hz h); omega
        · have := lcp_max p y p (List.prefix_of_prefix_length_le hz hy h) List.prefix_rfl; omega
theorem sub_len {b : Nat} : ∀ {t : T} {p : Bits}, t.Len b → (t.sub p).Len b := by
  intro t
  induction t with
  | nil => intro p h; exact h
  | node y v l r ihl ihr =>
    intro p ht
    have ⟨hy, hl, hr⟩ := ht
    rw [T.sub]
    split
    · exact ht
    · split
      · cases bitAt p (lcp y p)
        · exact ihl hl
        · exact ihr hr
      · trivial
theorem putAll_all {t : T} (h : t.WF) : T.nil.putAll t.all = t := by
  refine tree_ext (putAll_wf trivial) h fun z => ?_
  have := over_get (t := .nil) (u := t) trivial h z
  rw [T.over] at this
  rw [this]
  simp [T.get]
theorem below_law {f s : T} {p : Bits} (hf : f.WF) (hs : s.WF) : (f.over s).belowP p = ((T.nil.putAll (f.belowP p)).putAll (s.belowP p)).all := by
  rw [below_eq, below_eq, below_eq, putAll_all (sub_good hf).1]
  have : (f.over s).sub p = (f.sub p).over (s.sub p) := by
    refine tree_ext (sub_good (over_wf hf)).1 (over_wf (sub_good hf).1) fun z => ?_
    rw [over_get (sub_good hf).1 (sub_good hs).1]
    by_cases hz : p <+: z
    · rw [(sub_good (over_wf hf)).2.1 z hz, (sub_good hf).2.1 z hz, (sub_good hs).2.1 z hz, over_get hf hs]
    · rw [(sub_good (over_wf hf)).2.2 z hz, (sub_good hf).2.2 z hz, (sub_good hs).2.2 z hz]; rfl
  rw [this]; rfl
/-! ## look -/
def Seen (g : Bits → Option Nat) (A : Bits) : Option (Bits × Nat) → Prop
  | none => ∀ z, z <+: A → g z = none
  | some (y, w) => y <+: A ∧ g y = some w ∧ ∀ z, z <+: A → g z ≠ none → z.length ≤ y.length
theorem seen_one {g : Bits → Option Nat} {A : Bits} {r q : Option (Bits × Nat)} (hr : Seen g A r) (hq : Seen g A q) : r = q := by
  cases r with
  | none =>
    cases q with
    | none => rfl
    | some b => have := hr b.1 hq.1; rw [hq.2.1] at this; cases this
  | some a =>
    cases q with
    | none => have := hq a.1 hr.1; rw [hr.2.1] at this; cases this
    | some b =>
      have h1 := hr.2.2 b.1 hq.1 (by rw [hq.2.1]; simp)
      have h2 := hq.2.2 a.1 hr.1 (by rw [hr.2.1]; simp)
      have e : a.1 = b.1 := (List.prefix_of_prefix_length_le hr.1 hq.1 h2).eq_of_length (by omega)
      have e2 : a.2 = b.2 := by
        have := hr.2.1; rw [e, hq.2.1] at this; exact (Option.some.inj this).symm
      exact congrArg some (Prod.ext e e2)
theorem look_good {b : Nat} : ∀ {t : T} {A : Bits} {f : Option (Bits × Nat)}, t.WF → t.Len b → A.length = b → ∃ r, Seen t.get A r ∧ t.look b A f = r.or f := by
  intro t
  induction t with
  | nil => intro A f _ _ _; exact ⟨none, fun _ _ => rfl, rfl⟩
  | node y v l r ihl ihr =>
    intro A f wt ht hA
    have ⟨h0, hl, hr, wl, wr⟩ := wt
    have ⟨hy, ll, lr⟩ := ht
    rw [T.look]
    by_cases h1 : A.take y.length = y
    · rw [if_pos h1]
      have pre : y <+: A := by rw [← h1]; exact List.take_prefix ..
      have fb : ∀ f : Option (Bits × Nat), foundBy y f v = (v.map fun w => (y, w)).or f := by intro f; cases v <;> rfl
      by_cases h2 : y.length = b
      · rw [if_pos h2, fb]
        have e : y = A := pre.eq_of_length (h2.trans hA.symm)
        refine ⟨v.map fun w => (y, w), ?_, rfl⟩
        have only : ∀ z, z <+: A → (T.node y v l r).get z ≠ none → z = y := fun z hz hk => by
          rw [e]; exact pre_antisymm hz (by rw [← e]; exact key_pre wt node_self hk)
        cases v with
        | none => exact fun z hz => Classical.byContradiction fun hk => hk (by rw [only z hz hk, get_root])
        | some w => exact ⟨pre, get_root, fun z hz hk => by rw [only z hz hk]; exact Nat.le_refl _⟩
      · rw [if_neg h2]
        have hlt : y.length < A.length := by omega
        have pb := pre_bit pre hlt
        -- the child that the address goes down to
        have key : ∀ (c : T) (bt : Bool), bitAt A y.length = bt → c.Under (y ++ [bt]) → c.WF → (∀ z, (y ++ [bt]) <+: z → (T.node y v l r).get z = c.get z) →
            (∃ q, Seen c.get A q ∧ c.look b A (foundBy y f v) = q.or (foundBy y f v)) → ∃ q, Seen (T.node y v l r).get A q ∧ c.look b A (foundBy y f v) = q.or f := by
          rintro c bt hbt hu wc hg ⟨q, hq, e⟩
          rw [hbt] at pb
          have other : ∀ z, z <+: A → (T.node y v l r).get z ≠ none → z = y ∨ ((y ++ [bt]) <+: z ∧ c.get z ≠ none) := fun z hz hk => by
            have hyz := key_pre wt node_self hk
            by_cases hzy : z = y
            · exact .inl hzy
            · have hl2 : y.length < z.length := by
                rcases Nat.lt_or_ge y.length z.length with h | h
                · exact h
                · exact absurd (pre_antisymm (List.prefix_of_prefix_length_le hz pre h) hyz) hzy
              have hp := pre_bit hyz hl2
              rw [← bit_of_pre hz hl2, hbt] at hp
              exact .inr ⟨hp, by rw [← hg z hp]; exact hk⟩
          refine ⟨q.or (v.map fun w => (y, w)), ?_, by rw [e, fb, Option.or_assoc]⟩
          cases q with
          | some a =>
            have pa := key_pre wc hu (by rw [hq.2.1]; simp : c.get a.1 ≠ none)
            refine ⟨hq.1, (hg _ pa).trans hq.2.1, fun z hz hk => ?_⟩
            rcases other z hz hk with rfl | ⟨_, hc⟩
            · exact Nat.le_of_lt (pre_lt pa).1
            · exact hq.2.2 z hz hc
          | none =>
            cases v with
            | none =>
              refine fun z hz => Classical.byContradiction fun hk => ?_
              rcases other z hz hk with rfl | ⟨_, hc⟩
              · exact hk get_root
              · exact hc (hq z hz)
            | some w =>
              refine ⟨pre, get_root, fun z hz hk => ?_⟩
              rcases other z hz hk with rfl | ⟨_, hc⟩
              · exact Nat.le_refl _
              · exact absurd (hq z hz) hc
        cases hbt : bitAt A y.length with
        | false => exact key l false hbt hl wl (fun z hz => get_left hz) (ihl wl ll hA)
        | true => exact key r true hbt hr wr (fun z hz => get_right hz) (ihr wr lr hA)
    · rw [if_neg h1]
      refine ⟨none, fun z hz => ?_, rfl⟩
      refine key_none wt node_self fun hyz => h1 ?_
      exact (List.prefix_iff_eq_take.mp (hyz.trans hz)).symm
theorem look_seen {b : Nat} {t : T} {A : Bits} (w : t.WF) (h : t.Len b) (hA : A.length = b) : Seen t.get A (t.look b A none) := by
  obtain ⟨r, hr, e⟩ := look_good (f := none) w h hA
  rw [e, Option.or_none]; exact hr
theorem seen_longer {g k : Bits → Option Nat} {A : Bits} {r q : Option (Bits × Nat)} (hr : Seen g A r) (hq : Seen k A q) : Seen (fun z => (g z).or (k z)) A (longer r q) := by
  cases r with
  | none =>
    cases q with
    | none => exact fun z hz => by simp [hr z hz, hq z hz]
    | some b => exact ⟨hq.1, by simp [hr b.1 hq.1, hq.2.1], fun z hz hk => hq.2.2 z hz (by simpa [hr z hz] using hk)⟩
  | some a =>
    cases q with
    | none => exact ⟨hr.1, by simp [hr.2.1], fun z hz hk => hr.2.2 z hz (by simpa [hq z hz] using hk)⟩
    | some b =>
      have split : ∀ z, (g z).or (k z) ≠ none → g z ≠ none ∨ k z ≠ none := fun z h => by
        cases e : g z with
        | some w => exact .inl (by simp)
        | none => rw [e] at h; exact .inr (by simpa using h)
      simp only [longer]
      by_cases h : a.1.length < b.1.length
      · rw [if_pos h]
        refine ⟨hq.1, ?_, fun z hz hk => ?_⟩
        · have : g b.1 = none := Classical.byContradiction fun hc => by have := hr.2.2 b.1 hq.1 hc; omega
          simp [this, hq.2.1]
        · rcases split z hk with h1 | h1
          · have := hr.2.2 z hz h1; omega
          · exact hq.2.2 z hz h1
      · rw [if_neg h]
        refine ⟨hr.1, by simp [hr.2.1], fun z hz hk => ?_⟩
        rcases split z hk with h1 | h1
        · exact hr.2.2 z hz h1
        · have := hq.2.2 z hz h1; omega
theorem look_law {b : Nat} {f s : T} {A : Bits} (hf : f.WF) (hs : s.WF) (lf : f.Len b) (ls : s.Len b) (hA : A.length = b) :
    (f.over s).look b A none = longer (s.look b A none) (f.look b A none) := by
  have h1 := look_seen (over_wf (u := s) hf) (over_len lf hs ls) hA
  have h2 := seen_longer (look_seen hs ls hA) (look_seen hf lf hA)
  have e : (f.over s).get = fun z => (s.get z).or (f.get z) := funext fun z => over_get hf hs z
  rw [e] at h1
  exact seen_one h1 h2
/-! ## the law's other clauses -/
theorem over_assoc {f s t : T} (hf : f.WF) (hs : s.WF) (ht : t.WF) : (f.over s).over t = f.over (s.over t) := by
  refine tree_ext (over_wf (over_wf hf)) (over_wf hf) fun z => ?_
  rw [over_get (over_wf hf) ht, over_get hf hs, over_get hf (over_wf hs), over_get hs ht, Option.or_assoc]
theorem over_self {s : T} (hs : s.WF) : s.over s = s := by
  refine tree_ext (over_wf hs) hs fun z => ?_
  rw [over_get hs hs]; cases s.get z <;> rfl
theorem over_back {f s : T} (hf : f.WF) (hs : s.WF) : (s.over f).over s = f.over s := by
  refine tree_ext (over_wf (over_wf hs)) (over_wf hf) fun z => ?_
  rw [over_get (over_wf hs) hs, over_get hs hf, over_get hf hs]
  cases s.get z <;> cases f.get z <;> rfl
theorem over_unlike {f s : T} (hf : f.WF) (hs : s.WF) : s.over f = f.over s ↔ (∀ row ∈ f.all, row.1 ∈ s.all.map (·.1) → row ∈ s.all) := by
  constructor
  · intro h
    rintro ⟨x, w⟩ hm hk
    obtain ⟨⟨x', w'⟩, hm', rfl⟩ := List.mem_map.mp hk
    have e1 := (mem_all hf _ _).mp hm
    have e2 := (mem_all hs _ _).mp hm'
    have := congrArg (fun t => t.get x') h
    simp only [over_get hs hf, over_get hf hs] at this
    dsimp only at e1
    rw [e1, e2] at this
    have hw : w = w' := by simpa using this
    rw [hw]; exact hm'
  · intro h
    refine tree_ext (over_wf hs) (over_wf hf) fun z => ?_
    rw [over_get hs hf, over_get hf hs]
    cases e1 : f.get z with
    | none => cases s.get z <;> rfl
    | some w =>
      cases e2 : s.get z with
      | none => rfl
      | some w' =>
        have m1 := (mem_all hf z w).mpr e1
        have m2 := (mem_all hs z w').mpr e2
        have := (mem_all hs z w).mp (h _ m1 (List.mem_map.mpr ⟨_, m2, rfl⟩))
        rw [e2] at this
        exact this.symm
theorem drop_law {f s : T} {p : Bits} (hf : f.WF) (hs : s.WF) : (f.over s).drop p = (f.drop p).over (s.drop p) := by
  refine tree_ext (drop_wf (over_wf hf)) (over_wf (drop_wf hf)) fun z => ?_
  rw [drop_get (over_wf hf), over_get hf hs, over_get (drop_wf hf) (drop_wf hs), drop_get hf, drop_get hs]
  by_cases h : z = p
  · simp [h]
  · simp [h]
end Mine

end L3
section E1
set_option autoImplicit false
namespace Mine
/-! ## prefixes as numbers -/
def bval (x : Bits) : Nat := x.foldl (fun n c => 2 * n + c.toNat) 0
def enc (b : Nat) (x : Bits) : Nat := bval x * 2 ^ (b - x.length)
def bitN (a i b : Nat) : Nat := a / 2 ^ (b - 1 - i) % 2
def firstN (a n b : Nat) : Nat := a / 2 ^ (b - n) * 2 ^ (b - n)
def bitsOf : Nat → List Bits
  | 0 => [[]]
  | n + 1 => (bitsOf n).map (false :: ·) ++ (bitsOf n).map (true :: ·)
theorem mem_bitsOf : ∀ x : Bits, x ∈ bitsOf x.length
  | [] => by simp [bitsOf]
  | c :: x => by
    have := mem_bitsOf x
    cases c <;> simp [bitsOf, this]
def bitsTo (b : Nat) : List Bits := (List.range (b + 1)).flatMap bitsOf
theorem mem_bitsTo {x : Bits} {b : Nat} (h : x.length ≤ b) : x ∈ bitsTo b :=
  List.mem_flatMap.mpr ⟨x.length, List.mem_range.mpr (by omega), mem_bitsOf x⟩
theorem len_bitsOf : ∀ (n : Nat) (x : Bits), x ∈ bitsOf n → x.length = n
  | 0, x, h => by simp [bitsOf] at h; simp [h]
  | n + 1, x, h => by
    simp only [bitsOf, List.mem_append, List.mem_map] at h
    rcases h with ⟨y, hy, rfl⟩ | ⟨y, hy, rfl⟩ <;> simp [len_bitsOf n y hy]
theorem le4 {P : Nat → Prop} (h : P 0 ∧ P 1 ∧ P 2 ∧ P 3 ∧ P 4) : ∀ b, b ≤ 4 → P b := by
  intro b hb
  match b, hb with
  | 0, _ => exact h.1
  | 1, _ => exact h.2.1
  | 2, _ => exact h.2.2.1
  | 3, _ => exact h.2.2.2.1
  | 4, _ => exact h.2.2.2.2
theorem bitN_all : ∀ b ∈ [0, 1, 2, 3, 4], ∀ x ∈ bitsTo b, ∀ i ∈ List.range x.length, bitN (enc b x) i b = (bitAt x i).toNat := by decide +kernel
theorem firstN_all : ∀ b ∈ [0, 1, 2, 3, 4], ∀ x ∈ bitsTo b, ∀ k ∈ List.range (x.length + 1), firstN (enc b x) k b = enc b (x.take k) := by decide +kernel
theorem enc_all : ∀ b ∈ [0, 1, 2, 3, 4], ∀ n ∈ List.range (b + 1), ∀ x ∈ bitsOf n, ∀ y ∈ bitsOf n, enc b x = enc b y → x = y := by decide +kernel
theorem enc_lt_all : ∀ b ∈ [0, 1, 2, 3, 4], ∀ x ∈ bitsTo b, enc b x < 2 ^ b := by decide +kernel
theorem enc_ex_all : ∀ b ∈ [0, 1, 2, 3, 4], ∀ n ∈ List.range (b + 1), ∀ a ∈ List.range (2 ^ n), ∃ x ∈ bitsOf n, enc b x = a * 2 ^ (b - n) := by decide +kernel
theorem mem04 {b : Nat} (h : b ≤ 4) : b ∈ [0, 1, 2, 3, 4] := by
  simp only [List.mem_cons, List.not_mem_nil, or_false]; omega
theorem bitN_enc {b : Nat} {x : Bits} {i : Nat} (hb : b ≤ 4) (hx : x.length ≤ b) (hi : i < x.length) : bitN (enc b x) i b = (bitAt x i).toNat :=
  bitN_all b (mem04 hb) x (mem_bitsTo hx) i (List.mem_range.mpr hi)
theorem firstN_enc {b : Nat} {x : Bits} {k : Nat} (hb : b ≤ 4) (hx : x.length ≤ b) (hk : k ≤ x.length) : firstN (enc b x) k b = enc b (x.take k) :=
  firstN_all b (mem04 hb) x (mem_bitsTo hx) k (List.mem_range.mpr (by omega))
theorem enc_inj {b : Nat} {x y : Bits} (hb : b ≤ 4) (hx : x.length ≤ b) (hl : x.length = y.length) (h : enc b x = enc b y) : x = y :=
  enc_all b (mem04 hb) x.length (List.mem_range.mpr (by omega)) x (mem_bitsOf x) y (hl ▸ mem_bitsOf y) h
theorem enc_lt {b : Nat} {x : Bits} (hb : b ≤ 4) (hx : x.length ≤ b) : enc b x < 16 := by
  have := enc_lt_all b (mem04 hb) x (mem_bitsTo hx)
  have : 2 ^ b ≤ 2 ^ 4 := Nat.pow_le_pow_right (by decide) hb
  omega
theorem enc_ex {b n a : Nat} (hb : b ≤ 4) (hn : n ≤ b) (ha : a < 2 ^ n) : ∃ x : Bits, x.length = n ∧ enc b x = a * 2 ^ (b - n) := by
  obtain ⟨x, hx, e⟩ := enc_ex_all b (mem04 hb) n (List.mem_range.mpr (by omega)) a (List.mem_range.mpr ha)
  exact ⟨x, len_bitsOf n x hx, e⟩
end Mine

end E1
section Hd
open PySem PySem.W PyProof.Rows
set_option Elab.async false
namespace Mine
set_option maxRecDepth 100000 in
set_option maxHeartbeats 8000000 in
open_top hd for PySem.Challenge.rw_sj0172_01
end Mine

end Hd
section W0
open PySem PySem.W PyProof.Rows PySem.Spec PySem.Calls
set_option Elab.async false
set_option maxRecDepth 100000
set_option linter.unusedVariables false
namespace Mine
abbrev Tel (w : World) (mean : ExcName → Option Value) (mg mb : Str → Option Value) {D : Type} (f : Addr) (c : ToldN D) (d : D) : Prop :=
  TellsN PySem.Challenge.rw_sj0172_01.row.prog w (hd.heap_39 w.params) hd.view_39 (looseW hd.view_39 []) mean mg mb f c d
abbrev Led := List (Addr × Obj)
abbrev tupO (vs : List Value) (n : Nat) : Obj := { cls := .type "tuple", data := .seq vs.toArray n }
/-! ## what the ledger bears -/
inductive PIn (news : Led) (b : Nat) : Value → Bits → Prop where
  | mk {pa : Addr} {n : Nat} {t1 t2 : Tok} {x : Bits} : (pa, tupO [.int (enc b x) t1, .int x.length t2] n) ∈ news → PIn news b (.ref pa) x
inductive WIn : Value → Option Nat → Prop where
  | none : WIn .none none
  | some (k : Nat) (t : Tok) : WIn (.int k t) (some k)
inductive TIn (news : Led) (b : Nat) : Value → T → Prop where
  | nil : TIn news b .none .nil
  | node {a pa : Addr} {n1 n2 : Nat} {t1 t2 : Tok} {wv lv rv : Value} {x : Bits} {v : Option Nat} {l r : T} :
      (a, tupO [.ref pa, wv, lv, rv] n1) ∈ news → (pa, tupO [.int (enc b x) t1, .int x.length t2] n2) ∈ news →
      WIn wv v → TIn news b lv l → TIn news b rv r → TIn news b (.ref a) (.node x v l r)
theorem PIn.mono {news news' : Led} {b : Nat} {v : Value} {x : Bits} (h : PIn news b v x) (hs : ∀ p ∈ news, p ∈ news') : PIn news' b v x := by
  cases h with
  | mk h => exact .mk (hs _ h)
theorem TIn.mono {news news' : Led} {b : Nat} {v : Value} {t : T} (h : TIn news b v t) (hs : ∀ p ∈ news, p ∈ news') : TIn news' b v t := by
  induction h with
  | nil => exact .nil
  | node h1 h2 hw _ _ ihl ihr => exact .node (hs _ h1) (hs _ h2) hw ihl ihr
section
variable {h₀ h : Heap} {L : Addr} {p q r : Addr × Obj} {news tl : Led}
theorem left_ (h : p ∈ news) : p ∈ news ++ tl := List.mem_append.mpr (.inl h)
theorem sub_cons {a l : Led} (h : ∀ p ∈ a, p ∈ l) : ∀ p ∈ a, p ∈ q :: l := fun p hp => .tail _ (h p hp)
theorem sub_left {a l k : Led} (h : ∀ p ∈ a, p ∈ l) : ∀ p ∈ a, p ∈ l ++ k := fun p hp => List.mem_append.mpr (.inl (h p hp))
theorem sub_right {a l k : Led} (h : ∀ p ∈ a, p ∈ k) : ∀ p ∈ a, p ∈ l ++ k := fun p hp => List.mem_append.mpr (.inr (h p hp))
theorem sub_of_cons {a l : Led} (h1 : q ∈ l) (h : ∀ p ∈ a, p ∈ l) : ∀ p ∈ q :: a, p ∈ l := fun p hp => (List.mem_cons.mp hp).elim (fun e => e ▸ h1) (h p)
theorem sub_of_app {a c l : Led} (h1 : ∀ p ∈ a, p ∈ l) (h2 : ∀ p ∈ c, p ∈ l) : ∀ p ∈ a ++ c, p ∈ l := fun p hp => (List.mem_append.mp hp).elim (h1 p) (h2 p)
theorem subL : ∀ p ∈ news, p ∈ news ++ tl := fun _ h => List.mem_append.mpr (.inl h)
theorem end1 (N : News h₀ L h (q :: news)) : News h₀ L h (news ++ [q]) := ktn_tl1 N
theorem end1t (N : News h₀ L h (q :: (news ++ tl))) : News h₀ L h (news ++ (q :: tl)) := ktn_tl2 N
theorem end2 {a c : Addr × Obj} (N : News h₀ L h (a :: c :: news)) : News h₀ L h (news ++ [a, c]) := fun p hp => N p (by simp only [List.mem_append, List.mem_cons] at hp ⊢; rcases hp with h | h | h | h <;> simp_all)
theorem end2t {a c : Addr × Obj} (N : News h₀ L h (a :: c :: (news ++ tl))) : News h₀ L h (news ++ (a :: c :: tl)) := fun p hp => N p (by simp only [List.mem_append, List.mem_cons] at hp ⊢; rcases hp with h | h | h | h <;> simp_all)
theorem end3 {a c d : Addr × Obj} (N : News h₀ L h (a :: c :: d :: news)) : News h₀ L h (news ++ [a, c, d]) := fun p hp => N p (by simp only [List.mem_append, List.mem_cons] at hp ⊢; rcases hp with h | h | h | h | h <;> simp_all)
theorem end3t {a c d : Addr × Obj} (N : News h₀ L h (a :: c :: d :: (news ++ tl))) : News h₀ L h (news ++ (a :: c :: d :: tl)) := fun p hp => N p (by simp only [List.mem_append, List.mem_cons] at hp ⊢; rcases hp with h | h | h | h | h <;> simp_all)
theorem end4t {a c d e : Addr × Obj} (N : News h₀ L h (a :: c :: d :: e :: (news ++ tl))) : News h₀ L h (news ++ (a :: c :: d :: e :: tl)) := fun p hp => N p (by simp only [List.mem_append, List.mem_cons] at hp ⊢; rcases hp with h | h | h | h | h | h <;> simp_all)
theorem ord_cons {a : Addr} {o : Obj} (h1 : ∀ q ∈ news, q.1 < a) (h2 : ∀ q ∈ news, ∀ p ∈ tl, q.1 < p.1) : ∀ q ∈ news, ∀ p ∈ (a, o) :: tl, q.1 < p.1 := fun q hq p hp =>
  (List.mem_cons.mp hp).elim (fun e => e ▸ h1 q hq) (h2 q hq p)
theorem ord_app {tl' : Led} (h1 : ∀ q ∈ news, ∀ p ∈ tl, q.1 < p.1) (h2 : ∀ q ∈ news, ∀ p ∈ tl', q.1 < p.1) : ∀ q ∈ news, ∀ p ∈ tl ++ tl', q.1 < p.1 := fun q hq p hp =>
  (List.mem_append.mp hp).elim (h1 q hq p) (h2 q hq p)
theorem ord_of {led : Led} (h1 : ∀ q ∈ led, ∀ p ∈ tl, q.1 < p.1) (s : ∀ p ∈ news, p ∈ led) : ∀ q ∈ news, ∀ p ∈ tl, q.1 < p.1 := fun q hq => h1 q (s q hq)
theorem lt_consA {a c : Addr} {o : Obj} (h1 : c < a) (h2 : ∀ q ∈ news, q.1 < a) : ∀ q ∈ (c, o) :: news, q.1 < a := fun q hq => (List.mem_cons.mp hq).elim (fun e => e ▸ h1) (h2 q)
theorem lt_of {led : Led} {a : Addr} (h1 : ∀ q ∈ led, q.1 < a) (s : ∀ p ∈ news, p ∈ led) : ∀ q ∈ news, q.1 < a := fun q hq => h1 q (s q hq)
end
/-! ## first_bits, bit_of -/
inductive NumsR (news : Led) : List Value → Nat × Nat × Nat → Prop where
  | mk {a i b : Nat} {t1 t2 t3 : Tok} : NumsR news [.int a t1, .int i t2, .int b t3] (a, i, b)
abbrev bitT : ToldN (Nat × Nat × Nat) where
  Rel := NumsR
  Ok := fun d => d.2.1 < d.2.2 ∧ d.2.2 ≤ 4
  size := fun _ => 1
  Tl := fun tl => tl = []
  Out := fun _ r d => ∃ t, r = .int (bitN d.1 d.2.1 d.2.2) t
theorem bit_val {a i b : Nat} (h : i < b) : Builtin.bitAnd ((a : Int).fdiv (2 ^ ((b : Int) - 1 - i).toNat)) 1 = (bitN a i b : Int) := by
  have e : ((b : Int) - 1 - i).toNat = b - 1 - i := by omega
  rw [e]
  have e2 : (a : Int).fdiv (2 ^ (b - 1 - i)) = ((a / 2 ^ (b - 1 - i) : Nat) : Int) := by
    rw [Int.fdiv_eq_ediv_of_nonneg _ (by exact_mod_cast Nat.zero_le _)]
    norm_cast
  rw [e2]
  unfold bitN
  rw [bitAnd_m1]
  norm_cast
set_option maxHeartbeats 4000000 in
theorem bit_tells (w : World) (mean : ExcName → Option Value) (mg mb : Str → Option Value) : ∀ d, Tel w mean mg mb 28 bitT d := by
  delta Tel
  k_fill
  refine tellsN_of fun d IH => ?_
  unfold TellsN
  intro dp un gd cn cs a ccd cl outer A₀ base h₀ L m news s vs Q E B F X N T hk hR hok hd hu hret
  clear IH
  obtain @⟨a₁, i, b, t1, t2, t3⟩ := hR
  obtain ⟨h1, h2⟩ := hok
  dsimp only at *
  refine wpAny_call ?_
  k_dflt ktr_enter
  k_steps
  exact hret _ [] _ _ (by assumption) (ktn_tl0 (by assumption)) ktn_ord0 rfl ⟨_, by rw [bit_val h1]⟩
theorem first_val {a n b : Nat} (h : n ≤ b) : (a : Int).fdiv (2 ^ ((b : Int) - n).toNat) * 2 ^ ((b : Int) - n).toNat = (firstN a n b : Int) := by
  have e : ((b : Int) - n).toNat = b - n := by omega
  rw [e, Int.fdiv_eq_ediv_of_nonneg _ (by exact_mod_cast Nat.zero_le _)]
  unfold firstN
  norm_cast
abbrev firstT : ToldN (Nat × Nat × Nat) where
  Rel := NumsR
  Ok := fun d => d.2.1 ≤ d.2.2 ∧ d.2.2 ≤ 4 ∧ d.1 < 16
  size := fun _ => 1
  Tl := fun tl => tl = []
  Out := fun _ r d => ∃ t, r = .int (firstN d.1 d.2.1 d.2.2) t
set_option maxHeartbeats 4000000 in
theorem first_tells (w : World) (mean : ExcName → Option Value) (mg mb : Str → Option Value) : ∀ d, Tel w mean mg mb 21 firstT d := by
  delta Tel
  k_fill
  refine tellsN_of fun d IH => ?_
  unfold TellsN
  intro dp un gd cn cs a ccd cl outer A₀ base h₀ L m news s vs Q E B F X N T hk hR hok hd hu hret
  clear IH
  obtain @⟨a₁, i, b, t1, t2, t3⟩ := hR
  obtain ⟨h1, h2, h3⟩ := hok
  dsimp only at *
  refine wpAny_call ?_
  k_dflt ktr_enter
  k_steps
  exact hret _ [] _ _ (by assumption) (ktn_tl0 (by assumption)) ktn_ord0 rfl ⟨_, by rw [first_val h1]⟩
/-! ## a while that turns one counter -/
def CntEnd (h₀ : Heap) (L : Addr) (s : Shared) (news : Led) (m₀ : Str → Option Value) (y : Str) (I : Nat → Prop) (mz : Nat → Nat) (c : Nat) (f : Flow) (s₃ : Shared) : Prop :=
  f = .next ∧ ∃ h' tk' c' t' m', s₃ = { s with heap := h', toks := tk' } ∧ Fr h₀ L h' m' ∧ News h₀ L h' news ∧ m' y = some (.int (c' : Nat) t') ∧ (∀ z, z ≠ y → m' z = m₀ z) ∧ mz c' < mz c ∧ I c'
section
variable {prog : Program} {w : World} {A : Around} {E : Value → Shared → Prop} {Q : Flow → Shared → Prop} {s : Shared} {env : Env} {h₀ : Heap} {L : Addr}
theorem while_cnt {test : PySem.Expr} {body : List Stmt} {pos : Pos} {m₀ : Str → Option Value} {news : Led} {y : Str} (I : Nat → Prop) (mz : Nat → Nat) {c₀ : Nat} {t₀ : Tok}
    (F : Fr h₀ L s.heap m₀) (N : News h₀ L s.heap news) (hy : m₀ y = some (.int c₀ t₀)) (hi : I c₀)
    (turn : ∀ (c : Nat) t h tk, I c → Fr h₀ L h (fun z => if z = y then some (.int c t) else m₀ z) → News h₀ L h news →
      wpAny (model prog w) A (isTrue test env (eval test env)) (fun b s₂ =>
        if b = true then wpAny (model prog w) A (execs body env) (CntEnd h₀ L s news m₀ y I mz c) E s₂ else Q .next s₂) E { s with heap := h, toks := tk })
    (hE : PassesOwn (model prog w) A env E := by passes_own) :
    wpAny (model prog w) A (exec (.While test body [] pos) env) Q E s := by
  refine While_inv (fun n m nx => nx = news ∧ ∃ (c : Nat) (t : Tok), mz c = n ∧ m y = some (.int c t) ∧ (∀ z, z ≠ y → m z = m₀ z) ∧ I c) F N ⟨rfl, c₀, t₀, rfl, hy, fun _ _ => rfl, hi⟩ ?_ hE
  rintro n m₁ nx h tk F₁ N₁ ⟨hnx, c, t, rfl, hc, hm, hI⟩
  subst hnx
  have e : (fun z => if z = y then some (.int c t) else m₀ z) = m₁ := by
    funext z
    by_cases h1 : z = y
    · subst h1; simp [hc]
    · simp only [if_neg h1]; exact (hm z h1).symm
  refine wpAny_mono (turn c t h tk hI (by rw [e]; exact F₁) N₁) (fun b s₂ p => ?_) fun _ _ x => x
  cases b with
  | false => simpa using p
  | true =>
    simp only [if_true] at p ⊢
    refine wpAny_mono p (fun f s₃ q => ?_) fun _ _ x => x
    obtain ⟨rfl, h', tk', c', t', m', rfl, F', N', hv, hm', hlt, hI'⟩ := q
    exact ⟨rfl, h', tk', m', nx, mz c', rfl, F', N', hlt, rfl, c', t', rfl, hv, hm', hI'⟩
end
end Mine

end W0
section W1
open PySem PySem.W PyProof.Rows PySem.Spec PySem.Calls
set_option Elab.async false
set_option maxRecDepth 100000
set_option linter.unusedVariables false
namespace Mine
/-! ## shared_length -/
inductive ShareR (news : Led) : List Value → Nat × Bits × Bits → Prop where
  | mk {b : Nat} {x y : Bits} {v1 v2 : Value} {t : Tok} : PIn news b v1 x → PIn news b v2 y → ShareR news [v1, v2, .int b t] (b, x, y)
abbrev shareT : ToldN (Nat × Bits × Bits) where
  Rel := ShareR
  Ok := fun d => d.1 ≤ 4 ∧ d.2.1.length ≤ d.1 ∧ d.2.2.length ≤ d.1
  size := fun _ => 2
  Tl := fun tl => tl = []
  Out := fun _ r d => ∃ t, r = .int (lcp d.2.1 d.2.2) t
theorem share_min {x y : Bits} {c : Nat} : ((c : Int) < if (y.length : Int) < x.length then (y.length : Int) else x.length) ↔ c < x.length ∧ c < y.length := by
  split <;> omega
theorem share_up {b c : Nat} {x y : Bits} (hb : b ≤ 4) (hx : x.length ≤ b) (hy : y.length ≤ b) (hc : c ≤ lcp x y) (h1 : (c : Int) < if (y.length : Int) < x.length then (y.length : Int) else x.length)
    (h2 : (bitN (enc b x) c b : Int) = bitN (enc b y) c b) : min x.length y.length - (c + 1) < min x.length y.length - c ∧ c + 1 ≤ lcp x y := by
  obtain ⟨a, d⟩ := share_min.mp h1
  refine ⟨by omega, ?_⟩
  rw [bitN_enc hb hx a, bitN_enc hb hy d] at h2
  rcases Nat.lt_or_eq_of_le hc with h | h
  · exact h
  · have := lcp_ne x y (by omega) (by omega)
    rw [← h] at this
    rw [this] at h2
    generalize bitAt x c = q at h2
    cases q <;> simp at h2
theorem share_bit {b c : Nat} {x y : Bits} (hb : b ≤ 4) (hx : x.length ≤ b) (hy : y.length ≤ b) (hc : c ≤ lcp x y) (h1 : (c : Int) < if (y.length : Int) < x.length then (y.length : Int) else x.length)
    (h2 : (bitN (enc b x) c b : Int) ≠ bitN (enc b y) c b) : c = lcp x y := by
  obtain ⟨a, d⟩ := share_min.mp h1
  rw [bitN_enc hb hx a, bitN_enc hb hy d] at h2
  rcases Nat.lt_or_eq_of_le hc with h | h
  · have e := lcp_take x y
    have : bitAt x c = bitAt y c := by
      rw [bit_of_pre (List.take_prefix (lcp x y) x) (i := c) (by simp; omega), e, ← bit_of_pre (List.take_prefix (lcp x y) y) (i := c) (by simp; omega)]
    rw [this] at h2; exact absurd rfl h2
  · exact h
theorem share_end {c : Nat} {x y : Bits} (hc : c ≤ lcp x y) (h1 : ¬ (c : Int) < if (y.length : Int) < x.length then (y.length : Int) else x.length) : c = lcp x y := by
  rw [share_min] at h1
  have := lcp_le_left x y
  have := lcp_le_right x y
  omega
local macro_rules | `(tactic| k_mem) => `(tactic| first
  | with_reducible assumption
  | exact List.mem_cons_self
  | (refine List.mem_cons_of_mem _ ?_; k_mem)
  | (refine List.mem_append.mpr (Or.inl ?_); k_mem)
  | (refine List.mem_append.mpr (Or.inr ?_); k_mem)
  | fail "k_mem: not there")
local macro_rules | `(tactic| ktr_rel) => `(tactic| (dsimp only; omega))
set_option maxHeartbeats 4000000 in
theorem share_tells (w : World) (mean : ExcName → Option Value) (mg mb : Str → Option Value) : ∀ d, Tel w mean mg mb 35 shareT d := by
  have Cbit := bit_tells w mean mg mb
  delta Tel
  unfold Tel at Cbit
  k_fill
  refine tellsN_of fun d IH => ?_
  unfold TellsN
  intro dp un gd cn cs a ccd cl outer A₀ base h₀ L m news s vs Q E B F X N T hk hR hok hd hu hret
  clear IH
  obtain @⟨b, x, y, v1, v2, t, p1, p2⟩ := hR
  obtain ⟨h1, h2, h3⟩ := hok
  dsimp only at *
  obtain @⟨pa, n, t1, t2, x, m1⟩ := p1
  obtain @⟨pa', n', t1', t2', y, m2⟩ := p2
  have g1 := lcp_le_left x y
  have g2 := lcp_le_right x y
  k_with "call ref" => ktn_call "bit_of" bitT
  k_with "exec While BoolOp cons nil" => (k_dflt (refine while_cnt (y := Str.ofString "many") (fun c => c ≤ lcp x y) (fun c => min x.length y.length - c) (by assumption) (by assumption) (by rfl) (Nat.zero_le _) ?_); intro c t' h' tk' hc wF wN; (try k_fold))
  refine wpAny_call ?_
  k_dflt ktr_enter
  k_steps
  · obtain ⟨u1, u2⟩ := share_up h1 h2 h3 hc (by assumption) (by assumption)
    exact ⟨rfl, _, _, c + 1, _, _, rfl, by assumption, by assumption, rfl, fun z hz => if_neg hz |>.trans (if_neg hz), u1, u2⟩
  · have e := share_bit h1 h2 h3 hc (by assumption) (by assumption)
    subst e
    exact hret _ [] _ _ (by assumption) (ktn_tl0 fun p hp => (by assumption : News _ _ _ (_ :: news)) p (.tail _ hp)) ktn_ord0 rfl ⟨_, rfl⟩
  · have e := share_end hc (by assumption)
    subst e
    exact hret _ [] _ _ (by assumption) (ktn_tl0 fun p hp => (by assumption : News _ _ _ (_ :: news)) p (.tail _ hp)) ktn_ord0 rfl ⟨_, rfl⟩
end Mine

end W1
open PySem PySem.W PyProof.Rows PySem.Spec PySem.Calls
set_option Elab.async false
set_option maxRecDepth 100000
set_option linter.unusedVariables false
namespace Mine
local macro_rules | `(tactic| k_mem) => `(tactic| first
  | with_reducible assumption
  | exact List.mem_cons_self
  | (refine List.mem_cons_of_mem _ ?_; k_mem)
  | (refine List.mem_append.mpr (Or.inl ?_); k_mem)
  | (refine List.mem_append.mpr (Or.inr ?_); k_mem)
  | fail "k_mem: not there")
local macro_rules | `(tactic| ktd_sub) => `(tactic| first
  | exact fun _ h => h
  | (refine sub_of_app ?_ ?_ <;> ktd_sub)
  | (refine' sub_of_cons ?hm ?hr; (case hm => k_mem); (case hr => ktd_sub))
  | (refine sub_cons ?_; ktd_sub)
  | (refine sub_left ?_; ktd_sub)
  | (refine sub_right ?_; ktd_sub)
  | fail "ktd_sub: not under it")
local macro_rules | `(tactic| walk_at "ite") => `(tactic| (k_here; first
  | refine ite_pos (beq_iff_eq.mpr (by omega)) ?_
  | refine ite_neg (fun h => absurd (beq_iff_eq.mp h) (by omega)) ?_
  | refine ite_pos (by omega) ?_
  | refine ite_neg (by omega) ?_))
local macro_rules | `(tactic| tbn_lt) => `(tactic| first
  | assumption
  | exact ktn_ltOf (by first | assumption | exact And.right (by assumption) | exact And.right (And.right (by assumption)) | exact And.right (And.right (And.right (by assumption))) | exact And.right (And.right (And.right (And.right (by assumption)))))
  | (refine lt_of (ktn_ltOf (by first | assumption | exact And.right (by assumption) | exact And.right (And.right (by assumption)) | exact And.right (And.right (And.right (by assumption))) | exact And.right (And.right (And.right (And.right (by assumption)))))) ?_; ktd_sub)
  | (refine lt_of (by assumption) ?_; ktd_sub)
  | (refine' lt_consA ?hm ?hr; (case hm => first | assumption | omega); (case hr => tbn_lt))
  | fail "tbn_lt: no order")
local macro_rules | `(tactic| ktn_ord) => `(tactic| first
  | exact ktn_ord0
  | (refine' ord_cons ?hm ?hr; (case hm => tbn_lt); (case hr => ktn_ord))
  | (refine ord_app ?_ ?_ <;> ktn_ord)
  | (refine ord_of (by assumption) ?_; ktd_sub)
  | fail "ktn_ord: no order")
local macro_rules | `(tactic| walk_at "subscriptTail Name Constant ref int") => `(tactic| (k_here; k_dflt (refine' item_tupleT ?t ?a ?b ?c ?d ?_; (case t => exact News.isTup (by k_asm) (by k_mem)); (case a => decide); (case b => decide); (case c => rfl); (case d => rfl); k_whole)))
local macro_rules | `(tactic| walk_at "subscriptTail Subscript Name Constant Constant ref int") => `(tactic| (k_here; k_dflt (refine' item_tupleT ?t ?a ?b ?c ?d ?_; (case t => exact News.isTup (by k_asm) (by k_mem)); (case a => decide); (case b => decide); (case c => rfl); (case d => rfl); k_whole)))
local macro_rules | `(tactic| ktr_rel) => `(tactic| first
  | (dsimp only; omega)
  | ((try dsimp only [Mine.T.withC]); exact fun h => nomatch h)
  | (refine ⟨by assumption, ?_⟩; dsimp only; omega)
  | (refine ⟨by assumption, by assumption, ?_⟩; dsimp only; omega)
  | (refine ⟨by assumption, by assumption, by assumption, ?_⟩; dsimp only; omega))

section W2

/-! ## bit_of at a prefix, its bit told by the context -/
theorem use_bit {w : World} {mean : ExcName → Option Value} {mg mb : Str → Option Value} {dp un : Nat} {gd : Option (List Code)} {cn : Str} {cs : Scope} {a : Addr} {ccd : Value} {cl : List (Str × Addr)} {outer : List Env} {A₀ : Around} {base h₀ : Heap} {L : Addr}
    {m : Str → Option Value} {news : Led} {s : Shared} {Q E : Value → Shared → Prop} {b i : Nat} {x : Bits} {t1 t2 t3 : Tok} {r : Int}
    (B : Below A₀ base outer h₀) (F : Fr h₀ L s.heap m) (X : (hd.heap_39 w.params).In h₀) (N : News h₀ L s.heap news) (T : Top hd.view_39 (looseW hd.view_39 []) mean mg mb h₀) (hk : cs.kind = .function)
    (hr : (bitAt x i = true ∧ r = 1) ∨ (bitAt x i = false ∧ r = 0)) (hi : i < x.length) (hx : x.length ≤ b) (hb : b ≤ 4) (hd : dp + 1 < recursionLimit) (hu : un + 8 < cLine)
    (ret : ∀ t h' tk', Fr h₀ L h' m → News h₀ L h' news → Q (.int r t) { s with heap := h', toks := tk' }) :
    wpAny (model PySem.Challenge.rw_sj0172_01.row.prog w) (ktrTop dp un gd cn cs L a ccd cl outer) (call (.ref 28) [.int (enc b x) t1, .int i t2, .int b t3]) Q E s := by
  refine tellsN_use B F X N T hk NumsR.mk (bit_tells w mean mg mb (enc b x, i, b)) ⟨by dsimp only; omega, hb⟩ hd hu fun r' tl h' tk' F' N' ho ht hr' => ?_
  obtain ⟨t, rfl⟩ := hr'
  dsimp only at *
  subst ht
  rw [List.append_nil] at N'
  rw [bitN_enc hb hx hi]
  rcases hr with ⟨e, rfl⟩ | ⟨e, rfl⟩ <;> (rw [e]; exact ret t h' tk' F' N')
theorem use_bitG {w : World} {mean : ExcName → Option Value} {mg mb : Str → Option Value} {dp un : Nat} {gd : Option (List Code)} {cn : Str} {cs : Scope} {a : Addr} {ccd : Value} {cl : List (Str × Addr)} {outer : List Env} {A₀ : Around} {base h₀ : Heap} {L : Addr}
    {m : Str → Option Value} {news : Led} {s : Shared} {Q E : Value → Shared → Prop} {b i : Nat} {x : Bits} {t1 t2 t3 : Tok}
    (B : Below A₀ base outer h₀) (F : Fr h₀ L s.heap m) (X : (hd.heap_39 w.params).In h₀) (N : News h₀ L s.heap news) (T : Top hd.view_39 (looseW hd.view_39 []) mean mg mb h₀) (hk : cs.kind = .function)
    (hi : i < x.length) (hx : x.length ≤ b) (hb : b ≤ 4) (hd : dp + 1 < recursionLimit) (hu : un + 8 < cLine)
    (ret : ∀ t h' tk', Fr h₀ L h' m → News h₀ L h' news → Q (.int (bif bitAt x i then 1 else 0) t) { s with heap := h', toks := tk' }) :
    wpAny (model PySem.Challenge.rw_sj0172_01.row.prog w) (ktrTop dp un gd cn cs L a ccd cl outer) (call (.ref 28) [.int (enc b x) t1, .int i t2, .int b t3]) Q E s :=
  use_bit B F X N T hk (by cases bitAt x i <;> simp) hi hx hb hd hu ret
theorem use_first {w : World} {mean : ExcName → Option Value} {mg mb : Str → Option Value} {dp un : Nat} {gd : Option (List Code)} {cn : Str} {cs : Scope} {a : Addr} {ccd : Value} {cl : List (Str × Addr)} {outer : List Env} {A₀ : Around} {base h₀ : Heap} {L : Addr}
    {m : Str → Option Value} {news : Led} {s : Shared} {Q E : Value → Shared → Prop} {b i : Nat} {x : Bits} {t1 t2 t3 : Tok}
    (B : Below A₀ base outer h₀) (F : Fr h₀ L s.heap m) (X : (hd.heap_39 w.params).In h₀) (N : News h₀ L s.heap news) (T : Top hd.view_39 (looseW hd.view_39 []) mean mg mb h₀) (hk : cs.kind = .function)
    (hi : i ≤ x.length) (hx : x.length ≤ b) (hb : b ≤ 4) (hd : dp + 1 < recursionLimit) (hu : un + 8 < cLine)
    (ret : ∀ t h' tk', Fr h₀ L h' m → News h₀ L h' news → Q (.int (enc b (x.take i)) t) { s with heap := h', toks := tk' }) :
    wpAny (model PySem.Challenge.rw_sj0172_01.row.prog w) (ktrTop dp un gd cn cs L a ccd cl outer) (call (.ref 21) [.int (enc b x) t1, .int i t2, .int b t3]) Q E s := by
  refine tellsN_use B F X N T hk NumsR.mk (first_tells w mean mg mb (enc b x, i, b)) ⟨by dsimp only; omega, hb, enc_lt hb hx⟩ hd hu fun r' tl h' tk' F' N' ho ht hr' => ?_
  obtain ⟨t, rfl⟩ := hr'
  dsimp only at *
  subst ht
  rw [List.append_nil] at N'
  rw [firstN_enc hb hx hi]
  exact ret t h' tk' F' N'
local macro_rules | `(tactic| walk_at "call ref") => `(tactic| (k_here; k_dflt (refine' use_bit ?k1 ?k2 ?k3 ?k4 ?k5 ?kK ?hr ?hi ?hx ?hb ?kd ?ku ?_; (case k1 => k_asm); (case k2 => k_asm); (case k3 => k_asm); (case k4 => k_asm); (case k5 => k_asm); (case kK => first | exact rfl | assumption); (case hr => first | exact .inl ⟨by assumption, rfl⟩ | exact .inr ⟨by assumption, rfl⟩); (case hi => omega); (case hx => omega); (case hb => omega); (case kd => ktr_room); (case ku => ktr_units)); intro t9 h9 tk9 F9 N9; (try dsimp only); (try k_fold)))
local macro_rules | `(tactic| walk_at "call ref") => `(tactic| (k_here; k_dflt (refine' use_first ?k1 ?k2 ?k3 ?k4 ?k5 ?kK ?hi ?hx ?hb ?kd ?ku ?_; (case k1 => k_asm); (case k2 => k_asm); (case k3 => k_asm); (case k4 => k_asm); (case k5 => k_asm); (case kK => first | exact rfl | assumption); (case hi => omega); (case hx => omega); (case hb => omega); (case kd => ktr_room); (case ku => ktr_units)); intro t9 h9 tk9 F9 N9; (try dsimp only); (try k_fold)))

local macro_rules | `(tactic| walk_at "call ref") => `(tactic| (k_here; k_dflt (refine' use_bitG ?k1 ?k2 ?k3 ?k4 ?k5 ?kK ?hi ?hx ?hb ?kd ?ku ?_; (case k1 => k_asm); (case k2 => k_asm); (case k3 => k_asm); (case k4 => k_asm); (case k5 => k_asm); (case kK => first | exact rfl | assumption); (case hi => omega); (case hx => omega); (case hb => omega); (case kd => ktr_room); (case ku => ktr_units)); intro t9 h9 tk9 F9 N9; (try dsimp only); (try k_fold)))

/-! ## with_child -/
inductive WithR (news : Led) : List Value → Nat × T × Bool × T → Prop where
  | mk {b : Nat} {t c : T} {p : Bool} {nv cv : Value} {t1 : Tok} : TIn news b nv t → TIn news b cv c → WithR news [nv, .int (bif p then 1 else 0) t1, cv] (b, t, p, c)
theorem WithR.f {news : Led} {b : Nat} {t c : T} {nv cv : Value} {t1 : Tok} (h1 : TIn news b nv t) (h2 : TIn news b cv c) : WithR news [nv, .int 0 t1, cv] (b, t, false, c) := .mk (p := false) h1 h2
theorem WithR.t {news : Led} {b : Nat} {t c : T} {nv cv : Value} {t1 : Tok} (h1 : TIn news b nv t) (h2 : TIn news b cv c) : WithR news [nv, .int 1 t1, cv] (b, t, true, c) := .mk (p := true) h1 h2
abbrev withT : ToldN (Nat × T × Bool × T) where
  Rel := WithR
  Ok := fun d => d.2.1 ≠ .nil
  size := fun _ => 1
  Tl := fun _ => True
  Out := fun news r d => TIn news d.1 r (d.2.1.withC d.2.2.1 d.2.2.2)
set_option maxHeartbeats 8000000 in
theorem with_tells (w : World) (mean : ExcName → Option Value) (mg mb : Str → Option Value) : ∀ d, Tel w mean mg mb 42 withT d := by
  delta Tel
  k_fill
  k_with_none
  refine tellsN_of fun d IH => ?_
  unfold TellsN
  intro dp un gd cn cs a ccd cl outer A₀ base h₀ L m news s vs Q E B F X N T hk hR hok hd hu hret
  clear IH
  obtain @⟨b, t, c, p, nv, cv, t1, hn, hc⟩ := hR
  dsimp only at *
  cases p
  all_goals (
    dsimp only [cond_true, cond_false] at *
    obtain @⟨⟩ | @⟨na, pa, n1, n2, t1, t2, wv, lv, rv, x, v, l, r, m1, m2, hw, hl, hr⟩ := hn
    · exact absurd rfl hok
    refine wpAny_call ?_
    k_dflt ktr_enter
    k_steps)
  · exact hret _ [_] _ _ (by assumption) (end1 (by assumption)) (ktn_ord1 (allLt_of (by assumption))) trivial (.node (by k_mem) (left_ m2) hw (hc.mono subL) (hr.mono subL))
  · exact hret _ [_] _ _ (by assumption) (end1 (by assumption)) (ktn_ord1 (allLt_of (by assumption))) trivial (.node (by k_mem) (left_ m2) hw (hl.mono subL) (hc.mono subL))
/-! ## fork -/
inductive ForkR (news : Led) : List Value → Nat × Nat × T × T → Prop where
  | mk {b k : Nat} {t u : T} {v1 v2 : Value} {t1 t2 : Tok} : TIn news b v1 t → TIn news b v2 u → ForkR news [v1, v2, .int k t1, .int b t2] (b, k, t, u)
def T.root : T → Bits
  | .nil => []
  | .node y _ _ _ => y
abbrev forkC : ToldN (Nat × Nat × T × T) where
  Rel := ForkR
  Ok := fun d => d.2.2.1 ≠ .nil ∧ d.2.2.2 ≠ .nil ∧ d.2.1 < d.2.2.1.root.length ∧ d.2.1 < d.2.2.2.root.length ∧ d.2.2.1.root.length ≤ d.1 ∧ d.2.2.2.root.length ≤ d.1 ∧ d.1 ≤ 4
  size := fun _ => 2
  Tl := fun _ => True
  Out := fun news r d => TIn news d.1 r (forkT d.2.1 d.2.2.1.root d.2.2.1 d.2.2.2.root d.2.2.2)
set_option maxHeartbeats 8000000 in
theorem fork_tells (w : World) (mean : ExcName → Option Value) (mg mb : Str → Option Value) : ∀ d, Tel w mean mg mb 49 forkC d := by
  have Cwith_tells := with_tells w mean mg mb
  delta Tel
  unfold Tel at Cwith_tells
  k_fill
  k_with_none
  refine tellsN_of fun d IH => ?_
  unfold TellsN
  intro dp un gd cn cs a ccd cl outer A₀ base h₀ L m news s vs Q E B F X N T hk hR hok hd hu hret
  clear IH
  obtain @⟨b, k, t, u, v1, v2, t1, t2, hn, hc⟩ := hR
  obtain ⟨r1, r2, k1, k2, k3, k4, k5⟩ := hok
  dsimp only at *
  obtain @⟨⟩ | @⟨na, pa, n1, n2, t1, t2, wv, lv, rv, y, v, l, r, m1, m2, hw, hl, hr⟩ := id hn
  · exact absurd rfl r1
  obtain @⟨⟩ | @⟨na', pa', n1', n2', t1', t2', wv', lv', rv', x, v', l', r', m1', m2', hw', hl', hr'⟩ := id hc
  · exact absurd rfl r2
  clear r1 r2
  dsimp only [Mine.T.root] at *
  have e16 := enc_lt k5 k3
  have hlen : (y.take k).length = k := by simp; omega
  k_with "call ref" => first
    | (k_dflt (refine tellsN_use (by k_asm) (by k_asm) (by k_asm) (by k_asm) (by k_asm) (by first | exact rfl | assumption) (by exact WithR.mk (.node (by k_mem) (by rw [hlen]; k_mem) .none .nil .nil) (hn.mono (by ktd_sub))) (with_tells w mean mg mb (b, .node (y.take k) none .nil .nil, _, .node y v l r)) (by simp) (by ktr_room) (by ktr_units) ?_); intro r9 tl9 h9 tk9 F9 N9 hl9 ht9 ho9; (try simp only [List.nil_append, List.cons_append, List.append_nil, List.append_assoc] at N9 ho9); (try dsimp only); (try k_fold))
    | ktn_call "with_child" withT
  refine wpAny_call ?_
  k_dflt ktr_enter
  k_steps
  exact hret _ (_ :: _ :: _) _ _ (by assumption) (end2t (by assumption)) (by ktn_ord) trivial (TIn.mono (by assumption) (by ktd_sub))
end W2
section W3

local macro_rules | `(tactic| walk_at "call ref") => `(tactic| (k_here; k_dflt (refine' use_bit ?k1 ?k2 ?k3 ?k4 ?k5 ?kK ?hr ?hi ?hx ?hb ?kd ?ku ?_; (case k1 => k_asm); (case k2 => k_asm); (case k3 => k_asm); (case k4 => k_asm); (case k5 => k_asm); (case kK => first | exact rfl | assumption); (case hr => first | exact .inl ⟨by assumption, rfl⟩ | exact .inr ⟨by assumption, rfl⟩); (case hi => omega); (case hx => omega); (case hb => omega); (case kd => ktr_room); (case ku => ktr_units)); intro t9 h9 tk9 F9 N9; (try dsimp only); (try k_fold)))
local macro_rules | `(tactic| walk_at "call ref") => `(tactic| (k_here; k_dflt (refine' use_first ?k1 ?k2 ?k3 ?k4 ?k5 ?kK ?hi ?hx ?hb ?kd ?ku ?_; (case k1 => k_asm); (case k2 => k_asm); (case k3 => k_asm); (case k4 => k_asm); (case k5 => k_asm); (case kK => first | exact rfl | assumption); (case hi => omega); (case hx => omega); (case hb => omega); (case kd => ktr_room); (case ku => ktr_units)); intro t9 h9 tk9 F9 N9; (try dsimp only); (try k_fold)))

/-! ## shrunk -/
inductive OneR (news : Led) : List Value → Nat × T → Prop where
  | mk {b : Nat} {t : T} {v : Value} : TIn news b v t → OneR news [v] (b, t)
abbrev shrunkC : ToldN (Nat × T) where
  Rel := OneR
  Ok := fun d => d.2 ≠ .nil
  size := fun _ => 1
  Tl := fun tl => tl = []
  Out := fun news r d => TIn news d.1 r d.2.shrunk
set_option maxHeartbeats 8000000 in
theorem shrunk_tells (w : World) (mean : ExcName → Option Value) (mg mb : Str → Option Value) : ∀ d, Tel w mean mg mb 63 shrunkC d := by
  delta Tel
  k_fill
  k_with_none
  refine tellsN_of fun d IH => ?_
  unfold TellsN
  intro dp un gd cn cs a ccd cl outer A₀ base h₀ L m news s vs Q E B F X N T hk hR hok hd hu hret
  clear IH
  obtain @⟨b, t, v, hn⟩ := hR
  dsimp only at *
  obtain @⟨⟩ | @⟨na, pa, n1, n2, t1, t2, wv, lv, rv, x, v, l, r, m1, m2, hw, hl, hr⟩ := id hn
  · exact absurd rfl hok
  cases hw
  all_goals cases id hl
  all_goals cases id hr
  all_goals (
    refine wpAny_call ?_
    k_dflt ktr_enter
    k_steps)
  all_goals exact hret _ [] _ _ (by assumption) (ktn_tl0 (by assumption)) ktn_ord0 rfl (by rw [List.append_nil]; first | exact hn | exact hl | exact hr)
end W3
section W4

local macro_rules | `(tactic| walk_at "call ref") => `(tactic| (k_here; k_dflt (refine' use_bitG ?k1 ?k2 ?k3 ?k4 ?k5 ?kK ?hi ?hx ?hb ?kd ?ku ?_; (case k1 => k_asm); (case k2 => k_asm); (case k3 => k_asm); (case k4 => k_asm); (case k5 => k_asm); (case kK => first | exact rfl | assumption); (case hi => omega); (case hx => omega); (case hb => omega); (case kd => ktr_room); (case ku => ktr_units)); intro t9 h9 tk9 F9 N9; (try dsimp only); (try k_fold)))

local macro_rules | `(tactic| walk_at "call ref") => `(tactic| (k_here; k_dflt (refine' use_bit ?k1 ?k2 ?k3 ?k4 ?k5 ?kK ?hr ?hi ?hx ?hb ?kd ?ku ?_; (case k1 => k_asm); (case k2 => k_asm); (case k3 => k_asm); (case k4 => k_asm); (case k5 => k_asm); (case kK => first | exact rfl | assumption); (case hr => first | exact .inl ⟨by assumption, rfl⟩ | exact .inr ⟨by assumption, rfl⟩); (case hi => omega); (case hx => omega); (case hb => omega); (case kd => ktr_room); (case ku => ktr_units)); intro t9 h9 tk9 F9 N9; (try dsimp only); (try k_fold)))
local macro_rules | `(tactic| walk_at "call ref") => `(tactic| (k_here; k_dflt (refine' use_first ?k1 ?k2 ?k3 ?k4 ?k5 ?kK ?hi ?hx ?hb ?kd ?ku ?_; (case k1 => k_asm); (case k2 => k_asm); (case k3 => k_asm); (case k4 => k_asm); (case k5 => k_asm); (case kK => first | exact rfl | assumption); (case hi => omega); (case hx => omega); (case hb => omega); (case kd => ktr_room); (case ku => ktr_units)); intro t9 h9 tk9 F9 N9; (try dsimp only); (try k_fold)))

local macro_rules | `(tactic| ktd_rel) => `(tactic| first | exact WIn.some _ _ | exact WIn.none)
local macro_rules | `(tactic| ktr_rel) => `(tactic| first | (refine ⟨(fun h => nomatch h), (fun h => nomatch h), ?_⟩; dsimp only [Mine.T.root, Mine.T.leaf]; omega))
local macro_rules | `(tactic| ktr_rel) => `(tactic| first | (refine' WithR.f ?x1 ?x2; (case x1 => ktd_rel); (case x2 => ktd_rel)) | (refine' WithR.t ?x1 ?x2; (case x1 => ktd_rel); (case x2 => ktd_rel)))

/-! ## tree_put -/
inductive PutR (news : Led) : List Value → Nat × T × Bits × Nat → Prop where
  | mk {b w : Nat} {t : T} {x : Bits} {tv pv : Value} {t1 t2 : Tok} : TIn news b tv t → PIn news b pv x → PutR news [tv, pv, .int w t1, .int b t2] (b, t, x, w)
abbrev putC : ToldN (Nat × T × Bits × Nat) where
  Rel := PutR
  Ok := fun d => d.2.1.Len d.1 ∧ d.2.2.1.length ≤ d.1 ∧ d.1 ≤ 4
  size := fun d => d.2.1.ht + 4
  Tl := fun _ => True
  Out := fun news r d => TIn news d.1 r (d.2.1.put d.2.2.1 d.2.2.2)
set_option maxHeartbeats 8000000 in
theorem put_tells (w : World) (mean : ExcName → Option Value) (mg mb : Str → Option Value) : ∀ d, Tel w mean mg mb 56 putC d := by
  have Cshare_tells := share_tells w mean mg mb
  have Cwith_tells := with_tells w mean mg mb
  have Cfork_tells := fork_tells w mean mg mb
  delta Tel
  unfold Tel at Cshare_tells Cwith_tells Cfork_tells
  k_fill
  k_with_none
  refine tellsN_of fun d IH => ?_
  unfold TellsN
  intro dp un gd cn cs a ccd cl outer A₀ base h₀ L m news s vs Q E B F X N T hk hR hok hd hu hret
  obtain @⟨b, wt, t, x, tv, pv, t1, t2, hn, hp⟩ := hR
  obtain ⟨hlen, hx, hb⟩ := hok
  dsimp only at *
  obtain @⟨px, nx, tx1, tx2, x, mx⟩ := id hp
  have hleaf : ∀ (D : Addr) (led : Led) (q : Addr × Obj) (tk : Tok), q = (D, tupO [.ref px, .int wt tk, .none, .none] 0) → TIn (news ++ [q]) b (.ref D) (.leaf x wt) := by
    rintro D led q tk rfl
    exact .node (by k_mem) (left_ mx) (.some wt tk) .nil .nil
  obtain @⟨⟩ | @⟨na, pa, n1, n2, ta1, ta2, wv, lv, rv, y, v, l, r, m1, m2, hw, hl, hr⟩ := id hn
  · refine wpAny_call ?_
    k_dflt ktr_enter
    k_steps
    exact hret _ [_] _ _ (by assumption) (end1 (by assumption)) (ktn_ord1 (allLt_of (by assumption))) trivial (hleaf _ news _ _ rfl)
  have ⟨hy, hll, hlr⟩ := hlen
  simp only [Mine.T.ht] at hd hu
  k_with "call ref" => first | ktn_call "shared_length" shareT | ktn_call "tree_put" putC | ktn_call "with_child" withT | ktn_call "fork" forkC
  k_with "tree" => simp only [Mine.T.ht]
  have hway := putWay y x
  have hl1 := lcp_le_left y x
  have hl2 := lcp_le_right y x
  cases hway
  · rename_i e
    subst e
    have e := lcp_self x
    (refine wpAny_call ?_; k_dflt ktr_enter; k_steps)
    refine hret _ [_, _, _] _ _ (by assumption) (end3 (by assumption)) (by ktn_ord) trivial ?_
    rw [put_same]
    exact .node (by k_mem) (left_ m2) (.some wt _) (hl.mono subL) (hr.mono subL)
  · rename_i hp1 e n
    cases hbit : bitAt x (lcp y x)
    · (refine wpAny_call ?_; k_dflt ktr_enter; k_steps)
      refine hret _ (_ :: _ :: _) _ _ (by assumption) (end2t (by assumption)) (by ktn_ord) trivial ?_
      rw [Mine.T.put, if_pos e, if_neg n, hbit]
      exact TIn.mono (by assumption) (by ktd_sub)
    · (refine wpAny_call ?_; k_dflt ktr_enter; k_steps)
      refine hret _ (_ :: _ :: _) _ _ (by assumption) (end2t (by assumption)) (by ktn_ord) trivial ?_
      rw [Mine.T.put, if_pos e, if_neg n, hbit]
      exact TIn.mono (by assumption) (by ktd_sub)
  · rename_i hp1 e n
    have hlt := (pre_lt hp1).1
    (refine wpAny_call ?_; k_dflt ktr_enter; k_steps)
    refine hret _ (_ :: _ :: _) _ _ (by assumption) (end2t (by assumption)) (by ktn_ord) trivial ?_
    rw [Mine.T.put, if_neg n, if_pos e]
    exact TIn.mono (by assumption) (by ktd_sub)
  · rename_i h1 h2
    (refine wpAny_call ?_; k_dflt ktr_enter; k_steps)
    refine hret _ (_ :: _ :: _) _ _ (by assumption) (end2t (by assumption)) (by ktn_ord) trivial ?_
    rw [Mine.T.put, if_neg (Nat.ne_of_lt h1), if_neg (Nat.ne_of_lt h2)]
    exact TIn.mono (by assumption) (by ktd_sub)
end W4
section W5
local macro_rules | `(tactic| walk_at "none") => `(tactic| fail)

local macro_rules | `(tactic| walk_at "call ref") => `(tactic| (k_here; k_dflt (refine' use_bitG ?k1 ?k2 ?k3 ?k4 ?k5 ?kK ?hi ?hx ?hb ?kd ?ku ?_; (case k1 => k_asm); (case k2 => k_asm); (case k3 => k_asm); (case k4 => k_asm); (case k5 => k_asm); (case kK => first | exact rfl | assumption); (case hi => omega); (case hx => omega); (case hb => omega); (case kd => ktr_room); (case ku => ktr_units)); intro t9 h9 tk9 F9 N9; (try dsimp only); (try k_fold)))

local macro_rules | `(tactic| walk_at "call ref") => `(tactic| (k_here; k_dflt (refine' use_bit ?k1 ?k2 ?k3 ?k4 ?k5 ?kK ?hr ?hi ?hx ?hb ?kd ?ku ?_; (case k1 => k_asm); (case k2 => k_asm); (case k3 => k_asm); (case k4 => k_asm); (case k5 => k_asm); (case kK => first | exact rfl | assumption); (case hr => first | exact .inl ⟨by assumption, rfl⟩ | exact .inr ⟨by assumption, rfl⟩); (case hi => omega); (case hx => omega); (case hb => omega); (case kd => ktr_room); (case ku => ktr_units)); intro t9 h9 tk9 F9 N9; (try dsimp only); (try k_fold)))
local macro_rules | `(tactic| walk_at "call ref") => `(tactic| (k_here; k_dflt (refine' use_first ?k1 ?k2 ?k3 ?k4 ?k5 ?kK ?hi ?hx ?hb ?kd ?ku ?_; (case k1 => k_asm); (case k2 => k_asm); (case k3 => k_asm); (case k4 => k_asm); (case k5 => k_asm); (case kK => first | exact rfl | assumption); (case hi => omega); (case hx => omega); (case hb => omega); (case kd => ktr_room); (case ku => ktr_units)); intro t9 h9 tk9 F9 N9; (try dsimp only); (try k_fold)))

local macro_rules | `(tactic| ktd_rel) => `(tactic| first | exact WIn.some _ _ | exact WIn.none)
local macro_rules | `(tactic| ktr_rel) => `(tactic| first | (refine ⟨(fun h => nomatch h), (fun h => nomatch h), ?_⟩; dsimp only [Mine.T.root, Mine.T.leaf]; omega))
local macro_rules | `(tactic| ktr_rel) => `(tactic| first | (refine' WithR.f ?x1 ?x2; (case x1 => ktd_rel); (case x2 => ktd_rel)) | (refine' WithR.t ?x1 ?x2; (case x1 => ktd_rel); (case x2 => ktd_rel)))

/-! ## tree_drop -/
inductive TpR (news : Led) : List Value → Nat × T × Bits → Prop where
  | mk {b : Nat} {t : T} {x : Bits} {tv pv : Value} {t2 : Tok} : TIn news b tv t → PIn news b pv x → TpR news [tv, pv, .int b t2] (b, t, x)
abbrev dropC : ToldN (Nat × T × Bits) where
  Rel := TpR
  Ok := fun d => d.2.1.Len d.1 ∧ d.2.2.length ≤ d.1 ∧ d.1 ≤ 4
  size := fun d => d.2.1.ht + 4
  Tl := fun _ => True
  Out := fun news r d => TIn news d.1 r (d.2.1.drop d.2.2)
set_option maxHeartbeats 8000000 in
theorem drop_tells (w : World) (mean : ExcName → Option Value) (mg mb : Str → Option Value) : ∀ d, Tel w mean mg mb 70 dropC d := by
  have Cshare_tells := share_tells w mean mg mb
  have Cwith_tells := with_tells w mean mg mb
  have Cshrunk_tells := shrunk_tells w mean mg mb
  delta Tel
  unfold Tel at Cshare_tells Cwith_tells Cshrunk_tells
  k_fill
  k_with_none
  refine tellsN_of fun d IH => ?_
  unfold TellsN
  intro dp un gd cn cs a ccd cl outer A₀ base h₀ L m news s vs Q E B F X N T hk hR hok hd hu hret
  obtain @⟨b, t, x, tv, pv, t2, hn, hp⟩ := hR
  obtain ⟨hlen, hx, hb⟩ := hok
  dsimp only at *
  obtain @⟨px, nx, tx1, tx2, x, mx⟩ := id hp
  obtain @⟨⟩ | @⟨na, pa, n1, n2, ta1, ta2, wv, lv, rv, y, v, l, r, m1, m2, hw, hl, hr⟩ := id hn
  · (refine wpAny_call ?_; k_dflt ktr_enter; k_steps)
    exact hret _ [] _ _ (by assumption) (ktn_tl0 (by assumption)) ktn_ord0 trivial .nil
  have ⟨hy, hll, hlr⟩ := hlen
  simp only [Mine.T.ht] at hd hu
  k_with "call ref" => first | ktn_call "shared_length" shareT | ktn_call "tree_drop" dropC | ktn_call "with_child" withT | ktn_call "shrunk" shrunkC
  k_with "tree" => simp only [Mine.T.ht]
  have hl1 := lcp_le_left y x
  have hl2 := lcp_le_right y x
  by_cases h1 : lcp y x < y.length
  · (refine wpAny_call ?_; k_dflt ktr_enter; k_steps)
    refine hret _ [_] _ _ (by assumption) (end1 (by assumption)) (by ktn_ord) trivial ?_
    rw [Mine.T.drop, if_pos h1]
    exact hn.mono subL
  have h2 : lcp y x = y.length := by omega
  by_cases h3 : x.length = y.length
  · (refine wpAny_call ?_; k_dflt ktr_enter; k_steps)
    refine hret _ [_, _] _ _ (by assumption) (end2 (by assumption)) (by ktn_ord) trivial ?_
    rw [Mine.T.drop, if_neg h1, if_pos h3]
    exact TIn.mono (by assumption) (by ktd_sub)
  have h4 : lcp y x < x.length := by omega
  cases hbit : bitAt x (lcp y x)
  · (refine wpAny_call ?_; k_dflt ktr_enter; k_steps)
    refine hret _ (_ :: _) _ _ (by assumption) (end1t (by assumption)) (by ktn_ord) trivial ?_
    rw [Mine.T.drop, if_neg h1, if_neg h3, hbit]
    exact TIn.mono (by assumption) (by ktd_sub)
  · (refine wpAny_call ?_; k_dflt ktr_enter; k_steps)
    refine hret _ (_ :: _) _ _ (by assumption) (end1t (by assumption)) (by ktn_ord) trivial ?_
    rw [Mine.T.drop, if_neg h1, if_neg h3, hbit]
    exact TIn.mono (by assumption) (by ktd_sub)
end W5
section W6

/-! ## lists of routes -/
inductive RIn (news : Led) (b : Nat) : Value → Bits × Nat → Prop where
  | mk {a pa : Addr} {n1 n2 : Nat} {t1 t2 t3 : Tok} {x : Bits} {k : Nat} : (a, tupO [.ref pa, .int k t3] n1) ∈ news → (pa, tupO [.int (enc b x) t1, .int x.length t2] n2) ∈ news → RIn news b (.ref a) (x, k)
inductive RsIn (news : Led) (b : Nat) : List Value → List (Bits × Nat) → Prop where
  | nil : RsIn news b [] []
  | cons {v : Value} {vs : List Value} {r : Bits × Nat} {rs : List (Bits × Nat)} : RIn news b v r → RsIn news b vs rs → RsIn news b (v :: vs) (r :: rs)
inductive LIn (news : Led) (b : Nat) : Value → List (Bits × Nat) → Prop where
  | mk {a : Addr} {vs : List Value} {n : Nat} {rs : List (Bits × Nat)} : (a, listOf vs.toArray n) ∈ news → RsIn news b vs rs → LIn news b (.ref a) rs
theorem RIn.mono {news news' : Led} {b : Nat} {v : Value} {r : Bits × Nat} (h : RIn news b v r) (hs : ∀ p ∈ news, p ∈ news') : RIn news' b v r := by
  cases h with
  | mk h1 h2 => exact .mk (hs _ h1) (hs _ h2)
theorem RsIn.mono {news news' : Led} {b : Nat} {vs : List Value} {rs : List (Bits × Nat)} (h : RsIn news b vs rs) (hs : ∀ p ∈ news, p ∈ news') : RsIn news' b vs rs := by
  induction h with
  | nil => exact .nil
  | cons h1 _ ih => exact .cons (h1.mono hs) ih
theorem LIn.mono {news news' : Led} {b : Nat} {v : Value} {rs : List (Bits × Nat)} (h : LIn news b v rs) (hs : ∀ p ∈ news, p ∈ news') : LIn news' b v rs := by
  cases h with
  | mk h1 h2 => exact .mk (hs _ h1) (h2.mono hs)
theorem RsIn.append {news : Led} {b : Nat} {vs ws : List Value} {rs qs : List (Bits × Nat)} (h : RsIn news b vs rs) (k : RsIn news b ws qs) : RsIn news b (vs ++ ws) (rs ++ qs) := by
  induction h with
  | nil => exact k
  | cons h1 _ ih => exact .cons h1 ih
theorem RsIn.length {news : Led} {b : Nat} {vs : List Value} {rs : List (Bits × Nat)} (h : RsIn news b vs rs) : vs.length = rs.length := by
  induction h with
  | nil => rfl
  | cons _ _ ih => simp [ih]
theorem all_short : ∀ t : T, t.all.length < 2 ^ t.ht
  | .nil => by simp [T.all, T.ht]
  | .node y v l r => by
    have a := all_short l
    have c := all_short r
    have o : (ownRow y v).length ≤ 1 := by cases v <;> simp [ownRow]
    have e1 : 2 ^ l.ht ≤ 2 ^ max l.ht r.ht := Nat.pow_le_pow_right (by decide) (Nat.le_max_left ..)
    have e2 : 2 ^ r.ht ≤ 2 ^ max l.ht r.ht := Nat.pow_le_pow_right (by decide) (Nat.le_max_right ..)
    simp only [T.all, T.ht, List.length_append, Nat.pow_succ]
    omega
theorem all_short8 {t : T} (h : t.ht ≤ 8) : t.all.length < 256 :=
  Nat.lt_of_lt_of_le (all_short t) (Nat.le_trans (Nat.pow_le_pow_right (by decide) h) (by decide))
section
variable {prog : Program} {w : World} {A : Around} {E : Value → Shared → Prop} {s : Shared} {h₀ : Heap} {L : Addr} {m : Str → Option Value} {news : Led} {b : Nat} {v1 v2 : Value} {r1 r2 : List (Bits × Nat)} {Q : Value → Shared → Prop}
theorem News.list {a : Addr} {vs : List Value} {n : Nat} (N : News h₀ L s.heap news) (h : (a, listOf vs.toArray n) ∈ news) : s.heap.IsList a vs.toArray := ⟨_, (N _ h).1, rfl, n, rfl⟩
theorem add_rows (F : Fr h₀ L s.heap m) (N : News h₀ L s.heap news) (h1 : LIn news b v1 r1) (h2 : LIn news b v2 r2) (hz : r1.length + r2.length ≤ 1000)
    (h : ∀ D vs h', Fr h₀ L h' m → News h₀ L h' ((D, listOf (List.toArray vs) 0) :: news) → (∀ p ∈ news, p.1 < D) → LIn ((D, listOf (List.toArray vs) 0) :: news) b (.ref D) (r1 ++ r2) → Q (.ref D) { s with heap := h' }) :
    wpAny (model prog w) A (binaryOp .Add v1 v2) Q E s := by
  obtain @⟨a1, vs1, n1, r1, m1, k1⟩ := h1
  obtain @⟨a2, vs2, n2, r2, m2, k2⟩ := h2
  refine kmk_add_lit F N (News.list N m1) (News.list N m2) (zs := vs1 ++ vs2) (by simp) (fun D h' F' N' hl => h D _ h' F' N' hl (.mk (.head _) ((k1.append k2).mono fun _ hp => .tail _ hp))) ?_
  have e1 := k1.length
  have e2 := k2.length
  rw [sizeLine_eq]
  simp only [List.toList_toArray]
  omega
end
local macro_rules | `(tactic| walk_at "binaryOp Add ref") => `(tactic| (k_here; k_dflt (refine' add_rows ?F ?N ?a ?b ?z ?_; (case F => k_asm); (case N => k_asm); (case b => ktd_rel); (case a => ktd_rel); (case z => (simp only [List.length_append, List.length_cons, List.length_nil]; omega))); intro D' vs' h' F' N' l1 hL'; (try k_lt l1); (try k_sweep)))
local macro_rules | `(tactic| walk_at "binaryOp Add ref ref") => `(tactic| (k_here; k_dflt (refine' add_rows ?F ?N ?a ?b ?z ?_; (case F => k_asm); (case N => k_asm); (case b => ktd_rel); (case a => ktd_rel); (case z => (simp only [List.length_append, List.length_cons, List.length_nil]; omega))); intro D' vs' h' F' N' l1 hL'; (try k_lt l1); (try k_sweep)))
/-! ## tree_all -/
inductive AllR (news : Led) : List Value → Nat × T → Prop where
  | mk {b : Nat} {t : T} {v : Value} : TIn news b v t → AllR news [v] (b, t)
abbrev allC : ToldN (Nat × T) where
  Rel := AllR
  Ok := fun d => d.2.ht ≤ 8
  size := fun d => d.2.ht + 1
  Tl := fun _ => True
  Out := fun news r d => LIn news d.1 r d.2.all
set_option maxHeartbeats 8000000 in
theorem all_tells (w : World) (mean : ExcName → Option Value) (mg mb : Str → Option Value) : ∀ d, Tel w mean mg mb 84 allC d := by
  delta Tel
  k_fill
  k_with_none
  refine tellsN_of fun d IH => ?_
  unfold TellsN
  intro dp un gd cn cs a ccd cl outer A₀ base h₀ L m news s vs Q E B F X N T hk hR hok hd hu hret
  obtain @⟨b, t, tv, hn⟩ := hR
  dsimp only at *
  obtain @⟨⟩ | @⟨na, pa, n1, n2, ta1, ta2, wv, lv, rv, y, v, l, r, m1, m2, hw, hl, hr⟩ := id hn
  · (refine wpAny_call ?_; k_dflt ktr_enter; k_steps)
    exact hret _ [_] _ _ (by assumption) (end1 (by assumption)) (by ktn_ord) trivial (.mk (vs := []) (by k_mem) .nil)
  have hal := all_short8 hok
  simp only [Mine.T.ht] at hd hu hok
  have hal1 := all_short8 (t := l) (by omega)
  have hal2 := all_short8 (t := r) (by omega)
  k_with "call ref" => first | ktn_call "tree_all" allC
  k_with "tree" => simp only [Mine.T.ht]
  cases hw
  · (refine wpAny_call ?_; k_dflt ktr_enter; k_steps)
    refine hret _ (_ :: _ :: _ :: _) _ _ (by assumption) (end3t (by assumption)) (by ktn_ord) trivial ?_
    exact LIn.mono (by assumption) (by ktd_sub)
  · (refine wpAny_call ?_; k_dflt ktr_enter; k_steps)
    refine hret _ (_ :: _ :: _ :: _ :: _) _ _ (by assumption) (end4t (by assumption)) (by ktn_ord) trivial ?_
    exact LIn.mono (by assumption) (by ktd_sub)
end W6
section W7

local macro_rules | `(tactic| walk_at "call ref") => `(tactic| (k_here; k_dflt (refine' use_bitG ?k1 ?k2 ?k3 ?k4 ?k5 ?kK ?hi ?hx ?hb ?kd ?ku ?_; (case k1 => k_asm); (case k2 => k_asm); (case k3 => k_asm); (case k4 => k_asm); (case k5 => k_asm); (case kK => first | exact rfl | assumption); (case hi => omega); (case hx => omega); (case hb => omega); (case kd => ktr_room); (case ku => ktr_units)); intro t9 h9 tk9 F9 N9; (try dsimp only); (try k_fold)))

local macro_rules | `(tactic| walk_at "call ref") => `(tactic| (k_here; k_dflt (refine' use_bit ?k1 ?k2 ?k3 ?k4 ?k5 ?kK ?hr ?hi ?hx ?hb ?kd ?ku ?_; (case k1 => k_asm); (case k2 => k_asm); (case k3 => k_asm); (case k4 => k_asm); (case k5 => k_asm); (case kK => first | exact rfl | assumption); (case hr => first | exact .inl ⟨by assumption, rfl⟩ | exact .inr ⟨by assumption, rfl⟩); (case hi => omega); (case hx => omega); (case hb => omega); (case kd => ktr_room); (case ku => ktr_units)); intro t9 h9 tk9 F9 N9; (try dsimp only); (try k_fold)))
local macro_rules | `(tactic| walk_at "call ref") => `(tactic| (k_here; k_dflt (refine' use_first ?k1 ?k2 ?k3 ?k4 ?k5 ?kK ?hi ?hx ?hb ?kd ?ku ?_; (case k1 => k_asm); (case k2 => k_asm); (case k3 => k_asm); (case k4 => k_asm); (case k5 => k_asm); (case kK => first | exact rfl | assumption); (case hi => omega); (case hx => omega); (case hb => omega); (case kd => ktr_room); (case ku => ktr_units)); intro t9 h9 tk9 F9 N9; (try dsimp only); (try k_fold)))

/-! ## tree_below -/
abbrev belowC : ToldN (Nat × T × Bits) where
  Rel := TpR
  Ok := fun d => d.2.1.Len d.1 ∧ d.2.2.length ≤ d.1 ∧ d.1 ≤ 4 ∧ d.2.1.ht ≤ 8
  size := fun d => d.2.1.ht + 4
  Tl := fun _ => True
  Out := fun news r d => LIn news d.1 r (d.2.1.belowP d.2.2)
set_option maxHeartbeats 8000000 in
theorem below_tells (w : World) (mean : ExcName → Option Value) (mg mb : Str → Option Value) : ∀ d, Tel w mean mg mb 91 belowC d := by
  have Cshare_tells := share_tells w mean mg mb
  have Call_tells := all_tells w mean mg mb
  delta Tel
  unfold Tel at Cshare_tells Call_tells
  k_fill
  k_with_none
  refine tellsN_of fun d IH => ?_
  unfold TellsN
  intro dp un gd cn cs a ccd cl outer A₀ base h₀ L m news s vs Q E B F X N T hk hR hok hd hu hret
  obtain @⟨b, t, x, tv, pv, t2, hn, hp⟩ := hR
  obtain ⟨hlen, hx, hb, hht⟩ := hok
  dsimp only at *
  obtain @⟨px, nx, tx1, tx2, x, mx⟩ := id hp
  obtain @⟨⟩ | @⟨na, pa, n1, n2, ta1, ta2, wv, lv, rv, y, v, l, r, m1, m2, hw, hl, hr⟩ := id hn
  · (refine wpAny_call ?_; k_dflt ktr_enter; k_steps)
    exact hret _ [_] _ _ (by assumption) (end1 (by assumption)) (by ktn_ord) trivial (.mk (vs := []) (by k_mem) .nil)
  have ⟨hy, hll, hlr⟩ := hlen
  have hht2 := hht
  simp only [Mine.T.ht] at hd hu hht2
  k_with "call ref" => first | ktn_call "shared_length" shareT | ktn_call "tree_below" belowC | ktn_call "tree_all" allC
  k_with "tree" => simp only [Mine.T.ht]
  have hl1 := lcp_le_left y x
  have hl2 := lcp_le_right y x
  by_cases h1 : lcp y x = x.length
  · (refine wpAny_call ?_; k_dflt ktr_enter; k_steps)
    refine hret _ _ _ _ (by assumption) (by assumption) (by ktn_ord) trivial ?_
    rw [Mine.T.belowP, if_pos h1]
    exact LIn.mono (by assumption) (by ktd_sub)
  by_cases h2 : lcp y x = y.length
  · have h4 : lcp y x < x.length := by omega
    cases hbit : bitAt x (lcp y x)
    · (refine wpAny_call ?_; k_dflt ktr_enter; k_steps)
      refine hret _ _ _ _ (by assumption) (by assumption) (by ktn_ord) trivial ?_
      rw [Mine.T.belowP, if_neg h1, if_pos h2, hbit]
      exact LIn.mono (by assumption) (by ktd_sub)
    · (refine wpAny_call ?_; k_dflt ktr_enter; k_steps)
      refine hret _ _ _ _ (by assumption) (by assumption) (by ktn_ord) trivial ?_
      rw [Mine.T.belowP, if_neg h1, if_pos h2, hbit]
      exact LIn.mono (by assumption) (by ktd_sub)
  · (refine wpAny_call ?_; k_dflt ktr_enter; k_steps)
    refine hret _ [_] _ _ (by assumption) (end1 (by assumption)) (by ktn_ord) trivial ?_
    rw [Mine.T.belowP, if_neg h1, if_neg h2]
    exact .mk (vs := []) (by k_mem) .nil
end W7
section W9

/-! ## _law_longer -/
inductive OIn (news : Led) (b : Nat) : Value → Option (Bits × Nat) → Prop where
  | none : OIn news b .none none
  | some {v : Value} {r : Bits × Nat} : RIn news b v r → OIn news b v (some r)
inductive LongR (news : Led) : List Value → Nat × Option (Bits × Nat) × Option (Bits × Nat) → Prop where
  | mk {b : Nat} {v1 v2 : Value} {o1 o2 : Option (Bits × Nat)} : OIn news b v1 o1 → OIn news b v2 o2 → LongR news [v1, v2] (b, o1, o2)
theorem OIn.mono {news news' : Led} {b : Nat} {v : Value} {o : Option (Bits × Nat)} (h : OIn news b v o) (hs : ∀ p ∈ news, p ∈ news') : OIn news' b v o := by
  cases h with
  | none => exact .none
  | some h => exact .some (h.mono hs)
abbrev longC : ToldN (Nat × Option (Bits × Nat) × Option (Bits × Nat)) where
  Rel := LongR
  Ok := fun _ => True
  size := fun _ => 1
  Tl := fun tl => tl = []
  Out := fun news r d => OIn news d.1 r (longer d.2.1 d.2.2)
set_option maxHeartbeats 8000000 in
theorem long_tells (w : World) (mean : ExcName → Option Value) (mg mb : Str → Option Value) : ∀ d, Tel w mean mg mb 126 longC d := by
  delta Tel
  k_fill
  k_with_none
  refine tellsN_of fun d IH => ?_
  unfold TellsN
  intro dp un gd cn cs a ccd cl outer A₀ base h₀ L m news s vs Q E B F X N T hk hR hok hd hu hret
  clear IH
  obtain @⟨b, v1, v2, o1, o2, h1, h2⟩ := hR
  dsimp only at *
  obtain ⟨⟩ | ⟨r1⟩ := id h1
  all_goals obtain ⟨⟩ | ⟨r2⟩ := id h2
  · (refine wpAny_call ?_; k_dflt ktr_enter; k_steps)
    exact hret _ [] _ _ (by assumption) (ktn_tl0 (by assumption)) ktn_ord0 rfl (by rw [List.append_nil]; exact .none)
  · cases id r2
    (refine wpAny_call ?_; k_dflt ktr_enter; k_steps)
    exact hret _ [] _ _ (by assumption) (ktn_tl0 (by assumption)) ktn_ord0 rfl (by rw [List.append_nil]; exact .some r2)
  · cases id r1
    (refine wpAny_call ?_; k_dflt ktr_enter; k_steps)
    exact hret _ [] _ _ (by assumption) (ktn_tl0 (by assumption)) ktn_ord0 rfl (by rw [List.append_nil]; exact .some r1)
  · obtain @⟨a1, p1, n1, n2, t1, t2, t3, x, k, m1, m2⟩ := id r1
    obtain @⟨a1', p1', n1', n2', t1', t2', t3', x', k', m1', m2'⟩ := id r2
    by_cases h : x.length < x'.length
    · (refine wpAny_call ?_; k_dflt ktr_enter; k_steps)
      exact hret _ [] _ _ (by assumption) (ktn_tl0 (by assumption)) ktn_ord0 rfl (by rw [List.append_nil]; dsimp only [longer]; rw [if_pos h]; exact .some r2)
    · (refine wpAny_call ?_; k_dflt ktr_enter; k_steps)
      exact hret _ [] _ _ (by assumption) (ktn_tl0 (by assumption)) ktn_ord0 rfl (by rw [List.append_nil]; dsimp only [longer]; rw [if_neg h]; exact .some r1)
end W9
section W8

local macro_rules | `(tactic| walk_at "call ref") => `(tactic| (k_here; k_dflt (refine' use_bit ?k1 ?k2 ?k3 ?k4 ?k5 ?kK ?hr ?hi ?hx ?hb ?kd ?ku ?_; (case k1 => k_asm); (case k2 => k_asm); (case k3 => k_asm); (case k4 => k_asm); (case k5 => k_asm); (case kK => first | exact rfl | assumption); (case hr => first | exact .inl ⟨by assumption, rfl⟩ | exact .inr ⟨by assumption, rfl⟩); (case hi => omega); (case hx => omega); (case hb => omega); (case kd => ktr_room); (case ku => ktr_units)); intro t9 h9 tk9 F9 N9; (try dsimp only); (try k_fold)))
local macro_rules | `(tactic| walk_at "call ref") => `(tactic| (k_here; k_dflt (refine' use_first ?k1 ?k2 ?k3 ?k4 ?k5 ?kK ?hi ?hx ?hb ?kd ?ku ?_; (case k1 => k_asm); (case k2 => k_asm); (case k3 => k_asm); (case k4 => k_asm); (case k5 => k_asm); (case kK => first | exact rfl | assumption); (case hi => omega); (case hx => omega); (case hb => omega); (case kd => ktr_room); (case ku => ktr_units)); intro t9 h9 tk9 F9 N9; (try dsimp only); (try k_fold)))

/-! ## a while that turns two names, over a datum -/
def TwoEnd {δ : Type} (h₀ : Heap) (L : Addr) (s : Shared) (news : Led) (m₀ : Str → Option Value) (y z : Str) (R : Led → Value → Value → δ → Prop) (mz : δ → Nat) (d : δ) (f : Flow) (s₃ : Shared) : Prop :=
  f = .next ∧ ∃ h' tk' tl v u d' m', s₃ = { s with heap := h', toks := tk' } ∧ Fr h₀ L h' m' ∧ News h₀ L h' (news ++ tl) ∧ (∀ q ∈ news, ∀ p ∈ tl, q.1 < p.1) ∧ m' y = some v ∧ m' z = some u ∧ (∀ x, x ≠ y → x ≠ z → m' x = m₀ x) ∧ mz d' < mz d ∧ R (news ++ tl) v u d'
section
variable {prog : Program} {w : World} {A : Around} {E : Value → Shared → Prop} {Q : Flow → Shared → Prop} {s : Shared} {env : Env} {h₀ : Heap} {L : Addr}
theorem while_two {δ : Type} {test : PySem.Expr} {body : List Stmt} {pos : Pos} {m₀ : Str → Option Value} {news : Led} {y z : Str} (R : Led → Value → Value → δ → Prop) (mz : δ → Nat) {v₀ u₀ : Value} (d₀ : δ)
    (F : Fr h₀ L s.heap m₀) (N : News h₀ L s.heap news) (hy : m₀ y = some v₀) (hz : m₀ z = some u₀) (hr : R news v₀ u₀ d₀)
    (turn : ∀ tl v u d h tk, (∀ q ∈ news, ∀ p ∈ tl, q.1 < p.1) → R (news ++ tl) v u d → Fr h₀ L h (fun x => if x = y then some v else if x = z then some u else m₀ x) → News h₀ L h (news ++ tl) →
      wpAny (model prog w) A (isTrue test env (eval test env)) (fun b s₂ =>
        if b = true then wpAny (model prog w) A (execs body env) (TwoEnd h₀ L s news m₀ y z R mz d) E s₂ else Q .next s₂) E { s with heap := h, toks := tk })
    (hE : PassesOwn (model prog w) A env E := by passes_own) :
    wpAny (model prog w) A (exec (.While test body [] pos) env) Q E s := by
  refine While_inv (fun n m nx => ∃ tl v u d, nx = news ++ tl ∧ (∀ q ∈ news, ∀ p ∈ tl, q.1 < p.1) ∧ mz d = n ∧ m y = some v ∧ m z = some u ∧ (∀ x, x ≠ y → x ≠ z → m x = m₀ x) ∧ R (news ++ tl) v u d) F N
    ⟨[], v₀, u₀, d₀, (List.append_nil _).symm, ktn_ord0, rfl, hy, hz, fun _ _ _ => rfl, by rw [List.append_nil]; exact hr⟩ ?_ hE
  rintro n m₁ nx h tk F₁ N₁ ⟨tl, v, u, d, rfl, ho, rfl, hv, hu, hm, hR⟩
  have e : (fun x => if x = y then some v else if x = z then some u else m₀ x) = m₁ := by
    funext x
    by_cases h1 : x = y
    · subst h1; simp [hv]
    · by_cases h2 : x = z
      · subst h2; simp [h1, hu]
      · simp only [if_neg h1, if_neg h2]; exact (hm x h1 h2).symm
  refine wpAny_mono (turn tl v u d h tk ho hR (by rw [e]; exact F₁) N₁) (fun b s₂ p => ?_) fun _ _ x => x
  cases b with
  | false => simpa using p
  | true =>
    simp only [if_true] at p ⊢
    refine wpAny_mono p (fun f s₃ q => ?_) fun _ _ x => x
    obtain ⟨rfl, h', tk', tl', v', u', d', m', rfl, F', N', ho', hv', hu', hm', hlt, hR'⟩ := q
    exact ⟨rfl, h', tk', m', news ++ tl', mz d', rfl, F', N', hlt, tl', v', u', d', rfl, ho', rfl, hv', hu', hm', hR'⟩
theorem TwoEnd.intro {δ : Type} {news led : Led} {m₀ m' : Str → Option Value} {y z : Str} {R : Led → Value → Value → δ → Prop} {mz : δ → Nat} {d : δ} {h' : Heap} {tk' : Nat} {v u : Value} (tl : Led) (d' : δ)
    (F : Fr h₀ L h' m') (N : News h₀ L h' led) (hs : ∀ p ∈ news ++ tl, p ∈ led) (ho : ∀ q ∈ news, ∀ p ∈ tl, q.1 < p.1) (hv : m' y = some v) (hu : m' z = some u) (hm : ∀ x, x ≠ y → x ≠ z → m' x = m₀ x) (hlt : mz d' < mz d) (hR : R (news ++ tl) v u d') :
    TwoEnd h₀ L s news m₀ y z R mz d .next { s with heap := h', toks := tk' } :=
  ⟨rfl, h', tk', tl, v, u, d', m', rfl, F, fun p hp => N p (hs p hp), ho, hv, hu, hm, hlt, hR⟩
end
/-! ## tree_look -/
inductive LookR (news : Led) : List Value → Nat × T × Bits → Prop where
  | mk {b : Nat} {t : T} {A : Bits} {tv : Value} {t1 t2 : Tok} : TIn news b tv t → LookR news [tv, .int (enc b A) t1, .int b t2] (b, t, A)
abbrev lookC : ToldN (Nat × T × Bits) where
  Rel := LookR
  Ok := fun d => d.2.1.Len d.1 ∧ d.2.2.length = d.1 ∧ d.1 ≤ 4
  size := fun _ => 2
  Tl := fun _ => True
  Out := fun news r d => OIn news d.1 r (d.2.1.look d.1 d.2.2 none)
def LookS (b : Nat) (A : Bits) (goal : Option (Bits × Nat)) (news : Led) (v u : Value) (d : T × Option (Bits × Nat)) : Prop :=
  OIn news b v d.2 ∧ TIn news b u d.1 ∧ d.1.Len b ∧ d.1.look b A d.2 = goal
set_option maxHeartbeats 8000000 in
theorem look_tells (w : World) (mean : ExcName → Option Value) (mg mb : Str → Option Value) : ∀ d, Tel w mean mg mb 77 lookC d := by
  delta Tel
  k_fill
  k_with_none
  refine tellsN_of fun d IH => ?_
  unfold TellsN
  intro dp un gd cn cs a ccd cl outer A₀ base h₀ L m news s vs Q E B F X N T hk hR hok hd hu hret
  clear IH
  obtain @⟨b, t, A, tv, t1, t2, hn⟩ := hR
  obtain ⟨hlen, hA, hb⟩ := hok
  dsimp only at *
  k_with "exec While BoolOp cons nil" => (
    k_dflt (refine while_two (y := Str.ofString "found") (z := Str.ofString "node") (LookS b A (t.look b A none)) (fun d => d.1.ht) (t, none) (by assumption) (by assumption) (by rfl) (by rfl) ⟨.none, hn.mono (by ktd_sub), hlen, rfl⟩ ?_)
    rintro tl fv nv ⟨t', fo⟩ h' tk' ho ⟨w1, w2, w3, w4⟩ wF wN
    dsimp only at *
    clear hn hlen
    (try k_fold)
    (try simp only [List.cons_append] at *)
    obtain @⟨⟩ | @⟨na, pa, n1, n2, ta1, ta2, wv, lv, rv, y, v, l, r, m1, m2, hw, hl, hr⟩ := id w2
    all_goals try have ⟨hy, hll, hlr⟩ := w3
    all_goals try have htt : (A.take y.length).length = y.length := by simp; omega
    all_goals try by_cases hpre : A.take y.length = y
    all_goals try have henc : enc b (A.take y.length) ≠ enc b y := fun h => hpre (enc_inj hb (by omega) htt h)
    all_goals try (have henc : enc b (A.take y.length) = enc b y := congrArg (enc b) hpre; obtain @⟨⟩ | @⟨kw, tw⟩ := id hw)
    all_goals try (have hpre' : A.take y.length = y := hpre; by_cases hyb : y.length = b)
    all_goals try (have hlt : y.length < b := Nat.lt_of_le_of_ne hy hyb; cases hbit : bitAt A y.length))
  (refine wpAny_call ?_; k_dflt ktr_enter; k_steps)
  · have e : fo = t.look b A none := w4
    rw [e] at w1
    exact hret _ (_ :: tl) _ _ (by assumption) (end1t (by assumption)) (by ktn_ord) trivial (w1.mono (by ktd_sub))
  · refine TwoEnd.intro (tl) (.nil, fo) (by assumption) (by assumption) (by ktd_sub) (by first | assumption | ktn_ord) (by rfl) (by rfl) (by intro x h1 h2; simp only [if_neg h1, if_neg h2]) (Nat.succ_pos _) ?_
    refine ⟨w1, .nil, trivial, ?_⟩
    rw [Mine.T.look, if_pos hpre, if_pos hyb] at w4; exact w4
  · refine TwoEnd.intro (tl) (l, fo) (by assumption) (by assumption) (by ktd_sub) (by first | assumption | ktn_ord) (by rfl) (by rfl) (by intro x h1 h2; simp only [if_neg h1, if_neg h2]) (by dsimp only [Mine.T.ht]; omega) ?_
    refine ⟨w1, hl, hll, ?_⟩
    rw [Mine.T.look, if_pos hpre, if_neg hyb, hbit] at w4; exact w4
  · refine TwoEnd.intro (tl) (r, fo) (by assumption) (by assumption) (by ktd_sub) (by first | assumption | ktn_ord) (by rfl) (by rfl) (by intro x h1 h2; simp only [if_neg h1, if_neg h2]) (by dsimp only [Mine.T.ht]; omega) ?_
    refine ⟨w1, hr, hlr, ?_⟩
    rw [Mine.T.look, if_pos hpre, if_neg hyb, hbit] at w4; exact w4
  · refine TwoEnd.intro (_ :: tl) (.nil, some (y, kw)) (by assumption) (by assumption) (by ktd_sub) (by first | assumption | ktn_ord) (by rfl) (by rfl) (by intro x h1 h2; simp only [if_neg h1, if_neg h2]) (Nat.succ_pos _) ?_
    refine ⟨.some (.mk (by k_mem) (kd_use m2 (by ktd_sub))), .nil, trivial, ?_⟩
    rw [Mine.T.look, if_pos hpre, if_pos hyb] at w4; exact w4
  · refine TwoEnd.intro (_ :: tl) (l, some (y, kw)) (by assumption) (by assumption) (by ktd_sub) (by first | assumption | ktn_ord) (by rfl) (by rfl) (by intro x h1 h2; simp only [if_neg h1, if_neg h2]) (by dsimp only [Mine.T.ht]; omega) ?_
    refine ⟨.some (.mk (by k_mem) (kd_use m2 (by ktd_sub))), hl.mono (by ktd_sub), hll, ?_⟩
    rw [Mine.T.look, if_pos hpre, if_neg hyb, hbit] at w4; exact w4
  · refine TwoEnd.intro (_ :: tl) (r, some (y, kw)) (by assumption) (by assumption) (by ktd_sub) (by first | assumption | ktn_ord) (by rfl) (by rfl) (by intro x h1 h2; simp only [if_neg h1, if_neg h2]) (by dsimp only [Mine.T.ht]; omega) ?_
    refine ⟨.some (.mk (by k_mem) (kd_use m2 (by ktd_sub))), hr.mono (by ktd_sub), hlr, ?_⟩
    rw [Mine.T.look, if_pos hpre, if_neg hyb, hbit] at w4; exact w4
  · have e : fo = t.look b A none := by rw [← w4, Mine.T.look, if_neg hpre]
    rw [e] at w1
    exact hret _ (_ :: tl) _ _ (by assumption) (end1t (by assumption)) (by ktn_ord) trivial (w1.mono (by ktd_sub))
end W8
section W10

/-! ## a for over a list of routes that turns one name -/
def RowsEnd (h₀ : Heap) (L : Addr) (s₁ : Shared) (own news tl : Led) (m₀ : Str → Option Value) (y : Str) (stored : List Str) (R : Led → Value → Prop) (f : Flow) (s₂ : Shared) : Prop :=
  f = .next ∧ ∃ h' tk' m' tl' tv, s₂ = { s₁ with heap := h', toks := tk' } ∧ Fr h₀ L h' m' ∧ News h₀ L h' (own ++ (news ++ (tl ++ tl'))) ∧ (∀ q ∈ own ++ (news ++ tl), ∀ p ∈ tl', q.1 < p.1) ∧ m' y = some tv ∧ (∀ x, x ≠ y → stored.contains x = false → m' x = m₀ x) ∧ R (tl ++ tl') tv
section
variable {prog : Program} {w : World} {A : Around} {E : Value → Shared → Prop} {Q : Flow → Shared → Prop} {s : Shared} {env : Env} {h₀ : Heap}
theorem RowsEnd.intro {L : Addr} {own news tl led : Led} {m₀ m' : Str → Option Value} {y : Str} {stored : List Str} {R : Led → Value → Prop} {h' : Heap} {tk' : Nat} {tv : Value} (tl' : Led)
    (F : Fr h₀ L h' m') (N : News h₀ L h' led) (hs : ∀ p ∈ own ++ (news ++ (tl ++ tl')), p ∈ led) (ho : ∀ q ∈ own ++ (news ++ tl), ∀ p ∈ tl', q.1 < p.1) (hv : m' y = some tv) (hm : ∀ x, x ≠ y → stored.contains x = false → m' x = m₀ x) (hR : R (tl ++ tl') tv) :
    RowsEnd h₀ L s own news tl m₀ y stored R .next { s with heap := h', toks := tk' } :=
  ⟨rfl, h', tk', m', tl', tv, rfl, F, fun p hp => N p (hs p hp), ho, hv, hm, hR⟩
theorem tup_off {own led : Led} {a : Addr} {vs : List Value} {n : Nat} (ho : ∀ p ∈ own, p.2.cls ≠ .type "tuple") (h : (a, tupO vs n) ∈ own ++ led) : (a, tupO vs n) ∈ led :=
  (List.mem_append.mp h).elim (fun h => absurd rfl (ho _ h)) id
theorem TIn.off {own led : Led} {b : Nat} {v : Value} {t : T} (ho : ∀ p ∈ own, p.2.cls ≠ .type "tuple") (h : TIn (own ++ led) b v t) : TIn led b v t := by
  induction h with
  | nil => exact .nil
  | node h1 h2 hw _ _ ihl ihr => exact .node (tup_off ho h1) (tup_off ho h2) hw ihl ihr
theorem RsIn.at {news : Led} {b : Nat} : ∀ {vs : List Value} {rs : List (Bits × Nat)}, RsIn news b vs rs → ∀ {i : Nat} {v : Value}, vs[i]? = some v → ∃ r, rs[i]? = some r ∧ RIn news b v r
  | _, _, .nil, _, _, h => by simp at h
  | _, _, .cons (r := r) h1 h2, 0, _, h => by
    have e : _ = _ := Option.some.inj h
    exact ⟨r, rfl, e ▸ h1⟩
  | _, _, .cons h1 h2, i + 1, _, h => by
    simp only [List.getElem?_cons_succ] at h ⊢
    exact h2.at h
theorem iter_rows {target : PySem.Expr} {body : List Stmt} {b : Nat} {la : Addr} {ln : Nat} {vs : List Value} {rs : List (Bits × Nat)} {m₀ : Str → Option Value} {news : Led} {y : Str} {tv₀ : Value} (stored : List Str) (R : Nat → Led → Value → Prop)
    (hh : A.handled = none) (hm : (la, listOf vs.toArray ln) ∈ news) (hi : RsIn news b vs rs) (F : Fr h₀ env.locals s.heap m₀) (N : News h₀ env.locals s.heap news) (hy : m₀ y = some tv₀) (h0 : R 0 [] tv₀)
    (turn : ∀ i v r tv (u : Str → Option Value) tl own s₁, rs[i]? = some r → RIn news b v r → R i tl tv → (∀ q ∈ news, ∀ p ∈ tl, q.1 < p.1) → (∀ p ∈ own, p.2.cls ≠ .type "tuple") → Fr h₀ env.locals s₁.heap (fun x => if x = y then some tv else if stored.contains x then u x else m₀ x) → News h₀ env.locals s₁.heap (own ++ (news ++ tl)) →
      wpAny (model prog w) A (assign target env v) (fun _ s₃ => wpAny (model prog w) A (execs body env) (RowsEnd h₀ env.locals s₁ own news tl m₀ y stored (R (i + 1))) E s₃) E s₁)
    (done : ∀ tv (u : Str → Option Value) tl h tk, R rs.length tl tv → (∀ q ∈ news, ∀ p ∈ tl, q.1 < p.1) → Fr h₀ env.locals h (fun x => if x = y then some tv else if stored.contains x then u x else m₀ x) → News h₀ env.locals h (news ++ tl) → Q .next { s with heap := h, toks := tk }) :
    wpAny (model prog w) A (pyIter (.ref la)) (fun it s₂ => LoopAtT prog w A h₀ env target body Q E it s₂) E s := by
  have hl : s.heap.IsList la vs.toArray := News.list N hm
  have hla : la ≠ s.heap.objs.size := Nat.ne_of_lt (Heap.lt_size (N _ hm).1)
  have em : ∀ {m₁ : Str → Option Value} {tv : Value}, m₁ y = some tv → (∀ x, x ≠ y → stored.contains x = false → m₁ x = m₀ x) → (fun x => if x = y then some tv else if stored.contains x then m₁ x else m₀ x) = m₁ := by
    intro m₁ tv h1 h2
    funext x
    by_cases hx : x = y
    · subst hx; simp [h1]
    · simp only [if_neg hx]
      cases hc : stored.contains x with
      | true => simp
      | false => simp only [Bool.false_eq_true, if_false]; exact (h2 x hx hc).symm
  refine wpAny_pyIter_list hl ?_
  have W := Walks.list (prog := prog) (w := w) hh s.heap.objs.size la hla vs.toArray
  have hlen : vs.toArray.size = rs.length := by rw [List.size_toArray, hi.length]
  rw [hlen] at W
  refine ⟨s.heap.objs.size, _, _, rs.length, _, _, m₀, news, (fun i m nx => ∃ tl tv, nx = news ++ tl ∧ (∀ q ∈ news, ∀ p ∈ tl, q.1 < p.1) ∧ m y = some tv ∧ (∀ x, x ≠ y → stored.contains x = false → m x = m₀ x) ∧ R i tl tv), rfl, W, ?_, ?_, ?_,
    ⟨⟨_, Heap.get?_push_size _ rfl, rfl, rfl⟩, hl.at fun o e => Heap.get?_push_of_some _ e⟩, F.push _, (fun p hp => ⟨Heap.get?_push_of_some _ (N p hp).1, (N p hp).2⟩), (fun i s' v Q' st hQ' => letGo_listiter st.1 hQ'),
    ⟨[], tv₀, (List.append_nil _).symm, ktn_ord0, hy, fun _ _ _ => rfl, h0⟩, ?_, ?_⟩
  · intro hc
    rcases List.mem_cons.mp hc with e | hc
    · exact absurd F.ns.lt (e ▸ Nat.lt_irrefl _)
    · exact (N _ hm).2.1 (List.mem_singleton.mp hc).symm
  · intro c hc
    rw [List.mem_singleton.mp hc]
    exact next_is_new F
  · intro p hp hI
    exact absurd (Heap.lt_size (N p hp).1) ((List.mem_singleton.mp hI) ▸ Nat.lt_irrefl _)
  · rintro i v m₁ nx s₁ own hin hP ⟨tl, tv, rfl, ho, hv, hm₁, hR⟩ hoff hsub hlive hfull hst F₁ N₁
    obtain ⟨r, hr, hri⟩ := hi.at (by simpa using hP)
    have hown : ∀ p ∈ own, p.2.cls ≠ .type "tuple" := by
      intro p hp hc
      have h1 := hlive p hp
      rcases List.mem_cons.mp (hsub p hp) with e | e
      · obtain ⟨o, h2, h3, _⟩ := hst.1
        rw [e, h2] at h1
        rw [← Option.some.inj h1, h3] at hc
        exact absurd (Value.type.inj hc) (by decide)
      · obtain ⟨o, h2, h3, _⟩ := hst.2
        rw [List.mem_singleton.mp e, h2] at h1
        rw [← Option.some.inj h1, h3] at hc
        exact absurd (Value.type.inj hc) (by decide)
    refine wpAny_mono (turn i v r tv m₁ tl own s₁ hr hri hR ho hown (by rw [em hv hm₁]; exact F₁) N₁) (fun _ s₃ h₃ => wpAny_mono h₃ (fun f s₄ h₄ => ?_) fun _ _ e => e) fun _ _ e => e
    obtain ⟨rfl, h', tk', m', tl', tv', rfl, F', N', ho', hv', hm', hR'⟩ := h₄
    refine ⟨rfl, h', tk', m', news ++ (tl ++ tl'), rfl, F', N', ?_, tl ++ tl', tv', rfl, ord_app ho fun q hq => ho' q (List.mem_append.mpr (.inr (List.mem_append.mpr (.inl hq)))), hv', hm', hR'⟩
    intro p hp
    rcases List.mem_append.mp hp with hp | hp
    · exact hoff p (List.mem_append.mpr (.inl hp))
    · rcases List.mem_append.mp hp with hp | hp
      · exact hoff p (List.mem_append.mpr (.inr hp))
      · intro hI
        obtain ⟨oI, hI1, _⟩ := hst.1
        have hIo := hfull s.heap.objs.size (.head _) (next_is_new F) oI hI1
        have := ho' _ (List.mem_append.mpr (.inl hIo)) p hp
        rw [List.mem_singleton.mp hI] at this
        exact Nat.lt_irrefl _ this
  · rintro h' tk m' nx F' N' _ ⟨tl, tv, rfl, ho, hv, hm₁, hR⟩
    exact done tv m' tl h' tk hR ho (by rw [em hv hm₁]; exact F') N'
end
/-! ## _law_put_all -/
inductive PutAllR (news : Led) : List Value → Nat × T × List (Bits × Nat) → Prop where
  | mk {b : Nat} {t : T} {rs : List (Bits × Nat)} {tv rv : Value} {t2 : Tok} : TIn news b tv t → LIn news b rv rs → PutAllR news [tv, rv, .int b t2] (b, t, rs)
abbrev putAllC : ToldN (Nat × T × List (Bits × Nat)) where
  Rel := PutAllR
  Ok := fun d => d.2.1.WF ∧ d.2.1.Len d.1 ∧ (∀ r ∈ d.2.2, r.1.length ≤ d.1) ∧ d.1 ≤ 4
  size := fun _ => 12
  Tl := fun _ => True
  Out := fun news r d => TIn news d.1 r (d.2.1.putAll d.2.2)
set_option maxHeartbeats 8000000 in
theorem putAll_tells (w : World) (mean : ExcName → Option Value) (mg mb : Str → Option Value) : ∀ d, Tel w mean mg mb 112 putAllC d := by
  have Cput_tells := put_tells w mean mg mb
  delta Tel
  unfold Tel at Cput_tells
  k_fill
  k_with_none
  refine tellsN_of fun d IH => ?_
  unfold TellsN
  intro dp un gd cn cs a ccd cl outer A₀ base h₀ L m news s vs Q E B F X N T hk hR hok hd hu hret
  clear IH
  obtain @⟨b, t, rs, tv, rv, t2, hn, hr⟩ := hR
  obtain ⟨hwf, hlen, hrs, hb⟩ := hok
  dsimp only at *
  obtain @⟨la, vs, ln, rs, lm, lr⟩ := id hr
  k_with "call ref" => first | ktn_call "tree_put" putC
  k_with "exec For Tuple Name cons nil" => (k_dflt (refine For_invTF (by assumption) ?_ (by intro _; rfl)))
  k_with "pyIter ref" => (
    k_dflt (refine iter_rows (y := Str.ofString "tree") [Str.ofString "prefix", Str.ofString "worth"] (fun i tl v => TIn (news ++ tl) b v (t.putAll (rs.take i))) (by rfl) lm lr (by assumption) (by assumption) (by rfl) (hn.mono (by ktd_sub)) ?turnGoal ?doneGoal)
    case' turnGoal =>
      rintro i v r tv' u tl own s₁ hri hrin hT ho hown wF wN
      obtain @⟨ra, rp, rn1, rn2, rt1, rt2, rt3, rx, rk, rm1, rm2⟩ := hrin
      have hrl : rx.length ≤ b := hrs _ (List.mem_of_getElem? hri)
      have hwf' : (t.putAll (rs.take i)).WF := putAll_wf hwf
      have hlen' : (t.putAll (rs.take i)).Len b := putAll_len hlen fun r hr => hrs r (List.mem_of_mem_take hr)
      have hht := ht_le5 hb hwf' hlen'
    case' doneGoal =>
      rintro tv' u tl h' tk' hT ho wF wN)
  (refine wpAny_call ?_; k_dflt ktr_enter; k_steps)
  · exact hret _ tl _ _ (by assumption) (by assumption) ho trivial (by rw [List.take_length] at hT; exact hT)
  · refine RowsEnd.intro _ (by assumption) (by assumption) (by ktd_sub) (by ktn_ord) (by rfl) ?_ ?_
    · intro x h1 h2
      have h3 : x ≠ Str.ofString "prefix" := by rintro rfl; exact absurd h2 (by decide)
      have h4 : x ≠ Str.ofString "worth" := by rintro rfl; exact absurd h2 (by decide)
      simp only [if_neg h1, if_neg h3, if_neg h4, h2, Bool.false_eq_true, if_false]
    · have e : rs.take (i + 1) = rs.take i ++ [(rx, rk)] := by rw [List.take_add_one, hri]; rfl
      rw [e, Mine.T.putAll, List.foldl_append]
      exact TIn.off hown (by assumption)
end W10
section W11

/-! ## the box of draws -/
abbrev boxO (c : Addr) (sp : Nat) (t : Tok) (n : Nat) : Obj := listOf [.ref c, .int sp t].toArray n
structure BoxAt (news : Led) (bx c : Addr) : Prop where
  nums : ∃ vs cn ns, (c, listOf (List.toArray vs) cn) ∈ news ∧ IntsAre vs ns ∧ ns.length ≤ 40
  apart : ∀ p ∈ news, p.1 ≠ bx
theorem BoxAt.grow {news tl : Led} {bx c : Addr} {o : Obj} (h : BoxAt news bx c) (ho : ∀ q ∈ (bx, o) :: news, ∀ p ∈ tl, q.1 < p.1) : BoxAt (news ++ tl) bx c := by
  obtain ⟨vs, cn, ns, h1, h2, h3⟩ := h.nums
  exact ⟨⟨vs, cn, ns, List.mem_append.mpr (.inl h1), h2, h3⟩, fun p hp => (List.mem_append.mp hp).elim (h.apart p) fun hp => Ne.symm (Nat.ne_of_lt (ho _ (.head _) p hp))⟩
theorem BoxAt.cons {news : Led} {bx c d : Addr} {o : Obj} (h : BoxAt news bx c) (hd : bx < d) : BoxAt ((d, o) :: news) bx c := by
  obtain ⟨vs, cn, ns, h1, h2, h3⟩ := h.nums
  refine ⟨⟨vs, cn, ns, .tail _ h1, h2, h3⟩, fun p hp => ?_⟩
  rcases List.mem_cons.mp hp with rfl | hp
  · exact Ne.symm (Nat.ne_of_lt hd)
  · exact h.apart p hp
def TellsB (w : World) (mean : ExcName → Option Value) (mg mb : Str → Option Value) (f : Addr) (rest : List Value) (sz steps : Nat) (Out : Led → Value → Prop) : Prop :=
  ∀ (dp un : Nat) (gd : Option (List Code)) (cn : Str) (cs : Scope) (a : Addr) (ccd : Value) (cl : List (Str × Addr)) (outer : List Env) (A₀ : Around) (base h₀ : Heap) (L : Addr) (m : Str → Option Value) (news : Led) (s : Shared) (bx c : Addr) (sp : Nat) (t : Tok) (n : Nat)
    (Q E : Value → Shared → Prop),
    Below A₀ base outer h₀ → Fr h₀ L s.heap m → (hd.heap_39 w.params).In h₀ → News h₀ L s.heap ((bx, boxO c sp t n) :: news) → BoxAt news bx c → Top hd.view_39 (looseW hd.view_39 []) mean mg mb h₀ → cs.kind = .function →
    sp + steps ≤ 1000 → dp + sz < recursionLimit → un + 8 * sz < cLine →
    (∀ r tl sp' t' n' h' tk', Fr h₀ L h' m → News h₀ L h' ((bx, boxO c sp' t' n') :: (news ++ tl)) → (∀ q ∈ (bx, boxO c sp t n) :: news, ∀ p ∈ tl, q.1 < p.1) → sp' ≤ sp + steps → Out (news ++ tl) r → Q r { s with heap := h', toks := tk' }) →
    wpAny (model PySem.Challenge.rw_sj0172_01.row.prog w) (ktrTop dp un gd cn cs L a ccd cl outer) (call (.ref f) (.ref bx :: rest)) Q E s
theorem len_led {prog : Program} {w : World} {A : Around} {E : Value → Shared → Prop} {s : Shared} {h₀ : Heap} {L l : Addr} {news : Led} {us : List Value} {n : Nat} {Q : Value → Shared → Prop} (N : News h₀ L s.heap news) (hm : (l, listOf us.toArray n) ∈ news) {k : Nat} (hk : us.length = k) (hfit : k ≤ 1000)
    (h : Q (.int (k : Int) (s.toks + 1)) { s with toks := s.toks + 1 + 1 }) : wpAny (model prog w) A (call (.builtin "len") [.ref l]) Q E s := by
  have e : us.toArray.size = k := by rw [List.size_toArray, hk]
  exact len_list (News.list N hm) (by rw [e]; omega) (by rw [e]; exact h)
local macro_rules | `(tactic| walk_at "call builtin:len") => `(tactic| (k_here; k_dflt (refine' len_led ?N ?m ?k ?f ?_; (case N => k_asm); (case m => k_mem); (case k => exact IntsAre.length (by assumption)); (case f => omega))))
theorem rem_nat (x : Int) {many : Int} (h1 : 0 < many) (t : Tok) : ∃ (k : Nat) (u : Tok), (k : Int) < many ∧ Value.int (x.fmod many) t = .int k u := by
  have a := Int.fmod_nonneg_of_pos x h1
  have c := Int.fmod_lt_of_pos x h1
  exact ⟨(x.fmod many).toNat, t, by omega, by rw [Int.toNat_of_nonneg a]⟩
theorem spot_up {c : Addr} {sp n : Nat} {t : Tok} : boxO c (sp + 1) t n = listOf [.ref c, .int ((sp : Int) + 1) t].toArray n := by
  have e : ((sp + 1 : Nat) : Int) = (sp : Int) + 1 := by omega
  unfold boxO
  rw [e]
local macro_rules | `(tactic| k_all) => `(tactic| first | assumption | fail "k_all: not told")
set_option maxHeartbeats 8000000 in
theorem draw_tells (w : World) (mean : ExcName → Option Value) (mg mb : Str → Option Value) (many : Int) (tm : Tok) (h0 : 0 < many) (h1 : many ≤ 64) :
    TellsB w mean mg mb 98 [.int many tm] 1 1 (fun _ r => ∃ (k : Nat) (t : Tok), (k : Int) < many ∧ r = .int k t) := by
  unfold TellsB
  k_fill
  k_with_none
  intro dp un gd cn cs a ccd cl outer A₀ base h₀ L m news s bx c sp t n Q E B F X N hbox T hk hsp hd hu hret
  obtain ⟨⟨vs, cn2, ns, m1, hi, hl⟩, hap⟩ := hbox
  (refine wpAny_call ?_; k_dflt ktr_enter; k_steps)
  all_goals (
    refine hret _ [] (sp + 1) _ _ _ _ (by assumption) (by rw [List.append_nil, spot_up]; assumption) ktn_ord0 (Nat.le_refl _) (rem_nat _ h0 _))
theorem use_draw {w : World} {mean : ExcName → Option Value} {mg mb : Str → Option Value} {dp un : Nat} {gd : Option (List Code)} {cn : Str} {cs : Scope} {a : Addr} {ccd : Value} {cl : List (Str × Addr)} {outer : List Env} {A₀ : Around} {base h₀ : Heap} {L : Addr}
    {m : Str → Option Value} {news : Led} {s : Shared} {Q E : Value → Shared → Prop} {bx c : Addr} {sp n : Nat} {t tm : Tok} {many : Int}
    (B : Below A₀ base outer h₀) (F : Fr h₀ L s.heap m) (X : (hd.heap_39 w.params).In h₀) (N : News h₀ L s.heap ((bx, boxO c sp t n) :: news)) (hbox : BoxAt news bx c) (T : Top hd.view_39 (looseW hd.view_39 []) mean mg mb h₀) (hk : cs.kind = .function)
    (h0 : 0 < many) (h1 : many ≤ 64) (hsp : sp + 1 ≤ 1000) (hd : dp + 1 < recursionLimit) (hu : un + 8 < cLine)
    (ret : ∀ (k : Nat) u sp' t' n' h' tk', (k : Int) < many → (k : Int) < 64 → sp' ≤ sp + 1 → Fr h₀ L h' m → News h₀ L h' ((bx, boxO c sp' t' n') :: news) → Q (.int k u) { s with heap := h', toks := tk' }) :
    wpAny (model PySem.Challenge.rw_sj0172_01.row.prog w) (ktrTop dp un gd cn cs L a ccd cl outer) (call (.ref 98) [.ref bx, .int many tm]) Q E s := by
  refine draw_tells w mean mg mb many tm h0 h1 _ _ _ _ _ _ _ _ _ _ _ _ _ _ _ _ _ _ _ _ _ _ _ B F X N hbox T hk hsp hd hu fun r tl sp' t' n' h' tk' F' N' ho hle hr => ?_
  obtain ⟨k, u, hk', rfl⟩ := hr
  exact ret k u sp' t' n' h' tk' hk' (by omega) hle F' fun p hp => N' p ((List.mem_cons.mp hp).elim (fun e => e ▸ List.mem_cons_self) fun hp => List.mem_cons_of_mem _ (List.mem_append.mpr (.inl hp)))
end W11
section W12
local macro_rules | `(tactic| walk_at "none") => `(tactic| fail)

theorem pow_pos2 {k : Nat} : (0 : Int) < 2 ^ ((k : Int)).toNat := Int.pow_pos (by decide)
theorem pow_le64 {k : Nat} (h : k ≤ 6) : (2 : Int) ^ ((k : Int)).toNat ≤ 64 := by
  have e : ((k : Int)).toNat = k := by omega
  rw [e]
  have : (2 : Nat) ^ k ≤ 2 ^ 6 := Nat.pow_le_pow_right (by decide) h
  have e2 : (2 : Int) ^ k = ((2 ^ k : Nat) : Int) := by norm_cast
  omega
theorem prefix_in {b k k' : Nat} (hb : b ≤ 4) (h1 : (k : Int) < (b : Int) + 1) (h2 : (k' : Int) < 2 ^ ((k : Int)).toNat) : ∃ x : Bits, x.length = k ∧ ((k' : Int) * 2 ^ ((b : Int) - k).toNat) = (enc b x : Int) := by
  have e1 : ((k : Int)).toNat = k := by omega
  have e2 : ((b : Int) - k).toNat = b - k := by omega
  rw [e1] at h2
  obtain ⟨x, hx, e⟩ := enc_ex hb (show k ≤ b by omega) (show k' < 2 ^ k by exact_mod_cast h2)
  exact ⟨x, hx, by rw [e, e2]; norm_cast⟩
theorem News.boxSwap {h₀ h : Heap} {L : Addr} {a c : Addr × Obj} {news : Led} (N : News h₀ L h (a :: c :: news)) : News h₀ L h (c :: (news ++ [a])) := fun p hp => N p (by
  simp only [List.mem_cons, List.mem_append, List.not_mem_nil, or_false] at hp ⊢
  rcases hp with h | h | h
  · exact .inr (.inl h)
  · exact .inr (.inr h)
  · exact .inl h)
local macro_rules | `(tactic| walk_at "call ref") => `(tactic| (k_here; k_dflt (refine' use_draw ?k1 ?k2 ?k3 ?k4 ?hb ?k5 ?kK ?h0 ?h1 ?hs ?kd ?ku ?_; (case k1 => k_asm); (case k2 => k_asm); (case k3 => k_asm); (case k4 => k_asm); (case hb => assumption); (case k5 => k_asm); (case kK => first | exact rfl | assumption); (case h0 => first | omega | exact pow_pos2); (case h1 => first | omega | exact pow_le64 (by omega)); (case hs => omega); (case kd => ktr_room); (case ku => ktr_units)); intro k9 u9 sp9 t9 n9 h9 tk9 hk9 hkk9 hs9 F9 N9; (try dsimp only); (try k_fold)))

/-! ## _law_prefix -/
set_option maxHeartbeats 8000000 in
theorem prefix_tells (w : World) (mean : ExcName → Option Value) (mg mb : Str → Option Value) (b : Nat) (tm : Tok) (hb : b ≤ 4) :
    TellsB w mean mg mb 105 [.int b tm] 3 2 (fun led r => ∃ x : Bits, x.length ≤ b ∧ PIn led b r x) := by
  unfold TellsB
  k_fill
  k_with_none
  intro dp un gd cn cs a ccd cl outer A₀ base h₀ L m news s bx c sp t n Q E B F X N hbox T hk hsp hd hu hret
  (refine wpAny_call ?_; k_dflt ktr_enter; k_steps)
  obtain ⟨x, hx, e⟩ := prefix_in hb (by assumption) (by assumption)
  refine hret _ [_] _ _ _ _ _ (by assumption) (Mine.News.boxSwap (by assumption)) (by ktn_ord) (by omega) ⟨x, by omega, ?_⟩
  exact .mk (n := 0) (by rw [← e, hx]; k_mem)
end W12
section W13

local macro_rules | `(tactic| walk_at "call ref") => `(tactic| (k_here; k_dflt (refine' use_draw ?k1 ?k2 ?k3 ?k4 ?hb ?k5 ?kK ?h0 ?h1 ?hs ?kd ?ku ?_; (case k1 => k_asm); (case k2 => k_asm); (case k3 => k_asm); (case k4 => k_asm); (case hb => assumption); (case k5 => k_asm); (case kK => first | exact rfl | assumption); (case h0 => first | omega | exact pow_pos2); (case h1 => first | omega | exact pow_le64 (by omega)); (case hs => omega); (case kd => ktr_room); (case ku => ktr_units)); intro k9 u9 sp9 t9 n9 h9 tk9 hk9 hkk9 hs9 F9 N9; (try dsimp only); (try k_fold)))

/-! ## a for over a range that draws from the box and turns one name -/
def BoxEnd (h₀ : Heap) (L : Addr) (s₁ : Shared) (own news tl : Led) (bx c : Addr) (top : Nat) (m₀ : Str → Option Value) (y : Str) (stored : List Str) (R : Led → Value → Prop) (f : Flow) (s₂ : Shared) : Prop :=
  f = .next ∧ ∃ h' tk' m' tl' tv sp' t' n', s₂ = { s₁ with heap := h', toks := tk' } ∧ Fr h₀ L h' m' ∧ News h₀ L h' ((bx, boxO c sp' t' n') :: (own ++ (news ++ (tl ++ tl')))) ∧ (∀ p ∈ tl', bx < p.1) ∧ (∀ q ∈ own ++ (news ++ tl), ∀ p ∈ tl', q.1 < p.1) ∧ sp' ≤ top ∧
    m' y = some tv ∧ (∀ x, x ≠ y → stored.contains x = false → m' x = m₀ x) ∧ R (news ++ (tl ++ tl')) tv
section
variable {prog : Program} {w : World} {A : Around} {E : Value → Shared → Prop} {Q : Flow → Shared → Prop} {s : Shared} {env : Env} {h₀ : Heap}
theorem BoxEnd.intro {L : Addr} {own news tl led : Led} {bx c : Addr} {top sp' : Nat} {t' : Tok} {n' : Nat} {m₀ m' : Str → Option Value} {y : Str} {stored : List Str} {R : Led → Value → Prop} {h' : Heap} {tk' : Nat} {tv : Value} (tl' : Led)
    (F : Fr h₀ L h' m') (N : News h₀ L h' ((bx, boxO c sp' t' n') :: led)) (hs : ∀ p ∈ own ++ (news ++ (tl ++ tl')), p ∈ led) (hb : ∀ p ∈ tl', bx < p.1) (ho : ∀ q ∈ own ++ (news ++ tl), ∀ p ∈ tl', q.1 < p.1) (hsp : sp' ≤ top)
    (hv : m' y = some tv) (hm : ∀ x, x ≠ y → stored.contains x = false → m' x = m₀ x) (hR : R (news ++ (tl ++ tl')) tv) : BoxEnd h₀ L s own news tl bx c top m₀ y stored R .next { s with heap := h', toks := tk' } :=
  ⟨rfl, h', tk', m', tl', tv, sp', t', n', rfl, F, fun p hp => N p ((List.mem_cons.mp hp).elim (fun e => e ▸ List.mem_cons_self) fun hp => List.mem_cons_of_mem _ (hs p hp)), hb, ho, hsp, hv, hm, hR⟩
theorem iter_range_box {x : Str} {body : List Stmt} {r : Addr} {b₀ : Int} {t₀ u₀ w₀ : Tok} {n : Nat} {m₀ : Str → Option Value} {news : Led} {y : Str} {tv₀ : Value} {bx c : Addr} {sp nn : Nat} {t : Tok} (stored : List Str) (R : Led → Value → Prop)
    (hh : A.handled = none) (hr : IsRange s.heap r 0 b₀ 1 t₀ u₀ w₀) (hsmall : Builtin.Range.small 0 b₀ 1 = true) (hn : Builtin.Range.rangeSize 0 b₀ 1 = (n : Int)) (F : Fr h₀ env.locals s.heap m₀) (N : News h₀ env.locals s.heap ((bx, boxO c sp t nn) :: news)) (hbox : BoxAt news bx c)
    (hy : m₀ y = some tv₀) (hx : stored.contains x = true) (h0 : R news tv₀)
    (turn : ∀ i kv tv (u : Str → Option Value) tl own sp' t' n' s₁, i < n → sp' ≤ sp + 3 * i → R (news ++ tl) tv → BoxAt (own ++ (news ++ tl)) bx c → (∀ p ∈ own, p.2.cls ≠ .type "tuple") →
      Fr h₀ env.locals s₁.heap (fun z => if z = x then some kv else if z = y then some tv else if stored.contains z then u z else m₀ z) → News h₀ env.locals s₁.heap ((bx, boxO c sp' t' n') :: (own ++ (news ++ tl))) →
      wpAny (model prog w) A (execs body env) (BoxEnd h₀ env.locals s₁ own news tl bx c (sp + 3 * (i + 1)) m₀ y stored R) E s₁)
    (done : ∀ tv (u : Str → Option Value) tl sp' t' n' h tk, sp' ≤ sp + 3 * n → R (news ++ tl) tv → (∀ p ∈ tl, bx < p.1) → (∀ q ∈ news, ∀ p ∈ tl, q.1 < p.1) → Fr h₀ env.locals h (fun z => if z = y then some tv else if stored.contains z then u z else m₀ z) →
      News h₀ env.locals h ((bx, boxO c sp' t' n') :: (news ++ tl)) → Q .next { s with heap := h, toks := tk }) :
    wpAny (model prog w) A (pyIter (.ref r)) (fun it s₂ => LoopAtV prog w A h₀ env x body Q E it s₂) E s := by
  have em : ∀ {m₁ : Str → Option Value} {tv : Value}, m₁ y = some tv → (∀ x, x ≠ y → stored.contains x = false → m₁ x = m₀ x) → (fun x => if x = y then some tv else if stored.contains x then m₁ x else m₀ x) = m₁ := by
    intro m₁ tv h1 h2
    funext x
    by_cases hx : x = y
    · subst hx; simp [h1]
    · simp only [if_neg hx]
      cases hc : stored.contains x with
      | true => simp
      | false => simp only [Bool.false_eq_true, if_false]; exact (h2 x hx hc).symm
  refine wpAny_pyIter_range hr hsmall ?_
  have W : Walks prog w A s.heap.objs.size [s.heap.objs.size] [s.heap.objs.size] n (fun i v => i < n ∧ ∃ t, v = .int ((0 : Int) + i * 1) t)
      (fun i h => IsRangeIter h s.heap.objs.size ((0 : Int) + (i : Nat) * 1) ((n : Int) - (i : Nat)) 1) := (Walks.range hh _ 0 1 n).bound
  refine ⟨s.heap.objs.size, _, _, n, _, _, m₀, ((bx, boxO c sp t nn) :: news), (fun i m nx => ∃ tl tv sp' t' n', nx = (bx, boxO c sp' t' n') :: (news ++ tl) ∧ (∀ p ∈ tl, bx < p.1) ∧ (∀ q ∈ news, ∀ p ∈ tl, q.1 < p.1) ∧ sp' ≤ sp + 3 * i ∧ m y = some tv ∧ (∀ x, x ≠ y → stored.contains x = false → m x = m₀ x) ∧ R (news ++ tl) tv), rfl, W, ?_, ?_, ?_,
    (by show IsRangeIter _ _ _ _ _; rw [hn]; simpa using Heap.get?_push_size _ rfl), F.push _, (fun p hp => ⟨Heap.get?_push_of_some _ (N p hp).1, (N p hp).2⟩),
    ⟨[], tv₀, sp, t, nn, by rw [List.append_nil], (fun _ h => nomatch h), ktn_ord0, Nat.le_refl _, hy, fun _ _ _ => rfl, by rw [List.append_nil]; exact h0⟩, ?_, ?_⟩
  · intro hc
    exact absurd F.ns.lt ((List.mem_singleton.mp hc) ▸ Nat.lt_irrefl _)
  · intro d hc
    rw [List.mem_singleton.mp hc]
    exact next_is_new F
  · intro p hp hI
    exact absurd (Heap.lt_size (N p hp).1) ((List.mem_singleton.mp hI) ▸ Nat.lt_irrefl _)
  · rintro i v m₁ nx s₁ own - hin ⟨_, tP, rfl⟩ ⟨tl, tv, sp', t', n', rfl, hb, ho, hsp, hv, hm₁, hR⟩ hoff hsub hlive hfull hst F₁ N₁
    have hown : ∀ p ∈ own, p.2.cls ≠ .type "tuple" := by
      intro p hp hc
      have h1 := hlive p hp
      rw [List.mem_singleton.mp (hsub p hp), hst] at h1
      rw [← Option.some.inj h1] at hc
      exact absurd (Value.type.inj hc) (by decide)
    have hbI : bx ≠ s.heap.objs.size := fun e => hoff _ (.head _) (by rw [e]; exact .head _)
    have hbox' : BoxAt (own ++ (news ++ tl)) bx c := by
      obtain ⟨vs, cn, ns, h1, h2, h3⟩ := hbox.nums
      refine ⟨⟨vs, cn, ns, List.mem_append.mpr (.inr (List.mem_append.mpr (.inl h1))), h2, h3⟩, fun p hp => ?_⟩
      rcases List.mem_append.mp hp with hp | hp
      · rw [List.mem_singleton.mp (hsub p hp)]; exact Ne.symm hbI
      · rcases List.mem_append.mp hp with hp | hp
        · exact hbox.apart p hp
        · exact Ne.symm (Nat.ne_of_lt (hb p hp))
    have F₂ : Fr h₀ env.locals s₁.heap (fun z => if z = x then some (.int ((0 : Int) + i * 1) tP) else if z = y then some tv else if stored.contains z then m₁ z else m₀ z) := by
      have e : (fun z => if z = x then some (Value.int ((0 : Int) + i * 1) tP) else if z = y then some tv else if stored.contains z then m₁ z else m₀ z) = fun z => if z = x then some (.int ((0 : Int) + i * 1) tP) else m₁ z := by
        funext z
        have h : (if z = y then some tv else if stored.contains z then m₁ z else m₀ z) = m₁ z := congrFun (em hv hm₁) z
        rw [h]
      rw [e]; exact F₁
    refine wpAny_mono (turn i _ tv m₁ tl own sp' t' n' s₁ hin hsp hR hbox' hown F₂ (fun p hp => N₁ p (by
      rcases List.mem_cons.mp hp with hp | hp
      · exact List.mem_append.mpr (.inr (hp ▸ .head _))
      · rcases List.mem_append.mp hp with hp | hp
        · exact List.mem_append.mpr (.inl hp)
        · exact List.mem_append.mpr (.inr (.tail _ hp))))) (fun f s₄ h₄ => ?_) fun _ _ e => e
    obtain ⟨rfl, h', tk', m', tl', tv', sp2, t2, n2, rfl, F', N', hb', ho', hsp', hv', hm', hR'⟩ := h₄
    refine ⟨rfl, h', tk', m', (bx, boxO c sp2 t2 n2) :: (news ++ (tl ++ tl')), rfl, F', fun p hp => N' p (by
      rcases List.mem_append.mp hp with hp | hp
      · exact .tail _ (List.mem_append.mpr (.inl hp))
      · rcases List.mem_cons.mp hp with hp | hp
        · exact hp ▸ .head _
        · exact .tail _ (List.mem_append.mpr (.inr hp))), ?_, tl ++ tl', tv', sp2, t2, n2, rfl, ?_, ord_app ho fun q hq => ho' q (List.mem_append.mpr (.inr (List.mem_append.mpr (.inl hq)))), hsp', hv', hm', hR'⟩
    · intro p hp
      rcases List.mem_cons.mp hp with rfl | hp
      · exact fun hI => hbI (List.mem_singleton.mp hI)
      · rcases List.mem_append.mp hp with hp | hp
        · exact hoff p (.tail _ (List.mem_append.mpr (.inl hp)))
        · rcases List.mem_append.mp hp with hp | hp
          · exact hoff p (.tail _ (List.mem_append.mpr (.inr hp)))
          · intro hI
            have hIo := hfull s.heap.objs.size (.head _) (next_is_new F) _ hst
            have := ho' _ (List.mem_append.mpr (.inl hIo)) p hp
            rw [List.mem_singleton.mp hI] at this
            exact Nat.lt_irrefl _ this
    · intro p hp
      rcases List.mem_append.mp hp with hp | hp
      · exact hb p hp
      · exact hb' p hp
  · rintro h' tk m' nx F' N' _ ⟨tl, tv, sp', t', n', rfl, hb, ho, hsp, hv, hm₁, hR⟩
    exact done tv m' tl sp' t' n' h' tk hsp hR hb ho (by rw [em hv hm₁]; exact F') N'
end
theorem use_prefix {w : World} {mean : ExcName → Option Value} {mg mb : Str → Option Value} {dp un : Nat} {gd : Option (List Code)} {cn : Str} {cs : Scope} {a : Addr} {ccd : Value} {cl : List (Str × Addr)} {outer : List Env} {A₀ : Around} {base h₀ : Heap} {L : Addr}
    {m : Str → Option Value} {news : Led} {s : Shared} {Q E : Value → Shared → Prop} {bx c : Addr} {sp n b : Nat} {t tm : Tok}
    (B : Below A₀ base outer h₀) (F : Fr h₀ L s.heap m) (X : (hd.heap_39 w.params).In h₀) (N : News h₀ L s.heap ((bx, boxO c sp t n) :: news)) (hbox : BoxAt news bx c) (T : Top hd.view_39 (looseW hd.view_39 []) mean mg mb h₀) (hk : cs.kind = .function)
    (hb : b ≤ 4) (hsp : sp + 2 ≤ 1000) (hd : dp + 3 < recursionLimit) (hu : un + 24 < cLine)
    (ret : ∀ r x tl sp' t' n' h' tk', x.length ≤ b → PIn (news ++ tl) b r x → (∀ p ∈ tl, bx < p.1) → (∀ q ∈ news, ∀ p ∈ tl, q.1 < p.1) → BoxAt (news ++ tl) bx c → sp' ≤ sp + 2 → Fr h₀ L h' m → News h₀ L h' ((bx, boxO c sp' t' n') :: (news ++ tl)) → Q r { s with heap := h', toks := tk' }) :
    wpAny (model PySem.Challenge.rw_sj0172_01.row.prog w) (ktrTop dp un gd cn cs L a ccd cl outer) (call (.ref 105) [.ref bx, .int b tm]) Q E s := by
  refine prefix_tells w mean mg mb b tm hb _ _ _ _ _ _ _ _ _ _ _ _ _ _ _ _ _ _ _ _ _ _ _ B F X N hbox T hk hsp hd hu fun r tl sp' t' n' h' tk' F' N' ho hle hr => ?_
  obtain ⟨x, hx, hp⟩ := hr
  exact ret r x tl sp' t' n' h' tk' hx hp (ho _ (.head _)) (fun q hq => ho q (.tail _ hq)) (hbox.grow ho) hle F' N'
theorem add_one_nat {prog : Program} {w : World} {A : Around} {E : Value → Shared → Prop} {s : Shared} {k : Nat} {t u : Tok} {Q : Value → Shared → Prop} (h : Q (.int ((1 + k : Nat) : Int) s.toks) { s with toks := s.toks + 1 }) :
    wpAny (model prog w) A (binaryOp .Add (.int 1 t) (.int (k : Int) u)) Q E s := by
  have e : ((1 + k : Nat) : Int) = 1 + (k : Int) := by omega
  rw [e] at h
  exact add_int h
theorem fm5 (x : Int) : (x.fmod 5 - 0).toNat ≤ 4 := by
  have := Int.fmod_lt_of_pos x (show (0 : Int) < 5 by decide)
  omega
theorem blt_app {bx : Addr} {a c : Led} (h1 : ∀ p ∈ a, bx < p.1) (h2 : ∀ p ∈ c, bx < p.1) : ∀ p ∈ a ++ c, bx < p.1 := fun p hp => (List.mem_append.mp hp).elim (h1 p) (h2 p)
theorem blt_of {bx : Addr} {o : Obj} {l tl : Led} (h : ∀ q ∈ (bx, o) :: l, ∀ p ∈ tl, q.1 < p.1) : ∀ p ∈ tl, bx < p.1 := h _ (.head _)
local macro_rules | `(tactic| walk_at "binaryOp Add int int") => `(tactic| (k_here; with_reducible refine add_one_nat ?_))
local macro_rules | `(tactic| walk_at "call ref") => `(tactic| (k_here; k_dflt (refine' use_prefix ?k1 ?k2 ?k3 ?k4 ?hb ?k5 ?kK ?h0 ?hs ?kd ?ku ?_; (case k1 => k_asm); (case k2 => k_asm); (case k3 => k_asm); (case k4 => k_asm); (case hb => assumption); (case k5 => k_asm); (case kK => first | exact rfl | assumption); (case h0 => omega); (case hs => omega); (case kd => ktr_room); (case ku => ktr_units)); intro r9 x9 tl9 sp9 t9 n9 h9 tk9 hx9 hp9 hb9 ho9 hB9 hs9 F9 N9; (try simp only [List.append_assoc] at hp9 hB9 N9); (try dsimp only); (try k_fold)))

/-! ## _law_table -/
set_option maxHeartbeats 8000000 in
theorem table_tells (w : World) (mean : ExcName → Option Value) (mg mb : Str → Option Value) (b : Nat) (tm : Tok) (hb : b ≤ 4) :
    TellsB w mean mg mb 119 [.int b tm] 14 20 (fun led r => ∃ t : T, t.WF ∧ t.Len b ∧ TIn led b r t) := by
  have Cput_tells := put_tells w mean mg mb
  unfold Tel at Cput_tells
  unfold TellsB
  k_fill
  k_with_none
  intro dp un gd cn cs a ccd cl outer A₀ base h₀ L m news s bx c sp t n Q E B F X N hbox T hk hsp hd hu hret
  k_with "call ref" => first | ktn_call "tree_put" putC
  k_with "pyIter ref" => (
    (rename IsRange _ _ _ _ _ _ _ _ => rgX)
    have hfm : ∀ x : Int, 0 ≤ x.fmod 5 ∧ x.fmod 5 < 5 := fun x => ⟨Int.fmod_nonneg_of_pos x (by decide), Int.fmod_lt_of_pos x (by decide)⟩
    k_dflt (refine iter_range_box (y := Str.ofString "tree") [Str.ofString "turn", Str.ofString "prefix"] (fun led v => ∃ t : Mine.T, t.WF ∧ t.Len b ∧ TIn led b v t) (by rfl) rgX (small_one (by decide) (by decide) (Int.le_trans (by decide) (hfm _).1) (Int.lt_trans (hfm _).2 (by decide))) (rangeSize_nat _ _) (by assumption) (by assumption) hbox (by rfl) (by rfl) ⟨.nil, trivial, trivial, .nil⟩ ?turnGoal ?doneGoal)
    case' turnGoal =>
      rintro i kv tv u tl own sp' t' n' s₁ hin hsp' ⟨tr, hwf, hlen, hT⟩ hbox' hown wF wN
      have hi4 := Nat.lt_of_lt_of_le hin (fm5 _)
      have hht := ht_le5 hb hwf hlen
    case' doneGoal =>
      rintro tv u tl sp' t' n' h' tk' hsp' hR ho1 ho2 wF wN)
  (refine wpAny_call ?_; k_dflt ktr_enter; k_steps)
  · exact hret _ tl _ _ _ _ _ (by assumption) (by assumption) (fun q hq => (List.mem_cons.mp hq).elim (fun e => e ▸ ho1) (ho2 q)) (Nat.le_trans (Nat.le_trans hsp' (Nat.add_le_add_left (Nat.mul_le_mul_left 3 (fm5 _)) _)) (by omega)) hR
  · refine BoxEnd.intro _ (by assumption) (by assumption) (by ktd_sub) (blt_app (by assumption) (blt_of (by assumption))) (by ktn_ord) (by omega) (by rfl) ?_ ⟨_, put_wf hwf, put_len hlen (by assumption), TIn.off (own := (bx, _) :: own) ?_ (by assumption)⟩
    · intro z h1 h2
      have h3 : z ≠ Str.ofString "prefix" := by rintro rfl; exact absurd h2 (by decide)
      have h4 : z ≠ Str.ofString "turn" := by rintro rfl; exact absurd h2 (by decide)
      simp only [if_neg h1, if_neg h3, if_neg h4, h2, Bool.false_eq_true, if_false]
    · intro p hp
      rcases List.mem_cons.mp hp with rfl | hp
      · exact fun hc => absurd (Value.type.inj hc) (by decide)
      · exact hown p hp
end W13
section W15

/-! ## trees, routes and answers as the library's data; their comparison -/
def wDat : Option Nat → Dat
  | none => .none
  | some k => .int k
def pDat (b : Nat) (x : Bits) : Dat := .tuple [.int (enc b x), .int x.length]
def T.dat (b : Nat) : T → Dat
  | .nil => .none
  | .node x v l r => .tuple [pDat b x, wDat v, l.dat b, r.dat b]
def rDat (b : Nat) (r : Bits × Nat) : Dat := .tuple [pDat b r.1, .int r.2]
def oDat (b : Nat) : Option (Bits × Nat) → Dat
  | none => .none
  | some r => rDat b r
theorem pDat_inj {b : Nat} {x y : Bits} (hb : b ≤ 4) (hx : x.length ≤ b) (h : pDat b x = pDat b y) : x = y := by
  simp only [pDat, Dat.tuple.injEq, List.cons.injEq, Dat.int.injEq, and_true] at h
  exact enc_inj hb hx (by omega) (by omega)
theorem wDat_inj {v w : Option Nat} (h : wDat v = wDat w) : v = w := by
  cases v <;> cases w <;> simp_all [wDat] <;> omega
theorem T.dat_inj {b : Nat} (hb : b ≤ 4) : ∀ {t u : T}, t.Len b → t.dat b = u.dat b → t = u := by
  intro t
  induction t with
  | nil => intro u _ h; cases u <;> simp_all [T.dat]
  | node x v l r ihl ihr =>
    intro u ⟨hx, hl, hr⟩ h
    cases u with
    | nil => simp [T.dat] at h
    | node y w l' r' =>
      simp only [T.dat, Dat.tuple.injEq, List.cons.injEq, and_true] at h
      rw [pDat_inj hb hx h.1, wDat_inj h.2.1, ihl hl h.2.2.1, ihr hr h.2.2.2]
theorem rDat_inj {b : Nat} {r q : Bits × Nat} (hb : b ≤ 4) (hx : r.1.length ≤ b) (h : rDat b r = rDat b q) : r = q := by
  simp only [rDat, Dat.tuple.injEq, List.cons.injEq, Dat.int.injEq, and_true] at h
  exact Prod.ext (pDat_inj hb hx h.1) (by omega)
theorem pDat_ok {b n : Nat} {x : Bits} : kqdOk (n + 1) (pDat b x) = true := by simp [pDat, kqdOk]
theorem wDat_ok {n : Nat} {v : Option Nat} : kqdOk n (wDat v) = true := by cases v <;> cases n <;> simp [wDat, kqdOk]
theorem T.dat_ok {b : Nat} : ∀ {t : T} {n : Nat}, t.ht + 1 ≤ n → kqdOk n (t.dat b) = true := by
  intro t
  induction t with
  | nil => intro n h; cases n <;> simp [T.dat, kqdOk]
  | node x v l r ihl ihr =>
    intro n h
    simp only [T.ht] at h
    obtain ⟨n, rfl⟩ : ∃ k, n = k + 2 := ⟨n - 2, by omega⟩
    have h1 := ihl (n := n + 1) (by omega)
    have h2 := ihr (n := n + 1) (by omega)
    simp [T.dat, kqdOk, pDat_ok, wDat_ok, h1, h2]
theorem rDat_ok {b n : Nat} {r : Bits × Nat} : kqdOk (n + 2) (rDat b r) = true := by
  cases n <;> simp [rDat, kqdOk, pDat_ok]
theorem oDat_ok {b n : Nat} {o : Option (Bits × Nat)} : kqdOk (n + 2) (oDat b o) = true := by
  cases o
  · simp [oDat, kqdOk]
  · exact rDat_ok
theorem rsDat_ok {b n : Nat} {rs : List (Bits × Nat)} : kqdOk (n + 3) (.list (rs.map (rDat b))) = true := by
  simp [kqdOk, rDat_ok]
section
variable {news : Led} {b : Nat} {v : Value}
theorem WIn.dat {o : Option Nat} (h : WIn v o) : DatIn news v (wDat o) := by
  cases h with
  | none => exact .none
  | some k t => exact .int _ t
theorem PIn.dat {x : Bits} (h : PIn news b v x) : DatIn news v (pDat b x) := by
  cases h with
  | mk h => exact .tuple h (.cons (.int _ _) (.cons (.int _ _) .nil))
theorem TIn.dat {t : T} (h : TIn news b v t) : DatIn news v (t.dat b) := by
  induction h with
  | nil => exact .none
  | node h1 h2 hw _ _ ihl ihr => exact .tuple h1 (.cons (PIn.dat (.mk h2)) (.cons hw.dat (.cons ihl (.cons ihr .nil))))
theorem RIn.dat {r : Bits × Nat} (h : RIn news b v r) : DatIn news v (rDat b r) := by
  cases h with
  | mk h1 h2 => exact .tuple h1 (.cons (PIn.dat (.mk h2)) (.cons (.int _ _) .nil))
theorem OIn.dat {o : Option (Bits × Nat)} (h : OIn news b v o) : DatIn news v (oDat b o) := by
  cases h with
  | none => exact .none
  | some h => exact h.dat
theorem RsIn.dat {vs : List Value} {rs : List (Bits × Nat)} (h : RsIn news b vs rs) : DatAll news vs (rs.map (rDat b)) := by
  induction h with
  | nil => exact .nil
  | cons h _ ih => exact .cons h.dat ih
theorem LIn.dat {rs : List (Bits × Nat)} (h : LIn news b v rs) : DatIn news v (.list (rs.map (rDat b))) := by
  cases h with
  | mk h1 h2 => exact .list h1 h2.dat
end
section
variable {prog : Program} {w : World} {A : Around} {E : Value → Shared → Prop} {s : Shared} {h₀ : Heap} {L : Addr} {news : Led} {b : Nat} {v1 v2 : Value} {Q : Value → Shared → Prop}
theorem shaped8 {d : Dat} (h : kqdOk 8 d = true) : SeqAt.shaped (kqdP d) = true := by
  have l := kqd_lay 8 d h
  unfold SeqAt.shaped
  rw [l.1, Bool.true_and]
  exact decide_eq_true (Nat.le_trans l.2 (by decide))
theorem ne_dat {d1 d2 : Dat} {r : Bool} (N : News h₀ L s.heap news) (h1 : DatIn news v1 d1) (h2 : DatIn news v2 d2) (k1 : kqdOk 8 d1 = true) (k2 : kqdOk 8 d2 = true) (hr : r = true ↔ d1 ≠ d2) (hu : A.units + 64 < cLine) (h : Q (.bool r) s) :
    wpAny (model prog w) A (compareOp .NotEq v1 v2) Q E s := by
  obtain ⟨as, ra⟩ := kqd_in N 8 h1 k1
  obtain ⟨bs, rb⟩ := kqd_in N 8 h2 k2
  refine ne_dataH ra rb (shaped8 k1) (shaped8 k2) hu ?_
  have e := kqd_eqv 8 d1 d2 8 k1 k2
  have e2 : (!PyData.eqv (kqdP d1) (kqdP d2)) = r := by
    cases r with
    | true => simp only [Bool.not_eq_true']; exact Bool.eq_false_iff.mpr fun hc => hr.mp rfl (e.mp hc)
    | false =>
      have : d1 = d2 := Classical.byContradiction fun hc => absurd (hr.mpr hc) (by simp)
      rw [e.mpr this]; rfl
  rw [e2]; exact h
theorem eq_dat {d1 d2 : Dat} {r : Bool} (N : News h₀ L s.heap news) (h1 : DatIn news v1 d1) (h2 : DatIn news v2 d2) (k1 : kqdOk 8 d1 = true) (k2 : kqdOk 8 d2 = true) (hr : r = true ↔ d1 = d2) (hu : A.units + 64 < cLine) (h : Q (.bool r) s) :
    wpAny (model prog w) A (compareOp .Eq v1 v2) Q E s := by
  obtain ⟨as, ra⟩ := kqd_in N 8 h1 k1
  obtain ⟨bs, rb⟩ := kqd_in N 8 h2 k2
  refine eq_dataH ra rb (shaped8 k1) (shaped8 k2) hu ?_
  have e := kqd_eqv 8 d1 d2 8 k1 k2
  have e2 : PyData.eqv (kqdP d1) (kqdP d2) = r := Bool.eq_iff_iff.mpr (e.trans hr.symm)
  rw [e2]; exact h
/-- two trees that are one -/
theorem ne_tree {t1 t2 : T} (N : News h₀ L s.heap news) (h1 : TIn news b v1 t1) (h2 : TIn news b v2 t2) (e : t1 = t2) (k : t1.ht ≤ 5) (hu : A.units + 64 < cLine) (h : Q (.bool false) s) : wpAny (model prog w) A (compareOp .NotEq v1 v2) Q E s := by
  subst e
  exact ne_dat N h1.dat h2.dat (T.dat_ok (by omega)) (T.dat_ok (by omega)) (by simp) hu h
theorem eq_tree {t1 t2 : T} (N : News h₀ L s.heap news) (h1 : TIn news b v1 t1) (h2 : TIn news b v2 t2) (hb : b ≤ 4) (l1 : t1.Len b) (k1 : t1.ht ≤ 5) (k2 : t2.ht ≤ 5) (hu : A.units + 64 < cLine) (h : ∀ r : Bool, (r = true ↔ t1 = t2) → Q (.bool r) s) :
    wpAny (model prog w) A (compareOp .Eq v1 v2) Q E s := by
  have : ∃ r : Bool, r = true ↔ t1 = t2 := by
    by_cases e : t1 = t2
    · exact ⟨true, by simp [e]⟩
    · exact ⟨false, by simp [e]⟩
  obtain ⟨r, hr⟩ := this
  exact eq_dat N h1.dat h2.dat (T.dat_ok (by omega)) (T.dat_ok (by omega)) (hr.trans ⟨fun e => by rw [e], fun e => T.dat_inj hb l1 e⟩) hu (h r hr)
theorem ne_rows {r1 r2 : List (Bits × Nat)} (N : News h₀ L s.heap news) (h1 : LIn news b v1 r1) (h2 : LIn news b v2 r2) (e : r1 = r2) (hu : A.units + 64 < cLine) (h : Q (.bool false) s) : wpAny (model prog w) A (compareOp .NotEq v1 v2) Q E s := by
  subst e
  exact ne_dat N h1.dat h2.dat rsDat_ok rsDat_ok (by simp) hu h
theorem ne_seen {o1 o2 : Option (Bits × Nat)} (N : News h₀ L s.heap news) (h1 : OIn news b v1 o1) (h2 : OIn news b v2 o2) (e : o1 = o2) (hu : A.units + 64 < cLine) (h : Q (.bool false) s) : wpAny (model prog w) A (compareOp .NotEq v1 v2) Q E s := by
  subst e
  exact ne_dat N h1.dat h2.dat oDat_ok oDat_ok (by simp) hu h
/-- a list of routes against the empty list -/
theorem ne_empty {r1 : List (Bits × Nat)} {l : Addr} {n : Nat} (N : News h₀ L s.heap news) (h1 : LIn news b v1 r1) (h2 : (l, listOf ([] : List Value).toArray n) ∈ news) (hu : A.units + 64 < cLine) (h : ∀ r : Bool, (r = true ↔ r1 ≠ []) → Q (.bool r) s) :
    wpAny (model prog w) A (compareOp .NotEq v1 (.ref l)) Q E s := by
  refine ne_dat (r := !r1.isEmpty) N h1.dat (.list (ds := []) h2 .nil) rsDat_ok (by simp [kqdOk]) ?_ hu (h _ ?_)
  · cases r1 <;> simp
  · cases r1 <;> simp
theorem eq_empty {r1 : List (Bits × Nat)} {l : Addr} {n : Nat} (N : News h₀ L s.heap news) (h1 : LIn news b v1 r1) (h2 : (l, listOf ([] : List Value).toArray n) ∈ news) (hu : A.units + 64 < cLine) (h : ∀ r : Bool, (r = true ↔ r1 = []) → Q (.bool r) s) :
    wpAny (model prog w) A (compareOp .Eq v1 (.ref l)) Q E s := by
  refine eq_dat (r := r1.isEmpty) N h1.dat (.list (ds := []) h2 .nil) rsDat_ok (by simp [kqdOk]) ?_ hu (h _ ?_)
  · cases r1 <;> simp
  · cases r1 <;> simp
end
end W15
section W16

/-! ## what the law knows of the ledger, but for the box and the cell -/
theorem below_len {b : Nat} {t : T} {p : Bits} (w : t.WF) (h : t.Len b) : ∀ r ∈ t.belowP p, r.1.length ≤ b := by
  rw [below_eq]
  exact all_len (sub_good w).1 (sub_len h)
theorem all_room {b : Nat} {t : T} (hb : b ≤ 4) (w : t.WF) (h : t.Len b) : t.ht + 4 ≤ 12 := by
  have := ht_le5 hb w h
  omega
theorem all_few {b : Nat} {t : T} (hb : b ≤ 4) (w : t.WF) (h : t.Len b) : t.all.length ≤ 64 := by
  have h5 := ht_le5 hb w h
  have h1 := all_short t
  have h2 : 2 ^ t.ht ≤ 2 ^ 5 := Nat.pow_le_pow_right (by decide) h5
  omega
inductive Fact where
  | tree (v : Value) (t : T)
  | rows (v : Value) (rs : List (Bits × Nat))
  | pre (v : Value) (x : Bits)
  | ans (v : Value) (o : Option (Bits × Nat))
  | route (v : Value) (r : Bits × Nat)
  | nums (c : Addr)
  | led (l : Led)
def Fact.In (G : Led) (b : Nat) : Fact → Prop
  | .tree v t => TIn G b v t
  | .rows v rs => LIn G b v rs
  | .pre v x => PIn G b v x
  | .ans v o => OIn G b v o
  | .route v r => RIn G b v r
  | .nums c => ∃ vs cn ns, (c, listOf (List.toArray vs) cn) ∈ G ∧ IntsAre vs ns ∧ ns.length ≤ 40
  | .led l => ∀ p ∈ l, p ∈ G
theorem Fact.mono {G G' : Led} {b : Nat} {f : Fact} (h : f.In G b) (hs : ∀ p ∈ G, p ∈ G') : f.In G' b := by
  cases f with
  | tree v t => exact TIn.mono h hs
  | rows v rs => exact LIn.mono h hs
  | pre v x => exact PIn.mono h hs
  | ans v o => exact OIn.mono h hs
  | route v r => exact RIn.mono h hs
  | nums c => obtain ⟨vs, cn, ns, h1, h2⟩ := h; exact ⟨vs, cn, ns, hs _ h1, h2⟩
  | led l => exact fun p hp => hs p (h p hp)
def Facts (G : Led) (b : Nat) (fs : List Fact) : Prop := ∀ f ∈ fs, f.In G b
section
variable {G G' : Led} {b : Nat} {fs : List Fact} {f : Fact}
theorem Facts.mono (K : Facts G b fs) (hs : ∀ p ∈ G, p ∈ G') : Facts G' b fs := fun f hf => Fact.mono (K f hf) hs
theorem Facts.add (K : Facts G b fs) (h : f.In G b) : Facts G b (f :: fs) := fun g hg => (List.mem_cons.mp hg).elim (fun e => e ▸ h) (K g)
theorem Facts.nil : Facts G b [] := fun _ h => nomatch h
theorem Facts.tree {v : Value} {t : T} (K : Facts G b fs) (h : Fact.tree v t ∈ fs) : TIn G b v t := K _ h
theorem Facts.rows {v : Value} {t : List (Bits × Nat)} (K : Facts G b fs) (h : Fact.rows v t ∈ fs) : LIn G b v t := K _ h
theorem Facts.pre {v : Value} {t : Bits} (K : Facts G b fs) (h : Fact.pre v t ∈ fs) : PIn G b v t := K _ h
theorem Facts.ans {v : Value} {t : Option (Bits × Nat)} (K : Facts G b fs) (h : Fact.ans v t ∈ fs) : OIn G b v t := K _ h
theorem Facts.route {v : Value} {t : Bits × Nat} (K : Facts G b fs) (h : Fact.route v t ∈ fs) : RIn G b v t := K _ h
theorem Facts.led {l : Led} (K : Facts G b fs) (h : Fact.led l ∈ fs) : ∀ p ∈ l, p ∈ G := K _ h
end
/-- an object that is none of the trees' and lists' -/
structure Odd (q : Addr × Obj) : Prop where
  tup : ∀ vs n, q.2 ≠ tupO vs n
  lst : ∀ (G : Led) (b : Nat) vs n rs, q.2 = listOf (List.toArray vs) n → ¬ RsIn G b vs rs
theorem odd_box {bx c : Addr} {sp n : Nat} {t : Tok} : Odd (bx, boxO c sp t n) := by
  refine ⟨fun vs n h => ?_, fun G b vs n rs h hr => ?_⟩
  · exact absurd (Value.type.inj (congrArg Obj.cls h)) (by decide)
  · have e : vs = [.ref c, .int sp t] := by
      have := congrArg Obj.data h
      simp only [Data.seq.injEq] at this
      exact (congrArg Array.toList this.1).symm
    subst e
    cases hr with
    | cons _ h2 =>
      cases h2 with
      | cons h3 _ => cases h3
theorem odd_cell {q : Addr × Obj} {ov : Option Value} (h : q.2.data = .cell ov) : Odd q := by
  refine ⟨fun vs n e => ?_, fun G b vs n rs e hr => ?_⟩
  · rw [e] at h; cases h
  · rw [e] at h; cases h
section
variable {q1 q2 : Addr × Obj} {G : Led} {b : Nat} {v : Value}
theorem tup_odd {a : Addr} {vs : List Value} {n : Nat} (o1 : Odd q1) (o2 : Odd q2) (h : (a, tupO vs n) ∈ q1 :: q2 :: G) : (a, tupO vs n) ∈ G := by
  rcases List.mem_cons.mp h with h | h
  · exact absurd (congrArg Prod.snd h).symm (o1.tup vs n)
  · rcases List.mem_cons.mp h with h | h
    · exact absurd (congrArg Prod.snd h).symm (o2.tup vs n)
    · exact h
theorem tin_odd {t : T} (o1 : Odd q1) (o2 : Odd q2) (h : TIn (q1 :: q2 :: G) b v t) : TIn G b v t := by
  induction h with
  | nil => exact .nil
  | node h1 h2 hw _ _ ihl ihr => exact .node (tup_odd o1 o2 h1) (tup_odd o1 o2 h2) hw ihl ihr
theorem pin_odd {x : Bits} (o1 : Odd q1) (o2 : Odd q2) (h : PIn (q1 :: q2 :: G) b v x) : PIn G b v x := by
  cases h with
  | mk h => exact .mk (tup_odd o1 o2 h)
theorem rin_odd {r : Bits × Nat} (o1 : Odd q1) (o2 : Odd q2) (h : RIn (q1 :: q2 :: G) b v r) : RIn G b v r := by
  cases h with
  | mk h h2 => exact .mk (tup_odd o1 o2 h) (tup_odd o1 o2 h2)
theorem rsin_odd {vs : List Value} {rs : List (Bits × Nat)} (o1 : Odd q1) (o2 : Odd q2) (h : RsIn (q1 :: q2 :: G) b vs rs) : RsIn G b vs rs := by
  induction h with
  | nil => exact .nil
  | cons h _ ih => exact .cons (rin_odd o1 o2 h) ih
theorem lin_odd {rs : List (Bits × Nat)} (o1 : Odd q1) (o2 : Odd q2) (h : LIn (q1 :: q2 :: G) b v rs) : LIn G b v rs := by
  cases h with
  | @mk a vs n rs h h2 =>
    refine .mk (n := n) ?_ (rsin_odd o1 o2 h2)
    rcases List.mem_cons.mp h with h | h
    · exact absurd h2 (o1.lst _ _ _ _ _ (congrArg Prod.snd h).symm)
    · rcases List.mem_cons.mp h with h | h
      · exact absurd h2 (o2.lst _ _ _ _ _ (congrArg Prod.snd h).symm)
      · exact h
theorem oin_odd {o : Option (Bits × Nat)} (o1 : Odd q1) (o2 : Odd q2) (h : OIn (q1 :: q2 :: G) b v o) : OIn G b v o := by
  cases h with
  | none => exact .none
  | some h => exact .some (rin_odd o1 o2 h)
end
/-- the addresses that the rest of the ledger does not touch -/
def Apart (as : List Addr) (a1 a2 : Addr) (G : Led) : Prop := (∀ a ∈ as, a = a1 ∨ a = a2) ∧ ∀ a ∈ as, ∀ p ∈ G, p.1 ≠ a
theorem Apart.grow {as : List Addr} {q1 q2 : Addr × Obj} {G tl : Led} (h : Apart as q1.1 q2.1 G) (ho : ∀ q ∈ q1 :: q2 :: G, ∀ p ∈ tl, q.1 < p.1) : Apart as q1.1 q2.1 (G ++ tl) := by
  refine ⟨h.1, fun a ha p hp => ?_⟩
  rcases List.mem_append.mp hp with hp | hp
  · exact h.2 a ha p hp
  · rcases h.1 a ha with rfl | rfl
    · exact Ne.symm (Nat.ne_of_lt (ho _ (.head _) p hp))
    · exact Ne.symm (Nat.ne_of_lt (ho _ (.tail _ (.head _)) p hp))
theorem Apart.less {as : List Addr} {a a1 a2 : Addr} {G : Led} (h : Apart as a1 a2 G) (hm : a ∈ as) : Apart [a] a1 a2 G :=
  ⟨fun _ e => List.mem_singleton.mp e ▸ h.1 a hm, fun _ e => List.mem_singleton.mp e ▸ h.2 a hm⟩
theorem Apart.ne {as : List Addr} {a a1 a2 : Addr} {G : Led} (h : Apart as a1 a2 G) (hm : a ∈ as) : ∀ p ∈ G, p.1 ≠ a := h.2 a hm
section
variable {w : World} {mean : ExcName → Option Value} {mg mb : Str → Option Value} {dp un : Nat} {gd : Option (List Code)} {cn : Str} {cs : Scope} {a : Addr} {ccd : Value} {cl : List (Str × Addr)} {outer : List Env} {A₀ : Around} {base h₀ : Heap} {L : Addr}
    {m : Str → Option Value} {G : Led} {s : Shared} {Q E : Value → Shared → Prop} {q1 q2 : Addr × Obj} {as : List Addr} {b : Nat} {fs : List Fact}
theorem sub2 : ∀ p ∈ G, p ∈ q1 :: q2 :: G := fun _ h => .tail _ (.tail _ h)
theorem use_gen {D : Type} {f : Addr} {c : ToldN D} {d : D} {vs : List Value} (fact : Value → Fact) (C : Tel w mean mg mb f c d)
    (B : Below A₀ base outer h₀) (F : Fr h₀ L s.heap m) (X : (hd.heap_39 w.params).In h₀) (N : News h₀ L s.heap (q1 :: q2 :: G)) (T : Top hd.view_39 (looseW hd.view_39 []) mean mg mb h₀) (hk : cs.kind = .function)
    (ap : Apart as q1.1 q2.1 G) (K : Facts G b fs) (R : c.Rel (q1 :: q2 :: G) vs d) (ok : c.Ok d) (n : Nat) (hn : c.size d ≤ n) (hd : dp + n < recursionLimit) (hu : un + 8 * n < cLine)
    (out : ∀ r G', c.Out (q1 :: q2 :: G') r d → (fact r).In G' b)
    (ret : ∀ r G' h' tk', Fr h₀ L h' m → News h₀ L h' (q1 :: q2 :: G') → Facts G' b (fact r :: fs) → Apart as q1.1 q2.1 G' → Q r { s with heap := h', toks := tk' }) :
    wpAny (model PySem.Challenge.rw_sj0172_01.row.prog w) (ktrTop dp un gd cn cs L a ccd cl outer) (call (.ref f) vs) Q E s := by
  refine tellsN_use B F X N T hk R C ok (Nat.lt_of_le_of_lt (Nat.add_le_add_left hn _) hd) (Nat.lt_of_le_of_lt (Nat.add_le_add_left (Nat.mul_le_mul_left 8 hn) _) hu) fun r tl h' tk' F' N' ho _ hr => ?_
  exact ret r (G ++ tl) h' tk' F' N' ((K.mono fun p hp => List.mem_append.mpr (.inl hp)).add (out r _ hr)) (ap.grow ho)
theorem use_all {v : Value} {t : T}
    (B : Below A₀ base outer h₀) (F : Fr h₀ L s.heap m) (X : (hd.heap_39 w.params).In h₀) (N : News h₀ L s.heap (q1 :: q2 :: G)) (T : Top hd.view_39 (looseW hd.view_39 []) mean mg mb h₀) (hk : cs.kind = .function)
    (o1 : Odd q1) (o2 : Odd q2) (ap : Apart as q1.1 q2.1 G) (K : Facts G b fs) (h1 : Fact.tree v t ∈ fs) (hw : t.WF) (hl : t.Len b) (hb : b ≤ 4) (hd : dp + 12 < recursionLimit) (hu : un + 8 * 12 < cLine)
    (ret : ∀ r G' h' tk', Fr h₀ L h' m → News h₀ L h' (q1 :: q2 :: G') → Facts G' b (.rows r t.all :: fs) → Apart as q1.1 q2.1 G' → Q r { s with heap := h', toks := tk' }) :
    wpAny (model PySem.Challenge.rw_sj0172_01.row.prog w) (ktrTop dp un gd cn cs L a ccd cl outer) (call (.ref 84) [v]) Q E s :=
  use_gen (fun r => .rows r t.all) (all_tells w mean mg mb (b, t)) B F X N T hk ap K (.mk ((K.tree h1).mono sub2)) (by have := all_room hb hw hl; dsimp only; omega) 12 (by have := all_room hb hw hl; dsimp only; omega) hd hu (fun _ _ h => lin_odd o1 o2 h) ret
theorem use_putAll {tv rv : Value} {t : T} {rs : List (Bits × Nat)} {t2 : Tok}
    (B : Below A₀ base outer h₀) (F : Fr h₀ L s.heap m) (X : (hd.heap_39 w.params).In h₀) (N : News h₀ L s.heap (q1 :: q2 :: G)) (T : Top hd.view_39 (looseW hd.view_39 []) mean mg mb h₀) (hk : cs.kind = .function)
    (o1 : Odd q1) (o2 : Odd q2) (ap : Apart as q1.1 q2.1 G) (K : Facts G b fs) (h1 : Fact.tree tv t ∈ fs) (h2 : Fact.rows rv rs ∈ fs) (hw : t.WF) (hl : t.Len b) (hr : ∀ r ∈ rs, r.1.length ≤ b) (hb : b ≤ 4) (hd : dp + 12 < recursionLimit) (hu : un + 8 * 12 < cLine)
    (ret : ∀ r G' h' tk', Fr h₀ L h' m → News h₀ L h' (q1 :: q2 :: G') → Facts G' b (.tree r (t.putAll rs) :: fs) → Apart as q1.1 q2.1 G' → Q r { s with heap := h', toks := tk' }) :
    wpAny (model PySem.Challenge.rw_sj0172_01.row.prog w) (ktrTop dp un gd cn cs L a ccd cl outer) (call (.ref 112) [tv, rv, .int b t2]) Q E s :=
  use_gen (fun r => .tree r (t.putAll rs)) (putAll_tells w mean mg mb (b, t, rs)) B F X N T hk ap K (.mk ((K.tree h1).mono sub2) ((K.rows h2).mono sub2)) ⟨hw, hl, hr, hb⟩ 12 (Nat.le_refl _) hd hu (fun _ _ h => tin_odd o1 o2 h) ret
theorem use_below {tv pv : Value} {t : T} {x : Bits} {t2 : Tok}
    (B : Below A₀ base outer h₀) (F : Fr h₀ L s.heap m) (X : (hd.heap_39 w.params).In h₀) (N : News h₀ L s.heap (q1 :: q2 :: G)) (T : Top hd.view_39 (looseW hd.view_39 []) mean mg mb h₀) (hk : cs.kind = .function)
    (o1 : Odd q1) (o2 : Odd q2) (ap : Apart as q1.1 q2.1 G) (K : Facts G b fs) (h1 : Fact.tree tv t ∈ fs) (h2 : Fact.pre pv x ∈ fs) (hw : t.WF) (hl : t.Len b) (hx : x.length ≤ b) (hb : b ≤ 4) (hd : dp + 12 < recursionLimit) (hu : un + 8 * 12 < cLine)
    (ret : ∀ r G' h' tk', Fr h₀ L h' m → News h₀ L h' (q1 :: q2 :: G') → Facts G' b (.rows r (t.belowP x) :: fs) → Apart as q1.1 q2.1 G' → Q r { s with heap := h', toks := tk' }) :
    wpAny (model PySem.Challenge.rw_sj0172_01.row.prog w) (ktrTop dp un gd cn cs L a ccd cl outer) (call (.ref 91) [tv, pv, .int b t2]) Q E s :=
  use_gen (fun r => .rows r (t.belowP x)) (below_tells w mean mg mb (b, t, x)) B F X N T hk ap K (.mk ((K.tree h1).mono sub2) ((K.pre h2).mono sub2)) ⟨hl, hx, hb, by have := all_room hb hw hl; dsimp only; omega⟩ 12 (by have := all_room hb hw hl; dsimp only; omega) hd hu (fun _ _ h => lin_odd o1 o2 h) ret
theorem use_drop {tv pv : Value} {t : T} {x : Bits} {t2 : Tok}
    (B : Below A₀ base outer h₀) (F : Fr h₀ L s.heap m) (X : (hd.heap_39 w.params).In h₀) (N : News h₀ L s.heap (q1 :: q2 :: G)) (T : Top hd.view_39 (looseW hd.view_39 []) mean mg mb h₀) (hk : cs.kind = .function)
    (o1 : Odd q1) (o2 : Odd q2) (ap : Apart as q1.1 q2.1 G) (K : Facts G b fs) (h1 : Fact.tree tv t ∈ fs) (h2 : Fact.pre pv x ∈ fs) (hw : t.WF) (hl : t.Len b) (hx : x.length ≤ b) (hb : b ≤ 4) (hd : dp + 12 < recursionLimit) (hu : un + 8 * 12 < cLine)
    (ret : ∀ r G' h' tk', Fr h₀ L h' m → News h₀ L h' (q1 :: q2 :: G') → Facts G' b (.tree r (t.drop x) :: fs) → Apart as q1.1 q2.1 G' → Q r { s with heap := h', toks := tk' }) :
    wpAny (model PySem.Challenge.rw_sj0172_01.row.prog w) (ktrTop dp un gd cn cs L a ccd cl outer) (call (.ref 70) [tv, pv, .int b t2]) Q E s :=
  use_gen (fun r => .tree r (t.drop x)) (drop_tells w mean mg mb (b, t, x)) B F X N T hk ap K (.mk ((K.tree h1).mono sub2) ((K.pre h2).mono sub2)) ⟨hl, hx, hb⟩ 12 (by have := all_room hb hw hl; dsimp only; omega) hd hu (fun _ _ h => tin_odd o1 o2 h) ret
theorem use_look {tv : Value} {t : T} {A : Bits} {t1 t2 : Tok}
    (B : Below A₀ base outer h₀) (F : Fr h₀ L s.heap m) (X : (hd.heap_39 w.params).In h₀) (N : News h₀ L s.heap (q1 :: q2 :: G)) (T : Top hd.view_39 (looseW hd.view_39 []) mean mg mb h₀) (hk : cs.kind = .function)
    (o1 : Odd q1) (o2 : Odd q2) (ap : Apart as q1.1 q2.1 G) (K : Facts G b fs) (h1 : Fact.tree tv t ∈ fs) (hl : t.Len b) (hA : A.length = b) (hb : b ≤ 4) (hd : dp + 12 < recursionLimit) (hu : un + 8 * 12 < cLine)
    (ret : ∀ r G' h' tk', Fr h₀ L h' m → News h₀ L h' (q1 :: q2 :: G') → Facts G' b (.ans r (t.look b A none) :: fs) → Apart as q1.1 q2.1 G' → Q r { s with heap := h', toks := tk' }) :
    wpAny (model PySem.Challenge.rw_sj0172_01.row.prog w) (ktrTop dp un gd cn cs L a ccd cl outer) (call (.ref 77) [tv, .int (enc b A) t1, .int b t2]) Q E s :=
  use_gen (fun r => .ans r (t.look b A none)) (look_tells w mean mg mb (b, t, A)) B F X N T hk ap K (.mk ((K.tree h1).mono sub2)) ⟨hl, hA, hb⟩ 12 (Nat.le_of_ble_eq_true rfl) hd hu (fun _ _ h => oin_odd o1 o2 h) ret
theorem use_longer {v1 v2 : Value} {r1 r2 : Option (Bits × Nat)}
    (B : Below A₀ base outer h₀) (F : Fr h₀ L s.heap m) (X : (hd.heap_39 w.params).In h₀) (N : News h₀ L s.heap (q1 :: q2 :: G)) (T : Top hd.view_39 (looseW hd.view_39 []) mean mg mb h₀) (hk : cs.kind = .function)
    (o1 : Odd q1) (o2 : Odd q2) (ap : Apart as q1.1 q2.1 G) (K : Facts G b fs) (h1 : Fact.ans v1 r1 ∈ fs) (h2 : Fact.ans v2 r2 ∈ fs) (hd : dp + 12 < recursionLimit) (hu : un + 8 * 12 < cLine)
    (ret : ∀ r G' h' tk', Fr h₀ L h' m → News h₀ L h' (q1 :: q2 :: G') → Facts G' b (.ans r (longer r1 r2) :: fs) → Apart as q1.1 q2.1 G' → Q r { s with heap := h', toks := tk' }) :
    wpAny (model PySem.Challenge.rw_sj0172_01.row.prog w) (ktrTop dp un gd cn cs L a ccd cl outer) (call (.ref 126) [v1, v2]) Q E s :=
  use_gen (fun r => .ans r (longer r1 r2)) (long_tells w mean mg mb (b, r1, r2)) B F X N T hk ap K (.mk ((K.ans h1).mono sub2) ((K.ans h2).mono sub2)) trivial 12 (Nat.le_of_ble_eq_true rfl) hd hu (fun _ _ h => oin_odd o1 o2 h) ret
/-! the box -/
theorem box_at {bx c : Addr} {sp n : Nat} {t : Tok} {q : Addr × Obj} (K : Facts G b fs) (hc : Fact.nums c ∈ fs) (ap : Apart as bx q.1 G) (hm : bx ∈ as) (hne : bx ≠ q.1) : BoxAt (q :: G) bx c := by
  obtain ⟨vs, cn, ns, h1, h2, h3⟩ := K _ hc
  exact ⟨⟨vs, cn, ns, .tail _ h1, h2, h3⟩, fun p hp => (List.mem_cons.mp hp).elim (fun e => by rw [e]; exact Ne.symm hne) (ap.ne hm p)⟩
theorem use_table {bx c : Addr} {sp n sm : Nat} {t t2 : Tok} {q : Addr × Obj}
    (B : Below A₀ base outer h₀) (F : Fr h₀ L s.heap m) (X : (hd.heap_39 w.params).In h₀) (N : News h₀ L s.heap ((bx, boxO c sp t n) :: q :: G)) (T : Top hd.view_39 (looseW hd.view_39 []) mean mg mb h₀) (hk : cs.kind = .function)
    (o2 : Odd q) (ap : Apart as bx q.1 G) (K : Facts G b fs) (hc : Fact.nums c ∈ fs) (hm : bx ∈ as) (hne : bx ≠ q.1) (hs : sp ≤ sm) (hsm : sm + 20 ≤ 1000) (hb : b ≤ 4) (hd : dp + 14 < recursionLimit) (hu : un + 8 * 14 < cLine)
    (ret : ∀ r (Z : Mine.T) G' sp' t' n' h' tk', Z.WF → Z.Len b → Fr h₀ L h' m → News h₀ L h' ((bx, boxO c sp' t' n') :: q :: G') → Facts G' b (.tree r Z :: fs) → Apart as bx q.1 G' → sp' ≤ sm + 20 → Q r { s with heap := h', toks := tk' }) :
    wpAny (model PySem.Challenge.rw_sj0172_01.row.prog w) (ktrTop dp un gd cn cs L a ccd cl outer) (call (.ref 119) [.ref bx, .int b t2]) Q E s := by
  refine table_tells w mean mg mb b t2 hb _ _ _ _ _ _ _ _ _ _ _ _ _ _ _ _ _ _ _ _ _ _ _ B F X N (box_at (sp := sp) (n := n) (t := t) K hc ap hm hne) T hk (Nat.le_trans (Nat.add_le_add_right hs _) hsm) hd hu fun r tl sp' t' n' h' tk' F' N' ho hle hr => ?_
  obtain ⟨Z, h1, h2, h3⟩ := hr
  exact ret r Z (G ++ tl) sp' t' n' h' tk' h1 h2 F' N' ((K.mono fun p hp => List.mem_append.mpr (.inl hp)).add (tin_odd (q1 := (bx, boxO c sp' t' n')) odd_box o2 (h3.mono fun _ h => .tail _ h))) (Apart.grow (q1 := (bx, boxO c sp t n)) (q2 := q) ap ho) (Nat.le_trans hle (Nat.add_le_add_right hs _))
theorem use_pre {bx c : Addr} {sp n sm : Nat} {t t2 : Tok} {q : Addr × Obj}
    (B : Below A₀ base outer h₀) (F : Fr h₀ L s.heap m) (X : (hd.heap_39 w.params).In h₀) (N : News h₀ L s.heap ((bx, boxO c sp t n) :: q :: G)) (T : Top hd.view_39 (looseW hd.view_39 []) mean mg mb h₀) (hk : cs.kind = .function)
    (o2 : Odd q) (ap : Apart as bx q.1 G) (K : Facts G b fs) (hc : Fact.nums c ∈ fs) (hm : bx ∈ as) (hne : bx ≠ q.1) (hs : sp ≤ sm) (hsm : sm + 2 ≤ 1000) (hb : b ≤ 4) (hd : dp + 3 < recursionLimit) (hu : un + 8 * 3 < cLine)
    (ret : ∀ r (x : Bits) G' sp' t' n' h' tk', x.length ≤ b → Fr h₀ L h' m → News h₀ L h' ((bx, boxO c sp' t' n') :: q :: G') → Facts G' b (.pre r x :: fs) → Apart as bx q.1 G' → sp' ≤ sm + 2 → Q r { s with heap := h', toks := tk' }) :
    wpAny (model PySem.Challenge.rw_sj0172_01.row.prog w) (ktrTop dp un gd cn cs L a ccd cl outer) (call (.ref 105) [.ref bx, .int b t2]) Q E s := by
  refine prefix_tells w mean mg mb b t2 hb _ _ _ _ _ _ _ _ _ _ _ _ _ _ _ _ _ _ _ _ _ _ _ B F X N (box_at (sp := sp) (n := n) (t := t) K hc ap hm hne) T hk (Nat.le_trans (Nat.add_le_add_right hs _) hsm) hd hu fun r tl sp' t' n' h' tk' F' N' ho hle hr => ?_
  obtain ⟨x, h1, h3⟩ := hr
  exact ret r x (G ++ tl) sp' t' n' h' tk' h1 F' N' ((K.mono fun p hp => List.mem_append.mpr (.inl hp)).add (pin_odd (q1 := (bx, boxO c sp' t' n')) odd_box o2 (h3.mono fun _ h => .tail _ h))) (Apart.grow (q1 := (bx, boxO c sp t n)) (q2 := q) ap ho) (Nat.le_trans hle (Nat.add_le_add_right hs _))
theorem use_drawn {bx c : Addr} {sp n sm : Nat} {t t2 : Tok} {q : Addr × Obj} {many : Int}
    (B : Below A₀ base outer h₀) (F : Fr h₀ L s.heap m) (X : (hd.heap_39 w.params).In h₀) (N : News h₀ L s.heap ((bx, boxO c sp t n) :: q :: G)) (T : Top hd.view_39 (looseW hd.view_39 []) mean mg mb h₀) (hk : cs.kind = .function)
    (ap : Apart as bx q.1 G) (K : Facts G b fs) (hc : Fact.nums c ∈ fs) (hm : bx ∈ as) (hne : bx ≠ q.1) (hs : sp ≤ sm) (hsm : sm + 1 ≤ 1000) (h0 : 0 < many) (h1 : many ≤ 64) (hd : dp + 1 < recursionLimit) (hu : un + 8 < cLine)
    (ret : ∀ (k : Nat) u sp' t' n' h' tk', (k : Int) < many → Fr h₀ L h' m → News h₀ L h' ((bx, boxO c sp' t' n') :: q :: G) → sp' ≤ sm + 1 → Q (.int k u) { s with heap := h', toks := tk' }) :
    wpAny (model PySem.Challenge.rw_sj0172_01.row.prog w) (ktrTop dp un gd cn cs L a ccd cl outer) (call (.ref 98) [.ref bx, .int many t2]) Q E s :=
  use_draw B F X N (box_at (sp := sp) (n := n) (t := t) K hc ap hm hne) T hk h0 h1 (Nat.le_trans (Nat.add_le_add_right hs _) hsm) hd hu fun k u sp' t' n' h' tk' hk _ hle F' N' => ret k u sp' t' n' h' tk' hk F' N' (Nat.le_trans hle (Nat.add_le_add_right hs _))
end
/-! comparisons and items -/
section
variable {prog : Program} {w : World} {A : Around} {E : Value → Shared → Prop} {s : Shared} {h₀ : Heap} {L : Addr} {G : Led} {q1 q2 : Addr × Obj} {b : Nat} {v1 v2 : Value} {fs : List Fact} {Q : Value → Shared → Prop}
theorem News.two (N : News h₀ L s.heap (q1 :: q2 :: G)) : News h₀ L s.heap G := fun p hp => N p (.tail _ (.tail _ hp))
theorem neK_tree {t1 t2 : T} (N : News h₀ L s.heap (q1 :: q2 :: G)) (K : Facts G b fs) (m1 : Fact.tree v1 t1 ∈ fs) (m2 : Fact.tree v2 t2 ∈ fs) (e : t1 = t2) (k : t1.ht ≤ 5) (hu : A.units + 64 < cLine) (h : Q (.bool false) s) :
    wpAny (model prog w) A (compareOp .NotEq v1 v2) Q E s := ne_tree (News.two N) (K.tree m1) (K.tree m2) e k hu h
theorem eqK_tree {t1 t2 : T} (N : News h₀ L s.heap (q1 :: q2 :: G)) (K : Facts G b fs) (m1 : Fact.tree v1 t1 ∈ fs) (m2 : Fact.tree v2 t2 ∈ fs) (hb : b ≤ 4) (l1 : t1.Len b) (k1 : t1.ht ≤ 5) (k2 : t2.ht ≤ 5) (hu : A.units + 64 < cLine) (h : ∀ r : Bool, (r = true ↔ t1 = t2) → Q (.bool r) s) :
    wpAny (model prog w) A (compareOp .Eq v1 v2) Q E s := eq_tree (News.two N) (K.tree m1) (K.tree m2) hb l1 k1 k2 hu h
theorem neK_rows {r1 r2 : List (Bits × Nat)} (N : News h₀ L s.heap (q1 :: q2 :: G)) (K : Facts G b fs) (m1 : Fact.rows v1 r1 ∈ fs) (m2 : Fact.rows v2 r2 ∈ fs) (e : r1 = r2) (hu : A.units + 64 < cLine) (h : Q (.bool false) s) :
    wpAny (model prog w) A (compareOp .NotEq v1 v2) Q E s := ne_rows (News.two N) (K.rows m1) (K.rows m2) e hu h
theorem neK_seen {r1 r2 : Option (Bits × Nat)} (N : News h₀ L s.heap (q1 :: q2 :: G)) (K : Facts G b fs) (m1 : Fact.ans v1 r1 ∈ fs) (m2 : Fact.ans v2 r2 ∈ fs) (e : r1 = r2) (hu : A.units + 64 < cLine) (h : Q (.bool false) s) :
    wpAny (model prog w) A (compareOp .NotEq v1 v2) Q E s := ne_seen (News.two N) (K.ans m1) (K.ans m2) e hu h
theorem neK_empty {r1 : List (Bits × Nat)} {D : Addr} {n : Nat} (N : News h₀ L s.heap ((D, listOf ([] : List Value).toArray n) :: q1 :: q2 :: G)) (K : Facts G b fs) (m1 : Fact.rows v1 r1 ∈ fs) (hu : A.units + 64 < cLine)
    (h : ∀ r : Bool, (r = true ↔ r1 ≠ []) → News h₀ L s.heap (q1 :: q2 :: G) → Q (.bool r) s) : wpAny (model prog w) A (compareOp .NotEq v1 (.ref D)) Q E s :=
  ne_empty N ((K.rows m1).mono fun _ hp => .tail _ (.tail _ (.tail _ hp))) (.head _) hu fun r hr => h r hr fun p hp => N p (.tail _ hp)
theorem eqK_empty {r1 : List (Bits × Nat)} {D : Addr} {n : Nat} (N : News h₀ L s.heap ((D, listOf ([] : List Value).toArray n) :: q1 :: q2 :: G)) (K : Facts G b fs) (m1 : Fact.rows v1 r1 ∈ fs) (hu : A.units + 64 < cLine)
    (h : ∀ r : Bool, (r = true ↔ r1 = []) → News h₀ L s.heap (q1 :: q2 :: G) → Q (.bool r) s) : wpAny (model prog w) A (compareOp .Eq v1 (.ref D)) Q E s :=
  eq_empty N ((K.rows m1).mono fun _ hp => .tail _ (.tail _ (.tail _ hp))) (.head _) hu fun r hr => h r hr fun p hp => N p (.tail _ hp)
theorem lenK {v : Value} {rs : List (Bits × Nat)} (N : News h₀ L s.heap (q1 :: q2 :: G)) (K : Facts G b fs) (m1 : Fact.rows v rs ∈ fs) (hz : rs.length ≤ 1000)
    (h : Q (.int (rs.length : Nat) (s.toks + 1)) { s with toks := s.toks + 1 + 1 }) : wpAny (model prog w) A (call (.builtin "len") [v]) Q E s := by
  have := K.rows m1
  cases this with
  | mk h1 h2 => exact len_led (News.two N) h1 h2.length hz h
end
end W16
section W17

/-! ## the comprehensions -/
open PyProof.Rows.LCg PyProof.Rows.LCp PyProof.Rows.LCt
/-- a written row bears its bits: what a list of prefixes holds -/
inductive PsIn (news : Led) (b : Nat) : List Value → List Bits → Prop where
  | nil : PsIn news b [] []
  | cons {v : Value} {vs : List Value} {x : Bits} {xs : List Bits} : PIn news b v x → PsIn news b vs xs → PsIn news b (v :: vs) (x :: xs)
theorem PsIn.dat {news : Led} {b : Nat} {vs : List Value} {xs : List Bits} (h : PsIn news b vs xs) : DatAll news vs (xs.map (pDat b)) := by
  induction h with
  | nil => exact .nil
  | cons h _ ih => exact .cons h.dat ih
theorem PsIn.snoc {news : Led} {b : Nat} {vs : List Value} {xs : List Bits} {v : Value} {x : Bits} (h : PsIn news b vs xs) (hx : PIn news b v x) : PsIn news b (vs ++ [v]) (xs ++ [x]) := by
  induction h with
  | nil => exact .cons hx .nil
  | cons h _ ih => exact .cons h ih
theorem RsIn.snoc {news : Led} {b : Nat} {vs : List Value} {xs : List (Bits × Nat)} {v : Value} {x : Bits × Nat} (h : RsIn news b vs xs) (hx : RIn news b v x) : RsIn news b (vs ++ [v]) (xs ++ [x]) := h.append (.cons hx .nil)
section
variable {prog : Program} {w : World} {A : Around} {E : Value → Shared → Prop} {s : Shared} {h₀ : Heap} {L ax : Addr} {m : Str → Option Value} {env : Env} {news : Led} {b : Nat} {vs : List Value} {rs : List (Bits × Nat)} {scope : Scope} {cl : List (Str × Addr)} {Fin : List Value → Led → Prop} {x x₂ : Str} {pos : Pos} {its : Array Value}
/-- a list's first halves, taken by a pair target -/
theorem restP_all (hr : RsIn news b vs rs) (hS : SrcAt h₀ ax its news) (hi : its = vs.toArray) {k₀ : Nat} (hk₀ : k₀ = vs.length) (fin : ∀ ys, PsIn news b ys (rs.map (·.1)) → Fin ys news)
    (hk : ∀ C, (compEnvC scope cl C env).scope.kind = .function) (hl : ∀ C, (compEnvC scope cl C env).kindOf x = some .local) (hd : (x == ("__debug__" : Str)) = false) :
    CompRestP prog w A h₀ L m env (.Name x pos) x x₂ scope cl s (SrcAt h₀ ax its) (fun i v => its[i]? = some v) Fin k₀ 0 [] news := by
  subst hi hk₀
  suffices h : ∀ k i ys, i + k = vs.length → PsIn news b ys ((rs.take i).map (·.1)) → CompRestP prog w A h₀ L m env (.Name x pos) x x₂ scope cl s (SrcAt h₀ ax vs.toArray) (fun i v => vs.toArray[i]? = some v) Fin k i ys news by
    exact h _ 0 [] (by simp) (by simpa using PsIn.nil)
  intro k
  induction k with
  | zero =>
    intro i ys hik hy
    refine CompRestP.zero (fin ys ?_)
    rwa [List.take_of_length_le (by have := hr.length; omega)] at hy
  | succ k ih =>
    intro i ys hik hy
    refine CompRestP.succ fun v hv => ?_
    obtain ⟨r, h1, h2⟩ := hr.at (i := i) (v := v) (by simpa using hv)
    obtain @⟨ra, rp, rn1, rn2, rt1, rt2, rt3, rx, rk, rm1, rm2⟩ := h2
    refine ⟨ra, _, .ref rp, .int rk rt3, rn1, rfl, rm1, rfl, rfl, fun I oI C oC D m₂ h tk E' hC hx hx₂ F N off ne => ?_⟩
    refine LCgL.ld_own N (.tail _ (.head _)) hC hx ?_ (hk C) (hl C) hd
    refine ⟨h, tk, news, rfl, F, N, off, hS, ih (i + 1) _ (by omega) ?_⟩
    have e : rs.take (i + 1) = rs.take i ++ [(rx, rk)] := by rw [List.take_add_one, h1]; rfl
    rw [e, List.map_append]
    exact hy.snoc (.mk rm2)
/-- the end of a test: the ledger as it stood -/
def TestEnd (h₀ : Heap) (L : Addr) (m : Str → Option Value) (s : Shared) (led : Led) (p : Bool) (ok : Bool) (s' : Shared) : Prop :=
  ok = p ∧ ∃ h' tk', s' = { s with heap := h', toks := tk' } ∧ Fr h₀ L h' m ∧ News h₀ L h' led
theorem TestEnd.intro {led led' : Led} {p ok : Bool} {h' : Heap} {tk' : Nat} (e : ok = p) (F : Fr h₀ L h' m) (N : News h₀ L h' led') (hs : ∀ p ∈ led, p ∈ led') : TestEnd h₀ L m s led p ok { s with heap := h', toks := tk' } :=
  ⟨e, h', tk', rfl, F, fun q hq => N q (hs q hq)⟩
/-- a list's routes that a test tells -/
theorem restT_all {ct : PySem.Expr} (p : Bits × Nat → Bool) (hr : RsIn news b vs rs) (hS : SrcAt h₀ ax its news) (hi : its = vs.toArray) {k₀ : Nat} (hk₀ : k₀ = vs.length) (fin : ∀ ys, RsIn news b ys (rs.filter p) → Fin ys news)
    (turn : ∀ v r I oI C oC D ys m₂ h tk (E' : Value → Shared → Prop), r ∈ rs → RIn news b v r → NsObj oC m₂ → m₂ x = some v → Fr h₀ L h m → News h₀ L h ((I, oI) :: (C, oC) :: (D, lst ys) :: news) →
      wpAny (model prog w) A (isTrue ct (compEnvC scope cl C env) (eval ct (compEnvC scope cl C env))) (TestEnd h₀ L m { s with heap := h, toks := tk } ((I, oI) :: (C, oC) :: (D, lst ys) :: news) (p r)) E' { s with heap := h, toks := tk })
    (hk : ∀ C, (compEnvC scope cl C env).scope.kind = .function) (hl : ∀ C, (compEnvC scope cl C env).kindOf x = some .local) (hd : (x == ("__debug__" : Str)) = false) :
    CompRestT prog w A h₀ L m env ct (.Name x pos) x scope cl s (SrcAt h₀ ax its) (fun i v => its[i]? = some v) Fin k₀ 0 [] news := by
  subst hi hk₀
  suffices h : ∀ k i ys, i + k = vs.length → RsIn news b ys ((rs.take i).filter p) → CompRestT prog w A h₀ L m env ct (.Name x pos) x scope cl s (SrcAt h₀ ax vs.toArray) (fun i v => vs.toArray[i]? = some v) Fin k i ys news by
    exact h _ 0 [] (by simp) (by simpa using RsIn.nil)
  intro k
  induction k with
  | zero =>
    intro i ys hik hy
    refine CompRestT.zero (fin ys ?_)
    rwa [List.take_of_length_le (by have := hr.length; omega)] at hy
  | succ k ih =>
    intro i ys hik hy
    refine CompRestT.succ fun v I oI C oC D m₂ h tk E' hv hC hx F N off ne => ?_
    obtain ⟨r, h1, h2⟩ := hr.at (i := i) (v := v) (by simpa using hv)
    have e : rs.take (i + 1) = rs.take i ++ [r] := by rw [List.take_add_one, h1]; rfl
    refine wpAny_mono (turn v r I oI C oC D ys m₂ h tk E' (List.mem_of_getElem? h1) h2 hC hx F N) (fun ok s' h' => ?_) fun _ _ e => e
    obtain ⟨rfl, h', tk', rfl, F', N'⟩ := h'
    cases hp : p r with
    | true =>
      simp only [if_true]
      refine LCgL.ld_own N' (.tail _ (.head _)) hC hx ?_ (hk C) (hl C) hd
      refine ⟨h', tk', news, rfl, F', N', off, hS, ih (i + 1) _ (by omega) ?_⟩
      rw [e, List.filter_append, List.filter_cons_of_pos hp]
      exact hy.snoc h2
    | false =>
      simp only [Bool.false_eq_true, if_false]
      refine ⟨h', tk', news, rfl, F', N', off, hS, ih (i + 1) _ (by omega) ?_⟩
      rw [e, List.filter_append, List.filter_cons_of_neg (by simp [hp])]
      simpa using hy
/-! in, not in -/
variable {Q : Value → Shared → Prop}
open Classical in
theorem in_pre {n₂ : Led} {D : Addr} {ys : List Value} {xs : List Bits} {v : Value} {x : Bits} (N : News h₀ L s.heap news) (hm : (D, lst ys) ∈ news) (hn : n₂ = news) (hy : PsIn n₂ b ys xs) (hx : PIn n₂ b v x) (hb : b ≤ 4) (hl : x.length ≤ b) (hu : A.units + 64 < cLine)
    (h : Q (.bool (decide (x ∈ xs))) s) : wpAny (model prog w) A (compareOp .In v (.ref D)) Q E s := by
  subst hn
  refine kqd_isIn N hm rfl rfl hy.dat (fun _ h => h) hx.dat (fun _ h => h) (fun d hd => ?_) pDat_ok hu ?_
  · obtain ⟨x, _, rfl⟩ := List.mem_map.mp hd
    exact pDat_ok
  · have e : decide (pDat b x ∈ xs.map (pDat b)) = decide (x ∈ xs) := by
      apply decide_eq_decide.mpr
      constructor
      · intro h
        obtain ⟨y, h1, h2⟩ := List.mem_map.mp h
        rw [pDat_inj hb hl h2.symm]; exact h1
      · exact fun h => List.mem_map_of_mem h
    rw [e]; exact h
open Classical in
theorem notIn_rows {n₂ : Led} {D : Value} {rs : List (Bits × Nat)} {v : Value} {r : Bits × Nat} (N : News h₀ L s.heap news) (hs : ∀ p ∈ n₂, p ∈ news) (hy : LIn n₂ b D rs) (hx : RIn n₂ b v r) (hb : b ≤ 4) (hl : r.1.length ≤ b) (hu : A.units + 64 < cLine)
    (h : Q (.bool (!decide (r ∈ rs))) s) : wpAny (model prog w) A (compareOp .NotIn v D) Q E s := by
  obtain @⟨a, vs, n, rs, h1, h2⟩ := hy
  refine kqd_notIn N (hs _ h1) rfl rfl h2.dat hs hx.dat hs (fun d hd => ?_) rDat_ok hu ?_
  · obtain ⟨x, _, rfl⟩ := List.mem_map.mp hd
    exact rDat_ok
  · have e : decide (rDat b r ∈ rs.map (rDat b)) = decide (r ∈ rs) := by
      apply decide_eq_decide.mpr
      constructor
      · intro h
        obtain ⟨y, h1, h2⟩ := List.mem_map.mp h
        rw [rDat_inj hb hl h2.symm]; exact h1
      · exact fun h => List.mem_map_of_mem h
    rw [e]; exact h
end
open Classical in
noncomputable def unlikeP (rs : List (Bits × Nat)) (r : Bits × Nat) : Bool := decide (r.1 ∈ rs.map (·.1)) && !decide (r ∈ rs)
theorem unlike_iff {f s : T} (hf : f.WF) (hs : s.WF) : f.all.filter (unlikeP s.all) = [] ↔ s.over f = f.over s := by
  rw [over_unlike hf hs, List.filter_eq_nil_iff]
  refine forall_congr' fun r => forall_congr' fun _ => ?_
  simp only [unlikeP, Bool.and_eq_true, Bool.not_eq_true', decide_eq_true_eq, decide_eq_false_iff_not, not_and, Classical.not_not]
end W17
section W18

/-! ## the loop over the addresses: nothing is turned but names -/
open PyProof.Rows.LCg PyProof.Rows.LCp PyProof.Rows.LCt
def AddrEnd (h₀ : Heap) (L : Addr) (s₁ : Shared) (own led : Led) (m₀ : Str → Option Value) (stored : List Str) (f : Flow) (s₂ : Shared) : Prop :=
  f = .next ∧ ∃ h' tk' m', s₂ = { s₁ with heap := h', toks := tk' } ∧ Fr h₀ L h' m' ∧ News h₀ L h' (own ++ led) ∧ ∀ x, stored.contains x = false → m' x = m₀ x
section
variable {prog : Program} {w : World} {A : Around} {E : Value → Shared → Prop} {Q : Flow → Shared → Prop} {s : Shared} {env : Env} {h₀ : Heap} {b : Nat} {q1 q2 : Addr × Obj} {G : Led} {as : List Addr} {fs : List Fact}
theorem AddrEnd.intro {L : Addr} {own G' : Led} {m₀ m' : Str → Option Value} {stored : List Str} {h' : Heap} {tk' : Nat} {fs' : List Fact}
    (F : Fr h₀ L h' m') (N : News h₀ L h' (q1 :: q2 :: G')) (K : Facts G' b fs') (m1 : Fact.led (own ++ G) ∈ fs') (hm : ∀ x, stored.contains x = false → m' x = m₀ x) :
    AddrEnd h₀ L s own (q1 :: q2 :: G) m₀ stored .next { s with heap := h', toks := tk' } := by
  refine ⟨rfl, h', tk', m', rfl, F, fun p hp => N p ?_, hm⟩
  have k := K.led m1
  rcases List.mem_append.mp hp with hp | hp
  · exact .tail _ (.tail _ (k p (List.mem_append.mpr (.inl hp))))
  · rcases List.mem_cons.mp hp with rfl | hp
    · exact .head _
    · rcases List.mem_cons.mp hp with rfl | hp
      · exact .tail _ (.head _)
      · exact .tail _ (.tail _ (k p (List.mem_append.mpr (.inr hp))))
theorem iter_addr {x : Str} {body : List Stmt} {r : Addr} {b₀ : Int} {t₀ u₀ w₀ : Tok} {n : Nat} {m₀ : Str → Option Value} (stored : List Str)
    (hh : A.handled = none) (hr : IsRange s.heap r 0 b₀ 1 t₀ u₀ w₀) (hsmall : Builtin.Range.small 0 b₀ 1 = true) (hn : Builtin.Range.rangeSize 0 b₀ 1 = (n : Int)) (hnb : n ≤ 2 ^ b) (hb : b ≤ 4)
    (F : Fr h₀ env.locals s.heap m₀) (N : News h₀ env.locals s.heap (q1 :: q2 :: G)) (K : Facts G b fs) (ap : Apart as q1.1 q2.1 G)
    (turn : ∀ (Ad : Bits) t (u : Str → Option Value) own s₁, Ad.length = b → Facts (own ++ G) b (.led (own ++ G) :: fs) → Apart as q1.1 q2.1 (own ++ G) →
      Fr h₀ env.locals s₁.heap (fun z => if z = x then some (.int (enc b Ad : Nat) t) else if stored.contains z then u z else m₀ z) → News h₀ env.locals s₁.heap (q1 :: q2 :: (own ++ G)) →
      wpAny (model prog w) A (execs body env) (AddrEnd h₀ env.locals s₁ own (q1 :: q2 :: G) m₀ stored) E s₁)
    (done : ∀ (u : Str → Option Value) h tk, Fr h₀ env.locals h (fun z => if stored.contains z then u z else m₀ z) → News h₀ env.locals h (q1 :: q2 :: G) → Q .next { s with heap := h, toks := tk }) :
    wpAny (model prog w) A (pyIter (.ref r)) (fun it s₂ => LoopAtV prog w A h₀ env x body Q E it s₂) E s := by
  have em : ∀ {m₁ : Str → Option Value}, (∀ x, stored.contains x = false → m₁ x = m₀ x) → (fun x => if stored.contains x then m₁ x else m₀ x) = m₁ := by
    intro m₁ h2
    funext x
    cases hc : stored.contains x with
    | true => simp
    | false => simp only [Bool.false_eq_true, if_false]; exact (h2 x hc).symm
  refine wpAny_pyIter_range hr hsmall ?_
  have W : Walks prog w A s.heap.objs.size [s.heap.objs.size] [s.heap.objs.size] n (fun i v => i < n ∧ ∃ t, v = .int ((0 : Int) + i * 1) t)
      (fun i h => IsRangeIter h s.heap.objs.size ((0 : Int) + (i : Nat) * 1) ((n : Int) - (i : Nat)) 1) := (Walks.range hh _ 0 1 n).bound
  refine ⟨s.heap.objs.size, _, _, n, _, _, m₀, (q1 :: q2 :: G), (fun i m nx => nx = q1 :: q2 :: G ∧ (∀ x, stored.contains x = false → m x = m₀ x)), rfl, W, ?_, ?_, ?_,
    (by show IsRangeIter _ _ _ _ _; rw [hn]; simpa using Heap.get?_push_size _ rfl), F.push _, (fun p hp => ⟨Heap.get?_push_of_some _ (N p hp).1, (N p hp).2⟩),
    ⟨rfl, fun _ _ => rfl⟩, ?_, ?_⟩
  · intro hc
    exact absurd F.ns.lt ((List.mem_singleton.mp hc) ▸ Nat.lt_irrefl _)
  · intro d hc
    rw [List.mem_singleton.mp hc]
    exact next_is_new F
  · intro p hp hI
    exact absurd (Heap.lt_size (N p hp).1) ((List.mem_singleton.mp hI) ▸ Nat.lt_irrefl _)
  · rintro i v m₁ nx s₁ own - hin ⟨hi, tP, rfl⟩ ⟨rfl, hm₁⟩ hoff hsub hlive hfull hst F₁ N₁
    obtain ⟨Ad, hA, eA⟩ := enc_ex hb (Nat.le_refl b) (show i < 2 ^ b by omega)
    have e : ((0 : Int) + i * 1) = ((enc b Ad : Nat) : Int) := by
      rw [eA, Nat.sub_self, Nat.pow_zero, Nat.mul_one]; omega
    rw [e] at F₁
    have hsubG : ∀ p ∈ G, p ∈ own ++ G := fun p hp => List.mem_append.mpr (.inr hp)
    have hap : Apart as q1.1 q2.1 (own ++ G) := by
      refine ⟨ap.1, fun a ha p hp => ?_⟩
      rcases List.mem_append.mp hp with hp | hp
      · rw [List.mem_singleton.mp (hsub p hp)]
        rcases ap.1 a ha with rfl | rfl
        · exact fun e => hoff q1 (.head _) (List.mem_singleton.mpr e.symm)
        · exact fun e => hoff q2 (.tail _ (.head _)) (List.mem_singleton.mpr e.symm)
      · exact ap.2 a ha p hp
    have F₂ : Fr h₀ env.locals s₁.heap (fun z => if z = x then some (.int ((enc b Ad : Nat) : Int) tP) else if stored.contains z then m₁ z else m₀ z) := by
      have e : (fun z => if z = x then some (Value.int ((enc b Ad : Nat) : Int) tP) else if stored.contains z then m₁ z else m₀ z) = fun z => if z = x then some (.int ((enc b Ad : Nat) : Int) tP) else m₁ z := by
        funext z
        have h : (if stored.contains z then m₁ z else m₀ z) = m₁ z := congrFun (em hm₁) z
        rw [h]
      rw [e]; exact F₁
    refine wpAny_mono (turn Ad tP m₁ own s₁ hA ((K.mono hsubG).add fun p hp => hp) hap F₂ (fun p hp => N₁ p (by
      rcases List.mem_cons.mp hp with hp | hp
      · exact List.mem_append.mpr (.inr (hp ▸ .head _))
      · rcases List.mem_cons.mp hp with hp | hp
        · exact List.mem_append.mpr (.inr (hp ▸ .tail _ (.head _)))
        · rcases List.mem_append.mp hp with hp | hp
          · exact List.mem_append.mpr (.inl hp)
          · exact List.mem_append.mpr (.inr (.tail _ (.tail _ hp)))))) (fun f s₄ h₄ => ?_) fun _ _ e => e
    obtain ⟨rfl, h', tk', m', rfl, F', N', hm'⟩ := h₄
    exact ⟨rfl, h', tk', m', (q1 :: q2 :: G), rfl, F', N', hoff, rfl, hm'⟩
  · rintro h' tk m' nx F' N' _ ⟨rfl, hm₁⟩
    exact done m' h' tk (by rw [em hm₁]; exact F') N'
end
theorem pow_size {b : Nat} (hb : b ≤ 4) : ((2 : Int) ^ ((b : Int)).toNat - 0).toNat ≤ 2 ^ b := by
  have e : ((b : Int)).toNat = b := by omega
  rw [e]
  have e2 : (2 : Int) ^ b = ((2 ^ b : Nat) : Int) := by norm_cast
  rw [e2, Int.sub_zero, Int.toNat_natCast]
  exact Nat.le_refl _
/-! ## the comprehension of unlike routes -/
section
variable {prog : Program} {w : World} {A : Around} {E : Value → Shared → Prop} {s : Shared} {h₀ : Heap} {L : Addr} {m : Str → Option Value} {env : Env} {G : Led} {b : Nat} {q1 q2 : Addr × Obj} {as : List Addr} {fs : List Fact}
theorem PsIn.mono {news news' : Led} {vs : List Value} {xs : List Bits} (h : PsIn news b vs xs) (hs : ∀ p ∈ news, p ∈ news') : PsIn news' b vs xs := by
  induction h with
  | nil => exact .nil
  | cons h _ ih => exact .cons (h.mono hs) ih
theorem unlike_src {ct : PySem.Expr} {x y : Str} {pos : Pos} {scope : Scope} {cl : List (Str × Addr)} {Q : Flow → Shared → Prop} {v : Value} {rs : List (Bits × Nat)} (p : Bits × Nat → Bool)
    (hh : A.handled = none) (F : Fr h₀ L s.heap m) (N : News h₀ L s.heap (q1 :: q2 :: G)) (o1 : Odd q1) (o2 : Odd q2) (K : Facts G b fs) (m1 : Fact.rows v rs ∈ fs) (hz : rs.length ≤ 64) (ap : Apart as q1.1 q2.1 G)
    (hk : ∀ C, (compEnvC scope cl C env).scope.kind = .function) (hl : ∀ C, (compEnvC scope cl C env).kindOf x = some .local) (hd : (x == ("__debug__" : Str)) = false)
    (turn : ∀ v r I oI C oC D ys m₂ h tk (E' : Value → Shared → Prop), r ∈ rs → RIn G b v r → NsObj oC m₂ → m₂ x = some v → Fr h₀ L h m → News h₀ L h ((I, oI) :: (C, oC) :: (D, lst ys) :: q1 :: q2 :: G) →
      wpAny (model prog w) A (isTrue ct (compEnvC scope cl C env) (eval ct (compEnvC scope cl C env))) (TestEnd h₀ L m { s with heap := h, toks := tk } ((I, oI) :: (C, oC) :: (D, lst ys) :: q1 :: q2 :: G) (p r)) E' { s with heap := h, toks := tk })
    (done : ∀ D G' h tk, Fr h₀ L h (fun z => if z = y then some (.ref D) else m z) → News h₀ L h (q1 :: q2 :: G') → Facts G' b (.rows (.ref D) (rs.filter p) :: fs) → Apart as q1.1 q2.1 G' → Q .next { s with heap := h, toks := tk }) :
    CompSrcT prog w A h₀ L m env ct (.Name x pos) x scope cl (fun s₂ => FinA h₀ L m s₂ y Q) v s := by
  have hr := K.rows m1
  obtain @⟨a, vs, n, rs, h1, h2⟩ := hr
  have hz' : vs.toArray.size ≤ sizeLine := by
    rw [List.size_toArray, h2.length]; exact Nat.le_trans hz (Nat.le_of_ble_eq_true rfl)
  refine CompSrcT.ledger hh F N (List.mem_cons_of_mem _ (List.mem_cons_of_mem _ h1)) hz' fun g => ?_
  refine restT_all p (vs := vs) (rs := rs) (b := b) (h2.mono sub2) (.inr ⟨_, List.mem_cons_of_mem _ (List.mem_cons_of_mem _ h1), rfl, _, rfl⟩) rfl (by rw [List.size_toArray]) ?_ ?_ hk hl hd
  · intro ys hy D h tk F' N' o
    have o' : (@Ne Nat q1.1 D) ∧ (@Ne Nat q2.1 D) := ⟨o.1, o.2.1⟩
    refine done D ((D, lst ys) :: G) h tk F' (fun p hp => N' p ?_) ((K.mono fun _ h => .tail _ h).add (.mk (n := ys.length) (.head _) ((rsin_odd o1 o2 hy).mono fun _ h => .tail _ h))) ⟨ap.1, fun a ha p hp => ?_⟩
    · simp only [List.mem_cons] at hp ⊢
      rcases hp with h | h | h | h
      · exact .inr (.inl h)
      · exact .inr (.inr (.inl h))
      · exact .inl h
      · exact .inr (.inr (.inr h))
    · rcases List.mem_cons.mp hp with rfl | hp
      · rcases ap.1 a ha with rfl | rfl
        · exact Ne.symm o'.1
        · exact Ne.symm o'.2
      · exact ap.2 a ha p hp
  · intro v r I oI C oC D ys m₂ h tk E' hr hin hC hx F' N'
    exact turn v r I oI C oC D ys m₂ h tk E' hr (rin_odd o1 o2 hin) hC hx F' N'
theorem rows_src {x x₂ : Str} {pos : Pos} {scope : Scope} {cl : List (Str × Addr)} {Q : Value → Shared → Prop} {v : Value} {rs : List (Bits × Nat)} {own : Led}
    (hh : A.handled = none) (F : Fr h₀ L s.heap m) (N : News h₀ L s.heap own) (K : Facts G b fs) (hs : ∀ p ∈ G, p ∈ own) (m1 : Fact.rows v rs ∈ fs) (hz : rs.length ≤ 64)
    (hk : ∀ C, (compEnvC scope cl C env).scope.kind = .function) (hl : ∀ C, (compEnvC scope cl C env).kindOf x = some .local) (hd : (x == ("__debug__" : Str)) = false)
    (done : ∀ D ys h tk, PsIn own b ys (rs.map (·.1)) → Fr h₀ L h m → News h₀ L h ((D, lst ys) :: own) → Q (.ref D) { s with heap := h, toks := tk }) :
    SrcLP prog w A h₀ L m env (.Name x pos) x x₂ scope cl (fun s₂ => FinE h₀ L m s₂ Q) v s := by
  have hr := K.rows m1
  obtain @⟨a, vs, n, rs, h1, h2⟩ := hr
  have hz' : vs.toArray.size ≤ sizeLine := by
    rw [List.size_toArray, h2.length]; exact Nat.le_trans hz (Nat.le_of_ble_eq_true rfl)
  refine SrcLP.ledger hh F N (hs _ h1) hz' fun g => ?_
  exact restP_all (vs := vs) (rs := rs) (b := b) (h2.mono hs) (.inr ⟨_, hs _ h1, rfl, _, rfl⟩) rfl (by rw [List.size_toArray]) (fun ys hy D h tk F' N' o => done D ys h tk hy F' N') hk hl hd
variable {Q : Value → Shared → Prop}
open Classical in
theorem in_pre2 {n₂ news : Led} {D : Addr} {ys : List Value} {xs : List Bits} {v : Value} {x : Bits} (N : News h₀ L s.heap ((D, lst ys) :: news)) (hy : PsIn news b ys xs) (hs : ∀ p ∈ n₂, p ∈ news) (hx : PIn n₂ b v x) (hb : b ≤ 4) (hl : x.length ≤ b) (hu : A.units + 64 < cLine)
    (h : Q (.bool (decide (x ∈ xs))) s) : wpAny (model prog w) A (compareOp .In v (.ref D)) Q E s :=
  in_pre N (.head _) rfl (hy.mono fun _ h => .tail _ h) (hx.mono fun p hp => .tail _ (hs p hp)) hb hl hu h
end
/-- the item of a list of routes -/
theorem RsIn.item {G : Led} {b k : Nat} {vs : List Value} {rs : List (Bits × Nat)} (h : RsIn G b vs rs) (hk : k < rs.length) : ∃ v, vs[k]? = some v ∧ RIn G b v rs[k] := by
  have hl := h.length
  obtain ⟨v, hv⟩ : ∃ v, vs[k]? = some v := ⟨vs[k], List.getElem?_eq_getElem (by omega)⟩
  obtain ⟨r, h1, h2⟩ := h.at hv
  rw [List.getElem?_eq_getElem hk] at h1
  cases h1
  exact ⟨v, hv, h2⟩
end W18
section W19

/-! ## membership by its place -/
theorem mem1 {α : Type} {a x0 : α} {l : List α} : a ∈ x0 :: a :: l := List.mem_cons_of_mem _ List.mem_cons_self
theorem mem2 {α : Type} {a x0 x1 : α} {l : List α} : a ∈ x0 :: x1 :: a :: l := List.mem_cons_of_mem _ mem1
theorem mem3 {α : Type} {a x0 x1 x2 : α} {l : List α} : a ∈ x0 :: x1 :: x2 :: a :: l := List.mem_cons_of_mem _ mem2
theorem mem4 {α : Type} {a x0 x1 x2 x3 : α} {l : List α} : a ∈ x0 :: x1 :: x2 :: x3 :: a :: l := List.mem_cons_of_mem _ mem3
theorem mem5 {α : Type} {a x0 x1 x2 x3 x4 : α} {l : List α} : a ∈ x0 :: x1 :: x2 :: x3 :: x4 :: a :: l := List.mem_cons_of_mem _ mem4
theorem mem6 {α : Type} {a x0 x1 x2 x3 x4 x5 : α} {l : List α} : a ∈ x0 :: x1 :: x2 :: x3 :: x4 :: x5 :: a :: l := List.mem_cons_of_mem _ mem5
theorem mem7 {α : Type} {a x0 x1 x2 x3 x4 x5 x6 : α} {l : List α} : a ∈ x0 :: x1 :: x2 :: x3 :: x4 :: x5 :: x6 :: a :: l := List.mem_cons_of_mem _ mem6
theorem mem8 {α : Type} {a x0 x1 x2 x3 x4 x5 x6 x7 : α} {l : List α} : a ∈ x0 :: x1 :: x2 :: x3 :: x4 :: x5 :: x6 :: x7 :: a :: l := List.mem_cons_of_mem _ mem7
theorem mem9 {α : Type} {a x0 x1 x2 x3 x4 x5 x6 x7 x8 : α} {l : List α} : a ∈ x0 :: x1 :: x2 :: x3 :: x4 :: x5 :: x6 :: x7 :: x8 :: a :: l := List.mem_cons_of_mem _ mem8
theorem mem10 {α : Type} {a x0 x1 x2 x3 x4 x5 x6 x7 x8 x9 : α} {l : List α} : a ∈ x0 :: x1 :: x2 :: x3 :: x4 :: x5 :: x6 :: x7 :: x8 :: x9 :: a :: l := List.mem_cons_of_mem _ mem9
theorem mem11 {α : Type} {a x0 x1 x2 x3 x4 x5 x6 x7 x8 x9 x10 : α} {l : List α} : a ∈ x0 :: x1 :: x2 :: x3 :: x4 :: x5 :: x6 :: x7 :: x8 :: x9 :: x10 :: a :: l := List.mem_cons_of_mem _ mem10
theorem mem12 {α : Type} {a x0 x1 x2 x3 x4 x5 x6 x7 x8 x9 x10 x11 : α} {l : List α} : a ∈ x0 :: x1 :: x2 :: x3 :: x4 :: x5 :: x6 :: x7 :: x8 :: x9 :: x10 :: x11 :: a :: l := List.mem_cons_of_mem _ mem11
theorem mem13 {α : Type} {a x0 x1 x2 x3 x4 x5 x6 x7 x8 x9 x10 x11 x12 : α} {l : List α} : a ∈ x0 :: x1 :: x2 :: x3 :: x4 :: x5 :: x6 :: x7 :: x8 :: x9 :: x10 :: x11 :: x12 :: a :: l := List.mem_cons_of_mem _ mem12
theorem mem14 {α : Type} {a x0 x1 x2 x3 x4 x5 x6 x7 x8 x9 x10 x11 x12 x13 : α} {l : List α} : a ∈ x0 :: x1 :: x2 :: x3 :: x4 :: x5 :: x6 :: x7 :: x8 :: x9 :: x10 :: x11 :: x12 :: x13 :: a :: l := List.mem_cons_of_mem _ mem13
theorem mem15 {α : Type} {a x0 x1 x2 x3 x4 x5 x6 x7 x8 x9 x10 x11 x12 x13 x14 : α} {l : List α} : a ∈ x0 :: x1 :: x2 :: x3 :: x4 :: x5 :: x6 :: x7 :: x8 :: x9 :: x10 :: x11 :: x12 :: x13 :: x14 :: a :: l := List.mem_cons_of_mem _ mem14
theorem mem16 {α : Type} {a x0 x1 x2 x3 x4 x5 x6 x7 x8 x9 x10 x11 x12 x13 x14 x15 : α} {l : List α} : a ∈ x0 :: x1 :: x2 :: x3 :: x4 :: x5 :: x6 :: x7 :: x8 :: x9 :: x10 :: x11 :: x12 :: x13 :: x14 :: x15 :: a :: l := List.mem_cons_of_mem _ mem15
theorem mem17 {α : Type} {a x0 x1 x2 x3 x4 x5 x6 x7 x8 x9 x10 x11 x12 x13 x14 x15 x16 : α} {l : List α} : a ∈ x0 :: x1 :: x2 :: x3 :: x4 :: x5 :: x6 :: x7 :: x8 :: x9 :: x10 :: x11 :: x12 :: x13 :: x14 :: x15 :: x16 :: a :: l := List.mem_cons_of_mem _ mem16
theorem mem18 {α : Type} {a x0 x1 x2 x3 x4 x5 x6 x7 x8 x9 x10 x11 x12 x13 x14 x15 x16 x17 : α} {l : List α} : a ∈ x0 :: x1 :: x2 :: x3 :: x4 :: x5 :: x6 :: x7 :: x8 :: x9 :: x10 :: x11 :: x12 :: x13 :: x14 :: x15 :: x16 :: x17 :: a :: l := List.mem_cons_of_mem _ mem17
theorem mem19 {α : Type} {a x0 x1 x2 x3 x4 x5 x6 x7 x8 x9 x10 x11 x12 x13 x14 x15 x16 x17 x18 : α} {l : List α} : a ∈ x0 :: x1 :: x2 :: x3 :: x4 :: x5 :: x6 :: x7 :: x8 :: x9 :: x10 :: x11 :: x12 :: x13 :: x14 :: x15 :: x16 :: x17 :: x18 :: a :: l := List.mem_cons_of_mem _ mem18
theorem mem20 {α : Type} {a x0 x1 x2 x3 x4 x5 x6 x7 x8 x9 x10 x11 x12 x13 x14 x15 x16 x17 x18 x19 : α} {l : List α} : a ∈ x0 :: x1 :: x2 :: x3 :: x4 :: x5 :: x6 :: x7 :: x8 :: x9 :: x10 :: x11 :: x12 :: x13 :: x14 :: x15 :: x16 :: x17 :: x18 :: x19 :: a :: l := List.mem_cons_of_mem _ mem19
theorem mem21 {α : Type} {a x0 x1 x2 x3 x4 x5 x6 x7 x8 x9 x10 x11 x12 x13 x14 x15 x16 x17 x18 x19 x20 : α} {l : List α} : a ∈ x0 :: x1 :: x2 :: x3 :: x4 :: x5 :: x6 :: x7 :: x8 :: x9 :: x10 :: x11 :: x12 :: x13 :: x14 :: x15 :: x16 :: x17 :: x18 :: x19 :: x20 :: a :: l := List.mem_cons_of_mem _ mem20
/-! ## the law's statements, by their place in the program -/
def bodyOf : Stmt → List Stmt
  | .FunctionDef _ _ b _ _ _ _ _ _ _ => b
  | _ => []
def scopeOf : Stmt → Scope
  | .FunctionDef _ _ _ _ _ _ s _ _ _ => s
  | _ => default
def lawStmt : Stmt := (PySem.Challenge.pw_sj0172_01.main.body.getLast?).getD default
def lawBody : List Stmt := bodyOf lawStmt
def lawScope : Scope := scopeOf lawStmt
abbrev lawEnv (L fa : Addr) (ccd : Value) : Env := envOfC (Str.ofString "law") lawScope L fa ccd

theorem News.tidy {h₀ h : Heap} {L : Addr} {p q1 q2 : Addr × Obj} {G : Led} {as : List Addr} (N : News h₀ L h (p :: q1 :: q2 :: G)) (_ : Apart as q1.1 q2.1 G) : News h₀ L h (q1 :: q2 :: G) := fun x hx => N x (.tail _ hx)
theorem storeK {M : Model} {A : Around} {E : Value → Shared → Prop} {s : Shared} {h₀ : Heap} {L a : Addr} {m : Str → Option Value} {cn : Str} {cs : Scope} {ccd : Value} {cl : List (Str × Addr)}
    {x : Str} {v : Value} {Q : Unit → Shared → Prop} {G : Led} {p : Addr × Obj} {bx c cc : Addr} {sp n k : Nat} {t : Tok} {o : Obj} {v₀ : Option Value} {as : List Addr} {xs : Array Value}
    (F : Fr h₀ L s.heap m) (N : News h₀ L s.heap (p :: (bx, boxO c sp t n) :: (cc, o) :: G)) (ap : Apart as bx cc G) (hm : cc ∈ as) (hc : cl.lookup x = some cc) (hp : p.2.data = .seq xs k) (hd : o.data = .cell v₀)
    (h : ∀ h' o', Fr h₀ L h' m → News h₀ L h' ((bx, boxO c sp t n) :: (cc, o') :: G) → o'.data = .cell (some v) → Q () { s with heap := h' })
    (hk : cs.kind = .function) (hx : (envX cn cs L a ccd cl).kindOf x = some .cell) : wpAny M A (storeName (envX cn cs L a ccd cl) x v) Q E s := by
  have ne : ∀ (q : Addr × Obj) xs k, q ∈ p :: (bx, boxO c sp t n) :: (cc, o) :: G → q.2.data = .seq xs k → q.1 ≠ cc := by
    intro q xs k hq hd' e
    have h1 := (N q hq).1
    have h2 := (N (cc, o) (.tail _ (.tail _ (.head _)))).1
    rw [e, h2] at h1
    have h3 : o = q.2 := Option.some.inj h1
    rw [h3, hd'] at hd
    cases hd
  exact storeX_C F N hc (.tail (ne p xs k (.head _) hp) (.tail (ne _ _ _ (.tail _ (.head _)) rfl) (.head (ap.2 cc hm)))) hd (fun h' o' F' N' d' => h h' o' F' (fun q hq => N' q (.tail _ hq)) d') hk hx
/-! ## what is to be shown from a statement on -/
def Law4 : Prop := ∀ {w : World} {mean : ExcName → Option Value} {mg mb : Str → Option Value} {h₀ : Heap} {L fa bx c : Addr} {ccd : Value} {s : Shared} {Q : Flow → Shared → Prop} {E : Value → Shared → Prop} {G : Led} {o : Obj} {b sp n : Nat} {t tb : Tok} {m0 : Str → Option Value} {v1 v2 v3 rv ro : Value} {Z1 Z2 Z3 : T},
  Below callerA h₀ [] h₀ → (hd.heap_39 w.params).In h₀ → Top hd.view_39 (looseW hd.view_39 []) mean mg mb h₀ →
  Fr h₀ L s.heap (fun z => if z = Str.ofString "others" then some ro else if z = Str.ofString "first" then some v1 else if z = Str.ofString "second" then some v2 else if z = Str.ofString "third" then some v3 else if z = Str.ofString "bits" then some (.int b tb) else if z = Str.ofString "box" then some (.ref bx) else m0 z) →
  News h₀ L s.heap ((bx, boxO c sp t n) :: (L + 1, o) :: G) → Facts G b [.rows ro Z3.all, .rows rv Z2.all, .tree v3 Z3, .tree v2 Z2, .tree v1 Z1, .nums c, .tree .none .nil] → Apart [bx, L + 1] bx (L + 1) G → bx ≠ L + 1 → o.data = .cell (some rv) → b ≤ 4 → sp ≤ 61 →
  Z1.WF → Z1.Len b → Z2.WF → Z2.Len b → Z3.WF → Z3.Len b → (∀ (h : Heap) (tk : Nat) (m : Str → Option Value), Fr h₀ L h m → Q (.ret (.bool true)) { s with heap := h, toks := tk }) →
  wpAny (model PySem.Challenge.rw_sj0172_01.row.prog w) (callerA.deeper (lawEnv L fa ccd)) (execs (lawBody.drop 4) (lawEnv L fa ccd)) Q E s
def Law9 : Prop := ∀ {w : World} {mean : ExcName → Option Value} {mg mb : Str → Option Value} {h₀ : Heap} {L fa bx c : Addr} {ccd : Value} {s : Shared} {Q : Flow → Shared → Prop} {E : Value → Shared → Prop} {G : Led} {o : Obj} {b sp n : Nat} {t tb : Tok} {m0 : Str → Option Value} {v1 v2 v3 rv ro vk vb : Value} {Z1 Z2 : T},
  Below callerA h₀ [] h₀ → (hd.heap_39 w.params).In h₀ → Top hd.view_39 (looseW hd.view_39 []) mean mg mb h₀ →
  Fr h₀ L s.heap (fun z => if z = Str.ofString "back" then some vk else if z = Str.ofString "both" then some vb else if z = Str.ofString "others" then some ro else if z = Str.ofString "first" then some v1 else if z = Str.ofString "second" then some v2 else if z = Str.ofString "third" then some v3 else if z = Str.ofString "bits" then some (.int b tb) else if z = Str.ofString "box" then some (.ref bx) else m0 z) →
  News h₀ L s.heap ((bx, boxO c sp t n) :: (L + 1, o) :: G) → Facts G b [.tree vk (Z2.putAll Z1.all), .tree vb (Z1.putAll Z2.all), .rows rv Z2.all, .tree v2 Z2, .tree v1 Z1, .nums c, .tree .none .nil] → Apart [bx, L + 1] bx (L + 1) G → bx ≠ L + 1 → o.data = .cell (some rv) → b ≤ 4 → sp ≤ 61 →
  Z1.WF → Z1.Len b → Z2.WF → Z2.Len b → (∀ (h : Heap) (tk : Nat) (m : Str → Option Value), Fr h₀ L h m → Q (.ret (.bool true)) { s with heap := h, toks := tk }) →
  wpAny (model PySem.Challenge.rw_sj0172_01.row.prog w) (callerA.deeper (lawEnv L fa ccd)) (execs (lawBody.drop 9) (lawEnv L fa ccd)) Q E s
def Law11 : Prop := ∀ {w : World} {mean : ExcName → Option Value} {mg mb : Str → Option Value} {h₀ : Heap} {L fa bx c : Addr} {ccd : Value} {s : Shared} {Q : Flow → Shared → Prop} {E : Value → Shared → Prop} {G : Led} {o : Obj} {b sp n : Nat} {t tb : Tok} {m0 : Str → Option Value} {v1 v2 v3 rv ro vk vb vu : Value} {Z1 Z2 : T},
  Below callerA h₀ [] h₀ → (hd.heap_39 w.params).In h₀ → Top hd.view_39 (looseW hd.view_39 []) mean mg mb h₀ →
  Fr h₀ L s.heap (fun z => if z = Str.ofString "unlike" then some vu else if z = Str.ofString "back" then some vk else if z = Str.ofString "both" then some vb else if z = Str.ofString "others" then some ro else if z = Str.ofString "first" then some v1 else if z = Str.ofString "second" then some v2 else if z = Str.ofString "third" then some v3 else if z = Str.ofString "bits" then some (.int b tb) else if z = Str.ofString "box" then some (.ref bx) else m0 z) →
  News h₀ L s.heap ((bx, boxO c sp t n) :: (L + 1, o) :: G) → Facts G b [.tree vb (Z1.putAll Z2.all), .tree v2 Z2, .tree v1 Z1, .nums c, .tree .none .nil] → Apart [bx, L + 1] bx (L + 1) G → bx ≠ L + 1 → o.data = .cell (some rv) → b ≤ 4 → sp ≤ 61 →
  Z1.WF → Z1.Len b → Z2.WF → Z2.Len b → (∀ (h : Heap) (tk : Nat) (m : Str → Option Value), Fr h₀ L h m → Q (.ret (.bool true)) { s with heap := h, toks := tk }) →
  wpAny (model PySem.Challenge.rw_sj0172_01.row.prog w) (callerA.deeper (lawEnv L fa ccd)) (execs (lawBody.drop 11) (lawEnv L fa ccd)) Q E s
def Law12 : Prop := ∀ {w : World} {mean : ExcName → Option Value} {mg mb : Str → Option Value} {h₀ : Heap} {L fa bx c : Addr} {ccd : Value} {s : Shared} {Q : Flow → Shared → Prop} {E : Value → Shared → Prop} {G : Led} {o : Obj} {b sp n : Nat} {t tb : Tok} {m0 : Str → Option Value} {v1 v2 v3 rv ro vk vb vu : Value} {u : Str → Option Value} {Z1 Z2 : T},
  Below callerA h₀ [] h₀ → (hd.heap_39 w.params).In h₀ → Top hd.view_39 (looseW hd.view_39 []) mean mg mb h₀ →
  Fr h₀ L s.heap (fun z => if [Str.ofString "address", Str.ofString "due"].contains z then u z else if z = Str.ofString "unlike" then some vu else if z = Str.ofString "back" then some vk else if z = Str.ofString "both" then some vb else if z = Str.ofString "others" then some ro else if z = Str.ofString "first" then some v1 else if z = Str.ofString "second" then some v2 else if z = Str.ofString "third" then some v3 else if z = Str.ofString "bits" then some (.int b tb) else if z = Str.ofString "box" then some (.ref bx) else m0 z) →
  News h₀ L s.heap ((bx, boxO c sp t n) :: (L + 1, o) :: G) → Facts G b [.tree vb (Z1.putAll Z2.all), .tree v2 Z2, .tree v1 Z1, .nums c, .tree .none .nil] → Apart [bx, L + 1] bx (L + 1) G → bx ≠ L + 1 → o.data = .cell (some rv) → b ≤ 4 → sp ≤ 61 →
  Z1.WF → Z1.Len b → Z2.WF → Z2.Len b → (∀ (h : Heap) (tk : Nat) (m : Str → Option Value), Fr h₀ L h m → Q (.ret (.bool true)) { s with heap := h, toks := tk }) →
  wpAny (model PySem.Challenge.rw_sj0172_01.row.prog w) (callerA.deeper (lawEnv L fa ccd)) (execs (lawBody.drop 12) (lawEnv L fa ccd)) Q E s
def Law15 : Prop := ∀ {w : World} {mean : ExcName → Option Value} {mg mb : Str → Option Value} {h₀ : Heap} {L fa bx c : Addr} {ccd : Value} {s : Shared} {Q : Flow → Shared → Prop} {E : Value → Shared → Prop} {G : Led} {o : Obj} {b sp n : Nat} {t tb : Tok} {m0 : Str → Option Value} {v1 v2 v3 rv ro vk vb vu vl vs : Value} {u : Str → Option Value} {x : Bits} {Z1 Z2 : T},
  Below callerA h₀ [] h₀ → (hd.heap_39 w.params).In h₀ → Top hd.view_39 (looseW hd.view_39 []) mean mg mb h₀ →
  Fr h₀ L s.heap (fun z => if z = Str.ofString "low" then some vl else if z = Str.ofString "some" then some vs else if [Str.ofString "address", Str.ofString "due"].contains z then u z else if z = Str.ofString "unlike" then some vu else if z = Str.ofString "back" then some vk else if z = Str.ofString "both" then some vb else if z = Str.ofString "others" then some ro else if z = Str.ofString "first" then some v1 else if z = Str.ofString "second" then some v2 else if z = Str.ofString "third" then some v3 else if z = Str.ofString "bits" then some (.int b tb) else if z = Str.ofString "box" then some (.ref bx) else m0 z) →
  News h₀ L s.heap ((bx, boxO c sp t n) :: (L + 1, o) :: G) → Facts G b [.pre vs x, .tree vb (Z1.putAll Z2.all), .tree v2 Z2, .tree v1 Z1, .nums c, .tree .none .nil] → Apart [bx, L + 1] bx (L + 1) G → bx ≠ L + 1 → o.data = .cell (some rv) → b ≤ 4 → sp ≤ 61 + 2 →
  Z1.WF → Z1.Len b → Z2.WF → Z2.Len b → x.length ≤ b → (∀ (h : Heap) (tk : Nat) (m : Str → Option Value), Fr h₀ L h m → Q (.ret (.bool true)) { s with heap := h, toks := tk }) →
  wpAny (model PySem.Challenge.rw_sj0172_01.row.prog w) (callerA.deeper (lawEnv L fa ccd)) (execs (lawBody.drop 15) (lawEnv L fa ccd)) Q E s
end W19
section pieces
-- membership in a written list, tried flat
local macro_rules | `(tactic| k_meth) => `(tactic| first | with_reducible assumption | exact List.mem_cons_self | exact mem1 | exact mem2 | exact mem3 | exact mem4 | exact mem5 | exact mem6 | exact mem7 | exact mem8 | exact mem9 | exact mem10 | exact mem11 | exact mem12 | exact mem13 | exact mem14 | exact mem15 | exact mem16 | exact mem17 | exact mem18 | exact mem19 | exact mem20 | exact mem21)
-- the law's own lines of the walk: each call by its contract, over an opaque ledger
local macro_rules | `(tactic| tb_start) => `(tactic| first
  | with_reducible assumption
  | exact trivial
  | exact putAll_wf (by tb_start)
  | exact drop_wf (by tb_start)
  | fail "tb_start: no WF")
local macro_rules | `(tactic| tbn_conj) => `(tactic| first
  | exact all_len (by tb_start) (by tb_rel)
  | exact below_len (by tb_start) (by tb_rel)
  | fail "tbn_conj: no list")
local macro_rules | `(tactic| tb_rel) => `(tactic| first
  | with_reducible assumption
  | exact trivial
  | exact putAll_len (by tb_rel) (by tbn_conj)
  | exact drop_len (by tb_rel)
  | fail "tb_rel: no Len")
local macro_rules | `(tactic| k_asm) => `(tactic| with_reducible assumption)
local macro_rules | `(tactic| ktd_rel) => `(tactic| first | with_reducible assumption | exact odd_box | exact odd_cell (by with_reducible assumption))
local macro_rules | `(tactic| walk_at "call ref") => `(tactic| (k_here; (with_reducible show wpAny _ _ (call (Value.ref 84) _) _ _ _); (rename News _ _ _ _ => oN); (rename Facts _ _ _ => oK); (rename Apart _ _ _ _ => oA); (rename Fr _ _ _ _ => oF); k_dflt (refine' use_all ?B oF ?X oN ?T ?kK ?o1 ?o2 oA oK ?m1 ?hw ?hl ?hb ?hd ?hu ?_; (case B => with_reducible assumption); (case X => with_reducible assumption); (case T => with_reducible assumption); (case kK => first | exact rfl | with_reducible assumption); (case o1 => ktd_rel); (case o2 => ktd_rel); (case m1 => k_meth); (case hw => tb_start); (case hl => tb_rel); (case hb => with_reducible assumption); (case hd => exact Nat.le_of_ble_eq_true rfl); (case hu => exact Nat.le_of_ble_eq_true rfl)); clear oN oK oA oF; intro r9 G9 h9 tk9 F9 N9 K9 A9; (try dsimp only); (try k_fold)))
local macro_rules | `(tactic| walk_at "call ref") => `(tactic| (k_here; (with_reducible show wpAny _ _ (call (Value.ref 112) _) _ _ _); (rename News _ _ _ _ => oN); (rename Facts _ _ _ => oK); (rename Apart _ _ _ _ => oA); (rename Fr _ _ _ _ => oF); k_dflt (refine' use_putAll ?B oF ?X oN ?T ?kK ?o1 ?o2 oA oK ?m1 ?m2 ?hw ?hl ?hr ?hb ?hd ?hu ?_; (case B => with_reducible assumption); (case X => with_reducible assumption); (case T => with_reducible assumption); (case kK => first | exact rfl | with_reducible assumption); (case o1 => ktd_rel); (case o2 => ktd_rel); (case m1 => k_meth); (case m2 => k_meth); (case hw => tb_start); (case hl => tb_rel); (case hr => tbn_conj); (case hb => with_reducible assumption); (case hd => exact Nat.le_of_ble_eq_true rfl); (case hu => exact Nat.le_of_ble_eq_true rfl)); clear oN oK oA oF; intro r9 G9 h9 tk9 F9 N9 K9 A9; (try dsimp only); (try k_fold)))
local macro_rules | `(tactic| walk_at "call ref") => `(tactic| (k_here; (with_reducible show wpAny _ _ (call (Value.ref 91) _) _ _ _); (rename News _ _ _ _ => oN); (rename Facts _ _ _ => oK); (rename Apart _ _ _ _ => oA); (rename Fr _ _ _ _ => oF); k_dflt (refine' use_below ?B oF ?X oN ?T ?kK ?o1 ?o2 oA oK ?m1 ?m2 ?hw ?hl ?hx ?hb ?hd ?hu ?_; (case B => with_reducible assumption); (case X => with_reducible assumption); (case T => with_reducible assumption); (case kK => first | exact rfl | with_reducible assumption); (case o1 => ktd_rel); (case o2 => ktd_rel); (case m1 => k_meth); (case m2 => k_meth); (case hw => tb_start); (case hl => tb_rel); (case hx => with_reducible assumption); (case hb => with_reducible assumption); (case hd => exact Nat.le_of_ble_eq_true rfl); (case hu => exact Nat.le_of_ble_eq_true rfl)); clear oN oK oA oF; intro r9 G9 h9 tk9 F9 N9 K9 A9; (try dsimp only); (try k_fold)))
local macro_rules | `(tactic| walk_at "call ref") => `(tactic| (k_here; (with_reducible show wpAny _ _ (call (Value.ref 70) _) _ _ _); (rename News _ _ _ _ => oN); (rename Facts _ _ _ => oK); (rename Apart _ _ _ _ => oA); (rename Fr _ _ _ _ => oF); k_dflt (refine' use_drop ?B oF ?X oN ?T ?kK ?o1 ?o2 oA oK ?m1 ?m2 ?hw ?hl ?hx ?hb ?hd ?hu ?_; (case B => with_reducible assumption); (case X => with_reducible assumption); (case T => with_reducible assumption); (case kK => first | exact rfl | with_reducible assumption); (case o1 => ktd_rel); (case o2 => ktd_rel); (case m1 => k_meth); (case m2 => k_meth); (case hw => tb_start); (case hl => tb_rel); (case hx => with_reducible assumption); (case hb => with_reducible assumption); (case hd => exact Nat.le_of_ble_eq_true rfl); (case hu => exact Nat.le_of_ble_eq_true rfl)); clear oN oK oA oF; intro r9 G9 h9 tk9 F9 N9 K9 A9; (try dsimp only); (try k_fold)))
local macro_rules | `(tactic| walk_at "call ref") => `(tactic| (k_here; (with_reducible show wpAny _ _ (call (Value.ref 77) _) _ _ _); (rename News _ _ _ _ => oN); (rename Facts _ _ _ => oK); (rename Apart _ _ _ _ => oA); (rename Fr _ _ _ _ => oF); k_dflt (refine' use_look ?B oF ?X oN ?T ?kK ?o1 ?o2 oA oK ?m1 ?hl ?hA ?hb ?hd ?hu ?_; (case B => with_reducible assumption); (case X => with_reducible assumption); (case T => with_reducible assumption); (case kK => first | exact rfl | with_reducible assumption); (case o1 => ktd_rel); (case o2 => ktd_rel); (case m1 => k_meth); (case hl => tb_rel); (case hA => with_reducible assumption); (case hb => with_reducible assumption); (case hd => exact Nat.le_of_ble_eq_true rfl); (case hu => exact Nat.le_of_ble_eq_true rfl)); clear oN oK oA oF; intro r9 G9 h9 tk9 F9 N9 K9 A9; (try dsimp only); (try k_fold)))
local macro_rules | `(tactic| walk_at "call ref") => `(tactic| (k_here; (with_reducible show wpAny _ _ (call (Value.ref 126) _) _ _ _); (rename News _ _ _ _ => oN); (rename Facts _ _ _ => oK); (rename Apart _ _ _ _ => oA); (rename Fr _ _ _ _ => oF); k_dflt (refine' use_longer ?B oF ?X oN ?T ?kK ?o1 ?o2 oA oK ?m1 ?m2 ?hd ?hu ?_; (case B => with_reducible assumption); (case X => with_reducible assumption); (case T => with_reducible assumption); (case kK => first | exact rfl | with_reducible assumption); (case o1 => ktd_rel); (case o2 => ktd_rel); (case m1 => k_meth); (case m2 => k_meth); (case hd => exact Nat.le_of_ble_eq_true rfl); (case hu => exact Nat.le_of_ble_eq_true rfl)); clear oN oK oA oF; intro r9 G9 h9 tk9 F9 N9 K9 A9; (try dsimp only); (try k_fold)))
local macro_rules | `(tactic| walk_at "call ref") => `(tactic| (k_here; (with_reducible show wpAny _ _ (call (Value.ref 119) _) _ _ _); (rename News _ _ _ _ => oN); (rename Facts _ _ _ => oK); (rename Apart _ _ _ _ => oA); (rename Fr _ _ _ _ => oF); k_dflt (refine' use_table ?B oF ?X oN ?T ?kK ?o2 oA oK ?m1 ?m2 ?hne ?hs ?hsm ?hb ?hd ?hu ?_; (case B => with_reducible assumption); (case X => with_reducible assumption); (case T => with_reducible assumption); (case kK => first | exact rfl | with_reducible assumption); (case o2 => ktd_rel); (case m1 => k_meth); (case m2 => k_meth); (case hne => with_reducible assumption); (case hs => with_reducible assumption); (case hsm => exact Nat.le_of_ble_eq_true rfl); (case hb => with_reducible assumption); (case hd => exact Nat.le_of_ble_eq_true rfl); (case hu => exact Nat.le_of_ble_eq_true rfl)); clear oN oK oA oF; intro r9 Z9 G9 sp9 t9 n9 h9 tk9 W9 L9 F9 N9 K9 A9 hs9; (try dsimp only); (try k_fold)))
local macro_rules | `(tactic| walk_at "call ref") => `(tactic| (k_here; (with_reducible show wpAny _ _ (call (Value.ref 105) _) _ _ _); (rename News _ _ _ _ => oN); (rename Facts _ _ _ => oK); (rename Apart _ _ _ _ => oA); (rename Fr _ _ _ _ => oF); k_dflt (refine' use_pre ?B oF ?X oN ?T ?kK ?o2 oA oK ?m1 ?m2 ?hne ?hs ?hsm ?hb ?hd ?hu ?_; (case B => with_reducible assumption); (case X => with_reducible assumption); (case T => with_reducible assumption); (case kK => first | exact rfl | with_reducible assumption); (case o2 => ktd_rel); (case m1 => k_meth); (case m2 => k_meth); (case hne => with_reducible assumption); (case hs => with_reducible assumption); (case hsm => exact Nat.le_of_ble_eq_true rfl); (case hb => with_reducible assumption); (case hd => exact Nat.le_of_ble_eq_true rfl); (case hu => exact Nat.le_of_ble_eq_true rfl)); clear oN oK oA oF; intro r9 x9 G9 sp9 t9 n9 h9 tk9 X9 F9 N9 K9 A9 hs9; (try dsimp only); (try k_fold)))
local macro_rules | `(tactic| walk_at "compareOp NotEq") => `(tactic| (k_here; (rename News _ _ _ _ => oN); (rename Facts _ _ _ => oK); k_dflt (refine' neK_tree oN oK ?m1 ?m2 ?e ?k ?u ?_; (case m1 => k_meth); (case m2 => k_meth); (case e => first | exact over_assoc (by tb_start) (by tb_start) (by tb_start) | exact over_self (by tb_start) | exact over_back (by tb_start) (by tb_start) | exact over_back2 (by tb_start) (by tb_start) | exact drop_law (by tb_start) (by tb_start)); (case k => exact ht_le5 (by with_reducible assumption) (by tb_start) (by tb_rel)); (case u => ke_room)); (try dsimp only)))
local macro_rules | `(tactic| walk_at "compareOp NotEq") => `(tactic| (k_here; (rename News _ _ _ _ => oN); (rename Facts _ _ _ => oK); k_dflt (refine' neK_rows oN oK ?m1 ?m2 ?e ?u ?_; (case m1 => k_meth); (case m2 => k_meth); (case e => exact below_law (by tb_start) (by tb_start)); (case u => ke_room)); (try dsimp only)))
local macro_rules | `(tactic| walk_at "compareOp NotEq") => `(tactic| (k_here; (rename News _ _ _ _ => oN); (rename Facts _ _ _ => oK); k_dflt (refine' neK_seen oN oK ?m1 ?m2 ?e ?u ?_; (case m1 => k_meth); (case m2 => k_meth); (case e => exact look_law (by tb_start) (by tb_start) (by tb_rel) (by tb_rel) (by with_reducible assumption)); (case u => ke_room)); (try dsimp only)))
local macro_rules | `(tactic| walk_at "compareOp NotEq") => `(tactic| (k_here; (with_reducible show wpAny _ _ (compareOp _ _ (Value.ref _)) _ _ _); (rename News _ _ _ _ => oN); (rename Facts _ _ _ => oK); k_dflt (refine' neK_empty oN oK ?m1 ?u ?_; (case m1 => k_meth); (case u => ke_room)); clear oN; intro r9 hr9 N9; (try dsimp only)))
local macro_rules | `(tactic| walk_at "compareOp Eq") => `(tactic| (k_here; (rename News _ _ _ _ => oN); (rename Facts _ _ _ => oK); k_dflt (refine' eqK_tree oN oK ?m1 ?m2 ?b ?l ?k1 ?k2 ?u ?_; (case m1 => k_meth); (case m2 => k_meth); (case b => with_reducible assumption); (case l => tb_rel); (case k1 => exact ht_le5 (by with_reducible assumption) (by tb_start) (by tb_rel)); (case k2 => exact ht_le5 (by with_reducible assumption) (by tb_start) (by tb_rel)); (case u => ke_room)); intro r9 hr9; (try dsimp only)))
local macro_rules | `(tactic| walk_at "compareOp Eq") => `(tactic| (k_here; (with_reducible show wpAny _ _ (compareOp _ _ (Value.ref _)) _ _ _); (rename News _ _ _ _ => oN); (rename Facts _ _ _ => oK); k_dflt (refine' eqK_empty oN oK ?m1 ?u ?_; (case m1 => k_meth); (case u => ke_room)); clear oN; intro r9 hr9 N9; (try dsimp only)))
local macro_rules | `(tactic| walk_at "execs cons") => `(tactic| (k_here; (rename News _ _ _ _ => oN); (rename Apart _ _ _ _ => oA); (have nN := Mine.News.tidy oN oA); clear oN; refine wpAny_execs_cons ?_; (try dsimp only)))
local macro_rules | `(tactic| walk_at "storeName") => `(tactic| (k_here; (rename News _ _ _ _ => oN); (rename Apart _ _ _ _ => oA); (rename Fr _ _ _ _ => oF); k_dflt (refine' storeK oF oN oA ?m ?c ?p ?d ?_ ?a ?b; (case a => rfl); (case b => rfl); (case m => k_meth); (case c => rfl); (case p => exact rfl); (case d => with_reducible assumption)); clear oF oN; intro h' o' F' N' d'; (try dsimp only)))

section P15

theorem itemK {prog : Program} {w : World} {A : Around} {E : Value → Shared → Prop} {s : Shared} {h₀ : Heap} {L : Addr} {G : Led} {q1 q2 : Addr × Obj} {b : Nat} {fs : List Fact} {value slice : PySem.Expr} {v : Value} {rs : List (Bits × Nat)} {k : Nat} {u : Tok} {Q : Value → Shared → Prop}
    (N : News h₀ L s.heap (q1 :: q2 :: G)) (K : Facts G b fs) (m1 : Fact.rows v rs ∈ fs) (hk : (k : Int) < (rs.length : Nat)) (hz : rs.length ≤ 64) (hx : ∀ r ∈ rs, r.1.length ≤ b)
    (h : ∀ ra rp n1 t3 (kk : Nat) x, (ra, tupO [.ref rp, .int kk t3] n1) ∈ G → Facts G b (.pre (.ref rp) x :: fs) → x.length ≤ b → Q (.ref ra) s)
    (hs : ∀ a, subscripted slice false (.ref a) (.int (k : Int) u) = operate [.ref a, .int (k : Int) u] (getItem (.ref a) (.int (k : Int) u))) :
    wpAny (model prog w) A (subscriptTail value slice v (.int (k : Int) u)) Q E s := by
  have hr := K.rows m1
  obtain @⟨a, vs, n, rs, h1, h2⟩ := hr
  obtain ⟨y, hy, hin⟩ := h2.item (k := k) (by omega)
  have hl : s.heap.IsList a vs.toArray := News.list N (List.mem_cons_of_mem _ (List.mem_cons_of_mem _ h1))
  refine tail_any hl.typeIs slot_list_getitem.lookup (wpAny_getItem_list hl (by omega) (by omega) (x := y) (by simpa using hy) ?_) (hs a)
  have hmem : rs[k]'(by omega) ∈ rs := List.getElem_mem _
  generalize rs[k]'(by omega) = r at hin hmem
  have hlx := hx r hmem
  obtain @⟨ra, rp, n1, n2, t1, t2, t3, x, kk, rm1, rm2⟩ := hin
  exact h ra rp n1 t3 kk x rm1 (K.add (.mk rm2)) hlx
theorem eqK_same {prog : Program} {w : World} {A : Around} {E : Value → Shared → Prop} {s : Shared} {h₀ : Heap} {L : Addr} {G : Led} {q1 q2 : Addr × Obj} {b : Nat} {fs : List Fact} {v1 v2 : Value} {Q : Value → Shared → Prop} {t1 t2 : T}
    (N : News h₀ L s.heap (q1 :: q2 :: G)) (K : Facts G b fs) (m1 : Fact.tree v1 t1 ∈ fs) (m2 : Fact.tree v2 t2 ∈ fs) (e : t1 = t2) (k : t1.ht ≤ 5) (hu : A.units + 64 < cLine) (h : Q (.bool true) s) : wpAny (model prog w) A (compareOp .Eq v1 v2) Q E s := by
  subst e
  exact eq_dat (r := true) (News.two N) (K.tree m1).dat (K.tree m2).dat (T.dat_ok (by omega)) (T.dat_ok (by omega)) (by simp) hu h
theorem len_pos {rs : List (Bits × Nat)} {r : Bool} (h : r = true ↔ rs ≠ []) (hr : r = true) : (0 : Int) < (rs.length : Nat) := by
  have := h.mp hr
  have := List.length_pos_iff.mpr this
  omega

local macro_rules | `(tactic| walk_at "compareOp Eq") => `(tactic| (k_here; (rename News _ _ _ _ => oN); (rename Facts _ _ _ => oK); k_dflt (refine' eqK_same oN oK ?m1 ?m2 ?e ?k ?u ?_; (case m1 => k_meth); (case m2 => k_meth); (case e => exact drop_law (by tb_start) (by tb_start)); (case k => exact ht_le5 (by with_reducible assumption) (by tb_start) (by tb_rel)); (case u => ke_room)); (try dsimp only)))
local macro_rules | `(tactic| walk_at "call builtin:len") => `(tactic| (k_here; (rename News _ _ _ _ => oN); (rename Facts _ _ _ => oK); k_dflt (refine' lenK oN oK ?m1 ?z ?_; (case m1 => k_meth); (case z => exact Nat.le_trans (all_few (by with_reducible assumption) (by tb_start) (by tb_rel)) (Nat.le_of_ble_eq_true rfl))); (try dsimp only)))
local macro_rules | `(tactic| walk_at "subscriptTail Name Call") => `(tactic| (k_here; (rename News _ _ _ _ => oN); (rename Facts _ _ _ => oK); k_dflt (refine' itemK oN oK ?m1 ?k ?z ?x ?_ ?hs; (case m1 => k_meth); (case k => with_reducible assumption); (case z => exact all_few (by with_reducible assumption) (by tb_start) (by tb_rel)); (case x => tbn_conj); (case hs => (intro _; with_unfolding_all rfl))); clear oK; intro ra9 rp9 n9 t9 k9 x9 rm9 K9 hx9; (try dsimp only)))
local macro_rules | `(tactic| walk_at "call ref") => `(tactic| (k_here; (with_reducible show wpAny _ _ (call (Value.ref 98) _) _ _ _); (rename News _ _ _ _ => oN); (rename Facts _ _ _ => oK); (rename Apart _ _ _ _ => oA); (rename Fr _ _ _ _ => oF); k_dflt (refine' use_drawn ?B oF ?X oN ?T ?kK oA oK ?m1 ?m2 ?hne ?hs ?hsm ?h0 ?h1 ?hd ?hu ?_; (case B => with_reducible assumption); (case X => with_reducible assumption); (case T => with_reducible assumption); (case kK => first | exact rfl | with_reducible assumption); (case m1 => k_meth); (case m2 => k_meth); (case hne => with_reducible assumption); (case hs => with_reducible assumption); (case hsm => exact Nat.le_of_ble_eq_true rfl); (case h0 => exact len_pos (by with_reducible assumption) (by with_reducible assumption)); (case h1 => exact Int.ofNat_le.mpr (all_few (by with_reducible assumption) (by tb_start) (by tb_rel))); (case hd => exact Nat.le_of_ble_eq_true rfl); (case hu => exact Nat.le_of_ble_eq_true rfl)); clear oN oF; intro k9 u9 sp9 t9 n9 h9 tk9 hk9 F9 N9 hs9; (try dsimp only); (try k_fold)))
set_option maxHeartbeats 8000000 in
theorem law15 : Law15 := by
  unfold Law15
  intro w mean mg mb h₀ L fa bx c ccd s Q E G o b sp n t tb m0 v1 v2 v3 rv ro vk vb vu vl vs u x Z1 Z2 B X TP F N K Ap E9 d hb hsp W1 L1 W2 L2 hx ret
  refine wpAny_mono (Q := Q) (E := fun _ _ => False) ?_ (fun _ _ h => h) fun _ _ h => h.elim
  generalize hcs : lawScope = cs
  conv at hcs => lhs; whnf
  subst hcs
  refine wpAny_execs_cons ?_
  revert X
  k_fill
  intro X
  k_with_none
  k_steps
  all_goals ((rename Fr _ _ _ _ => oF); exact ret _ _ _ oF)
end P15
section P12


set_option maxHeartbeats 8000000 in
theorem law12 (h15 : Law15) : Law12 := by
  unfold Law12
  intro w mean mg mb h₀ L fa bx c ccd s Q E G o b sp n t tb m0 v1 v2 v3 rv ro vk vb vu u Z1 Z2 B X TP F N K Ap E9 d hb hsp W1 L1 W2 L2 ret
  refine wpAny_mono (Q := Q) (E := fun _ _ => False) ?_ (fun _ _ h => h) fun _ _ h => h.elim
  generalize hcs : lawScope = cs
  conv at hcs => lhs; whnf
  subst hcs
  refine wpAny_execs_cons ?_
  revert X
  k_fill
  intro X
  k_with_none
  k_with "execs cons" => (
    k_here
    with_reducible show wpAny _ _ (execs (Stmt.Assign [PySem.Expr.Name (Str.ofString "known") _] _ _ :: _) _) _ _ _
    (rename News _ _ _ _ => oN); (rename Facts _ _ _ => oK); (rename Fr _ _ _ _ => oF); (rename Apart _ _ _ _ => oA)
    k_dflt (refine' h15 B X TP oF oN (Facts.add (Facts.add (Facts.add (Facts.add (Facts.add (Facts.add Facts.nil (oK _ ?f5)) (oK _ ?f4)) (oK _ ?f3)) (oK _ ?f2)) (oK _ ?f1)) (oK _ ?f0)) oA E9 d hb ?sp W1 L1 W2 L2 ?len ?ret)
    (case f0 => k_meth)
    (case f1 => k_meth)
    (case f2 => k_meth)
    (case f3 => k_meth)
    (case f4 => k_meth)
    (case f5 => k_meth)
    (case sp => with_reducible assumption)
    (case len => with_reducible assumption)
    case ret => (intro h' tk' m' F'; (repeat (k_unfold; (try dsimp only))); exact ret _ _ _ F'))
  k_steps
end P12
section P11


theorem pow_small {b : Nat} (hb : b ≤ 4) : (0 : Int) ≤ 2 ^ ((b : Int)).toNat ∧ (2 : Int) ^ ((b : Int)).toNat ≤ 64 := by
  have e : ((b : Int)).toNat = b := by omega
  rw [e]
  have h1 : (2 : Nat) ^ b ≤ 2 ^ 4 := Nat.pow_le_pow_right (by decide) hb
  have e2 : (2 : Int) ^ b = ((2 ^ b : Nat) : Int) := by norm_cast
  rw [e2]
  exact ⟨Int.natCast_nonneg _, by exact_mod_cast Nat.le_trans h1 (by decide)⟩
set_option maxHeartbeats 8000000 in
theorem law11 (h12 : Law12) : Law11 := by
  unfold Law11
  intro w mean mg mb h₀ L fa bx c ccd s Q E G o b sp n t tb m0 v1 v2 v3 rv ro vk vb vu Z1 Z2 B X TP F N K Ap E9 d hb hsp W1 L1 W2 L2 ret
  refine wpAny_mono (Q := Q) (E := fun _ _ => False) ?_ (fun _ _ h => h) fun _ _ h => h.elim
  generalize hcs : lawScope = cs
  conv at hcs => lhs; whnf
  subst hcs
  refine wpAny_execs_cons ?_
  revert X
  k_fill
  intro X
  k_with_none
  k_with "pyIter ref" => (
    k_here
    (rename IsRange _ _ _ _ _ _ _ _ => rgX)
    (rename News _ _ _ _ => oN); (rename Facts _ _ _ => oK); (rename Fr _ _ _ _ => oF); (rename Apart _ _ _ _ => oA)
    k_dflt (refine iter_addr (x := Str.ofString "address") (q1 := (bx, boxO c sp t n)) (q2 := (L + 1, o)) [Str.ofString "address", Str.ofString "due"] rfl rgX (small_one (by decide) (by decide) (Int.le_trans (by decide) (pow_small hb).1) (Int.lt_of_le_of_lt (pow_small hb).2 (by decide))) (rangeSize_nat _ _) (pow_size hb) hb oF oN oK oA ?turnGoal ?doneGoal)
    case' turnGoal =>
      clear oF oN oA oK
      intro Ad tA u own s₁ hA K' A' wF wN
    case' doneGoal =>
      clear oF oN
      intro u h' tk' wF wN)
  k_with "execs cons" => (
    k_here
    with_reducible show wpAny _ _ (execs (Stmt.Assign [PySem.Expr.Name (Str.ofString "some") _] _ _ :: _) _) _ _ _
    (rename News _ _ _ _ => oN); (rename Facts _ _ _ => oK); (rename Fr _ _ _ _ => oF); (rename Apart _ _ _ _ => oA)
    k_dflt (refine' h12 B X TP oF oN (Facts.add (Facts.add (Facts.add (Facts.add (Facts.add Facts.nil (oK _ ?f4)) (oK _ ?f3)) (oK _ ?f2)) (oK _ ?f1)) (oK _ ?f0)) oA E9 d hb hsp W1 L1 W2 L2 ?ret)
    (case f0 => k_meth)
    (case f1 => k_meth)
    (case f2 => k_meth)
    (case f3 => k_meth)
    (case f4 => k_meth)
    case ret => (intro h' tk' m' F'; (repeat (k_unfold; (try dsimp only))); exact ret _ _ _ F'))
  k_steps
  (rename News _ _ _ _ => oN); (rename Facts _ _ _ => oK); (rename Fr _ _ _ _ => oF)
  refine AddrEnd.intro oF oN oK ?m1 ?hm
  case m1 => k_meth
  case hm =>
    intro z h2
    have h3 : z ≠ Str.ofString "address" := by rintro rfl; exact absurd h2 (by decide)
    have h4 : z ≠ Str.ofString "due" := by rintro rfl; exact absurd h2 (by decide)
    simp only [if_neg h3, if_neg h4, h2, Bool.false_eq_true, if_false]
end P11
section P9

open PyProof.Rows.LCg PyProof.Rows.LCp PyProof.Rows.LCt
theorem bool_same {prog : Program} {w : World} {A : Around} {E : Value → Shared → Prop} {s : Shared} {Q : Value → Shared → Prop} {r q : Bool} (e : r = q) (h : Q (.bool false) s) : wpAny (model prog w) A (compareOp .NotEq (.bool r) (.bool q)) Q E s := by
  refine ne_bool ?_
  subst e
  cases r <;> exact h
theorem no_part {r q : Bool} {P R C : Prop} (h1 : r = true ↔ P) (h2 : q = true ↔ R) (e : R ↔ P) (h : (r != q) = true) : C := by
  have : r = q := Bool.eq_iff_iff.mpr (h1.trans (e.symm.trans h2.symm))
  subst this
  simp at h

local macro_rules | `(tactic| walk_at "SrcLP") => `(tactic| (k_here; (rename News _ _ _ _ => oN); (rename Facts _ _ _ => oK); (rename Fr _ _ _ _ => oF); k_dflt (refine' rows_src rfl oF oN oK (fun _ h => List.mem_cons_of_mem _ (List.mem_cons_of_mem _ (List.mem_cons_of_mem _ (List.mem_cons_of_mem _ (List.mem_cons_of_mem _ h))))) ?m1 ?hz ?hk ?hl ?hd ?_; (case m1 => k_meth); (case hz => exact all_few (by with_reducible assumption) (by with_reducible assumption) (by with_reducible assumption)); (case hk => exact fun _ => rfl); (case hl => exact fun _ => rfl); (case hd => rfl)); clear oF oN; intro D9 ys9 h9 tk9 hy9 F9 N9; (try dsimp only); (try k_fold)))
set_option maxHeartbeats 8000000 in
theorem law9 (h11 : Law11) : Law9 := by
  unfold Law9
  intro w mean mg mb h₀ L fa bx c ccd s Q E G o b sp n t tb m0 v1 v2 v3 rv ro vk vb Z1 Z2 B X TP F N K Ap E9 d hb hsp W1 L1 W2 L2 ret
  refine wpAny_mono (Q := Q) (E := fun _ _ => False) ?_ (fun _ _ h => h) fun _ _ h => h.elim
  generalize hcs : lawScope = cs
  conv at hcs => lhs; whnf
  subst hcs
  refine wpAny_execs_cons ?_
  revert X
  k_fill
  intro X
  k_with_none
  k_with "CompSrcT" => (
    k_here
    (rename News _ _ _ _ => oN); (rename Facts _ _ _ => oK); (rename Fr _ _ _ _ => oF); (rename Apart _ _ _ _ => oA)
    k_dflt (refine unlike_src (unlikeP Z2.all) rfl oF oN odd_box (odd_cell d) oK ?m1 (all_few hb W1 L1) oA (fun _ => rfl) (fun _ => rfl) rfl ?turn ?done)
    case m1 => k_meth
    case' turn =>
      clear h11
      intro v r I oI C oC D ys m₂ h tk E' hr hin hC hx F' N'
      have hl := all_len W1 L1 r hr
      obtain @⟨ra, rp, n1, n2, t1, t2, t3, x, k, rm1, rm2⟩ := hin
      clear oF oN
    case' done =>
      clear oF oN oK oA
      intro D G' h tk F' N' K' A')
  k_with "execs cons" => (
    k_here
    with_reducible show wpAny _ _ (execs (Stmt.For _ _ _ _ _ :: _) _) _ _ _
    (rename News _ _ _ _ => oN); (rename Facts _ _ _ => oK); (rename Fr _ _ _ _ => oF); (rename Apart _ _ _ _ => oA)
    k_dflt (refine' h11 B X TP oF oN (Facts.add (Facts.add (Facts.add (Facts.add (Facts.add Facts.nil (oK _ ?f4)) (oK _ ?f3)) (oK _ ?f2)) (oK _ ?f1)) (oK _ ?f0)) oA E9 d hb hsp W1 L1 W2 L2 ?ret)
    (case f0 => k_meth)
    (case f1 => k_meth)
    (case f2 => k_meth)
    (case f3 => k_meth)
    (case f4 => k_meth)
    case ret => (intro h' tk' m' F'; (repeat (k_unfold; (try dsimp only))); exact ret _ _ _ F'))
  k_with "compareOp In" => (
    k_here
    (rename News _ _ _ _ => oN); (rename Facts _ _ _ => oK)
    k_dflt (refine in_pre2 oN (by with_reducible assumption) (fun _ h => List.mem_cons_of_mem _ (List.mem_cons_of_mem _ (List.mem_cons_of_mem _ (List.mem_cons_of_mem _ (List.mem_cons_of_mem _ h))))) (.mk rm2) hb hl (by ke_room) ?_)
    (try dsimp only))
  k_dflt (refine LCt.Assign_ListComp_T (F₀ := by k_asm) (by rfl) (by with_unfolding_all rfl) (by with_unfolding_all rfl) (by decide) (by rfl) (by decide) (by rfl) (by rfl) (by rfl) ?_)
  k_steps
  · exact no_part (by assumption) (by assumption) (unlike_iff W1 W2) (by assumption)
  · k_here
    (rename News _ _ _ _ => oN); (rename Facts _ _ _ => oK)
    refine notIn_rows (rs := Z2.all) oN (fun _ h => List.mem_cons_of_mem _ (List.mem_cons_of_mem _ (List.mem_cons_of_mem _ (List.mem_cons_of_mem _ (List.mem_cons_of_mem _ (List.mem_cons_of_mem _ h)))))) (oK.rows ?m1) (.mk rm1 rm2) hb hl (by ke_room) ?_
    case m1 => k_meth
    try dsimp only
    k_steps
    all_goals (
      (rename News _ _ _ _ => oN); (rename Fr _ _ _ _ => oF)
      refine TestEnd.intro ?e oF oN ?hs
      case e => simp [unlikeP, *]
      case hs => exact fun _ h => List.mem_cons_of_mem _ h)
  · (rename News _ _ _ _ => oN); (rename Fr _ _ _ _ => oF)
    refine TestEnd.intro ?e oF oN ?hs
    · simp [unlikeP, *]
    · exact fun _ h => List.mem_cons_of_mem _ h
end P9
section P4


set_option maxHeartbeats 8000000 in
theorem law4 (h9 : Law9) : Law4 := by
  unfold Law4
  intro w mean mg mb h₀ L fa bx c ccd s Q E G o b sp n t tb m0 v1 v2 v3 rv ro Z1 Z2 Z3 B X TP F N K Ap E9 d hb hsp W1 L1 W2 L2 W3 L3 ret
  refine wpAny_mono (Q := Q) (E := fun _ _ => False) ?_ (fun _ _ h => h) fun _ _ h => h.elim
  generalize hcs : lawScope = cs
  conv at hcs => lhs; whnf
  subst hcs
  refine wpAny_execs_cons ?_
  revert X
  k_fill
  intro X
  k_with_none
  k_with "execs cons" => (
    k_here
    with_reducible show wpAny _ _ (execs (Stmt.Assign _ (PySem.Expr.ListComp _ _ _ _) _ :: _) _) _ _ _
    (rename News _ _ _ _ => oN); (rename Facts _ _ _ => oK); (rename Fr _ _ _ _ => oF); (rename Apart _ _ _ _ => oA)
    k_dflt (refine' h9 B X TP oF oN (Facts.add (Facts.add (Facts.add (Facts.add (Facts.add (Facts.add (Facts.add Facts.nil (oK _ ?f6)) (oK _ ?f5)) (oK _ ?f4)) (oK _ ?f3)) (oK _ ?f2)) (oK _ ?f1)) (oK _ ?f0)) oA E9 d hb hsp W1 L1 W2 L2 ?ret)
    (case f0 => k_meth)
    (case f1 => k_meth)
    (case f2 => k_meth)
    (case f3 => k_meth)
    (case f4 => k_meth)
    (case f5 => k_meth)
    (case f6 => k_meth)
    case ret => (intro h' tk' m' F'; (repeat (k_unfold; (try dsimp only))); exact ret _ _ _ F'))
  k_steps
end P4
section P0

/-! ## the law up to its tables -/
section
variable {w : World} {mean : ExcName → Option Value} {mg mb : Str → Option Value} {dp un : Nat} {gd : Option (List Code)} {cn : Str} {cs : Scope} {a : Addr} {ccd : Value} {cl : List (Str × Addr)} {outer : List Env} {A₀ : Around} {base h₀ : Heap} {L : Addr}
    {m : Str → Option Value} {news : Led} {s : Shared} {Q E : Value → Shared → Prop} {bx c : Addr} {sp n b : Nat} {t tm : Tok}
theorem use_draw0 {many : Int} {vs : List Value} {cn' : Nat} {ns : List Int}
    (B : Below A₀ base outer h₀) (F : Fr h₀ L s.heap m) (X : (hd.heap_39 w.params).In h₀) (N : News h₀ L s.heap ((bx, listOf #[.ref c, .int 0 t] n) :: news)) (T : Top hd.view_39 (looseW hd.view_39 []) mean mg mb h₀) (hk : cs.kind = .function)
    (hc : (c, listOf (List.toArray vs) cn') ∈ news) (hi : IntsAre vs ns) (hl : ns.length ≤ 40) (ha : ∀ p ∈ news, p.1 ≠ bx)
    (h0 : 0 < many) (h1 : many ≤ 64) (hd : dp + 1 < recursionLimit) (hu : un + 8 < cLine)
    (ret : ∀ (k : Nat) u sp' t' n' h' tk', (k : Int) < many → sp' ≤ 1 → Fr h₀ L h' m → News h₀ L h' ((bx, boxO c sp' t' n') :: news) → Q (.int k u) { s with heap := h', toks := tk' }) :
    wpAny (model PySem.Challenge.rw_sj0172_01.row.prog w) (ktrTop dp un gd cn cs L a ccd cl outer) (call (.ref 98) [.ref bx, .int many tm]) Q E s :=
  use_draw (sp := 0) (t := t) (n := n) (c := c) (bx := bx) B F X N ⟨⟨vs, cn', ns, hc, hi, hl⟩, ha⟩ T hk h0 h1 (by decide) hd hu fun k u sp' t' n' h' tk' a1 _ a3 a4 a5 => ret k u sp' t' n' h' tk' a1 (by omega) a4 a5
theorem law_norm {h : Heap} {vs : List Value} {ns : List Int} {cn' : Nat} {d cc : Addr} {od o : Obj} {b : Nat} (N : News h₀ L h [(bx, boxO c sp t n), (c, listOf (List.toArray vs) cn'), (d, od), (cc, o)]) (hi : IntsAre vs ns) (hl : ns.length ≤ 40)
    (h1 : d < c ∧ cc < c) (h2 : c < bx ∧ d < bx ∧ cc < bx) (h3 : cc < d) : ∃ G, News h₀ L h ((bx, boxO c sp t n) :: (cc, o) :: G) ∧ Facts G b [.nums c, .tree .none .nil] ∧ Apart [bx, cc] bx cc G ∧ bx ≠ cc := by
  refine ⟨[(c, listOf (List.toArray vs) cn'), (d, od)], fun p hp => N p ?_, ?_, ⟨?_, ?_⟩, Ne.symm (Nat.ne_of_lt h2.2.2)⟩
  · simp only [List.mem_cons, List.not_mem_nil, or_false] at hp ⊢
    rcases hp with h | h | h | h <;> simp [h]
  · exact (Facts.add (Facts.add Facts.nil TIn.nil) ⟨vs, cn', ns, .head _, hi, hl⟩)
  · intro a ha
    simpa using ha
  · intro a ha p hp
    simp only [List.mem_cons, List.not_mem_nil, or_false] at ha hp
    rcases ha with rfl | rfl <;> rcases hp with rfl | rfl
    · exact Nat.ne_of_lt h2.1
    · exact Nat.ne_of_lt h2.2.1
    · exact Nat.ne_of_gt h1.2
    · exact Nat.ne_of_gt h3
end
theorem sub4 {prog : Program} {w : World} {A : Around} {E : Value → Shared → Prop} {s : Shared} {k : Nat} {t u : Tok} {Q : Value → Shared → Prop} (hk : (k : Int) < 2) (h : ∀ b : Nat, b ≤ 4 → Q (.int (b : Int) s.toks) { s with toks := s.toks + 1 }) :
    wpAny (model prog w) A (binaryOp .Sub (.int 4 t) (.int (k : Int) u)) Q E s := by
  have e : ((4 - k : Nat) : Int) = 4 - (k : Int) := by omega
  have := h (4 - k) (by omega)
  rw [e] at this
  exact sub_int this
theorem law_sub {b : Nat} {m : Str → Option Value} {h₀ h : Heap} {L : Addr} (F : Fr h₀ L h m) : Fr h₀ L h m := F

local macro_rules | `(tactic| k_all) => `(tactic| first
  | exact List.forall_mem_nil _
  | (refine List.forall_mem_cons.mpr ⟨by (dsimp only; omega), ?_⟩; k_all)
  | fail "k_all: not told")
local macro_rules | `(tactic| walk_at "call ref") => `(tactic| (k_here; k_dflt (refine' use_draw0 ?k1 ?k2 ?k3 ?k4 ?k5 ?kK ?hc ?hi ?hl ?ha ?h0 ?h1 ?kd ?ku ?_; (case k1 => k_asm); (case k2 => k_asm); (case k3 => k_asm); (case k4 => k_asm); (case k5 => k_asm); (case kK => first | exact rfl | with_reducible assumption); (case hc => k_meth); (case hi => with_reducible assumption); (case hl => omega); (case ha => k_all); (case h0 => decide); (case h1 => decide); (case kd => exact Nat.le_of_ble_eq_true rfl); (case ku => exact Nat.le_of_ble_eq_true rfl)); intro k9 u9 sp9 t9 n9 h9 tk9 hk9 hs9 F9 N9; (try dsimp only); (try k_fold)))
local macro_rules | `(tactic| walk_at "binaryOp Sub int int") => `(tactic| (k_here; (with_reducible refine sub4 (by with_reducible assumption) ?_); intro b9 hb9; (rename News _ _ _ _ => oN); (obtain ⟨G9, N9, K9, A9, E9⟩ := law_norm (b := b9) oN (by with_reducible assumption) (by omega) (by with_reducible assumption) (by with_reducible assumption) (by with_reducible assumption)); (try dsimp only)))
set_option maxHeartbeats 8000000 in
theorem law0 (h4 : Law4) : PySem.Challenge.rw_sj0172_01.Holds := by
  apply hd
  k_with_none
  k_with "execs cons" => (
    k_here
    with_reducible show wpAny _ _ (execs (Stmt.Assign [PySem.Expr.Name (Str.ofString "both") _] _ _ :: _) _) _ _ _
    (rename News _ _ _ _ => oN); (rename Facts _ _ _ => oK); (rename Fr _ _ _ _ => oF); (rename Apart _ _ _ _ => oA)
    k_dflt (refine' h4 ?B ?X ?TP oF oN oK oA ?ne ?d ?hb ?sp ?w1 ?l1 ?w2 ?l2 ?w3 ?l3 ?ret)
    (case B => with_reducible assumption)
    (case X => with_reducible assumption)
    (case TP => with_reducible assumption)
    (case ne => with_reducible assumption)
    (case d => with_reducible assumption)
    (case hb => with_reducible assumption)
    (case sp => k_dflt (assumption))
    (case w1 => with_reducible assumption)
    (case l1 => with_reducible assumption)
    (case w2 => with_reducible assumption)
    (case l2 => with_reducible assumption)
    (case w3 => with_reducible assumption)
    (case l3 => with_reducible assumption)
    case' ret => intro h' tk' m' F')
  k_go0
  all_goals try k_fold
  k_steps
end P0
end pieces
end Mine
set_option maxRecDepth 100000 in
set_option maxHeartbeats 4000000 in
theorem PySem.Challenge.cw_sj0172_01_holds : PySem.Challenge.rw_sj0172_01.Holds :=
  Mine.law0 (Mine.law4 (Mine.law9 (Mine.law11 (Mine.law12 Mine.law15))))
