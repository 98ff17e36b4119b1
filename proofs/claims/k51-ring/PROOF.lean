import PyProof.Rows.All
import Wide.All
import OpenK.AllK
import Wide.FinOn
import HandS.ForMost
import HandS.Deep
import HandS.TupAny
import HandS.IsInst
import HandS.Walk
import HandS.Codes
import HandS.SetBool
import HandS.SetFor
import HandS.Strs
import PySem.Challenge.RW_whomaywhat_k51_whole_ring_or_numbers
set_option linter.all false
set_option autoImplicit false
/-! The mathematics of bounds, ways and rings: no program in sight. -/
namespace WM
/-! ### tables -/
section
variable {κ β : Type} [DecidableEq κ]
def getT (W : List (κ × β)) (k : κ) : Option β := (W.find? fun e => decide (e.1 = k)).map (·.2)
def putT (W : List (κ × β)) (k : κ) (v : β) : List (κ × β) :=
  if (W.any fun e => decide (e.1 = k)) = true then W.map (fun e => if e.1 = k then (e.1, v) else e) else W ++ [(k, v)]
theorem getT_nil {k : κ} : getT ([] : List (κ × β)) k = none := rfl
theorem getT_pos {p : κ × β} {r : List (κ × β)} {k : κ} (e : p.1 = k) : getT (p :: r) k = some p.2 := by simp [getT, List.find?_cons, e]
theorem getT_neg {p : κ × β} {r : List (κ × β)} {k : κ} (e : ¬ p.1 = k) : getT (p :: r) k = getT r k := by simp [getT, List.find?_cons, e]
theorem getT_any (k : κ) : ∀ W : List (κ × β), (W.any fun e => decide (e.1 = k)) = (getT W k).isSome
  | [] => rfl
  | p :: r => by
    rw [List.any_cons]
    by_cases e : p.1 = k
    · simp [getT_pos e, e]
    · rw [getT_neg e, getT_any k r]; simp [e]
theorem getT_map (k j : κ) (y : β) : ∀ W : List (κ × β), getT (W.map fun e => if e.1 = k then (e.1, y) else e) j = (getT W j).map fun x => if j = k then y else x
  | [] => rfl
  | p :: r => by
    rw [List.map_cons]
    have h1 : (if p.1 = k then (p.1, y) else p).1 = p.1 := by split <;> rfl
    by_cases e : p.1 = j
    · rw [getT_pos (by rw [h1]; exact e), getT_pos e]
      subst e
      by_cases q : p.1 = k <;> simp [q]
    · rw [getT_neg (by rw [h1]; exact e), getT_neg e, getT_map k j y r]
theorem getT_snoc (k j : κ) (y : β) : ∀ W : List (κ × β), getT W k = none → getT (W ++ [(k, y)]) j = if j = k then some y else getT W j
  | [], _ => by
    by_cases e : k = j
    · rw [if_pos e.symm]; exact getT_pos (p := (k, y)) e
    · rw [if_neg (fun z => e z.symm)]; exact getT_neg (p := (k, y)) e
  | p :: r, h => by
    have hk : ¬ p.1 = k := fun e => by rw [getT_pos e] at h; cases h
    rw [getT_neg hk] at h
    rw [List.cons_append]
    by_cases e : p.1 = j
    · rw [getT_pos e, getT_pos e, if_neg (fun z => hk (e.trans z))]
    · rw [getT_neg e, getT_neg e, getT_snoc k j y r h]
theorem getT_put (W : List (κ × β)) (k j : κ) (y : β) : getT (putT W k y) j = if j = k then some y else getT W j := by
  unfold putT
  rw [getT_any]
  cases h : getT W k with
  | none =>
    simp only [Option.isSome_none, Bool.false_eq_true, ↓reduceIte]
    exact getT_snoc k j y W h
  | some v =>
    simp only [Option.isSome_some, ↓reduceIte]
    rw [getT_map]
    by_cases e : j = k
    · subst e; simp [h]
    · simp [e]
theorem getT_mem {W : List (κ × β)} {k : κ} {v : β} (h : getT W k = some v) : (k, v) ∈ W := by
  unfold getT at h
  obtain ⟨p, hp, e⟩ := Option.map_eq_some_iff.mp h
  have h1 := List.mem_of_find?_eq_some hp
  have h2 := List.find?_some hp
  have h3 : p.1 = k := of_decide_eq_true h2
  obtain ⟨a, b⟩ := p
  subst h3; subst e
  exact h1
theorem getT_none {W : List (κ × β)} {k : κ} (h : getT W k = none) : k ∉ W.map (·.1) := by
  intro hm
  obtain ⟨p, hp, e⟩ := List.mem_map.mp hm
  unfold getT at h
  rw [Option.map_eq_none_iff, List.find?_eq_none] at h
  exact h p hp (decide_eq_true e)
theorem getT_of_mem : ∀ {W : List (κ × β)} {k : κ} {v : β}, (W.map (·.1)).Nodup → (k, v) ∈ W → getT W k = some v
  | p :: r, k, v, nd, h => by
    rw [List.map_cons, List.nodup_cons] at nd
    rcases List.mem_cons.mp h with e | e
    · subst e; exact getT_pos rfl
    · rw [getT_neg (fun z => nd.1 (List.mem_map.mpr ⟨_, e, z.symm⟩))]
      exact getT_of_mem nd.2 e
theorem putT_keys (W : List (κ × β)) (k : κ) (v : β) : (putT W k v).map (·.1) = if k ∈ W.map (·.1) then W.map (·.1) else W.map (·.1) ++ [k] := by
  unfold putT
  rw [getT_any]
  cases h : getT W k with
  | none =>
    simp only [Option.isSome_none, Bool.false_eq_true, ↓reduceIte]
    rw [if_neg (getT_none h), List.map_append]
    rfl
  | some u =>
    simp only [Option.isSome_some, ↓reduceIte]
    have hm : k ∈ W.map (·.1) := List.mem_map.mpr ⟨_, getT_mem h, rfl⟩
    rw [if_pos hm, List.map_map]
    apply List.map_congr_left
    intro p _
    show (if p.1 = k then (p.1, v) else p).1 = p.1
    split <;> rfl
theorem putT_nodup {W : List (κ × β)} {k : κ} {v : β} (nd : (W.map (·.1)).Nodup) : ((putT W k v).map (·.1)).Nodup := by
  rw [putT_keys]
  split
  · exact nd
  · rename_i h
    rw [List.nodup_append]
    refine ⟨nd, by simp, fun a ha b hb e => ?_⟩
    have : b = k := by simpa using hb
    subst this; subst e
    exact h ha
end

/-- a list without duplicates inside another is not longer -/
theorem nodup_len {α : Type} [DecidableEq α] : ∀ (l m : List α), l.Nodup → (∀ x ∈ l, x ∈ m) → l.length ≤ m.length
  | [], _, _, _ => Nat.zero_le _
  | x :: l, m, nd, h => by
    rw [List.nodup_cons] at nd
    have hx : x ∈ m := h x List.mem_cons_self
    have h2 := nodup_len l (m.erase x) nd.2 fun y hy => by
      have : y ≠ x := fun e => nd.1 (e ▸ hy)
      exact (List.mem_erase_of_ne this).mpr (h y (List.mem_cons_of_mem _ hy))
    rw [List.length_erase_of_mem hx] at h2
    have : 0 < m.length := List.length_pos_of_mem hx
    rw [List.length_cons]
    omega

/-! ### bounds, paths -/
section
variable {α : Type} [DecidableEq α]
/-- the bounds bs, at the places p, lead from x to y; their sum is c -/
inductive Path (bs : List (α × α × Int)) : α → List Nat → α → Int → Prop where
  | one {i : Nat} {x y : α} {c : Int} : bs[i]? = some (x, y, c) → Path bs x [i] y c
  | app {x y z : α} {p q : List Nat} {c d : Int} : Path bs x p y c → Path bs y q z d → Path bs x (p ++ q) z (c + d)
/-- a value for each name that meets all bounds -/
def Meets (bs : List (α × α × Int)) (val : α → Int) : Prop := ∀ b ∈ bs, val b.1 - val b.2.1 ≤ b.2.2
def Feas (bs : List (α × α × Int)) : Prop := ∃ val : α → Int, Meets bs val
theorem Path.sound {bs : List (α × α × Int)} {val : α → Int} (m : Meets bs val) {x y : α} {p : List Nat} {c : Int} (h : Path bs x p y c) : val x - val y ≤ c := by
  induction h with
  | one e => exact m _ (List.mem_of_getElem? e)
  | app _ _ ih1 ih2 => omega
theorem Path.ne {bs : List (α × α × Int)} {x y : α} {p : List Nat} {c : Int} (h : Path bs x p y c) : p ≠ [] := by
  induction h with
  | one e => simp
  | app _ _ ih1 ih2 => simp [ih1]
theorem Path.lt {bs : List (α × α × Int)} {x y : α} {p : List Nat} {c : Int} (h : Path bs x p y c) : ∀ i ∈ p, i < bs.length := by
  induction h with
  | @one i x y c e =>
    intro j hj
    have : j = i := by simpa using hj
    subst this
    exact (List.getElem?_eq_some_iff.mp e).1
  | app _ _ ih1 ih2 =>
    intro j hj
    rcases List.mem_append.mp hj with h | h
    · exact ih1 j h
    · exact ih2 j h
theorem Path.ends {bs : List (α × α × Int)} {x y : α} {p : List Nat} {c : Int} (h : Path bs x p y c) : x ∈ bs.map (·.1) ∧ y ∈ bs.map (·.2.1) := by
  induction h with
  | one e => exact ⟨List.mem_map.mpr ⟨_, List.mem_of_getElem? e, rfl⟩, List.mem_map.mpr ⟨_, List.mem_of_getElem? e, rfl⟩⟩
  | app _ _ ih1 ih2 => exact ⟨ih1.1, ih2.2⟩
theorem Path.mono {bs : List (α × α × Int)} (more : List (α × α × Int)) {x y : α} {p : List Nat} {c : Int} (h : Path bs x p y c) : Path (bs ++ more) x p y c := by
  induction h with
  | one e => exact .one (by rw [List.getElem?_append_left (List.getElem?_eq_some_iff.mp e).1]; exact e)
  | app _ _ ih1 ih2 => exact .app ih1 ih2
/-- a row of bounds from x to y -/
def Chn : α → List (α × α × Int) → α → Prop
  | x, [], y => x = y
  | x, b :: r, y => b.1 = x ∧ Chn b.2.1 r y
theorem Chn.append : ∀ {l m : List (α × α × Int)} {x y z : α}, Chn x l y → Chn y m z → Chn x (l ++ m) z
  | [], m, x, y, z, h, k => by
    have e : x = y := h
    subst e; exact k
  | b :: r, m, x, y, z, h, k => ⟨h.1, Chn.append h.2 k⟩
theorem Path.row {bs : List (α × α × Int)} {x y : α} {p : List Nat} {c : Int} (h : Path bs x p y c) :
    ∃ l, p.map (fun i => bs[i]?) = l.map some ∧ Chn x l y ∧ (l.map (·.2.2)).sum = c := by
  induction h with
  | @one i x y c e => exact ⟨[(x, y, c)], by simp [e], ⟨rfl, rfl⟩, by simp⟩
  | app _ _ ih1 ih2 =>
    obtain ⟨l, e1, c1, s1⟩ := ih1
    obtain ⟨m, e2, c2, s2⟩ := ih2
    exact ⟨l ++ m, by rw [List.map_append, List.map_append, e1, e2], c1.append c2, by rw [List.map_append, List.sum_append, s1, s2]⟩
theorem Chn.next : ∀ {l : List (α × α × Int)} {x y : α}, Chn x l y → ∀ (i : Nat) (a b : α × α × Int), l[i]? = some a → l[i + 1]? = some b → a.2.1 = b.1
  | [], _, _, _, i, a, b, h, _ => by simp at h
  | [c], x, y, _, i, a, b, _, h => by simp at h
  | c :: d :: r, x, y, h, 0, a, b, ha, hb => by
    simp at ha hb
    subst ha; subst hb
    exact h.2.1.symm
  | c :: d :: r, x, y, h, i + 1, a, b, ha, hb => by
    simp only [List.getElem?_cons_succ] at ha hb
    exact Chn.next h.2 i a b ha (by simpa using hb)
theorem Chn.first {l : List (α × α × Int)} {x y : α} (h : Chn x l y) {a : α × α × Int} (ha : l[0]? = some a) : a.1 = x := by
  cases l with
  | nil => simp at ha
  | cons b r =>
    simp at ha
    subst ha
    exact h.1
theorem Chn.last : ∀ {l : List (α × α × Int)} {x y : α}, Chn x l y → ∀ {a : α × α × Int}, l[l.length - 1]? = some a → a.2.1 = y
  | [], _, _, _, a, h => by simp at h
  | [c], x, y, h, a, ha => by
    simp at ha
    subst ha
    exact h.2
  | c :: d :: r, x, y, h, a, ha => by
    refine Chn.last (l := d :: r) h.2 (a := a) ?_
    simpa using ha

/-! ### ways -/
abbrev Way := Int × List Nat
abbrev Ways (α : Type) := List ((α × α) × Way)
def dist (W : Ways α) (x y : α) : Option Int := (getT W (x, y)).map (·.1)
/-- (x, y) gets the way w where none stands there or a longer one -/
def relax (W : Ways α) (x y : α) (w : Way) : Ways α :=
  match getT W (x, y) with
  | none => putT W (x, y) w
  | some u => if w.1 < u.1 then putT W (x, y) w else W
theorem getT_relax (W : Ways α) (x y : α) (w : Way) (k : α × α) : getT (relax W x y w) k = if k = (x, y) then (match getT W (x, y) with | none => some w | some u => if w.1 < u.1 then some w else some u) else getT W k := by
  unfold relax
  cases h : getT W (x, y) with
  | none => simp only; rw [getT_put]
  | some u =>
    dsimp only
    by_cases c : w.1 < u.1
    · simp only [c, ↓reduceIte]; rw [getT_put]
    · simp only [c, ↓reduceIte]
      split
      · rename_i e; rw [e, h]
      · rfl
theorem relax_nodup {W : Ways α} {x y : α} {w : Way} (nd : (W.map (·.1)).Nodup) : ((relax W x y w).map (·.1)).Nodup := by
  unfold relax
  split
  · exact putT_nodup nd
  · split
    · exact putT_nodup nd
    · exact nd
theorem relax_mem {W : Ways α} {x y : α} {w : Way} (nd : (W.map (·.1)).Nodup) {e : (α × α) × Way} (h : e ∈ relax W x y w) : e ∈ W ∨ e = ((x, y), w) := by
  obtain ⟨k, v⟩ := e
  have g := getT_of_mem (relax_nodup nd) h
  rw [getT_relax] at g
  split at g
  · rename_i ek
    subst ek
    cases q : getT W (x, y) with
    | none =>
      rw [q] at g
      have : w = v := Option.some.inj g
      rw [this]; exact .inr rfl
    | some u =>
      rw [q] at g
      dsimp only at g
      split at g
      · have : w = v := Option.some.inj g
        rw [this]; exact .inr rfl
      · have : u = v := Option.some.inj g
        subst this
        exact .inl (getT_mem q)
  · exact .inl (getT_mem g)
/-- distances only fall, and the new one is no greater than w -/
theorem dist_relax_le {W : Ways α} {x y : α} {w : Way} {a b : α} {c : Int} (h : dist W a b = some c) : ∃ c', c' ≤ c ∧ dist (relax W x y w) a b = some c' := by
  unfold dist at h ⊢
  obtain ⟨u, hu, e⟩ := Option.map_eq_some_iff.mp h
  rw [getT_relax]
  by_cases q : (a, b) = (x, y)
  · rw [if_pos q]
    rw [q] at hu
    rw [hu]
    dsimp only
    by_cases l : w.1 < u.1
    · rw [if_pos l]; exact ⟨w.1, by omega, rfl⟩
    · rw [if_neg l]; exact ⟨u.1, by omega, rfl⟩
  · rw [if_neg q, hu]
    exact ⟨c, Int.le_refl _, by simp [e]⟩
theorem dist_relax_new (W : Ways α) (x y : α) (w : Way) : ∃ c', c' ≤ w.1 ∧ dist (relax W x y w) x y = some c' := by
  unfold dist
  rw [getT_relax, if_pos rfl]
  cases q : getT W (x, y) with
  | none => exact ⟨w.1, Int.le_refl _, rfl⟩
  | some u =>
    dsimp only
    by_cases l : w.1 < u.1
    · rw [if_pos l]; exact ⟨w.1, by omega, rfl⟩
    · rw [if_neg l]; exact ⟨u.1, by omega, rfl⟩
theorem dist_relax_of {W : Ways α} {x y : α} {w : Way} {a b : α} {c : Int} (h : dist (relax W x y w) a b = some c) : dist W a b = some c ∨ (a = x ∧ b = y ∧ c = w.1) := by
  unfold dist at h ⊢
  rw [getT_relax] at h
  by_cases q : (a, b) = (x, y)
  · rw [if_pos q] at h
    injection q with q1 q2
    subst q1; subst q2
    cases r : getT W (a, b) with
    | none =>
      rw [r] at h
      simp at h
      exact .inr ⟨rfl, rfl, h.symm⟩
    | some u =>
      rw [r] at h
      dsimp only at h
      split at h
      · simp at h; exact .inr ⟨rfl, rfl, h.symm⟩
      · simp at h; exact .inl (by simp [h])
  · rw [if_neg q] at h
    exact .inl h

/-! ### the single ways -/
def singles (bs : List (α × α × Int)) (n : Nat) : Ways α :=
  (List.range n).foldl (fun W i => match bs[i]? with | some b => relax W b.1 b.2.1 (b.2.2, [i]) | none => W) []
theorem singles_succ (bs : List (α × α × Int)) (n : Nat) : singles bs (n + 1) = match bs[n]? with | some b => relax (singles bs n) b.1 b.2.1 (b.2.2, [n]) | none => singles bs n := by
  unfold singles
  rw [List.range_succ, List.foldl_append]
  rfl
/-- what holds of the ways behind the turns of ms: k bounds the indexes' number -/
structure Good (bs : List (α × α × Int)) (W : Ways α) (k : Nat) : Prop where
  nd : (W.map (·.1)).Nodup
  path : ∀ e ∈ W, Path bs e.1.1 e.2.2 e.1.2 e.2.1 ∧ e.2.2.length ≤ k
theorem singles_ok (bs : List (α × α × Int)) : ∀ n, Good bs (singles bs n) 1 ∧ ∀ i, i < n → ∀ b, bs[i]? = some b → ∃ c, c ≤ b.2.2 ∧ dist (singles bs n) b.1 b.2.1 = some c := by
  intro n
  induction n with
  | zero => exact ⟨⟨by simp [singles], fun e he => by simp [singles] at he⟩, fun i hi => absurd hi (Nat.not_lt_zero _)⟩
  | succ n ih =>
    obtain ⟨g, low⟩ := ih
    rw [singles_succ]
    cases h : bs[n]? with
    | none =>
      refine ⟨g, fun i hi b hb => ?_⟩
      rcases Nat.lt_succ_iff_lt_or_eq.mp hi with l | l
      · exact low i l b hb
      · subst l; rw [h] at hb; cases hb
    | some b =>
      dsimp only
      refine ⟨⟨relax_nodup g.nd, fun e he => ?_⟩, fun i hi b' hb' => ?_⟩
      · rcases relax_mem g.nd he with z | z
        · exact g.path e z
        · subst z; exact ⟨.one h, Nat.le_refl _⟩
      · rcases Nat.lt_succ_iff_lt_or_eq.mp hi with l | l
        · obtain ⟨c, hc, hd⟩ := low i l b' hb'
          obtain ⟨c', hc', hd'⟩ := dist_relax_le (x := b.1) (y := b.2.1) (w := (b.2.2, [n])) hd
          exact ⟨c', by omega, hd'⟩
        · subst l
          rw [h] at hb'
          cases hb'
          exact dist_relax_new (singles bs i) b.1 b.2.1 (b.2.2, [i])

/-! ### going through a name -/
def before (W : Ways α) (m : α) : List (α × Way) := (W.filter fun e => decide (e.1.2 = m) && !decide (e.1.1 = m)).map fun e => (e.1.1, e.2)
def behind (W : Ways α) (m : α) : List (α × Way) := (W.filter fun e => decide (e.1.1 = m) && !decide (e.1.2 = m)).map fun e => (e.1.2, e.2)
def joined (f s : Way) : Way := (f.1 + s.1, f.2 ++ s.2)
def inner (W : Ways α) (a : α × Way) (zs : List (α × Way)) : Ways α := zs.foldl (fun W b => relax W a.1 b.1 (joined a.2 b.2)) W
def outer (W : Ways α) (as zs : List (α × Way)) : Ways α := as.foldl (fun W a => inner W a zs) W
def through (W : Ways α) (m : α) : Ways α := outer W (before W m) (behind W m)
theorem mem_before {W : Ways α} {m : α} {a : α × Way} : a ∈ before W m ↔ ((a.1, m), a.2) ∈ W ∧ a.1 ≠ m := by
  unfold before
  rw [List.mem_map]
  constructor
  · rintro ⟨e, he, rfl⟩
    rw [List.mem_filter] at he
    obtain ⟨he, q⟩ := he
    simp at q
    obtain ⟨⟨x, y⟩, w⟩ := e
    obtain ⟨q1, q2⟩ := q
    simp at q1 q2
    subst q1
    exact ⟨he, q2⟩
  · rintro ⟨h, q⟩
    refine ⟨_, List.mem_filter.mpr ⟨h, ?_⟩, rfl⟩
    simp [q]
theorem mem_behind {W : Ways α} {m : α} {a : α × Way} : a ∈ behind W m ↔ ((m, a.1), a.2) ∈ W ∧ a.1 ≠ m := by
  unfold behind
  rw [List.mem_map]
  constructor
  · rintro ⟨e, he, rfl⟩
    rw [List.mem_filter] at he
    obtain ⟨he, q⟩ := he
    simp at q
    obtain ⟨⟨x, y⟩, w⟩ := e
    obtain ⟨q1, q2⟩ := q
    simp at q1 q2
    subst q1
    exact ⟨he, q2⟩
  · rintro ⟨h, q⟩
    refine ⟨_, List.mem_filter.mpr ⟨h, ?_⟩, rfl⟩
    simp [q]
theorem inner_fold {P : Ways α → Prop} {a : α × Way} : ∀ {zs : List (α × Way)} {W : Ways α}, P W → (∀ W b, b ∈ zs → P W → P (relax W a.1 b.1 (joined a.2 b.2))) → P (inner W a zs)
  | [], _, h, _ => h
  | z :: zs, W, h, st => inner_fold (zs := zs) (W := relax W a.1 z.1 (joined a.2 z.2)) (st W z List.mem_cons_self h) fun W b hb p => st W b (List.mem_cons_of_mem _ hb) p
theorem outer_fold {P : Ways α → Prop} {zs : List (α × Way)} : ∀ {as : List (α × Way)} {W : Ways α}, P W → (∀ W a b, a ∈ as → b ∈ zs → P W → P (relax W a.1 b.1 (joined a.2 b.2))) → P (outer W as zs)
  | [], _, h, _ => h
  | a :: as, W, h, st => outer_fold (as := as) (W := inner W a zs) (inner_fold h fun W b hb p => st W a b List.mem_cons_self hb p) fun W a b ha hb p => st W a b (List.mem_cons_of_mem _ ha) hb p
theorem inner_le {W : Ways α} {a : α × Way} {zs : List (α × Way)} {x y : α} {c : Int} (h : dist W x y = some c) : ∃ c', c' ≤ c ∧ dist (inner W a zs) x y = some c' := by
  refine inner_fold (P := fun W => ∃ c', c' ≤ c ∧ dist W x y = some c') ⟨c, Int.le_refl _, h⟩ fun W b _ ⟨c', h1, h2⟩ => ?_
  obtain ⟨c2, h3, h4⟩ := dist_relax_le (x := a.1) (y := b.1) (w := joined a.2 b.2) h2
  exact ⟨c2, by omega, h4⟩
theorem outer_le {W : Ways α} {as zs : List (α × Way)} {x y : α} {c : Int} (h : dist W x y = some c) : ∃ c', c' ≤ c ∧ dist (outer W as zs) x y = some c' := by
  refine outer_fold (P := fun W => ∃ c', c' ≤ c ∧ dist W x y = some c') ⟨c, Int.le_refl _, h⟩ fun W a b _ _ ⟨c', h1, h2⟩ => ?_
  obtain ⟨c2, h3, h4⟩ := dist_relax_le (x := a.1) (y := b.1) (w := joined a.2 b.2) h2
  exact ⟨c2, by omega, h4⟩
theorem inner_new : ∀ {zs : List (α × Way)} {W : Ways α} {a b : α × Way}, b ∈ zs → ∃ c, c ≤ a.2.1 + b.2.1 ∧ dist (inner W a zs) a.1 b.1 = some c
  | z :: zs, W, a, b, h => by
    rcases List.mem_cons.mp h with e | e
    · subst e
      obtain ⟨c, h1, h2⟩ := dist_relax_new W a.1 b.1 (joined a.2 b.2)
      obtain ⟨c', h3, h4⟩ := inner_le (a := a) (zs := zs) h2
      have h1' : c ≤ a.2.1 + b.2.1 := h1
      exact ⟨c', by omega, h4⟩
    · exact inner_new (zs := zs) (W := relax W a.1 z.1 (joined a.2 z.2)) e
theorem outer_new : ∀ {as : List (α × Way)} {zs : List (α × Way)} {W : Ways α} {a b : α × Way}, a ∈ as → b ∈ zs → ∃ c, c ≤ a.2.1 + b.2.1 ∧ dist (outer W as zs) a.1 b.1 = some c
  | a0 :: as, zs, W, a, b, ha, hb => by
    rcases List.mem_cons.mp ha with e | e
    · subst e
      obtain ⟨c, h1, h2⟩ := inner_new (W := W) (a := a) hb
      obtain ⟨c', h3, h4⟩ := outer_le (as := as) (zs := zs) h2
      exact ⟨c', by omega, h4⟩
    · exact outer_new (as := as) (zs := zs) (W := inner W a0 zs) e hb
theorem dist_of_mem {W : Ways α} (nd : (W.map (·.1)).Nodup) {x y : α} {w : Way} (h : ((x, y), w) ∈ W) : dist W x y = some w.1 := by
  unfold dist; rw [getT_of_mem nd h]; rfl
theorem mem_of_dist {W : Ways α} {x y : α} {c : Int} (h : dist W x y = some c) : ∃ p, ((x, y), (c, p)) ∈ W := by
  unfold dist at h
  obtain ⟨u, hu, e⟩ := Option.map_eq_some_iff.mp h
  obtain ⟨c', p⟩ := u
  have e' : c' = c := e
  subst e'
  exact ⟨p, getT_mem hu⟩
/-- the new ways: what stood, or two that meet at m -/
theorem through_mem {W : Ways α} (nd : (W.map (·.1)).Nodup) {m : α} : ((through W m).map (·.1)).Nodup ∧ ∀ e ∈ through W m, e ∈ W ∨ (e.1.1 ≠ m ∧ e.1.2 ≠ m ∧ ∃ f s, ((e.1.1, m), f) ∈ W ∧ ((m, e.1.2), s) ∈ W ∧ e.2 = joined f s) := by
  refine outer_fold (P := fun V => (V.map (·.1)).Nodup ∧ ∀ e ∈ V, e ∈ W ∨ (e.1.1 ≠ m ∧ e.1.2 ≠ m ∧ ∃ f s, ((e.1.1, m), f) ∈ W ∧ ((m, e.1.2), s) ∈ W ∧ e.2 = joined f s)) ⟨nd, fun e he => .inl he⟩ fun V a b ha hb ⟨h1, h2⟩ => ⟨relax_nodup h1, fun e he => ?_⟩
  rcases relax_mem h1 he with z | z
  · exact h2 e z
  · subst z
    obtain ⟨a1, a2⟩ := mem_before.mp ha
    obtain ⟨b1, b2⟩ := mem_behind.mp hb
    exact .inr ⟨a2, b2, a.2, b.2, a1, b1, rfl⟩
theorem through_good {bs : List (α × α × Int)} {W : Ways α} {k : Nat} (g : Good bs W k) (m : α) : Good bs (through W m) (2 * k) := by
  obtain ⟨h1, h2⟩ := through_mem g.nd (m := m)
  refine ⟨h1, fun e he => ?_⟩
  rcases h2 e he with z | ⟨_, _, f, s, hf, hs, e2⟩
  · obtain ⟨p, l⟩ := g.path e z
    exact ⟨p, by omega⟩
  · obtain ⟨p1, l1⟩ := g.path _ hf
    obtain ⟨p2, l2⟩ := g.path _ hs
    rw [e2]
    refine ⟨p1.app p2, ?_⟩
    show (f.2 ++ s.2).length ≤ 2 * k
    rw [List.length_append]
    have l1' : f.2.length ≤ k := l1
    have l2' : s.2.length ≤ k := l2
    omega

/-! ### the turns -/
structure Turned (bs : List (α × α × Int)) (W : Ways α) (ms : List α) : Prop where
  low : ∀ b ∈ bs, ∃ c, c ≤ b.2.2 ∧ dist W b.1 b.2.1 = some c
  tri : ∀ m ∈ ms, ∀ x y a b, dist W x m = some a → dist W m y = some b → ∃ c, c ≤ a + b ∧ dist W x y = some c
  dia : ∀ m ∈ ms, ∀ c, dist W m m = some c → 0 ≤ c
theorem turned_nil (bs : List (α × α × Int)) : Turned bs (singles bs bs.length) [] := by
  refine ⟨fun b hb => ?_, fun m hm => absurd hm List.not_mem_nil, fun m hm => absurd hm List.not_mem_nil⟩
  obtain ⟨i, hi⟩ := List.mem_iff_getElem?.mp hb
  exact (singles_ok bs bs.length).2 i (List.getElem?_eq_some_iff.mp hi).1 b hi
theorem turned_step {bs : List (α × α × Int)} {W : Ways α} {ms : List α} (nd : (W.map (·.1)).Nodup) (t : Turned bs W ms) {m : α} (hm : ∀ c, dist W m m = some c → 0 ≤ c) : Turned bs (through W m) (ms ++ [m]) := by
  -- what the new distances are
  have fall : ∀ {x y c}, dist W x y = some c → ∃ c', c' ≤ c ∧ dist (through W m) x y = some c' := fun h => outer_le h
  have pass : ∀ {x y a b}, dist W x m = some a → dist W m y = some b → ∃ c, c ≤ a + b ∧ dist (through W m) x y = some c := by
    intro x y a b ha hb
    by_cases hx : x = m
    · subst hx
      have := hm a ha
      obtain ⟨c, h1, h2⟩ := fall hb
      exact ⟨c, by omega, h2⟩
    · by_cases hy : y = m
      · subst hy
        have := hm b hb
        obtain ⟨c, h1, h2⟩ := fall ha
        exact ⟨c, by omega, h2⟩
      · obtain ⟨p, hp⟩ := mem_of_dist ha
        obtain ⟨q, hq⟩ := mem_of_dist hb
        exact outer_new (a := (x, (a, p))) (b := (y, (b, q))) (mem_before.mpr ⟨hp, hx⟩) (mem_behind.mpr ⟨hq, hy⟩)
  have back : ∀ {x y c}, dist (through W m) x y = some c → dist W x y = some c ∨ (x ≠ m ∧ y ≠ m ∧ ∃ a b, dist W x m = some a ∧ dist W m y = some b ∧ c = a + b) := by
    intro x y c h
    obtain ⟨p, hp⟩ := mem_of_dist h
    rcases (through_mem nd (m := m)).2 _ hp with z | ⟨h1, h2, f, s, hf, hs, e⟩
    · exact .inl (dist_of_mem nd z)
    · refine .inr ⟨h1, h2, f.1, s.1, dist_of_mem nd hf, dist_of_mem nd hs, ?_⟩
      exact congrArg Prod.fst e
  -- the triangle through a name that had its turn
  have tri0 : ∀ m' ∈ ms, ∀ x y a b, dist (through W m) x m' = some a → dist (through W m) m' y = some b → ∃ c, c ≤ a + b ∧ dist (through W m) x y = some c := by
    intro m' hm' x y a b ha hb
    rcases back ha with ha | ⟨_, _, a1, a2, h1, h2, rfl⟩
    · rcases back hb with hb | ⟨_, _, b1, b2, h3, h4, rfl⟩
      · obtain ⟨c, l, h⟩ := t.tri m' hm' x y a b ha hb
        obtain ⟨c', l', h'⟩ := fall h
        exact ⟨c', by omega, h'⟩
      · obtain ⟨c, l, h⟩ := t.tri m' hm' x m a b1 ha h3
        obtain ⟨c', l', h'⟩ := pass h h4
        exact ⟨c', by omega, h'⟩
    · rcases back hb with hb | ⟨_, _, b1, b2, h3, h4, rfl⟩
      · obtain ⟨c, l, h⟩ := t.tri m' hm' m y a2 b h2 hb
        obtain ⟨c', l', h'⟩ := pass h1 h
        exact ⟨c', by omega, h'⟩
      · obtain ⟨c, l, h⟩ := t.tri m' hm' m m a2 b1 h2 h3
        have := hm c h
        obtain ⟨c', l', h'⟩ := pass h1 h4
        exact ⟨c', by omega, h'⟩
  refine ⟨fun b hb => ?_, fun m' hm' x y a b ha hb => ?_, fun m' hm' c hc => ?_⟩
  · obtain ⟨c, l, h⟩ := t.low b hb
    obtain ⟨c', l', h'⟩ := fall h
    exact ⟨c', by omega, h'⟩
  · rcases List.mem_append.mp hm' with z | z
    · exact tri0 m' z x y a b ha hb
    · have e : m' = m := by simpa using z
      subst e
      rcases back ha with ha | ⟨_, q, _⟩
      · rcases back hb with hb | ⟨q, _, _⟩
        · exact pass ha hb
        · exact absurd rfl q
      · exact absurd rfl q
  · rcases back hc with hc' | ⟨_, _, a, b, h1, h2, rfl⟩
    · rcases List.mem_append.mp hm' with z | z
      · exact t.dia m' z c hc'
      · have e : m' = m := by simpa using z
        subst e
        exact hm c hc'
    · rcases List.mem_append.mp hm' with z | z
      · obtain ⟨c, l, h⟩ := t.tri m' z m m b a h2 h1
        have := hm c h
        omega
      · have e : m' = m := by simpa using z
        subst e
        have := hm a h1
        have := hm b h2
        omega

/-! ### closed ways -/
structure Closed (bs : List (α × α × Int)) (W : Ways α) : Prop where
  low : ∀ b ∈ bs, ∃ c, c ≤ b.2.2 ∧ dist W b.1 b.2.1 = some c
  tri : ∀ m x y a b, dist W x m = some a → dist W m y = some b → ∃ c, c ≤ a + b ∧ dist W x y = some c
  dia : ∀ m c, dist W m m = some c → 0 ≤ c
theorem Turned.closed {bs : List (α × α × Int)} {W : Ways α} {ms : List α} {k : Nat} (g : Good bs W k) (t : Turned bs W ms) (h : ∀ b ∈ bs, b.1 ∈ ms) : Closed bs W := by
  have st : ∀ {x y c}, dist W x y = some c → x ∈ ms := by
    intro x y c e
    obtain ⟨p, hp⟩ := mem_of_dist e
    obtain ⟨b, hb, e⟩ := List.mem_map.mp (g.path _ hp).1.ends.1
    have e' : b.1 = x := e
    rw [← e']; exact h b hb
  exact ⟨t.low, fun m x y a b ha hb => t.tri m (st hb) x y a b ha hb, fun m c hc => t.dia m (st hc) c hc⟩
theorem between (L U : List Int) (h : ∀ l ∈ L, ∀ u ∈ U, l ≤ u) : ∃ t, (∀ l ∈ L, l ≤ t) ∧ ∀ u ∈ U, t ≤ u := by
  have mx : ∀ (L : List Int) (a : Int), ∃ t, (t = a ∨ t ∈ L) ∧ a ≤ t ∧ ∀ l ∈ L, l ≤ t := by
    intro L
    induction L with
    | nil => exact fun a => ⟨a, .inl rfl, Int.le_refl _, fun l hl => absurd hl List.not_mem_nil⟩
    | cons b L ih =>
      intro a
      obtain ⟨t, h1, h2, h3⟩ := ih (if a ≤ b then b else a)
      refine ⟨t, ?_, ?_, fun l hl => ?_⟩
      · rcases h1 with e | e
        · split at e
          · exact .inr (by rw [e]; exact List.mem_cons_self)
          · exact .inl e
        · exact .inr (List.mem_cons_of_mem _ e)
      · split at h2 <;> omega
      · rcases List.mem_cons.mp hl with e | e
        · subst e; split at h2 <;> omega
        · exact h3 l e
  have mn : ∀ (L : List Int) (a : Int), ∃ t, t ≤ a ∧ ∀ l ∈ L, t ≤ l := by
    intro L
    induction L with
    | nil => exact fun a => ⟨a, Int.le_refl _, fun l hl => absurd hl List.not_mem_nil⟩
    | cons b L ih =>
      intro a
      obtain ⟨t, h2, h3⟩ := ih (if a ≤ b then a else b)
      refine ⟨t, ?_, fun l hl => ?_⟩
      · split at h2 <;> omega
      · rcases List.mem_cons.mp hl with e | e
        · subst e; split at h2 <;> omega
        · exact h3 l e
  cases L with
  | nil =>
    obtain ⟨t, _, h2⟩ := mn U 0
    exact ⟨t, fun l hl => absurd hl List.not_mem_nil, h2⟩
  | cons a L =>
    obtain ⟨t, h1, h2, h3⟩ := mx L a
    refine ⟨t, fun l hl => ?_, fun u hu => ?_⟩
    · rcases List.mem_cons.mp hl with e | e
      · subst e; exact h2
      · exact h3 l e
    · rcases h1 with e | e
      · rw [e]; exact h a List.mem_cons_self u hu
      · exact h t (List.mem_cons_of_mem _ e) u hu
/-- what meets the distances among A can be carried on to N -/
theorem extend {bs : List (α × α × Int)} {W : Ways α} (cl : Closed bs W) : ∀ (N A : List α) (val : α → Int), (∀ x ∈ A, ∀ y ∈ A, ∀ c, dist W x y = some c → val x - val y ≤ c) →
    ∃ val' : α → Int, (∀ x ∈ A, val' x = val x) ∧ ∀ x ∈ N ++ A, ∀ y ∈ N ++ A, ∀ c, dist W x y = some c → val' x - val' y ≤ c
  | [], A, val, h => ⟨val, fun _ _ => rfl, by simpa using h⟩
  | n :: N, A, val, h => by
    by_cases hn : n ∈ A
    · obtain ⟨v', h1, h2⟩ := extend cl N A val h
      have sub : ∀ x, x ∈ (n :: N) ++ A → x ∈ N ++ A := fun x hx => by
        simp only [List.cons_append, List.mem_cons, List.mem_append] at hx ⊢
        rcases hx with e | e
        · subst e; exact .inr hn
        · exact e
      exact ⟨v', h1, fun x hx y hy => h2 x (sub x hx) y (sub y hy)⟩
    · obtain ⟨t, t1, t2⟩ := between (A.filterMap fun x => (dist W x n).map fun c => val x - c) (A.filterMap fun y => (dist W n y).map fun c => c + val y) (by
        intro l hl u hu
        obtain ⟨x, hx, e1⟩ := List.mem_filterMap.mp hl
        obtain ⟨y, hy, e2⟩ := List.mem_filterMap.mp hu
        obtain ⟨c, hc, e1⟩ := Option.map_eq_some_iff.mp e1
        obtain ⟨d, hd, e2⟩ := Option.map_eq_some_iff.mp e2
        obtain ⟨z, l1, hz⟩ := cl.tri n x y c d hc hd
        have := h x hx y hy z hz
        omega)
      have low : ∀ x ∈ A, ∀ c, dist W x n = some c → val x - c ≤ t := fun x hx c hc => t1 _ (List.mem_filterMap.mpr ⟨x, hx, by rw [hc]; rfl⟩)
      have upp : ∀ y ∈ A, ∀ c, dist W n y = some c → t ≤ c + val y := fun y hy c hc => t2 _ (List.mem_filterMap.mpr ⟨y, hy, by rw [hc]; rfl⟩)
      obtain ⟨v', h1, h2⟩ := extend cl N (n :: A) (fun x => if x = n then t else val x) (by
        intro x hx y hy c hc
        by_cases ex : x = n
        · by_cases ey : y = n
          · subst ex; subst ey
            have := cl.dia _ _ hc
            simp; exact this
          · subst ex
            have hy' : y ∈ A := (List.mem_cons.mp hy).resolve_left ey
            have := upp y hy' c hc
            simp [ey]; omega
        · have hx' : x ∈ A := (List.mem_cons.mp hx).resolve_left ex
          by_cases ey : y = n
          · subst ey
            have := low x hx' c hc
            simp [ex]; omega
          · have hy' : y ∈ A := (List.mem_cons.mp hy).resolve_left ey
            have := h x hx' y hy' c hc
            simp [ex, ey]; exact this)
      have sub : ∀ x, x ∈ (n :: N) ++ A → x ∈ N ++ (n :: A) := fun x hx => by
        simp only [List.cons_append, List.mem_cons, List.mem_append] at hx ⊢
        rcases hx with e | e | e
        · exact .inr (.inl e)
        · exact .inl e
        · exact .inr (.inr e)
      refine ⟨v', fun x hx => ?_, fun x hx y hy => h2 x (sub x hx) y (sub y hy)⟩
      have : x ≠ n := fun e => hn (by rw [← e]; exact hx)
      rw [h1 x (List.mem_cons_of_mem _ hx), if_neg this]
/-- closed ways: there are values, and with any value of f between the ways from and to b -/
theorem Closed.pin {bs : List (α × α × Int)} {W : Ways α} (cl : Closed bs W) (b f : α) (v : Int) (h1 : ∀ c, dist W b f = some c → -c ≤ v) (h2 : ∀ c, dist W f b = some c → v ≤ c) (hbf : f = b → v = 0) :
    ∃ val : α → Int, Meets bs val ∧ val b = 0 ∧ val f = v := by
  obtain ⟨v', e1, e2⟩ := extend cl (bs.flatMap fun q => [q.1, q.2.1]) [b, f] (fun x => if x = b then 0 else v) (by
    intro x hx y hy c hc
    have hx' : x = b ∨ x = f := by simpa using hx
    have hy' : y = b ∨ y = f := by simpa using hy
    by_cases hfb : f = b
    · have hv := hbf hfb
      subst hfb
      have ex : x = f := by rcases hx' with e | e <;> exact e
      have ey : y = f := by rcases hy' with e | e <;> exact e
      subst ex; subst ey
      have := cl.dia _ _ hc
      simp; exact this
    · rcases hx' with rfl | rfl
      · rcases hy' with rfl | rfl
        · have := cl.dia _ _ hc
          simp; exact this
        · have := h1 c hc
          simp [hfb]; omega
      · rcases hy' with rfl | rfl
        · have := h2 c hc
          simp [hfb]; exact this
        · have := cl.dia _ _ hc
          simp; exact this)
  refine ⟨v', fun q hq => ?_, ?_, ?_⟩
  · obtain ⟨c, l, hc⟩ := cl.low q hq
    have m1 : q.1 ∈ (bs.flatMap fun q => [q.1, q.2.1]) ++ [b, f] := List.mem_append_left _ (List.mem_flatMap.mpr ⟨q, hq, by simp⟩)
    have m2 : q.2.1 ∈ (bs.flatMap fun q => [q.1, q.2.1]) ++ [b, f] := List.mem_append_left _ (List.mem_flatMap.mpr ⟨q, hq, by simp⟩)
    have := e2 _ m1 _ m2 c hc
    omega
  · rw [e1 b (by simp)]; simp
  · rw [e1 f (by simp)]
    by_cases hfb : f = b
    · rw [if_pos hfb, hbf hfb]
    · rw [if_neg hfb]
theorem Closed.feas {bs : List (α × α × Int)} {W : Ways α} (cl : Closed bs W) : Feas bs := by
  obtain ⟨v', e1, e2⟩ := extend cl (bs.flatMap fun q => [q.1, q.2.1]) [] (fun _ => 0) (fun x hx => absurd hx List.not_mem_nil)
  refine ⟨v', fun q hq => ?_⟩
  obtain ⟨c, l, hc⟩ := cl.low q hq
  have m1 : q.1 ∈ (bs.flatMap fun q => [q.1, q.2.1]) ++ [] := List.mem_append_left _ (List.mem_flatMap.mpr ⟨q, hq, by simp⟩)
  have m2 : q.2.1 ∈ (bs.flatMap fun q => [q.1, q.2.1]) ++ [] := List.mem_append_left _ (List.mem_flatMap.mpr ⟨q, hq, by simp⟩)
  have := e2 _ m1 _ m2 c hc
  omega
/-- the value that is taken for f -/
def nearest (W : Ways α) (b f : α) : Int :=
  match dist W b f with
  | some c => if c < 0 then -c else (match dist W f b with | some d => if d < 0 then d else 0 | none => 0)
  | none => match dist W f b with | some d => if d < 0 then d else 0 | none => 0
theorem Closed.near {bs : List (α × α × Int)} {W : Ways α} (cl : Closed bs W) (b f : α) : Feas (bs ++ [(f, b, nearest W b f), (b, f, -nearest W b f)]) := by
  have key : (∀ c, dist W b f = some c → -c ≤ nearest W b f) ∧ (∀ c, dist W f b = some c → nearest W b f ≤ c) := by
    unfold nearest
    cases h1 : dist W b f with
    | none =>
      dsimp only
      cases h2 : dist W f b with
      | none => exact ⟨fun c e => (nomatch e), fun c e => (nomatch e)⟩
      | some d =>
        refine ⟨fun c e => (nomatch e), fun c e => ?_⟩
        cases e
        dsimp only
        split <;> omega
    | some c =>
      cases h2 : dist W f b with
      | none =>
        refine ⟨fun c' e => ?_, fun c' e => (nomatch e)⟩
        cases e
        dsimp only
        split <;> omega
      | some d =>
        obtain ⟨z, l, hz⟩ := cl.tri f b b c d h1 h2
        have := cl.dia b z hz
        refine ⟨fun c' e => ?_, fun c' e => ?_⟩
        · cases e
          dsimp only
          split
          · omega
          · split <;> omega
        · cases e
          dsimp only
          split
          · omega
          · split <;> omega
  have same : f = b → nearest W b f = 0 := by
    intro e
    subst e
    unfold nearest
    cases h1 : dist W f f with
    | none => rfl
    | some c =>
      have := cl.dia f c h1
      dsimp only
      rw [if_neg (by omega), if_neg (by omega)]
  obtain ⟨val, m, e1, e2⟩ := cl.pin b f (nearest W b f) key.1 key.2 same
  refine ⟨val, fun q hq => ?_⟩
  rcases List.mem_append.mp hq with z | z
  · exact m q z
  · have z' : q = (f, b, nearest W b f) ∨ q = (b, f, -nearest W b f) := by simpa using z
    rcases z' with rfl | rfl
    · show val f - val b ≤ nearest W b f
      omega
    · show val b - val f ≤ -nearest W b f
      omega
end
end WM
set_option Elab.async false
set_option linter.all false
set_option autoImplicit false
set_option maxRecDepth 100000
/-! The program's defs, their names by slot. -/
namespace WB
open PySem PySem.Spec PyProof.Rows L2
def topS (i : Nat) : Stmt := PySem.Challenge.pw_whomaywhat_k51_whole_ring_or_numbers.main.body.getD i (.Pass ⟨0, 0, 0, 0⟩)
abbrev sBoundOf : Stmt := topS 1
abbrev sSingle : Stmt := topS 2
abbrev sPass : Stmt := topS 3
abbrev sShort : Stmt := topS 4
abbrev sFind : Stmt := topS 5
abbrev sNear1 : Stmt := topS 6
abbrev sNear : Stmt := topS 7
abbrev sDraws : Stmt := topS 9
abbrev sTake : Stmt := topS 10
abbrev sWord : Stmt := topS 11
abbrev sPool : Stmt := topS 12
abbrev sFields : Stmt := topS 13
abbrev sBound : Stmt := topS 14
abbrev sLiteral : Stmt := topS 15
abbrev sIsRing : Stmt := topS 16
abbrev sSize : Stmt := topS 17
abbrev sMeets : Stmt := topS 18
abbrev sIsRow : Stmt := topS 19
abbrev sTwo : Stmt := topS 20
abbrev sTrue : Stmt := topS 21
abbrev sRound : Stmt := topS 22
abbrev sAny : Stmt := topS 23
abbrev sRight : Stmt := topS 24
abbrev sLaw : Stmt := topS 25
abbrev nBoundOf : List Str := ["literal", "atom", "truth"]
abbrev nSingle : List Str := ["bounds", "ways", "index", "x", "y", "c"]
abbrev nPass : List Str := ["ways", "middle", "x", "y", "before", "behind", "first", "second", "total"]
abbrev nShort : List Str := ["bounds", "ways", "middle", "bound"]
abbrev nFind : List Str := ["literals", "indexes", "literal", "index"]
abbrev nNear1 : List Str := ["bounds", "field", "ways"]
abbrev nNear : List Str := ["literals", "fields", "bounds", "values", "field", "value", "literal"]
abbrev nDraws : List Str := ["_law_script", "_law_many", "_law_cells", "_law_rest", "_law_draws_here", "_law_k", "_law_at", "_law_once", "_law_cell"]
abbrev nTake : List Str := ["_law_draws_here", "_law_many"]
abbrev nWord : List Str := ["_law_number", "_law_word_here", "_law_k"]
abbrev nPool : List Str := ["_law_draws_here", "_law_pool_here", "_law_k", "_law_number"]
abbrev nFields : List Str := ["_law_draws_here", "_law_pool_here"]
abbrev nBound : List Str := ["_law_literal_here", "_law_atom"]
abbrev nLiteral : List Str := ["_law_x", "_law_y", "_law_c"]
abbrev nIsRing : List Str := ["_law_literals", "_law_bounds", "_law_total", "_law_k", "_law_literal_here"]
abbrev nSize : List Str := ["_law_draws_here", "_law_script", "_law_number"]
abbrev nMeets : List Str := ["_law_literals", "_law_fields_here", "_law_numbers", "_law_literal_here", "_law_bound_here"]
abbrev nIsRow : List Str := ["_law_actual", "_law_many", "_law_number"]
abbrev nTwo : List Str := ["_law_draws_here", "_law_fields_here", "_law_names", "_law_one", "_law_other"]
abbrev nTrue : List Str := ["_law_draws_here", "_law_fields_here", "_law_numbers", "_law_script", "_law_two_here", "_law_names", "_law_values", "_law_slack", "_law_difference"]
abbrev nRound : List Str := ["_law_draws_here", "_law_fields_here", "_law_script", "_law_names", "_law_at", "_law_k", "_law_sizes"]
abbrev nAny : List Str := ["_law_draws_here", "_law_fields_here", "_law_script", "_law_two_here"]
abbrev nRight : List Str := ["_law_literals", "_law_fields_here", "_law_ring", "_law_numbers", "_law_literal_here"]
abbrev nLaw : List Str := ["_law_script", "_law_draws_here", "_law_fields_here", "_law_numbers", "_law_how", "_law_many", "_law_k", "_law_literals", "_law_turn", "_law_field"]
theorem scBoundOf : FnScope nBoundOf ["literal"] (defScope sBoundOf) := ⟨rfl, rfl, rfl, by decide +kernel, rfl, by decide +kernel, by decide +kernel⟩
theorem scSingle : FnScope nSingle ["bounds"] (defScope sSingle) := ⟨rfl, rfl, rfl, by decide +kernel, rfl, by decide +kernel, by decide +kernel⟩
theorem scPass : FnScope nPass ["ways", "middle"] (defScope sPass) := ⟨rfl, rfl, rfl, by decide +kernel, rfl, by decide +kernel, by decide +kernel⟩
theorem scShort : FnScope nShort ["bounds"] (defScope sShort) := ⟨rfl, rfl, rfl, by decide +kernel, rfl, by decide +kernel, by decide +kernel⟩
theorem scFind : FnScope nFind ["literals"] (defScope sFind) := ⟨rfl, rfl, rfl, by decide +kernel, rfl, by decide +kernel, by decide +kernel⟩
theorem scNear1 : FnScope nNear1 ["bounds", "field"] (defScope sNear1) := ⟨rfl, rfl, rfl, by decide +kernel, rfl, by decide +kernel, by decide +kernel⟩
theorem scNear : FnScope nNear ["literals", "fields"] (defScope sNear) := ⟨rfl, rfl, rfl, by decide +kernel, rfl, by decide +kernel, by decide +kernel⟩
theorem scDraws : FnScope nDraws ["_law_script", "_law_many"] (defScope sDraws) := ⟨rfl, rfl, rfl, by decide +kernel, rfl, by decide +kernel, by decide +kernel⟩
theorem scTake : FnScope nTake ["_law_draws_here", "_law_many"] (defScope sTake) := ⟨rfl, rfl, rfl, by decide +kernel, rfl, by decide +kernel, by decide +kernel⟩
theorem scWord : FnScope nWord ["_law_number"] (defScope sWord) := ⟨rfl, rfl, rfl, by decide +kernel, rfl, by decide +kernel, by decide +kernel⟩
theorem scPool : FnScope nPool ["_law_draws_here"] (defScope sPool) := ⟨rfl, rfl, rfl, by decide +kernel, rfl, by decide +kernel, by decide +kernel⟩
theorem scFields : FnScope nFields ["_law_draws_here"] (defScope sFields) := ⟨rfl, rfl, rfl, by decide +kernel, rfl, by decide +kernel, by decide +kernel⟩
theorem scBound : FnScope nBound ["_law_literal_here"] (defScope sBound) := ⟨rfl, rfl, rfl, by decide +kernel, rfl, by decide +kernel, by decide +kernel⟩
theorem scLiteral : FnScope nLiteral ["_law_x", "_law_y", "_law_c"] (defScope sLiteral) := ⟨rfl, rfl, rfl, by decide +kernel, rfl, by decide +kernel, by decide +kernel⟩
theorem scIsRing : FnScope nIsRing ["_law_literals"] (defScope sIsRing) := ⟨rfl, rfl, rfl, by decide +kernel, rfl, by decide +kernel, by decide +kernel⟩
theorem scSize : FnScope nSize ["_law_draws_here", "_law_script"] (defScope sSize) := ⟨rfl, rfl, rfl, by decide +kernel, rfl, by decide +kernel, by decide +kernel⟩
theorem scMeets : FnScope nMeets ["_law_literals", "_law_fields_here", "_law_numbers"] (defScope sMeets) := ⟨rfl, rfl, rfl, by decide +kernel, rfl, by decide +kernel, by decide +kernel⟩
theorem scIsRow : FnScope nIsRow ["_law_actual", "_law_many"] (defScope sIsRow) := ⟨rfl, rfl, rfl, by decide +kernel, rfl, by decide +kernel, by decide +kernel⟩
theorem scTwo : FnScope nTwo ["_law_draws_here", "_law_fields_here"] (defScope sTwo) := ⟨rfl, rfl, rfl, by decide +kernel, rfl, by decide +kernel, by decide +kernel⟩
theorem scTrue : FnScope nTrue ["_law_draws_here", "_law_fields_here", "_law_numbers", "_law_script"] (defScope sTrue) := ⟨rfl, rfl, rfl, by decide +kernel, rfl, by decide +kernel, by decide +kernel⟩
theorem scRound : FnScope nRound ["_law_draws_here", "_law_fields_here", "_law_script"] (defScope sRound) := ⟨rfl, rfl, rfl, by decide +kernel, rfl, by decide +kernel, by decide +kernel⟩
theorem scAny : FnScope nAny ["_law_draws_here", "_law_fields_here", "_law_script"] (defScope sAny) := ⟨rfl, rfl, rfl, by decide +kernel, rfl, by decide +kernel, by decide +kernel⟩
theorem scRight : FnScope nRight ["_law_literals", "_law_fields_here"] (defScope sRight) := ⟨rfl, rfl, rfl, by decide +kernel, rfl, by decide +kernel, by decide +kernel⟩
theorem scLaw : FnScope nLaw ["_law_script"] (defScope sLaw) := ⟨rfl, rfl, rfl, by decide +kernel, rfl, by decide +kernel, by decide +kernel⟩
end WB
set_option Elab.async false
set_option linter.all false
set_option autoImplicit false
set_option maxRecDepth 100000
/-! How literals, bounds and ways lie in the heap. -/
namespace WB
open PySem PySem.Spec PyProof.Rows L2 WM
/-! ### rows that go place by place -/
def Al {α β : Type} (R : α → β → Prop) (xs : List α) (ys : List β) : Prop := xs.length = ys.length ∧ ∀ (i : Nat) (x : α) (y : β), xs[i]? = some x → ys[i]? = some y → R x y
section
variable {α β : Type} {R R' : α → β → Prop} {xs xs' : List α} {ys ys' : List β}
theorem Al.nil : Al R [] [] := ⟨rfl, fun i x y h => by simp at h⟩
theorem Al.mono (h : Al R xs ys) (f : ∀ x y, R x y → R' x y) : Al R' xs ys := ⟨h.1, fun i x y a b => f x y (h.2 i x y a b)⟩
theorem Al.append (h : Al R xs ys) (k : Al R xs' ys') : Al R (xs ++ xs') (ys ++ ys') := by
  refine ⟨by rw [List.length_append, List.length_append, h.1, k.1], fun i x y a b => ?_⟩
  by_cases l : i < xs.length
  · rw [List.getElem?_append_left l] at a
    rw [List.getElem?_append_left (by rw [← h.1]; exact l)] at b
    exact h.2 i x y a b
  · have l' : xs.length ≤ i := Nat.le_of_not_lt l
    rw [List.getElem?_append_right l'] at a
    rw [List.getElem?_append_right (by rw [← h.1]; exact l'), ← h.1] at b
    exact k.2 _ x y a b
theorem Al.one {x : α} {y : β} (h : R x y) : Al R [x] [y] := ⟨rfl, fun i a b e f => by
  cases i with
  | zero =>
    have e1 : x = a := by simpa using e
    have e2 : y = b := by simpa using f
    subst e1; subst e2
    exact h
  | succ i => simp at e⟩
theorem Al.snoc {x : α} {y : β} (h : Al R xs ys) (k : R x y) : Al R (xs ++ [x]) (ys ++ [y]) := h.append (Al.one k)
theorem Al.get (h : Al R xs ys) {i : Nat} {x : α} (e : xs[i]? = some x) : ∃ y, ys[i]? = some y ∧ R x y := by
  have l : i < ys.length := by rw [← h.1]; exact (List.getElem?_eq_some_iff.mp e).1
  exact ⟨ys[i], List.getElem?_eq_getElem l, h.2 i x _ e (List.getElem?_eq_getElem l)⟩
theorem Al.get' (h : Al R xs ys) {i : Nat} {y : β} (e : ys[i]? = some y) : ∃ x, xs[i]? = some x ∧ R x y := by
  have l : i < xs.length := by rw [h.1]; exact (List.getElem?_eq_some_iff.mp e).1
  exact ⟨xs[i], List.getElem?_eq_getElem l, h.2 i _ y (List.getElem?_eq_getElem l) e⟩
theorem Al.take (h : Al R xs ys) (n : Nat) : Al R (xs.take n) (ys.take n) := by
  refine ⟨by rw [List.length_take, List.length_take, h.1], fun i x y a b => ?_⟩
  rw [List.getElem?_take] at a b
  split at a
  · rename_i l
    rw [if_pos l] at b
    exact h.2 i x y a b
  · cases a
theorem Al.drop (h : Al R xs ys) (n : Nat) : Al R (xs.drop n) (ys.drop n) := by
  refine ⟨by rw [List.length_drop, List.length_drop, h.1], fun i x y a b => ?_⟩
  rw [List.getElem?_drop] at a b
  exact h.2 _ x y a b
theorem Al.cons_inv {x : α} {zs : List β} (h : Al R (x :: xs) zs) : ∃ y r, zs = y :: r ∧ R x y ∧ Al R xs r := by
  cases zs with
  | nil => have := h.1; simp at this
  | cons y r =>
    refine ⟨y, r, rfl, h.2 0 x y rfl rfl, ?_, fun i a b e f => h.2 (i + 1) a b (by simpa using e) (by simpa using f)⟩
    have := h.1
    simpa using this
end
theorem take_snoc {α : Type} {l : List α} {i : Nat} {x : α} (h : l[i]? = some x) : l.take (i + 1) = l.take i ++ [x] := by
  rw [List.take_add_one, h]; rfl
theorem at_lt {α : Type} {l : List α} {i : Nat} {x : α} (h : l[i]? = some x) : i < l.length := (List.getElem?_eq_some_iff.mp h).1
theorem at_ex {α : Type} {l : List α} {i : Nat} (h : i < l.length) : ∃ x, l[i]? = some x := ⟨l[i], List.getElem?_eq_getElem h⟩
theorem ints_at {ns : List Int} {i : Nat} {v : V} (h : (ns.map V.int)[i]? = some v) : ∃ n, ns[i]? = some n ∧ v = .int n := by
  rw [List.getElem?_map] at h
  obtain ⟨n, e, f⟩ := Option.map_eq_some_iff.mp h
  exact ⟨n, e, f.symm⟩
theorem strs_at {ns : List Str} {i : Nat} {v : V} (h : (ns.map V.str)[i]? = some v) : ∃ n, ns[i]? = some n ∧ v = .str n := by
  rw [List.getElem?_map] at h
  obtain ⟨n, e, f⟩ := Option.map_eq_some_iff.mp h
  exact ⟨n, e, f.symm⟩
theorem small {n : Nat} (h : n ≤ 1000000) : n < sizeLine := by rw [sizeLine_eq]; omega
theorem small' {n : Nat} (h : n ≤ 1000000) : n ≤ sizeLine := Nat.le_of_lt (small h)

/-! ### heaps -/
/-- all that was tracked but d is as it was -/
def But (d : Addr) (H H' : Hp) : Prop := ∀ b o, b ≠ d → H b = some o → H' b = some o
theorem But.refl {d : Addr} {H : Hp} : But d H H := fun _ _ _ h => h
theorem But.trans {d : Addr} {H H1 H2 : Hp} (a : But d H H1) (b : But d H1 H2) : But d H H2 := fun c o n h => b c o n (a c o n h)
theorem Same.but {d : Addr} {H H1 : Hp} (a : Same H H1) : But d H H1 := fun c o _ h => a c o h
theorem But.upd {d : Addr} {H : Hp} {o : HO} : But d H (upd H d o) := fun b u n h => by rw [upd_ne n]; exact h
theorem same_new {H : Hp} {p : Addr} {o : HO} (h : H p = none) : Same H (upd H p o) := fun b x e => by rw [upd_ne (ne_of_none e h)]; exact e
/-- tuples stay -/
def Tups (H H' : Hp) : Prop := ∀ b xs, H b = some (.tup xs) → H' b = some (.tup xs)
theorem Tups.refl {H : Hp} : Tups H H := fun _ _ h => h
theorem Tups.trans {H H1 H2 : Hp} (a : Tups H H1) (b : Tups H1 H2) : Tups H H2 := fun c xs h => b c xs (a c xs h)
theorem Same.tups {H H1 : Hp} (a : Same H H1) : Tups H H1 := fun c xs h => a c _ h
theorem But.tups {d : Addr} {H H1 : Hp} (a : But d H H1) {o : HO} (e : H d = some o) (n : ∀ xs, o ≠ .tup xs) : Tups H H1 := fun c xs h => a c _ (fun z => by
  subst z; rw [e] at h; cases h; exact n xs rfl) h
theorem But.seq {K : PySem.W.Frag} {d : Addr} {H H1 : Hp} (a : But d H H1) {l : Addr} {xs : List V} (h : SqL K H l xs) (n : l ≠ d) : SqL K H1 l xs := by
  rcases h with (h | ⟨o, h⟩) | h
  · exact .inl (.inl (a _ _ n h))
  · exact .inl (.inr ⟨o, a _ _ n h⟩)
  · exact .inr h
theorem Same.seqT {K : PySem.W.Frag} {H H' : Hp} {a : Addr} {xs : List V} (e : Same H H') (h : SqT K H a xs) : SqT K H' a xs := by
  rcases h with (h | ⟨o, h⟩) | h
  · exact .inl (.inl (e _ _ h))
  · exact .inl (.inr ⟨o, e _ _ h⟩)
  · exact .inr h
theorem upd_self {H : Hp} {a : Addr} {o : HO} (h : H a = some o) : upd H a o = H := by
  funext b; unfold upd; split
  · rename_i e; rw [e, h]
  · rfl
theorem upd_comm {H : Hp} {a b : Addr} {o u : HO} (h : a ≠ b) : upd (upd H a o) b u = upd (upd H b u) a o := by
  funext c; unfold upd
  by_cases e1 : c = a
  · subst e1; simp [h]
  · by_cases e2 : c = b
    · subst e2; simp [e1]
    · simp [e1, e2]

theorem ixl {X : Cx} (K : PySem.W.Frag) (h : X.K = K := by rfl) : IxR X (rIxL K) := by subst h; exact ix_list
theorem ixt {X : Cx} (K : PySem.W.Frag) (h : X.K = K := by rfl) : IxR X (rIxT K) := by subst h; exact ix_tup
theorem lens {X : Cx} (K : PySem.W.Frag) (h : X.K = K := by rfl) : CallR X (.builtin "len") (fun xs H Q => ∃ p ys, xs = [.ref p] ∧ (SqL K H p ys ∨ SqT K H p ys) ∧ Q (.int ys.length) H) := by subst h; exact call_len_seq
theorem lcY {σ : L2.St} {H : Hp} {Q : Bool → Hp → Prop} (h : Q true H) : tYes σ H Q := h
/-! ### literals, bounds -/
structure Lit where
  x : Str
  y : Str
  c : Int
  t : Bool
  deriving DecidableEq
abbrev Bnd := Str × Str × Int
def Lit.bnd (l : Lit) : Bnd := if l.t = true then (l.x, l.y, l.c) else (l.y, l.x, -l.c - 1)
def most : Str := "most"
def IsLit (H : Hp) (v : V) (l : Lit) : Prop := ∃ a b, v = .ref a ∧ H a = some (.tup [.ref b, .bl l.t]) ∧ H b = some (.tup [.str most, .str l.x, .str l.y, .int l.c])
def IsBnd (H : Hp) (v : V) (b : Bnd) : Prop := ∃ a, v = .ref a ∧ H a = some (.tup [.str b.1, .str b.2.1, .int b.2.2])
theorem IsLit.mono {H H' : Hp} (t : Tups H H') {v : V} {l : Lit} (h : IsLit H v l) : IsLit H' v l := by
  obtain ⟨a, b, e, h1, h2⟩ := h
  exact ⟨a, b, e, t _ _ h1, t _ _ h2⟩
theorem IsBnd.mono {H H' : Hp} (t : Tups H H') {v : V} {l : Bnd} (h : IsBnd H v l) : IsBnd H' v l := by
  obtain ⟨a, e, h1⟩ := h
  exact ⟨a, e, t _ _ h1⟩
theorem lits_mono {H H' : Hp} (t : Tups H H') {vs : List V} {ls : List Lit} (h : Al (IsLit H) vs ls) : Al (IsLit H') vs ls := h.mono fun _ _ q => q.mono t
theorem bnds_mono {H H' : Hp} (t : Tups H H') {vs : List V} {ls : List Bnd} (h : Al (IsBnd H) vs ls) : Al (IsBnd H') vs ls := h.mono fun _ _ q => q.mono t
section
variable {P : Program} {w : World} {K : PySem.W.Frag} {mg : Str → Option Value} {base : Heap}
/-! ### bound_of, _law_bound -/
def spBound : Sp := fun vs H Q _ => ∃ v l, vs = [v] ∧ IsLit H v l ∧ ∀ p, H p = none → Q (.ref p) (upd H p (.tup [.str l.bnd.1, .str l.bnd.2.1, .int l.bnd.2.2]))
theorem ok_boundOf {f : Addr} {fd : FuncData} {k : Nat} (F : Fun K "bound_of" "bound_of" sBoundOf f fd) : FnOk P w K mg base CX0 (k + 1) f fd ["literal"] spBound := by
  refine F.ok scBoundOf (fun vs H Q E h => ?_) (fun cdv A outer s H vs Q E hr h => ?_)
  · obtain ⟨v, l, rfl, _⟩ := h
    rfl
  · obtain ⟨v, l, rfl, ⟨a, b, rfl, ha, hb⟩, q⟩ := h
    refine ⟨_, pss_cons (ps_asg (pv 0) (pg_tup rfl (pgs_cons (pg_name (i := 1) scBoundOf.nd rfl (.inl rfl)) (pgs_cons (pg_name (i := 2) scBoundOf.nd rfl (.inl rfl)) pgs_nil))))
      (pss_cons (ps_if (pt_val (pv 2)) (pss_one (ps_ret (pe_tup (pa_cons (pe_ix ix_tup (pv 1) pe_int (fun _ _ => rfl)) (pa_cons (pe_ix ix_tup (pv 1) pe_int (fun _ _ => rfl)) (pa_cons (pe_ix ix_tup (pv 1) pe_int (fun _ _ => rfl)) pa_nil)))))) pss_nil)
      (pss_one (ps_ret (pe_tup (pa_cons (pe_ix ix_tup (pv 1) pe_int (fun _ _ => rfl)) (pa_cons (pe_ix ix_tup (pv 1) pe_int (fun _ _ => rfl)) (pa_cons (pe_op op_sub (pe_un un_neg (pe_ix ix_tup (pv 1) pe_int (fun _ _ => rfl))) pe_int) pa_nil))))))), ?_⟩
    have hB : SqT K H b [.str most, .str l.x, .str l.y, .int l.c] := SqT.of hb
    refine ⟨.ref a, rfl, a, _, rfl, SqT.of ha, rfl, .ref b, _, rfl, .bl l.t, [], rfl, rfl, ?_⟩
    refine ⟨.bl l.t, rfl, l.t, rfl, ?_⟩
    obtain ⟨x, y, c, t⟩ := l
    cases t with
    | true =>
      refine iteT ?_
      refine ⟨.ref b, rfl, b, _, 1, .str x, rfl, rfl, hB, atI_nat (j := 1) rfl, .ref b, rfl, b, _, 2, .str y, rfl, rfl, hB, atI_nat (j := 2) rfl, .ref b, rfl, b, _, 3, .int c, rfl, rfl, hB, atI_nat (j := 3) rfl, ?_⟩
      exact ⟨small' (by simp), fun p hp => q p hp⟩
    | false =>
      refine iteF ?_
      refine ⟨.ref b, rfl, b, _, 2, .str y, rfl, rfl, hB, atI_nat (j := 2) rfl, .ref b, rfl, b, _, 1, .str x, rfl, rfl, hB, atI_nat (j := 1) rfl, .ref b, rfl, b, _, 3, .int c, rfl, rfl, hB, atI_nat (j := 3) rfl, c, rfl, -c, 1, rfl, rfl, ?_⟩
      exact ⟨small' (by simp), fun p hp => q p hp⟩
theorem ok_bound {f : Addr} {fd : FuncData} {k : Nat} (F : Fun K "_law_bound" "_law_bound" sBound f fd) : FnOk P w K mg base CX0 (k + 1) f fd ["_law_literal_here"] spBound := by
  refine F.ok scBound (fun vs H Q E h => ?_) (fun cdv A outer s H vs Q E hr h => ?_)
  · obtain ⟨v, l, rfl, _⟩ := h
    rfl
  · obtain ⟨v, l, rfl, ⟨a, b, rfl, ha, hb⟩, q⟩ := h
    refine ⟨_, pss_cons (ps_set (i := 1) scBound.nd rfl (.inl rfl) (pe_ix ix_tup (pv 0) pe_int (fun _ _ => rfl)))
      (pss_cons (ps_if (pt_val (pe_ix ix_tup (pv 0) pe_int (fun _ _ => rfl))) (pss_one (ps_ret (pe_tup (pa_cons (pe_ix ix_tup (pv 1) pe_int (fun _ _ => rfl)) (pa_cons (pe_ix ix_tup (pv 1) pe_int (fun _ _ => rfl)) (pa_cons (pe_ix ix_tup (pv 1) pe_int (fun _ _ => rfl)) pa_nil)))))) pss_nil)
      (pss_one (ps_ret (pe_tup (pa_cons (pe_ix ix_tup (pv 1) pe_int (fun _ _ => rfl)) (pa_cons (pe_ix ix_tup (pv 1) pe_int (fun _ _ => rfl)) (pa_cons (pe_op op_sub (pe_un un_neg (pe_ix ix_tup (pv 1) pe_int (fun _ _ => rfl))) pe_int) pa_nil))))))), ?_⟩
    have hA : SqT K H a [.ref b, .bl l.t] := SqT.of ha
    have hB : SqT K H b [.str most, .str l.x, .str l.y, .int l.c] := SqT.of hb
    refine ⟨.ref a, rfl, a, _, 0, .ref b, rfl, rfl, hA, atI_nat (j := 0) rfl, ?_⟩
    refine ⟨.ref a, rfl, a, _, 1, .bl l.t, rfl, rfl, hA, atI_nat (j := 1) rfl, l.t, rfl, ?_⟩
    obtain ⟨x, y, c, t⟩ := l
    cases t with
    | true =>
      refine iteT ?_
      refine ⟨.ref b, rfl, b, _, 1, .str x, rfl, rfl, hB, atI_nat (j := 1) rfl, .ref b, rfl, b, _, 2, .str y, rfl, rfl, hB, atI_nat (j := 2) rfl, .ref b, rfl, b, _, 3, .int c, rfl, rfl, hB, atI_nat (j := 3) rfl, ?_⟩
      exact ⟨small' (by simp), fun p hp => q p hp⟩
    | false =>
      refine iteF ?_
      refine ⟨.ref b, rfl, b, _, 2, .str y, rfl, rfl, hB, atI_nat (j := 2) rfl, .ref b, rfl, b, _, 1, .str x, rfl, rfl, hB, atI_nat (j := 1) rfl, .ref b, rfl, b, _, 3, .int c, rfl, rfl, hB, atI_nat (j := 3) rfl, c, rfl, -c, 1, rfl, rfl, ?_⟩
      exact ⟨small' (by simp), fun p hp => q p hp⟩
/-! ### _law_literal -/
def spLiteral : Sp := fun vs H Q _ => ∃ (x y : Str) (c : Int), vs = [.str x, .str y, .int c] ∧ ∀ H' v l, Same H H' → IsLit H' v l → l.bnd = (x, y, c) → Q v H'
theorem ok_literal {f : Addr} {fd : FuncData} {k : Nat} (F : Fun K "_law_literal" "_law_literal" sLiteral f fd) : FnOk P w K mg base CX0 (k + 1) f fd ["_law_x", "_law_y", "_law_c"] spLiteral := by
  refine F.ok scLiteral (fun vs H Q E h => ?_) (fun cdv A outer s H vs Q E hr h => ?_)
  · obtain ⟨x, y, c, rfl, _⟩ := h
    rfl
  · obtain ⟨x, y, c, rfl, q⟩ := h
    refine ⟨_, pss_cons (ps_if (pt_cmpR op_lt_str (pv 0) (pv 1) (nomark _)) (pss_one (ps_ret (pe_tup (pa_cons (pe_tup (pa_cons pe_str (pa_cons (pv 0) (pa_cons (pv 1) (pa_cons (pv 2) pa_nil))))) (pa_cons pe_bl pa_nil))))) pss_nil)
      (pss_one (ps_ret (pe_tup (pa_cons (pe_tup (pa_cons pe_str (pa_cons (pv 1) (pa_cons (pv 0) (pa_cons (pe_op op_sub (pe_un un_neg (pv 2)) pe_int) pa_nil))))) (pa_cons pe_bl pa_nil))))), ?_⟩
    refine ⟨.str x, rfl, .str y, rfl, x, y, rfl, rfl, _, rfl, ite2 (fun _ => ?_) (fun _ => ?_)⟩
    · refine ⟨.str x, rfl, .str y, rfl, .int c, rfl, small' (by simp), fun b hb => ?_⟩
      refine ⟨small' (by simp), fun a ha => ?_⟩
      have s1 := same_new (o := .tup [.str most, .str x, .str y, .int c]) hb
      have nab : a ≠ b := fun e => by rw [e, upd_same] at ha; cases ha
      refine q _ _ ⟨x, y, c, true⟩ (s1.trans (same_new ha)) ⟨a, b, rfl, upd_same, ?_⟩ rfl
      rw [upd_ne nab.symm]
      exact upd_same
    · refine ⟨.str y, rfl, .str x, rfl, .int c, rfl, c, rfl, -c, 1, rfl, rfl, small' (by simp), fun b hb => ?_⟩
      refine ⟨small' (by simp), fun a ha => ?_⟩
      have s1 := same_new (o := .tup [.str most, .str y, .str x, .int (-c - 1)]) hb
      have nab : a ≠ b := fun e => by rw [e, upd_same] at ha; cases ha
      refine q _ _ ⟨y, x, -c - 1, false⟩ (s1.trans (same_new ha)) ⟨a, b, rfl, upd_same, ?_⟩ ?_
      · rw [upd_ne nab.symm]
        exact upd_same
      · show (x, y, -(-c - 1) - 1) = (x, y, c)
        have : -(-c - 1) - 1 = c := by omega
        rw [this]
/-! ### _law_take -/
def spTake : Sp := fun vs H Q _ => ∃ (d : Addr) (ds : List Int) (m : Int), vs = [.ref d, .int m] ∧ H d = some (.lst (ds.map V.int)) ∧ 0 < m ∧ ∀ (ds' : List Int) (k : Int), 0 ≤ k → k < m → Q (.int k) (upd H d (.lst (ds'.map V.int)))
theorem ok_take {f : Addr} {fd : FuncData} {k : Nat} (F : Fun K "_law_take" "_law_take" sTake f fd) (ml : mg "len" = none) (mi : mg "int" = none) : FnOk P w K mg base CX0 (k + 1) f fd ["_law_draws_here", "_law_many"] spTake := by
  refine F.ok scTake (fun vs H Q E h => ?_) (fun cdv A outer s H vs Q E hr h => ?_)
  · obtain ⟨d, ds, m, rfl, _⟩ := h
    rfl
  · obtain ⟨d, ds, m, rfl, hd, hm, q⟩ := h
    refine ⟨_, pss_cons (ps_if (pt_cmpR op_eq (pe_callB call_len_seq (by rfl) ml PySem.boot_len (pa_cons (pv 0) pa_nil)) pe_int (nomark _)) (pss_one (ps_ret pe_int)) pss_nil)
      (pss_one (ps_ret (pe_op op_modN (pe_callTy call_int1 (by rfl) mi (by decide +kernel) (pa_cons (pe_bm0 PySem.F.plainAttrs_list PySem.F.slot_list_pop PySem.F.type_list_pop mt_pop (pv 0)) pa_nil)) (pv 1)))), ?_⟩
    refine ⟨.ref d, rfl, d, _, rfl, .inl (SqL.of hd), rfl, _, rfl, ite2 (fun e => ?_) (fun e => ?_)⟩
    · have e0 : ((ds.map V.int).length : Int) = 0 := V.int.inj (of_decide_eq_true e)
      have e1 : ds = [] := by
        cases ds with
        | nil => rfl
        | cons x r =>
          rw [List.length_map, List.length_cons] at e0
          omega
      subst e1
      have := q [] 0 (by omega) hm
      rw [upd_self hd] at this
      exact this
    · have h0 : ds ≠ [] := fun z => by
        subst z
        exact e (decide_eq_true rfl)
      have hl : 0 < ds.length := List.length_pos_iff.mpr h0
      obtain ⟨n, hn⟩ := at_ex (l := ds) (i := ds.length - 1) (by omega)
      refine ⟨.ref d, rfl, .inl ⟨rfl, _, SqL.of hd⟩, d, _, .int n, rfl, rfl, hd, ?_, .inl ⟨n, rfl, .int m, rfl, n, m, rfl, rfl, by omega, ?_⟩⟩
      · rw [List.length_map, List.getElem?_map, hn]
        rfl
      · have e2 : (ds.map V.int).dropLast = ds.dropLast.map V.int := by rw [List.map_dropLast]
        rw [e2]
        exact q _ _ (Int.fmod_nonneg_of_pos n hm) (Int.fmod_lt_of_pos n hm)
end
end WB
set_option Elab.async false
set_option linter.all false
set_option autoImplicit false
set_option maxRecDepth 100000
/-! The law's draws. -/
namespace WB
open PySem PySem.Spec PyProof.Rows L2 WM
section
variable {P : Program} {w : World} {K : PySem.W.Frag} {mg : Str → Option Value} {base : Heap}
/-! ### _law_draws -/
def spDraws (K : PySem.W.Frag) : Sp := fun vs H Q _ => ∃ (a : Addr) (ns : List Int) (m : Int), vs = [.ref a, .int m] ∧ SqL K H a (ns.map V.int) ∧ ns.length ≤ 1000 ∧ 0 ≤ m ∧ m ≤ 1000 ∧
  ∀ H' d (ds : List Int), Same H H' → H d = none → H' d = some (.lst (ds.map V.int)) → Q (.ref d) H'
theorem ok_draws {f : Addr} {fd : FuncData} {k : Nat} (F : Fun K "_law_draws" "_law_draws" sDraws f fd) (ml : mg "len" = none) (mi : mg "int" = none) (mls : mg "list" = none) (mr : mg "range" = none) :
    FnOk P w K mg base CX0 (k + 1) f fd ["_law_script", "_law_many"] (spDraws K) := by
  refine F.ok scDraws (fun vs H Q E h => ?_) (fun cdv A outer s H vs Q E hr h => ?_)
  · obtain ⟨d, ds, m, rfl, _⟩ := h
    rfl
  · obtain ⟨a, ns, m, rfl, hS, hlen, hm0, hm1, q⟩ := h
    refine ⟨_, pss_cons (ps_setLc (i := 2) (own := [("_law_cell", 8)]) (g := gName 8) (tt := tYes) rfl scDraws.nd rfl rfl (sw_true rfl rfl rfl (by decide +kernel)) (pi_list (pv 0))
        (blkOk_by (N := nDraws) (sc := defScope sDraws) (by decide +kernel)) (fun _ _ _ _ _ => pg_name (i := 8) scDraws.nd rfl (Or.inl rfl)) (fun _ _ _ _ _ => pts_nil)
        (fun _ _ _ _ _ => pe_callTy call_int1 (by rfl) mi (by decide +kernel) (pa_cons (pv 8) pa_nil)))
      (C8.pss_cut (ps_if (pt_cmpR op_eq (pe_callB call_len_seq (by rfl) ml PySem.boot_len (pa_cons (pv 2) pa_nil)) pe_int (nomark _))
          (pss_one (ps_expr (pe_bm PySem.F.plainAttrs_list PySem.F.slot_list_append PySem.F.type_list_append mt_append (pv 2) (pa_cons pe_int pa_nil)))) pss_nil)
      (pss_cons (ps_set (i := 3) scDraws.nd rfl (.inl rfl) (pe_callTy call_list_of (by rfl) mls (by decide +kernel) (pa_cons (pv 2) pa_nil)))
      (pss_cons (ps_set (i := 4) scDraws.nd rfl (.inl rfl) (pe_lst pa_nil))
      (pss_cons (ps_for PassesOwn.never rfl (pi_range1 (by rfl) mr (pa_cons (pv 1) pa_nil)) (pg_name (i := 5) scDraws.nd rfl (.inl rfl))
          (pss_cons (ps_set (i := 6) scDraws.nd rfl (.inl rfl) (pe_op op_modN (pv 5) (pe_callB call_len_seq (by rfl) ml PySem.boot_len (pa_cons (pv 2) pa_nil))))
          (pss_one (ps_if (pt_cmpR op_ge (pe_ix ix_list (pv 2) (pv 6) (fun _ _ => rfl)) (pe_op op_pow pe_int pe_int) (nomark _))
            (pss_cons (ps_expr (pe_bm PySem.F.plainAttrs_list PySem.F.slot_list_append PySem.F.type_list_append mt_append (pv 4)
                (pa_cons (pe_op op_modN (pe_callTy call_int1 (by rfl) mi (by decide +kernel) (pa_cons (pe_ix ix_list (pv 3) (pv 6) (fun _ _ => rfl)) pa_nil)) pe_int) pa_nil)))
              (pss_one (ps_asg (pe_op op_fdivN (pe_ix ix_list (pv 3) (pv 6) (fun _ _ => rfl)) pe_int) (pg_sub (pv 3) (pv 6) set_list))))
            (pss_cons (ps_set (i := 7) scDraws.nd rfl (.inl rfl) (pe_op op_modN (pe_callTy call_int1 (by rfl) mi (by decide +kernel)
                (pa_cons (pe_op op_add (pe_op op_add (pe_op op_mul (pe_ix ix_list (pv 2) (pv 6) (fun _ _ => rfl)) pe_int) (pe_op op_mul (pv 5) pe_int)) pe_int) pa_nil)) pe_int))
              (pss_one (ps_expr (pe_bm PySem.F.plainAttrs_list PySem.F.slot_list_append PySem.F.type_list_append mt_append (pv 4)
                (pa_cons (pe_op op_modN (pe_callTy call_int1 (by rfl) mi (by decide +kernel) (pa_cons (pe_op op_add (pe_op op_add (pe_op op_mul (pv 7) (pv 7)) (pe_op op_mul pe_int (pv 7))) (pv 5)) pa_nil)) pe_int) pa_nil)))))))))
      (pss_cons (ps_expr (pe_bm0 PySem.F.plainAttrs_list PySem.F.slot_list_reverse PySem.F.type_list_reverse mt_reverse (pv 4)))
      (pss_one (ps_ret (pv 4)))))))), ?_⟩
    -- the cells
    refine ⟨.ref a, rfl, a, rfl, ⟨_, hS⟩, fun c nc => ?_⟩
    refine lc_list (K := K) (a := a) (xs := ns.map V.int) (fun i H' => H' = upd H c (.lst ((ns.take i).map V.int))) rfl (fun i H' _ e => ?_) (fun i x H' hx e => ?_) (fun H' e => ?_)
    · subst e
      exact (same_new nc).seq hS
    · subst e
      obtain ⟨n, hn, rfl⟩ := ints_at hx
      refine ⟨rfl, lcY ?_⟩
      refine iteT ?_
      refine ⟨.int n, rfl, .inl ⟨n, rfl, _, upd_same, ?_, ?_⟩⟩
      · rw [List.length_map, List.length_take]
        exact small (by omega)
      · show upd (upd H c _) c _ = _
        rw [upd_upd, take_snoc hn, List.map_append]
        rfl
    · subst e
      rw [List.length_map, List.take_length]
      have sc1 : Same H (upd H c (.lst (ns.map V.int))) := same_new nc
      -- if there is none: one cell
      refine ⟨fun σ' H1 => ∃ cs : List Int, σ' = [some (.ref a), some (.int m), some (.ref c), none, none, none, none, none, none] ∧ Same H H1 ∧ H1 c = some (.lst (cs.map V.int)) ∧ 0 < cs.length ∧ cs.length ≤ 1000, ?_, ?_⟩
      · refine ⟨.ref c, rfl, c, _, rfl, .inl (SqL.of upd_same), rfl, _, rfl, ite2 (fun e => ?_) (fun e => ?_)⟩
        · have e0 : ((ns.map V.int).length : Int) = 0 := V.int.inj (of_decide_eq_true e)
          have e1 : ns = [] := by
            cases ns with
            | nil => rfl
            | cons x r =>
              rw [List.length_map, List.length_cons] at e0
              omega
          subst e1
          refine ⟨.ref c, rfl, .inl ⟨rfl, _, SqL.of upd_same⟩, c, _, .int 0, rfl, rfl, upd_same, small (by simp), ?_⟩
          exact ⟨[0], rfl, by rw [upd_upd]; exact same_new nc, upd_same, by simp, by simp⟩
        · refine ⟨ns, rfl, sc1, upd_same, ?_, hlen⟩
          refine List.length_pos_iff.mpr fun z => ?_
          subst z
          exact e (decide_eq_true rfl)
      · rintro σ' H1 ⟨cs, rfl, s1, hc, hl0, hl1⟩
        -- rest, draws
        refine ⟨.ref c, rfl, c, _, rfl, .inl (SqL.of hc), fun r nr => ?_⟩
        have ncr : c ≠ r := ne_of_none hc nr
        refine ⟨small' (by simp), fun d nd => ?_⟩
        have ndr : r ≠ d := fun e => by rw [← e, upd_same] at nd; cases nd
        have nd1 : H1 d = none := by rw [upd_ne ndr.symm] at nd; exact nd
        have ncd : c ≠ d := ne_of_none hc nd1
        have s2 : Same H1 (upd (upd H1 r (.lst (cs.map V.int))) d (.lst [])) := (same_new nr).trans (same_new nd)
        refine ⟨.int m, rfl, m, rfl, by omega, by omega, ?_⟩
        refine for_range (lo := 0) (n := m.toNat) (fun i σ H3 => ∃ (rs ds : List Int) (y5 y6 y7 : Option V), σ = [some (.ref a), some (.int m), some (.ref c), some (.ref r), some (.ref d), y5, y6, y7, none] ∧ Same H H3 ∧ H3 c = some (.lst (cs.map V.int)) ∧
          H3 r = some (.lst (rs.map V.int)) ∧ rs.length = cs.length ∧ H3 d = some (.lst (ds.map V.int)) ∧ ds.length = i) ?_ (fun i σ H3 hi hP => ?_) (fun σ H3 hP => ?_)
        · refine ⟨cs, [], none, none, none, rfl, s1.trans s2, ?_, ?_, rfl, upd_same, rfl⟩
          · rw [upd_ne ncd, upd_ne ncr]; exact hc
          · rw [upd_ne ndr]; exact upd_same
        · obtain ⟨rs, ds, y5, y6, y7, rfl, s3, hc3, hr3, hl3, hd3, hl4⟩ := hP
          have nH : ∀ b o, H b = some o → b ≠ r ∧ b ≠ d := fun b o e => ⟨ne_of_none (s1 _ _ e) nr, ne_of_none (s1 _ _ e) nd1⟩
          have i0 : (0 : Int) + (i : Nat) = (i : Int) := by omega
          rw [i0]
          -- at = k % len(cells)
          refine ⟨.int i, rfl, .ref c, rfl, c, _, rfl, .inl (SqL.of hc3), i, (cs.map V.int).length, rfl, rfl, by rw [List.length_map]; omega, ?_⟩
          have hlp : (0 : Int) < ((cs.map V.int).length : Nat) := by rw [List.length_map]; omega
          obtain ⟨j, hj⟩ : ∃ j : Nat, (i : Int).fmod ((cs.map V.int).length : Nat) = j := ⟨((i : Int).fmod ((cs.map V.int).length : Nat)).toNat, by have := Int.fmod_nonneg_of_pos (i : Int) hlp; omega⟩
          have hjl : j < cs.length := by have := Int.fmod_lt_of_pos (i : Int) hlp; rw [hj, List.length_map] at this; omega
          obtain ⟨cv, hcv⟩ := at_ex hjl
          obtain ⟨rv, hrv⟩ := at_ex (l := rs) (i := j) (by omega)
          have hcv' : (cs.map V.int)[j]? = some (.int cv) := by rw [List.getElem?_map, hcv]; rfl
          have hrv' : (rs.map V.int)[j]? = some (.int rv) := by rw [List.getElem?_map, hrv]; rfl
          refine ⟨.ref c, rfl, _, rfl, c, _, _, .int cv, rfl, rfl, SqL.of hc3, at_of hj hcv', 10, 18, rfl, rfl, ⟨by omega, by omega, by decide⟩, cv, 10 ^ 18, rfl, rfl, _, rfl, ite2 (fun _ => ?_) (fun _ => ?_)⟩
          · -- draws.append(int(rest[at]) % 1000)
            refine ⟨.ref d, rfl, .inl ⟨rfl, _, SqL.of hd3⟩, .ref r, rfl, _, rfl, r, _, _, .int rv, rfl, rfl, SqL.of hr3, at_of hj hrv', .inl ⟨rv, rfl, rv, 1000, rfl, rfl, by omega, ?_⟩⟩
            refine ⟨d, _, _, rfl, rfl, hd3, by rw [List.length_map]; exact small (by omega), ?_⟩
            -- rest[at] = rest[at] // 1000
            have hr4 : (upd H3 d (.lst (ds.map V.int ++ [V.int (rv.fmod 1000)]))) r = some (.lst (rs.map V.int)) := by rw [upd_ne ndr]; exact hr3
            refine ⟨.ref r, rfl, _, rfl, r, _, _, .int rv, rfl, rfl, SqL.of hr4, at_of hj hrv', rv, 1000, rfl, rfl, ⟨by omega, by decide⟩, ?_⟩
            refine ⟨.ref r, rfl, _, rfl, r, _, _, j, rfl, rfl, hr4, ?_, ?_⟩
            · rw [hj]
              unfold ixN
              rw [List.length_map, if_pos (by omega), if_pos (by omega)]
              rfl
            · refine ⟨rs.set j (rv.fdiv 1000), ds ++ [rv.fmod 1000], _, _, _, rfl, fun b o e => ?_, ?_, ?_, by rw [List.length_set]; exact hl3, ?_, by rw [List.length_append, hl4]; rfl⟩
              · rw [upd_ne (nH b o e).1, upd_ne (nH b o e).2]; exact s3 b o e
              · rw [upd_ne ncr, upd_ne ncd]; exact hc3
              · rw [upd_same, List.map_set]
              · rw [upd_ne ndr.symm, upd_same, List.map_append]; rfl
          · -- once
            refine ⟨.ref c, rfl, _, rfl, c, _, _, .int cv, rfl, rfl, SqL.of hc3, at_of hj hcv', cv, 48271, rfl, rfl, .inr ⟨by decide, by decide⟩, .int i, rfl, i, 69621, rfl, rfl, .inr ⟨by decide, by decide⟩, _, _, rfl, rfl, _, 11, rfl, rfl, .inl ⟨_, rfl, _, 2147483647, rfl, rfl, by omega, ?_⟩⟩
            have z0 : 0 ≤ (cv * 48271 + (i : Int) * 69621 + 11).fmod 2147483647 := Int.fmod_nonneg_of_pos _ (by decide)
            have z1 : (cv * 48271 + (i : Int) * 69621 + 11).fmod 2147483647 < 2147483647 := Int.fmod_lt_of_pos _ (by decide)
            refine ⟨.ref d, rfl, .inl ⟨rfl, _, SqL.of hd3⟩, _, rfl, _, rfl, (cv * 48271 + (i : Int) * 69621 + 11).fmod 2147483647, _, rfl, rfl, .inl ⟨by omega, by omega⟩, _, rfl, 3, _, rfl, rfl, .inl ⟨by decide, by decide⟩, _, _, rfl, rfl, .int i, rfl, _, _, rfl, rfl, .inl ⟨_, rfl, _, 1000003, rfl, rfl, by omega, ?_⟩⟩
            refine ⟨d, _, _, rfl, rfl, hd3, by rw [List.length_map]; exact small (by omega), ?_⟩
            refine ⟨rs, ds ++ [((cv * 48271 + (i : Int) * 69621 + 11).fmod 2147483647 * (cv * 48271 + (i : Int) * 69621 + 11).fmod 2147483647 + 3 * (cv * 48271 + (i : Int) * 69621 + 11).fmod 2147483647 + (i : Int)).fmod 1000003], _, _, _, rfl, fun b o e => ?_, ?_, ?_, hl3, ?_, by rw [List.length_append, hl4]; rfl⟩
            · rw [upd_ne (nH b o e).2]; exact s3 b o e
            · rw [upd_ne ncd]; exact hc3
            · rw [upd_ne ndr]; exact hr3
            · rw [upd_same, List.map_append]; rfl
        · obtain ⟨rs, ds, y5, y6, y7, rfl, s3, hc3, hr3, hl3, hd3, hl4⟩ := hP
          refine ⟨.ref d, rfl, .inl ⟨rfl, _, SqL.of hd3⟩, d, _, rfl, rfl, hd3, ?_⟩
          refine ⟨.ref d, rfl, ?_⟩
          have hdn : H d = none := s1.free nd1
          refine q _ d ds.reverse (fun b o e => ?_) hdn ?_
          · rw [upd_ne (ne_of_none e hdn)]; exact s3 b o e
          · rw [upd_same, List.map_reverse]
end
end WB
set_option Elab.async false
set_option linter.all false
set_option autoImplicit false
set_option maxRecDepth 100000
/-! The law's small drawers. -/
namespace WB
open PySem PySem.Spec PyProof.Rows L2 WM
/-! ### lists that a store at d does not touch -/
def SqD (K : PySem.W.Frag) (H : Hp) (d a : Addr) (xs : List V) : Prop := SqL K H a xs ∧ (a ≠ d ∨ ∀ H', SqL K H' a xs)
section
variable {K : PySem.W.Frag} {H H1 : Hp} {d a : Addr} {xs : List V}
theorem SqD.but (b : But d H H1) (h : SqD K H d a xs) : SqD K H1 d a xs := by
  obtain ⟨h1, h2⟩ := h
  rcases h2 with h2 | h2
  · exact ⟨b.seq h1 h2, .inl h2⟩
  · exact ⟨h2 _, .inr h2⟩
theorem SqD.same (b : Same H H1) (h : SqD K H d a xs) : SqD K H1 d a xs := h.but (Same.but b)
theorem SqD.of (h : SqL K H a xs) (n : H d = none) : SqD K H d a xs := by
  refine ⟨h, ?_⟩
  rcases h with (h | ⟨o, h⟩) | h
  · exact .inl (ne_of_none h n)
  · exact .inl (ne_of_none h n)
  · exact .inr fun _ => .inr h
theorem SqD.lst (h : H a = some (.lst xs)) (n : a ≠ d) : SqD K H d a xs := ⟨SqL.of h, .inl n⟩
end
/-! ### values by name -/
abbrev nul : Str := ""
def valAt : List Str → List Int → Str → Int
  | f :: fs, n :: ns, x => if f = x then n else valAt fs ns x
  | _, _, _ => 0
theorem valAt_ok : ∀ (fs : List Str) (ns : List Int) (x : Str), fs.length = ns.length → (x ∈ fs ∨ x = nul) → ∃ j : Nat, (fs ++ [nul])[j]? = some x ∧ (∀ m : Nat, m < j → (fs ++ [nul])[m]? ≠ some x) ∧ (ns ++ [0])[j]? = some (valAt fs ns x)
  | [], [], x, _, h => by
    have e : x = nul := h.resolve_left List.not_mem_nil
    subst e
    exact ⟨0, rfl, fun m hm => absurd hm (Nat.not_lt_zero _), rfl⟩
  | f :: fs, n :: ns, x, hl, h => by
    by_cases e : f = x
    · subst e
      exact ⟨0, rfl, fun m hm => absurd hm (Nat.not_lt_zero _), by simp [valAt]⟩
    · have h' : x ∈ fs ∨ x = nul := by
        rcases h with h | h
        · rcases List.mem_cons.mp h with z | z
          · exact absurd z.symm e
          · exact .inl z
        · exact .inr h
      obtain ⟨j, h1, h2, h3⟩ := valAt_ok fs ns x (by simpa using hl) h'
      refine ⟨j + 1, by simpa using h1, fun m hm => ?_, ?_⟩
      · cases m with
        | zero =>
          intro z
          have : f = x := by simpa using z
          exact e this
        | succ m =>
          intro z
          exact h2 m (by omega) (by simpa using z)
      · rw [show valAt (f :: fs) (n :: ns) x = valAt fs ns x by simp [valAt, e]]
        simpa using h3
  | [], _ :: _, _, hl, _ => by simp at hl
  | _ :: _, [], _, hl, _ => by simp at hl
/-- the place of a text among texts, as list.index asks for it -/
theorem ix_str {l : List Str} {j : Nat} {x : Str} (h1 : l[j]? = some x) (h2 : ∀ m, m < j → l[m]? ≠ some x) :
    (l.map V.str)[j]? = some (.str x) ∧ eqV (.str x) (.str x) = true ∧ ∀ (m : Nat) (z' : V), m < j → (l.map V.str)[m]? = some z' → eqV z' (.str x) = false := by
  refine ⟨by rw [List.getElem?_map, h1]; rfl, beq_self_eq_true x, fun m z' hm hz => ?_⟩
  obtain ⟨n, hn, rfl⟩ := strs_at hz
  refine beq_eq_false_iff_ne.mpr fun e => ?_
  subst e
  exact h2 m hm hn
theorem flat_str (l : List Str) : (l.map V.str).all flatV = true := by
  rw [List.all_map]
  exact List.all_eq_true.mpr fun _ _ => rfl
section
variable {P : Program} {w : World} {K : PySem.W.Frag} {mg : Str → Option Value} {base : Heap}
/-! ### _law_size -/
def spSize (K : PySem.W.Frag) : Sp := fun vs H Q _ => ∃ (d a : Addr) (ds ns : List Int), vs = [.ref d, .ref a] ∧ H d = some (.lst (ds.map V.int)) ∧ SqD K H d a (ns.map V.int) ∧ ∀ (ds' : List Int) (n : Int), Q (.int n) (upd H d (.lst (ds'.map V.int)))
theorem ok_size {f fT : Addr} {fd fdT : FuncData} {k : Nat} (F : Fun K "_law_size" "_law_size" sSize f fd) (FT : Fun K "_law_take" "_law_take" sTake fT fdT) (bT : Binds K fdT ["_law_draws_here", "_law_many"] [])
    (gT : mg "_law_take" = some (.ref fT)) (ml : mg "len" = none) (mi : mg "int" = none) : FnOk P w K mg base CX0 (k + 2) f fd ["_law_draws_here", "_law_script"] (spSize K) := by
  have GT : FnOk P w K mg base CX0 (k + 1) fT fdT ["_law_draws_here", "_law_many"] spTake := ok_take FT ml mi
  refine F.ok scSize (fun vs H Q E h => ?_) (fun cdv A outer s H vs Q E hr h => ?_)
  · obtain ⟨d, a, ds, ns, rfl, _⟩ := h
    rfl
  · obtain ⟨d, a, ds, ns, rfl, hd, hS, q⟩ := h
    refine ⟨_, pss_cons (ps_set (i := 2) scSize.nd rfl (.inl rfl) (pe_op op_sub (pe_call GT hr (by rfl) gT FT.kp bT .nil pass0 (pa_cons (pv 0) (pa_cons pe_int pa_nil))) pe_int))
      (pss_cons (ps_if (PW.pt (pw_and (pt_cmpR op_eq (pe_call GT hr (by rfl) gT FT.kp bT .nil pass0 (pa_cons (pv 0) (pa_cons pe_int pa_nil))) pe_int (nomark _))
          (pw_and1 (pt_cmpR op_gt (pe_callB call_len_seq (by rfl) ml PySem.boot_len (pa_cons (pv 1) pa_nil)) pe_int (nomark _)))))
        (pss_one (ps_set (i := 2) scSize.nd rfl (.inl rfl) (pe_op op_add (pv 2) (pe_callTy call_int1 (by rfl) mi (by decide +kernel) (pa_cons (pe_ix ix_list (pv 1)
          (pe_call GT hr (by rfl) gT FT.kp bT .nil pass0 (pa_cons (pv 0) (pa_cons (pe_callB call_len_seq (by rfl) ml PySem.boot_len (pa_cons (pv 1) pa_nil)) pa_nil))) (fun _ _ => rfl)) pa_nil))))) pss_nil)
      (pss_one (ps_ret (pv 2)))), ?_⟩
    refine ⟨.ref d, rfl, d, ds, 9, rfl, hd, by decide, fun ds1 k1 h0 h1 => ?_⟩
    refine ⟨k1, 4, rfl, rfl, ?_⟩
    have b1 : ∀ l, But d H (upd H d l) := fun l => But.upd
    refine ⟨.ref d, rfl, d, ds1, 4, rfl, upd_same, by decide, fun ds2 k2 h2 h3 => ?_⟩
    rw [upd_upd]
    refine ⟨rfl, _, rfl, ite2 (fun _ => ?_) (fun _ => ?_)⟩
    · refine ⟨.ref a, rfl, a, _, rfl, .inl (hS.but (b1 _)).1, _, 0, rfl, rfl, _, rfl, ite2 (fun e => ?_) (fun _ => ?_)⟩
      · have e0 : (0 : Int) < ((ns.map V.int).length : Nat) := of_decide_eq_true e
        refine ⟨.int (k1 - 4), rfl, .ref a, rfl, .ref d, rfl, .ref a, rfl, a, _, rfl, .inl (hS.but (b1 _)).1, d, ds2, _, rfl, upd_same, e0, fun ds3 k3 h4 h5 => ?_⟩
        rw [upd_upd]
        rw [List.length_map] at h5
        obtain ⟨j, rfl⟩ : ∃ j : Nat, k3 = j := ⟨k3.toNat, by omega⟩
        obtain ⟨n, hn⟩ := at_ex (l := ns) (i := j) (by omega)
        refine ⟨a, _, _, .int n, rfl, rfl, (hS.but (b1 _)).1, atI_nat (by rw [List.getElem?_map, hn]; rfl), .inl ⟨n, rfl, _, _, rfl, rfl, _, rfl, ?_⟩⟩
        exact q _ _
      · exact ⟨_, rfl, q _ _⟩
    · exact ⟨_, rfl, q _ _⟩
/-! ### _law_word -/
def spWord : Sp := fun vs H Q _ => ∃ n : Int, vs = [.int n] ∧ ∀ z : Str, PyData.strOk z = true → Q (.str z) H
def SOk (l : List Str) : Prop := ∀ x, x ∈ l → PyData.strOk x = true
theorem SOk.app {l r : List Str} (h : SOk l) (g : SOk r) : SOk (l ++ r) := fun x hx => (List.mem_append.mp hx).elim (h x) (g x)
theorem strOk_app {a b : Str} (h : PyData.strOk a = true) (g : PyData.strOk b = true) : PyData.strOk (a ++ b) = true := by
  unfold PyData.strOk at h g ⊢
  show (a.cps ++ b.cps).all _ = true
  rw [Array.all_append, h, g]
  rfl
theorem abc_ok {i : Nat} {c : Nat} (h : ("abcdefghijklmnopqrstuvwxyz" : Str).cps[i]? = some c) : PyData.strOk ⟨#[c]⟩ = true := by
  have e : ("abcdefghijklmnopqrstuvwxyz" : Str).cps.all (· < 0x110000) = true := by decide +kernel
  obtain ⟨hi, hc⟩ := Array.getElem?_eq_some_iff.mp h
  have := Array.all_eq_true.mp e i hi
  rw [hc] at this
  simpa [PyData.strOk] using this
theorem abc_at (i : Nat) (h : i < 26) : ∃ c, ("abcdefghijklmnopqrstuvwxyz" : Str).cps[i]? = some c := by
  have e : ("abcdefghijklmnopqrstuvwxyz" : Str).cps.size = 26 := by decide +kernel
  exact ⟨_, Array.getElem?_eq_getElem (by rw [e]; exact h)⟩
theorem ok_word {f : Addr} {fd : FuncData} {k : Nat} (F : Fun K "_law_word" "_law_word" sWord f fd) (mi : mg "int" = none) (mr : mg "range" = none) : FnOk P w K mg base CX0 (k + 1) f fd ["_law_number"] spWord := by
  refine F.ok scWord (fun vs H Q E h => ?_) (fun cdv A outer s H vs Q E hr h => ?_)
  · obtain ⟨n, rfl, _⟩ := h
    rfl
  · obtain ⟨n, rfl, q⟩ := h
    refine ⟨_, pss_cons (ps_set (i := 1) scWord.nd rfl (.inl rfl) pe_str)
      (pss_cons (ps_for PassesOwn.never rfl (pi_range1 (by rfl) mr (pa_cons pe_int pa_nil)) (pg_name (i := 2) scWord.nd rfl (.inl rfl))
        (pss_cons (ps_if (pt_cmpR op_lt (pv 0) pe_int (nomark _)) (pss_one ps_break) pss_nil)
        (pss_cons (ps_set (i := 1) scWord.nd rfl (.inl rfl) (pe_op op_add_str (pe_item_str pe_str (pe_op op_modN (pe_callTy call_int1 (by rfl) mi (by decide +kernel) (pa_cons (pe_op op_sub (pv 0) pe_int) pa_nil)) pe_int) (fun _ _ => rfl)) (pv 1)))
        (pss_one (ps_set (i := 0) scWord.nd rfl (.inl rfl) (pe_op op_fdivN (pe_op op_sub (pv 0) pe_int) pe_int))))))
      (pss_one (ps_ret (pv 1)))), ?_⟩
    refine ⟨60, rfl, by decide, by decide, ?_⟩
    refine for_range (lo := 0) (n := 60) (fun i σ H3 => ∃ (m : Int) (z : Str) (y2 : Option V), σ = [some (.int m), some (.str z), y2] ∧ H3 = H ∧ z.length = i ∧ PyData.strOk z = true) ⟨n, "", none, rfl, rfl, by decide +kernel, by decide +kernel⟩ (fun i σ H3 hi hP => ?_) (fun σ H3 hP => ?_)
    · obtain ⟨m, z, y2, rfl, rfl, hz, hzo⟩ := hP
      refine ⟨.int m, rfl, m, 1, rfl, rfl, _, rfl, ite2 (fun _ => ?_) (fun _ => ?_)⟩
      · exact ⟨.str z, rfl, q z hzo⟩
      · have m0 : 0 ≤ (m - 1).fmod 26 := Int.fmod_nonneg_of_pos _ (by decide)
        have m1 : (m - 1).fmod 26 < 26 := Int.fmod_lt_of_pos _ (by decide)
        obtain ⟨c, hc⟩ := abc_at ((m - 1).fmod 26).toNat (by omega)
        refine ⟨.int m, rfl, m, 1, rfl, rfl, .inl ⟨_, rfl, _, 26, rfl, rfl, by omega, ?_⟩⟩
        refine ⟨"abcdefghijklmnopqrstuvwxyz", _, c, rfl, rfl, m0, Int.lt_trans m1 (by decide), ?_, hc, ?_⟩
        · have e : ("abcdefghijklmnopqrstuvwxyz" : Str).length = 26 := by decide +kernel
          rw [e]
          exact m1
        · have el : (⟨#[c]⟩ : Str).length = 1 := rfl
          refine ⟨.str z, rfl, _, z, rfl, rfl, by rw [el, hz]; exact small' (by omega), ?_⟩
          refine ⟨.int m, rfl, m, 1, rfl, rfl, _, 26, rfl, rfl, ⟨by decide, by decide⟩, ?_⟩
          exact ⟨_, _, _, rfl, rfl, by rw [PySem.Str.length_append, el, hz]; omega, strOk_app (abc_ok hc) hzo⟩
    · obtain ⟨m, z, y2, rfl, rfl, hz, hzo⟩ := hP
      exact ⟨.str z, rfl, q z hzo⟩
/-! ### _law_pool -/
def spPool : Sp := fun vs H Q _ => ∃ (d : Addr) (ds : List Int), vs = [.ref d] ∧ H d = some (.lst (ds.map V.int)) ∧
  ∀ H' p (zs : List Str) (ds' : List Int), But d H H' → H' d = some (.lst (ds'.map V.int)) → H p = none → p ≠ d → H' p = some (.lst (zs.map V.str)) → zs.length = 4 → SOk zs → Q (.ref p) H'
theorem ok_pool {f fT fW : Addr} {fd fdT fdW : FuncData} {k : Nat} (F : Fun K "_law_pool" "_law_pool" sPool f fd) (FT : Fun K "_law_take" "_law_take" sTake fT fdT) (bT : Binds K fdT ["_law_draws_here", "_law_many"] [])
    (gT : mg "_law_take" = some (.ref fT)) (FW : Fun K "_law_word" "_law_word" sWord fW fdW) (bW : Binds K fdW ["_law_number"] []) (gW : mg "_law_word" = some (.ref fW)) (ml : mg "len" = none) (mi : mg "int" = none) (mr : mg "range" = none) :
    FnOk P w K mg base CX0 (k + 2) f fd ["_law_draws_here"] spPool := by
  have GT : FnOk P w K mg base CX0 (k + 1) fT fdT ["_law_draws_here", "_law_many"] spTake := ok_take FT ml mi
  have GW : FnOk P w K mg base CX0 (k + 1) fW fdW ["_law_number"] spWord := ok_word FW mi mr
  refine F.ok scPool (fun vs H Q E h => ?_) (fun cdv A outer s H vs Q E hr h => ?_)
  · obtain ⟨d, ds, rfl, _⟩ := h
    rfl
  · obtain ⟨d, ds, rfl, hd, q⟩ := h
    refine ⟨_, pss_cons (ps_set (i := 1) scPool.nd rfl (.inl rfl) (pe_lst pa_nil))
      (pss_cons (ps_for PassesOwn.never rfl (pi_range1 (by rfl) mr (pa_cons pe_int pa_nil)) (pg_name (i := 2) scPool.nd rfl (.inl rfl))
        (pss_cons (ps_set (i := 3) scPool.nd rfl (.inl rfl) (pe_op op_add pe_int (pe_call GT hr (by rfl) gT FT.kp bT .nil pass0 (pa_cons (pv 0) (pa_cons pe_int pa_nil)))))
        (C8.pss_cut (ps_if (pt_cmpR op_eq (pe_call GT hr (by rfl) gT FT.kp bT .nil pass0 (pa_cons (pv 0) (pa_cons pe_int pa_nil))) pe_int (nomark _))
          (pss_one (ps_set (i := 3) scPool.nd rfl (.inl rfl) (pe_op op_add (pe_op op_add (pe_op op_add pe_int
            (pe_op op_mul (pe_call GT hr (by rfl) gT FT.kp bT .nil pass0 (pa_cons (pv 0) (pa_cons pe_int pa_nil))) (pe_op op_pow pe_int pe_int)))
            (pe_op op_mul (pe_call GT hr (by rfl) gT FT.kp bT .nil pass0 (pa_cons (pv 0) (pa_cons pe_int pa_nil))) pe_int))
            (pe_call GT hr (by rfl) gT FT.kp bT .nil pass0 (pa_cons (pv 0) (pa_cons pe_int pa_nil)))))) pss_nil)
        (pss_one (ps_expr (pe_bm PySem.F.plainAttrs_list PySem.F.slot_list_append PySem.F.type_list_append mt_append (pv 1) (pa_cons (pe_call GW hr (by rfl) gW FW.kp bW .nil pass0 (pa_cons (pv 3) pa_nil)) pa_nil)))))))
      (pss_one (ps_ret (pv 1)))), ?_⟩
    refine ⟨small' (by simp), fun p hp => ?_⟩
    have ndp : d ≠ p := ne_of_none hd hp
    refine ⟨4, rfl, by decide, by decide, ?_⟩
    refine for_range (lo := 0) (n := 4) (fun i σ H3 => ∃ (zs : List Str) (ds' : List Int) (y2 y3 : Option V), σ = [some (.ref d), some (.ref p), y2, y3] ∧ But d H H3 ∧ H3 d = some (.lst (ds'.map V.int)) ∧ H3 p = some (.lst (zs.map V.str)) ∧ zs.length = i ∧ SOk zs)
      ⟨[], ds, none, none, rfl, Same.but (same_new hp), by rw [upd_ne ndp]; exact hd, upd_same, rfl, fun _ h => absurd h List.not_mem_nil⟩ (fun i σ H3 hi hP => ?_) (fun σ H3 hP => ?_)
    · obtain ⟨zs, ds', y2, y3, rfl, hb, hd3, hp3, hl, hok⟩ := hP
      refine ⟨.ref d, rfl, d, ds', 30, rfl, hd3, by decide, fun ds1 k1 h0 h1 => ?_⟩
      refine ⟨1, k1, rfl, rfl, ?_⟩
      refine ⟨fun σ' H4 => ∃ (m : Int) (l : List Int) (y2 : Option V), σ' = [some (.ref d), some (.ref p), y2, some (.int m)] ∧ H4 = upd H3 d (.lst (l.map V.int)), ?_, ?_⟩
      · refine ⟨.ref d, rfl, d, ds1, 3, rfl, upd_same, by decide, fun ds2 k2 h2 h3 => ?_⟩
        rw [upd_upd]
        refine ⟨rfl, _, rfl, ite2 (fun _ => ?_) (fun _ => ?_)⟩
        · refine ⟨.ref d, rfl, d, ds2, 1000, rfl, upd_same, by decide, fun ds3 k3 h4 h5 => ?_⟩
          rw [upd_upd]
          refine ⟨10, 6, rfl, rfl, ⟨by omega, by omega, by decide⟩, k3, _, rfl, rfl, .inl ⟨by omega, by omega⟩, 1, _, rfl, rfl, ?_⟩
          refine ⟨.ref d, rfl, d, ds3, 1000, rfl, upd_same, by decide, fun ds4 k4 h6 h7 => ?_⟩
          rw [upd_upd]
          refine ⟨k4, 1000, rfl, rfl, .inl ⟨by omega, by omega⟩, _, _, rfl, rfl, ?_⟩
          refine ⟨.ref d, rfl, d, ds4, 1000, rfl, upd_same, by decide, fun ds5 k5 h8 h9 => ?_⟩
          rw [upd_upd]
          exact ⟨_, k5, rfl, rfl, _, ds5, _, rfl, rfl⟩
        · exact ⟨_, ds2, _, rfl, rfl⟩
      · rintro σ' H4 ⟨m, l, y2', rfl, rfl⟩
        have hp4 : (upd H3 d (.lst (l.map V.int))) p = some (.lst (zs.map V.str)) := by rw [upd_ne ndp.symm]; exact hp3
        refine ⟨.ref p, rfl, .inl ⟨rfl, _, SqL.of hp4⟩, .int m, rfl, m, rfl, fun z hzo => ?_⟩
        refine ⟨p, _, _, rfl, rfl, hp4, by rw [List.length_map]; exact small (by omega), ?_⟩
        refine ⟨zs ++ [z], l, _, _, rfl, fun b o n e => ?_, ?_, ?_, by rw [List.length_append, hl]; rfl, hok.app fun x hx => by rw [List.mem_singleton.mp hx]; exact hzo⟩
        · rw [upd_ne (ne_of_none e hp), upd_ne n]
          exact hb b o n e
        · rw [upd_ne ndp]
          exact upd_same
        · rw [upd_same, List.map_append]
          rfl
    · obtain ⟨zs, ds', y2, y3, rfl, hb, hd3, hp3, hl, hok⟩ := hP
      exact ⟨.ref p, rfl, q H3 p zs ds' hb hd3 hp ndp.symm hp3 hl hok⟩
end
end WB
set_option Elab.async false
set_option linter.all false
set_option autoImplicit false
set_option maxRecDepth 100000
/-! Drawn literals. -/
namespace WB
open PySem PySem.Spec PyProof.Rows L2 WM
/-- the names of a literal are among the fields and the blank -/
def Within (fs : List Str) (l : Lit) : Prop := (l.x ∈ fs ∨ l.x = nul) ∧ (l.y ∈ fs ∨ l.y = nul)
theorem within_of {fs : List Str} {l : Lit} {x y : Str} {c : Int} (e : l.bnd = (x, y, c)) (hx : x ∈ fs ∨ x = nul) (hy : y ∈ fs ∨ y = nul) : Within fs l := by
  unfold Lit.bnd at e
  split at e
  · injection e with e1 e2
    injection e2 with e2 _
    exact ⟨by rw [e1]; exact hx, by rw [e2]; exact hy⟩
  · injection e with e1 e2
    injection e2 with e2 _
    exact ⟨by rw [e2]; exact hy, by rw [e1]; exact hx⟩
theorem within_bnd {fs : List Str} {l : Lit} (h : Within fs l) : (l.bnd.1 ∈ fs ∨ l.bnd.1 = nul) ∧ (l.bnd.2.1 ∈ fs ∨ l.bnd.2.1 = nul) := by
  unfold Lit.bnd
  split
  · exact h
  · exact ⟨h.2, h.1⟩
theorem name_at {fs : List Str} {j : Nat} {x : Str} (h : (nul :: fs)[j]? = some x) : x ∈ fs ∨ x = nul := by
  cases j with
  | zero => exact .inr (by simpa using h.symm)
  | succ j => exact .inl (List.mem_of_getElem? (by simpa using h))
section
variable {P : Program} {w : World} {K : PySem.W.Frag} {mg : Str → Option Value} {base : Heap}
/-! ### _law_two -/
def spTwo (K : PySem.W.Frag) : Sp := fun vs H Q _ => ∃ (d a : Addr) (ds : List Int) (fs : List Str), vs = [.ref d, .ref a] ∧ H d = some (.lst (ds.map V.int)) ∧ SqD K H d a (fs.map V.str) ∧ 0 < fs.length ∧ fs.length ≤ 1000 ∧
  ∀ H' p (x y : Str) (ds' : List Int), But d H H' → H' d = some (.lst (ds'.map V.int)) → H p = none → p ≠ d → H' p = some (.lst [.str x, .str y]) → (x ∈ fs ∨ x = nul) → (y ∈ fs ∨ y = nul) → Q (.ref p) H'
theorem ok_two {f fT : Addr} {fd fdT : FuncData} {k : Nat} (F : Fun K "_law_two" "_law_two" sTwo f fd) (FT : Fun K "_law_take" "_law_take" sTake fT fdT) (bT : Binds K fdT ["_law_draws_here", "_law_many"] [])
    (gT : mg "_law_take" = some (.ref fT)) (ml : mg "len" = none) (mi : mg "int" = none) (mls : mg "list" = none) : FnOk P w K mg base CX0 (k + 2) f fd ["_law_draws_here", "_law_fields_here"] (spTwo K) := by
  have GT : FnOk P w K mg base CX0 (k + 1) fT fdT ["_law_draws_here", "_law_many"] spTake := ok_take FT ml mi
  refine F.ok scTwo (fun vs H Q E h => ?_) (fun cdv A outer s H vs Q E hr h => ?_)
  · obtain ⟨d, a, ds, ns, rfl, _⟩ := h
    rfl
  · obtain ⟨d, a, ds, fs, rfl, hd, hF, hl0, hl1, q⟩ := h
    refine ⟨_, pss_cons (ps_set (i := 2) scTwo.nd rfl (.inl rfl) (pe_op op_cat (pe_lst (pa_cons pe_str pa_nil)) (pe_callTy call_list_of (by rfl) mls (by decide +kernel) (pa_cons (pv 1) pa_nil))))
      (pss_cons (ps_set (i := 3) scTwo.nd rfl (.inl rfl) (pe_call GT hr (by rfl) gT FT.kp bT .nil pass0 (pa_cons (pv 0) (pa_cons (pe_callB call_len_seq (by rfl) ml PySem.boot_len (pa_cons (pv 2) pa_nil)) pa_nil))))
      (pss_cons (ps_set (i := 4) scTwo.nd rfl (.inl rfl) (pe_op op_modN (pe_callTy call_int1 (by rfl) mi (by decide +kernel) (pa_cons (pe_op op_add (pe_op op_add (pv 3) pe_int)
          (pe_call GT hr (by rfl) gT FT.kp bT .nil pass0 (pa_cons (pv 0) (pa_cons (pe_op op_sub (pe_callB call_len_seq (by rfl) ml PySem.boot_len (pa_cons (pv 2) pa_nil)) pe_int) pa_nil)))) pa_nil))
          (pe_callB call_len_seq (by rfl) ml PySem.boot_len (pa_cons (pv 2) pa_nil))))
      (pss_one (ps_ret (pe_lst (pa_cons (pe_ix ix_list (pv 2) (pv 3) (fun _ _ => rfl)) (pa_cons (pe_ix ix_list (pv 2) (pv 4) (fun _ _ => rfl)) pa_nil))))))), ?_⟩
    -- names
    refine ⟨small' (by simp), fun p1 n1 => ?_⟩
    have s1 : Same H (upd H p1 (.lst [.str nul])) := same_new n1
    refine ⟨.ref a, rfl, a, _, rfl, .inl (hF.same s1).1, fun p2 n2 => ?_⟩
    have s2 := s1.trans (same_new (o := .lst (fs.map V.str)) n2)
    have n12 : p1 ≠ p2 := fun e => by rw [← e, upd_same] at n2; cases n2
    refine ⟨p1, p2, [.str nul], fs.map V.str, rfl, rfl, by rw [upd_ne n12]; exact upd_same, upd_same, by rw [List.length_map]; exact small' (by simp; omega), fun c nc => ?_⟩
    have s3 := s2.trans (same_new (o := .lst ([.str nul] ++ fs.map V.str)) nc)
    generalize hH1 : upd (upd (upd H p1 (.lst [.str nul])) p2 (.lst (fs.map V.str))) c (.lst ([.str nul] ++ fs.map V.str)) = H1 at s3
    have hc1 : H1 c = some (.lst ((nul :: fs).map V.str)) := by rw [← hH1, upd_same]; rfl
    have nHc : H c = none := s2.free nc
    have hd1 := s3 _ _ hd
    have ncd : c ≠ d := (ne_of_none hd nHc).symm
    -- one
    refine ⟨.ref d, rfl, .ref c, rfl, c, _, rfl, .inl (SqL.of hc1), d, ds, _, rfl, hd1, by rw [List.length_map, List.length_cons]; omega, fun ds1 k1 h0 h1 => ?_⟩
    have hl : (((nul :: fs).map V.str).length : Int) = fs.length + 1 := by simp
    rw [hl] at h1
    have hc2 : ∀ l, (upd H1 d (.lst l)) c = some (.lst ((nul :: fs).map V.str)) := fun l => by rw [upd_ne ncd]; exact hc1
    -- other
    refine ⟨.int k1, rfl, k1, 1, rfl, rfl, .ref d, rfl, .ref c, rfl, c, _, rfl, .inl (SqL.of (hc2 _)), _, 1, rfl, rfl, d, ds1, _, rfl, upd_same, by rw [hl]; omega, fun ds2 k2 h2 h3 => ?_⟩
    rw [upd_upd]
    refine ⟨_, k2, rfl, rfl, .inl ⟨_, rfl, .ref c, rfl, c, _, rfl, .inl (SqL.of (hc2 _)), _, _, rfl, rfl, by omega, ?_⟩⟩
    have hp : (0 : Int) < (((nul :: fs).map V.str).length : Nat) := by rw [hl]; omega
    obtain ⟨j, hj⟩ : ∃ j : Nat, (k1 + 1 + k2).fmod (((nul :: fs).map V.str).length : Nat) = j := ⟨((k1 + 1 + k2).fmod (((nul :: fs).map V.str).length : Nat)).toNat, by have := Int.fmod_nonneg_of_pos (k1 + 1 + k2) hp; omega⟩
    have hj1 : j < (nul :: fs).length := by
      have := Int.fmod_lt_of_pos (k1 + 1 + k2) hp
      rw [hj, hl] at this
      simp; omega
    obtain ⟨i, rfl⟩ : ∃ i : Nat, k1 = i := ⟨k1.toNat, by omega⟩
    have hi1 : i < (nul :: fs).length := by simp; omega
    obtain ⟨x, hx⟩ := at_ex hi1
    obtain ⟨y, hy⟩ := at_ex hj1
    refine ⟨.ref c, rfl, .int i, rfl, c, _, _, .str x, rfl, rfl, SqL.of (hc2 _), atI_nat (by rw [List.getElem?_map, hx]; rfl), .ref c, rfl, _, rfl, c, _, _, .str y, rfl, rfl, SqL.of (hc2 _), at_of hj (by rw [List.getElem?_map, hy]; rfl), small' (by simp), fun p np => ?_⟩
    have s4 : But d H1 (upd H1 d (.lst (ds2.map V.int))) := But.upd
    have npd : d ≠ p := fun e => by rw [← e, upd_same] at np; cases np
    have np1 : H p = none := s3.free (by rw [upd_ne npd.symm] at np; exact np)
    refine q _ p x y ds2 ((Same.but s3).trans (s4.trans (Same.but (same_new np)))) ?_ np1 npd.symm upd_same (name_at hx) (name_at hy)
    rw [upd_ne npd]
    exact upd_same
/-! ### _law_any -/
def spAny (K : PySem.W.Frag) : Sp := fun vs H Q _ => ∃ (d a b : Addr) (ds ns : List Int) (fs : List Str), vs = [.ref d, .ref a, .ref b] ∧ H d = some (.lst (ds.map V.int)) ∧ SqD K H d a (fs.map V.str) ∧ 0 < fs.length ∧ fs.length ≤ 1000 ∧ SqD K H d b (ns.map V.int) ∧
  ∀ H' v l (ds' : List Int), But d H H' → H' d = some (.lst (ds'.map V.int)) → IsLit H' v l → Within fs l → Q v H'
theorem ok_any {f fT fS fL fW : Addr} {fd fdT fdS fdL fdW : FuncData} {k : Nat} (F : Fun K "_law_any" "_law_any" sAny f fd) (FT : Fun K "_law_take" "_law_take" sTake fT fdT) (bT : Binds K fdT ["_law_draws_here", "_law_many"] [])
    (gT : mg "_law_take" = some (.ref fT)) (FS : Fun K "_law_size" "_law_size" sSize fS fdS) (bS : Binds K fdS ["_law_draws_here", "_law_script"] []) (gS : mg "_law_size" = some (.ref fS))
    (FL : Fun K "_law_literal" "_law_literal" sLiteral fL fdL) (bL : Binds K fdL ["_law_x", "_law_y", "_law_c"] []) (gL : mg "_law_literal" = some (.ref fL))
    (FW : Fun K "_law_two" "_law_two" sTwo fW fdW) (bW : Binds K fdW ["_law_draws_here", "_law_fields_here"] []) (gW : mg "_law_two" = some (.ref fW))
    (ml : mg "len" = none) (mi : mg "int" = none) (mls : mg "list" = none) : FnOk P w K mg base CX0 (k + 3) f fd ["_law_draws_here", "_law_fields_here", "_law_script"] (spAny K) := by
  have GS : FnOk P w K mg base CX0 (k + 2) fS fdS ["_law_draws_here", "_law_script"] (spSize K) := ok_size FS FT bT gT ml mi
  have GL : FnOk P w K mg base CX0 (k + 2) fL fdL ["_law_x", "_law_y", "_law_c"] spLiteral := ok_literal FL
  have GW : FnOk P w K mg base CX0 (k + 2) fW fdW ["_law_draws_here", "_law_fields_here"] (spTwo K) := ok_two FW FT bT gT ml mi mls
  refine F.ok scAny (fun vs H Q E h => ?_) (fun cdv A outer s H vs Q E hr h => ?_)
  · obtain ⟨d, a, b, ds, ns, fs, rfl, _⟩ := h
    rfl
  · obtain ⟨d, a, b, ds, ns, fs, rfl, hd, hF, hl0, hl1, hS, q⟩ := h
    refine ⟨_, pss_cons (ps_set (i := 3) scAny.nd rfl (.inl rfl) (pe_call GW hr (by rfl) gW FW.kp bW .nil pass0 (pa_cons (pv 0) (pa_cons (pv 1) pa_nil))))
      (pss_one (ps_ret (pe_call GL hr (by rfl) gL FL.kp bL .nil pass0 (pa_cons (pe_ix ix_list (pv 3) pe_int (fun _ _ => rfl)) (pa_cons (pe_ix ix_list (pv 3) pe_int (fun _ _ => rfl))
        (pa_cons (pe_call GS hr (by rfl) gS FS.kp bS .nil pass0 (pa_cons (pv 0) (pa_cons (pv 2) pa_nil))) pa_nil)))))), ?_⟩
    refine ⟨.ref d, rfl, .ref a, rfl, d, a, ds, fs, rfl, hd, hF, hl0, hl1, fun H1 p x y ds1 b1 hd1 hp npd hp1 hx hy => ?_⟩
    refine ⟨.ref p, rfl, p, _, 0, .str x, rfl, rfl, SqL.of hp1, atI_nat (j := 0) rfl, .ref p, rfl, p, _, 1, .str y, rfl, rfl, SqL.of hp1, atI_nat (j := 1) rfl, .ref d, rfl, .ref b, rfl, d, b, ds1, ns, rfl, hd1, hS.but b1, fun ds2 n => ?_⟩
    refine ⟨x, y, n, rfl, fun H' v l s1 hl e => ?_⟩
    exact q H' v l ds2 (b1.trans (But.upd.trans (Same.but s1))) (s1 _ _ upd_same) hl (within_of e hx hy)
/-! ### _law_true -/
def spTrue (K : PySem.W.Frag) : Sp := fun vs H Q _ => ∃ (d a n b : Addr) (ds ns ss : List Int) (fs : List Str), vs = [.ref d, .ref a, .ref n, .ref b] ∧ H d = some (.lst (ds.map V.int)) ∧ SqD K H d a (fs.map V.str) ∧ 0 < fs.length ∧ fs.length ≤ 1000 ∧
  SqD K H d n (ns.map V.int) ∧ ns.length = fs.length ∧ SqD K H d b (ss.map V.int) ∧
  ∀ H' v l (ds' : List Int), But d H H' → H' d = some (.lst (ds'.map V.int)) → IsLit H' v l → Within fs l → valAt fs ns l.bnd.1 - valAt fs ns l.bnd.2.1 ≤ l.bnd.2.2 → Q v H'
theorem ok_true {f fT fS fL fW : Addr} {fd fdT fdS fdL fdW : FuncData} {k : Nat} (F : Fun K "_law_true" "_law_true" sTrue f fd) (FT : Fun K "_law_take" "_law_take" sTake fT fdT) (bT : Binds K fdT ["_law_draws_here", "_law_many"] [])
    (gT : mg "_law_take" = some (.ref fT)) (FS : Fun K "_law_size" "_law_size" sSize fS fdS) (bS : Binds K fdS ["_law_draws_here", "_law_script"] []) (gS : mg "_law_size" = some (.ref fS))
    (FL : Fun K "_law_literal" "_law_literal" sLiteral fL fdL) (bL : Binds K fdL ["_law_x", "_law_y", "_law_c"] []) (gL : mg "_law_literal" = some (.ref fL))
    (FW : Fun K "_law_two" "_law_two" sTwo fW fdW) (bW : Binds K fdW ["_law_draws_here", "_law_fields_here"] []) (gW : mg "_law_two" = some (.ref fW))
    (ml : mg "len" = none) (mi : mg "int" = none) (mls : mg "list" = none) (ma : mg "abs" = none) : FnOk P w K mg base CX0 (k + 3) f fd ["_law_draws_here", "_law_fields_here", "_law_numbers", "_law_script"] (spTrue K) := by
  have GT : FnOk P w K mg base CX0 (k + 2) fT fdT ["_law_draws_here", "_law_many"] spTake := ok_take FT ml mi
  have GS : FnOk P w K mg base CX0 (k + 2) fS fdS ["_law_draws_here", "_law_script"] (spSize K) := ok_size FS FT bT gT ml mi
  have GL : FnOk P w K mg base CX0 (k + 2) fL fdL ["_law_x", "_law_y", "_law_c"] spLiteral := ok_literal FL
  have GW : FnOk P w K mg base CX0 (k + 2) fW fdW ["_law_draws_here", "_law_fields_here"] (spTwo K) := ok_two FW FT bT gT ml mi mls
  refine F.ok scTrue (fun vs H Q E h => ?_) (fun cdv A outer s H vs Q E hr h => ?_)
  · obtain ⟨d, a, n, b, ds, ns, ss, fs, rfl, _⟩ := h
    rfl
  · obtain ⟨d, a, n, b, ds, ns, ss, fs, rfl, hd, hF, hl0, hl1, hN, hlN, hS, q⟩ := h
    refine ⟨_, pss_cons (ps_set (i := 4) scTrue.nd rfl (.inl rfl) (pe_call GW hr (by rfl) gW FW.kp bW .nil pass0 (pa_cons (pv 0) (pa_cons (pv 1) pa_nil))))
      (pss_cons (ps_set (i := 5) scTrue.nd rfl (.inl rfl) (pe_op op_cat (pe_callTy call_list_of (by rfl) mls (by decide +kernel) (pa_cons (pv 1) pa_nil)) (pe_lst (pa_cons pe_str pa_nil))))
      (pss_cons (ps_set (i := 6) scTrue.nd rfl (.inl rfl) (pe_op op_cat (pe_callTy call_list_of (by rfl) mls (by decide +kernel) (pa_cons (pv 2) pa_nil)) (pe_lst (pa_cons pe_int pa_nil))))
      (pss_cons (ps_set (i := 7) scTrue.nd rfl (.inl rfl) pe_int)
      (C8.pss_cut (ps_if (pt_cmpR op_eq (pe_call GT hr (by rfl) gT FT.kp bT .nil pass0 (pa_cons (pv 0) (pa_cons pe_int pa_nil))) pe_int (nomark _))
        (pss_one (ps_set (i := 7) scTrue.nd rfl (.inl rfl) (pe_callB call_abs (by rfl) ma (by decide +kernel) (pa_cons (pe_call GS hr (by rfl) gS FS.kp bS .nil pass0 (pa_cons (pv 0) (pa_cons (pv 3) pa_nil))) pa_nil)))) pss_nil)
      (pss_cons (ps_set (i := 8) scTrue.nd rfl (.inl rfl) (pe_op op_sub
          (pe_ix ix_list (pv 6) (pe_bm PySem.F.plainAttrs_list PySem.F.slot_list_index PySem.F.type_list_index mt_index (pv 5) (pa_cons (pe_ix ix_list (pv 4) pe_int (fun _ _ => rfl)) pa_nil)) (fun _ _ => rfl))
          (pe_ix ix_list (pv 6) (pe_bm PySem.F.plainAttrs_list PySem.F.slot_list_index PySem.F.type_list_index mt_index (pv 5) (pa_cons (pe_ix ix_list (pv 4) pe_int (fun _ _ => rfl)) pa_nil)) (fun _ _ => rfl))))
      (pss_one (ps_ret (pe_call GL hr (by rfl) gL FL.kp bL .nil pass0 (pa_cons (pe_ix ix_list (pv 4) pe_int (fun _ _ => rfl)) (pa_cons (pe_ix ix_list (pv 4) pe_int (fun _ _ => rfl))
        (pa_cons (pe_op op_add (pv 8) (pv 7)) pa_nil))))))))))), ?_⟩
    refine ⟨.ref d, rfl, .ref a, rfl, d, a, ds, fs, rfl, hd, hF, hl0, hl1, fun H1 p x y ds1 b1 hd1 hp npd hp1 hx hy => ?_⟩
    -- names
    refine ⟨.ref a, rfl, a, _, rfl, .inl (hF.but b1).1, fun q1 n1 => ?_⟩
    have s1 := same_new (o := .lst (fs.map V.str)) n1
    refine ⟨small' (by simp), fun q2 n2 => ?_⟩
    have n12 : q1 ≠ q2 := fun e => by rw [← e, upd_same] at n2; cases n2
    have s2 := s1.trans (same_new (o := .lst [.str nul]) n2)
    refine ⟨q1, q2, fs.map V.str, [.str nul], rfl, rfl, by rw [upd_ne n12]; exact upd_same, upd_same, by rw [List.length_map]; exact small' (by simp; omega), fun c nc => ?_⟩
    have s3 := s2.trans (same_new (o := .lst (fs.map V.str ++ [.str nul])) nc)
    generalize hH2 : upd (upd (upd H1 q1 (.lst (fs.map V.str))) q2 (.lst [.str nul])) c (.lst (fs.map V.str ++ [.str nul])) = H2 at s3
    have hc2 : H2 c = some (.lst ((fs ++ [nul]).map V.str)) := by rw [← hH2, upd_same, List.map_append]; rfl
    -- values
    refine ⟨.ref n, rfl, n, _, rfl, .inl (((hN.but b1).same s3)).1, fun r1 m1 => ?_⟩
    have t1 := same_new (o := .lst (ns.map V.int)) m1
    refine ⟨small' (by simp), fun r2 m2 => ?_⟩
    have m12 : r1 ≠ r2 := fun e => by rw [← e, upd_same] at m2; cases m2
    have t2 := t1.trans (same_new (o := .lst [.int 0]) m2)
    refine ⟨r1, r2, ns.map V.int, [.int 0], rfl, rfl, by rw [upd_ne m12]; exact upd_same, upd_same, by rw [List.length_map]; exact small' (by simp; omega), fun e ne => ?_⟩
    have t3 := t2.trans (same_new (o := .lst (ns.map V.int ++ [.int 0])) ne)
    generalize hH3 : upd (upd (upd H2 r1 (.lst (ns.map V.int))) r2 (.lst [.int 0])) e (.lst (ns.map V.int ++ [.int 0])) = H3 at t3
    have he3 : H3 e = some (.lst ((ns ++ [0]).map V.int)) := by rw [← hH3, upd_same, List.map_append]; rfl
    have hc3 := t3 _ _ hc2
    have st : Same H1 H3 := s3.trans t3
    have hd3 := st _ _ hd1
    have hp3 := st _ _ hp1
    have ncd : c ≠ d := fun z => by
      have := s2.free nc
      rw [z, hd1] at this; cases this
    have ned : e ≠ d := fun z => by
      have := (s3.trans t2).free ne
      rw [z, hd1] at this; cases this
    -- slack
    refine ⟨fun σ' H4 => ∃ (sl : Int) (l : List Int), σ' = [some (.ref d), some (.ref a), some (.ref n), some (.ref b), some (.ref p), some (.ref c), some (.ref e), some (.int sl), none] ∧ 0 ≤ sl ∧ H4 = upd H3 d (.lst (l.map V.int)), ?_, ?_⟩
    · refine ⟨.ref d, rfl, d, ds1, 2, rfl, hd3, by decide, fun ds2 k1 h0 h1 => ?_⟩
      refine ⟨rfl, _, rfl, ite2 (fun _ => ?_) (fun _ => ?_)⟩
      · refine ⟨.ref d, rfl, .ref b, rfl, d, b, ds2, ss, rfl, upd_same, ((hS.but b1).same st).but But.upd, fun ds3 z => ?_⟩
        rw [upd_upd]
        refine ⟨z, rfl, _, ds3, rfl, ?_, rfl⟩
        split <;> omega
      · exact ⟨0, ds2, rfl, Int.le_refl _, rfl⟩
    · rintro σ' H4 ⟨sl, l, rfl, hsl, rfl⟩
      have hp4 : (upd H3 d (.lst (l.map V.int))) p = some (.lst [.str x, .str y]) := by rw [upd_ne npd]; exact hp3
      have hc4 : (upd H3 d (.lst (l.map V.int))) c = some (.lst ((fs ++ [nul]).map V.str)) := by rw [upd_ne ncd]; exact hc3
      have he4 : (upd H3 d (.lst (l.map V.int))) e = some (.lst ((ns ++ [0]).map V.int)) := by rw [upd_ne ned]; exact he3
      obtain ⟨jx, x1, x2, x3⟩ := valAt_ok fs ns x hlN.symm hx
      obtain ⟨jy, y1, y2, y3⟩ := valAt_ok fs ns y hlN.symm hy
      obtain ⟨x4, x5, x6⟩ := ix_str x1 x2
      obtain ⟨y4, y5, y6⟩ := ix_str y1 y2
      refine ⟨.ref e, rfl, .ref c, rfl, .inl ⟨rfl, _, SqL.of hc4⟩, .ref p, rfl, p, _, 0, .str x, rfl, rfl, SqL.of hp4, atI_nat (j := 0) rfl, c, _, .str x, jx, .str x, rfl, rfl, SqL.of hc4, rfl, flat_str _, x4, x5, x6, e, _, _, .int (valAt fs ns x), rfl, rfl, SqL.of he4, atI_nat (by rw [List.getElem?_map, x3]; rfl), ?_⟩
      refine ⟨.ref e, rfl, .ref c, rfl, .inl ⟨rfl, _, SqL.of hc4⟩, .ref p, rfl, p, _, 1, .str y, rfl, rfl, SqL.of hp4, atI_nat (j := 1) rfl, c, _, .str y, jy, .str y, rfl, rfl, SqL.of hc4, rfl, flat_str _, y4, y5, y6, e, _, _, .int (valAt fs ns y), rfl, rfl, SqL.of he4, atI_nat (by rw [List.getElem?_map, y3]; rfl), _, _, rfl, rfl, ?_⟩
      refine ⟨.ref p, rfl, p, _, 0, .str x, rfl, rfl, SqL.of hp4, atI_nat (j := 0) rfl, .ref p, rfl, p, _, 1, .str y, rfl, rfl, SqL.of hp4, atI_nat (j := 1) rfl, _, rfl, .int sl, rfl, _, sl, rfl, rfl, x, y, _, rfl, fun H' v li u1 hli eb => ?_⟩
      refine q H' v li l (b1.trans ((Same.but st).trans (But.upd.trans (Same.but u1)))) (u1 _ _ upd_same) hli (within_of eb hx hy) ?_
      rw [eb]
      show valAt fs ns x - valAt fs ns y ≤ valAt fs ns x - valAt fs ns y + sl
      omega
end
end WB
set_option Elab.async false
set_option linter.all false
set_option autoImplicit false
set_option maxRecDepth 100000
/-! A round of literals. -/
namespace WB
open PySem PySem.Spec PyProof.Rows L2 WM
theorem atI_in {α : Type} {xs : List α} {i : Int} (h1 : -(xs.length : Int) ≤ i) (h2 : i < xs.length) : ∃ v, atI xs i = some v ∧ v ∈ xs := by
  have key : ∃ j, ixN xs.length i = some j ∧ j < xs.length := by
    unfold ixN
    by_cases h : 0 ≤ i
    · exact ⟨i.toNat, by rw [if_pos h, if_pos h2], by omega⟩
    · exact ⟨(i + xs.length).toNat, by rw [if_neg h, if_pos h1], by omega⟩
  obtain ⟨j, hj, hl⟩ := key
  refine ⟨xs[j], ?_, List.getElem_mem hl⟩
  unfold atI
  rw [hj]
  exact List.getElem?_eq_getElem hl
theorem int_in {us : List Int} {i : Int} (h1 : -(us.length : Int) ≤ i) (h2 : i < us.length) : ∃ u, atI (us.map V.int) i = some (.int u) ∧ u ∈ us := by
  obtain ⟨v, h, m⟩ := atI_in (xs := us.map V.int) (i := i) (by rw [List.length_map]; exact h1) (by rw [List.length_map]; exact h2)
  obtain ⟨u, hu, rfl⟩ := List.mem_map.mp m
  exact ⟨u, h, hu⟩
theorem name_in {fs : List Str} {i : Int} (h1 : 0 ≤ i) (h2 : i < fs.length + 1) : ∃ x, atI ((nul :: fs).map V.str) i = some (.str x) ∧ (x ∈ fs ∨ x = nul) := by
  obtain ⟨v, h, m⟩ := atI_in (xs := (nul :: fs).map V.str) (i := i) (by omega) (by simp; omega)
  obtain ⟨u, hu, rfl⟩ := List.mem_map.mp m
  refine ⟨u, h, ?_⟩
  rcases List.mem_cons.mp hu with e | e
  · exact .inr e
  · exact .inl e
theorem cut_ints (zs : List Int) (lo hi : Option Int) : ∃ ns : List Int, cutV (zs.map V.int) lo hi = ns.map V.int := by
  unfold cutV
  rw [← List.map_drop, ← List.map_take]
  exact ⟨_, rfl⟩
section
variable {P : Program} {w : World} {K : PySem.W.Frag} {mg : Str → Option Value} {base : Heap}
def spRound (K : PySem.W.Frag) : Sp := fun vs H Q _ => ∃ (d a b : Addr) (ds ns : List Int) (fs : List Str), vs = [.ref d, .ref a, .ref b] ∧ H d = some (.lst (ds.map V.int)) ∧ SqD K H d a (fs.map V.str) ∧ 0 < fs.length ∧ fs.length ≤ 8 ∧ SqD K H d b (ns.map V.int) ∧
  ∀ H' p vs ls (ds' : List Int), But d H H' → H' d = some (.lst (ds'.map V.int)) → H p = none → p ≠ d → H' p = some (.lst vs) → Al (IsLit H') vs ls → (∀ l ∈ ls, Within fs l) → ls.length ≤ 17 → Q (.ref p) H'
theorem ok_round {f fT fS fL : Addr} {fd fdT fdS fdL : FuncData} {k : Nat} (F : Fun K "_law_round" "_law_round" sRound f fd) (FT : Fun K "_law_take" "_law_take" sTake fT fdT) (bT : Binds K fdT ["_law_draws_here", "_law_many"] [])
    (gT : mg "_law_take" = some (.ref fT)) (FS : Fun K "_law_size" "_law_size" sSize fS fdS) (bS : Binds K fdS ["_law_draws_here", "_law_script"] []) (gS : mg "_law_size" = some (.ref fS))
    (FL : Fun K "_law_literal" "_law_literal" sLiteral fL fdL) (bL : Binds K fdL ["_law_x", "_law_y", "_law_c"] []) (gL : mg "_law_literal" = some (.ref fL))
    (ml : mg "len" = none) (mi : mg "int" = none) (mls : mg "list" = none) (mr : mg "range" = none) (ms : mg "sum" = none) : FnOk P w K mg base CX0 (k + 3) f fd ["_law_draws_here", "_law_fields_here", "_law_script"] (spRound K) := by
  have GT : FnOk P w K mg base CX0 (k + 2) fT fdT ["_law_draws_here", "_law_many"] spTake := ok_take FT ml mi
  have GS : FnOk P w K mg base CX0 (k + 2) fS fdS ["_law_draws_here", "_law_script"] (spSize K) := ok_size FS FT bT gT ml mi
  have GL : FnOk P w K mg base CX0 (k + 2) fL fdL ["_law_x", "_law_y", "_law_c"] spLiteral := ok_literal FL
  refine F.ok scRound (fun vs H Q E h => ?_) (fun cdv A outer s H vs Q E hr h => ?_)
  · obtain ⟨d, a, b, ds, ns, fs, rfl, _⟩ := h
    rfl
  · obtain ⟨d, a, b, ds, ns, fs, rfl, hd, hF, hl0, hl1, hS, q⟩ := h
    refine ⟨_, pss_cons (ps_set (i := 3) scRound.nd rfl (.inr rfl) (pe_op op_cat (pe_lst (pa_cons pe_str pa_nil)) (pe_callTy call_list_of (by rfl) mls (by decide +kernel) (pa_cons (pv 1) pa_nil))))
      (pss_cons (ps_set (i := 4) scRound.nd rfl (.inr rfl) (pe_lst (pa_cons (pe_call GT hr (by rfl) gT FT.kp bT .nil pass0 (pa_cons (pv 0) (pa_cons (pe_callB call_len_seq (by rfl) ml PySem.boot_len (pa_cons (pv 3) pa_nil)) pa_nil))) pa_nil)))
      (pss_cons (ps_for PassesOwn.never rfl (pi_range1 (by rfl) mr (pa_cons (pe_op op_add pe_int (pe_call GT hr (by rfl) gT FT.kp bT .nil pass0 (pa_cons (pv 0)
            (pa_cons (pe_op op_mul pe_int (pe_callB call_len_seq (by rfl) ml PySem.boot_len (pa_cons (pv 1) pa_nil))) pa_nil)))) pa_nil)) (pg_name (i := 5) scRound.nd rfl (.inl rfl))
          (pss_one (ps_expr (pe_bm PySem.F.plainAttrs_list PySem.F.slot_list_append PySem.F.type_list_append mt_append (pv 4)
            (pa_cons (pe_op op_modN (pe_callTy call_int1 (by rfl) mi (by decide +kernel) (pa_cons (pe_op op_add (pe_op op_add (pe_ix ix_list (pv 4) (pe_un un_neg pe_int) (fun _ _ => rfl)) pe_int)
              (pe_call GT hr (by rfl) gT FT.kp bT .nil pass0 (pa_cons (pv 0) (pa_cons (pe_op op_sub (pe_callB call_len_seq (by rfl) ml PySem.boot_len (pa_cons (pv 3) pa_nil)) pe_int) pa_nil)))) pa_nil))
              (pe_callB call_len_seq (by rfl) ml PySem.boot_len (pa_cons (pv 3) pa_nil))) pa_nil)))))
      (C8.pss_cut (ps_if (pt_cmpR op_eq (pe_call GT hr (by rfl) gT FT.kp bT .nil pass0 (pa_cons (pv 0) (pa_cons pe_int pa_nil))) pe_int (nomark _))
        (pss_one (ps_set (i := 4) scRound.nd rfl (.inr rfl) (pe_lc (own := [("_law_k", 5)]) (g := gName 5) (tt := tYes) rfl scRound.nd (pi_range1 (by rfl) mr (pa_cons (pe_callB call_len_seq (by rfl) ml PySem.boot_len (pa_cons (pv 3) pa_nil)) pa_nil))
          (blkOk_by (N := nRound) (sc := defScope sRound) (by decide +kernel)) (fun _ _ _ _ _ => pg_name (i := 5) scRound.nd rfl (Or.inl rfl)) (fun _ _ _ _ _ => pts_nil)
          (fun _ _ _ _ _ => pe_op op_modN (pe_callTy call_int1 (by rfl) mi (by decide +kernel) (pa_cons (pe_op op_add (pe_ix (ixl K) (pv 4) pe_int (fun _ _ => rfl)) (pv 5)) pa_nil)) (pe_callB (lens K) (by rfl) ml PySem.boot_len (pa_cons (pv 3) pa_nil)))))) pss_nil)
      (C8.pss_cut (ps_if (pt_cmpR op_eq (pe_ix ix_list (pv 4) (pe_un un_neg pe_int) (fun _ _ => rfl)) (pe_ix ix_list (pv 4) pe_int (fun _ _ => rfl)) (nomark _))
        (pss_one (ps_expr (pe_bm0 PySem.F.plainAttrs_list PySem.F.slot_list_pop PySem.F.type_list_pop mt_pop (pv 4)))) pss_nil)
      (pss_cons (ps_if (pt_cmpR op_lt (pe_callB call_len_seq (by rfl) ml PySem.boot_len (pa_cons (pv 4) pa_nil)) pe_int (nomark _)) (pss_one (ps_ret (pe_lst pa_nil))) pss_nil)
      (pss_cons (ps_set (i := 6) scRound.nd rfl (.inr rfl) (pe_lc (own := [("_law_k", 5)]) (g := gName 5) (tt := tYes) rfl scRound.nd (pi_range1 (by rfl) mr (pa_cons (pe_callB call_len_seq (by rfl) ml PySem.boot_len (pa_cons (pv 4) pa_nil)) pa_nil))
          (blkOk_by (N := nRound) (sc := defScope sRound) (by decide +kernel)) (fun _ _ _ _ _ => pg_name (i := 5) scRound.nd rfl (Or.inl rfl)) (fun _ _ _ _ _ => pts_nil)
          (fun _ _ _ _ _ => pe_call GS hr (by rfl) gS FS.kp bS .nil pass0 (pa_cons (pv 0) (pa_cons (pv 2) pa_nil)))))
      (pss_cons (ps_asg (pe_op op_sub (pe_op op_sub (pe_call GT hr (by rfl) gT FT.kp bT .nil pass0 (pa_cons (pv 0) (pa_cons pe_int pa_nil))) pe_int)
          (pe_callB (cr_sum rfl) (by rfl) ms (by decide +kernel) (pa_cons (pe_slice sl_list (pv 6) po_none (po_some (pe_un un_neg pe_int))) pa_nil))) (pg_sub (pv 6) (pe_un un_neg pe_int) set_list))
      (pss_one (ps_ret (pe_lc (own := [("_law_k", 5)]) (g := gName 5) (tt := tYes) rfl scRound.nd (pi_range1 (by rfl) mr (pa_cons (pe_callB call_len_seq (by rfl) ml PySem.boot_len (pa_cons (pv 4) pa_nil)) pa_nil))
          (blkOk_by (N := nRound) (sc := defScope sRound) (by decide +kernel)) (fun _ _ _ _ _ => pg_name (i := 5) scRound.nd rfl (Or.inl rfl)) (fun _ _ _ _ _ => pts_nil)
          (fun _ _ _ _ _ => pe_call GL hr (by rfl) gL FL.kp bL .nil pass0 (pa_cons (pe_ix (ixl K) (pv 3) (pe_ix (ixl K) (pv 4) (pe_op op_sub (pv 5) pe_int) (fun _ _ => rfl)) (fun _ _ => rfl))
            (pa_cons (pe_ix (ixl K) (pv 3) (pe_ix (ixl K) (pv 4) (pv 5) (fun _ _ => rfl)) (fun _ _ => rfl)) (pa_cons (pe_ix (ixl K) (pv 6) (pv 5) (fun _ _ => rfl)) pa_nil)))))))))))))), ?_⟩
    -- names
    refine ⟨small' (by simp), fun p1 n1 => ?_⟩
    have s1 : Same H (upd H p1 (.lst [.str nul])) := same_new n1
    refine ⟨.ref a, rfl, a, _, rfl, .inl (hF.same s1).1, fun p2 n2 => ?_⟩
    have s2 := s1.trans (same_new (o := .lst (fs.map V.str)) n2)
    have n12 : p1 ≠ p2 := fun e => by rw [← e, upd_same] at n2; cases n2
    refine ⟨p1, p2, [.str nul], fs.map V.str, rfl, rfl, by rw [upd_ne n12]; exact upd_same, upd_same, by rw [List.length_map]; exact small' (by simp; omega), fun c nc => ?_⟩
    have s3 := s2.trans (same_new (o := .lst ([.str nul] ++ fs.map V.str)) nc)
    generalize hH1 : upd (upd (upd H p1 (.lst [.str nul])) p2 (.lst (fs.map V.str))) c (.lst ([.str nul] ++ fs.map V.str)) = H1 at s3
    have hc1 : H1 c = some (.lst ((nul :: fs).map V.str)) := by rw [← hH1, upd_same]; rfl
    have nHc : H c = none := s2.free nc
    have hd1 := s3 _ _ hd
    have ncd : c ≠ d := (ne_of_none hd nHc).symm
    have hl : (((nul :: fs).map V.str).length : Int) = fs.length + 1 := by simp
    have hlp : (0 : Int) < (((nul :: fs).map V.str).length : Nat) := by rw [hl]; omega
    have hmod : ∀ z : Int, 0 ≤ z.fmod (((nul :: fs).map V.str).length : Nat) ∧ z.fmod (((nul :: fs).map V.str).length : Nat) < fs.length + 1 := fun z => ⟨Int.fmod_nonneg_of_pos _ hlp, Int.lt_of_lt_of_le (Int.fmod_lt_of_pos z hlp) (Int.le_of_eq hl)⟩
    -- at = [take]
    refine ⟨.ref d, rfl, .ref c, rfl, c, _, rfl, .inl (SqL.of hc1), d, ds, _, rfl, hd1, hlp, fun ds1 k1 h0 h1 => ?_⟩
    rw [hl] at h1
    refine ⟨small' (by simp), fun e ne => ?_⟩
    have ned : e ≠ d := fun z => by rw [z, upd_same] at ne; cases ne
    have ne1 : H1 e = none := by rw [upd_ne ned] at ne; exact ne
    have nec : e ≠ c := (ne_of_none hc1 ne1).symm
    have nHe : H e = none := s3.free ne1
    -- what stands through the loop
    have b2 : But d H (upd (upd H1 d (.lst (ds1.map V.int))) e (.lst [.int k1])) := (Same.but s3).trans (But.upd.trans (Same.but (same_new ne)))
    have hd2 : (upd (upd H1 d (.lst (ds1.map V.int))) e (.lst [.int k1])) d = some (.lst (ds1.map V.int)) := by rw [upd_ne ned.symm]; exact upd_same
    have hc2 : (upd (upd H1 d (.lst (ds1.map V.int))) e (.lst [.int k1])) c = some (.lst ((nul :: fs).map V.str)) := by rw [upd_ne nec.symm, upd_ne ncd]; exact hc1
    refine ⟨.ref d, rfl, .ref a, rfl, a, _, rfl, .inl (hF.but b2).1, 2, _, rfl, rfl, .inl ⟨by decide, by decide⟩, d, ds1, _, rfl, hd2, by rw [List.length_map]; omega, fun ds2 k2 h2 h3 => ?_⟩
    rw [List.length_map] at h3
    refine ⟨1, k2, rfl, rfl, _, rfl, by omega, by omega, ?_⟩
    generalize hH2 : upd (upd (upd H1 d (.lst (ds1.map V.int))) e (.lst [.int k1])) d (.lst (ds2.map V.int)) = H2
    have b3 : But d H H2 := by rw [← hH2]; exact b2.trans But.upd
    have hd3 : H2 d = some (.lst (ds2.map V.int)) := by rw [← hH2]; exact upd_same
    have hc3 : H2 c = some (.lst ((nul :: fs).map V.str)) := by rw [← hH2, upd_ne ncd]; exact hc2
    have he3 : H2 e = some (.lst ([k1].map V.int)) := by rw [← hH2, upd_ne ned]; exact upd_same
    refine for_range (lo := 0) (n := (1 + k2).toNat) (fun i σ H3 => ∃ (us l : List Int) (y5 : Option V), σ = [some (.ref d), some (.ref a), some (.ref b), some (.ref c), some (.ref e), y5, none] ∧ But d H H3 ∧ H3 d = some (.lst (l.map V.int)) ∧ H3 c = some (.lst ((nul :: fs).map V.str)) ∧
      H3 e = some (.lst (us.map V.int)) ∧ us.length = i + 1 ∧ ∀ u ∈ us, 0 ≤ u ∧ u < fs.length + 1) ⟨[k1], ds2, none, rfl, b3, hd3, hc3, he3, rfl, fun u hu => by
        have : u = k1 := by simpa using hu
        subst this; exact ⟨h0, h1⟩⟩ (fun i σ H3 hi hP => ?_) (fun σ H3 hP => ?_)
    · obtain ⟨us, l, y5, rfl, b4, hd4, hc4, he4, hlu, hus⟩ := hP
      obtain ⟨u, hu, mu⟩ := int_in (us := us) (i := -1) (by omega) (by omega)
      have he5 : ∀ l', (upd H3 d (.lst l')) e = some (.lst (us.map V.int)) := fun l' => by rw [upd_ne ned]; exact he4
      have hc5 : ∀ l', (upd H3 d (.lst l')) c = some (.lst ((nul :: fs).map V.str)) := fun l' => by rw [upd_ne ncd]; exact hc4
      refine ⟨.ref e, rfl, .inl ⟨rfl, _, SqL.of he4⟩, .ref e, rfl, 1, rfl, e, _, -1, .int u, rfl, rfl, SqL.of he4, hu, u, 1, rfl, rfl, .ref d, rfl, .ref c, rfl, c, _, rfl, .inl (SqL.of hc4), _, 1, rfl, rfl, d, l, _, rfl, hd4, by rw [hl]; omega, fun l2 k3 h4 h5 => ?_⟩
      refine ⟨_, k3, rfl, rfl, .inl ⟨_, rfl, .ref c, rfl, c, _, rfl, .inl (SqL.of (hc5 _)), _, _, rfl, rfl, by omega, ?_⟩⟩
      refine ⟨e, _, _, rfl, rfl, he5 _, by rw [List.length_map]; exact small (by omega), ?_⟩
      refine ⟨us ++ [(u + 1 + k3).fmod (((nul :: fs).map V.str).length : Nat)], l2, _, rfl, fun b o n z => ?_, ?_, ?_, ?_, by rw [List.length_append, hlu]; rfl, fun x hx => ?_⟩
      · rw [upd_ne (ne_of_none z nHe), upd_ne n]
        exact b4 b o n z
      · rw [upd_ne ned.symm]; exact upd_same
      · rw [upd_ne nec.symm]; exact hc5 _
      · rw [upd_same, List.map_append]; rfl
      · rcases List.mem_append.mp hx with z | z
        · exact hus x z
        · have : x = (u + 1 + k3).fmod (((nul :: fs).map V.str).length : Nat) := by simpa using z
          rw [this]
          exact hmod _
    · obtain ⟨us, l, y5, rfl, b4, hd4, hc4, he4, hlu, hus⟩ := hP
      -- another at
      refine ⟨fun σ' H4 => ∃ (e : Addr) (us l : List Int) (y5 : Option V), σ' = [some (.ref d), some (.ref a), some (.ref b), some (.ref c), some (.ref e), y5, none] ∧ But d H H4 ∧ H4 d = some (.lst (l.map V.int)) ∧ H4 c = some (.lst ((nul :: fs).map V.str)) ∧
        H4 e = some (.lst (us.map V.int)) ∧ H e = none ∧ e ≠ d ∧ e ≠ c ∧ 0 < us.length ∧ us.length ≤ 17 ∧ ∀ u ∈ us, 0 ≤ u ∧ u < fs.length + 1, ?_, ?_⟩
      · refine ⟨.ref d, rfl, d, l, 3, rfl, hd4, by decide, fun l2 k3 h4 h5 => ?_⟩
        have b5 : But d H (upd H3 d (.lst (l2.map V.int))) := b4.trans But.upd
        have he5 : (upd H3 d (.lst (l2.map V.int))) e = some (.lst (us.map V.int)) := by rw [upd_ne ned]; exact he4
        have hc5 : (upd H3 d (.lst (l2.map V.int))) c = some (.lst ((nul :: fs).map V.str)) := by rw [upd_ne ncd]; exact hc4
        refine ⟨rfl, _, rfl, ite2 (fun _ => ?_) (fun _ => ?_)⟩
        · refine ⟨.ref c, rfl, c, _, rfl, .inl (SqL.of hc5), _, rfl, by omega, by rw [hl]; omega, fun g ng => ?_⟩
          have ngd : g ≠ d := fun z => by rw [z, upd_same] at ng; cases ng
          have ngc : g ≠ c := (ne_of_none hc5 ng).symm
          have nge : g ≠ e := (ne_of_none he5 ng).symm
          have hgn : H g = none := by
            cases z : H g with
            | none => rfl
            | some o => rw [b5 g o ngd z] at ng; cases ng
          obtain ⟨u, hu, mu⟩ := int_in (us := us) (i := 0) (by omega) (by omega)
          refine lc_range (lo := 0) (n := (((nul :: fs).map V.str).length : Int).toNat) (fun i H5 => ∃ ws : List Int, H5 = upd (upd H3 d (.lst (l2.map V.int))) g (.lst (ws.map V.int)) ∧ ws.length = i ∧ ∀ u ∈ ws, 0 ≤ u ∧ u < fs.length + 1) ⟨[], rfl, rfl, fun u hu => absurd hu List.not_mem_nil⟩ (fun i H5 hi hP => ?_) (fun H5 hP => ?_)
          · obtain ⟨ws, rfl, hlw, hws⟩ := hP
            have he6 : (upd (upd H3 d (.lst (l2.map V.int))) g (.lst (ws.map V.int))) e = some (.lst (us.map V.int)) := by rw [upd_ne nge.symm]; exact he5
            have hc6 : (upd (upd H3 d (.lst (l2.map V.int))) g (.lst (ws.map V.int))) c = some (.lst ((nul :: fs).map V.str)) := by rw [upd_ne ngc.symm]; exact hc5
            refine ⟨rfl, lcY ?_⟩
            refine iteT ?_
            refine ⟨.ref e, rfl, e, _, 0, .int u, rfl, rfl, SqL.of he6, hu, _, rfl, u, _, rfl, rfl, .inl ⟨_, rfl, .ref c, rfl, c, _, rfl, .inl (SqL.of hc6), _, _, rfl, rfl, by omega, _, upd_same, ?_, ?_⟩⟩
            · rw [List.length_map]
              exact small (by rw [hlw]; rw [hl] at hi; omega)
            · refine ⟨ws ++ [(u + (0 + (i : Int))).fmod (((nul :: fs).map V.str).length : Nat)], ?_, by rw [List.length_append, hlw]; rfl, fun x hx => ?_⟩
              · rw [upd_upd, List.map_append]; rfl
              · rcases List.mem_append.mp hx with z | z
                · exact hws x z
                · have : x = (u + (0 + (i : Int))).fmod (((nul :: fs).map V.str).length : Nat) := by simpa using z
                  rw [this]
                  exact hmod _
          · obtain ⟨ws, rfl, hlw, hws⟩ := hP
            rw [hl] at hlw
            refine ⟨g, ws, l2, _, rfl, b5.trans (Same.but (same_new ng)), by rw [upd_ne ngd.symm]; exact upd_same, by rw [upd_ne ngc.symm]; exact hc5, upd_same, hgn, ngd, ngc, by omega, by omega, hws⟩
        · exact ⟨e, us, l2, _, rfl, b5, upd_same, hc5, he5, nHe, ned, nec, by omega, by omega, hus⟩
      · clear hus hlu he4 hc4 hd4 b4
        rintro σ' H4 ⟨e, us, l, y5, rfl, b4, hd4, hc4, he4, nHe, ned, nec, hu0, hu1, hus⟩
        obtain ⟨u, hu, mu⟩ := int_in (us := us) (i := -1) (by omega) (by omega)
        obtain ⟨v, hv, mv⟩ := int_in (us := us) (i := 0) (by omega) (by omega)
        -- if at[-1] == at[0]
        refine ⟨fun σ' H5 => ∃ (us : List Int), σ' = [some (.ref d), some (.ref a), some (.ref b), some (.ref c), some (.ref e), y5, none] ∧ But d H H5 ∧ H5 d = some (.lst (l.map V.int)) ∧ H5 c = some (.lst ((nul :: fs).map V.str)) ∧
          H5 e = some (.lst (us.map V.int)) ∧ us.length ≤ 17 ∧ ∀ u ∈ us, 0 ≤ u ∧ u < fs.length + 1, ?_, ?_⟩
        · refine ⟨.ref e, rfl, 1, rfl, e, _, -1, .int u, rfl, rfl, SqL.of he4, hu, .ref e, rfl, e, _, 0, .int v, rfl, rfl, SqL.of he4, hv, rfl, _, rfl, ite2 (fun _ => ?_) (fun _ => ?_)⟩
          · obtain ⟨z, hz⟩ := at_ex (l := us) (i := us.length - 1) (by omega)
            refine ⟨.ref e, rfl, .inl ⟨rfl, _, SqL.of he4⟩, e, _, .int z, rfl, rfl, he4, by rw [List.length_map, List.getElem?_map, hz]; rfl, ?_⟩
            refine ⟨us.dropLast, rfl, fun b o n q => ?_, ?_, ?_, ?_, by rw [List.length_dropLast]; omega, fun x hx => hus x (List.dropLast_subset _ hx)⟩
            · rw [upd_ne (ne_of_none q nHe)]; exact b4 b o n q
            · rw [upd_ne ned.symm]; exact hd4
            · rw [upd_ne nec.symm]; exact hc4
            · rw [upd_same, List.map_dropLast]
          · exact ⟨us, rfl, b4, hd4, hc4, he4, hu1, hus⟩
        · clear hv hu mu mv hus hu0 hu1 he4 hc4 hd4 b4
          rintro σ' H5 ⟨us, rfl, b5, hd5, hc5, he5, hu1, hus⟩
          -- if len(at) < 2
          refine ⟨.ref e, rfl, e, _, rfl, .inl (SqL.of he5), _, 2, rfl, rfl, _, rfl, ite2 (fun _ => ?_) (fun e2 => ?_)⟩
          · refine ⟨small' (by simp), fun p np => ?_⟩
            have npd : p ≠ d := (ne_of_none hd5 np).symm
            have hpn : H p = none := by
              cases z : H p with
              | none => rfl
              | some o => rw [b5 p o npd z] at np; cases np
            exact q _ p [] [] l (b5.trans (Same.but (same_new np))) (by rw [upd_ne npd.symm]; exact hd5) hpn npd upd_same Al.nil (fun l hl => absurd hl List.not_mem_nil) (by simp)
          · have hu2 : 2 ≤ us.length := by
              have : ¬ (((us.map V.int).length : Nat) : Int) < 2 := fun z => e2 (decide_eq_true z)
              rw [List.length_map] at this
              omega
            have hlen5 : (((us.map V.int).length : Nat) : Int) = us.length := by rw [List.length_map]
            -- sizes
            refine ⟨.ref e, rfl, e, _, rfl, .inl (SqL.of he5), _, rfl, by omega, by omega, fun g ng => ?_⟩
            have ngd : g ≠ d := (ne_of_none hd5 ng).symm
            have ngc : g ≠ c := (ne_of_none hc5 ng).symm
            have nge : g ≠ e := (ne_of_none he5 ng).symm
            have hgn : H g = none := by
              cases z : H g with
              | none => rfl
              | some o => rw [b5 g o ngd z] at ng; cases ng
            refine lc_range (lo := 0) (n := (((us.map V.int).length : Nat) : Int).toNat) (fun i H6 => ∃ l zs : List Int, H6 = upd (upd H5 d (.lst (l.map V.int))) g (.lst (zs.map V.int)) ∧ zs.length = i) ⟨l, [], by rw [upd_self hd5]; rfl, rfl⟩ (fun i H6 hi hP => ?_) (fun H6 hP => ?_)
            · obtain ⟨l6, zs, rfl, hlz⟩ := hP
              refine ⟨rfl, lcY ?_⟩
              refine iteT ?_
              refine ⟨.ref d, rfl, .ref b, rfl, d, b, l6, ns, rfl, by rw [upd_ne ngd.symm]; exact upd_same, hS.but (b5.trans (But.upd.trans (Same.but (same_new (by rw [upd_ne ngd]; exact ng))))), fun l7 z => ?_⟩
              have ex : upd (upd (upd H5 d (.lst (l6.map V.int))) g (.lst (zs.map V.int))) d (.lst (l7.map V.int)) = upd (upd H5 d (.lst (l7.map V.int))) g (.lst (zs.map V.int)) := by
                rw [upd_comm ngd.symm, upd_upd, upd_comm ngd]
              rw [ex]
              refine ⟨_, upd_same, by rw [List.length_map]; exact small (by rw [hlz]; omega), l7, zs ++ [z], ?_, by rw [List.length_append, hlz]; rfl⟩
              rw [upd_upd, List.map_append]; rfl
            · obtain ⟨l6, zs, rfl, hlz⟩ := hP
              rw [hlen5] at hlz
              have hlz : zs.length = us.length := by omega
              generalize hH6 : upd (upd H5 d (.lst (l6.map V.int))) g (.lst (zs.map V.int)) = H6
              have b6 : But d H H6 := by rw [← hH6]; exact b5.trans (But.upd.trans (Same.but (same_new (by rw [upd_ne ngd]; exact ng))))
              have hd6 : H6 d = some (.lst (l6.map V.int)) := by rw [← hH6, upd_ne ngd.symm]; exact upd_same
              have hc6 : H6 c = some (.lst ((nul :: fs).map V.str)) := by rw [← hH6, upd_ne ngc.symm, upd_ne ncd]; exact hc5
              have he6 : H6 e = some (.lst (us.map V.int)) := by rw [← hH6, upd_ne nge.symm, upd_ne ned]; exact he5
              have hg6 : H6 g = some (.lst (zs.map V.int)) := by rw [← hH6]; exact upd_same
              -- sizes[-1]
              refine ⟨.ref d, rfl, d, l6, 3, rfl, hd6, by decide, fun l7 k7 h6 h7 => ?_⟩
              have hg7 : ∀ l', (upd H6 d (.lst l')) g = some (.lst (zs.map V.int)) := fun l' => by rw [upd_ne ngd]; exact hg6
              obtain ⟨cs, hcs⟩ := cut_ints zs none (some (-1))
              refine ⟨k7, 2, rfl, rfl, .ref g, rfl, 1, rfl, -1, rfl, g, _, rfl, SqL.of (hg7 _), fun p np => ?_⟩
              have npd : p ≠ d := fun z => by rw [z, upd_same] at np; cases np
              have npg : p ≠ g := (ne_of_none (hg7 _) np).symm
              refine ⟨p, cs, rfl, SqL.of (by rw [← hcs]; exact upd_same), _, cs.sum, rfl, rfl, ?_⟩
              have hg8 : (upd (upd H6 d (.lst (l7.map V.int))) p (.lst (cutV (zs.map V.int) none (some (-1))))) g = some (.lst (zs.map V.int)) := by rw [upd_ne npg.symm]; exact hg7 _
              refine ⟨.ref g, rfl, 1, rfl, g, _, -1, zs.length - 1, rfl, rfl, hg8, ?_, ?_⟩
              · rw [List.length_map]
                unfold ixN
                rw [if_neg (by omega), if_pos (by omega)]
                congr 1
                omega
              · generalize hH7 : upd (upd (upd H6 d (.lst (l7.map V.int))) p (.lst (cutV (zs.map V.int) none (some (-1))))) g (.lst ((zs.map V.int).set (zs.length - 1) _)) = H7
                have n6p : H6 p = none := by rw [upd_ne npd] at np; exact np
                have b7 : But d H H7 := fun b o n z => by
                  rw [← hH7, upd_ne (ne_of_none z hgn)]
                  exact (b6.trans (But.upd.trans (Same.but (same_new np)))) b o n z
                have hd7 : H7 d = some (.lst (l7.map V.int)) := by rw [← hH7, upd_ne ngd.symm, upd_ne npd.symm]; exact upd_same
                have hc7 : H7 c = some (.lst ((nul :: fs).map V.str)) := by rw [← hH7, upd_ne ngc.symm, upd_ne (ne_of_none hc6 n6p), upd_ne ncd]; exact hc6
                have he7 : H7 e = some (.lst (us.map V.int)) := by rw [← hH7, upd_ne nge.symm, upd_ne (ne_of_none he6 n6p), upd_ne ned]; exact he6
                have hg9 : ∃ ys : List Int, H7 g = some (.lst (ys.map V.int)) ∧ ys.length = us.length := ⟨zs.set (zs.length - 1) _, by rw [← hH7, upd_same, List.map_set], by rw [List.length_set]; exact hlz⟩
                obtain ⟨ys, hg9, hly⟩ := hg9
                -- the literals
                refine ⟨.ref e, rfl, e, _, rfl, .inl (SqL.of he7), _, rfl, by omega, by omega, fun D nD => ?_⟩
                have nDd : D ≠ d := (ne_of_none hd7 nD).symm
                have hDn : H D = none := by
                  cases z : H D with
                  | none => rfl
                  | some o => rw [b7 D o nDd z] at nD; cases nD
                refine lc_range (lo := 0) (n := (((us.map V.int).length : Nat) : Int).toNat) (fun i H8 => ∃ (vs : List V) (ls : List Lit), Same H7 H8 ∧ H8 D = some (.lst vs) ∧ Al (IsLit H8) vs ls ∧ (∀ l ∈ ls, Within fs l) ∧ ls.length = i) ⟨[], [], same_new nD, upd_same, Al.nil, fun l hl => absurd hl List.not_mem_nil, rfl⟩ (fun i H8 hi hP => ?_) (fun H8 hP => ?_)
                · obtain ⟨vs, ls, s8, hD8, al, hw, hll⟩ := hP
                  rw [hlen5] at hi
                  have hi : i < us.length := by omega
                  refine ⟨rfl, lcY ?_⟩
                  refine iteT ?_
                  obtain ⟨u1, hu1', mu1⟩ := int_in (us := us) (i := 0 + (i : Int) - 1) (by omega) (by omega)
                  obtain ⟨u2, hu2', mu2⟩ := int_in (us := us) (i := 0 + (i : Int)) (by omega) (by omega)
                  obtain ⟨x, hx, wx⟩ := name_in (fs := fs) (hus u1 mu1).1 (hus u1 mu1).2
                  obtain ⟨y, hy, wy⟩ := name_in (fs := fs) (hus u2 mu2).1 (hus u2 mu2).2
                  obtain ⟨z, hz, _⟩ := int_in (us := ys) (i := 0 + (i : Int)) (by omega) (by omega)
                  refine ⟨.ref c, rfl, .ref e, rfl, _, rfl, _, 1, rfl, rfl, e, _, _, .int u1, rfl, rfl, SqL.of (s8 _ _ he7), hu1', c, _, _, .str x, rfl, rfl, SqL.of (s8 _ _ hc7), hx, ?_⟩
                  refine ⟨.ref c, rfl, .ref e, rfl, _, rfl, e, _, _, .int u2, rfl, rfl, SqL.of (s8 _ _ he7), hu2', c, _, _, .str y, rfl, rfl, SqL.of (s8 _ _ hc7), hy, ?_⟩
                  refine ⟨.ref g, rfl, _, rfl, g, _, _, .int z, rfl, rfl, SqL.of (s8 _ _ hg9), hz, x, y, z, rfl, fun H9 v li s9 hli eb => ?_⟩
                  have hD9 := s9 _ _ hD8
                  have t9 : Tups H9 (upd H9 D (.lst (vs ++ [v]))) := (But.upd (H := H9)).tups hD9 (fun _ z => nomatch z)
                  refine ⟨vs, hD9, small (by rw [al.1, hll]; omega), vs ++ [v], ls ++ [li], fun b o z => ?_, upd_same, ((lits_mono (Same.tups s9) al).snoc hli).mono (fun _ _ q => q.mono t9), fun l hl => ?_, by rw [List.length_append, hll]; rfl⟩
                  · rw [upd_ne (ne_of_none z nD)]
                    exact s9 _ _ (s8 _ _ z)
                  · rcases List.mem_append.mp hl with z | z
                    · exact hw l z
                    · have : l = li := by simpa using z
                      subst this
                      exact within_of eb wx wy
                · obtain ⟨vs, ls, s8, hD8, al, hw, hll⟩ := hP
                  exact q H8 D vs ls l7 (b7.trans (Same.but s8)) (s8 _ _ hd7) hDn nDd hD8 al hw (by rw [hll, hlen5]; omega)
end
end WB
set_option Elab.async false
set_option linter.all false
set_option autoImplicit false
set_option maxRecDepth 100000
/-! What the law asks of an answer. -/
namespace WB
open PySem PySem.Spec PyProof.Rows L2 WM
theorem isi {X : Cx} (K : PySem.W.Frag) (h : X.K = K := by rfl) : CallR X (.builtin "isinstance") (rIsi K) := by subst h; exact call_isi
/-- the bound ahead of the k-th, around the end -/
theorem atI_prev {α : Type} {xs : List α} {k p : Nat} {v : α} (hk : k < xs.length) (hp : p = if k = 0 then xs.length - 1 else k - 1) (h : xs[p]? = some v) : atI xs (0 + (k : Int) - 1) = some v := by
  unfold atI
  by_cases e : k = 0
  · subst e
    rw [if_pos rfl] at hp
    have : ixN xs.length (0 + ((0 : Nat) : Int) - 1) = some p := by
      unfold ixN
      rw [if_neg (by omega), if_pos (by omega)]
      congr 1
      omega
    rw [this]
    exact h
  · rw [if_neg e] at hp
    have : ixN xs.length (0 + (k : Int) - 1) = some p := by
      unfold ixN
      rw [if_pos (by omega), if_pos (by omega)]
      congr 1
      omega
    rw [this]
    exact h
theorem chn_prev {l : List Bnd} {m : Str} (h : Chn m l m) {k p : Nat} {a b : Bnd} (hp : p = if k = 0 then l.length - 1 else k - 1) (ha : l[p]? = some a) (hb : l[k]? = some b) : a.2.1 = b.1 := by
  by_cases e : k = 0
  · subst e
    rw [if_pos rfl] at hp
    subst hp
    rw [h.last ha, h.first hb]
  · rw [if_neg e] at hp
    subst hp
    exact h.next (k - 1) a b ha (by rw [show k - 1 + 1 = k by omega]; exact hb)
section
variable {P : Program} {w : World} {K : PySem.W.Frag} {mg : Str → Option Value} {base : Heap}
/-! ### _law_is_ring -/
def spIsRing (K : PySem.W.Frag) : Sp := fun vs H Q _ => ∃ (a : Addr) (ws : List V) (ls : List Lit) (m : Str), vs = [.ref a] ∧ SqT K H a ws ∧ Al (IsLit H) ws ls ∧ ls.length ≤ 1000 ∧ Chn m (ls.map Lit.bnd) m ∧ ((ls.map Lit.bnd).map (·.2.2)).sum < 0 ∧
  ∀ H', Same H H' → Q (.bl true) H'
theorem ok_isRing {f fB : Addr} {fd fdB : FuncData} {k : Nat} (F : Fun K "_law_is_ring" "_law_is_ring" sIsRing f fd) (FB : Fun K "_law_bound" "_law_bound" sBound fB fdB) (bB : Binds K fdB ["_law_literal_here"] [])
    (gB : mg "_law_bound" = some (.ref fB)) (ml : mg "len" = none) (mr : mg "range" = none) : FnOk P w K mg base CX0 (k + 2) f fd ["_law_literals"] (spIsRing K) := by
  have GB : FnOk P w K mg base CX0 (k + 1) fB fdB ["_law_literal_here"] spBound := ok_bound FB
  refine F.ok scIsRing (fun vs H Q E h => ?_) (fun cdv A outer s H vs Q E hr h => ?_)
  · obtain ⟨a, ws, ls, m, rfl, _⟩ := h
    rfl
  · obtain ⟨a, ws, ls, m, rfl, hS, hal, hlen, hch, hsum, q⟩ := h
    refine ⟨_, pss_cons (ps_setLc (i := 1) (own := [("_law_literal_here", 4)]) (g := gName 4) (tt := tYes) rfl scIsRing.nd rfl rfl (sw_true rfl rfl rfl (by decide +kernel)) (pi_tup (pv 0))
        (blkOk_by (N := nIsRing) (sc := defScope sIsRing) (by decide +kernel)) (fun _ _ _ _ _ => pg_name (i := 4) scIsRing.nd rfl (Or.inl rfl)) (fun _ _ _ _ _ => pts_nil)
        (fun _ _ _ _ _ => pe_call GB hr (by rfl) gB FB.kp bB .nil pass0 (pa_cons (pv 4) pa_nil)))
      (pss_cons (ps_set (i := 2) scIsRing.nd rfl (.inl rfl) pe_int)
      (pss_cons (ps_for PassesOwn.never rfl (pi_range1 (by rfl) mr (pa_cons (pe_callB call_len_seq (by rfl) ml PySem.boot_len (pa_cons (pv 1) pa_nil)) pa_nil)) (pg_name (i := 3) scIsRing.nd rfl (.inl rfl))
        (pss_cons (ps_if (pt_cmpR op_ne (pe_ix ix_tup (pe_ix ix_list (pv 1) (pe_op op_sub (pv 3) pe_int) (fun _ _ => rfl)) pe_int (fun _ _ => rfl)) (pe_ix ix_tup (pe_ix ix_list (pv 1) (pv 3) (fun _ _ => rfl)) pe_int (fun _ _ => rfl)) (nomark _))
          (pss_one (ps_ret pe_bl)) pss_nil)
        (pss_one (ps_set (i := 2) scIsRing.nd rfl (.inl rfl) (pe_op op_add (pv 2) (pe_ix ix_tup (pe_ix ix_list (pv 1) (pv 3) (fun _ _ => rfl)) pe_int (fun _ _ => rfl)))))))
      (pss_one (ps_ret (pe_cmpR op_lt (pv 2) pe_int (nomark _)))))), ?_⟩
    -- the bounds
    refine ⟨.ref a, rfl, a, rfl, ⟨_, hS⟩, fun D nD => ?_⟩
    refine lc_tup (K := K) (a := a) (xs := ws) (fun i H1 => ∃ bv : List V, Same H H1 ∧ H1 D = some (.lst bv) ∧ Al (IsBnd H1) bv ((ls.take i).map Lit.bnd)) ⟨[], same_new nD, upd_same, Al.nil⟩ (fun i H1 _ hP => ?_) (fun i x H1 hx hP => ?_) (fun H1 hP => ?_)
    · obtain ⟨bv, s1, _⟩ := hP
      exact Same.seqT s1 hS
    · obtain ⟨bv, s1, hD, al⟩ := hP
      obtain ⟨l, hl, il⟩ := hal.get hx
      refine ⟨rfl, lcY ?_⟩
      refine iteT ?_
      refine ⟨x, rfl, x, l, rfl, il.mono (Same.tups s1), fun p np => ?_⟩
      have npD : D ≠ p := ne_of_none hD np
      have hD2 : (upd H1 p (.tup [.str l.bnd.1, .str l.bnd.2.1, .int l.bnd.2.2])) D = some (.lst bv) := by rw [upd_ne npD]; exact hD
      have t2 : Tups (upd H1 p (.tup [.str l.bnd.1, .str l.bnd.2.1, .int l.bnd.2.2])) (upd (upd H1 p (.tup [.str l.bnd.1, .str l.bnd.2.1, .int l.bnd.2.2])) D (.lst (bv ++ [.ref p]))) := But.upd.tups hD2 (fun _ z => nomatch z)
      refine ⟨bv, hD2, ?_, bv ++ [.ref p], fun b o z => ?_, upd_same, ?_⟩
      · have := al.1
        rw [List.length_map, List.length_take] at this
        exact small (by omega)
      · rw [upd_ne (ne_of_none z nD)]
        exact same_new np _ _ (s1 _ _ z)
      · rw [take_snoc hl, List.map_append]
        refine ((bnds_mono (Same.tups (same_new np)) al).snoc ⟨p, rfl, upd_same⟩).mono fun _ _ z => z.mono t2
    · obtain ⟨bv, s1, hD, al⟩ := hP
      have hlw : ws.length = ls.length := hal.1
      rw [hlw, List.take_length] at al
      have hlb : bv.length = ls.length := by rw [al.1, List.length_map]
      refine ⟨.ref D, rfl, D, _, rfl, .inl (SqL.of hD), _, rfl, by omega, by rw [hlb]; omega, ?_⟩
      refine for_range (lo := 0) (n := ((bv.length : Nat) : Int).toNat) (fun i σ H3 => ∃ y3 : Option V, σ = [some (.ref a), some (.ref D), some (.int (((ls.map Lit.bnd).take i).map (·.2.2)).sum), y3, none] ∧ H3 = H1) ⟨none, rfl, rfl⟩ (fun i σ H3 hi hP => ?_) (fun σ H3 hP => ?_)
      · obtain ⟨y3, rfl, rfl⟩ := hP
        have hi : i < bv.length := by omega
        obtain ⟨pi, hpi⟩ : ∃ p : Nat, p = if i = 0 then bv.length - 1 else i - 1 := ⟨_, rfl⟩
        have hpl : pi < bv.length := by
          rw [hpi]
          split <;> omega
        obtain ⟨v1, hv1⟩ := at_ex hpl
        obtain ⟨v2, hv2⟩ := at_ex hi
        obtain ⟨b1, hb1, a1, rfl, e1⟩ := al.get hv1
        obtain ⟨b2, hb2, a2, rfl, e2⟩ := al.get hv2
        have hpi' : pi = if i = 0 then (ls.map Lit.bnd).length - 1 else i - 1 := by rw [List.length_map, ← hlb]; exact hpi
        have ex : b1.2.1 = b2.1 := chn_prev hch hpi' hb1 hb2
        have i0 : (0 : Int) + (i : Nat) = (i : Int) := by omega
        have hat2 : atI bv (0 + (i : Int)) = some (.ref a2) := by rw [i0]; exact atI_nat hv2
        refine ⟨.ref D, rfl, _, rfl, _, 1, rfl, rfl, D, _, _, .ref a1, rfl, rfl, SqL.of hD, atI_prev hi hpi hv1, a1, _, 1, .str b1.2.1, rfl, rfl, SqT.of e1, atI_nat (j := 1) rfl, .ref D, rfl, _, rfl, D, _, _, .ref a2, rfl, rfl, SqL.of hD, hat2, a2, _, 0, .str b2.1, rfl, rfl, SqT.of e2, atI_nat (j := 0) rfl, rfl, _, rfl, ?_⟩
        refine iteNS (by rw [ex]) ?_
        refine ⟨_, rfl, .ref D, rfl, _, rfl, D, _, _, .ref a2, rfl, rfl, SqL.of hD, hat2, a2, _, 2, .int b2.2.2, rfl, rfl, SqT.of e2, atI_nat (j := 2) rfl, _, _, rfl, rfl, some (.int (0 + (i : Int))), ?_, rfl⟩
        rw [take_snoc hb2, List.map_append, List.sum_append]
        have : ([b2].map fun x => x.2.2).sum = b2.2.2 := by simp
        rw [this]
        rfl
      · obtain ⟨y3, rfl, rfl⟩ := hP
        refine ⟨_, rfl, _, 0, rfl, rfl, ?_⟩
        have e : ((ls.map Lit.bnd).take (((bv.length : Nat) : Int)).toNat) = ls.map Lit.bnd := List.take_of_length_le (by rw [List.length_map, ← hlb]; omega)
        rw [e]
        show Q (.bl (decide (((ls.map Lit.bnd).map (·.2.2)).sum < 0))) H3
        rw [decide_eq_true hsum]
        exact q _ s1
/-! ### _law_meets -/
def spMeets (K : PySem.W.Frag) : Sp := fun vs H Q _ => ∃ (a b c : Addr) (ws : List V) (ls : List Lit) (fs : List Str) (ns : List Int), vs = [.ref a, .ref b, .ref c] ∧ SqL K H a ws ∧ Al (IsLit H) ws ls ∧ SqL K H b (fs.map V.str) ∧ SqT K H c (ns.map V.int) ∧
  ns.length = fs.length ∧ fs.length ≤ 1000 ∧ (∀ l ∈ ls, Within fs l) ∧ (∀ l ∈ ls, valAt fs ns l.bnd.1 - valAt fs ns l.bnd.2.1 ≤ l.bnd.2.2) ∧ ∀ H', Same H H' → Q (.bl true) H'
theorem ok_meets {f fB : Addr} {fd fdB : FuncData} {k : Nat} (F : Fun K "_law_meets" "_law_meets" sMeets f fd) (FB : Fun K "_law_bound" "_law_bound" sBound fB fdB) (bB : Binds K fdB ["_law_literal_here"] [])
    (gB : mg "_law_bound" = some (.ref fB)) (mls : mg "list" = none) : FnOk P w K mg base CX0 (k + 2) f fd ["_law_literals", "_law_fields_here", "_law_numbers"] (spMeets K) := by
  have GB : FnOk P w K mg base CX0 (k + 1) fB fdB ["_law_literal_here"] spBound := ok_bound FB
  refine F.ok scMeets (fun vs H Q E h => ?_) (fun cdv A outer s H vs Q E hr h => ?_)
  · obtain ⟨a, b, c, ws, ls, fs, ns, rfl, _⟩ := h
    rfl
  · obtain ⟨a, b, c, ws, ls, fs, ns, rfl, hS, hal, hF, hN, hl1, hl2, hw, hv, q⟩ := h
    refine ⟨_, pss_cons (ps_set (i := 1) scMeets.nd rfl (.inl rfl) (pe_op op_cat (pe_callTy call_list_of (by rfl) mls (by decide +kernel) (pa_cons (pv 1) pa_nil)) (pe_lst (pa_cons pe_str pa_nil))))
      (pss_cons (ps_set (i := 2) scMeets.nd rfl (.inl rfl) (pe_op op_cat (pe_callTy call_list_of (by rfl) mls (by decide +kernel) (pa_cons (pv 2) pa_nil)) (pe_lst (pa_cons pe_int pa_nil))))
      (pss_cons (ps_for PassesOwn.never rfl (pi_list (pv 0)) (pg_name (i := 3) scMeets.nd rfl (.inl rfl))
        (pss_cons (ps_set (i := 4) scMeets.nd rfl (.inl rfl) (pe_call GB hr (by rfl) gB FB.kp bB .nil pass0 (pa_cons (pv 3) pa_nil)))
        (pss_one (ps_if (pt_cmpR op_gt (pe_op op_sub
            (pe_ix ix_list (pv 2) (pe_bm PySem.F.plainAttrs_list PySem.F.slot_list_index PySem.F.type_list_index mt_index (pv 1) (pa_cons (pe_ix ix_tup (pv 4) pe_int (fun _ _ => rfl)) pa_nil)) (fun _ _ => rfl))
            (pe_ix ix_list (pv 2) (pe_bm PySem.F.plainAttrs_list PySem.F.slot_list_index PySem.F.type_list_index mt_index (pv 1) (pa_cons (pe_ix ix_tup (pv 4) pe_int (fun _ _ => rfl)) pa_nil)) (fun _ _ => rfl)))
            (pe_ix ix_tup (pv 4) pe_int (fun _ _ => rfl)) (nomark _)) (pss_one (ps_ret pe_bl)) pss_nil))))
      (pss_one (ps_ret pe_bl)))), ?_⟩
    -- fields, numbers
    refine ⟨.ref b, rfl, b, _, rfl, .inl hF, fun q1 n1 => ?_⟩
    have s1 := same_new (o := .lst (fs.map V.str)) n1
    refine ⟨small' (by simp), fun q2 n2 => ?_⟩
    have n12 : q1 ≠ q2 := fun e => by rw [← e, upd_same] at n2; cases n2
    have s2 := s1.trans (same_new (o := .lst [.str nul]) n2)
    refine ⟨q1, q2, fs.map V.str, [.str nul], rfl, rfl, by rw [upd_ne n12]; exact upd_same, upd_same, by rw [List.length_map]; exact small' (by simp; omega), fun d nd => ?_⟩
    have s3 := s2.trans (same_new (o := .lst (fs.map V.str ++ [.str nul])) nd)
    generalize hH2 : upd (upd (upd H q1 (.lst (fs.map V.str))) q2 (.lst [.str nul])) d (.lst (fs.map V.str ++ [.str nul])) = H2 at s3
    have hd2 : H2 d = some (.lst ((fs ++ [nul]).map V.str)) := by rw [← hH2, upd_same, List.map_append]; rfl
    refine ⟨.ref c, rfl, c, _, rfl, .inr (Same.seqT s3 hN), fun r1 m1 => ?_⟩
    have t1 := same_new (o := .lst (ns.map V.int)) m1
    refine ⟨small' (by simp), fun r2 m2 => ?_⟩
    have m12 : r1 ≠ r2 := fun e => by rw [← e, upd_same] at m2; cases m2
    have t2 := t1.trans (same_new (o := .lst [.int 0]) m2)
    refine ⟨r1, r2, ns.map V.int, [.int 0], rfl, rfl, by rw [upd_ne m12]; exact upd_same, upd_same, by rw [List.length_map]; exact small' (by simp; omega), fun e ne => ?_⟩
    have t3 := t2.trans (same_new (o := .lst (ns.map V.int ++ [.int 0])) ne)
    generalize hH3 : upd (upd (upd H2 r1 (.lst (ns.map V.int))) r2 (.lst [.int 0])) e (.lst (ns.map V.int ++ [.int 0])) = H3 at t3
    have he3 : H3 e = some (.lst ((ns ++ [0]).map V.int)) := by rw [← hH3, upd_same, List.map_append]; rfl
    have hd3 := t3 _ _ hd2
    have st : Same H H3 := s3.trans t3
    refine ⟨.ref a, rfl, a, rfl, ⟨_, st.seq hS⟩, ?_⟩
    refine for_list (K := K) (a := a) (xs := ws) (fun i σ H4 => ∃ y3 y4 : Option V, σ = [some (.ref a), some (.ref d), some (.ref e), y3, y4] ∧ Same H3 H4) ⟨none, none, rfl, Same.refl _⟩ (fun i σ H4 _ hP => ?_) (fun i x σ H4 hx hP => ?_) (fun σ H4 hP => ?_)
    · obtain ⟨y3, y4, _, s4⟩ := hP
      exact (st.trans s4).seq hS
    · obtain ⟨y3, y4, rfl, s4⟩ := hP
      obtain ⟨l, hl, il⟩ := hal.get hx
      refine ⟨x, rfl, x, l, rfl, il.mono (Same.tups (st.trans s4)), fun p np => ?_⟩
      have ml : l ∈ ls := List.mem_of_getElem? hl
      have s5 := s4.trans (same_new (o := .tup [.str l.bnd.1, .str l.bnd.2.1, .int l.bnd.2.2]) np)
      obtain ⟨wx, wy⟩ := within_bnd (hw l ml)
      obtain ⟨jx, x1, x2, x3⟩ := valAt_ok fs ns l.bnd.1 hl1.symm wx
      obtain ⟨jy, y1, y2, y3'⟩ := valAt_ok fs ns l.bnd.2.1 hl1.symm wy
      obtain ⟨x4, x5, x6⟩ := ix_str x1 x2
      obtain ⟨y4', y5, y6⟩ := ix_str y1 y2
      refine ⟨.ref e, rfl, .ref d, rfl, .inl ⟨rfl, _, SqL.of (s5 _ _ hd3)⟩, .ref p, rfl, p, _, 0, .str l.bnd.1, rfl, rfl, SqT.of upd_same, atI_nat (j := 0) rfl, d, _, _, jx, _, rfl, rfl, SqL.of (s5 _ _ hd3), rfl, flat_str _, x4, x5, x6, e, _, _, .int (valAt fs ns l.bnd.1), rfl, rfl, SqL.of (s5 _ _ he3), atI_nat (by rw [List.getElem?_map, x3]; rfl), ?_⟩
      refine ⟨.ref e, rfl, .ref d, rfl, .inl ⟨rfl, _, SqL.of (s5 _ _ hd3)⟩, .ref p, rfl, p, _, 1, .str l.bnd.2.1, rfl, rfl, SqT.of upd_same, atI_nat (j := 1) rfl, d, _, _, jy, _, rfl, rfl, SqL.of (s5 _ _ hd3), rfl, flat_str _, y4', y5, y6, e, _, _, .int (valAt fs ns l.bnd.2.1), rfl, rfl, SqL.of (s5 _ _ he3), atI_nat (by rw [List.getElem?_map, y3']; rfl), _, _, rfl, rfl, ?_⟩
      refine ⟨.ref p, rfl, p, _, 2, .int l.bnd.2.2, rfl, rfl, SqT.of upd_same, atI_nat (j := 2) rfl, _, _, rfl, rfl, _, rfl, ite2 (fun z => ?_) (fun _ => ?_)⟩
      · have := of_decide_eq_true z
        have := hv l ml
        omega
      · exact ⟨_, _, rfl, s5⟩
    · obtain ⟨y3, y4, rfl, s4⟩ := hP
      exact q _ (st.trans s4)
/-! ### _law_is_row -/
def spIsRow : Sp := fun vs H Q _ => ∃ (a : Addr) (ns : List Int), vs = [.ref a, .int ns.length] ∧ H a = some (.tup (ns.map V.int)) ∧ ns.length ≤ 1000 ∧ ∀ H', Same H H' → Q (.bl true) H'
theorem ok_isRow {f : Addr} {fd : FuncData} {k : Nat} (F : Fun K "_law_is_row" "_law_is_row" sIsRow f fd) (ml : mg "len" = none) (mis : mg "isinstance" = none) (mt : mg "tuple" = none) (mi : mg "int" = none) (mb : mg "bool" = none) :
    FnOk P w K mg base CX0 (k + 1) f fd ["_law_actual", "_law_many"] spIsRow := by
  refine F.ok scIsRow (fun vs H Q E h => ?_) (fun cdv A outer s H vs Q E hr h => ?_)
  · obtain ⟨a, ns, rfl, _⟩ := h
    rfl
  · obtain ⟨a, ns, rfl, hA, hlen, q⟩ := h
    refine ⟨_, pss_cons (ps_if (PW.pt (pw_or (pt_not (pt_val (pe_callB (isi K) (by rfl) mis (by decide +kernel) (pa_cons (pv 0) (pa_cons (pe_bltn (v := .ty "tuple") (by rfl) mt PyProof.Rows.boot_tuple rfl) pa_nil)))))
          (pw_or1 (pt_cmpR op_ne (pe_callB call_len_seq (by rfl) ml PySem.boot_len (pa_cons (pv 0) pa_nil)) (pv 1) (nomark _))))) (pss_one (ps_ret pe_bl)) pss_nil)
      (pss_one (ps_ret (pe_cmpR op_notIn_seq pe_bl (pe_lc (own := [("_law_number", 2)]) (g := gName 2) (tt := tYes) rfl scIsRow.nd (pi_tup (pv 0)) (blkOk_by (N := nIsRow) (sc := defScope sIsRow) (by decide +kernel))
          (fun _ _ _ _ _ => pg_name (i := 2) scIsRow.nd rfl (Or.inl rfl)) (fun _ _ _ _ _ => pts_nil)
          (fun _ _ _ _ _ => pe_and (pe_callB (isi K) (by rfl) mis (by decide +kernel) (pa_cons (pv 2) (pa_cons (pe_bltn (v := .ty "int") (by rfl) mi PyProof.Rows.boot_int rfl) pa_nil)))
            (pe_one (pe_not (pe_callB (isi K) (by rfl) mis (by decide +kernel) (pa_cons (pv 2) (pa_cons (pe_bltn (v := .ty "bool") (by rfl) mb PyProof.Rows.boot_bool rfl) pa_nil))))))) (by rfl)))), ?_⟩
    refine ⟨.ref a, rfl, .ref a, .ty "tuple", .type "tuple", .type "tuple", true, rfl, .ty _, .base (.tup hA), kit_ty (by decide +kernel), true, rfl, ?_⟩
    refine iteF ?_
    refine ⟨.ref a, rfl, a, _, rfl, .inr (SqT.of hA), _, rfl, rfl, _, rfl, ?_⟩
    refine iteNS (by rw [List.length_map]) ?_
    refine ⟨.ref a, rfl, a, rfl, ⟨_, SqT.of hA⟩, fun D nD => ?_⟩
    have hs : Same H (upd H D (.lst [])) := same_new nD
    refine lc_tup (K := K) (a := a) (xs := ns.map V.int) (fun i H1 => H1 = upd H D (.lst (List.replicate i (.bl true)))) rfl (fun i H1 _ hP => ?_) (fun i x H1 hx hP => ?_) (fun H1 hP => ?_)
    · subst hP
      exact Same.seqT (same_new nD) (SqT.of hA)
    · subst hP
      obtain ⟨n, hn, rfl⟩ := ints_at hx
      refine ⟨rfl, lcY ?_⟩
      refine iteT ?_
      refine ⟨.int n, rfl, .int n, .ty "int", .type "int", .type "int", true, rfl, .ty _, .base (.int n), kit_ty (by decide +kernel), true, rfl, ?_⟩
      refine iteT ?_
      refine ⟨.int n, rfl, .int n, .ty "bool", .type "int", .type "bool", false, rfl, .ty _, .base (.int n), kit_ty (by decide +kernel), false, rfl, ?_⟩
      refine ⟨_, upd_same, ?_, ?_⟩
      · rw [List.length_replicate]
        have := at_lt hn
        exact small (by omega)
      · show upd (upd H D _) D _ = _
        rw [upd_upd, List.replicate_succ']
        rfl
    · subst hP
      refine ⟨D, _, rfl, .inl (SqL.of upd_same), rfl, ?_, ?_⟩
      · rw [List.all_replicate]
        simp [flatV]
      · have e : inV (.bl false) (List.replicate (ns.map V.int).length (.bl true)) = false := by
          unfold inV
          rw [List.any_replicate]
          simp [eqV]
        rw [e]
        exact q _ (same_new nD)
end
end WB
set_option Elab.async false
set_option linter.all false
set_option autoImplicit false
set_option maxRecDepth 100000
set_option maxHeartbeats 4000000
/-! Sets of texts: made of a list, by a comprehension; sorted. -/
namespace WS
open PySem PySem.Spec PyProof.Rows L2
/-! ### the members -/
def addT (xs : List Str) (k : Str) : List Str := if k ∈ xs then xs else k :: xs
theorem addT_nodup {xs : List Str} {k : Str} (h : xs.Nodup) : (addT xs k).Nodup := by
  unfold addT
  split
  · exact h
  · rename_i z
    exact List.nodup_cons.mpr ⟨z, h⟩
theorem addT_mem {xs : List Str} {k x : Str} : x ∈ addT xs k ↔ x = k ∨ x ∈ xs := by
  unfold addT
  split
  · rename_i z
    exact ⟨.inr, fun h => h.elim (fun e => by rw [e]; exact z) id⟩
  · exact List.mem_cons
theorem addT_len {xs : List Str} {k : Str} : (addT xs k).length ≤ xs.length + 1 := by
  unfold addT
  split
  · exact Nat.le_succ _
  · exact Nat.le_refl _
def txt (e : Int × Value) : Str := match e.2 with | .str x _ => x | _ => Str.empty
def IsT (w : World) (e : Int × Value) : Prop := ∃ x tk, e.2 = Value.str x tk ∧ e.1 = hashStr w x
/-- the entries es are the texts xs -/
structure Holds (w : World) (es : Array (Int × Value)) (xs : List Str) : Prop where
  isT : ∀ e ∈ es.toList, IsT w e
  perm : (es.toList.map txt).Perm xs
  nd : xs.Nodup
/-- the table goes with n entries and can be walked -/
structure Stands (w : World) (t : SetTable) (n : Nat) : Prop where
  small : n < scanBound
  fits : t.fits n = true
  ris : Ris t.place.toList
  led : w.params.followText "set-order" = true ∨ t.led = true
/-- the set of the texts xs at a -/
def SetS (w : World) (h : Heap) (a : Addr) (xs : List Str) : Prop := ∃ o es ep t, h.get? a = some o ∧ o.ExactSet ∧ o.data = .set es ep t ∧ Holds w es xs ∧ Stands w t es.size
section
variable {P : Program} {w : World} {h h' : Heap} {a : Addr} {xs : List Str}
theorem SetS.at (R : SetS w h a xs) (k : ∀ o, h.get? a = some o → h'.get? a = some o) : SetS w h' a xs := by
  obtain ⟨o, es, ep, t, ho, r⟩ := R
  exact ⟨o, es, ep, t, k o ho, r⟩
theorem Holds.elems {es : Array (Int × Value)} (H : Holds w es xs) : ElemsOf (PySem.strKind P w) es.toList := fun e he => by
  obtain ⟨x, tk, h1, h2⟩ := H.isT e he
  refine ⟨⟨x, ?_, h2⟩, by rw [h1]; rfl⟩
  rw [h1]
  exact PySem.strKind_is P w x tk
theorem isT_key {e : Int × Value} (g : IsT w e) (k : Str) : (PySem.strKind P w).is k e.2 = true ↔ txt e = k := by
  obtain ⟨x, tk, h1, _⟩ := g
  have e1 : txt e = x := by unfold txt; rw [h1]
  rw [e1, h1]
  constructor
  · intro z
    obtain ⟨t', q⟩ := Value.isStrOf_shape (x := k) (v := .str x tk) z
    injection q
  · intro z
    rw [z]
    exact PySem.strKind_is P w k tk
theorem Holds.size {es : Array (Int × Value)} (H : Holds w es xs) : es.size = xs.length := by
  have q := H.perm.length_eq
  rw [List.length_map, Array.length_toList] at q
  exact q
theorem SetS.exact (R : SetS w h a xs) : ∃ o, h.get? a = some o ∧ o.ExactSet := by
  obtain ⟨o, es, ep, t, ho, hx, _⟩ := R
  exact ⟨o, ho, hx⟩
abbrev freshO (w : World) : Obj := { cls := .type "set", dict := none, data := .set #[] 0 (.fresh 0 0 (!w.params.followText "set-order")) }
theorem fresh_at (ho : h.get? a = some (freshO w)) : SetS w h a [] :=
  ⟨_, #[], 0, _, ho, ⟨rfl, rfl, rfl⟩, rfl, ⟨fun e he => by simp at he, by simp, List.nodup_nil⟩, by decide, rfl, List.Pairwise.nil, by
    show _ ∨ (!w.params.followText "set-order") = true
    cases w.params.followText "set-order"
    · exact .inr rfl
    · exact .inl rfl⟩
end
/-! ### one more -/
section
variable {P : Program} {w : World} {A : Around} {E : Value → Shared → Prop} {s : Shared} {a : Addr} {xs : List Str}
theorem kept_at {h : Heap} {o : Obj} {es es' : Array (Int × Value)} {ep : Nat} {t t' : SetTable} (ho : h.get? a = some o) (hd : o.data = .set es ep t) :
    (h.update a (Obj.putSet es' t')).get? a = some { o with data := .set es' (ep + 1) t' } := by
  have q := Heap.get?_update_self (Obj.putSet es' t') ho (by rw [putSet_of es' t' hd]; rfl)
  rw [putSet_of es' t' hd] at q
  exact q
/-- the entries are stored, and laid anew where the table is too full -/
theorem stored {g : Bool → Sem Unit} (hg : ∀ (b : Bool) (s₁ : Shared) (Q' : Unit → Shared → Prop), Q' () s₁ → wpAny (model P w) A (g b) Q' E s₁)
    {o : Obj} {es es1 : Array (Int × Value)} {ep : Nat} {t t2 : SetTable} (ho : s.heap.get? a = some o) (hex : o.ExactSet) (hd : o.data = .set es ep t) (hh : Holds w es1 xs) (st : Stands w t2 es1.size)
    {dummy : Bool} {R : Option Bool → Shared → Prop} (hR : ∀ h', Heap.SameBut a s.heap h' → SetS w h' a xs → R (some true) { s with heap := h' }) :
    wpAny (model P w) A (do
        storeSet a es1 t2
        if (!dummy && t2.tooFull) = true then do
            g (relayAll t2 es1 (SetTable.grown es1.size)).2.2
            storeSet a (relayAll t2 es1 (SetTable.grown es1.size)).1 (relayAll t2 es1 (SetTable.grown es1.size)).2.1
            pure (some true)
          else pure (some true)) R E s := by
  refine wpAny_bind (wpAny_storeSet_of ho hd ?_ (fits_of_scanBound st.small))
  have o1 := kept_at (es' := es1) (t' := t2) ho hd
  have b1 := Heap.SameBut.update s.heap a (Obj.putSet es1 t2)
  split
  · have pm := relayAll_perm t2 es1 (SetTable.grown es1.size)
    have f3 := relayAll_fits t2 es1 (SetTable.grown es1.size)
    have r3 := relayAll_ris t2 es1 (SetTable.grown es1.size)
    have l3 := relayAll_led t2 es1 (SetTable.grown es1.size)
    generalize relayAll t2 es1 (SetTable.grown es1.size) = Z at pm f3 r3 l3 ⊢
    obtain ⟨es2, t3, gave⟩ := Z
    dsimp only at pm f3 r3 l3 ⊢
    have sz : es2.size = es1.size := by rw [← Array.length_toList, pm.length_eq, Array.length_toList]
    have sm : es2.size < scanBound := by rw [sz]; exact st.small
    refine wpAny_bind (hg _ _ _ ?_)
    refine wpAny_bind (wpAny_storeSet_of o1 rfl ?_ (fits_of_scanBound sm))
    refine wpAny_pure (hR _ (b1.trans (Heap.SameBut.update _ a _)) ⟨_, es2, _, t3, kept_at (es' := es2) (t' := t3) o1 rfl, hex, rfl, ⟨fun e he => hh.isT e (pm.mem_iff.mp he), (pm.map txt).trans hh.perm, hh.nd⟩, ⟨sm, f3, r3, ?_⟩⟩)
    exact st.led.imp id fun z => by rw [l3]; exact z
  · exact wpAny_pure (hR _ b1 ⟨_, es1, _, t2, o1, hex, rfl, hh, st⟩)
theorem add_hashed {k : Str} {tk : Tok} {Q : Bool → Shared → Prop} (R : SetS w s.heap a xs) (room : xs.length + 1 < scanBound)
    (hQ : ∀ b h', Heap.SameBut a s.heap h' → SetS w h' a (addT xs k) → Q b { s with heap := h' }) : wpAny (model P w) A (setAddHashed a (.str k tk) ((PySem.strKind P w).hash k)) Q E s := by
  obtain ⟨o, es, ep, t, ho, hex, hd, hh, st⟩ := R
  have hel := hh.elems (P := P)
  unfold setAddHashed setAddHashedIn
  refine wpAny_holding (wpAny_bind (wpAny_setState_of ho hd st.fits ?_))
  dsimp only
  rw [byScan_of (knd := PySem.strKind P w) rfl st.small hel]
  simp only [↓reduceIte]
  unfold setAddByScan
  refine wpAny_bind (wpAny_bind (wpAny_rule (wpAny_bind (wpAny_setScan_of (PySem.strKind_is P w k tk) ho hd st.fits hel ?_))))
  cases hfi : List.findIdx? (fun e => (PySem.strKind P w).is k e.2) es.toList with
  | some j =>
    dsimp only
    obtain ⟨hj, pj, _⟩ := List.findIdx?_eq_some_iff_getElem.mp hfi
    have hm : k ∈ xs := hh.perm.mem_iff.mp (List.mem_map.mpr ⟨es.toList[j], List.getElem_mem hj, (isT_key (hh.isT _ (List.getElem_mem hj)) k).mp pj⟩)
    refine wpAny_pure (wpAny_pure (hQ _ s.heap (Heap.SameBut.refl a s.heap) ?_))
    unfold addT
    rw [if_pos hm]
    exact ⟨o, es, ep, t, ho, hex, hd, hh, st⟩
  | none =>
    dsimp only
    have hnm : k ∉ xs := fun z => by
      obtain ⟨e, he, q⟩ := List.mem_map.mp (hh.perm.mem_iff.mpr z)
      have c := List.findIdx?_eq_none_iff.mp hfi e he
      rw [(isT_key (hh.isT e he) k).mpr q] at c
      cases c
    have hgw : ∀ (b : Bool) {s₁ : Shared} {Q' : Unit → Shared → Prop}, Q' () s₁ → wpAny (model P w) A (match b with | true => rule "set.scan.the-table-gave-way" | false => pure ()) Q' E s₁ :=
      fun b s₁ Q' q => by cases b <;> first | exact wpAny_pure q | exact wpAny_rule q
    have pm := layNew_perm t es ((PySem.strKind P w).hash k) (.str k tk)
    have f1 := layNew_fits t es ((PySem.strKind P w).hash k) (.str k tk)
    have r1 := layNew_ris t es ((PySem.strKind P w).hash k) (.str k tk) st.ris
    have l1 := layNew_led t es ((PySem.strKind P w).hash k) (.str k tk)
    generalize layNew t es ((PySem.strKind P w).hash k) (.str k tk) = Z at pm f1 r1 l1 ⊢
    obtain ⟨es1, t1, dummy, gave⟩ := Z
    dsimp only at pm f1 r1 l1 ⊢
    rw [Array.toList_push] at pm
    have pc : es1.toList.Perm (((PySem.strKind P w).hash k, Value.str k tk) :: es.toList) := pm.trans (List.perm_append_singleton _ _)
    have h1 : Holds w es1 (addT xs k) := by
      refine ⟨fun e he => ?_, ?_, addT_nodup hh.nd⟩
      · rcases List.mem_cons.mp (pc.mem_iff.mp he) with z | z
        · rw [z]; exact ⟨k, tk, rfl, rfl⟩
        · exact hh.isT e z
      · unfold addT
        rw [if_neg hnm]
        exact (pc.map txt).trans (hh.perm.cons k)
    have sz : es1.size < scanBound := by
      have := h1.size
      have := addT_len (xs := xs) (k := k)
      omega
    have led1 : w.params.followText "set-order" = true ∨ t1.led = true := st.led.imp id fun z => by rw [l1]; exact z
    refine wpAny_bind (hgw _ ?_)
    split
    · refine wpAny_bind ?_
      rw [hashByValue_scannable 8 (x := .str k tk) rfl]
      refine wpAny_pure ?_
      refine stored ?_ ho hex hd h1 ⟨sz, ?_, ?_, ?_⟩ ?_
      · intro b s₁ Q' q; cases b <;> first | exact wpAny_pure q | exact wpAny_rule q
      · first | (split <;> first | exact f1 | exact SetTable.fits_plain_off f1) | exact f1
      · first | (split <;> exact r1) | exact r1
      · first | (split <;> exact led1) | exact led1
      · intro h' sb r; dsimp only; exact wpAny_pure (hQ _ h' sb r)
    · refine wpAny_bind (wpAny_pure ?_)
      simp only [↓reduceIte]
      refine stored ?_ ho hex hd h1 ⟨sz, f1, r1, led1⟩ ?_
      · intro b s₁ Q' q; cases b <;> first | exact wpAny_pure q | exact wpAny_rule q
      · intro h' sb r; dsimp only; exact wpAny_pure (hQ _ h' sb r)
theorem add_plain {k : Str} {tk : Tok} {Q : Bool → Shared → Prop} (R : SetS w s.heap a xs) (room : xs.length + 1 < scanBound)
    (hQ : ∀ b h', Heap.SameBut a s.heap h' → SetS w h' a (addT xs k) → Q b { s with heap := h', toks := s.toks + 1 }) : wpAny (model P w) A (setAdd a (.str k tk)) Q E s := by
  unfold setAdd
  refine wpAny_holding (wpAny_bind ((PySem.strKind P w).pyHash (PySem.strKind_is P w k tk) ?_))
  exact add_hashed (s := { s with toks := s.toks + 1 }) R room hQ
/-- the method add -/
theorem add_call {k : Str} {tk : Tok} {Q : Value → Shared → Prop} (R : SetS w s.heap a xs) (room : xs.length + 1 < scanBound)
    (hQ : ∀ h', Heap.SameBut a s.heap h' → SetS w h' a (addT xs k) → Q .none { s with heap := h', toks := s.toks + 1 }) : wpAny (model P w) A (call (.builtin "set.add") [.ref a, .str k tk]) Q E s := by
  obtain ⟨o, ho, hx⟩ := R.exact
  refine wpAny_call_entry F.slot_set_add ⟨o, ho, hx.1⟩ F.entry_set_add ?_ (F.args_set_add_2 _ _)
  unfold Builtin.«set.add» Builtin.Frozenset.oneOther
  simp only [List.isEmpty_nil, bind_assoc]
  unfold Builtin.Frozenset.addrOf
  refine wpAny_bind (wpAny_pure ?_)
  try dsimp only
  refine wpAny_bind (wpAny_pure ?_)
  try dsimp only
  refine wpAny_bind (add_plain R room fun b h' sb r => ?_)
  show wpAny _ _ (ret Value.none) _ _ _
  exact wpAny_pure ⟨_, rfl, hQ h' sb r⟩
end
end WS
set_option Elab.async false
set_option linter.all false
set_option autoImplicit false
set_option maxRecDepth 100000
set_option maxHeartbeats 4000000
/-! set(list of texts), sorted(set of texts). -/
namespace WS
open PySem PySem.Spec PyProof.Rows L2
section
variable {P : Program} {w : World} {A : Around} {E : Value → Shared → Prop} {s : Shared}
theorem upd_loop {I : Addr} {fp wr : List Addr} {G : Array GenState → Array GenState → Prop} {n : Nat} {Pv : Nat → Value → Prop} {St : Nat → Shared → Prop} {R : Result → Shared → Prop}
    (W : WalksS P w A.in1 I fp wr G n Pv St) (S : Addr) (hS : S ∉ fp) (zs : List Str) (hn : n = zs.length) (hb : zs.length + 1 < scanBound) (hval : ∀ i v, Pv i v → ∃ x t, zs[i]? = some x ∧ v = .str x t) :
    ∀ (k i : Nat) (s : Shared), n - i = k → i ≤ n → St i s → (∃ ys, ys.length ≤ i ∧ (∀ x, x ∈ ys ↔ x ∈ zs.take i) ∧ SetS w s.heap S ys) →
      (∀ s' ys, Moved (S :: wr) G s s' → ys.length ≤ n → (∀ x, x ∈ ys ↔ x ∈ zs) → SetS w s'.heap S ys → R (.ok (.ret .none)) s') →
      codeAny (model P w) A (.builtin "set.update.loop" ⟨[.ref S, .ref I], []⟩) R s := by
  have off : S ∉ wr := fun h => hS (W.sub _ h)
  have more : ∀ b ∈ wr, b ∈ S :: wr := fun b hb => List.mem_cons_of_mem _ hb
  intro k
  induction k with
  | zero =>
    intro i s hk hi st ⟨ys, hl, hm, hs⟩ hR
    have e : i = n := by omega
    subst e
    refine codeAny_builtin F.entry_set_update_loop ?_
    rw [Around.under_plainId F.plain_set_update_loop _]
    show wpAny _ A.in1 (pyNext (.ref I) >>= _) _ _ s
    refine wpAny_bind (W.done s _ _ st fun s' mv => ?_)
    show wpAny _ A.in1 (ret Value.none) _ _ s'
    rw [List.take_of_length_le (by omega)] at hm
    exact wpAny_pure (hR s' ys (mv.mono more) hl hm (hs.at fun o q => mv.heap S o off q))
  | succ k ih =>
    intro i s hk hi st ⟨ys, hl, hm, hs⟩ hR
    have lt : i < n := by omega
    refine codeAny_builtin F.entry_set_update_loop ?_
    rw [Around.under_plainId F.plain_set_update_loop _]
    show wpAny _ A.in1 (pyNext (.ref I) >>= _) _ _ s
    refine wpAny_bind (W.item i s _ _ lt st fun v s' hP st' mv => ?_)
    obtain ⟨x, t, hx, rfl⟩ := hval i v hP
    have hs' : SetS w s'.heap S ys := hs.at fun o q => mv.heap S o off q
    show wpAny _ A.in1 (holding [Value.str x t] (setAdd S (.str x t)) >>= _) _ _ s'
    refine wpAny_bind (wpAny_holding ?_)
    refine add_plain hs' (by omega) fun b h' sb hs2 => ?_
    have mem2 : ∀ y, y ∈ addT ys x ↔ y ∈ zs.take (i + 1) := fun y => by
      rw [addT_mem, hm y, List.take_add_one, hx, List.mem_append]
      simp only [Option.toList_some, List.mem_singleton]
      exact Or.comm
    refine wpAny_pure ⟨plainId_quiet F.plain_set_update_loop _, ih (i + 1) _ (by omega) lt (W.frame _ s' _ _ st' (Nat.le_succ _) fun b hb o e => ?_) ⟨_, Nat.le_trans addT_len (by omega), mem2, hs2⟩ fun s'' y2 mv2 l2 m2 h2 => ?_⟩
    · rw [sb.2 b (fun z : b = S => hS (by rw [← z]; exact hb))]
      exact e
    · refine hR s'' y2 (Moved.trans W.gtrans ((mv.mono more).then_heap (Nat.le_succ _) fun b o hb e => ?_) mv2) l2 m2 h2
      rw [sb.2 b (fun z : b = S => hb (by rw [z]; exact List.mem_cons_self))]
      exact e
theorem set_of_list {l : Addr} {items : Array Value} (zs : List Str) {Q : Value → Shared → Prop} (hh : A.handled = none) (hl : s.heap.IsList l items) (hit : StrsAre items.toList zs) (hb : zs.length + 1 < scanBound)
    (h : ∀ (h' : Heap) (tk : Nat) (ys : List Str), SetS w h' s.heap.objs.size ys → ys.length ≤ zs.length → (∀ x, x ∈ ys ↔ x ∈ zs) → (∀ b o, s.heap.get? b = some o → h'.get? b = some o) → Q (.ref s.heap.objs.size) { s with heap := h', toks := tk }) :
    wpAny (model P w) A (call (.type "set") [.ref l]) Q E s := by
  have isz : items.size = zs.length := by
    have q := StrsAre.length hit
    rw [Array.length_toList] at q
    exact q
  obtain ⟨c, tl, hmro⟩ := F.called_set.mro
  have hmade := F.called_set.made
  have hsub := F.called_set.sub
  refine wpAny_call (codeAny_of_tree ?_)
  show wpAny _ _ (callAny (.type "set") _) _ _ _
  refine wpAny_pure ⟨Code.quiet_builtin _ (by decide +kernel), codeAny_builtin F.entry_type_call ?_⟩
  rw [Around.under_plain (weight_type_call_type "set" [.ref l] []) rfl]
  have h1 := F.called_set.notType
  have h2 := F.called_set.canCreate
  have hct := F.typeCall_set_1 (.ref l)
  repeat (any_goals (first | assumption | wp_step))
  refine codeAny_mono (code_set_led1 (.ref l) (E := E) (Q₁ := fun obj s₁ => obj = .ref s.heap.objs.size ∧ s₁ = { s with heap := s.heap.push (freshO w) }) ⟨rfl, rfl⟩) fun r s₁ hr => ?_
  cases r with
  | error e => exact hr
  | ok fl =>
    cases fl with
    | ret obj =>
      obtain ⟨rfl, rfl⟩ := hr
      have new : (s.heap.push (freshO w)).get? s.heap.objs.size = some (freshO w) := Heap.get?_push_size _ rfl
      have hT : Shared.TypeIs { s with heap := s.heap.push (freshO w) } (.ref s.heap.objs.size) "set" := ⟨_, new, rfl⟩
      have hli := F.called_set.init.lookup
      have hbi := F.called_set.init.bind (.ref s.heap.objs.size)
      repeat (any_goals (first | assumption | wp_step))
      refine codeAny_mono (codeAny_call_builtin (R := wants (fun r s₂ => r = .none ∧ ∃ h' tk ys, s₂ = { s with heap := h', toks := tk } ∧ SetS w h' s.heap.objs.size ys ∧ ys.length ≤ zs.length ∧ (∀ x, x ∈ ys ↔ x ∈ zs) ∧
          (∀ b o, s.heap.get? b = some o → h'.get? b = some o)) E) F.called_set.init.plain F.entry_set_init (check_set_init_1 hT ?_)) fun r₂ s₂ hr₂ => ?_
      · obtain ⟨ol, hol, hcl, nl, hdl⟩ := hl
        obtain ⟨ocls, odict, odata, oslots⟩ := ol
        simp only at hcl hdl
        subst hcl; subst hdl
        have hol' : (s.heap.push (freshO w)).get? l = some { cls := .type "list", dict := odict, data := .seq items nl, slots := oslots } := Heap.get?_push_of_some _ hol
        have hsls := F.sub_list_set
        have hslf := F.sub_list_frozenset
        have hne : (Value.type "list" == Value.type "dict") = false := by decide
        have hl1 : (s.heap.push (freshO w)).IsList l items := ⟨_, hol', rfl, nl, rfl⟩
        unfold Builtin.«set.__init__» noKeywords Builtin.Frozenset.updateFrom
        generalize hPI : pyIter = PI
        wp_walk
        subst hPI
        refine wpAny_pyIter_list hl1 ?_
        refine wpAny_bind (wpAny_runValue ?_)
        have hlS : l < s.heap.objs.size := Heap.lt_size hol
        have hh3 : A.in1.in1.in1.handled = none := by simp [hh]
        have nI : l ≠ (s.heap.push (freshO w)).objs.size := by
          rw [Heap.size_push]; exact Nat.ne_of_lt (Nat.lt_succ_of_lt hlS)
        have nS : s.heap.objs.size ∉ [(s.heap.push (freshO w)).objs.size, l] := by
          rw [Heap.size_push]; simp only [List.mem_cons, List.mem_singleton, List.not_mem_nil, or_false, not_or]
          exact ⟨Nat.ne_of_lt (Nat.lt_succ_self _), Nat.ne_of_gt hlS⟩
        have hval : ∀ (i : Nat) (v : Value), items[i]? = some v → ∃ x t, zs[i]? = some x ∧ v = .str x t := fun i v hv => by
          have hi : i < zs.length := by rw [← isz]; exact (Array.getElem?_eq_some_iff.mp hv).1
          obtain ⟨t, e⟩ := SS.strs_at hit i v (by rw [Array.getElem?_toList]; exact hv)
          refine ⟨zs[i], t, List.getElem?_eq_getElem hi, ?_⟩
          rw [e, List.getD_eq_getElem?_getD, List.getElem?_eq_getElem hi]
          rfl
        refine upd_loop ((Walks.list hh3 _ l nI items).toS) s.heap.objs.size nS zs isz hb hval (items.size - 0) 0 _ (by omega) (Nat.zero_le _)
          ⟨⟨_, Heap.get?_push_size _ rfl, rfl, rfl⟩, (hl1.push _)⟩ ⟨[], Nat.le_refl 0, fun x => by simp, fresh_at (Heap.get?_push_of_some _ new)⟩ fun s' ys hm hl2 hm2 hs' => ?_
        obtain ⟨h', g2, d', tk', os'⟩ := s'
        have eg : g2 = s.gens := hm.gens
        have ed : d' = s.drawn := hm.drawn
        have eo : os' = s.os := hm.os
        subst eg; subst ed; subst eo
        show wpAny _ _ _ _ _ _
        refine wpAny_pure ?_
        show wpAny _ _ (ret Value.none) _ _ _
        rw [isz] at hl2
        refine wpAny_pure ⟨rfl, h', tk', ys, rfl, hs', hl2, hm2, fun b o e => ?_⟩
        have hb0 : b < s.heap.objs.size := Heap.lt_size e
        refine hm.heap b o ?_ (Heap.get?_push_of_some _ (Heap.get?_push_of_some _ e))
        simp only [List.mem_cons, List.mem_singleton, List.not_mem_nil, or_false, not_or]
        exact ⟨Nat.ne_of_lt hb0, by rw [Heap.size_push]; exact Nat.ne_of_lt (Nat.lt_succ_of_lt hb0)⟩
      · cases r₂ with
        | error e => exact hr₂
        | ok fl₂ =>
          cases fl₂ with
          | ret r =>
            obtain ⟨rfl, h', tk, ys, rfl, hs', hl2, hm2, hk'⟩ := hr₂
            repeat (any_goals (first | assumption | wp_step))
            exact h _ _ _ hs' hl2 hm2 hk'
          | _ => exact hr₂.elim
    | _ => exact hr.elim
/-! ### sorted -/
theorem txts_of : ∀ (l : List Value), (∀ v ∈ l, ∃ x tk, v = Value.str x tk) → StrsAre l (l.map fun v => txt (0, v))
  | [], _ => .nil
  | v :: l, h => by
    obtain ⟨x, tk, rfl⟩ := h v List.mem_cons_self
    exact .cons x tk (txts_of l fun u hu => h u (List.mem_cons_of_mem _ hu))
theorem sorted_of_set {a : Addr} {xs : List Str} {Q : Value → Shared → Prop} (R : SetS w s.heap a xs) (hh : A.handled = none) (h64 : xs.length < 64)
    (hQ : ∀ s' p (out : Array Value) (c : Nat) (ys : List Str), (∀ b o, s.heap.get? b = some o → s'.heap.get? b = some o) → s'.gens = s.gens → s'.os = s.os → s.heap.objs.size ≤ p →
      s'.heap.get? p = some (seqObj "list" out c) → StrsAre out.toList ys → ys.Perm xs → Q (.ref p) s') : wpAny (model P w) A (call (.builtin "sorted") [.ref a]) Q E s := by
  obtain ⟨o, es, ep, t, ho, hex, hd, H, st⟩ := R
  refine Calls.call_function_entry kind_sorted plain_sorted entry_sorted (args_sorted1 _) ?_
  unfold Builtin.«sorted»
  refine wpAny_bind (m := checkCount "sorted" 1 1 _) (wpAny_pure ?_)
  refine wpAny_bind (collect_set (A := A.in1) hh ⟨o, ho, hex.1, hd⟩ st.fits st.small st.ris st.led fun s1 vs k1 hz g1 o1 pm => ?_)
  have len : vs.length = xs.length := by rw [pm.length_eq, List.length_map, Array.length_toList, H.size]
  have hS : StrsAre vs (vs.map fun v => txt (0, v)) := txts_of vs fun v hv => by
    obtain ⟨e, he, q⟩ := List.mem_map.mp (pm.mem_iff.mp hv)
    obtain ⟨x, tk, h1, _⟩ := H.isT e he
    exact ⟨x, tk, by rw [← q]; exact h1⟩
  have pk : (vs.map fun v => txt (0, v)).Perm xs := by
    have q := pm.map fun v => txt (0, v)
    rw [List.map_map] at q
    exact q.trans H.perm
  refine wpAny_bind (wpAny_newList ?_ (by rw [len, sizeLine_eq]; omega))
  have hoL : (s1.heap.push (seqObj "list" vs.toArray 0)).get? s1.heap.objs.size = some (seqObj "list" vs.toArray 0) := Heap.get?_push_size _ rfl
  refine wpAny_bind (wpAny_holding (wpAny_call_entry slot_list_sort ⟨_, hoL, rfl⟩ entry_list_sort
    (list_sort_treeK strKind_oneLt hoL hS.keysOf (fun v₁ v₂ rest e => keyKind_strs (by rw [← e]; exact hS)) (by rw [len]; exact h64) fun st' hp hs => ⟨_, rfl, ?_⟩) (args_list_sort _)))
  obtain ⟨ys, g2, g3, g4⟩ := sorted_out_str hS hp hs
  obtain ⟨c, hc⟩ := sortedHeap_at (vs := vs) (out := (arrOf st').map (·.2)) hoL
  refine wpAny_pure ⟨_, rfl, hQ _ s1.heap.objs.size ((arrOf st').map (·.2)) c ys (fun b u e => ?_) g1 o1 hz hc g2 (g3.trans pk)⟩
  have q := k1 b u e
  have lt := Heap.lt_size q
  show (sortedHeap (s1.heap.push (seqObj "list" vs.toArray 0)) s1.heap.objs.size vs _).get? b = some u
  rw [sortedHeap_old (Nat.ne_of_lt lt) (by rw [size_push']; exact Nat.lt_succ_of_lt lt)]
  exact Heap.get?_push_of_some _ q
end
/-! ### over the layer -/
def SetSO (w : World) (a : Addr) (xs : List Str) : HO := .ext fun h => SetS w h a xs
section
variable {X : Cx}
theorem set_new {w : World} {P : Program} {H : Hp} {h : Heap} {a : Addr} {xs : List Str} (R : SetS w h a xs) : ObjOk P w H h a (SetSO w a xs) := by
  have ⟨o, ho, _⟩ := R.exact
  exact ⟨R, ⟨o, ho⟩, fun h1 h2 p k => SetS.at p k⟩
theorem set_get {pins : List (Addr × Obj)} {σ : L2.St} {H : Hp} {s : Shared} {a : Addr} {xs : List Str} (I : Inv X pins σ H s) (ha : H a = some (SetSO X.w a xs)) : SetS X.w s.heap a xs := (I.hok a _ ha).1
theorem roomK {n : Nat} (h : n ≤ 1000) : n + 1 < scanBound := Nat.lt_of_le_of_lt (Nat.succ_le_succ h) (by decide)
/-- set(list of texts) -/
def rSetT (K : PySem.W.Frag) (w : World) : List V → Hp → VK → Prop := fun vs H Q => ∃ (l : Addr) (zs : List Str), vs = [.ref l] ∧ SqL K H l (zs.map V.str) ∧ zs.length ≤ 1000 ∧
  ∀ (ys : List Str) (p : Addr), ys.Nodup → ys.length ≤ zs.length → (∀ x, x ∈ ys ↔ x ∈ zs) → H p = none → Q (.ref p) (upd H p (SetSO w p ys))
theorem cr_setT (hc : X.calm = true) : CallR X (.type "set") (rSetT X.K X.w) := by
  intro pins s σ H vs us Q I r h
  obtain ⟨l, zs, rfl, hl, hlen, q⟩ := h
  rw [Vals.ref1 r]
  obtain ⟨its, rv, p, hz⟩ := I.list hl
  refine set_of_list zs (I.ok.hd hc) p.isList (by simpa using rv.strs) (roomK hlen) fun h' tk ys R l2 m2 k => ?_
  have nd : ys.Nodup := by
    have ⟨_, _, _, _, _, _, _, Hh, _⟩ := R
    exact Hh.nd
  have hn : H s.heap.objs.size = none := I.hok.fresh (Nat.le_refl _)
  exact ⟨.ref _, upd H s.heap.objs.size (SetSO X.w s.heap.objs.size ys), I.laid (t' := tk) k (Nat.le_refl _) (set_new R), rfl, q ys _ nd l2 m2 hn⟩
/-- sorted(set of texts) -/
def rSortT (w : World) : List V → Hp → VK → Prop := fun vs H Q => ∃ (a : Addr) (xs : List Str), vs = [.ref a] ∧ H a = some (SetSO w a xs) ∧ xs.length < 64 ∧
  ∀ (ys : List Str) (p : Addr), ys.Perm xs → H p = none → Q (.ref p) (upd H p (.lst (ys.map V.str)))
theorem cr_sortT (hc : X.calm = true) : CallR X (.builtin "sorted") (rSortT X.w) := by
  intro pins s σ H vs us Q I r h
  obtain ⟨a, xs, rfl, ha, h64, q⟩ := h
  rw [Vals.ref1 r]
  refine sorted_of_set (set_get I ha) (I.ok.hd hc) h64 fun s' p out c ys k g o hp hg hi pm => ?_
  have len : (ys.map V.str).length ≤ sizeLine := by rw [List.length_map, pm.length_eq, sizeLine_eq]; omega
  have hn : H p = none := I.hok.fresh hp
  have J : Inv X pins σ (upd H p (.lst (ys.map V.str))) { s with heap := s'.heap, gens := s'.gens, drawn := s'.drawn, toks := s'.toks } :=
    I.call (ch := []) (Un.laid k hp hn) (I.hok.laid k hp ⟨len, out.toList, c, vals_of_strs hi, hg⟩) (by rw [g]; exact I.bare) (fun _ z => nomatch z)
  have e : s' = { s with heap := s'.heap, gens := s'.gens, drawn := s'.drawn, toks := s'.toks } := by
    cases s'
    cases s
    cases o
    rfl
  rw [e]
  exact ⟨.ref p, _, J, rfl, q ys p pm hn⟩
end
end WS
set_option Elab.async false
set_option linter.all false
set_option autoImplicit false
set_option maxRecDepth 100000
set_option maxHeartbeats 4000000
/-! {text for target in iter}. -/
namespace WS
open PySem PySem.Spec PyProof.Rows L2
section
variable {X : Cx}
theorem addT_ok {pins : List (Addr × Obj)} {σ : L2.St} {H : Hp} {s : Shared} {E : Value → Shared → Prop} {D : Addr} {xs : List Str} {y : Str} {t : Tok} {Q : Value → Shared → Prop} (I : Inv X pins σ H s) (hD : H D = some (SetSO X.w D xs)) (room : xs.length + 1 < scanBound)
    (h : ∀ s', Inv X pins σ (upd H D (SetSO X.w D (addT xs y))) s' → Q .none s') : wpAny (model X.prog X.w) X.A (call (.builtin "set.add") [.ref D, .str y t]) Q E s := by
  refine add_call (set_get I hD) room fun h' sb new => ?_
  have he : ∃ u, h'.get? D = some u := by
    have ⟨o, ho, _⟩ := new.exact
    exact ⟨o, ho⟩
  exact h _ (I.write (e := D) (t' := s.toks + 1) (by rw [hD]; trivial) (.inl rfl) (fun b u hb hu => (sb.2 b hb).trans hu) he (set_new new))
/-- what is asked: D the new set, W by the turn and a measure -/
def tScT (w : World) (wi : TI) (g : TG) (te : TE) (vs : List Nat) : TE := fun σ H Q => wi σ H fun J H1 => ∀ D, H1 D = none → ∃ W : Nat → Nat → Hp → Prop, (∃ m, W 0 m (upd H1 D (SetSO w D []))) ∧ ∀ i m H, W i m H →
  (J.stop i H ∧ Q (.ref D) H) ∨ (J.go i H ∧ ∃ Nx : Hp → Prop, (∀ H', Nx H' → ∃ m', m' < m ∧ W (i + 1) m' H') ∧ ∀ x H', J.yld i H x H' → g x (wipe σ vs) H' fun σ2 H2 => wipe σ2 vs = wipe σ vs ∧
    te σ2 H2 fun y H4 => ∃ (c : Str) (xs : List Str), y = .str c ∧ H4 D = some (SetSO w D xs) ∧ xs.length + 1 < scanBound ∧ Nx (upd H4 D (SetSO w D (addT xs c))))
theorem pe_scT {elt tg iter : Expr} {scope : Scope} {own : List (Str × Nat)} {pos : Pos} {wi : TI} {g : TG} {te : TE} (hc : X.calm = true) (hN : X.N.Nodup) (hi : PI X tg iter wi) (ok : BlkOk X.N X.env.scope scope own)
    (hg : ∀ (s : Shared) (H : Hp) (C : Addr) (cl : List (Str × Addr)) (fp : List Addr), PG (X.blk s H scope (compEnvC scope cl C X.env) fp) tg g)
    (he : ∀ (s : Shared) (H : Hp) (C : Addr) (cl : List (Str × Addr)) (fp : List Addr), PE (X.blk s H scope (compEnvC scope cl C X.env) fp) elt te) (hs : ∀ x, foldedSetIterable iter X.env x = pure x := by intro _; rfl) :
    PE X (.SetComp elt [⟨tg, iter, [], 0⟩] scope pos) (tScT X.w wi g te (own.map (·.2))) := by
  refine ⟨fun pins s σ H Q I h => ?_⟩
  rw [PpSet.eval_SetComp]
  have cap : ∀ y ∈ scope.names, y.2 = .free → ∃ c, X.env.cells.lookup y.1 = some c := fun y hy e => (ok.free y hy e).elim (fun k => I.ok.has _ (.inl k)) fun k => I.ok.has _ (.inr k)
  refine wpAny_comprehension_free (use := none) rfl hs (closure_ok cap) ok.kind (fun y hy e => by rw [ok.uniq y hy, e]) (thn (hi.run pins s σ H _ I h) fun xv s1 hx => thn hx fun itv s2 h2 => ?_)
  obtain ⟨it, fp, tn, J, H2, e, I2, T, st2, f2, q⟩ := h2
  subst e
  refine PpSet.newSet_ok (newEnv_comp ?_)
  -- the new set
  have nD : H2 s2.heap.objs.size = none := I2.hok.fresh (Nat.le_refl _)
  obtain ⟨W, ⟨m0, w0⟩, turn⟩ := q _ nD
  have I3 : Inv X pins σ (upd H2 s2.heap.objs.size (SetSO X.w s2.heap.objs.size [])) { s2 with heap := s2.heap.push (freshO X.w) } :=
    I2.laid (t' := s2.toks) (fun b o e => Heap.get?_push_of_some _ e) (Nat.le_refl _) (set_new (fresh_at (Heap.get?_push_size _ rfl)))
  have szD : s2.heap.objs.size < (s2.heap.push (freshO X.w)).objs.size := by rw [Heap.size_push]; exact Nat.lt_succ_self _
  have fpk : ∀ b ∈ fp, FpOk X pins (upd H2 s2.heap.objs.size (SetSO X.w s2.heap.objs.size [])) b ∧ b < (s2.heap.push (freshO X.w)).objs.size := fun b hb => by
    obtain ⟨o, e, _⟩ := T.obj _ _ st2 b hb
    have lt := Heap.lt_size e
    exact ⟨⟨by rw [upd_ne (Nat.ne_of_lt lt)]; exact (f2 b hb).1, (f2 b hb).2⟩, Nat.lt_trans lt szD⟩
  have st3 : tn 0 (s2.heap.push (freshO X.w)) := T.keep _ _ _ st2 fun b _ o e => Heap.get?_push_of_some _ e
  show codeAny _ _ _ _ _
  have hs3 : ∃ s3 : Shared, s3 = { s2 with heap := s2.heap.push (freshO X.w) } := ⟨_, rfl⟩
  obtain ⟨s3, hs3⟩ := hs3
  rw [← hs3] at I3
  have h3 : s3.heap = s2.heap.push (freshO X.w) := by rw [hs3]
  rw [← h3] at st3 fpk
  have hD : ∃ D, D = s2.heap.objs.size := ⟨_, rfl⟩
  obtain ⟨D, hD⟩ := hD
  rw [← hD] at I3 fpk w0 turn
  -- the block
  have I4 := block_start I3 ok hN fpk
  have hcl : ∃ cl, cl = cellsFrom (s3.heap.objs.size + 1) scope.names (cloFrom X.env.cells scope.names []) := ⟨_, rfl⟩
  obtain ⟨cl, hcl⟩ := hcl
  rw [← hcl] at I4
  have pg := hg s3 (upd H2 D (SetSO X.w D [])) s3.heap.objs.size cl fp
  have pe := he s3 (upd H2 D (SetSO X.w D [])) s3.heap.objs.size cl fp
  have goal : codeAny (model X.prog X.w) X.A (.compStart (.SetComp elt [⟨tg, iter, [], 0⟩] scope pos) 0 (.ref it) (.ref D) (compEnvC scope cl s3.heap.objs.size X.env))
      (compPost (model X.prog X.w) X.A X.xe none (EP X pins σ Q) (.ref D) s3.heap.objs.size) { s3 with heap := pushCells (s3.heap.push { cls := .type "dict", data := .dict #[] }) scope.names } := by
    have nfp : ∀ b ∈ fp, (upd H2 D (SetSO X.w D [])) b = none := fun b hb => (fpk b hb).1.1
    generalize hce : compEnvC scope cl s3.heap.objs.size X.env = ce at I4 pg pe ⊢
    have cL : ce.locals = s3.heap.objs.size := by rw [← hce]; rfl
    generalize upd H2 D (SetSO X.w D []) = H3 at I3 I4 pg pe w0 nfp fpk
    generalize hs4 : ({ s3 with heap := pushCells (s3.heap.push { cls := .type "dict", data := .dict #[] }) scope.names } : Shared) = s4 at I4 ⊢
    have st4 : tn 0 s4.heap := T.keep _ _ _ st3 fun b _ o e => by rw [← hs4]; exact pushCells_keeps _ _ _ _ (Heap.get?_push_of_some _ e)
    have own_ok : ∀ {σ' : L2.St} {H' : Hp} {s' : Shared}, Inv (X.blk s3 H3 scope ce fp) [] σ' H' s' → (∀ b ∈ fp, H' b = none) → ∀ b ∈ fp, FpOk (X.blk s3 H3 scope ce fp) [] H' b := fun {σ' H' s'} I' hn b hb =>
      ⟨hn b hb, (I'.ok.exf b hb).1, I'.ok.exfs b hb, .inl hb, fun x c e => (I'.ok.exf b hb).2 x c e, fun p hp => absurd (show p ∈ ([] : List (Addr × Obj)) ++ [] from hp) (by simp)⟩
    have loop : codeAny (model X.prog X.w) X.A (.compLoop (.SetComp elt [⟨tg, iter, [], 0⟩] scope pos) 0 (.ref it) (.ref D) ce) (compPost (model X.prog X.w) X.A X.xe none (EP X pins σ Q) (.ref D) s3.heap.objs.size) s4 := by
      refine PpSet.compLoopS_any (fun n s' => ∃ i H', Inv (X.blk s3 H3 scope ce fp) [] (wipe σ (own.map (·.2))) H' s' ∧ tn i s'.heap ∧ (∀ b ∈ fp, H' b = none) ∧ W i n H') ?_ m0 ⟨0, H3, I4, st4, nfp, w0⟩
      rintro n s5 ⟨i, H5, I5, st5, n5, w5⟩
      rcases turn i n H5 w5 with ⟨stop, qq⟩ | ⟨go, Nx, hNx, step⟩
      · refine thnF (T.done (X.blk s3 H3 scope ce fp) rfl rfl rfl hc i [] s5 _ H5 (fun _ _ => False) I5 (own_ok I5 n5) st5 stop) fun r s6 ⟨hr, I6⟩ => ?_
        subst hr
        have I7 : Inv X pins σ H5 s6 := I3.call' (ch := fp) I6.os I6.base I6.hok I6.bare fun b hb => ⟨(fpk b hb).1.2.2.2.1, (fpk b hb).1.2.1, (fpk b hb).1.2.2.2.2.1, (fpk b hb).1.2.2.2.2.2⟩
        have nC : H5 s3.heap.objs.size = none := by
          have z : H5 ce.locals = none := I6.free
          rw [cL] at z
          exact z
        obtain ⟨m, hn, _⟩ := I6.loc
        have hn : s6.heap.Ns ce.locals m := hn
        rw [cL] at hn
        obtain ⟨f0, f1, _, f3, f4, f5⟩ := I3.fpOk (Nat.le_refl _) nC
        exact ⟨m, hn, fun h'' sb => ⟨.ref D, H5, I7.turned (t' := s6.toks) (fun b o hb e => (sb.2 b hb).trans e) f0 f1 f3 f4 f5, rfl, qq⟩⟩
      · refine thnF (T.item (X.blk s3 H3 scope ce fp) rfl rfl rfl hc i [] s5 _ H5 (fun _ _ => False) I5 (own_ok I5 n5) st5 go) fun r s6 ⟨u, hr, h6⟩ => ?_
        subst hr
        refine thnF h6 fun _ s7 ⟨x, H7, I7, r7, y7, st7, n7⟩ => ?_
        have I7' := I7.pinned (own_ok I7 n7) (T.obj _ _ st7)
        refine thnF (pg.run _ s7 _ H7 x u _ I7' r7 (step x H7 y7)) fun _ s8 ⟨σ8, H8, I8, hw8, q8⟩ => ?_
        refine wpAny_pure ?_
        simp only [if_true]
        refine thnF (pe.run _ s8 σ8 H8 _ I8 q8) fun z s10 ⟨yv, H10, I10, r10, c, xs, ey, hD10, room, nx⟩ => ?_
        subst ey
        obtain ⟨tk, rfl⟩ := r10
        refine addT_ok (X := X.blk s3 H3 scope ce fp) I10 hD10 room fun s11 I11 => ?_
        obtain ⟨m', hm, w'⟩ := hNx _ nx
        have pin' : ∀ b ∈ fp, ∀ o, s7.heap.get? b = some o → s11.heap.get? b = some o ∧ (upd H10 D (SetSO X.w D (addT xs c))) b = none := fun b hb o e =>
          let z := I11.pin (b, o) (List.mem_append_right _ (List.mem_append_right _ (mem_pinsAt hb e)))
          ⟨z.1, z.2.1⟩
        refine ⟨m', hm, i + 1, _, (I11.unpinned (pins := [])).weak (by rw [← wipe_length σ8 (own.map (·.2)), hw8]) (fun j v e => ?_), T.keep _ _ _ st7 fun b hb o e => (pin' b hb o e).1, fun b hb => ?_, w'⟩
        · rw [← hw8] at e
          exact (wipe_some e).1
        · obtain ⟨o, e, _⟩ := T.obj _ _ st7 b hb
          exact (pin' b hb o e).2
    exact PpSet.codeAny_compStart_set loop (T.self X.A 0 _ _ _ st4 loop)
  rw [hcl, hs3, hD] at goal
  exact goal
/-- over a list that stands still -/
theorem scT_list {w : World} {K : PySem.W.Frag} {a : Addr} {xs : List V} {g : TG} {te : TE} {vs : List Nat} {σ : L2.St} {H1 : Hp} {D : Addr} {Qd : Hp → Prop} (Pv : Nat → Hp → Prop) (h0 : Pv 0 (upd H1 D (SetSO w D []))) (hl : ∀ i H, i ≤ xs.length → Pv i H → SqL K H a xs)
    (hs : ∀ i x H, xs[i]? = some x → Pv i H → g x (wipe σ vs) H fun σ2 H2 => wipe σ2 vs = wipe σ vs ∧
      te σ2 H2 fun y H4 => ∃ (c : Str) (zs : List Str), y = .str c ∧ H4 D = some (SetSO w D zs) ∧ zs.length + 1 < scanBound ∧ Pv (i + 1) (upd H4 D (SetSO w D (addT zs c)))) (hd : ∀ H, Pv xs.length H → Qd H) :
    ∃ W : Nat → Nat → Hp → Prop, (∃ m, W 0 m (upd H1 D (SetSO w D []))) ∧ ∀ i m H, W i m H →
      ((Itl K a).stop i H ∧ Qd H) ∨ ((Itl K a).go i H ∧ ∃ Nx : Hp → Prop, (∀ H', Nx H' → ∃ m', m' < m ∧ W (i + 1) m' H') ∧ ∀ x H', (Itl K a).yld i H x H' → g x (wipe σ vs) H' fun σ2 H2 => wipe σ2 vs = wipe σ vs ∧
        te σ2 H2 fun y H4 => ∃ (c : Str) (zs : List Str), y = .str c ∧ H4 D = some (SetSO w D zs) ∧ zs.length + 1 < scanBound ∧ Nx (upd H4 D (SetSO w D (addT zs c)))) := by
  refine ⟨fun i m H => i + m = xs.length ∧ Pv i H, ⟨xs.length, by simp, h0⟩, ?_⟩
  rintro i m H ⟨e, p⟩
  have q := hl i H (by omega) p
  cases m with
  | zero =>
    have e' : i = xs.length := by omega
    subst e'
    exact .inl ⟨⟨xs, q, Nat.le_refl _⟩, hd H p⟩
  | succ m =>
    have lt : i < xs.length := by omega
    refine .inr ⟨⟨xs, xs[i], q, List.getElem?_eq_getElem lt⟩, Pv (i + 1), fun H' p' => ⟨m, Nat.lt_succ_self _, by omega, p'⟩, fun x H' y => ?_⟩
    obtain ⟨e', y⟩ := y
    subst e'
    exact hs i x _ (y xs q) p
end
end WS
set_option Elab.async false
set_option linter.all false
set_option autoImplicit false
set_option maxRecDepth 100000
/-! Ways in the heap; single_ways. -/
namespace WB
open PySem PySem.Spec PyProof.Rows L2 WM
theorem pgt {X : Cx} (K : PySem.W.Frag) {es : List Expr} {k : Nat} {pos : Pos} {t : TGs} {n : Nat} (hc : X.calm = true) (h : PGs X es t) (hK : X.K = K := by rfl)
    (hn : (assignEach es X.env).length = n := by rfl) (hst : (assignEach es X.env).findIdx? (·.1) = none := by rfl) : PG X (.Tuple es k pos) (gTup K n t) := by
  subst hK; exact pg_tup hc h hn hst
/-- a test, with a word between it and what follows -/
def tMid (t : TT) : TT := fun σ H Q => ∃ Mid : Bool → Hp → Prop, t σ H Mid ∧ ∀ b H', Mid b H' → Q b H'
theorem pt_mid {X : Cx} {e : Expr} {t : TT} (h : PT X e t) : PT X e (tMid t) := ⟨fun pins s σ H Q I hw => by
  obtain ⟨Mid, hm, hq⟩ := hw
  exact thn (h.run pins s σ H Mid I hm) fun b s' ⟨H', I', q⟩ => ⟨H', I', hq b H' q⟩⟩
def keyW (k : Str × Str) : List Key := [.inr k.1, .inr k.2]
theorem keyW_inj {a b : Str × Str} : keyW a = keyW b ↔ a = b := by
  constructor
  · intro h
    obtain ⟨a1, a2⟩ := a
    obtain ⟨b1, b2⟩ := b
    simp [keyW] at h
    rw [h.1, h.2]
  · intro h
    rw [h]
abbrev ixs (p : List Nat) : List V := p.map fun i => V.int (i : Nat)
def IsWay (H : Hp) (v : V) (u : Way) : Prop := ∃ a b, v = .ref a ∧ H a = some (.tup [.int u.1, .ref b]) ∧ H b = some (.tup (ixs u.2))
theorem IsWay.mono {H H' : Hp} (t : Tups H H') {v : V} {u : Way} (h : IsWay H v u) : IsWay H' v u := by
  obtain ⟨a, b, e, h1, h2⟩ := h
  exact ⟨a, b, e, t _ _ h1, t _ _ h2⟩
def EntW (H : Hp) (kv : List Key × V) (e : (Str × Str) × Way) : Prop := kv.1 = keyW e.1 ∧ IsWay H kv.2 e.2
abbrev WaysAt (H : Hp) (kvs : List (List Key × V)) (W : Ways Str) : Prop := Al (EntW H) kvs W
theorem WaysAt.mono {H H' : Hp} (t : Tups H H') {kvs : List (List Key × V)} {W : Ways Str} (h : WaysAt H kvs W) : WaysAt H' kvs W := Al.mono h fun _ _ q => ⟨q.1, q.2.mono t⟩
theorem val_ways {H : Hp} : ∀ {W : Ways Str} {kvs : List (List Key × V)}, WaysAt H kvs W → ∀ k, (getT W k = none → valV kvs (keyW k) = none) ∧ (∀ u, getT W k = some u → ∃ v, valV kvs (keyW k) = some v ∧ IsWay H v u)
  | [], kvs, h, k => by
    have e : kvs = [] := List.length_eq_zero_iff.mp (by have := h.1; simpa using this)
    subst e
    exact ⟨fun _ => rfl, fun u hu => by rw [getT_nil] at hu; cases hu⟩
  | e :: W, kvs, h, k => by
    cases kvs with
    | nil => have := h.1; simp at this
    | cons kv r =>
      obtain ⟨y, r', e', hq, hr⟩ := Al.cons_inv h
      injection e' with e1 e2
      subst e1; subst e2
      by_cases z : e.1 = k
      · have z' : kv.1 = keyW k := by rw [hq.1, z]
        rw [valV_pos z', getT_pos z]
        refine ⟨fun n => (nomatch n), fun u hu => ?_⟩
        cases hu
        exact ⟨_, rfl, hq.2⟩
      · have z' : ¬ kv.1 = keyW k := fun n => z (keyW_inj.mp (hq.1.symm.trans n))
        rw [valV_neg z', getT_neg z]
        exact val_ways hr k
theorem any_ways {H : Hp} {W : Ways Str} {kvs : List (List Key × V)} (h : WaysAt H kvs W) (k : Str × Str) : (kvs.any fun kv => decide (kv.1 = keyW k)) = (W.any fun e => decide (e.1 = k)) := by
  rw [valV_any, getT_any]
  obtain ⟨h1, h2⟩ := val_ways h k
  cases g : getT W k with
  | none => rw [h1 g]; rfl
  | some u =>
    obtain ⟨v, hv, _⟩ := h2 u g
    rw [hv]; rfl
theorem Al.map2 {α β γ δ : Type} {R : α → β → Prop} {R' : γ → δ → Prop} {f : α → γ} {g : β → δ} {xs : List α} {ys : List β} (h : Al R xs ys) (k : ∀ x y, R x y → R' (f x) (g y)) : Al R' (xs.map f) (ys.map g) := by
  refine ⟨by rw [List.length_map, List.length_map, h.1], fun i x y a b => ?_⟩
  rw [List.getElem?_map] at a b
  obtain ⟨x', ha, rfl⟩ := Option.map_eq_some_iff.mp a
  obtain ⟨y', hb, rfl⟩ := Option.map_eq_some_iff.mp b
  exact k x' y' (h.2 i x' y' ha hb)
theorem put_ways {H : Hp} {W : Ways Str} {kvs : List (List Key × V)} (h : WaysAt H kvs W) {k : Str × Str} {v : V} {u : Way} (hv : IsWay H v u) : WaysAt H (putK kvs (keyW k) v) (putT W k u) := by
  unfold putK putT
  rw [any_ways h k]
  split
  · refine Al.map2 h fun x y q => ?_
    by_cases z : y.1 = k
    · have z' : x.1 = keyW k := by rw [q.1, z]
      rw [if_pos z, if_pos z']
      exact ⟨q.1, hv⟩
    · have z' : ¬ x.1 = keyW k := fun n => z (keyW_inj.mp (q.1.symm.trans n))
      rw [if_neg z, if_neg z']
      exact q
  · exact Al.snoc h ⟨rfl, hv⟩
/-- sizes: names within N -/
structure Lies (N : List Str) (W : Ways Str) (k : Nat) : Prop where
  nd : (W.map (·.1)).Nodup
  inN : ∀ e ∈ W, e.1.1 ∈ N ∧ e.1.2 ∈ N
  len : ∀ e ∈ W, e.2.2.length ≤ k
  ne : ∀ e ∈ W, e.2.2 ≠ []
theorem Lies.size {N : List Str} {W : Ways Str} {k : Nat} (h : Lies N W k) : W.length ≤ N.length * N.length := by
  have q := nodup_len (W.map (·.1)) (N.flatMap fun x => N.map fun y => (x, y)) h.nd (fun p hp => by
    obtain ⟨e, he, rfl⟩ := List.mem_map.mp hp
    obtain ⟨h1, h2⟩ := h.inN e he
    exact List.mem_flatMap.mpr ⟨e.1.1, h1, List.mem_map.mpr ⟨e.1.2, h2, rfl⟩⟩)
  rw [List.length_map] at q
  have e : (N.flatMap fun x => N.map fun y => (x, y)).length = N.length * N.length := by
    rw [List.length_flatMap]
    have : (N.map fun x => (N.map fun y => (x, y)).length) = N.map fun _ => N.length := by
      apply List.map_congr_left
      intro x _
      rw [List.length_map]
    rw [this, List.map_const', List.sum_replicate_nat]
  rw [e] at q
  exact q
theorem Lies.relax {N : List Str} {W : Ways Str} {k : Nat} (h : Lies N W k) {x y : Str} {w : Way} (hx : x ∈ N) (hy : y ∈ N) (hw : w.2.length ≤ k) (hn : w.2 ≠ []) : Lies N (WM.relax W x y w) k := by
  refine ⟨relax_nodup h.nd, fun e he => ?_, fun e he => ?_, fun e he => ?_⟩
  · rcases relax_mem h.nd he with z | z
    · exact h.inN e z
    · subst z; exact ⟨hx, hy⟩
  · rcases relax_mem h.nd he with z | z
    · exact h.len e z
    · subst z; exact hw
  · rcases relax_mem h.nd he with z | z
    · exact h.ne e z
    · subst z; exact hn
theorem put_at {H : Hp} {d : Addr} {kvs : List (List Key × V)} {W : Ways Str} (hd : H d = some (.dT kvs)) (h : WaysAt H kvs W) {k : Str × Str} {v : V} {u : Way} (hv : IsWay H v u) :
    WaysAt (upd H d (.dT (putK kvs (keyW k) v))) (putK kvs (keyW k) v) (putT W k u) := WaysAt.mono (But.upd.tups hd fun _ z => nomatch z) (put_ways h hv)
theorem relax_none {W : Ways Str} {x y : Str} {w : Way} (h : getT W (x, y) = none) : WM.relax W x y w = putT W (x, y) w := by unfold WM.relax; rw [h]
theorem relax_lt {W : Ways Str} {x y : Str} {w u : Way} (h : getT W (x, y) = some u) (l : w.1 < u.1) : WM.relax W x y w = putT W (x, y) w := by unfold WM.relax; rw [h]; exact if_pos l
theorem relax_ge {W : Ways Str} {x y : Str} {w u : Way} (h : getT W (x, y) = some u) (l : ¬ w.1 < u.1) : WM.relax W x y w = W := by unfold WM.relax; rw [h]; exact if_neg l
section
variable {P : Program} {w : World} {K : PySem.W.Frag} {mg : Str → Option Value} {base : Heap}
def spSingle (K : PySem.W.Frag) : Sp := fun vs H Q _ => ∃ (a : Addr) (ws : List V) (bs : List Bnd) (N : List Str), vs = [.ref a] ∧ SqL K H a ws ∧ Al (IsBnd H) ws bs ∧ (∀ b ∈ bs, b.1 ∈ N ∧ b.2.1 ∈ N) ∧ N.length ≤ 100 ∧
  ∀ H' d kvs, Same H H' → H d = none → H' d = some (.dT kvs) → WaysAt H' kvs (singles bs bs.length) → Q (.ref d) H'
theorem singles_lies {bs : List Bnd} {N : List Str} (h : ∀ b ∈ bs, b.1 ∈ N ∧ b.2.1 ∈ N) (n : Nat) : Lies N (singles bs n) 1 := by
  obtain ⟨g, _⟩ := singles_ok bs n
  refine ⟨g.nd, fun e he => ?_, fun e he => (g.path e he).2, fun e he => (g.path e he).1.ne⟩
  obtain ⟨h1, h2⟩ := (g.path e he).1.ends
  obtain ⟨b, hb, e1⟩ := List.mem_map.mp h1
  obtain ⟨c, hc, e2⟩ := List.mem_map.mp h2
  exact ⟨by rw [← e1]; exact (h b hb).1, by rw [← e2]; exact (h c hc).2⟩
theorem ok_single {f : Addr} {fd : FuncData} {k : Nat} (F : Fun K "single_ways" "single_ways" sSingle f fd) (me : mg "enumerate" = none) : FnOk P w K mg base CX0 (k + 1) f fd ["bounds"] (spSingle K) := by
  refine F.ok scSingle (fun vs H Q E h => ?_) (fun cdv A outer s H vs Q E hr h => ?_)
  · obtain ⟨a, ws, bs, N, rfl, _⟩ := h
    rfl
  · obtain ⟨a, ws, bs, N, rfl, hS, hal, hN, hNl, q⟩ := h
    have hu := hu_of hr
    refine ⟨_, pss_cons (ps_set (i := 1) scSingle.nd rfl (.inl rfl) pe_dnewT)
      (pss_cons (ps_for PassesOwn.never rfl (pi_enum (by rfl) me (pa_cons (pv 0) pa_nil))
          (pg_tup rfl (pgs_cons (pg_name (i := 2) scSingle.nd rfl (.inl rfl)) (pgs_cons (pg_tup rfl (pgs_cons (pg_name (i := 3) scSingle.nd rfl (.inl rfl)) (pgs_cons (pg_name (i := 4) scSingle.nd rfl (.inl rfl)) (pgs_cons (pg_name (i := 5) scSingle.nd rfl (.inl rfl)) pgs_nil)))) pgs_nil)))
        (pss_one (ps_if (pt_mid (PW.pt (pw_or (pt_cmp (pc_dnotin hu (pe_tup (pa_cons (pv 3) (pa_cons (pv 4) pa_nil))) (pv 1)))
            (pw_or1 (pt_cmpR op_lt (pv 5) (pe_ix ix_tup (pe_dget hu (pv 1) (pe_tup (pa_cons (pv 3) (pa_cons (pv 4) pa_nil))) (fun _ _ => rfl)) pe_int (fun _ _ => rfl)) (nomark _))))))
          (pss_one (ps_dput hu (pv 1) (pe_tup (pa_cons (pv 3) (pa_cons (pv 4) pa_nil))) (pe_tup (pa_cons (pv 5) (pa_cons (pe_tup (pa_cons (pv 2) pa_nil)) pa_nil))) rfl)) pss_nil)))
      (pss_one (ps_ret (pv 1)))), ?_⟩
    intro d nd
    have s1 : Same H (upd H d (.dT [])) := same_new nd
    refine ⟨.ref a, rfl, a, ws, rfl, s1.seq hS, ?_⟩
    refine for_it (walk_enum (K := K) (xs := ws)) (fun i σ H3 => ∃ (kvs : List (List Key × V)) (y2 y3 y4 y5 : Option V), σ = [some (.ref a), some (.ref d), y2, y3, y4, y5] ∧ Same H H3 ∧ H3 d = some (.dT kvs) ∧ WaysAt H3 kvs (singles bs i))
      ⟨[], none, none, none, none, rfl, s1, upd_same, Al.nil⟩ (fun i σ H3 _ hP => ?_) (fun i v σ H3 H4 hi hP hy => ?_) (fun σ H3 hP => ?_)
    · obtain ⟨kvs, y2, y3, y4, y5, rfl, s3, _, _⟩ := hP
      exact s3.seq hS
    · obtain ⟨kvs, y2, y3, y4, y5, rfl, s3, hd3, hW⟩ := hP
      obtain ⟨T, x1, x2, rfl, nT, rfl, ex1, ex2⟩ := hy
      have ex1 : V.int (i : Nat) = x1 := Option.some.inj ex1
      subst ex1
      obtain ⟨b, hb, B, rfl, hB⟩ := hal.get ex2
      have sT := same_new (o := .tup [.int (i : Nat), .ref B]) nT
      have s4 := s3.trans sT
      have hd4 := sT _ _ hd3
      have hW4 := WaysAt.mono (Same.tups sT) hW
      have hT4 : (upd H3 T (.tup [.int (i : Nat), .ref B])) T = some (.tup [.int (i : Nat), .ref B]) := upd_same
      generalize upd H3 T (.tup [.int (i : Nat), .ref B]) = H4 at *
      have mb : b ∈ bs := List.mem_of_getElem? hb
      have hB4 := s4 _ _ hB
      have lies := singles_lies hN i
      have lsz : kvs.length ≤ 10000 := by
        have h1 := lies.size
        have h2 : N.length * N.length ≤ 100 * 100 := Nat.mul_le_mul hNl hNl
        rw [hW4.1]; omega
      have hstep : singles bs (i + 1) = WM.relax (singles bs i) b.1 b.2.1 (b.2.2, [i]) := by rw [singles_succ, hb]
      have two : ∀ (z : V × V), ([z.1, z.2] : List V).length ≤ sizeLine := fun _ => small' (by simp)
      refine ⟨T, [.int (i : Nat), .ref B], rfl, SqT.of hT4, rfl, .int (i : Nat), _, rfl, .ref B, [], rfl, ?_⟩
      refine ⟨B, _, rfl, SqT.of hB4, rfl, .str b.1, _, rfl, .str b.2.1, _, rfl, .int b.2.2, [], rfl, rfl, rfl, ?_⟩
      -- is it shorter?
      refine ⟨fun t H' => Same H4 H' ∧ (t = true → WM.relax (singles bs i) b.1 b.2.1 (b.2.2, [i]) = putT (singles bs i) (b.1, b.2.1) (b.2.2, [i])) ∧ (t = false → WM.relax (singles bs i) b.1 b.2.1 (b.2.2, [i]) = singles bs i), ?_, ?_⟩
      · refine ⟨.str b.1, rfl, .str b.2.1, rfl, two (_, _), fun p np => ?_⟩
        have sp := same_new (o := .tup [.str b.1, .str b.2.1]) np
        have hd5 := sp _ _ hd4
        have hW5 := WaysAt.mono (Same.tups sp) hW4
        have hp5 : (upd H4 p (.tup [.str b.1, .str b.2.1])) p = some (.tup ((keyW (b.1, b.2.1)).map kV)) := upd_same
        generalize upd H4 p (.tup [.str b.1, .str b.2.1]) = H5 at *
        obtain ⟨v1, v2⟩ := val_ways hW5 (b.1, b.2.1)
        refine ⟨.ref d, rfl, d, _, rfl, DGet.t hd5 hp5, _, rfl, ?_⟩
        cases g : getT (singles bs i) (b.1, b.2.1) with
        | none =>
          rw [v1 g]
          refine iteT ?_
          exact ⟨sp, fun _ => relax_none g, fun z => nomatch z⟩
        | some u =>
          obtain ⟨v, hv, V1, V2, rfl, hV1, hV2⟩ := v2 u g
          rw [hv]
          refine iteF ?_
          refine ⟨.int b.2.2, rfl, .ref d, rfl, .str b.1, rfl, .str b.2.1, rfl, two (_, _), fun p2 np2 => ?_⟩
          have sp2 := same_new (o := .tup [.str b.1, .str b.2.1]) np2
          have get2 := DGet.t (k := keyW (b.1, b.2.1)) (sp2 _ _ hd5) (show (upd H5 p2 (.tup [.str b.1, .str b.2.1])) p2 = some (.tup ((keyW (b.1, b.2.1)).map kV)) from upd_same)
          rw [hv] at get2
          refine ⟨d, .ref V1, rfl, get2, V1, _, 0, .int u.1, rfl, rfl, SqT.of (sp2 _ _ hV1), atI_nat (j := 0) rfl, _, _, rfl, rfl, _, rfl, sp.trans sp2, fun z => relax_lt g (of_decide_eq_true z), fun z => relax_ge g (of_decide_eq_false z)⟩
      · rintro t H5 ⟨s45, ht, hf⟩
        have hd5 := s45 _ _ hd4
        have hW5 := WaysAt.mono (Same.tups s45) hW4
        have s5 := s4.trans s45
        rw [hstep]
        cases t with
        | false =>
          rw [hf rfl]
          exact iteF ⟨kvs, _, _, _, _, rfl, s5, hd5, hW5⟩
        | true =>
          rw [ht rfl]
          refine iteT ?_
          refine ⟨.int b.2.2, rfl, .int (i : Nat), rfl, small' (by simp), fun q1 n1 => ?_⟩
          have t1 := same_new (o := .tup [.int (i : Nat)]) n1
          refine ⟨small' (by simp), fun q2 n2 => ?_⟩
          have n12 : q1 ≠ q2 := fun e => by rw [← e, upd_same] at n2; cases n2
          have t2 := t1.trans (same_new (o := .tup [.int b.2.2, .ref q1]) n2)
          have way : IsWay (upd (upd H5 q1 (.tup [.int (i : Nat)])) q2 (.tup [.int b.2.2, .ref q1])) (.ref q2) (b.2.2, [i]) := ⟨q2, q1, rfl, upd_same, by rw [upd_ne n12]; exact upd_same⟩
          generalize upd (upd H5 q1 (.tup [.int (i : Nat)])) q2 (.tup [.int b.2.2, .ref q1]) = H6 at *
          refine ⟨.ref d, rfl, .str b.1, rfl, .str b.2.1, rfl, two (_, _), fun p3 n3 => ?_⟩
          have t3 := same_new (o := .tup [.str b.1, .str b.2.1]) n3
          have hp7 : (upd H6 p3 (.tup [.str b.1, .str b.2.1])) p3 = some (.tup ((keyW (b.1, b.2.1)).map kV)) := upd_same
          have hd7 := t3 _ _ (t2 _ _ hd5)
          have hW7 := WaysAt.mono (Same.tups (t2.trans t3)) hW5
          have way7 := way.mono (Same.tups t3)
          have s7 := s5.trans (t2.trans t3)
          generalize upd H6 p3 (.tup [.str b.1, .str b.2.1]) = H7 at *
          refine ⟨d, _, rfl, DPut.t hd7 hp7 (small (by omega)), ?_⟩
          refine ⟨_, _, _, _, _, rfl, fun c o z => ?_, upd_same, put_at hd7 hW7 way7⟩
          rw [upd_ne (ne_of_none z nd)]
          exact s7 _ _ z
    · obtain ⟨kvs, y2, y3, y4, y5, rfl, s3, hd3, hW⟩ := hP
      have el : ws.length = bs.length := hal.1
      rw [el] at hW
      exact ⟨.ref d, rfl, q H3 d kvs s3 nd hd3 hW⟩
end
end WB
set_option Elab.async false
set_option linter.all false
set_option autoImplicit false
set_option maxRecDepth 100000
/-! pass_through. -/
namespace WB
open PySem PySem.Spec PyProof.Rows L2 WM
/-! ### what is picked of the ways -/
def IsEnd (H : Hp) (v : V) (a : Str × Way) : Prop := ∃ p u, v = .ref p ∧ H p = some (.tup [.str a.1, u]) ∧ IsWay H u a.2
theorem IsEnd.mono {H H' : Hp} (t : Tups H H') {v : V} {u : Str × Way} (h : IsEnd H v u) : IsEnd H' v u := by
  obtain ⟨p, x, e, h1, h2⟩ := h
  exact ⟨p, x, e, t _ _ h1, h2.mono t⟩
theorem ends_mono {H H' : Hp} (t : Tups H H') {vs : List V} {ls : List (Str × Way)} (h : Al (IsEnd H) vs ls) : Al (IsEnd H') vs ls := h.mono fun _ _ q => q.mono t
theorem before_succ {W : Ways Str} {m : Str} {i : Nat} {e : (Str × Str) × Way} (h : W[i]? = some e) : WM.before (W.take (i + 1)) m = WM.before (W.take i) m ++ if (decide (e.1.2 = m) && !decide (e.1.1 = m)) = true then [(e.1.1, e.2)] else [] := by
  unfold WM.before
  rw [take_snoc h, List.filter_append, List.map_append, List.filter_cons]
  split <;> rfl
theorem behind_succ {W : Ways Str} {m : Str} {i : Nat} {e : (Str × Str) × Way} (h : W[i]? = some e) : WM.behind (W.take (i + 1)) m = WM.behind (W.take i) m ++ if (decide (e.1.1 = m) && !decide (e.1.2 = m)) = true then [(e.1.2, e.2)] else [] := by
  unfold WM.behind
  rw [take_snoc h, List.filter_append, List.map_append, List.filter_cons]
  split <;> rfl
theorem outer_succ {W : Ways Str} {as zs : List (Str × Way)} {i : Nat} {a : Str × Way} (h : as[i]? = some a) : WM.outer W (as.take (i + 1)) zs = WM.inner (WM.outer W (as.take i) zs) a zs := by
  unfold WM.outer
  rw [take_snoc h, List.foldl_append]
  rfl
theorem inner_succ {W : Ways Str} {zs : List (Str × Way)} {i : Nat} {a z : Str × Way} (h : zs[i]? = some z) : WM.inner W a (zs.take (i + 1)) = WM.relax (WM.inner W a (zs.take i)) a.1 z.1 (WM.joined a.2 z.2) := by
  unfold WM.inner
  rw [take_snoc h, List.foldl_append]
  rfl
theorem lies_up {N : List Str} {W : Ways Str} {k k' : Nat} (h : Lies N W k) (l : k ≤ k') : Lies N W k' := ⟨h.nd, h.inN, fun e he => Nat.le_trans (h.len e he) l, h.ne⟩
theorem lies_inner {N : List Str} {k : Nat} {a : Str × Way} (ha : a.1 ∈ N ∧ a.2.2.length ≤ k ∧ a.2.2 ≠ []) {zs : List (Str × Way)} (hz : ∀ z ∈ zs, z.1 ∈ N ∧ z.2.2.length ≤ k) {V : Ways Str} (h : Lies N V (2 * k)) : Lies N (WM.inner V a zs) (2 * k) :=
  inner_fold (P := fun V => Lies N V (2 * k)) h fun V b hb p => p.relax ha.1 (hz b hb).1 (by
    show (a.2.2 ++ b.2.2).length ≤ 2 * k
    rw [List.length_append]
    have := (hz b hb).2
    have := ha.2.1
    omega) (by
    show a.2.2 ++ b.2.2 ≠ []
    simp [ha.2.2])
theorem before_in {N : List Str} {W : Ways Str} {k : Nat} (h : Lies N W k) {m : Str} : ∀ a ∈ WM.before W m, a.1 ∈ N ∧ a.2.2.length ≤ k ∧ a.2.2 ≠ [] := fun a ha => by
  obtain ⟨h1, _⟩ := mem_before.mp ha
  exact ⟨(h.inN _ h1).1, h.len _ h1, h.ne _ h1⟩
theorem behind_in {N : List Str} {W : Ways Str} {k : Nat} (h : Lies N W k) {m : Str} : ∀ a ∈ WM.behind W m, a.1 ∈ N ∧ a.2.2.length ≤ k ∧ a.2.2 ≠ [] := fun a ha => by
  obtain ⟨h1, _⟩ := mem_behind.mp ha
  exact ⟨(h.inN _ h1).2, h.len _ h1, h.ne _ h1⟩
theorem lies_outer {N : List Str} {k : Nat} {as zs : List (Str × Way)} (ha : ∀ a ∈ as, a.1 ∈ N ∧ a.2.2.length ≤ k ∧ a.2.2 ≠ []) (hz : ∀ z ∈ zs, z.1 ∈ N ∧ z.2.2.length ≤ k) {V : Ways Str} (h : Lies N V (2 * k)) : Lies N (WM.outer V as zs) (2 * k) :=
  outer_fold (P := fun V => Lies N V (2 * k)) h fun V a b ha' hb p => p.relax (ha a ha').1 (hz b hb).1 (by
    show (a.2.2 ++ b.2.2).length ≤ 2 * k
    rw [List.length_append]
    have := (hz b hb).2
    have := (ha a ha').2.1
    omega) (by
    show a.2.2 ++ b.2.2 ≠ []
    simp [(ha a ha').2.2])
theorem lies_through {N : List Str} {W : Ways Str} {k : Nat} (h : Lies N W k) (m : Str) : Lies N (WM.through W m) (2 * k) :=
  lies_outer (before_in h) (fun z hz => ⟨(behind_in h z hz).1, (behind_in h z hz).2.1⟩) (lies_up h (by omega))
/-- behind a lock -/
theorem unlock_same {H H' : Hp} {d : Addr} {od : Obj} {u : HO} (hd : H d = some u) (s : Same (upd H d (.frz od u)) H') : Same H (upd H' d u) := fun b o e => by
  by_cases z : b = d
  · subst z
    rw [hd] at e
    cases e
    exact upd_same
  · rw [upd_ne z]
    exact s b o (by rw [upd_ne z]; exact e)
theorem unlock_tups {H' : Hp} {d : Addr} {od : Obj} {u : HO} (hd : H' d = some (.frz od u)) : Tups H' (upd H' d u) := fun b xs e => by
  rw [upd_ne (fun z => by subst z; rw [hd] at e; cases e)]
  exact e
theorem lock_tups {H : Hp} {d : Addr} {od : Obj} {u : HO} (hd : H d = some u) (hu : ∀ xs, u ≠ .tup xs) : Tups H (upd H d (.frz od u)) := fun b xs e => by
  rw [upd_ne (fun z => by subst z; rw [hd] at e; cases e; exact hu xs rfl)]
  exact e
section
variable {P : Program} {w : World} {K : PySem.W.Frag} {mg : Str → Option Value} {base : Heap}
def spPass : Sp := fun vs H Q _ => ∃ (d : Addr) (m : Str) (kvs : List (List Key × V)) (W : Ways Str) (N : List Str) (k : Nat), vs = [.ref d, .str m] ∧ H d = some (.dT kvs) ∧ WaysAt H kvs W ∧ Lies N W k ∧ k ≤ 10000 ∧ N.length ≤ 100 ∧
  ∀ H' kvs', But d H H' → H' d = some (.dT kvs') → WaysAt H' kvs' (WM.through W m) → Q .non H'
theorem ok_pass {f : Addr} {fd : FuncData} {k : Nat} (F : Fun K "pass_through" "pass_through" sPass f fd) : FnOk P w K mg base CX0 (k + 1) f fd ["ways", "middle"] spPass := by
  refine F.ok scPass (fun vs H Q E h => ?_) (fun cdv A outer s H vs Q E hr h => ?_)
  · obtain ⟨d, m, kvs, W, N, k, rfl, _⟩ := h
    rfl
  · obtain ⟨d, m, kvs, W, N, k, rfl, hd, hW, hL, hk, hNl, q⟩ := h
    have hu := hu_of hr
    have nd := scPass.nd
    refine ⟨_, pss_cons (ps_lock (ps_setLc (i := 4) (own := [("x", 2), ("y", 3)]) (g := gTup K 2 (gCons (gName 2) (gCons (gName 3) gNil))) rfl nd rfl rfl (sw_true rfl rfl rfl (by decide +kernel)) (pi_keys (pv 0))
        (blkOk_by (N := nPass) (sc := defScope sPass) (by decide +kernel)) (fun _ _ _ _ _ => pgt K rfl (pgs_cons (pg_name (i := 2) nd rfl (Or.inl rfl)) (pgs_cons (pg_name (i := 3) nd rfl (Or.inl rfl)) pgs_nil)))
        (fun _ _ _ _ _ => pts_one (PW.pt (pw_and (pt_cmpR op_eq (pv 3) (pv 1) (nomark _)) (pw_and1 (pt_cmpR op_ne (pv 2) (pv 1) (nomark _))))))
        (fun _ _ _ _ _ => pe_tup (pa_cons (pv 2) (pa_cons (pe_dget hu (pv 0) (pe_tup (pa_cons (pv 2) (pa_cons (pv 3) pa_nil))) (fun _ _ => rfl)) pa_nil)))))
      (pss_cons (ps_lock (ps_setLc (i := 5) (own := [("x", 2), ("y", 3)]) (g := gTup K 2 (gCons (gName 2) (gCons (gName 3) gNil))) rfl nd rfl rfl (sw_true rfl rfl rfl (by decide +kernel)) (pi_keys (pv 0))
        (blkOk_by (N := nPass) (sc := defScope sPass) (by decide +kernel)) (fun _ _ _ _ _ => pgt K rfl (pgs_cons (pg_name (i := 2) nd rfl (Or.inl rfl)) (pgs_cons (pg_name (i := 3) nd rfl (Or.inl rfl)) pgs_nil)))
        (fun _ _ _ _ _ => pts_one (PW.pt (pw_and (pt_cmpR op_eq (pv 2) (pv 1) (nomark _)) (pw_and1 (pt_cmpR op_ne (pv 3) (pv 1) (nomark _))))))
        (fun _ _ _ _ _ => pe_tup (pa_cons (pv 3) (pa_cons (pe_dget hu (pv 0) (pe_tup (pa_cons (pv 2) (pa_cons (pv 3) pa_nil))) (fun _ _ => rfl)) pa_nil)))))
      (pss_one (ps_for PassesOwn.never rfl (pi_list (pv 4)) (pg_tup rfl (pgs_cons (pg_name (i := 2) nd rfl (.inl rfl)) (pgs_cons (pg_name (i := 6) nd rfl (.inl rfl)) pgs_nil)))
        (pss_one (ps_for PassesOwn.never rfl (pi_list (pv 5)) (pg_tup rfl (pgs_cons (pg_name (i := 3) nd rfl (.inl rfl)) (pgs_cons (pg_name (i := 7) nd rfl (.inl rfl)) pgs_nil)))
          (pss_cons (ps_set (i := 8) nd rfl (.inl rfl) (pe_op op_add (pe_ix ix_tup (pv 6) pe_int (fun _ _ => rfl)) (pe_ix ix_tup (pv 7) pe_int (fun _ _ => rfl))))
          (pss_one (ps_if (pt_mid (PW.pt (pw_or (pt_cmp (pc_dnotin hu (pe_tup (pa_cons (pv 2) (pa_cons (pv 3) pa_nil))) (pv 0)))
              (pw_or1 (pt_cmpR op_lt (pv 8) (pe_ix ix_tup (pe_dget hu (pv 0) (pe_tup (pa_cons (pv 2) (pa_cons (pv 3) pa_nil))) (fun _ _ => rfl)) pe_int (fun _ _ => rfl)) (nomark _))))))
            (pss_one (ps_dput hu (pv 0) (pe_tup (pa_cons (pv 2) (pa_cons (pv 3) pa_nil))) (pe_tup (pa_cons (pv 8) (pa_cons (pe_op op_catT (pe_ix ix_tup (pv 6) pe_int (fun _ _ => rfl)) (pe_ix ix_tup (pv 7) pe_int (fun _ _ => rfl))) pa_nil))) rfl)) pss_nil)))))))), ?_⟩
    have two : ∀ (z : V × V), ([z.1, z.2] : List V).length ≤ sizeLine := fun _ => small' (by simp)
    have wsz : W.length ≤ 10000 := by
      have h1 := hL.size
      have h2 : N.length * N.length ≤ 100 * 100 := Nat.mul_le_mul hNl hNl
      omega
    -- before
    refine ⟨d, .dT kvs, hd, trivial, fun od => ?_⟩
    have hW1 := WaysAt.mono (lock_tups (od := od) hd (fun _ z => nomatch z)) hW
    refine ⟨.ref d, rfl, d, od, rfl, .inr ⟨kvs, upd_same, fun D nD => ?_⟩⟩
    have ndD : D ≠ d := fun z => by rw [z, upd_same] at nD; cases nD
    refine lc_it (walk_keysT (d := d) (o := od) (kvs := kvs)) (fun i H1 => ∃ vs : List V, Same (upd H d (.frz od (.dT kvs))) H1 ∧ H1 D = some (.lst vs) ∧ Al (IsEnd H1) vs (WM.before (W.take i) m) ∧ vs.length ≤ i) ⟨[], same_new nD, upd_same, Al.nil, Nat.le_refl _⟩ (fun i H1 _ hP => ?_) (fun i x H0 H1 hi hP hy => ?_) (fun H1 hP => ?_)
    · obtain ⟨vs, s1, _⟩ := hP
      exact s1 _ _ upd_same
    · obtain ⟨vs, s1, hD, al, hvl⟩ := hP
      obtain ⟨rfl, kk, vv, p, hkv, rfl, hp⟩ := hy
      obtain ⟨e, he, ek, hway⟩ := (WaysAt.mono (Same.tups s1) hW1).get hkv
      have ek : kk = keyW e.1 := ek
      subst ek
      rw [before_succ he]
      refine ⟨p, [.str e.1.1, .str e.1.2], rfl, SqT.of hp, rfl, .str e.1.1, _, rfl, .str e.1.2, [], rfl, rfl, rfl, ?_⟩
      refine ⟨.str e.1.2, rfl, .str m, rfl, rfl, _, rfl, ite2 (fun h1 => ?_) (fun h1 => ?_)⟩
      · have h1 : e.1.2 = m := V.str.inj (of_decide_eq_true h1)
        refine ⟨.str e.1.1, rfl, .str m, rfl, rfl, _, rfl, ?_⟩
        by_cases h2 : e.1.1 = m
        · rw [h2, decide_eq_true (show V.str m = V.str m from rfl)]
          refine iteF ?_
          refine ⟨vs, s1, hD, ?_, by omega⟩
          simpa [h2] using al
        · rw [decide_eq_false (show ¬ V.str e.1.1 = V.str m from fun z => h2 (V.str.inj z))]
          refine iteT ?_
          refine ⟨.str e.1.1, rfl, .ref d, rfl, .str e.1.1, rfl, .str e.1.2, rfl, two (_, _), fun p2 n2 => ?_⟩
          have s2 := same_new (o := .tup [.str e.1.1, .str e.1.2]) n2
          have al2 := ends_mono (Same.tups s2) al
          have hp2 : (upd H1 p2 (.tup [.str e.1.1, .str e.1.2])) p2 = some (.tup ((keyW e.1).map kV)) := upd_same
          have s3 := s1.trans s2
          have hD2 := s2 _ _ hD
          obtain ⟨v, hv, wv⟩ := (val_ways (WaysAt.mono (Same.tups s3) hW1) e.1).2 e.2 (getT_of_mem hL.nd (List.mem_of_getElem? he))
          generalize upd H1 p2 (.tup [.str e.1.1, .str e.1.2]) = H2 at *
          refine ⟨d, v, rfl, .inr ⟨kvs, keyW e.1, p2, .inr ⟨od, s3 _ _ upd_same⟩, rfl, hp2, hv.symm⟩, two (_, _), fun p4 n4 => ?_⟩
          have s4 := same_new (o := .tup [.str e.1.1, v]) n4
          have en : IsEnd (upd H2 p4 (.tup [.str e.1.1, v])) (.ref p4) (e.1.1, e.2) := ⟨p4, v, rfl, upd_same, wv.mono (Same.tups s4)⟩
          have al4 := ends_mono (Same.tups s4) al2
          have hD4 := s4 _ _ hD2
          have s5 := s3.trans s4
          generalize upd H2 p4 (.tup [.str e.1.1, v]) = H4 at *
          have t5 : Tups H4 (upd H4 D (.lst (vs ++ [.ref p4]))) := But.upd.tups hD4 (fun _ z => nomatch z)
          have hil : i < kvs.length := hi
          have hkl : kvs.length = W.length := hW.1
          refine ⟨vs, hD4, small (by omega), vs ++ [.ref p4], fun b o z => ?_, upd_same, ?_, by rw [List.length_append]; simp; exact hvl⟩
          · rw [upd_ne (ne_of_none z nD)]
            exact s5 _ _ z
          · rw [decide_eq_true h1, decide_eq_false h2]
            exact ends_mono t5 (al4.snoc en)
      · have h1 : ¬ e.1.2 = m := fun z => h1 (decide_eq_true (by rw [z]))
        refine iteF ?_
        refine ⟨vs, s1, hD, ?_, by omega⟩
        simpa [h1] using al
    · obtain ⟨vs1, s1, hD, al1, _⟩ := hP
      have hkl : kvs.length = W.length := hW.1
      rw [hkl, List.take_length] at al1
      have hfr := s1 _ _ (show (upd H d (.frz od (.dT kvs))) d = some _ from upd_same)
      refine ⟨hfr, ?_⟩
      have sA := unlock_same hd s1
      have tA := unlock_tups hfr
      have alA := ends_mono tA al1
      have hDA : (upd H1 d (.dT kvs)) D = some (.lst vs1) := by rw [upd_ne ndD]; exact hD
      have nHD : H D = none := by rw [upd_ne ndD] at nD; exact nD
      have hdA : (upd H1 d (.dT kvs)) d = some (.dT kvs) := upd_same
      clear al1 hD s1
      generalize upd H1 d (.dT kvs) = HA at *
      have hWA := WaysAt.mono (Same.tups sA) hW
      -- behind
      refine ⟨d, .dT kvs, hdA, trivial, fun od => ?_⟩
      have hW1 := WaysAt.mono (lock_tups (od := od) hdA (fun _ z => nomatch z)) hWA
      refine ⟨.ref d, rfl, d, od, rfl, .inr ⟨kvs, upd_same, fun D2 nD2 => ?_⟩⟩
      have ndD2 : D2 ≠ d := fun z => by rw [z, upd_same] at nD2; cases nD2
      refine lc_it (walk_keysT (d := d) (o := od) (kvs := kvs)) (fun i H1 => ∃ vs : List V, Same (upd HA d (.frz od (.dT kvs))) H1 ∧ H1 D2 = some (.lst vs) ∧ Al (IsEnd H1) vs (WM.behind (W.take i) m) ∧ vs.length ≤ i) ⟨[], same_new nD2, upd_same, Al.nil, Nat.le_refl _⟩ (fun i H1 _ hP => ?_) (fun i x H0 H1 hi hP hy => ?_) (fun H1 hP => ?_)
      · obtain ⟨vs, s1, _⟩ := hP
        exact s1 _ _ upd_same
      · obtain ⟨vs, s1, hD, al, hvl⟩ := hP
        obtain ⟨rfl, kk, vv, p, hkv, rfl, hp⟩ := hy
        obtain ⟨e, he, ek, hway⟩ := (WaysAt.mono (Same.tups s1) hW1).get hkv
        have ek : kk = keyW e.1 := ek
        subst ek
        rw [behind_succ he]
        refine ⟨p, [.str e.1.1, .str e.1.2], rfl, SqT.of hp, rfl, .str e.1.1, _, rfl, .str e.1.2, [], rfl, rfl, rfl, ?_⟩
        refine ⟨.str e.1.1, rfl, .str m, rfl, rfl, _, rfl, ite2 (fun h1 => ?_) (fun h1 => ?_)⟩
        · have h1 : e.1.1 = m := V.str.inj (of_decide_eq_true h1)
          refine ⟨.str e.1.2, rfl, .str m, rfl, rfl, _, rfl, ?_⟩
          by_cases h2 : e.1.2 = m
          · rw [h2, decide_eq_true (show V.str m = V.str m from rfl)]
            refine iteF ?_
            refine ⟨vs, s1, hD, ?_, by omega⟩
            simpa [h2] using al
          · rw [decide_eq_false (show ¬ V.str e.1.2 = V.str m from fun z => h2 (V.str.inj z))]
            refine iteT ?_
            refine ⟨.str e.1.2, rfl, .ref d, rfl, .str e.1.1, rfl, .str e.1.2, rfl, two (_, _), fun p2 n2 => ?_⟩
            have s2 := same_new (o := .tup [.str e.1.1, .str e.1.2]) n2
            have al2 := ends_mono (Same.tups s2) al
            have hp2 : (upd H1 p2 (.tup [.str e.1.1, .str e.1.2])) p2 = some (.tup ((keyW e.1).map kV)) := upd_same
            have s3 := s1.trans s2
            have hD2 := s2 _ _ hD
            obtain ⟨v, hv, wv⟩ := (val_ways (WaysAt.mono (Same.tups s3) hW1) e.1).2 e.2 (getT_of_mem hL.nd (List.mem_of_getElem? he))
            generalize upd H1 p2 (.tup [.str e.1.1, .str e.1.2]) = H2 at *
            refine ⟨d, v, rfl, .inr ⟨kvs, keyW e.1, p2, .inr ⟨od, s3 _ _ upd_same⟩, rfl, hp2, hv.symm⟩, two (_, _), fun p4 n4 => ?_⟩
            have s4 := same_new (o := .tup [.str e.1.2, v]) n4
            have en : IsEnd (upd H2 p4 (.tup [.str e.1.2, v])) (.ref p4) (e.1.2, e.2) := ⟨p4, v, rfl, upd_same, wv.mono (Same.tups s4)⟩
            have al4 := ends_mono (Same.tups s4) al2
            have hD4 := s4 _ _ hD2
            have s5 := s3.trans s4
            generalize upd H2 p4 (.tup [.str e.1.2, v]) = H4 at *
            have t5 : Tups H4 (upd H4 D2 (.lst (vs ++ [.ref p4]))) := But.upd.tups hD4 (fun _ z => nomatch z)
            have hil : i < kvs.length := hi
            refine ⟨vs, hD4, small (by omega), vs ++ [.ref p4], fun b o z => ?_, upd_same, ?_, by rw [List.length_append]; simp; exact hvl⟩
            · rw [upd_ne (ne_of_none z nD2)]
              exact s5 _ _ z
            · rw [decide_eq_true h1, decide_eq_false h2]
              exact ends_mono t5 (al4.snoc en)
        · have h1 : ¬ e.1.1 = m := fun z => h1 (decide_eq_true (by rw [z]))
          refine iteF ?_
          refine ⟨vs, s1, hD, ?_, by omega⟩
          simpa [h1] using al
      · obtain ⟨vs2, s1, hD2, al2, _⟩ := hP
        rw [hkl, List.take_length] at al2
        have hfr := s1 _ _ (show (upd HA d (.frz od (.dT kvs))) d = some _ from upd_same)
        refine ⟨hfr, ?_⟩
        have sB := unlock_same hdA s1
        have tB := unlock_tups hfr
        have alB := ends_mono tB al2
        have hDB : (upd H1 d (.dT kvs)) D2 = some (.lst vs2) := by rw [upd_ne ndD2]; exact hD2
        have hD1B := sB _ _ hDA
        have al1B := ends_mono (Same.tups sB) alA
        have hdB : (upd H1 d (.dT kvs)) d = some (.dT kvs) := upd_same
        have hWB := WaysAt.mono (Same.tups sB) hWA
        have sHB := sA.trans sB
        clear al2 hD2 s1 tA tB hW1
        generalize upd H1 d (.dT kvs) = HB at *
        generalize hzs : WM.behind W m = zs at alB
        generalize has : WM.before W m = as at al1B
        have inA : ∀ a ∈ as, a.1 ∈ N ∧ a.2.2.length ≤ k ∧ a.2.2 ≠ [] := by rw [← has]; exact before_in hL
        have inZ : ∀ z ∈ zs, z.1 ∈ N ∧ z.2.2.length ≤ k ∧ z.2.2 ≠ [] := by rw [← hzs]; exact behind_in hL
        have hthr : WM.through W m = WM.outer W as zs := by unfold WM.through; rw [hzs, has]
        have two2 : ∀ {V : Ways Str}, Lies N V (2 * k) → V.length ≤ 10000 := fun {V} h => by
          have h1 := h.size
          have h2 : N.length * N.length ≤ 100 * 100 := Nat.mul_le_mul hNl hNl
          omega
        -- the loops
        refine ⟨.ref D, rfl, D, rfl, ⟨_, SqL.of hD1B⟩, ?_⟩
        refine for_list (K := K) (a := D) (xs := vs1) (fun i σ H3 => ∃ (kv : List (List Key × V)) (y2 y3 y6 y7 y8 : Option V), σ = [some (.ref d), some (.str m), y2, y3, some (.ref D), some (.ref D2), y6, y7, y8] ∧ But d HB H3 ∧ H3 d = some (.dT kv) ∧
          WaysAt H3 kv (WM.outer W (as.take i) zs) ∧ Lies N (WM.outer W (as.take i) zs) (2 * k)) ⟨kvs, none, none, none, none, none, rfl, But.refl, hdB, hWB, lies_up hL (by omega)⟩ (fun i σ H3 _ hP => ?_) (fun i x σ H3 hx hP => ?_) (fun σ H3 hP => ?_)
        · obtain ⟨kv, y2, y3, y6, y7, y8, _, b3, _⟩ := hP
          exact SqL.of (b3 _ _ ndD hD1B)
        · obtain ⟨kv, y2, y3, y6, y7, y8, rfl, b3, hd3, hW3, hL3⟩ := hP
          obtain ⟨a, ha, pa, ua, rfl, ea, wa⟩ := al1B.get hx
          have tB3 : Tups HB H3 := b3.tups hdB (fun _ z => nomatch z)
          obtain ⟨A1, A2, rfl, hA1, hA2⟩ := wa
          refine ⟨pa, _, rfl, SqT.of (tB3 _ _ ea), rfl, .str a.1, _, rfl, .ref A1, [], rfl, rfl, ?_⟩
          refine ⟨.ref D2, rfl, D2, rfl, ⟨_, SqL.of (b3 _ _ ndD2 hDB)⟩, ?_⟩
          refine for_list (K := K) (a := D2) (xs := vs2) (fun j σ H4 => ∃ (kv : List (List Key × V)) (y3 y7 y8 : Option V), σ = [some (.ref d), some (.str m), some (.str a.1), y3, some (.ref D), some (.ref D2), some (.ref A1), y7, y8] ∧ But d HB H4 ∧ H4 d = some (.dT kv) ∧
            WaysAt H4 kv (WM.inner (WM.outer W (as.take i) zs) a (zs.take j)) ∧ Lies N (WM.inner (WM.outer W (as.take i) zs) a (zs.take j)) (2 * k)) ⟨kv, y3, y7, y8, rfl, b3, hd3, hW3, hL3⟩ (fun j σ H4 _ hP => ?_) (fun j x σ H4 hx2 hP => ?_) (fun σ H4 hP => ?_)
          · obtain ⟨kv, y3, y7, y8, _, b4, _⟩ := hP
            exact SqL.of (b4 _ _ ndD2 hDB)
          · obtain ⟨kv, y3, y7, y8, rfl, b4, hd4, hW4, hL4⟩ := hP
            obtain ⟨z, hz, pz, uz, rfl, ez, wz⟩ := alB.get hx2
            have tB4 : Tups HB H4 := b4.tups hdB (fun _ z => nomatch z)
            obtain ⟨Z1, Z2, rfl, hZ1, hZ2⟩ := wz
            have ma := List.mem_of_getElem? ha
            have mz := List.mem_of_getElem? hz
            refine ⟨pz, _, rfl, SqT.of (tB4 _ _ ez), rfl, .str z.1, _, rfl, .ref Z1, [], rfl, rfl, ?_⟩
            refine ⟨.ref A1, rfl, A1, _, 0, .int a.2.1, rfl, rfl, SqT.of (tB4 _ _ hA1), atI_nat (j := 0) rfl, .ref Z1, rfl, Z1, _, 0, .int z.2.1, rfl, rfl, SqT.of (tB4 _ _ hZ1), atI_nat (j := 0) rfl, _, _, rfl, rfl, ?_⟩
            rw [inner_succ hz]
            have hL5 : Lies N (WM.relax (WM.inner (WM.outer W (as.take i) zs) a (zs.take j)) a.1 z.1 (WM.joined a.2 z.2)) (2 * k) := hL4.relax (inA a ma).1 (inZ z mz).1 (by
              show (a.2.2 ++ z.2.2).length ≤ 2 * k
              rw [List.length_append]
              have := (inZ z mz).2.1
              have := (inA a ma).2.1
              omega) (by
              show a.2.2 ++ z.2.2 ≠ []
              simp [(inA a ma).2.2])
            have kvl : kv.length ≤ 10000 := by rw [hW4.1]; exact two2 hL4
            generalize hV : WM.inner (WM.outer W (as.take i) zs) a (zs.take j) = V0 at *
            -- is it shorter?
            refine ⟨fun t H' => Same H4 H' ∧ (t = true → WM.relax V0 a.1 z.1 (WM.joined a.2 z.2) = putT V0 (a.1, z.1) (WM.joined a.2 z.2)) ∧ (t = false → WM.relax V0 a.1 z.1 (WM.joined a.2 z.2) = V0), ?_, ?_⟩
            · refine ⟨.str a.1, rfl, .str z.1, rfl, two (_, _), fun p np => ?_⟩
              have sp := same_new (o := .tup [.str a.1, .str z.1]) np
              have hd5 := sp _ _ hd4
              have hW5 := WaysAt.mono (Same.tups sp) hW4
              have hp5 : (upd H4 p (.tup [.str a.1, .str z.1])) p = some (.tup ((keyW (a.1, z.1)).map kV)) := upd_same
              generalize upd H4 p (.tup [.str a.1, .str z.1]) = H5 at *
              obtain ⟨v1, v2⟩ := val_ways hW5 (a.1, z.1)
              refine ⟨.ref d, rfl, d, _, rfl, DGet.t hd5 hp5, _, rfl, ?_⟩
              cases g : getT V0 (a.1, z.1) with
              | none =>
                rw [v1 g]
                refine iteT ?_
                exact ⟨sp, fun _ => relax_none g, fun z => nomatch z⟩
              | some u =>
                obtain ⟨v, hv, V1, V2, rfl, hV1, hV2⟩ := v2 u g
                rw [hv]
                refine iteF ?_
                refine ⟨_, rfl, .ref d, rfl, .str a.1, rfl, .str z.1, rfl, two (_, _), fun p2 np2 => ?_⟩
                have sp2 := same_new (o := .tup [.str a.1, .str z.1]) np2
                have get2 := DGet.t (k := keyW (a.1, z.1)) (sp2 _ _ hd5) (show (upd H5 p2 (.tup [.str a.1, .str z.1])) p2 = some (.tup ((keyW (a.1, z.1)).map kV)) from upd_same)
                rw [hv] at get2
                exact ⟨d, .ref V1, rfl, get2, V1, _, 0, .int u.1, rfl, rfl, SqT.of (sp2 _ _ hV1), atI_nat (j := 0) rfl, _, _, rfl, rfl, _, rfl, sp.trans sp2, fun z => relax_lt g (of_decide_eq_true z), fun z => relax_ge g (of_decide_eq_false z)⟩
            · rintro t H5 ⟨s45, ht, hf⟩
              have hd5 := s45 _ _ hd4
              have hW5 := WaysAt.mono (Same.tups s45) hW4
              have b5 : But d HB H5 := b4.trans (Same.but s45)
              cases t with
              | false =>
                rw [hf rfl]
                refine iteF ⟨kv, _, _, _, rfl, b5, hd5, hW5, hL4⟩
              | true =>
                rw [ht rfl] at hL5 ⊢
                refine iteT ?_
                have tB5 : Tups HB H5 := b5.tups hdB (fun _ z => nomatch z)
                refine ⟨_, rfl, .ref A1, rfl, A1, _, 1, .ref A2, rfl, rfl, SqT.of (tB5 _ _ hA1), atI_nat (j := 1) rfl, .ref Z1, rfl, Z1, _, 1, .ref Z2, rfl, rfl, SqT.of (tB5 _ _ hZ1), atI_nat (j := 1) rfl, ?_⟩
                have lenA := (inA a ma).2.1
                have lenZ := (inZ z mz).2.1
                refine ⟨A2, Z2, ixs a.2.2, ixs z.2.2, rfl, rfl, SqT.of (tB5 _ _ hA2), SqT.of (tB5 _ _ hZ2), by simp [(inA a ma).2.2], by rw [List.length_map, List.length_map]; exact small' (by omega), fun e => ?_, fun _ q1 n1 => ?_⟩
                · exact absurd (List.map_eq_nil_iff.mp e) (inZ z mz).2.2
                have t1 := same_new (o := .tup (ixs a.2.2 ++ ixs z.2.2)) n1
                refine ⟨two (_, _), fun q2 n2 => ?_⟩
                have n12 : q1 ≠ q2 := fun e => by rw [← e, upd_same] at n2; cases n2
                have t2 := t1.trans (same_new (o := .tup [.int (a.2.1 + z.2.1), .ref q1]) n2)
                have way : IsWay (upd (upd H5 q1 (.tup (ixs a.2.2 ++ ixs z.2.2))) q2 (.tup [.int (a.2.1 + z.2.1), .ref q1])) (.ref q2) (WM.joined a.2 z.2) := ⟨q2, q1, rfl, upd_same, by rw [upd_ne n12, upd_same]; show _ = some (HO.tup ((a.2.2 ++ z.2.2).map _)); rw [List.map_append]⟩
                have eq6 : upd (upd H5 q1 (.tup (ixs a.2.2 ++ ixs z.2.2))) q2 (.tup [(fun i j => V.int (i + j)) a.2.1 z.2.1, .ref q1]) = upd (upd H5 q1 (.tup (ixs a.2.2 ++ ixs z.2.2))) q2 (.tup [.int (a.2.1 + z.2.1), .ref q1]) := rfl
                rw [eq6]
                generalize upd (upd H5 q1 (.tup (ixs a.2.2 ++ ixs z.2.2))) q2 (.tup [.int (a.2.1 + z.2.1), .ref q1]) = H6 at *
                refine ⟨.ref d, rfl, .str a.1, rfl, .str z.1, rfl, two (_, _), fun p3 n3 => ?_⟩
                have t3 := same_new (o := .tup [.str a.1, .str z.1]) n3
                have hp7 : (upd H6 p3 (.tup [.str a.1, .str z.1])) p3 = some (.tup ((keyW (a.1, z.1)).map kV)) := upd_same
                have hd7 := t3 _ _ (t2 _ _ hd5)
                have hW7 := WaysAt.mono (Same.tups (t2.trans t3)) hW5
                have way7 := way.mono (Same.tups t3)
                have b7 : But d HB (upd H6 p3 (.tup [.str a.1, .str z.1])) := b5.trans (Same.but (t2.trans t3))
                generalize upd H6 p3 (.tup [.str a.1, .str z.1]) = H7 at *
                refine ⟨d, _, rfl, DPut.t hd7 hp7 (small (by omega)), ?_⟩
                exact ⟨_, _, _, _, rfl, b7.trans But.upd, upd_same, put_at hd7 hW7 way7, hL5⟩
          · obtain ⟨kv, y3, y7, y8, rfl, b4, hd4, hW4, hL4⟩ := hP
            have el : vs2.length = zs.length := alB.1
            rw [el, List.take_length, ← outer_succ ha] at hW4 hL4
            exact ⟨kv, _, _, _, _, _, rfl, b4, hd4, hW4, hL4⟩
        · obtain ⟨kv, y2, y3, y6, y7, y8, rfl, b3, hd3, hW3, hL3⟩ := hP
          have el : vs1.length = as.length := al1B.1
          rw [el, List.take_length, ← hthr] at hW3
          exact q H3 kv ((Same.but sHB).trans b3) hd3 hW3
end
end WB
set_option Elab.async false
set_option linter.all false
set_option autoImplicit false
set_option maxRecDepth 100000
/-! shortest_ways. -/
namespace WB
open PySem PySem.Spec PyProof.Rows L2 WM
structure Short (bs : List Bnd) (W : Ways Str) (r : List Nat) : Prop where
  nd : (W.map (·.1)).Nodup
  len : r.length ≤ 512
  end' : (r = [] ∧ Closed bs W) ∨ ∃ m c, Path bs m r m c ∧ c < 0
theorem pow_le {i : Nat} (h : i ≤ 9) : 2 ^ i ≤ 512 := Nat.le_trans (Nat.pow_le_pow_right (by decide) h) (by decide)
section
variable {P : Program} {w : World} {K : PySem.W.Frag} {mg : Str → Option Value} {base : Heap}
def spShort (K : PySem.W.Frag) : Sp := fun vs H Q _ => ∃ (a : Addr) (ws : List V) (bs : List Bnd) (N : List Str), vs = [.ref a] ∧ SqL K H a ws ∧ Al (IsBnd H) ws bs ∧ (∀ b ∈ bs, b.1 ∈ N ∧ b.2.1 ∈ N) ∧ N.length ≤ 9 ∧ bs.length ≤ 1000 ∧
  ∀ H' p d q kvs W r, Same H H' → H' p = some (.tup [.ref d, .ref q]) → H' d = some (.dT kvs) → WaysAt H' kvs W → H' q = some (.tup (ixs r)) → Short bs W r → Q (.ref p) H'
theorem ok_short {f fS fP : Addr} {fd fdS fdP : FuncData} {k : Nat} (F : Fun K "shortest_ways" "shortest_ways" sShort f fd) (FS : Fun K "single_ways" "single_ways" sSingle fS fdS) (bS : Binds K fdS ["bounds"] []) (gS : mg "single_ways" = some (.ref fS))
    (FP : Fun K "pass_through" "pass_through" sPass fP fdP) (bP : Binds K fdP ["ways", "middle"] []) (gP : mg "pass_through" = some (.ref fP)) (me : mg "enumerate" = none) (mso : mg "sorted" = none) : FnOk P w K mg base CX0 (k + 2) f fd ["bounds"] (spShort K) := by
  have GS : FnOk P w K mg base CX0 (k + 1) fS fdS ["bounds"] (spSingle K) := ok_single FS me
  have GP : FnOk P w K mg base CX0 (k + 1) fP fdP ["ways", "middle"] spPass := ok_pass FP
  refine F.ok scShort (fun vs H Q E h => ?_) (fun cdv A outer s H vs Q E hr h => ?_)
  · obtain ⟨a, ws, bs, N, rfl, _⟩ := h
    rfl
  · obtain ⟨a, ws, bs, N, rfl, hS, hal, hN, hNl, hbl, q⟩ := h
    have hu := hu_of hr
    have nd := scShort.nd
    refine ⟨_, pss_cons (ps_set (i := 1) nd rfl (.inl rfl) (pe_call GS hr (by rfl) gS FS.kp bS .nil pass0 (pa_cons (pv 0) pa_nil)))
      (pss_cons (ps_for PassesOwn.never rfl (pi_list (pe_callB (WS.cr_sortT rfl) (by rfl) mso (by decide +kernel) (pa_cons (WS.pe_scT (own := [("bound", 3)]) (g := gName 3) rfl nd (pi_list (pv 0)) (blkOk_by (N := nShort) (sc := defScope sShort) (by decide +kernel))
            (fun _ _ _ _ _ => pg_name (i := 3) nd rfl (Or.inl rfl)) (fun _ _ _ _ _ => pe_ix (ixt K) (pv 3) pe_int (fun _ _ => rfl))) pa_nil))) (pg_name (i := 2) nd rfl (.inl rfl))
          (pss_cons (ps_if (PW.pt (pw_and (pt_cmp (pc_din hu (pe_tup (pa_cons (pv 2) (pa_cons (pv 2) pa_nil))) (pv 1)))
              (pw_and1 (pt_cmpR op_lt (pe_ix ix_tup (pe_dget hu (pv 1) (pe_tup (pa_cons (pv 2) (pa_cons (pv 2) pa_nil))) (fun _ _ => rfl)) pe_int (fun _ _ => rfl)) pe_int (nomark _)))))
            (pss_one (ps_ret (pe_tup (pa_cons (pv 1) (pa_cons (pe_ix ix_tup (pe_dget hu (pv 1) (pe_tup (pa_cons (pv 2) (pa_cons (pv 2) pa_nil))) (fun _ _ => rfl)) pe_int (fun _ _ => rfl)) pa_nil))))) pss_nil)
          (pss_one (ps_expr (pe_call GP hr (by rfl) gP FP.kp bP .nil pass0 (pa_cons (pv 1) (pa_cons (pv 2) pa_nil)))))))
      (pss_one (ps_ret (pe_tup (pa_cons (pv 1) (pa_cons (pe_tup pa_nil) pa_nil)))))), ?_⟩
    have two : ∀ (z : V × V), ([z.1, z.2] : List V).length ≤ sizeLine := fun _ => small' (by simp)
    refine ⟨.ref a, rfl, a, ws, bs, N, rfl, hS, hal, hN, by omega, fun H1 d kvs s1 nd1 hd1 hW1 => ?_⟩
    -- the middles
    refine ⟨.ref a, rfl, a, rfl, ⟨_, s1.seq hS⟩, fun D nD => ?_⟩
    refine WS.scT_list (K := K) (a := a) (xs := ws) (fun i H2 => ∃ ys : List Str, H2 = upd H1 D (WS.SetSO w D ys) ∧ ys.Nodup ∧ (∀ x, x ∈ ys ↔ x ∈ (bs.take i).map (·.1)) ∧ ys.length ≤ i) ⟨[], rfl, List.nodup_nil, fun x => by simp, Nat.le_refl _⟩ (fun i H2 _ hP => ?_) (fun i x H2 hx hP => ?_) (fun H2 hP => ?_)
    · obtain ⟨ys, rfl, _⟩ := hP
      exact (s1.trans (same_new nD)).seq hS
    · obtain ⟨ys, rfl, hnd, hm, hl⟩ := hP
      obtain ⟨b, hb, B, rfl, hB⟩ := hal.get hx
      have hil := at_lt hb
      refine ⟨rfl, .ref B, rfl, B, _, 0, .str b.1, rfl, rfl, SqT.of ((s1.trans (same_new nD)) _ _ hB), atI_nat (j := 0) rfl, b.1, ys, rfl, upd_same, WS.roomK (by omega), WS.addT ys b.1, ?_, WS.addT_nodup hnd, fun x => ?_, Nat.le_trans WS.addT_len (by omega)⟩
      · show upd (upd H1 D _) D _ = _
        rw [upd_upd]
        rfl
      · rw [WS.addT_mem, hm x, take_snoc hb, List.map_append, List.mem_append]
        simp only [List.map_cons, List.map_nil, List.mem_singleton]
        exact Or.comm
    · obtain ⟨ys, rfl, hnd, hm, hl⟩ := hP
      have hwl : ws.length = bs.length := hal.1
      rw [hwl, List.take_length] at hm
      have ysN : ys.length ≤ N.length := nodup_len ys N hnd fun x hx => by
        obtain ⟨b, hb, e⟩ := List.mem_map.mp ((hm x).mp hx)
        rw [← e]
        exact (hN b hb).1
      refine ⟨D, ys, rfl, upd_same, by omega, fun ms L pm nL => ?_⟩
      have s2 : Same H1 (upd (upd H1 D (WS.SetSO w D ys)) L (.lst (ms.map V.str))) := (same_new nD).trans (same_new nL)
      have hd2 := s2 _ _ hd1
      have hL2 : (upd (upd H1 D (WS.SetSO w D ys)) L (.lst (ms.map V.str))) L = some (.lst (ms.map V.str)) := upd_same
      have hW2 := WaysAt.mono (Same.tups s2) hW1
      have s12 := s1.trans s2
      generalize upd (upd H1 D (WS.SetSO w D ys)) L (.lst (ms.map V.str)) = H2 at *
      have ndL : L ≠ d := (ne_of hd2 hL2 (fun z => nomatch z)).symm
      have msl : ms.length ≤ 9 := by rw [pm.length_eq]; omega
      have g0 := (singles_ok bs bs.length).1
      refine ⟨L, rfl, ⟨_, SqL.of hL2⟩, ?_⟩
      refine for_list (K := K) (a := L) (xs := ms.map V.str) (fun i σ H3 => ∃ (kv : List (List Key × V)) (W : Ways Str) (y2 : Option V), σ = [some (.ref a), some (.ref d), y2, none] ∧ But d H2 H3 ∧ H3 d = some (.dT kv) ∧ WaysAt H3 kv W ∧ Good bs W (2 ^ i) ∧ Turned bs W (ms.take i) ∧ Lies N W (2 ^ i))
        ⟨kvs, _, none, rfl, But.refl, hd2, hW2, g0, turned_nil bs, singles_lies hN bs.length⟩ (fun i σ H3 _ hP => ?_) (fun i x σ H3 hx hP => ?_) (fun σ H3 hP => ?_)
      · obtain ⟨kv, W, y2, _, b3, _⟩ := hP
        exact SqL.of (b3 _ _ ndL hL2)
      · obtain ⟨kv, W, y2, rfl, b3, hd3, hW3, hg, ht, hl3⟩ := hP
        obtain ⟨m, hm2, rfl⟩ := strs_at hx
        have hi9 : i < 9 := by have := at_lt hm2; omega
        have p2 := pow_le (i := i) (by omega)
        have s3 : Same H H3 := fun b o e => b3 b o (ne_of_none e nd1) (s12 b o e)
        refine ⟨.str m, rfl, .str m, rfl, two (_, _), fun p np => ?_⟩
        have sp := same_new (o := .tup [.str m, .str m]) np
        have hd4 := sp _ _ hd3
        have hW4 := WaysAt.mono (Same.tups sp) hW3
        have hp4 : (upd H3 p (.tup [.str m, .str m])) p = some (.tup ((keyW (m, m)).map kV)) := upd_same
        have s4 := s3.trans sp
        have b4 : But d H2 (upd H3 p (.tup [.str m, .str m])) := b3.trans (Same.but sp)
        generalize upd H3 p (.tup [.str m, .str m]) = H4 at *
        obtain ⟨v1, v2⟩ := val_ways hW4 (m, m)
        -- no ring at m: its turn
        have go : ∀ H5, Same H4 H5 → (∀ c, dist W m m = some c → 0 ≤ c) → spPass [.ref d, .str m] H5 (fun _ H1 => ∃ (kv : List (List Key × V)) (W : Ways Str) (y2 : Option V), ([some (.ref a), some (.ref d), some (.str m), none] : List (Option V)) = [some (.ref a), some (.ref d), y2, none] ∧ But d H2 H1 ∧ H1 d = some (.dT kv) ∧ WaysAt H1 kv W ∧ Good bs W (2 ^ (i + 1)) ∧ Turned bs W (ms.take (i + 1)) ∧ Lies N W (2 ^ (i + 1))) E0 := by
          intro H5 s45 hm0
          refine ⟨d, m, kv, W, N, 2 ^ i, rfl, s45 _ _ hd4, WaysAt.mono (Same.tups s45) hW4, hl3, by omega, by omega, fun H6 kv' b6 hd6 hW6 => ?_⟩
          refine ⟨kv', _, _, rfl, b4.trans ((Same.but s45).trans b6), hd6, hW6, ?_, ?_, ?_⟩
          · rw [Nat.pow_succ, Nat.mul_comm]
            exact through_good hg m
          · rw [take_snoc hm2]
            exact turned_step hl3.nd ht hm0
          · rw [Nat.pow_succ, Nat.mul_comm]
            exact lies_through hl3 m
        refine ⟨.ref d, rfl, d, _, rfl, DGet.t hd4 hp4, _, rfl, ?_⟩
        cases g : getT W (m, m) with
        | none =>
          rw [v1 g]
          refine iteF ?_
          refine iteF ?_
          refine ⟨.ref d, rfl, .str m, rfl, go H4 (Same.refl _) fun c hc => ?_⟩
          unfold dist at hc
          rw [g] at hc
          cases hc
        | some u =>
          obtain ⟨v, hv, V1, V2, rfl, hV1, hV2⟩ := v2 u g
          rw [hv]
          refine iteT ?_
          refine ⟨.ref d, rfl, .str m, rfl, .str m, rfl, two (_, _), fun p2 np2 => ?_⟩
          have sp2 := same_new (o := .tup [.str m, .str m]) np2
          have get2 := DGet.t (k := keyW (m, m)) (sp2 _ _ hd4) (show (upd H4 p2 (.tup [.str m, .str m])) p2 = some (.tup ((keyW (m, m)).map kV)) from upd_same)
          rw [hv] at get2
          have hd5 := sp2 _ _ hd4
          have hW5 := WaysAt.mono (Same.tups sp2) hW4
          have s5 := s4.trans sp2
          have hV15 := sp2 _ _ hV1
          have hV25 := sp2 _ _ hV2
          generalize upd H4 p2 (.tup [.str m, .str m]) = H5 at *
          refine ⟨d, .ref V1, rfl, get2, V1, _, 0, .int u.1, rfl, rfl, SqT.of hV15, atI_nat (j := 0) rfl, _, 0, rfl, rfl, _, rfl, ite2 (fun neg => ?_) (fun pos => ?_)⟩
          · have neg := of_decide_eq_true neg
            refine ⟨.ref d, rfl, .ref d, rfl, .str m, rfl, .str m, rfl, two (_, _), fun p3 np3 => ?_⟩
            have sp3 := same_new (o := .tup [.str m, .str m]) np3
            have get3 := DGet.t (k := keyW (m, m)) (sp3 _ _ hd5) (show (upd H5 p3 (.tup [.str m, .str m])) p3 = some (.tup ((keyW (m, m)).map kV)) from upd_same)
            rw [hv] at get3
            refine ⟨d, .ref V1, rfl, get3, V1, _, 1, .ref V2, rfl, rfl, SqT.of (sp3 _ _ hV15), atI_nat (j := 1) rfl, two (_, _), fun p4 np4 => ?_⟩
            have sp4 := sp3.trans (same_new (o := .tup [.ref d, .ref V2]) np4)
            refine q _ p4 d V2 kv W u.2 (s5.trans sp4) upd_same (sp4 _ _ hd5) (WaysAt.mono (Same.tups sp4) hW5) (sp4 _ _ hV25) ⟨hl3.nd, Nat.le_trans (hg.path _ (getT_mem g)).2 (pow_le (by omega)), .inr ⟨m, u.1, ?_, neg⟩⟩
            exact (hg.path _ (getT_mem g)).1
          · have pos : ¬ u.1 < 0 := fun z => pos (decide_eq_true z)
            refine ⟨.ref d, rfl, .str m, rfl, go H5 sp2 fun c hc => ?_⟩
            unfold dist at hc
            rw [g] at hc
            have : u.1 = c := Option.some.inj hc
            omega
      · obtain ⟨kv, W, y2, rfl, b3, hd3, hW3, hg, ht, hl3⟩ := hP
        rw [List.length_map] at hg ht hl3
        rw [List.take_length] at ht
        have s3 : Same H H3 := fun b o e => b3 b o (ne_of_none e nd1) (s12 b o e)
        refine ⟨.ref d, rfl, small' (by simp), fun q1 n1 => ?_⟩
        have t1 := same_new (o := .tup []) n1
        refine ⟨two (_, _), fun p n2 => ?_⟩
        have n12 : q1 ≠ p := fun e => by rw [← e, upd_same] at n2; cases n2
        have t2 := t1.trans (same_new (o := .tup [.ref d, .ref q1]) n2)
        refine q _ p d q1 kv W [] (s3.trans t2) upd_same (t2 _ _ hd3) (WaysAt.mono (Same.tups t2) hW3) (by rw [upd_ne n12]; exact upd_same) ⟨hl3.nd, by simp, .inl ⟨rfl, ht.closed hg fun b hb => ?_⟩⟩
        exact pm.mem_iff.mpr ((hm b.1).mpr (List.mem_map.mpr ⟨b, hb, rfl⟩))
end
end WB
set_option Elab.async false
set_option linter.all false
set_option autoImplicit false
set_option maxRecDepth 100000
/-! find_ring, nearest_value, nearest_numbers. -/
namespace WB
open PySem PySem.Spec PyProof.Rows L2 WM
/-! ### the literals of a ring -/
theorem chosen {α : Type} {ls : List α} : ∀ {r : List Nat}, (∀ j ∈ r, j < ls.length) → ∃ rl : List α, r.map (fun j => ls[j]?) = rl.map some
  | [], _ => ⟨[], rfl⟩
  | j :: r, h => by
    obtain ⟨rl, e⟩ := chosen (r := r) fun i hi => h i (List.mem_cons_of_mem _ hi)
    have hj := h j List.mem_cons_self
    exact ⟨ls[j] :: rl, by rw [List.map_cons, List.map_cons, e, List.getElem?_eq_getElem hj]⟩
theorem some_inj {α : Type} : ∀ {l m : List α}, l.map some = m.map some → l = m
  | [], [], _ => rfl
  | [], _ :: _, h => by simp at h
  | _ :: _, [], h => by simp at h
  | a :: l, b :: m, h => by
    rw [List.map_cons, List.map_cons] at h
    injection h with h1 h2
    rw [Option.some.inj h1, some_inj h2]
/-- a ring among the literals -/
structure RingOf (ls rl : List Lit) : Prop where
  sub : ∀ l ∈ rl, l ∈ ls
  ne : rl ≠ []
  chn : ∃ m, Chn m (rl.map Lit.bnd) m
  neg : ((rl.map Lit.bnd).map (·.2.2)).sum < 0
theorem ring_of {ls : List Lit} {r : List Nat} {m : Str} {c : Int} (h : Path (ls.map Lit.bnd) m r m c) (hc : c < 0) : ∃ rl, r.map (fun j => ls[j]?) = rl.map some ∧ RingOf ls rl := by
  have lt : ∀ j ∈ r, j < ls.length := fun j hj => by have := h.lt j hj; rw [List.length_map] at this; exact this
  obtain ⟨rl, e⟩ := chosen lt
  obtain ⟨l, e1, e2, e3⟩ := h.row
  have el : rl.map Lit.bnd = l := by
    apply some_inj
    rw [← e1, List.map_map]
    have : r.map (fun i => (ls.map Lit.bnd)[i]?) = (r.map fun j => ls[j]?).map (Option.map Lit.bnd) := by
      rw [List.map_map]
      apply List.map_congr_left
      intro j _
      show (ls.map Lit.bnd)[j]? = (ls[j]?).map Lit.bnd
      rw [List.getElem?_map]
    rw [this, e, List.map_map]
    rfl
  refine ⟨rl, e, ⟨fun x hx => ?_, fun z => ?_, ⟨m, by rw [el]; exact e2⟩, by rw [el, e3]; exact hc⟩⟩
  · have : some x ∈ r.map (fun j => ls[j]?) := by rw [e]; exact List.mem_map.mpr ⟨x, hx, rfl⟩
    obtain ⟨j, _, hj⟩ := List.mem_map.mp this
    exact List.mem_of_getElem? hj
  · subst z
    have : r = [] := List.map_eq_nil_iff.mp e
    exact h.ne this
theorem closed_of {bs : List Bnd} {W : Ways Str} {r : List Nat} (f : Feas bs) (h : Short bs W r) : Closed bs W := by
  rcases h.end' with ⟨_, c⟩ | ⟨m, c, p, hc⟩
  · exact c
  · obtain ⟨val, hv⟩ := f
    have := p.sound hv
    omega
theorem valAt_eq {val : Str → Int} : ∀ (fs : List Str) (ns : List Int), ns.length = fs.length → (∀ (j : Nat) (f : Str) (n : Int), fs[j]? = some f → ns[j]? = some n → n = val f - val nul) → ∀ x, (x ∈ fs ∨ x = nul) → valAt fs ns x = val x - val nul
  | [], [], _, _, x, hx => by
    have e : x = nul := hx.resolve_left List.not_mem_nil
    subst e
    show (0 : Int) = _
    omega
  | f :: fs, n :: ns, hl, h, x, hx => by
    by_cases e : f = x
    · have := h 0 f n rfl rfl
      subst e
      simp [valAt, this]
    · rw [show valAt (f :: fs) (n :: ns) x = valAt fs ns x by simp [valAt, e]]
      refine valAt_eq fs ns (by simpa using hl) (fun j f n a b => h (j + 1) f n (by simpa using a) (by simpa using b)) x ?_
      rcases hx with hx | hx
      · rcases List.mem_cons.mp hx with z | z
        · exact absurd z.symm e
        · exact .inl z
      · exact .inr hx
  | [], _ :: _, hl, _, _, _ => by simp at hl
  | _ :: _, [], hl, _, _, _ => by simp at hl
section
variable {P : Program} {w : World} {K : PySem.W.Frag} {mg : Str → Option Value} {base : Heap}
/-! ### find_ring -/
def spFind (K : PySem.W.Frag) : Sp := fun vs H Q _ => ∃ (a : Addr) (ws : List V) (ls : List Lit) (fs : List Str), vs = [.ref a] ∧ SqT K H a ws ∧ Al (IsLit H) ws ls ∧ (∀ l ∈ ls, Within fs l) ∧ fs.length ≤ 8 ∧ ls.length ≤ 500 ∧
  ∀ H' p us, Same H H' → H' p = some (.tup us) → ((us = [] ∧ Feas (ls.map Lit.bnd)) ∨ ∃ rl, Al (IsLit H') us rl ∧ rl.length ≤ 512 ∧ RingOf ls rl) → Q (.ref p) H'
theorem names_in {fs : List Str} {ls : List Lit} (h : ∀ l ∈ ls, Within fs l) : ∀ b ∈ ls.map Lit.bnd, b.1 ∈ nul :: fs ∧ b.2.1 ∈ nul :: fs := fun b hb => by
  obtain ⟨l, hl, rfl⟩ := List.mem_map.mp hb
  obtain ⟨h1, h2⟩ := within_bnd (h l hl)
  exact ⟨List.mem_cons.mpr h1.symm, List.mem_cons.mpr h2.symm⟩
theorem ok_find {f fB fS fSi fP : Addr} {fd fdB fdS fdSi fdP : FuncData} {k : Nat} (F : Fun K "find_ring" "find_ring" sFind f fd) (FB : Fun K "bound_of" "bound_of" sBoundOf fB fdB) (bB : Binds K fdB ["literal"] []) (gB : mg "bound_of" = some (.ref fB))
    (FS : Fun K "shortest_ways" "shortest_ways" sShort fS fdS) (bS : Binds K fdS ["bounds"] []) (gS : mg "shortest_ways" = some (.ref fS))
    (FSi : Fun K "single_ways" "single_ways" sSingle fSi fdSi) (bSi : Binds K fdSi ["bounds"] []) (gSi : mg "single_ways" = some (.ref fSi))
    (FP : Fun K "pass_through" "pass_through" sPass fP fdP) (bP : Binds K fdP ["ways", "middle"] []) (gP : mg "pass_through" = some (.ref fP)) (me : mg "enumerate" = none) (mso : mg "sorted" = none) (mt : mg "tuple" = none) :
    FnOk P w K mg base CX0 (k + 3) f fd ["literals"] (spFind K) := by
  have GB : FnOk P w K mg base CX0 (k + 2) fB fdB ["literal"] spBound := ok_boundOf FB
  have GS : FnOk P w K mg base CX0 (k + 2) fS fdS ["bounds"] (spShort K) := ok_short FS FSi bSi gSi FP bP gP me mso
  refine F.ok scFind (fun vs H Q E h => ?_) (fun cdv A outer s H vs Q E hr h => ?_)
  · obtain ⟨a, ws, ls, fs, rfl, _⟩ := h
    rfl
  · obtain ⟨a, ws, ls, fs, rfl, hS, hal, hw, hfl, hll, q⟩ := h
    have nd := scFind.nd
    refine ⟨_, pss_cons (ps_set (i := 1) nd rfl (.inl rfl) (pe_ix ix_tup (pe_call GS hr (by rfl) gS FS.kp bS .nil pass0 (pa_cons (pe_lc (own := [("literal", 2)]) (g := gName 2) (tt := tYes) rfl nd (pi_tup (pv 0)) (blkOk_by (N := nFind) (sc := defScope sFind) (by decide +kernel))
          (fun _ _ _ _ _ => pg_name (i := 2) nd rfl (Or.inl rfl)) (fun _ _ _ _ _ => pts_nil) (fun _ _ _ _ _ => pe_call GB hr (by rfl) gB FB.kp bB .nil pass0 (pa_cons (pv 2) pa_nil))) pa_nil)) pe_int (fun _ _ => rfl)))
      (pss_one (ps_ret (pe_callTy call_tuple_of (by rfl) mt (by decide +kernel) (pa_cons (pe_lc (own := [("index", 3)]) (g := gName 3) (tt := tYes) rfl nd (pi_tup (pv 1)) (blkOk_by (N := nFind) (sc := defScope sFind) (by decide +kernel))
          (fun _ _ _ _ _ => pg_name (i := 3) nd rfl (Or.inl rfl)) (fun _ _ _ _ _ => pts_nil) (fun _ _ _ _ _ => pe_ix (ixt K) (pv 0) (pv 3) (fun _ _ => rfl))) pa_nil)))), ?_⟩
    -- the bounds
    refine ⟨.ref a, rfl, a, rfl, ⟨_, hS⟩, fun D nD => ?_⟩
    refine lc_tup (K := K) (a := a) (xs := ws) (fun i H1 => ∃ bv : List V, Same H H1 ∧ H1 D = some (.lst bv) ∧ Al (IsBnd H1) bv ((ls.take i).map Lit.bnd)) ⟨[], same_new nD, upd_same, Al.nil⟩ (fun i H1 _ hP => ?_) (fun i x H1 hx hP => ?_) (fun H1 hP => ?_)
    · obtain ⟨bv, s1, _⟩ := hP
      exact Same.seqT s1 hS
    · obtain ⟨bv, s1, hD, al⟩ := hP
      obtain ⟨l, hl, il⟩ := hal.get hx
      refine ⟨rfl, lcY ?_⟩
      refine iteT ?_
      refine ⟨x, rfl, x, l, rfl, il.mono (Same.tups s1), fun p np => ?_⟩
      have npD : D ≠ p := ne_of_none hD np
      have hD2 : (upd H1 p (.tup [.str l.bnd.1, .str l.bnd.2.1, .int l.bnd.2.2])) D = some (.lst bv) := by rw [upd_ne npD]; exact hD
      have t2 : Tups (upd H1 p (.tup [.str l.bnd.1, .str l.bnd.2.1, .int l.bnd.2.2])) (upd (upd H1 p (.tup [.str l.bnd.1, .str l.bnd.2.1, .int l.bnd.2.2])) D (.lst (bv ++ [.ref p]))) := But.upd.tups hD2 (fun _ z => nomatch z)
      refine ⟨bv, hD2, ?_, bv ++ [.ref p], fun b o z => ?_, upd_same, ?_⟩
      · have := al.1
        rw [List.length_map, List.length_take] at this
        exact small (by omega)
      · rw [upd_ne (ne_of_none z nD)]
        exact same_new np _ _ (s1 _ _ z)
      · rw [take_snoc hl, List.map_append]
        refine ((bnds_mono (Same.tups (same_new np)) al).snoc ⟨p, rfl, upd_same⟩).mono fun _ _ z => z.mono t2
    · obtain ⟨bv, s1, hD, al⟩ := hP
      have hlw : ws.length = ls.length := hal.1
      rw [hlw, List.take_length] at al
      -- the shortest ways
      refine ⟨D, bv, ls.map Lit.bnd, nul :: fs, rfl, SqL.of hD, al, names_in hw, by simp; omega, by rw [List.length_map]; omega, fun H2 p d q2 kvs W r s2 hp2 hd2 hW2 hq2 sh => ?_⟩
      refine ⟨p, _, 1, .ref q2, rfl, rfl, SqT.of hp2, atI_nat (j := 1) rfl, ?_⟩
      have s12 := s1.trans s2
      refine ⟨.ref q2, rfl, q2, rfl, ⟨_, SqT.of hq2⟩, fun D2 nD2 => ?_⟩
      have lt : ∀ j ∈ r, j < ls.length := by
        rcases sh.end' with ⟨e, _⟩ | ⟨m, c, pa, _⟩
        · rw [e]
          exact fun j hj => absurd hj List.not_mem_nil
        · exact fun j hj => by have := pa.lt j hj; rw [List.length_map] at this; exact this
      refine lc_tup (K := K) (a := q2) (xs := ixs r) (fun i H3 => ∃ us : List V, H3 = upd H2 D2 (.lst us) ∧ Al (fun u j => ws[j]? = some u) us (r.take i)) ⟨[], rfl, Al.nil⟩ (fun i H3 _ hP => ?_) (fun i x H3 hx hP => ?_) (fun H3 hP => ?_)
      · obtain ⟨us, rfl, _⟩ := hP
        exact SqT.of (same_new nD2 _ _ hq2)
      · obtain ⟨us, rfl, hu⟩ := hP
        rw [List.getElem?_map] at hx
        obtain ⟨j, hj, rfl⟩ := Option.map_eq_some_iff.mp hx
        have jl : j < ws.length := by rw [hlw]; exact lt j (List.mem_of_getElem? hj)
        obtain ⟨v, hv⟩ := at_ex jl
        refine ⟨rfl, lcY ?_⟩
        refine iteT ?_
        refine ⟨.ref a, rfl, .int (j : Nat), rfl, a, _, _, v, rfl, rfl, Same.seqT (s12.trans (same_new nD2)) hS, atI_nat hv, us, upd_same, ?_, us ++ [v], ?_, ?_⟩
        · have := hu.1
          rw [List.length_take] at this
          have := sh.len
          exact small (by omega)
        · show upd (upd H2 D2 _) D2 _ = _
          rw [upd_upd]
        · rw [take_snoc hj]
          exact hu.snoc hv
      · obtain ⟨us, rfl, hu⟩ := hP
        have erl : (ixs r).length = r.length := List.length_map _
        rw [erl, List.take_length] at hu
        refine ⟨D2, us, rfl, .inl ⟨SqL.of upd_same, fun p5 n5 => ?_⟩⟩
        have s5 := (s12.trans (same_new nD2)).trans (same_new (o := .tup us) n5)
        refine q _ p5 us s5 upd_same ?_
        rcases sh.end' with ⟨e, cl⟩ | ⟨m, c, pa, hc⟩
        · refine .inl ⟨?_, cl.feas⟩
          have := hu.1
          rw [e] at this
          exact List.length_eq_zero_iff.mp this
        · obtain ⟨rl, e1, ring⟩ := ring_of pa hc
          have ell : r.length = rl.length := by
            have := congrArg List.length e1
            rw [List.length_map, List.length_map] at this
            exact this
          refine .inr ⟨rl, ⟨by rw [hu.1, ell], fun i u l a b => ?_⟩, by rw [← ell]; exact sh.len, ring⟩
          obtain ⟨j, hj, hju⟩ := hu.get a
          have : (r.map fun j => ls[j]?)[i]? = (rl.map some)[i]? := by rw [e1]
          rw [List.getElem?_map, List.getElem?_map, hj, b] at this
          have hl : ls[j]? = some l := Option.some.inj this
          exact (hal.2 j u l hju hl).mono (Same.tups s5)
/-! ### nearest_value -/
def spNear1 (K : PySem.W.Frag) : Sp := fun vs H Q _ => ∃ (a : Addr) (f : Str) (ws : List V) (bs : List Bnd) (N : List Str), vs = [.ref a, .str f] ∧ SqL K H a ws ∧ Al (IsBnd H) ws bs ∧ (∀ b ∈ bs, b.1 ∈ N ∧ b.2.1 ∈ N) ∧ N.length ≤ 9 ∧ bs.length ≤ 1000 ∧ Feas bs ∧
  ∀ H' v, Same H H' → Feas (bs ++ [(f, nul, v), (nul, f, -v)]) → Q (.int v) H'
theorem ok_near1 {f fS fSi fP : Addr} {fd fdS fdSi fdP : FuncData} {k : Nat} (F : Fun K "nearest_value" "nearest_value" sNear1 f fd)
    (FS : Fun K "shortest_ways" "shortest_ways" sShort fS fdS) (bS : Binds K fdS ["bounds"] []) (gS : mg "shortest_ways" = some (.ref fS))
    (FSi : Fun K "single_ways" "single_ways" sSingle fSi fdSi) (bSi : Binds K fdSi ["bounds"] []) (gSi : mg "single_ways" = some (.ref fSi))
    (FP : Fun K "pass_through" "pass_through" sPass fP fdP) (bP : Binds K fdP ["ways", "middle"] []) (gP : mg "pass_through" = some (.ref fP)) (me : mg "enumerate" = none) (mso : mg "sorted" = none) :
    FnOk P w K mg base CX0 (k + 3) f fd ["bounds", "field"] (spNear1 K) := by
  have GS : FnOk P w K mg base CX0 (k + 2) fS fdS ["bounds"] (spShort K) := ok_short FS FSi bSi gSi FP bP gP me mso
  refine F.ok scNear1 (fun vs H Q E h => ?_) (fun cdv A outer s H vs Q E hr h => ?_)
  · obtain ⟨a, x, ws, bs, N, rfl, _⟩ := h
    rfl
  · obtain ⟨a, x, ws, bs, N, rfl, hS, hal, hN, hNl, hbl, hf, q⟩ := h
    have hu := hu_of hr
    have nd := scNear1.nd
    refine ⟨_, pss_cons (ps_set (i := 2) nd rfl (.inl rfl) (pe_ix ix_tup (pe_call GS hr (by rfl) gS FS.kp bS .nil pass0 (pa_cons (pv 0) pa_nil)) pe_int (fun _ _ => rfl)))
      (C8.pss_cut (ps_if (PW.pt (pw_and (pt_cmp (pc_din hu (pe_tup (pa_cons pe_str (pa_cons (pv 1) pa_nil))) (pv 2)))
          (pw_and1 (pt_cmpR op_lt (pe_ix ix_tup (pe_dget hu (pv 2) (pe_tup (pa_cons pe_str (pa_cons (pv 1) pa_nil))) (fun _ _ => rfl)) pe_int (fun _ _ => rfl)) pe_int (nomark _)))))
        (pss_one (ps_ret (pe_un un_neg (pe_ix ix_tup (pe_dget hu (pv 2) (pe_tup (pa_cons pe_str (pa_cons (pv 1) pa_nil))) (fun _ _ => rfl)) pe_int (fun _ _ => rfl))))) pss_nil)
      (C8.pss_cut (ps_if (PW.pt (pw_and (pt_cmp (pc_din hu (pe_tup (pa_cons (pv 1) (pa_cons pe_str pa_nil))) (pv 2)))
          (pw_and1 (pt_cmpR op_lt (pe_ix ix_tup (pe_dget hu (pv 2) (pe_tup (pa_cons (pv 1) (pa_cons pe_str pa_nil))) (fun _ _ => rfl)) pe_int (fun _ _ => rfl)) pe_int (nomark _)))))
        (pss_one (ps_ret (pe_ix ix_tup (pe_dget hu (pv 2) (pe_tup (pa_cons (pv 1) (pa_cons pe_str pa_nil))) (fun _ _ => rfl)) pe_int (fun _ _ => rfl)))) pss_nil)
      (pss_one (ps_ret pe_int)))), ?_⟩
    have two : ∀ (z : V × V), ([z.1, z.2] : List V).length ≤ sizeLine := fun _ => small' (by simp)
    refine ⟨.ref a, rfl, a, ws, bs, N, rfl, hS, hal, hN, hNl, hbl, fun H1 p d q2 kvs W r s1 hp1 hd1 hW1 hq1 sh => ?_⟩
    have cl := closed_of hf sh
    have near := cl.near nul x
    refine ⟨p, _, 0, .ref d, rfl, rfl, SqT.of hp1, atI_nat (j := 0) rfl, ?_⟩
    -- ways from the blank
    refine ⟨fun σ' H2 => σ' = [some (.ref a), some (.str x), some (.ref d)] ∧ Same H1 H2 ∧ ∀ c, dist W nul x = some c → ¬ c < 0, ?_, ?_⟩
    · refine ⟨.str x, rfl, two (_, _), fun p2 n2 => ?_⟩
      have s2 := same_new (o := .tup [.str nul, .str x]) n2
      have hp2 : (upd H1 p2 (.tup [.str nul, .str x])) p2 = some (.tup ((keyW (nul, x)).map kV)) := upd_same
      have hd2 := s2 _ _ hd1
      have hW2 := WaysAt.mono (Same.tups s2) hW1
      generalize upd H1 p2 (.tup [.str nul, .str x]) = H2 at *
      obtain ⟨v1, v2⟩ := val_ways hW2 (nul, x)
      refine ⟨.ref d, rfl, d, _, rfl, DGet.t hd2 hp2, _, rfl, ?_⟩
      cases g : getT W (nul, x) with
      | none =>
        rw [v1 g]
        refine iteF ?_
        refine iteF ⟨rfl, s2, fun c hc => ?_⟩
        unfold dist at hc
        rw [g] at hc
        cases hc
      | some u =>
        have du : dist W nul x = some u.1 := by unfold dist; rw [g]; rfl
        obtain ⟨v, hv, V1, V2, rfl, hV1, hV2⟩ := v2 u g
        rw [hv]
        refine iteT ?_
        refine ⟨.ref d, rfl, .str x, rfl, two (_, _), fun p3 n3 => ?_⟩
        have s3 := same_new (o := .tup [.str nul, .str x]) n3
        have get3 := DGet.t (k := keyW (nul, x)) (s3 _ _ hd2) (show (upd H2 p3 (.tup [.str nul, .str x])) p3 = some (.tup ((keyW (nul, x)).map kV)) from upd_same)
        rw [hv] at get3
        have hV13 := s3 _ _ hV1
        have hd3 := s3 _ _ hd2
        have s23 := s2.trans s3
        generalize upd H2 p3 (.tup [.str nul, .str x]) = H3 at *
        refine ⟨d, .ref V1, rfl, get3, V1, _, 0, .int u.1, rfl, rfl, SqT.of hV13, atI_nat (j := 0) rfl, _, 0, rfl, rfl, _, rfl, ite2 (fun neg => ?_) (fun pos => ?_)⟩
        · have neg := of_decide_eq_true neg
          refine ⟨.ref d, rfl, .str x, rfl, two (_, _), fun p4 n4 => ?_⟩
          have s4 := same_new (o := .tup [.str nul, .str x]) n4
          have get4 := DGet.t (k := keyW (nul, x)) (s4 _ _ hd3) (show (upd H3 p4 (.tup [.str nul, .str x])) p4 = some (.tup ((keyW (nul, x)).map kV)) from upd_same)
          rw [hv] at get4
          refine ⟨d, .ref V1, rfl, get4, V1, _, 0, .int u.1, rfl, rfl, SqT.of (s4 _ _ hV13), atI_nat (j := 0) rfl, u.1, rfl, ?_⟩
          refine q _ (-u.1) (s1.trans (s23.trans s4)) ?_
          have : nearest W nul x = -u.1 := by unfold nearest; rw [du]; exact if_pos neg
          rw [this] at near
          exact near
        · refine ⟨rfl, s23, fun c hc => ?_⟩
          rw [du] at hc
          cases hc
          exact fun z => pos (decide_eq_true z)
    · rintro σ' H2 ⟨rfl, s2, no1⟩
      have s12 := s1.trans s2
      have hd2 := s2 _ _ hd1
      have hW2 := WaysAt.mono (Same.tups s2) hW1
      have near2 : nearest W nul x = (match dist W x nul with | some d => if d < 0 then d else 0 | none => 0) := by
        unfold nearest
        cases h : dist W nul x with
        | none => rfl
        | some c => exact if_neg (no1 c h)
      clear hp1 hq1 hd1 hW1
      refine ⟨fun σ' H3 => Same H2 H3 ∧ ∀ c, dist W x nul = some c → ¬ c < 0, ?_, ?_⟩
      · refine ⟨.str x, rfl, two (_, _), fun p2 n2 => ?_⟩
        have s3 := same_new (o := .tup [.str x, .str nul]) n2
        have hp3 : (upd H2 p2 (.tup [.str x, .str nul])) p2 = some (.tup ((keyW (x, nul)).map kV)) := upd_same
        have hd3 := s3 _ _ hd2
        have hW3 := WaysAt.mono (Same.tups s3) hW2
        generalize upd H2 p2 (.tup [.str x, .str nul]) = H3 at *
        obtain ⟨v1, v2⟩ := val_ways hW3 (x, nul)
        refine ⟨.ref d, rfl, d, _, rfl, DGet.t hd3 hp3, _, rfl, ?_⟩
        cases g : getT W (x, nul) with
        | none =>
          rw [v1 g]
          refine iteF ?_
          refine iteF ⟨s3, fun c hc => ?_⟩
          unfold dist at hc
          rw [g] at hc
          cases hc
        | some u =>
          have du : dist W x nul = some u.1 := by unfold dist; rw [g]; rfl
          obtain ⟨v, hv, V1, V2, rfl, hV1, hV2⟩ := v2 u g
          rw [hv]
          refine iteT ?_
          refine ⟨.ref d, rfl, .str x, rfl, two (_, _), fun p3 n3 => ?_⟩
          have s4 := same_new (o := .tup [.str x, .str nul]) n3
          have get3 := DGet.t (k := keyW (x, nul)) (s4 _ _ hd3) (show (upd H3 p3 (.tup [.str x, .str nul])) p3 = some (.tup ((keyW (x, nul)).map kV)) from upd_same)
          rw [hv] at get3
          have hV13 := s4 _ _ hV1
          have hd4 := s4 _ _ hd3
          have s34 := s3.trans s4
          generalize upd H3 p3 (.tup [.str x, .str nul]) = H4 at *
          refine ⟨d, .ref V1, rfl, get3, V1, _, 0, .int u.1, rfl, rfl, SqT.of hV13, atI_nat (j := 0) rfl, _, 0, rfl, rfl, _, rfl, ite2 (fun neg => ?_) (fun pos => ?_)⟩
          · have neg := of_decide_eq_true neg
            refine ⟨.ref d, rfl, .str x, rfl, two (_, _), fun p4 n4 => ?_⟩
            have s5 := same_new (o := .tup [.str x, .str nul]) n4
            have get4 := DGet.t (k := keyW (x, nul)) (s5 _ _ hd4) (show (upd H4 p4 (.tup [.str x, .str nul])) p4 = some (.tup ((keyW (x, nul)).map kV)) from upd_same)
            rw [hv] at get4
            refine ⟨d, .ref V1, rfl, get4, V1, _, 0, .int u.1, rfl, rfl, SqT.of (s5 _ _ hV13), atI_nat (j := 0) rfl, ?_⟩
            refine q _ u.1 (s12.trans (s34.trans s5)) ?_
            have : nearest W nul x = u.1 := by rw [near2, du]; exact if_pos neg
            rw [this] at near
            exact near
          · refine ⟨s34, fun c hc => ?_⟩
            rw [du] at hc
            cases hc
            exact fun z => pos (decide_eq_true z)
      · rintro σ' H3 ⟨s3, no2⟩
        refine q _ 0 (s12.trans s3) ?_
        have : nearest W nul x = 0 := by
          rw [near2]
          cases h : dist W x nul with
          | none => rfl
          | some c => exact if_neg (no2 c h)
        rw [this] at near
        exact near
end
end WB
set_option Elab.async false
set_option linter.all false
set_option autoImplicit false
set_option maxRecDepth 100000
/-! nearest_numbers; the law's fields. -/
namespace WB
open PySem PySem.Spec PyProof.Rows L2 WM
section
variable {P : Program} {w : World} {K : PySem.W.Frag} {mg : Str → Option Value} {base : Heap}
def spNear (K : PySem.W.Frag) : Sp := fun vs H Q _ => ∃ (a b : Addr) (ws : List V) (ls : List Lit) (fs : List Str), vs = [.ref a, .ref b] ∧ SqT K H a ws ∧ Al (IsLit H) ws ls ∧ SqT K H b (fs.map V.str) ∧ (∀ l ∈ ls, Within fs l) ∧ fs.length ≤ 8 ∧ ls.length ≤ 500 ∧ Feas (ls.map Lit.bnd) ∧
  ∀ H' p (ns : List Int), Same H H' → H' p = some (.tup (ns.map V.int)) → ns.length = fs.length → (∀ l ∈ ls, valAt fs ns l.bnd.1 - valAt fs ns l.bnd.2.1 ≤ l.bnd.2.2) → Q (.ref p) H'
theorem ok_near {f fB fN fS fSi fP : Addr} {fd fdB fdN fdS fdSi fdP : FuncData} {k : Nat} (F : Fun K "nearest_numbers" "nearest_numbers" sNear f fd) (FB : Fun K "bound_of" "bound_of" sBoundOf fB fdB) (bB : Binds K fdB ["literal"] []) (gB : mg "bound_of" = some (.ref fB))
    (FN : Fun K "nearest_value" "nearest_value" sNear1 fN fdN) (bN : Binds K fdN ["bounds", "field"] []) (gN : mg "nearest_value" = some (.ref fN))
    (FS : Fun K "shortest_ways" "shortest_ways" sShort fS fdS) (bS : Binds K fdS ["bounds"] []) (gS : mg "shortest_ways" = some (.ref fS))
    (FSi : Fun K "single_ways" "single_ways" sSingle fSi fdSi) (bSi : Binds K fdSi ["bounds"] []) (gSi : mg "single_ways" = some (.ref fSi))
    (FP : Fun K "pass_through" "pass_through" sPass fP fdP) (bP : Binds K fdP ["ways", "middle"] []) (gP : mg "pass_through" = some (.ref fP)) (me : mg "enumerate" = none) (mso : mg "sorted" = none) (mt : mg "tuple" = none) :
    FnOk P w K mg base CX0 (k + 4) f fd ["literals", "fields"] (spNear K) := by
  have GB : FnOk P w K mg base CX0 (k + 3) fB fdB ["literal"] spBound := ok_boundOf FB
  have GN : FnOk P w K mg base CX0 (k + 3) fN fdN ["bounds", "field"] (spNear1 K) := ok_near1 FN FS bS gS FSi bSi gSi FP bP gP me mso
  refine F.ok scNear (fun vs H Q E h => ?_) (fun cdv A outer s H vs Q E hr h => ?_)
  · obtain ⟨a, b, ws, ls, fs, rfl, _⟩ := h
    rfl
  · obtain ⟨a, b, ws, ls, fs, rfl, hS, hal, hF, hw, hfl, hll, hfe, q⟩ := h
    have nd := scNear.nd
    refine ⟨_, pss_cons (ps_setLc (i := 2) (own := [("literal", 6)]) (g := gName 6) (tt := tYes) rfl nd rfl rfl (sw_true rfl rfl rfl (by decide +kernel)) (pi_tup (pv 0)) (blkOk_by (N := nNear) (sc := defScope sNear) (by decide +kernel))
          (fun _ _ _ _ _ => pg_name (i := 6) nd rfl (Or.inl rfl)) (fun _ _ _ _ _ => pts_nil) (fun _ _ _ _ _ => pe_call GB hr (by rfl) gB FB.kp bB .nil pass0 (pa_cons (pv 6) pa_nil)))
      (pss_cons (ps_set (i := 3) nd rfl (.inl rfl) (pe_lst pa_nil))
      (pss_cons (ps_for PassesOwn.never rfl (pi_tup (pv 1)) (pg_name (i := 4) nd rfl (.inl rfl))
        (pss_cons (ps_set (i := 5) nd rfl (.inl rfl) (pe_call GN hr (by rfl) gN FN.kp bN .nil pass0 (pa_cons (pv 2) (pa_cons (pv 4) pa_nil))))
        (pss_cons (ps_set (i := 2) nd rfl (.inl rfl) (pe_op op_cat (pv 2) (pe_lst (pa_cons (pe_tup (pa_cons (pv 4) (pa_cons pe_str (pa_cons (pv 5) pa_nil)))) (pa_cons (pe_tup (pa_cons pe_str (pa_cons (pv 4) (pa_cons (pe_un un_neg (pv 5)) pa_nil)))) pa_nil)))))
        (pss_one (ps_expr (pe_bm PySem.F.plainAttrs_list PySem.F.slot_list_append PySem.F.type_list_append mt_append (pv 3) (pa_cons (pv 5) pa_nil)))))))
      (pss_one (ps_ret (pe_callTy call_tuple_of (by rfl) mt (by decide +kernel) (pa_cons (pv 3) pa_nil)))))), ?_⟩
    -- the bounds
    refine ⟨.ref a, rfl, a, rfl, ⟨_, hS⟩, fun D nD => ?_⟩
    refine lc_tup (K := K) (a := a) (xs := ws) (fun i H1 => ∃ bv : List V, Same H H1 ∧ H1 D = some (.lst bv) ∧ Al (IsBnd H1) bv ((ls.take i).map Lit.bnd)) ⟨[], same_new nD, upd_same, Al.nil⟩ (fun i H1 _ hP => ?_) (fun i x H1 hx hP => ?_) (fun H1 hP => ?_)
    · obtain ⟨bv, s1, _⟩ := hP
      exact Same.seqT s1 hS
    · obtain ⟨bv, s1, hD, al⟩ := hP
      obtain ⟨l, hl, il⟩ := hal.get hx
      refine ⟨rfl, lcY ?_⟩
      refine iteT ?_
      refine ⟨x, rfl, x, l, rfl, il.mono (Same.tups s1), fun p np => ?_⟩
      have npD : D ≠ p := ne_of_none hD np
      have hD2 : (upd H1 p (.tup [.str l.bnd.1, .str l.bnd.2.1, .int l.bnd.2.2])) D = some (.lst bv) := by rw [upd_ne npD]; exact hD
      have t2 : Tups (upd H1 p (.tup [.str l.bnd.1, .str l.bnd.2.1, .int l.bnd.2.2])) (upd (upd H1 p (.tup [.str l.bnd.1, .str l.bnd.2.1, .int l.bnd.2.2])) D (.lst (bv ++ [.ref p]))) := But.upd.tups hD2 (fun _ z => nomatch z)
      refine ⟨bv, hD2, ?_, bv ++ [.ref p], fun b o z => ?_, upd_same, ?_⟩
      · have := al.1
        rw [List.length_map, List.length_take] at this
        exact small (by omega)
      · rw [upd_ne (ne_of_none z nD)]
        exact same_new np _ _ (s1 _ _ z)
      · rw [take_snoc hl, List.map_append]
        refine ((bnds_mono (Same.tups (same_new np)) al).snoc ⟨p, rfl, upd_same⟩).mono fun _ _ z => z.mono t2
    · obtain ⟨bv, s1, hD, al⟩ := hP
      have hlw : ws.length = ls.length := hal.1
      rw [hlw, List.take_length] at al
      -- values
      refine ⟨small' (by simp), fun L nL => ?_⟩
      have sL := same_new (o := .lst []) nL
      have nDL : D ≠ L := ne_of_none hD nL
      have nHL : H L = none := s1.free nL
      refine ⟨.ref b, rfl, b, rfl, ⟨_, Same.seqT (s1.trans sL) hF⟩, ?_⟩
      refine for_tup (K := K) (a := b) (xs := fs.map V.str) (fun i σ H3 => ∃ (B : Addr) (bv : List V) (bs : List Bnd) (ns : List Int) (y4 y5 : Option V), σ = [some (.ref a), some (.ref b), some (.ref B), some (.ref L), y4, y5, none] ∧ Same H H3 ∧ B ≠ L ∧ H3 B = some (.lst bv) ∧ Al (IsBnd H3) bv bs ∧
        (∀ b ∈ bs, b.1 ∈ nul :: fs ∧ b.2.1 ∈ nul :: fs) ∧ Feas bs ∧ bs.length ≤ 500 + 2 * i ∧ (∀ b ∈ ls.map Lit.bnd, b ∈ bs) ∧ H3 L = some (.lst (ns.map V.int)) ∧ ns.length = i ∧ (∀ (j : Nat) (f : Str) (n : Int), fs[j]? = some f → ns[j]? = some n → (f, nul, n) ∈ bs ∧ (nul, f, -n) ∈ bs))
        ⟨D, bv, ls.map Lit.bnd, [], none, none, rfl, s1.trans sL, nDL, by rw [upd_ne nDL]; exact hD, bnds_mono (Same.tups sL) al, names_in hw, hfe, by rw [List.length_map]; omega, fun _ h => h, upd_same, rfl, fun j f n _ e => by simp at e⟩ (fun i σ H3 _ hP => ?_) (fun i x σ H3 hx hP => ?_) (fun σ H3 hP => ?_)
      · obtain ⟨B, bv, bs, ns, y4, y5, _, s3, _⟩ := hP
        exact Same.seqT s3 hF
      · obtain ⟨B, bv, bs, ns, y4, y5, rfl, s3, nBL, hB3, al3, nm3, fe3, len3, sub3, hL3, nsl, pin3⟩ := hP
        obtain ⟨x, hxf, rfl⟩ := strs_at hx
        have hi := at_lt hxf
        have mx := List.mem_of_getElem? hxf
        refine ⟨.ref B, rfl, .str x, rfl, B, x, bv, bs, nul :: fs, rfl, SqL.of hB3, al3, nm3, by simp; omega, by omega, fe3, fun H4 v s4 fe4 => ?_⟩
        have hB4 := s4 _ _ hB3
        have hL4 := s4 _ _ hL3
        have al4 := bnds_mono (Same.tups s4) al3
        have s34 := s3.trans s4
        -- bounds + [..]
        refine ⟨.ref B, rfl, .str x, rfl, .int v, rfl, small' (by simp), fun q1 n1 => ?_⟩
        have t1 := same_new (o := .tup [.str x, .str nul, .int v]) n1
        refine ⟨.str x, rfl, .int v, rfl, v, rfl, small' (by simp), fun q2 n2 => ?_⟩
        have n12 : q1 ≠ q2 := fun e => by rw [← e, upd_same] at n2; cases n2
        have t2 := t1.trans (same_new (o := .tup [.str nul, .str x, .int (-v)]) n2)
        refine ⟨small' (by simp), fun q3 n3 => ?_⟩
        have t3 := t2.trans (same_new (o := .lst [.ref q1, .ref q2]) n3)
        have e1 : (upd (upd (upd H4 q1 (.tup [.str x, .str nul, .int v])) q2 (.tup [.str nul, .str x, .int (-v)])) q3 (.lst [.ref q1, .ref q2])) q1 = some (.tup [.str x, .str nul, .int v]) := by
          refine same_new n3 _ _ ?_
          rw [upd_ne n12]
          exact upd_same
        have e2 : (upd (upd (upd H4 q1 (.tup [.str x, .str nul, .int v])) q2 (.tup [.str nul, .str x, .int (-v)])) q3 (.lst [.ref q1, .ref q2])) q2 = some (.tup [.str nul, .str x, .int (-v)]) := same_new n3 _ _ upd_same
        have e3 : (upd (upd (upd H4 q1 (.tup [.str x, .str nul, .int v])) q2 (.tup [.str nul, .str x, .int (-v)])) q3 (.lst [.ref q1, .ref q2])) q3 = some (.lst [.ref q1, .ref q2]) := upd_same
        have eq5 : upd (upd (upd H4 q1 (.tup [.str x, .str nul, .int v])) q2 (.tup [.str nul, .str x, (fun i => V.int (-i)) v])) q3 (.lst [.ref q1, .ref q2]) = upd (upd (upd H4 q1 (.tup [.str x, .str nul, .int v])) q2 (.tup [.str nul, .str x, .int (-v)])) q3 (.lst [.ref q1, .ref q2]) := rfl
        clear n2 n3
        rw [eq5]
        generalize upd (upd (upd H4 q1 (.tup [.str x, .str nul, .int v])) q2 (.tup [.str nul, .str x, .int (-v)])) q3 (.lst [.ref q1, .ref q2]) = H5 at *
        have hB5 := t3 _ _ hB4
        have hL5 := t3 _ _ hL4
        have al5 := bnds_mono (Same.tups t3) al4
        have bvl : bv.length ≤ 600 := by rw [al3.1]; omega
        refine ⟨B, q3, bv, [.ref q1, .ref q2], rfl, rfl, hB5, e3, small' (by simp; omega), fun C nC => ?_⟩
        have t6 := same_new (o := .lst (bv ++ [.ref q1, .ref q2])) nC
        have nCL : C ≠ L := (ne_of_none hL5 nC).symm
        have hL6 := t6 _ _ hL5
        have al6 := bnds_mono (Same.tups t6) al5
        have two6 : Al (IsBnd (upd H5 C (.lst (bv ++ [.ref q1, .ref q2])))) [.ref q1, .ref q2] [(x, nul, v), (nul, x, -v)] := (Al.one (show IsBnd _ (.ref q1) (x, nul, v) from ⟨q1, rfl, t6 _ _ e1⟩)).snoc (show IsBnd _ (.ref q2) (nul, x, -v) from ⟨q2, rfl, t6 _ _ e2⟩)
        have hC6 : (upd H5 C (.lst (bv ++ [.ref q1, .ref q2]))) C = some (.lst (bv ++ [.ref q1, .ref q2])) := upd_same
        have s6 := s34.trans (t3.trans t6)
        generalize upd H5 C (.lst (bv ++ [.ref q1, .ref q2])) = H6 at *
        -- append
        refine ⟨.ref L, rfl, .inl ⟨rfl, _, SqL.of hL6⟩, .int v, rfl, L, _, _, rfl, rfl, hL6, by rw [List.length_map]; exact small (by omega), ?_⟩
        have t7 : Tups H6 (upd H6 L (.lst (ns.map V.int ++ [.int v]))) := But.upd.tups hL6 (fun _ z => nomatch z)
        refine ⟨C, bv ++ [.ref q1, .ref q2], bs ++ [(x, nul, v), (nul, x, -v)], ns ++ [v], _, _, rfl, fun c o z => ?_, nCL, by rw [upd_ne nCL]; exact hC6, bnds_mono t7 (al6.append two6), fun c hc => ?_, fe4, by simp; omega, fun c hc => List.mem_append_left _ (sub3 c hc), by rw [upd_same, List.map_append]; rfl, by rw [List.length_append, nsl]; rfl, fun j f n hf hn => ?_⟩
        · rw [upd_ne (ne_of_none z nHL)]
          exact s6 _ _ z
        · rcases List.mem_append.mp hc with z | z
          · exact nm3 c z
          · have z' : c = (x, nul, v) ∨ c = (nul, x, -v) := by simpa using z
            rcases z' with rfl | rfl
            · exact ⟨List.mem_cons_of_mem _ mx, List.mem_cons_self⟩
            · exact ⟨List.mem_cons_self, List.mem_cons_of_mem _ mx⟩
        · by_cases hj : j < ns.length
          · rw [List.getElem?_append_left hj] at hn
            obtain ⟨h1, h2⟩ := pin3 j f n hf hn
            exact ⟨List.mem_append_left _ h1, List.mem_append_left _ h2⟩
          · have ej : j = ns.length := by
              have := at_lt hn
              rw [List.length_append] at this
              simp at this
              omega
            subst ej
            rw [List.getElem?_append_right (Nat.le_refl _), Nat.sub_self] at hn
            have en : v = n := by simpa using hn
            subst en
            rw [nsl, hxf] at hf
            cases hf
            exact ⟨List.mem_append_right _ (by simp), List.mem_append_right _ (by simp)⟩
      · obtain ⟨B, bv, bs, ns, y4, y5, rfl, s3, nBL, hB3, al3, nm3, fe3, len3, sub3, hL3, nsl, pin3⟩ := hP
        rw [List.length_map] at nsl
        refine ⟨.ref L, rfl, L, _, rfl, .inl ⟨SqL.of hL3, fun p np => ?_⟩⟩
        obtain ⟨val, hv⟩ := fe3
        have ve : ∀ (j : Nat) (f : Str) (n : Int), fs[j]? = some f → ns[j]? = some n → n = val f - val nul := fun j f n hf hn => by
          obtain ⟨h1, h2⟩ := pin3 j f n hf hn
          have := hv _ h1
          have := hv _ h2
          dsimp only at *
          omega
        refine q _ p ns (s3.trans (same_new np)) upd_same nsl fun l hl => ?_
        obtain ⟨wx, wy⟩ := within_bnd (hw l hl)
        rw [valAt_eq fs ns nsl ve _ wx, valAt_eq fs ns nsl ve _ wy]
        have := hv _ (sub3 _ (List.mem_map.mpr ⟨l, hl, rfl⟩))
        omega
/-! ### _law_fields -/
def spFields : Sp := fun vs H Q _ => ∃ (d : Addr) (ds : List Int), vs = [.ref d] ∧ H d = some (.lst (ds.map V.int)) ∧
  ∀ H' p (zs : List Str) (ds' : List Int), But d H H' → H' d = some (.lst (ds'.map V.int)) → H p = none → p ≠ d → H' p = some (.lst (zs.map V.str)) → 0 < zs.length → zs.length ≤ 8 → SOk zs → Q (.ref p) H'
theorem ok_fields {f fT fW fPo : Addr} {fd fdT fdW fdPo : FuncData} {k : Nat} (F : Fun K "_law_fields" "_law_fields" sFields f fd) (FT : Fun K "_law_take" "_law_take" sTake fT fdT) (bT : Binds K fdT ["_law_draws_here", "_law_many"] [])
    (gT : mg "_law_take" = some (.ref fT)) (FW : Fun K "_law_word" "_law_word" sWord fW fdW) (bW : Binds K fdW ["_law_number"] []) (gW : mg "_law_word" = some (.ref fW))
    (FPo : Fun K "_law_pool" "_law_pool" sPool fPo fdPo) (bPo : Binds K fdPo ["_law_draws_here"] []) (gPo : mg "_law_pool" = some (.ref fPo))
    (ml : mg "len" = none) (mi : mg "int" = none) (mr : mg "range" = none) (mso : mg "sorted" = none) (mse : mg "set" = none) :
    FnOk P w K mg base CX0 (k + 3) f fd ["_law_draws_here"] spFields := by
  have GT : FnOk P w K mg base CX0 (k + 2) fT fdT ["_law_draws_here", "_law_many"] spTake := ok_take FT ml mi
  have GP : FnOk P w K mg base CX0 (k + 2) fPo fdPo ["_law_draws_here"] spPool := ok_pool FPo FT bT gT FW bW gW ml mi mr
  refine F.ok scFields (fun vs H Q E h => ?_) (fun cdv A outer s H vs Q E hr h => ?_)
  · obtain ⟨d, ds, rfl, _⟩ := h
    rfl
  · obtain ⟨d, ds, rfl, hd, q⟩ := h
    have nd := scFields.nd
    refine ⟨_, pss_cons (ps_set (i := 1) nd rfl (.inl rfl) (pe_call GP hr (by rfl) gPo FPo.kp bPo .nil pass0 (pa_cons (pv 0) pa_nil)))
      (C8.pss_cut (ps_if (pt_cmpR op_eq (pe_call GT hr (by rfl) gT FT.kp bT .nil pass0 (pa_cons (pv 0) (pa_cons pe_int pa_nil))) pe_int (nomark _))
        (pss_one (ps_set (i := 1) nd rfl (.inl rfl) (pe_op op_cat (pv 1) (pe_call GP hr (by rfl) gPo FPo.kp bPo .nil pass0 (pa_cons (pv 0) pa_nil))))) pss_nil)
      (pss_one (ps_ret (pe_callB (WS.cr_sortT rfl) (by rfl) mso (by decide +kernel) (pa_cons (pe_callTy (WS.cr_setT rfl) (by rfl) mse (by decide +kernel) (pa_cons (pv 1) pa_nil)) pa_nil))))), ?_⟩
    refine ⟨.ref d, rfl, d, ds, rfl, hd, fun H1 p zs ds1 b1 hd1 np npd hp1 hz hok => ?_⟩
    refine ⟨fun σ' H2 => ∃ (p : Addr) (zs : List Str) (l : List Int), σ' = [some (.ref d), some (.ref p)] ∧ But d H H2 ∧ H2 d = some (.lst (l.map V.int)) ∧ H2 p = some (.lst (zs.map V.str)) ∧ 0 < zs.length ∧ zs.length ≤ 8 ∧ SOk zs, ?_, ?_⟩
    · refine ⟨.ref d, rfl, d, ds1, 6, rfl, hd1, by decide, fun ds2 k1 h0 h1 => ?_⟩
      have hp2 : (upd H1 d (.lst (ds2.map V.int))) p = some (.lst (zs.map V.str)) := by rw [upd_ne npd]; exact hp1
      have b2 : But d H (upd H1 d (.lst (ds2.map V.int))) := b1.trans But.upd
      refine ⟨rfl, _, rfl, ite2 (fun _ => ?_) (fun _ => ?_)⟩
      · refine ⟨.ref p, rfl, .ref d, rfl, d, ds2, rfl, upd_same, fun H3 p3 zs3 ds3 b3 hd3 np3 npd3 hp3 hz3 hok3 => ?_⟩
        refine ⟨p, p3, _, _, rfl, rfl, b3 _ _ npd hp2, hp3, by rw [List.length_map, List.length_map]; exact small' (by omega), fun p4 n4 => ?_⟩
        refine ⟨p4, zs ++ zs3, ds3, rfl, b2.trans (b3.trans (Same.but (same_new n4))), same_new n4 _ _ hd3, by rw [upd_same, List.map_append], by rw [List.length_append]; omega, by rw [List.length_append]; omega, hok.app hok3⟩
      · exact ⟨p, zs, ds2, rfl, b2, upd_same, hp2, by omega, by omega, hok⟩
    · rintro σ' H2 ⟨p2, zs2, l, rfl, b2, hd2, hp2, hz0, hz8, hok⟩
      refine ⟨.ref p2, rfl, p2, zs2, rfl, SqL.of hp2, by omega, fun ys S ndy yl ym nS => ?_⟩
      have y0 : 0 < ys.length := by
        obtain ⟨x, hx⟩ := at_ex hz0
        exact List.length_pos_of_mem ((ym x).mpr (List.mem_of_getElem? hx))
      refine ⟨S, ys, rfl, upd_same, by omega, fun xs p3 pm n3 => ?_⟩
      have s3 := (same_new (o := WS.SetSO w S ys) nS).trans (same_new (o := .lst (xs.map V.str)) n3)
      have nd3 : p3 ≠ d := fun z => by
        subst z
        have z : (none : Option HO) = some _ := n3.symm.trans (same_new (o := WS.SetSO w S ys) nS _ _ hd2)
        cases z
      have n23 : H2 p3 = none := (same_new (o := WS.SetSO w S ys) nS).free n3
      have nH3 : H p3 = none := by
        cases z : H p3 with
        | none => rfl
        | some o => rw [b2 p3 o nd3 z] at n23; cases n23
      exact q _ p3 xs l (b2.trans (Same.but s3)) (s3 _ _ hd2) nH3 nd3 upd_same (by rw [pm.length_eq]; exact y0) (by rw [pm.length_eq]; omega) fun x hx => hok x ((ym x).mp (pm.mem_iff.mp hx))
end
end WB
set_option Elab.async false
set_option linter.all false
set_option autoImplicit false
set_option maxRecDepth 100000
/-! _law_is_right. -/
namespace WB
open PySem PySem.Spec PyProof.Rows L2 WM
/-! ### literals as data -/
def litD (l : Lit) : PyData := .tuple [.tuple [.str most, .str l.x, .str l.y, .int l.c], .bool l.t]
def LOk (l : Lit) : Prop := PyData.strOk l.x = true ∧ PyData.strOk l.y = true
theorem LOk.of {fs : List Str} (h : SOk fs) {l : Lit} (w : Within fs l) : LOk l :=
  ⟨w.1.elim (fun z => h _ z) fun z => by rw [z]; decide +kernel, w.2.elim (fun z => h _ z) fun z => by rw [z]; decide +kernel⟩
theorem litD_lay {l : Lit} (h : LOk l) : (litD l).canLay0 = true := by
  have e : PyData.strOk most = true := by decide +kernel
  simp [litD, PyData.canLay0, PyData.canLayAll0, e, h.1, h.2]
theorem litD_depth (l : Lit) : (litD l).depth = 2 := by simp [litD, PyData.depth, PyData.depthAll]
theorem litDs_lay : ∀ ls : List Lit, (∀ l, l ∈ ls → LOk l) → PyData.canLayAll0 (ls.map litD) = true
  | [], _ => by simp [PyData.canLayAll0]
  | z :: zs, h => by simp [PyData.canLayAll0, litD_lay (h z List.mem_cons_self), litDs_lay zs fun l hl => h l (List.mem_cons_of_mem _ hl)]
theorem litDs_depth : ∀ ls : List Lit, PyData.depthAll (ls.map litD) ≤ 2
  | [] => by simp [PyData.depthAll]
  | z :: zs => by
    have h1 := litDs_depth zs
    have h2 := litD_depth z
    simp only [List.map_cons, PyData.depthAll]
    omega
theorem litD_shaped {l : Lit} (h : LOk l) : SeqAt.shaped (litD l) = true := by
  unfold SeqAt.shaped
  rw [litD_lay h, litD_depth]
  rfl
theorem litDs_shaped {ls : List Lit} (h : ∀ l, l ∈ ls → LOk l) : SeqAt.shaped (.list (ls.map litD)) = true := by
  unfold SeqAt.shaped
  have h1 := litDs_depth ls
  have h2 : PyData.depth (.list (ls.map litD)) ≤ 64 := by
    simp only [PyData.depth]
    omega
  rw [Bool.and_eq_true]
  exact ⟨by simp only [PyData.canLay0]; exact litDs_lay ls h, decide_eq_true h2⟩
theorem lit_dp {K : PySem.W.Frag} {H : Hp} {v : V} {l : Lit} (h : IsLit H v l) : Dp K H v (litD l) := by
  obtain ⟨a, b, rfl, h1, h2⟩ := h
  exact .tup (SqT.of h1) (.cons (.tup (SqT.of h2) (.cons (.str _) (.cons (.str _) (.cons (.str _) (.cons (.int _) .nil))))) (.cons (.bl _) .nil))
theorem lits_dp {K : PySem.W.Frag} {H : Hp} : ∀ {vs : List V} {ls : List Lit}, Al (IsLit H) vs ls → DpAll K H vs (ls.map litD)
  | [], [], _ => .nil
  | v :: vs, ls, h => by
    obtain ⟨l, r, rfl, h1, h2⟩ := Al.cons_inv h
    exact .cons (lit_dp h1) (lits_dp h2)
  | [], _ :: _, h => by have := h.1; simp at this
theorem lit_any {ls : List Lit} {l : Lit} (o : LOk l) (h : l ∈ ls) : ((ls.map litD).any fun z => PyData.eqv z (litD l)) = true :=
  List.any_eq_true.mpr ⟨litD l, List.mem_map.mpr ⟨l, h, rfl⟩, SeqAt.eqv_refl _ (litD_lay o)⟩
theorem inD {X : Cx} (K : PySem.W.Frag) (hu : X.A.units + 65 < cLine) (h : X.K = K := by rfl) : OpR X (compareOp .In) (rInD K) := by subst h; exact op_inD hu
theorem chn_sound {val : Str → Int} : ∀ {l : List Bnd} {x y : Str}, Chn x l y → (∀ b ∈ l, val b.1 - val b.2.1 ≤ b.2.2) → val x - val y ≤ (l.map (·.2.2)).sum
  | [], x, y, h, _ => by
    have e : x = y := h
    subst e
    simp
  | b :: r, x, y, h, hv => by
    have e : b.1 = x := h.1
    have h1 := hv b List.mem_cons_self
    have h2 := chn_sound h.2 fun c hc => hv c (List.mem_cons_of_mem _ hc)
    rw [List.map_cons, List.sum_cons, ← e]
    omega
/-- numbers that make all true leave no ring -/
theorem no_ring {ls rl : List Lit} {val : Str → Int} (h : ∀ l ∈ ls, val l.bnd.1 - val l.bnd.2.1 ≤ l.bnd.2.2) (r : RingOf ls rl) : False := by
  obtain ⟨m, hm⟩ := r.chn
  have := chn_sound (val := val) hm fun b hb => by
    obtain ⟨l, hl, rfl⟩ := List.mem_map.mp hb
    exact h l (r.sub l hl)
  have := r.neg
  omega
section
variable {P : Program} {w : World} {K : PySem.W.Frag} {mg : Str → Option Value} {base : Heap}
def spRight (K : PySem.W.Frag) : Sp := fun vs H Q _ => ∃ (a b : Addr) (ws : List V) (ls : List Lit) (fs : List Str), vs = [.ref a, .ref b] ∧ SqL K H a ws ∧ Al (IsLit H) ws ls ∧ SqL K H b (fs.map V.str) ∧ (∀ l ∈ ls, Within fs l) ∧ SOk fs ∧ fs.length ≤ 8 ∧ ls.length ≤ 500 ∧
  ∀ H', Same H H' → Q (.bl true) H'
theorem ok_right {f fF fN fI fO fM : Addr} {fd fdF fdN fdI fdO fdM : FuncData} {k : Nat} (F : Fun K "_law_is_right" "_law_is_right" sRight f fd)
    (FF : Fun K "find_ring" "find_ring" sFind fF fdF) (bF : Binds K fdF ["literals"] []) (gF : mg "find_ring" = some (.ref fF)) (GF : FnOk P w K mg base CX0 (k + 4) fF fdF ["literals"] (spFind K))
    (FN : Fun K "nearest_numbers" "nearest_numbers" sNear fN fdN) (bN : Binds K fdN ["literals", "fields"] []) (gN : mg "nearest_numbers" = some (.ref fN)) (GN : FnOk P w K mg base CX0 (k + 4) fN fdN ["literals", "fields"] (spNear K))
    (FI : Fun K "_law_is_ring" "_law_is_ring" sIsRing fI fdI) (bI : Binds K fdI ["_law_literals"] []) (gI : mg "_law_is_ring" = some (.ref fI)) (GI : FnOk P w K mg base CX0 (k + 4) fI fdI ["_law_literals"] (spIsRing K))
    (FO : Fun K "_law_is_row" "_law_is_row" sIsRow fO fdO) (bO : Binds K fdO ["_law_actual", "_law_many"] []) (gO : mg "_law_is_row" = some (.ref fO)) (GO : FnOk P w K mg base CX0 (k + 4) fO fdO ["_law_actual", "_law_many"] spIsRow)
    (FM : Fun K "_law_meets" "_law_meets" sMeets fM fdM) (bM : Binds K fdM ["_law_literals", "_law_fields_here", "_law_numbers"] []) (gM : mg "_law_meets" = some (.ref fM)) (GM : FnOk P w K mg base CX0 (k + 4) fM fdM ["_law_literals", "_law_fields_here", "_law_numbers"] (spMeets K))
    (ml : mg "len" = none) (mt : mg "tuple" = none) (mis : mg "isinstance" = none) : FnOk P w K mg base CX0 (k + 5) f fd ["_law_literals", "_law_fields_here"] (spRight K) := by
  refine F.ok scRight (fun vs H Q E h => ?_) (fun cdv A outer s H vs Q E hr h => ?_)
  · obtain ⟨a, b, ws, ls, fs, rfl, _⟩ := h
    rfl
  · obtain ⟨a, b, ws, ls, fs, rfl, hS, hal, hF, hw, hok, hfl, hll, q⟩ := h
    have nd := scRight.nd
    have hu : (A.deeper (envOfC "_law_is_right" (defScope sRight) s.heap.objs.size f cdv)).units + 65 < cLine := by have := hr.un; omega
    refine ⟨_, pss_cons (ps_set (i := 2) nd rfl (.inl rfl) (pe_call GF hr (by rfl) gF FF.kp bF .nil pass0 (pa_cons (pe_callTy call_tuple_of (by rfl) mt (by decide +kernel) (pa_cons (pv 0) pa_nil)) pa_nil)))
      (pss_cons (ps_if (pt_not (pt_val (pe_callB (isi K) (by rfl) mis (by decide +kernel) (pa_cons (pv 2) (pa_cons (pe_bltn (v := .ty "tuple") (by rfl) mt PyProof.Rows.boot_tuple rfl) pa_nil))))) (pss_one (ps_ret pe_bl)) pss_nil)
      (pss_cons (ps_if (pt_cmpR op_gt (pe_callB call_len_seq (by rfl) ml PySem.boot_len (pa_cons (pv 2) pa_nil)) pe_int (nomark _))
        (pss_cons (ps_if (pt_cmpR op_in_seq pe_bl (pe_lc (own := [("_law_literal_here", 4)]) (g := gName 4) (tt := tYes) rfl nd (pi_tup (pv 2)) (blkOk_by (N := nRight) (sc := defScope sRight) (by decide +kernel))
            (fun _ _ _ _ _ => pg_name (i := 4) nd rfl (Or.inl rfl)) (fun _ _ _ _ _ => pts_nil) (fun _ _ _ _ _ => pe_cmpR (inD K hu) (pv 4) (pv 0) (by rfl))) (by rfl)) (pss_one (ps_ret pe_bl)) pss_nil)
        (pss_one (ps_ret (pe_call GI hr (by rfl) gI FI.kp bI .nil pass0 (pa_cons (pv 2) pa_nil))))) pss_nil)
      (pss_cons (ps_set (i := 3) nd rfl (.inl rfl) (pe_call GN hr (by rfl) gN FN.kp bN .nil pass0 (pa_cons (pe_callTy call_tuple_of (by rfl) mt (by decide +kernel) (pa_cons (pv 0) pa_nil)) (pa_cons (pe_callTy call_tuple_of (by rfl) mt (by decide +kernel) (pa_cons (pv 1) pa_nil)) pa_nil))))
      (pss_one (ps_ret (pe_and (pe_call GO hr (by rfl) gO FO.kp bO .nil pass0 (pa_cons (pv 3) (pa_cons (pe_callB call_len_seq (by rfl) ml PySem.boot_len (pa_cons (pv 1) pa_nil)) pa_nil)))
        (pe_one (pe_call GM hr (by rfl) gM FM.kp bM .nil pass0 (pa_cons (pv 0) (pa_cons (pv 1) (pa_cons (pv 3) pa_nil))))))))))), ?_⟩
    -- ring
    refine ⟨.ref a, rfl, a, ws, rfl, .inl ⟨hS, fun p np => ?_⟩⟩
    have s1 := same_new (o := .tup ws) np
    refine ⟨p, ws, ls, fs, rfl, SqT.of upd_same, lits_mono (Same.tups s1) hal, hw, hfl, hll, fun H2 p2 us s2 hp2 hR => ?_⟩
    have s12 := s1.trans s2
    refine ⟨.ref p2, rfl, .ref p2, .ty "tuple", .type "tuple", .type "tuple", true, rfl, .ty _, .base (.tup hp2), kit_ty (by decide +kernel), true, rfl, ?_⟩
    refine iteF ?_
    refine ⟨.ref p2, rfl, p2, us, rfl, .inr (SqT.of hp2), _, 0, rfl, rfl, _, rfl, ?_⟩
    rcases hR with ⟨rfl, hfe⟩ | ⟨rl, hrl, hrlen, ring⟩
    · -- no ring: numbers
      rw [show decide ((0 : Int) < (([] : List V).length : Nat)) = false from rfl]
      refine iteF ?_
      refine ⟨.ref a, rfl, a, ws, rfl, .inl ⟨s12.seq hS, fun p3 n3 => ?_⟩⟩
      have s3 := s12.trans (same_new (o := .tup ws) n3)
      refine ⟨.ref b, rfl, b, _, rfl, .inl ⟨s3.seq hF, fun p4 n4 => ?_⟩⟩
      have s4 := s3.trans (same_new (o := .tup (fs.map V.str)) n4)
      have hp34 := same_new (o := .tup (fs.map V.str)) n4 _ _ (show (upd H2 p3 (.tup ws)) p3 = some (.tup ws) from upd_same)
      refine ⟨p3, p4, ws, ls, fs, rfl, SqT.of hp34, lits_mono (Same.tups s4) hal, SqT.of upd_same, hw, hfl, hll, hfe, fun H5 p5 ns s5 hp5 nsl hv => ?_⟩
      have s6 := s4.trans s5
      refine ⟨.ref p5, rfl, .ref b, rfl, b, _, rfl, .inl (s6.seq hF), p5, ns, by rw [List.length_map, nsl]; rfl, hp5, by omega, fun H7 s7 => ?_⟩
      have s8 := s6.trans s7
      refine ⟨true, rfl, ?_⟩
      refine iteT ?_
      exact ⟨.ref a, rfl, .ref b, rfl, .ref p5, rfl, a, b, p5, ws, ls, fs, ns, rfl, s8.seq hS, lits_mono (Same.tups s8) hal, s8.seq hF, SqT.of (s7 _ _ hp5), nsl, by omega, hw, hv, fun H9 s9 => q _ (s8.trans s9)⟩
    · -- a ring
      have ul : us.length = rl.length := hrl.1
      have u0 : 0 < us.length := by rw [ul]; exact List.length_pos_iff.mpr ring.ne
      rw [decide_eq_true (show (0 : Int) < (us.length : Nat) by omega)]
      refine iteT ?_
      refine ⟨.ref p2, rfl, p2, rfl, ⟨_, SqT.of hp2⟩, fun D nD => ?_⟩
      refine lc_tup (K := K) (a := p2) (xs := us) (fun i H3 => H3 = upd H2 D (.lst (List.replicate i (.bl true)))) rfl (fun i H3 _ hP => ?_) (fun i x H3 hx hP => ?_) (fun H3 hP => ?_)
      · subst hP
        exact SqT.of (same_new nD _ _ hp2)
      · subst hP
        obtain ⟨l, hl, il⟩ := hrl.get hx
        have sD := s12.trans (same_new (o := .lst (List.replicate i (.bl true))) nD)
        have tD := Same.tups (same_new (o := .lst (List.replicate i (.bl true))) nD)
        have lm := ring.sub l (List.mem_of_getElem? hl)
        have lo := LOk.of hok (hw l lm)
        refine ⟨rfl, lcY ?_⟩
        refine iteT ?_
        refine ⟨x, rfl, .ref a, rfl, litD l, ls.map litD, lit_dp (il.mono tD), .lst (sD.seq hS) (lits_dp (lits_mono (Same.tups sD) hal)), litD_shaped lo, litDs_shaped fun m hm => LOk.of hok (hw m hm), ?_⟩
        rw [lit_any lo lm]
        refine ⟨_, upd_same, ?_, ?_⟩
        · rw [List.length_replicate]
          have := at_lt hx
          exact small (by omega)
        · show upd (upd H2 D _) D _ = _
          rw [upd_upd, List.replicate_succ']
      · subst hP
        refine ⟨D, _, rfl, .inl (SqL.of upd_same), rfl, by rw [List.all_replicate]; simp [flatV], _, rfl, ?_⟩
        have e : inV (.bl false) (List.replicate us.length (.bl true)) = false := by
          unfold inV
          rw [List.any_replicate]
          simp [eqV]
        show if inV (.bl false) (List.replicate us.length (.bl true)) = true then _ else _
        rw [e]
        refine iteF ?_
        obtain ⟨m, hm⟩ := ring.chn
        have sD := same_new (o := .lst (List.replicate us.length (.bl true))) nD
        exact ⟨.ref p2, rfl, p2, us, rl, m, rfl, SqT.of (sD _ _ hp2), lits_mono (Same.tups sD) hrl, by omega, hm, ring.neg, fun H4 s4 => q _ (s12.trans (sD.trans s4))⟩
end
end WB
set_option Elab.async false
set_option linter.all false
set_option autoImplicit false
set_option maxRecDepth 100000
/-! The law. -/
namespace WB
open PySem PySem.Spec PyProof.Rows L2 WM
theorem Al.cut {R : V → Lit → Prop} {xs : List V} {ys : List Lit} (h : Al R xs ys) (lo hi : Option Int) : ∃ zs, Al R (cutV xs lo hi) zs ∧ (∀ l, l ∈ zs → l ∈ ys) ∧ zs.length ≤ ys.length :=
  ⟨_, (h.drop _).take _, fun l hl => List.mem_of_mem_drop (List.mem_of_mem_take hl), by rw [List.length_take, List.length_drop]; omega⟩
section
variable {P : Program} {w : World} {K : PySem.W.Frag} {mg : Str → Option Value} {base : Heap}
def spLaw (K : PySem.W.Frag) : Sp := fun vs H Q _ => ∃ (a : Addr) (ns : List Int), vs = [.ref a] ∧ SqL K H a (ns.map V.int) ∧ ns.length ≤ 63 ∧ ∀ H', Q (.bl true) H'
theorem ok_law {f fD fP fS fT fU fA fO fF fR : Addr} {fd fdD fdP fdS fdT fdU fdA fdO fdF fdR : FuncData} {k : Nat} (F : Fun K "law" "law" sLaw f fd)
    (FD : Fun K "_law_draws" "_law_draws" sDraws fD fdD) (bD : Binds K fdD ["_law_script", "_law_many"] []) (gD : mg "_law_draws" = some (.ref fD)) (GD : FnOk P w K mg base CX0 (k + 5) fD fdD ["_law_script", "_law_many"] (spDraws K))
    (FP : Fun K "_law_fields" "_law_fields" sFields fP fdP) (bP : Binds K fdP ["_law_draws_here"] []) (gP : mg "_law_fields" = some (.ref fP)) (GP : FnOk P w K mg base CX0 (k + 5) fP fdP ["_law_draws_here"] spFields)
    (FS : Fun K "_law_size" "_law_size" sSize fS fdS) (bS : Binds K fdS ["_law_draws_here", "_law_script"] []) (gS : mg "_law_size" = some (.ref fS)) (GS : FnOk P w K mg base CX0 (k + 5) fS fdS ["_law_draws_here", "_law_script"] (spSize K))
    (FT : Fun K "_law_take" "_law_take" sTake fT fdT) (bT : Binds K fdT ["_law_draws_here", "_law_many"] []) (gT : mg "_law_take" = some (.ref fT)) (GT : FnOk P w K mg base CX0 (k + 5) fT fdT ["_law_draws_here", "_law_many"] spTake)
    (FU : Fun K "_law_true" "_law_true" sTrue fU fdU) (bU : Binds K fdU ["_law_draws_here", "_law_fields_here", "_law_numbers", "_law_script"] []) (gU : mg "_law_true" = some (.ref fU)) (GU : FnOk P w K mg base CX0 (k + 5) fU fdU ["_law_draws_here", "_law_fields_here", "_law_numbers", "_law_script"] (spTrue K))
    (FA : Fun K "_law_any" "_law_any" sAny fA fdA) (bA : Binds K fdA ["_law_draws_here", "_law_fields_here", "_law_script"] []) (gA : mg "_law_any" = some (.ref fA)) (GA : FnOk P w K mg base CX0 (k + 5) fA fdA ["_law_draws_here", "_law_fields_here", "_law_script"] (spAny K))
    (FO : Fun K "_law_round" "_law_round" sRound fO fdO) (bO : Binds K fdO ["_law_draws_here", "_law_fields_here", "_law_script"] []) (gO : mg "_law_round" = some (.ref fO)) (GO : FnOk P w K mg base CX0 (k + 5) fO fdO ["_law_draws_here", "_law_fields_here", "_law_script"] (spRound K))
    (FF : Fun K "find_ring" "find_ring" sFind fF fdF) (bF : Binds K fdF ["literals"] []) (gF : mg "find_ring" = some (.ref fF)) (GF : FnOk P w K mg base CX0 (k + 5) fF fdF ["literals"] (spFind K))
    (FR : Fun K "_law_is_right" "_law_is_right" sRight fR fdR) (bR : Binds K fdR ["_law_literals", "_law_fields_here"] []) (gR : mg "_law_is_right" = some (.ref fR)) (GR : FnOk P w K mg base CX0 (k + 5) fR fdR ["_law_literals", "_law_fields_here"] (spRight K))
    (ml : mg "len" = none) (mt : mg "tuple" = none) (mr : mg "range" = none) (mm : mg "max" = none) : FnOk P w K mg base CX0 (k + 6) f fd ["_law_script"] (spLaw K) := by
  refine F.ok scLaw (fun vs H Q E h => ?_) (fun cdv A outer s H vs Q E hr h => ?_)
  · obtain ⟨a, ns, rfl, _⟩ := h
    rfl
  · obtain ⟨a, ns, rfl, hS, hlen, q⟩ := h
    have nd := scLaw.nd
    have hu : (A.deeper (envOfC "law" (defScope sLaw) s.heap.objs.size f cdv)).units + 64 < cLine := by have := hr.un; omega
    refine ⟨_, pss_cons (ps_set (i := 1) nd rfl (.inr rfl) (pe_call GD hr (by rfl) gD FD.kp bD .nil pass0 (pa_cons (pv 0) (pa_cons pe_int pa_nil))))
      (pss_cons (ps_set (i := 2) nd rfl (.inr rfl) (pe_call GP hr (by rfl) gP FP.kp bP .nil pass0 (pa_cons (pv 1) pa_nil)))
      (pss_cons (ps_set (i := 3) nd rfl (.inr rfl) (pe_lc (own := [("_law_field", 9)]) (g := gName 9) (tt := tYes) rfl nd (pi_list (pv 2)) (blkOk_by (N := nLaw) (sc := defScope sLaw) (by decide +kernel))
          (fun _ _ _ _ _ => pg_name (i := 9) nd rfl (Or.inl rfl)) (fun _ _ _ _ _ => pts_nil) (fun _ _ _ _ _ => pe_call GS hr (by rfl) gS FS.kp bS .nil pass0 (pa_cons (pv 1) (pa_cons (pv 0) pa_nil)))))
      (pss_cons (ps_set (i := 4) nd rfl (.inl rfl) (pe_call GT hr (by rfl) gT FT.kp bT .nil pass0 (pa_cons (pv 1) (pa_cons pe_int pa_nil))))
      (pss_cons (ps_set (i := 5) nd rfl (.inl rfl) (pe_call GT hr (by rfl) gT FT.kp bT .nil pass0 (pa_cons (pv 1) (pa_cons (pe_op op_add pe_int (pe_callB call_len_seq (by rfl) ml PySem.boot_len (pa_cons (pv 2) pa_nil))) pa_nil))))
      (C8.pss_cut (ps_if (pt_cmpR op_eq (pv 4) pe_int (nomark _))
          (pss_cons (ps_setLc (i := 7) (own := [("_law_k", 6)]) (g := gName 6) (tt := tYes) rfl nd rfl rfl (sw_true rfl rfl rfl (by decide +kernel)) (pi_range1 (by rfl) mr (pa_cons (pv 5) pa_nil)) (blkOk_by (N := nLaw) (sc := defScope sLaw) (by decide +kernel))
              (fun _ _ _ _ _ => pg_name (i := 6) nd rfl (Or.inl rfl)) (fun _ _ _ _ _ => pts_nil) (fun _ _ _ _ _ => pe_call GU hr (by rfl) gU FU.kp bU .nil pass0 (pa_cons (pv 1) (pa_cons (pv 2) (pa_cons (pv 3) (pa_cons (pv 0) pa_nil))))))
            (pss_one (ps_if (pt_cmpR (op_neD hu) (pe_call GF hr (by rfl) gF FF.kp bF .nil pass0 (pa_cons (pe_callTy call_tuple_of (by rfl) mt (by decide +kernel) (pa_cons (pv 7) pa_nil)) pa_nil)) (pe_tup pa_nil) (by rfl)) (pss_one (ps_ret pe_bl)) pss_nil)))
          (pss_one (ps_if (pt_cmpR op_eq (pv 4) pe_int (nomark _))
            (pss_one (ps_setLc (i := 7) (own := [("_law_k", 6)]) (g := gName 6) (tt := tYes) rfl nd rfl rfl (sw_true rfl rfl rfl (by decide +kernel)) (pi_range1 (by rfl) mr (pa_cons (pv 5) pa_nil)) (blkOk_by (N := nLaw) (sc := defScope sLaw) (by decide +kernel))
              (fun _ _ _ _ _ => pg_name (i := 6) nd rfl (Or.inl rfl)) (fun _ _ _ _ _ => pts_nil) (fun _ _ _ _ _ => pe_call GA hr (by rfl) gA FA.kp bA .nil pass0 (pa_cons (pv 1) (pa_cons (pv 2) (pa_cons (pv 0) pa_nil))))))
            (pss_cons (ps_set (i := 7) nd rfl (.inl rfl) (pe_call GO hr (by rfl) gO FO.kp bO .nil pass0 (pa_cons (pv 1) (pa_cons (pv 2) (pa_cons (pv 0) pa_nil)))))
            (pss_cons (ps_for PassesOwn.never rfl (pi_range1 (by rfl) mr (pa_cons (pe_callB (call_max2 rfl) (by rfl) mm (by decide +kernel) (pa_cons pe_int (pa_cons (pe_op op_sub (pv 5) pe_int) pa_nil))) pa_nil)) (pg_name (i := 6) nd rfl (.inl rfl))
              (pss_one (ps_expr (pe_bm PySem.F.plainAttrs_list PySem.F.slot_list_append PySem.F.type_list_append mt_append (pv 7) (pa_cons (pe_call GU hr (by rfl) gU FU.kp bU .nil pass0 (pa_cons (pv 1) (pa_cons (pv 2) (pa_cons (pv 3) (pa_cons (pv 0) pa_nil))))) pa_nil)))))
            (pss_cons (ps_set (i := 8) nd rfl (.inl rfl) (pe_call GT hr (by rfl) gT FT.kp bT .nil pass0 (pa_cons (pv 1) (pa_cons pe_int pa_nil))))
            (pss_one (ps_set (i := 7) nd rfl (.inl rfl) (pe_op op_cat (pe_slice sl_list (pv 7) (po_some (pv 8)) po_none) (pe_slice sl_list (pv 7) po_none (po_some (pv 8)))))))))))) 
      (pss_cons (ps_if (PW.pt (pw_or (pt_not (pt_val (pe_call GR hr (by rfl) gR FR.kp bR .nil pass0 (pa_cons (pv 7) (pa_cons (pv 2) pa_nil)))))
          (pw_or1 (pt_not (pt_val (pe_call GR hr (by rfl) gR FR.kp bR .nil pass0 (pa_cons (pe_slice sl_list (pv 7) po_none (po_some (pe_un un_neg pe_int))) (pa_cons (pv 2) pa_nil)))))))) (pss_one (ps_ret pe_bl)) pss_nil)
      (pss_one (ps_ret (pe_call GR hr (by rfl) gR FR.kp bR .nil pass0 (pa_cons (pv 7) (pa_cons (pv 2) pa_nil))))))))))), ?_⟩
    -- draws, fields
    refine ⟨.ref a, rfl, a, ns, 190, rfl, hS, by omega, by decide, by decide, fun H1 d ds s1 nHd hd1 => ?_⟩
    have hS1 : SqD K H1 d a (ns.map V.int) := (SqD.of hS nHd).same s1
    refine ⟨.ref d, rfl, d, ds, rfl, hd1, fun H2 p fs ds2 b2 hd2 n1p npd hp2 hf0 hf8 hok => ?_⟩
    have hS2 := hS1.but b2
    have hF2 : SqD K H2 d p (fs.map V.str) := SqD.lst hp2 npd
    -- numbers
    refine ⟨.ref p, rfl, p, rfl, ⟨_, SqL.of hp2⟩, fun n nn => ?_⟩
    have nnd : n ≠ d := (ne_of_none hd2 nn).symm
    have nnp : n ≠ p := (ne_of_none hp2 nn).symm
    refine lc_list (K := K) (a := p) (xs := fs.map V.str) (fun i H3 => ∃ (l zs : List Int), H3 = upd (upd H2 d (.lst (l.map V.int))) n (.lst (zs.map V.int)) ∧ zs.length = i) ⟨ds2, [], by rw [upd_self hd2]; rfl, rfl⟩ (fun i H3 _ hP => ?_) (fun i x H3 hx hP => ?_) (fun H3 hP => ?_)
    · obtain ⟨l, zs, rfl, _⟩ := hP
      exact SqL.of (by rw [upd_ne nnp.symm, upd_ne npd]; exact hp2)
    · obtain ⟨l, zs, rfl, hz⟩ := hP
      refine ⟨rfl, lcY ?_⟩
      refine iteT ?_
      refine ⟨.ref d, rfl, .ref a, rfl, d, a, l, ns, rfl, by rw [upd_ne nnd.symm]; exact upd_same, hS2.but (But.upd.trans (Same.but (same_new (by rw [upd_ne nnd]; exact nn)))), fun l' z => ?_⟩
      have ex : upd (upd (upd H2 d (.lst (l.map V.int))) n (.lst (zs.map V.int))) d (.lst (l'.map V.int)) = upd (upd H2 d (.lst (l'.map V.int))) n (.lst (zs.map V.int)) := by
        rw [upd_comm nnd.symm, upd_upd, upd_comm nnd]
      rw [ex]
      have hi := at_lt hx
      rw [List.length_map] at hi
      refine ⟨_, upd_same, by rw [List.length_map]; exact small (by omega), l', zs ++ [z], ?_, by rw [List.length_append, hz]; rfl⟩
      rw [upd_upd, List.map_append]; rfl
    · obtain ⟨l, zs, rfl, hz⟩ := hP
      rw [List.length_map] at hz
      generalize hH3 : upd (upd H2 d (.lst (l.map V.int))) n (.lst (zs.map V.int)) = H3
      have b3 : But d H2 H3 := by rw [← hH3]; exact But.upd.trans (Same.but (same_new (by rw [upd_ne nnd]; exact nn)))
      have hd3 : H3 d = some (.lst (l.map V.int)) := by rw [← hH3, upd_ne nnd.symm]; exact upd_same
      have hn3 : H3 n = some (.lst (zs.map V.int)) := by rw [← hH3]; exact upd_same
      have hS3 := hS2.but b3
      have hF3 := hF2.but b3
      have hN3 : SqD K H3 d n (zs.map V.int) := SqD.lst hn3 nnd
      -- how, many
      refine ⟨.ref d, rfl, d, l, 3, rfl, hd3, by decide, fun l4 how w0 w1 => ?_⟩
      refine ⟨.ref d, rfl, .ref p, rfl, p, _, rfl, .inl (hF3.but But.upd).1, 4, _, rfl, rfl, d, l4, _, rfl, upd_same, by omega, fun l5 many m0 m1 => ?_⟩
      rw [upd_upd]
      rw [List.length_map] at m1
      have hp3 : H3 p = some (.lst (fs.map V.str)) := b3 _ _ npd hp2
      generalize hH4 : upd H3 d (.lst (l5.map V.int)) = H4
      have b4 : But d H3 H4 := by rw [← hH4]; exact But.upd
      have hd4 : H4 d = some (.lst (l5.map V.int)) := by rw [← hH4]; exact upd_same
      have hp4 : H4 p = some (.lst (fs.map V.str)) := b4 _ _ npd hp3
      have hS4 := hS3.but b4
      have hF4 := hF3.but b4
      have hN4 := hN3.but b4
      refine ⟨fun σ' H5 => ∃ (e : Addr) (vs : List V) (ls : List Lit) (y6 y8 : Option V), σ' = [some (.ref a), some (.ref d), some (.ref p), some (.ref n), some (.int how), some (.int many), y6, some (.ref e), y8, none] ∧ H5 e = some (.lst vs) ∧ Al (IsLit H5) vs ls ∧
        (∀ l ∈ ls, Within fs l) ∧ ls.length ≤ 500 ∧ H5 p = some (.lst (fs.map V.str)), ?_, ?_⟩
      · refine ⟨.int how, rfl, rfl, _, rfl, ite2 (fun _ => ?_) (fun _ => ?_)⟩
        · refine ⟨.int many, rfl, many, rfl, by omega, by omega, fun D nD => ?_⟩
          have nDd : D ≠ d := (ne_of_none hd4 nD).symm
          have nDn : D ≠ n := (ne_of_none (b4 _ _ nnd hn3) nD).symm
          refine lc_range (lo := 0) (n := many.toNat) (fun i H5 => ∃ (vs : List V) (ls : List Lit) (l : List Int), But d H4 H5 ∧ H5 d = some (.lst (l.map V.int)) ∧ H5 D = some (.lst vs) ∧ Al (IsLit H5) vs ls ∧ (∀ z ∈ ls, Within fs z ∧ valAt fs zs z.bnd.1 - valAt fs zs z.bnd.2.1 ≤ z.bnd.2.2) ∧ ls.length = i)
            ⟨[], [], l5, Same.but (same_new nD), by rw [upd_ne nDd.symm]; exact hd4, upd_same, Al.nil, fun z hz => absurd hz List.not_mem_nil, rfl⟩ (fun i H5 hi hP => ?_) (fun H5 hP => ?_)
          · obtain ⟨vs, ls, l6, b5, hd5, hD5, al, hw, hll⟩ := hP
            refine ⟨rfl, lcY ?_⟩
            refine iteT ?_
            refine ⟨.ref d, rfl, .ref p, rfl, .ref n, rfl, .ref a, rfl, d, p, n, a, l6, zs, ns, fs, rfl, hd5, hF4.but b5, hf0, by omega, hN4.but b5, hz, hS4.but b5, fun H6 v li l7 b6 hd6 hli wli vli => ?_⟩
            have hD6 := b6 _ _ nDd hD5
            have t6 : Tups H5 H6 := b6.tups hd5 fun _ z => nomatch z
            have t7 : Tups H6 (upd H6 D (.lst (vs ++ [v]))) := (But.upd (H := H6)).tups hD6 (fun _ z => nomatch z)
            refine ⟨vs, hD6, small (by rw [al.1, hll]; omega), vs ++ [v], ls ++ [li], l7, fun b o nb z => ?_, by rw [upd_ne nDd.symm]; exact hd6, upd_same, ((lits_mono t6 al).snoc hli).mono (fun _ _ q => q.mono t7), fun z hz => ?_, by rw [List.length_append, hll]; rfl⟩
            · rw [upd_ne (ne_of_none z nD)]
              exact b6 _ _ nb (b5 _ _ nb z)
            · rcases List.mem_append.mp hz with y | y
              · exact hw z y
              · rw [List.mem_singleton.mp y]
                exact ⟨wli, vli⟩
          · obtain ⟨vs, ls, l6, b5, hd5, hD5, al, hw, hll⟩ := hP
            refine ⟨.ref D, rfl, D, vs, rfl, .inl ⟨SqL.of hD5, fun t nt => ?_⟩⟩
            have s6 := same_new (o := .tup vs) nt
            refine ⟨t, vs, ls, fs, rfl, SqT.of upd_same, lits_mono (Same.tups s6) al, fun z hz => (hw z hz).1, hf8, by omega, fun H7 r us s7 hr7 hR => ?_⟩
            rcases hR with ⟨rfl, _⟩ | ⟨rl, _, _, ring⟩
            · refine ⟨small' (by simp), fun u nu => ?_⟩
              have s8 := same_new (o := .tup []) nu
              refine ⟨.tuple [], .tuple [], .tup (SqT.of (s8 _ _ hr7)) .nil, .tup (SqT.of upd_same) .nil, rfl, rfl, ?_⟩
              refine ⟨false, rfl, ?_⟩
              refine iteF ?_
              have s9 := s6.trans (s7.trans s8)
              exact ⟨D, vs, ls, _, _, rfl, s9 _ _ hD5, lits_mono (Same.tups s9) al, fun z hz => (hw z hz).1, by omega, s9 _ _ (b5 _ _ npd hp4)⟩
            · exact (no_ring (fun z hz => (hw z hz).2) ring).elim
        · refine ⟨.int how, rfl, rfl, _, rfl, ite2 (fun _ => ?_) (fun _ => ?_)⟩
          · refine ⟨.int many, rfl, many, rfl, by omega, by omega, fun D nD => ?_⟩
            have nDd : D ≠ d := (ne_of_none hd4 nD).symm
            refine lc_range (lo := 0) (n := many.toNat) (fun i H5 => ∃ (vs : List V) (ls : List Lit) (l : List Int), But d H4 H5 ∧ H5 d = some (.lst (l.map V.int)) ∧ H5 D = some (.lst vs) ∧ Al (IsLit H5) vs ls ∧ (∀ z ∈ ls, Within fs z) ∧ ls.length = i)
              ⟨[], [], l5, Same.but (same_new nD), by rw [upd_ne nDd.symm]; exact hd4, upd_same, Al.nil, fun z hz => absurd hz List.not_mem_nil, rfl⟩ (fun i H5 hi hP => ?_) (fun H5 hP => ?_)
            · obtain ⟨vs, ls, l6, b5, hd5, hD5, al, hw, hll⟩ := hP
              refine ⟨rfl, lcY ?_⟩
              refine iteT ?_
              refine ⟨.ref d, rfl, .ref p, rfl, .ref a, rfl, d, p, a, l6, ns, fs, rfl, hd5, hF4.but b5, hf0, by omega, hS4.but b5, fun H6 v li l7 b6 hd6 hli wli => ?_⟩
              have hD6 := b6 _ _ nDd hD5
              have t6 : Tups H5 H6 := b6.tups hd5 fun _ z => nomatch z
              have t7 : Tups H6 (upd H6 D (.lst (vs ++ [v]))) := (But.upd (H := H6)).tups hD6 (fun _ z => nomatch z)
              refine ⟨vs, hD6, small (by rw [al.1, hll]; omega), vs ++ [v], ls ++ [li], l7, fun b o nb z => ?_, by rw [upd_ne nDd.symm]; exact hd6, upd_same, ((lits_mono t6 al).snoc hli).mono (fun _ _ q => q.mono t7), fun z hz => ?_, by rw [List.length_append, hll]; rfl⟩
              · rw [upd_ne (ne_of_none z nD)]
                exact b6 _ _ nb (b5 _ _ nb z)
              · rcases List.mem_append.mp hz with y | y
                · exact hw z y
                · rw [List.mem_singleton.mp y]
                  exact wli
            · obtain ⟨vs, ls, l6, b5, hd5, hD5, al, hw, hll⟩ := hP
              exact ⟨D, vs, ls, _, _, rfl, hD5, al, hw, by omega, b5 _ _ npd hp4⟩
          · refine ⟨.ref d, rfl, .ref p, rfl, .ref a, rfl, d, p, a, l5, ns, fs, rfl, hd4, hF4, hf0, hf8, hS4, fun H5 D vs ls l6 b5 hd5 nD nDd hD5 al hw hll => ?_⟩
            refine ⟨.int many, rfl, many, 4, rfl, rfl, 0, _, rfl, _, rfl, ?_, ?_, ?_⟩
            · split <;> omega
            · split <;> omega
            generalize hm : (if many - 4 > 0 then many - 4 else 0) = mx
            have hmx : mx ≤ 8 := by rw [← hm]; split <;> omega
            refine for_range (lo := 0) (n := mx.toNat) (fun i σ H6 => ∃ (vs : List V) (ls : List Lit) (l : List Int) (y6 : Option V), σ = [some (.ref a), some (.ref d), some (.ref p), some (.ref n), some (.int how), some (.int many), y6, some (.ref D), none, none] ∧
              But d H4 H6 ∧ H6 d = some (.lst (l.map V.int)) ∧ H6 D = some (.lst vs) ∧ Al (IsLit H6) vs ls ∧ (∀ z ∈ ls, Within fs z) ∧ ls.length ≤ 17 + i) ⟨vs, ls, l6, none, rfl, b5, hd5, hD5, al, hw, hll⟩ (fun i σ H6 hi hP => ?_) (fun σ H6 hP => ?_)
            · obtain ⟨vs, ls, l6, y6, rfl, b6, hd6, hD6, al, hw, hll⟩ := hP
              refine ⟨.ref D, rfl, .inl ⟨rfl, _, SqL.of hD6⟩, .ref d, rfl, .ref p, rfl, .ref n, rfl, .ref a, rfl, d, p, n, a, l6, zs, ns, fs, rfl, hd6, hF4.but b6, hf0, by omega, hN4.but b6, hz, hS4.but b6, fun H7 v li l7 b7 hd7 hli wli _ => ?_⟩
              have hD7 := b7 _ _ nDd hD6
              have t6 : Tups H6 H7 := b7.tups hd6 fun _ z => nomatch z
              have t7 : Tups H7 (upd H7 D (.lst (vs ++ [v]))) := (But.upd (H := H7)).tups hD7 (fun _ z => nomatch z)
              refine ⟨D, vs, v, rfl, rfl, hD7, small (by rw [al.1]; omega), ?_⟩
              refine ⟨vs ++ [v], ls ++ [li], l7, _, rfl, fun b o nb z => ?_, by rw [upd_ne nDd.symm]; exact hd7, upd_same, ((lits_mono t6 al).snoc hli).mono (fun _ _ q => q.mono t7), fun z hz => ?_, by rw [List.length_append]; simp; omega⟩
              · rw [upd_ne (ne_of_none z nD)]
                exact b7 _ _ nb (b6 _ _ nb z)
              · rcases List.mem_append.mp hz with y | y
                · exact hw z y
                · rw [List.mem_singleton.mp y]
                  exact wli
            · obtain ⟨vs, ls, l6, y6, rfl, b6, hd6, hD6, al, hw, hll⟩ := hP
              refine ⟨.ref d, rfl, d, l6, 7, rfl, hd6, by decide, fun l7 turn t0 t1 => ?_⟩
              have hD7 : (upd H6 d (.lst (l7.map V.int))) D = some (.lst vs) := by rw [upd_ne nDd]; exact hD6
              have al7 : Al (IsLit (upd H6 d (.lst (l7.map V.int)))) vs ls := lits_mono ((But.upd (H := H6)).tups hd6 fun _ z => nomatch z) al
              have hp7 : (upd H6 d (.lst (l7.map V.int))) p = some (.lst (fs.map V.str)) := by rw [upd_ne npd]; exact b6 _ _ npd hp4
              generalize upd H6 d (.lst (l7.map V.int)) = H7 at hD7 al7 hp7
              refine ⟨.ref D, rfl, .int turn, rfl, turn, rfl, D, vs, rfl, SqL.of hD7, fun e1 n1 => ?_⟩
              have s8 := same_new (o := .lst (cutV vs (some turn) none)) n1
              refine ⟨.ref D, rfl, .int turn, rfl, turn, rfl, D, vs, rfl, SqL.of (s8 _ _ hD7), fun e2 n2 => ?_⟩
              have s9 := same_new (o := .lst (cutV vs none (some turn))) n2
              have n12 : e1 ≠ e2 := fun z => by rw [← z, upd_same] at n2; cases n2
              obtain ⟨l1, al1, sub1, len1⟩ := al7.cut (some turn) none
              obtain ⟨l2, al2, sub2, len2⟩ := al7.cut none (some turn)
              refine ⟨e1, e2, _, _, rfl, rfl, by rw [upd_ne n12]; exact upd_same, upd_same, small' (by rw [al1.1, al2.1]; omega), fun e3 n3 => ?_⟩
              have s10 := (s8.trans s9).trans (same_new (o := .lst (cutV vs (some turn) none ++ cutV vs none (some turn))) n3)
              exact ⟨e3, _, l1 ++ l2, _, _, rfl, upd_same, lits_mono (Same.tups s10) (al1.append al2), fun z hz => (List.mem_append.mp hz).elim (fun y => hw z (sub1 z y)) (fun y => hw z (sub2 z y)), by rw [List.length_append]; omega, s10 _ _ hp7⟩
      · rintro σ' H5 ⟨e, vs, ls, y6, y8, rfl, he, al, hw, hll, hp5⟩
        refine ⟨.ref e, rfl, .ref p, rfl, e, p, vs, ls, fs, rfl, SqL.of he, al, SqL.of hp5, hw, hok, hf8, hll, fun H6 s6 => ?_⟩
        refine ⟨true, rfl, ?_⟩
        refine iteF ?_
        have he6 := s6 _ _ he
        have al6 := lits_mono (Same.tups s6) al
        refine ⟨.ref e, rfl, 1, rfl, -1, rfl, e, vs, rfl, SqL.of he6, fun t nt => ?_⟩
        have s7 := s6.trans (same_new (o := .lst (cutV vs none (some (-1)))) nt)
        obtain ⟨ls', al', sub', len'⟩ := al6.cut none (some (-1))
        refine ⟨.ref p, rfl, t, p, _, ls', fs, rfl, SqL.of upd_same, lits_mono (Same.tups (same_new nt)) al', SqL.of (s7 _ _ hp5), fun z hz => hw z (sub' z hz), hok, hf8, by omega, fun H8 s8 => ?_⟩
        have s9 := s7.trans s8
        refine ⟨true, rfl, ?_⟩
        refine iteF ?_
        exact ⟨.ref e, rfl, .ref p, rfl, e, p, vs, ls, fs, rfl, SqL.of (s9 _ _ he), lits_mono (Same.tups s9) al, SqL.of (s9 _ _ hp5), hw, hok, hf8, hll, fun H10 _ => q _⟩
end
end WB
set_option Elab.async false
set_option linter.all false
set_option autoImplicit false
set_option maxRecDepth 100000
/-! What the top has written; the law's own head. -/
namespace WB
open PySem PySem.Spec PyProof.Rows L2 WM
theorem all_mk {l : PySem.W.OpenLaw} {w : World} {K : PySem.W.Frag} {h : Heap} {mg : Str → Option Value} {fa fBO fSI fPA fSH fFI fN1 fNE fDR fTA fWO fPO fFE fBN fLI fIR fSZ fME fRO fTW fTR fRD fAN fRI fLA : Addr} (X : K.In h) (G : h.Ns mainGlobals mg) (hfa : mg "law" = some (.ref fa))
    {odBO anBO odSI anSI odPA anPA odSH anSH odFI anFI odN1 anN1 odNE anNE odDR anDR odTA anTA odWO anWO odPO anPO odFE anFE odBN anBN odLI anLI odIR anIR odSZ anSZ odME anME odRO anRO odTW anTW odTR anTR odRD anRD odAN anAN odRI anRI odLA anLA : Option Addr} {slBO slSI slPA slSH slFI slN1 slNE slDR slTA slWO slPO slFE slBN slLI slIR slSZ slME slRO slTW slTR slRD slAN slRI slLA : Array (Option Value)}
    {ocBO kVBO dcBO pmBO cdBO ctBO ocSI kVSI dcSI pmSI cdSI ctSI ocPA kVPA dcPA pmPA cdPA ctPA ocSH kVSH dcSH pmSH cdSH ctSH ocFI kVFI dcFI pmFI cdFI ctFI ocN1 kVN1 dcN1 pmN1 cdN1 ctN1 ocNE kVNE dcNE pmNE cdNE ctNE ocDR kVDR dcDR pmDR cdDR ctDR ocTA kVTA dcTA pmTA cdTA ctTA ocWO kVWO dcWO pmWO cdWO ctWO ocPO kVPO dcPO pmPO cdPO ctPO ocFE kVFE dcFE pmFE cdFE ctFE ocBN kVBN dcBN pmBN cdBN ctBN ocLI kVLI dcLI pmLI cdLI ctLI ocIR kVIR dcIR pmIR cdIR ctIR ocSZ kVSZ dcSZ pmSZ cdSZ ctSZ ocME kVME dcME pmME cdME ctME ocRO kVRO dcRO pmRO cdRO ctRO ocTW kVTW dcTW pmTW cdTW ctTW ocTR kVTR dcTR pmTR cdTR ctTR ocRD kVRD dcRD pmRD cdRD ctRD ocAN kVAN dcAN pmAN cdAN ctAN ocRI kVRI dcRI pmRI cdRI ctRI ocLA kVLA dcLA pmLA cdLA ctLA : Value}
    (aBO : PySem.W.nsIn K mainGlobals "bound_of" = some (some (.ref fBO))) (lBO : K.lookup fBO = some ⟨ocBO, odBO, .func (PySem.W.fnOf "bound_of" "bound_of" (defArgs sBoundOf) (defBody sBoundOf) (defScope sBoundOf) .none kVBO dcBO pmBO anBO cdBO ctBO), slBO⟩) (cBO : PySem.W.codeIn K cdBO "bound_of" = true) (kBO : PySem.W.keepIn K (.ref fBO) = true)
    (aSI : PySem.W.nsIn K mainGlobals "single_ways" = some (some (.ref fSI))) (lSI : K.lookup fSI = some ⟨ocSI, odSI, .func (PySem.W.fnOf "single_ways" "single_ways" (defArgs sSingle) (defBody sSingle) (defScope sSingle) .none kVSI dcSI pmSI anSI cdSI ctSI), slSI⟩) (cSI : PySem.W.codeIn K cdSI "single_ways" = true) (kSI : PySem.W.keepIn K (.ref fSI) = true)
    (aPA : PySem.W.nsIn K mainGlobals "pass_through" = some (some (.ref fPA))) (lPA : K.lookup fPA = some ⟨ocPA, odPA, .func (PySem.W.fnOf "pass_through" "pass_through" (defArgs sPass) (defBody sPass) (defScope sPass) .none kVPA dcPA pmPA anPA cdPA ctPA), slPA⟩) (cPA : PySem.W.codeIn K cdPA "pass_through" = true) (kPA : PySem.W.keepIn K (.ref fPA) = true)
    (aSH : PySem.W.nsIn K mainGlobals "shortest_ways" = some (some (.ref fSH))) (lSH : K.lookup fSH = some ⟨ocSH, odSH, .func (PySem.W.fnOf "shortest_ways" "shortest_ways" (defArgs sShort) (defBody sShort) (defScope sShort) .none kVSH dcSH pmSH anSH cdSH ctSH), slSH⟩) (cSH : PySem.W.codeIn K cdSH "shortest_ways" = true) (kSH : PySem.W.keepIn K (.ref fSH) = true)
    (aFI : PySem.W.nsIn K mainGlobals "find_ring" = some (some (.ref fFI))) (lFI : K.lookup fFI = some ⟨ocFI, odFI, .func (PySem.W.fnOf "find_ring" "find_ring" (defArgs sFind) (defBody sFind) (defScope sFind) .none kVFI dcFI pmFI anFI cdFI ctFI), slFI⟩) (cFI : PySem.W.codeIn K cdFI "find_ring" = true) (kFI : PySem.W.keepIn K (.ref fFI) = true)
    (aN1 : PySem.W.nsIn K mainGlobals "nearest_value" = some (some (.ref fN1))) (lN1 : K.lookup fN1 = some ⟨ocN1, odN1, .func (PySem.W.fnOf "nearest_value" "nearest_value" (defArgs sNear1) (defBody sNear1) (defScope sNear1) .none kVN1 dcN1 pmN1 anN1 cdN1 ctN1), slN1⟩) (cN1 : PySem.W.codeIn K cdN1 "nearest_value" = true) (kN1 : PySem.W.keepIn K (.ref fN1) = true)
    (aNE : PySem.W.nsIn K mainGlobals "nearest_numbers" = some (some (.ref fNE))) (lNE : K.lookup fNE = some ⟨ocNE, odNE, .func (PySem.W.fnOf "nearest_numbers" "nearest_numbers" (defArgs sNear) (defBody sNear) (defScope sNear) .none kVNE dcNE pmNE anNE cdNE ctNE), slNE⟩) (cNE : PySem.W.codeIn K cdNE "nearest_numbers" = true) (kNE : PySem.W.keepIn K (.ref fNE) = true)
    (aDR : PySem.W.nsIn K mainGlobals "_law_draws" = some (some (.ref fDR))) (lDR : K.lookup fDR = some ⟨ocDR, odDR, .func (PySem.W.fnOf "_law_draws" "_law_draws" (defArgs sDraws) (defBody sDraws) (defScope sDraws) .none kVDR dcDR pmDR anDR cdDR ctDR), slDR⟩) (cDR : PySem.W.codeIn K cdDR "_law_draws" = true) (kDR : PySem.W.keepIn K (.ref fDR) = true)
    (aTA : PySem.W.nsIn K mainGlobals "_law_take" = some (some (.ref fTA))) (lTA : K.lookup fTA = some ⟨ocTA, odTA, .func (PySem.W.fnOf "_law_take" "_law_take" (defArgs sTake) (defBody sTake) (defScope sTake) .none kVTA dcTA pmTA anTA cdTA ctTA), slTA⟩) (cTA : PySem.W.codeIn K cdTA "_law_take" = true) (kTA : PySem.W.keepIn K (.ref fTA) = true)
    (aWO : PySem.W.nsIn K mainGlobals "_law_word" = some (some (.ref fWO))) (lWO : K.lookup fWO = some ⟨ocWO, odWO, .func (PySem.W.fnOf "_law_word" "_law_word" (defArgs sWord) (defBody sWord) (defScope sWord) .none kVWO dcWO pmWO anWO cdWO ctWO), slWO⟩) (cWO : PySem.W.codeIn K cdWO "_law_word" = true) (kWO : PySem.W.keepIn K (.ref fWO) = true)
    (aPO : PySem.W.nsIn K mainGlobals "_law_pool" = some (some (.ref fPO))) (lPO : K.lookup fPO = some ⟨ocPO, odPO, .func (PySem.W.fnOf "_law_pool" "_law_pool" (defArgs sPool) (defBody sPool) (defScope sPool) .none kVPO dcPO pmPO anPO cdPO ctPO), slPO⟩) (cPO : PySem.W.codeIn K cdPO "_law_pool" = true) (kPO : PySem.W.keepIn K (.ref fPO) = true)
    (aFE : PySem.W.nsIn K mainGlobals "_law_fields" = some (some (.ref fFE))) (lFE : K.lookup fFE = some ⟨ocFE, odFE, .func (PySem.W.fnOf "_law_fields" "_law_fields" (defArgs sFields) (defBody sFields) (defScope sFields) .none kVFE dcFE pmFE anFE cdFE ctFE), slFE⟩) (cFE : PySem.W.codeIn K cdFE "_law_fields" = true) (kFE : PySem.W.keepIn K (.ref fFE) = true)
    (aBN : PySem.W.nsIn K mainGlobals "_law_bound" = some (some (.ref fBN))) (lBN : K.lookup fBN = some ⟨ocBN, odBN, .func (PySem.W.fnOf "_law_bound" "_law_bound" (defArgs sBound) (defBody sBound) (defScope sBound) .none kVBN dcBN pmBN anBN cdBN ctBN), slBN⟩) (cBN : PySem.W.codeIn K cdBN "_law_bound" = true) (kBN : PySem.W.keepIn K (.ref fBN) = true)
    (aLI : PySem.W.nsIn K mainGlobals "_law_literal" = some (some (.ref fLI))) (lLI : K.lookup fLI = some ⟨ocLI, odLI, .func (PySem.W.fnOf "_law_literal" "_law_literal" (defArgs sLiteral) (defBody sLiteral) (defScope sLiteral) .none kVLI dcLI pmLI anLI cdLI ctLI), slLI⟩) (cLI : PySem.W.codeIn K cdLI "_law_literal" = true) (kLI : PySem.W.keepIn K (.ref fLI) = true)
    (aIR : PySem.W.nsIn K mainGlobals "_law_is_ring" = some (some (.ref fIR))) (lIR : K.lookup fIR = some ⟨ocIR, odIR, .func (PySem.W.fnOf "_law_is_ring" "_law_is_ring" (defArgs sIsRing) (defBody sIsRing) (defScope sIsRing) .none kVIR dcIR pmIR anIR cdIR ctIR), slIR⟩) (cIR : PySem.W.codeIn K cdIR "_law_is_ring" = true) (kIR : PySem.W.keepIn K (.ref fIR) = true)
    (aSZ : PySem.W.nsIn K mainGlobals "_law_size" = some (some (.ref fSZ))) (lSZ : K.lookup fSZ = some ⟨ocSZ, odSZ, .func (PySem.W.fnOf "_law_size" "_law_size" (defArgs sSize) (defBody sSize) (defScope sSize) .none kVSZ dcSZ pmSZ anSZ cdSZ ctSZ), slSZ⟩) (cSZ : PySem.W.codeIn K cdSZ "_law_size" = true) (kSZ : PySem.W.keepIn K (.ref fSZ) = true)
    (aME : PySem.W.nsIn K mainGlobals "_law_meets" = some (some (.ref fME))) (lME : K.lookup fME = some ⟨ocME, odME, .func (PySem.W.fnOf "_law_meets" "_law_meets" (defArgs sMeets) (defBody sMeets) (defScope sMeets) .none kVME dcME pmME anME cdME ctME), slME⟩) (cME : PySem.W.codeIn K cdME "_law_meets" = true) (kME : PySem.W.keepIn K (.ref fME) = true)
    (aRO : PySem.W.nsIn K mainGlobals "_law_is_row" = some (some (.ref fRO))) (lRO : K.lookup fRO = some ⟨ocRO, odRO, .func (PySem.W.fnOf "_law_is_row" "_law_is_row" (defArgs sIsRow) (defBody sIsRow) (defScope sIsRow) .none kVRO dcRO pmRO anRO cdRO ctRO), slRO⟩) (cRO : PySem.W.codeIn K cdRO "_law_is_row" = true) (kRO : PySem.W.keepIn K (.ref fRO) = true)
    (aTW : PySem.W.nsIn K mainGlobals "_law_two" = some (some (.ref fTW))) (lTW : K.lookup fTW = some ⟨ocTW, odTW, .func (PySem.W.fnOf "_law_two" "_law_two" (defArgs sTwo) (defBody sTwo) (defScope sTwo) .none kVTW dcTW pmTW anTW cdTW ctTW), slTW⟩) (cTW : PySem.W.codeIn K cdTW "_law_two" = true) (kTW : PySem.W.keepIn K (.ref fTW) = true)
    (aTR : PySem.W.nsIn K mainGlobals "_law_true" = some (some (.ref fTR))) (lTR : K.lookup fTR = some ⟨ocTR, odTR, .func (PySem.W.fnOf "_law_true" "_law_true" (defArgs sTrue) (defBody sTrue) (defScope sTrue) .none kVTR dcTR pmTR anTR cdTR ctTR), slTR⟩) (cTR : PySem.W.codeIn K cdTR "_law_true" = true) (kTR : PySem.W.keepIn K (.ref fTR) = true)
    (aRD : PySem.W.nsIn K mainGlobals "_law_round" = some (some (.ref fRD))) (lRD : K.lookup fRD = some ⟨ocRD, odRD, .func (PySem.W.fnOf "_law_round" "_law_round" (defArgs sRound) (defBody sRound) (defScope sRound) .none kVRD dcRD pmRD anRD cdRD ctRD), slRD⟩) (cRD : PySem.W.codeIn K cdRD "_law_round" = true) (kRD : PySem.W.keepIn K (.ref fRD) = true)
    (aAN : PySem.W.nsIn K mainGlobals "_law_any" = some (some (.ref fAN))) (lAN : K.lookup fAN = some ⟨ocAN, odAN, .func (PySem.W.fnOf "_law_any" "_law_any" (defArgs sAny) (defBody sAny) (defScope sAny) .none kVAN dcAN pmAN anAN cdAN ctAN), slAN⟩) (cAN : PySem.W.codeIn K cdAN "_law_any" = true) (kAN : PySem.W.keepIn K (.ref fAN) = true)
    (aRI : PySem.W.nsIn K mainGlobals "_law_is_right" = some (some (.ref fRI))) (lRI : K.lookup fRI = some ⟨ocRI, odRI, .func (PySem.W.fnOf "_law_is_right" "_law_is_right" (defArgs sRight) (defBody sRight) (defScope sRight) .none kVRI dcRI pmRI anRI cdRI ctRI), slRI⟩) (cRI : PySem.W.codeIn K cdRI "_law_is_right" = true) (kRI : PySem.W.keepIn K (.ref fRI) = true)
    (aLA : PySem.W.nsIn K mainGlobals "law" = some (some (.ref fLA))) (lLA : K.lookup fLA = some ⟨ocLA, odLA, .func (PySem.W.fnOf "law" "law" (defArgs sLaw) (defBody sLaw) (defScope sLaw) .none kVLA dcLA pmLA anLA cdLA ctLA), slLA⟩) (cLA : PySem.W.codeIn K cdLA "law" = true) (kLA : PySem.W.keepIn K (.ref fLA) = true)
    (z_len : PySem.W.nsIn K mainGlobals "len" = some none)
    (z_int : PySem.W.nsIn K mainGlobals "int" = some none)
    (z_list : PySem.W.nsIn K mainGlobals "list" = some none)
    (z_range : PySem.W.nsIn K mainGlobals "range" = some none)
    (z_abs : PySem.W.nsIn K mainGlobals "abs" = some none)
    (z_sum : PySem.W.nsIn K mainGlobals "sum" = some none)
    (z_enumerate : PySem.W.nsIn K mainGlobals "enumerate" = some none)
    (z_sorted : PySem.W.nsIn K mainGlobals "sorted" = some none)
    (z_set : PySem.W.nsIn K mainGlobals "set" = some none)
    (z_tuple : PySem.W.nsIn K mainGlobals "tuple" = some none)
    (z_isinstance : PySem.W.nsIn K mainGlobals "isinstance" = some none)
    (z_bool : PySem.W.nsIn K mainGlobals "bool" = some none)
    (z_max : PySem.W.nsIn K mainGlobals "max" = some none)
    : ∃ fd : FuncData, (∀ (s : Shared) (v : Value), BindsTo s fd ⟨[v], []⟩ [("_law_script", v)]) ∧ ∀ base : Heap, K.In base → base.Ns mainGlobals mg → FnOk l.prog w K mg base CX0 6 fa fd ["_law_script"] (spLaw K) := by
  have e := hfa.symm.trans (PySem.W.mg_of X G aLA)
  cases e
  have FBO := fun_mk (st := sBoundOf) lBO cBO kBO
  have FSI := fun_mk (st := sSingle) lSI cSI kSI
  have FPA := fun_mk (st := sPass) lPA cPA kPA
  have FSH := fun_mk (st := sShort) lSH cSH kSH
  have FFI := fun_mk (st := sFind) lFI cFI kFI
  have FN1 := fun_mk (st := sNear1) lN1 cN1 kN1
  have FNE := fun_mk (st := sNear) lNE cNE kNE
  have FDR := fun_mk (st := sDraws) lDR cDR kDR
  have FTA := fun_mk (st := sTake) lTA cTA kTA
  have FWO := fun_mk (st := sWord) lWO cWO kWO
  have FPO := fun_mk (st := sPool) lPO cPO kPO
  have FFE := fun_mk (st := sFields) lFE cFE kFE
  have FBN := fun_mk (st := sBound) lBN cBN kBN
  have FLI := fun_mk (st := sLiteral) lLI cLI kLI
  have FIR := fun_mk (st := sIsRing) lIR cIR kIR
  have FSZ := fun_mk (st := sSize) lSZ cSZ kSZ
  have FME := fun_mk (st := sMeets) lME cME kME
  have FRO := fun_mk (st := sIsRow) lRO cRO kRO
  have FTW := fun_mk (st := sTwo) lTW cTW kTW
  have FTR := fun_mk (st := sTrue) lTR cTR kTR
  have FRD := fun_mk (st := sRound) lRD cRD kRD
  have FAN := fun_mk (st := sAny) lAN cAN kAN
  have FRI := fun_mk (st := sRight) lRI cRI kRI
  have FLA := fun_mk (st := sLaw) lLA cLA kLA
  have bBO := FBO.binds (ps := ["literal"]) fun _ _ _ _ _ _ us hl => match us, hl with | [_], _ => rfl
  have gBO := PySem.W.mg_of X G aBO
  have bSI := FSI.binds (ps := ["bounds"]) fun _ _ _ _ _ _ us hl => match us, hl with | [_], _ => rfl
  have gSI := PySem.W.mg_of X G aSI
  have bPA := FPA.binds (ps := ["ways", "middle"]) fun _ _ _ _ _ _ us hl => match us, hl with | [_, _], _ => rfl
  have gPA := PySem.W.mg_of X G aPA
  have bSH := FSH.binds (ps := ["bounds"]) fun _ _ _ _ _ _ us hl => match us, hl with | [_], _ => rfl
  have gSH := PySem.W.mg_of X G aSH
  have bFI := FFI.binds (ps := ["literals"]) fun _ _ _ _ _ _ us hl => match us, hl with | [_], _ => rfl
  have gFI := PySem.W.mg_of X G aFI
  have bN1 := FN1.binds (ps := ["bounds", "field"]) fun _ _ _ _ _ _ us hl => match us, hl with | [_, _], _ => rfl
  have gN1 := PySem.W.mg_of X G aN1
  have bNE := FNE.binds (ps := ["literals", "fields"]) fun _ _ _ _ _ _ us hl => match us, hl with | [_, _], _ => rfl
  have gNE := PySem.W.mg_of X G aNE
  have bDR := FDR.binds (ps := ["_law_script", "_law_many"]) fun _ _ _ _ _ _ us hl => match us, hl with | [_, _], _ => rfl
  have gDR := PySem.W.mg_of X G aDR
  have bTA := FTA.binds (ps := ["_law_draws_here", "_law_many"]) fun _ _ _ _ _ _ us hl => match us, hl with | [_, _], _ => rfl
  have gTA := PySem.W.mg_of X G aTA
  have bWO := FWO.binds (ps := ["_law_number"]) fun _ _ _ _ _ _ us hl => match us, hl with | [_], _ => rfl
  have gWO := PySem.W.mg_of X G aWO
  have bPO := FPO.binds (ps := ["_law_draws_here"]) fun _ _ _ _ _ _ us hl => match us, hl with | [_], _ => rfl
  have gPO := PySem.W.mg_of X G aPO
  have bFE := FFE.binds (ps := ["_law_draws_here"]) fun _ _ _ _ _ _ us hl => match us, hl with | [_], _ => rfl
  have gFE := PySem.W.mg_of X G aFE
  have bBN := FBN.binds (ps := ["_law_literal_here"]) fun _ _ _ _ _ _ us hl => match us, hl with | [_], _ => rfl
  have gBN := PySem.W.mg_of X G aBN
  have bLI := FLI.binds (ps := ["_law_x", "_law_y", "_law_c"]) fun _ _ _ _ _ _ us hl => match us, hl with | [_, _, _], _ => rfl
  have gLI := PySem.W.mg_of X G aLI
  have bIR := FIR.binds (ps := ["_law_literals"]) fun _ _ _ _ _ _ us hl => match us, hl with | [_], _ => rfl
  have gIR := PySem.W.mg_of X G aIR
  have bSZ := FSZ.binds (ps := ["_law_draws_here", "_law_script"]) fun _ _ _ _ _ _ us hl => match us, hl with | [_, _], _ => rfl
  have gSZ := PySem.W.mg_of X G aSZ
  have bME := FME.binds (ps := ["_law_literals", "_law_fields_here", "_law_numbers"]) fun _ _ _ _ _ _ us hl => match us, hl with | [_, _, _], _ => rfl
  have gME := PySem.W.mg_of X G aME
  have bRO := FRO.binds (ps := ["_law_actual", "_law_many"]) fun _ _ _ _ _ _ us hl => match us, hl with | [_, _], _ => rfl
  have gRO := PySem.W.mg_of X G aRO
  have bTW := FTW.binds (ps := ["_law_draws_here", "_law_fields_here"]) fun _ _ _ _ _ _ us hl => match us, hl with | [_, _], _ => rfl
  have gTW := PySem.W.mg_of X G aTW
  have bTR := FTR.binds (ps := ["_law_draws_here", "_law_fields_here", "_law_numbers", "_law_script"]) fun _ _ _ _ _ _ us hl => match us, hl with | [_, _, _, _], _ => rfl
  have gTR := PySem.W.mg_of X G aTR
  have bRD := FRD.binds (ps := ["_law_draws_here", "_law_fields_here", "_law_script"]) fun _ _ _ _ _ _ us hl => match us, hl with | [_, _, _], _ => rfl
  have gRD := PySem.W.mg_of X G aRD
  have bAN := FAN.binds (ps := ["_law_draws_here", "_law_fields_here", "_law_script"]) fun _ _ _ _ _ _ us hl => match us, hl with | [_, _, _], _ => rfl
  have gAN := PySem.W.mg_of X G aAN
  have bRI := FRI.binds (ps := ["_law_literals", "_law_fields_here"]) fun _ _ _ _ _ _ us hl => match us, hl with | [_, _], _ => rfl
  have gRI := PySem.W.mg_of X G aRI
  have m_len := PySem.W.mg_none_of X G z_len
  have m_int := PySem.W.mg_none_of X G z_int
  have m_list := PySem.W.mg_none_of X G z_list
  have m_range := PySem.W.mg_none_of X G z_range
  have m_abs := PySem.W.mg_none_of X G z_abs
  have m_sum := PySem.W.mg_none_of X G z_sum
  have m_enumerate := PySem.W.mg_none_of X G z_enumerate
  have m_sorted := PySem.W.mg_none_of X G z_sorted
  have m_set := PySem.W.mg_none_of X G z_set
  have m_tuple := PySem.W.mg_none_of X G z_tuple
  have m_isinstance := PySem.W.mg_none_of X G z_isinstance
  have m_bool := PySem.W.mg_none_of X G z_bool
  have m_max := PySem.W.mg_none_of X G z_max
  refine ⟨PySem.W.fnOf "law" "law" (defArgs sLaw) (defBody sLaw) (defScope sLaw) .none kVLA dcLA pmLA anLA cdLA ctLA, fun s v => .of_eq rfl, fun base _ _ => ?_⟩
  exact ok_law (k := 0) FLA FDR bDR gDR (ok_draws FDR m_len m_int m_list m_range)
    FFE bFE gFE (ok_fields FFE FTA bTA gTA FWO bWO gWO FPO bPO gPO m_len m_int m_range m_sorted m_set)
    FSZ bSZ gSZ (ok_size FSZ FTA bTA gTA m_len m_int)
    FTA bTA gTA (ok_take FTA m_len m_int)
    FTR bTR gTR (ok_true FTR FTA bTA gTA FSZ bSZ gSZ FLI bLI gLI FTW bTW gTW m_len m_int m_list m_abs)
    FAN bAN gAN (ok_any FAN FTA bTA gTA FSZ bSZ gSZ FLI bLI gLI FTW bTW gTW m_len m_int m_list)
    FRD bRD gRD (ok_round FRD FTA bTA gTA FSZ bSZ gSZ FLI bLI gLI m_len m_int m_list m_range m_sum)
    FFI bFI gFI (ok_find FFI FBO bBO gBO FSH bSH gSH FSI bSI gSI FPA bPA gPA m_enumerate m_sorted m_tuple)
    FRI bRI gRI (ok_right FRI FFI bFI gFI (ok_find FFI FBO bBO gBO FSH bSH gSH FSI bSI gSI FPA bPA gPA m_enumerate m_sorted m_tuple) FNE bNE gNE (ok_near FNE FBO bBO gBO FN1 bN1 gN1 FSH bSH gSH FSI bSI gSI FPA bPA gPA m_enumerate m_sorted m_tuple) FIR bIR gIR (ok_isRing FIR FBN bBN gBN m_len m_range) FRO bRO gRO (ok_isRow FRO m_len m_isinstance m_tuple m_int m_bool) FME bME gME (ok_meets FME FBN bBN gBN m_list) m_len m_tuple m_isinstance)
    m_len m_tuple m_range m_max
end WB
open PySem PySem.W PyProof.Rows
set_option maxHeartbeats 0 in
theorem PySem.Challenge.cw_whomaywhat_k51_whole_ring_or_numbers_holds : PySem.Challenge.rw_whomaywhat_k51_whole_ring_or_numbers.Holds := by
  w_on; o_law; k_head; (case hw => w_witness2)
  k_fill
  refine L2.walk_of (l := PySem.Challenge.rw_whomaywhat_k51_whole_ring_or_numbers) (n := 63) (k := 6) (x := "_law_script") (CX := fun _ => L2.CX0) (sp := fun w => WB.spLaw _) rfl (by decide) rfl ⟨rfl, by decide, by decide⟩ (fun w h Y => PySem.W.kIn_of Y) ?F (fun _ _ a ns hl _ hS => ⟨a, ns, rfl, hS, hl, fun _ => rfl⟩) (fun _ _ _ _ _ h => h)
  case F =>
    intro w mg fa h KX G hmg
    refine' WB.all_mk KX G hmg ?aBO ?lBO ?cBO ?kBO ?aSI ?lSI ?cSI ?kSI ?aPA ?lPA ?cPA ?kPA ?aSH ?lSH ?cSH ?kSH ?aFI ?lFI ?cFI ?kFI ?aN1 ?lN1 ?cN1 ?kN1 ?aNE ?lNE ?cNE ?kNE ?aDR ?lDR ?cDR ?kDR ?aTA ?lTA ?cTA ?kTA ?aWO ?lWO ?cWO ?kWO ?aPO ?lPO ?cPO ?kPO ?aFE ?lFE ?cFE ?kFE ?aBN ?lBN ?cBN ?kBN ?aLI ?lLI ?cLI ?kLI ?aIR ?lIR ?cIR ?kIR ?aSZ ?lSZ ?cSZ ?kSZ ?aME ?lME ?cME ?kME ?aRO ?lRO ?cRO ?kRO ?aTW ?lTW ?cTW ?kTW ?aTR ?lTR ?cTR ?kTR ?aRD ?lRD ?cRD ?kRD ?aAN ?lAN ?cAN ?kAN ?aRI ?lRI ?cRI ?kRI ?aLA ?lLA ?cLA ?kLA ?z_len ?z_int ?z_list ?z_range ?z_abs ?z_sum ?z_enumerate ?z_sorted ?z_set ?z_tuple ?z_isinstance ?z_bool ?z_max
    (case aBO => k_is); (case lBO => k_is); (case cBO => k_is); (case kBO => k_is); (case aSI => k_is); (case lSI => k_is); (case cSI => k_is); (case kSI => k_is); (case aPA => k_is); (case lPA => k_is); (case cPA => k_is); (case kPA => k_is); (case aSH => k_is); (case lSH => k_is); (case cSH => k_is); (case kSH => k_is); (case aFI => k_is); (case lFI => k_is); (case cFI => k_is); (case kFI => k_is); (case aN1 => k_is); (case lN1 => k_is); (case cN1 => k_is); (case kN1 => k_is); (case aNE => k_is); (case lNE => k_is); (case cNE => k_is); (case kNE => k_is); (case aDR => k_is); (case lDR => k_is); (case cDR => k_is); (case kDR => k_is); (case aTA => k_is); (case lTA => k_is); (case cTA => k_is); (case kTA => k_is); (case aWO => k_is); (case lWO => k_is); (case cWO => k_is); (case kWO => k_is); (case aPO => k_is); (case lPO => k_is); (case cPO => k_is); (case kPO => k_is); (case aFE => k_is); (case lFE => k_is); (case cFE => k_is); (case kFE => k_is); (case aBN => k_is); (case lBN => k_is); (case cBN => k_is); (case kBN => k_is); (case aLI => k_is); (case lLI => k_is); (case cLI => k_is); (case kLI => k_is); (case aIR => k_is); (case lIR => k_is); (case cIR => k_is); (case kIR => k_is); (case aSZ => k_is); (case lSZ => k_is); (case cSZ => k_is); (case kSZ => k_is); (case aME => k_is); (case lME => k_is); (case cME => k_is); (case kME => k_is); (case aRO => k_is); (case lRO => k_is); (case cRO => k_is); (case kRO => k_is); (case aTW => k_is); (case lTW => k_is); (case cTW => k_is); (case kTW => k_is); (case aTR => k_is); (case lTR => k_is); (case cTR => k_is); (case kTR => k_is); (case aRD => k_is); (case lRD => k_is); (case cRD => k_is); (case kRD => k_is); (case aAN => k_is); (case lAN => k_is); (case cAN => k_is); (case kAN => k_is); (case aRI => k_is); (case lRI => k_is); (case cRI => k_is); (case kRI => k_is); (case aLA => k_is); (case lLA => k_is); (case cLA => k_is); (case kLA => k_is); (case z_len => k_is); (case z_int => k_is); (case z_list => k_is); (case z_range => k_is); (case z_abs => k_is); (case z_sum => k_is); (case z_enumerate => k_is); (case z_sorted => k_is); (case z_set => k_is); (case z_tuple => k_is); (case z_isinstance => k_is); (case z_bool => k_is); (case z_max => k_is)
