import PyProof.Rows.All
import Wide.All
import OpenK.AllK
import Wide.FinOn
import HandS.TupSets
import KE.KeyNested
import KE.SortData
import HandS.ForMost
import HandS.IsInst
import HandS.Deep
import HandS.TryOnly
import HandS.ExcOwn
import HandS.ForExc
import HandS.Conv
import HandS.Flt
import HandS.Evl
import PySem.Challenge.RW_fixworlds_k20_whole_portraits
set_option Elab.async false
set_option linter.all false
set_option maxRecDepth 100000
set_option maxHeartbeats 4000000
/-! The plain law behind portraits: no program in sight. -/
namespace Pm

/-- a world: the facts of each state, the steps (from, label, to) -/
structure Wd where
  st : List (List Nat)
  sp : List (Nat × Nat × Nat)

def Wd.n (W : Wd) : Nat := W.st.length
def Wd.has (W : Wd) (p s : Nat) : Bool := (W.st.getD s []).contains p
def Wd.beh (W : Wd) (s a : Nat) : List Nat := (W.sp.filter fun x => x.1 == s && x.2.1 == a).map fun x => x.2.2

/-- statements, as portraits bear them -/
inductive Fm where
  | tt | ff
  | has (p : Nat) | lacks (p : Nat) | var (x : Nat)
  | and (f g : Fm) | or (f g : Fm)
  | some (a : Nat) (f : Fm) | all (a : Nat) (f : Fm)
  | most (x : Nat) (f : Fm)

def put (e : Nat → List Nat) (x : Nat) (v : List Nat) : Nat → List Nat := fun y => if y = x then v else e y

def iter (F : List Nat → List Nat) (S : List Nat) : Nat → List Nat
  | 0 => S
  | k + 1 => F (iter F S k)

/-- the value of a statement in a world: the states at which it is true -/
def val (W : Wd) : Fm → (Nat → List Nat) → List Nat
  | .tt, _ => List.range W.n
  | .ff, _ => []
  | .has p, _ => (List.range W.n).filter fun s => W.has p s
  | .lacks p, _ => (List.range W.n).filter fun s => !W.has p s
  | .var x, e => e x
  | .and f g, e => (List.range W.n).filter fun s => (val W g e).contains s && (val W f e).contains s
  | .or f g, e => (List.range W.n).filter fun s => (val W g e).contains s || (val W f e).contains s
  | .some a f, e => (List.range W.n).filter fun s => (W.beh s a).any fun k => (val W f e).contains k
  | .all a f, e => (List.range W.n).filter fun s => (W.beh s a).all fun k => (val W f e).contains k
  | .most x f, e => iter (fun now => val W f (put e x now)) (List.range W.n) (W.n + 1)

def conj : List Fm → Fm
  | [] => .tt
  | f :: r => r.foldl .and f
def disj : List Fm → Fm
  | [] => .ff
  | f :: r => r.foldl .or f

section
/-! the portrait: has p s, fol s a (the followers), L labels, F facts -/
variable (hs : Nat → Nat → Bool) (fol : Nat → Nat → List Nat) (L F : Nat)
def shown (s : Nat) : List Fm := (List.range F).map fun p => if hs p s then .has p else .lacks p
def drawn : Nat → Nat → List Nat → Fm
  | 0, _, _ => .ff
  | k + 1, s, ar =>
    if ar.contains s then .var s else
      .most s (conj (shown hs F s ++ (List.range L).flatMap fun a =>
        ((fol s a).map fun o => Fm.some a (drawn k o (ar ++ [s]))) ++ [.all a (disj ((fol s a).map fun o => drawn k o (ar ++ [s])))]))
end

/-! ### members of values -/
section
variable {W : Wd} {e : Nat → List Nat}
theorem mem_tt {t : Nat} : t ∈ val W .tt e ↔ t < W.n := by simp [val]
theorem mem_has {p t : Nat} : t ∈ val W (.has p) e ↔ t < W.n ∧ W.has p t = true := by simp [val]
theorem mem_lacks {p t : Nat} : t ∈ val W (.lacks p) e ↔ t < W.n ∧ W.has p t = false := by simp [val]
theorem mem_and {f g : Fm} {t : Nat} : t ∈ val W (.and f g) e ↔ t < W.n ∧ t ∈ val W f e ∧ t ∈ val W g e := by
  simp [val, and_comm]
theorem mem_or {f g : Fm} {t : Nat} : t ∈ val W (.or f g) e ↔ t < W.n ∧ (t ∈ val W f e ∨ t ∈ val W g e) := by
  simp [val, or_comm]
theorem mem_some {a : Nat} {f : Fm} {t : Nat} : t ∈ val W (.some a f) e ↔ t < W.n ∧ ∃ u ∈ W.beh t a, u ∈ val W f e := by
  simp [val]
theorem mem_all {a : Nat} {f : Fm} {t : Nat} : t ∈ val W (.all a f) e ↔ t < W.n ∧ ∀ u ∈ W.beh t a, u ∈ val W f e := by
  simp [val]

theorem mem_foldl_and : ∀ (r : List Fm) (f : Fm) {t : Nat}, t < W.n → (t ∈ val W (r.foldl .and f) e ↔ t ∈ val W f e ∧ ∀ g ∈ r, t ∈ val W g e)
  | [], f, t, _ => by simp
  | g :: r, f, t, h => by
    show t ∈ val W (r.foldl .and (.and f g)) e ↔ _
    rw [mem_foldl_and r _ h, mem_and]
    simp [h, and_assoc]
theorem mem_conj {l : List Fm} {t : Nat} (h : t < W.n) : t ∈ val W (conj l) e ↔ ∀ g ∈ l, t ∈ val W g e := by
  cases l with
  | nil => simp [conj, mem_tt, h]
  | cons f r =>
    show t ∈ val W (r.foldl .and f) e ↔ _
    rw [mem_foldl_and r f h]
    simp
theorem mem_foldl_or : ∀ (r : List Fm) (f : Fm) {t : Nat}, t < W.n → (t ∈ val W (r.foldl .or f) e ↔ t ∈ val W f e ∨ ∃ g ∈ r, t ∈ val W g e)
  | [], f, t, _ => by simp
  | g :: r, f, t, h => by
    show t ∈ val W (r.foldl .or (.or f g)) e ↔ _
    rw [mem_foldl_or r _ h, mem_or]
    simp [h, or_assoc]
theorem mem_disj {l : List Fm} {t : Nat} (h : t < W.n) : t ∈ val W (disj l) e ↔ ∃ g ∈ l, t ∈ val W g e := by
  cases l with
  | nil => simp [disj, val]
  | cons f r =>
    show t ∈ val W (r.foldl .or f) e ↔ _
    rw [mem_foldl_or r f h]
    simp
end

/-! ### the greatest fixed point by rounds -/
section
variable {n : Nat} {F : List Nat → List Nat}
def Sub (S T : List Nat) : Prop := ∀ x ∈ S, x ∈ T
theorem iter_dec (hm : ∀ S T, Sub S T → Sub (F S) (F T)) (hr : ∀ S, Sub (F S) (List.range n)) : ∀ k, Sub (iter F (List.range n) (k + 1)) (iter F (List.range n) k)
  | 0 => hr _
  | k + 1 => hm _ _ (iter_dec hm hr k)
theorem iter_dec_le (hm : ∀ S T, Sub S T → Sub (F S) (F T)) (hr : ∀ S, Sub (F S) (List.range n)) (k : Nat) : ∀ j, Sub (iter F (List.range n) (k + j)) (iter F (List.range n) k)
  | 0 => fun _ h => h
  | j + 1 => fun x h => iter_dec_le hm hr k j x (iter_dec hm hr (k + j) x h)
def cnt (n : Nat) (S : List Nat) : Nat := ((List.range n).filter fun x => decide (x ∈ S)).length
theorem filter_len_lt {α : Type} {l : List α} {p q : α → Bool} (h : ∀ x ∈ l, p x = true → q x = true) {y : α} (hy : y ∈ l) (hq : q y = true) (hp : p y = false) : (l.filter p).length < (l.filter q).length := by
  induction l with
  | nil => cases hy
  | cons z l ih =>
    have hle : (l.filter p).length ≤ (l.filter q).length := by
      clear ih hy
      induction l with
      | nil => exact Nat.le_refl _
      | cons w l ih2 =>
        have i2 := ih2 fun x hx => h x (by
        rcases List.mem_cons.mp hx with e | hx
        · rw [e]; exact List.mem_cons_self
        · exact List.mem_cons_of_mem _ (List.mem_cons_of_mem _ hx))
        have hw := h w (List.mem_cons_of_mem _ List.mem_cons_self)
        cases e1 : p w with
        | true => rw [List.filter_cons_of_pos e1, List.filter_cons_of_pos (hw e1)]; simpa using i2
        | false =>
          rw [List.filter_cons_of_neg (by simp [e1])]
          cases e2 : q w with
          | true => rw [List.filter_cons_of_pos e2]; simp; omega
          | false => rw [List.filter_cons_of_neg (by simp [e2])]; exact i2
    rcases List.mem_cons.mp hy with e | hy
    · subst e
      rw [List.filter_cons_of_neg (by simp [hp]), List.filter_cons_of_pos hq]
      simp; omega
    · have i2 := ih (fun x hx => h x (List.mem_cons_of_mem _ hx)) hy
      have hz := h z List.mem_cons_self
      cases e1 : p z with
      | true => rw [List.filter_cons_of_pos e1, List.filter_cons_of_pos (hz e1)]; simpa using i2
      | false =>
        rw [List.filter_cons_of_neg (by simp [e1])]
        cases e2 : q z with
        | true => rw [List.filter_cons_of_pos e2]; simp; omega
        | false => rw [List.filter_cons_of_neg (by simp [e2])]; exact i2
theorem iter_stable (hm : ∀ S T, Sub S T → Sub (F S) (F T)) {j : Nat} (h : Sub (iter F (List.range n) j) (iter F (List.range n) (j + 1))) : ∀ i, Sub (iter F (List.range n) (j + i)) (iter F (List.range n) (j + i + 1))
  | 0 => h
  | i + 1 => hm _ _ (iter_stable hm h i)
theorem iter_count (hm : ∀ S T, Sub S T → Sub (F S) (F T)) (hr : ∀ S, Sub (F S) (List.range n)) : ∀ k, (∃ j, j < k ∧ Sub (iter F (List.range n) j) (iter F (List.range n) (j + 1))) ∨ cnt n (iter F (List.range n) k) + k ≤ n
  | 0 => .inr (by
    have h := List.length_filter_le (fun x => decide (x ∈ iter F (List.range n) 0)) (List.range n)
    rw [List.length_range] at h
    show cnt n _ + 0 ≤ n
    unfold cnt
    omega)
  | k + 1 => by
    rcases iter_count hm hr k with ⟨j, hj, h⟩ | h
    · exact .inl ⟨j, Nat.lt_succ_of_lt hj, h⟩
    · by_cases hs : Sub (iter F (List.range n) k) (iter F (List.range n) (k + 1))
      · exact .inl ⟨k, Nat.lt_succ_self k, hs⟩
      · refine .inr ?_
        have : ∃ x, x ∈ iter F (List.range n) k ∧ x ∉ iter F (List.range n) (k + 1) := by
          refine Classical.byContradiction fun hn => hs fun x hx => Classical.byContradiction fun hx2 => hn ⟨x, hx, hx2⟩
        obtain ⟨x, hx, hx2⟩ := this
        have hxr : x ∈ List.range n := by
          have := iter_dec_le hm hr 0 k x (by rw [Nat.zero_add]; exact hx)
          exact this
        have hlt : cnt n (iter F (List.range n) (k + 1)) < cnt n (iter F (List.range n) k) := by
          unfold cnt
          refine filter_len_lt (fun y _ hy => ?_) hxr (decide_eq_true hx) (decide_eq_false hx2)
          exact decide_eq_true (iter_dec hm hr k y (of_decide_eq_true hy))
        omega
/-- behind n + 1 rounds: the greatest fixed point -/
theorem iter_fix (hm : ∀ S T, Sub S T → Sub (F S) (F T)) (hr : ∀ S, Sub (F S) (List.range n)) : Sub (iter F (List.range n) (n + 1)) (F (iter F (List.range n) (n + 1))) := by
  rcases iter_count hm hr (n + 1) with ⟨j, hj, h⟩ | h
  · exact fun x hx => by
      have e : n + 1 = j + (n + 1 - j) := by omega
      have q := iter_stable hm h (n + 1 - j)
      rw [← e] at q
      exact q x hx
  · omega
theorem iter_max (hm : ∀ S T, Sub S T → Sub (F S) (F T)) {S : List Nat} (h1 : Sub S (List.range n)) (h2 : Sub S (F S)) : ∀ k, Sub S (iter F (List.range n) k)
  | 0 => h1
  | k + 1 => fun x hx => hm _ _ (iter_max hm h1 h2 k) x (h2 x hx)
end

/-! ### values grow with the environment, and lie in the world -/
theorem val_mono {W : Wd} : ∀ (f : Fm) {e e' : Nat → List Nat}, (∀ x, Sub (e x) (e' x)) → Sub (val W f e) (val W f e')
  | .tt, _, _, _ => fun _ h => h
  | .ff, _, _, _ => fun _ h => h
  | .has _, _, _, _ => fun _ h => h
  | .lacks _, _, _, _ => fun _ h => h
  | .var x, _, _, h => h x
  | .and f g, _, _, h => fun t ht => by
    rw [mem_and] at ht ⊢
    exact ⟨ht.1, val_mono f h t ht.2.1, val_mono g h t ht.2.2⟩
  | .or f g, _, _, h => fun t ht => by
    rw [mem_or] at ht ⊢
    exact ⟨ht.1, ht.2.imp (val_mono f h t) (val_mono g h t)⟩
  | .some a f, _, _, h => fun t ht => by
    rw [mem_some] at ht ⊢
    obtain ⟨h1, u, hu, hv⟩ := ht
    exact ⟨h1, u, hu, val_mono f h u hv⟩
  | .all a f, _, _, h => fun t ht => by
    rw [mem_all] at ht ⊢
    exact ⟨ht.1, fun u hu => val_mono f h u (ht.2 u hu)⟩
  | .most x f, e, e', h => by
    show Sub (iter _ _ (W.n + 1)) (iter _ _ (W.n + 1))
    generalize W.n + 1 = k
    induction k with
    | zero => exact fun _ h => h
    | succ k ih =>
      refine val_mono f fun y => ?_
      unfold put
      split
      · exact ih
      · exact h y

/-- what a value lies in: the world, where the environment does -/
theorem val_range {W : Wd} : ∀ (f : Fm) {e : Nat → List Nat}, (∀ x, Sub (e x) (List.range W.n)) → Sub (val W f e) (List.range W.n)
  | .tt, _, _ => fun _ h => h
  | .ff, _, _ => fun _ h => by cases h
  | .has _, _, _ => fun _ h => (List.mem_filter.mp h).1
  | .lacks _, _, _ => fun _ h => (List.mem_filter.mp h).1
  | .var x, _, h => h x
  | .and f g, _, _ => fun _ h => (List.mem_filter.mp h).1
  | .or f g, _, _ => fun _ h => (List.mem_filter.mp h).1
  | .some a f, _, _ => fun _ h => (List.mem_filter.mp h).1
  | .all a f, _, _ => fun _ h => (List.mem_filter.mp h).1
  | .most x f, e, h => by
    show Sub (iter _ _ (W.n + 1)) _
    generalize W.n + 1 = k
    induction k with
    | zero => exact fun _ h => h
    | succ k ih =>
      refine val_range f fun y => ?_
      unfold put
      split
      · exact ih
      · exact h y

/-! ### bisimulations, guarded at the states around -/
/-- one step's look: state s of the one, t of the other world; R for the ends -/
def Ok (hs : Nat → Nat → Bool) (fol : Nat → Nat → List Nat) (L F : Nat) (V : Wd) (R : Nat → Nat → Prop) (s t : Nat) : Prop :=
  t < V.n ∧ (∀ p, p < F → hs p s = V.has p t) ∧ ∀ a, a < L → (∀ o ∈ fol s a, ∃ u ∈ V.beh t a, R o u) ∧ ∀ u ∈ V.beh t a, ∃ o ∈ fol s a, R o u
theorem Ok.mono {hs : Nat → Nat → Bool} {fol : Nat → Nat → List Nat} {L F : Nat} {V : Wd} {R R' : Nat → Nat → Prop} {s t : Nat} (h : Ok hs fol L F V R s t) (hR : ∀ o u, R o u → R' o u) : Ok hs fol L F V R' s t :=
  ⟨h.1, h.2.1, fun a ha => ⟨fun o ho => let ⟨u, hu, r⟩ := (h.2.2 a ha).1 o ho; ⟨u, hu, hR _ _ r⟩, fun u hu => let ⟨o, ho, r⟩ := (h.2.2 a ha).2 u hu; ⟨o, ho, hR _ _ r⟩⟩⟩
/-- like, as far as the states around, at which ρ is asked -/
def Gd (hs : Nat → Nat → Bool) (fol : Nat → Nat → List Nat) (L F : Nat) (V : Wd) (ar : List Nat) (ρ : Nat → Nat → Prop) (s t : Nat) : Prop :=
  ∃ R : Nat → Nat → Prop, R s t ∧ ∀ x y, R x y → (x ∈ ar → ρ x y) ∧ (x ∉ ar → Ok hs fol L F V R x y)

section
variable {hs : Nat → Nat → Bool} {fol : Nat → Nat → List Nat} {L F : Nat} {V : Wd}
theorem Gd.here {ar : List Nat} {ρ : Nat → Nat → Prop} {s t : Nat} (hsr : s ∈ ar) : Gd hs fol L F V ar ρ s t ↔ ρ s t := by
  constructor
  · rintro ⟨R, h1, h2⟩
    exact (h2 _ _ h1).1 hsr
  · intro h
    exact ⟨fun x y => x ∈ ar ∧ ρ x y, ⟨hsr, h⟩, fun x y r => ⟨fun _ => r.2, fun n => absurd r.1 n⟩⟩

/-- how many states are not around -/
def left (n : Nat) (ar : List Nat) : Nat := ((List.range n).filter fun x => !ar.contains x).length
theorem left_add {n s : Nat} {ar : List Nat} (h : s < n) (hn : s ∉ ar) : left n (ar ++ [s]) < left n ar := by
  unfold left
  refine filter_len_lt (fun x _ hx => ?_) (List.mem_range.mpr h) (by simp [hn]) (by simp)
  simp at hx ⊢
  exact hx.1

theorem mem_shown {e : Nat → List Nat} {s t : Nat} (ht : t < V.n) : (∀ g ∈ shown hs F s, t ∈ val V g e) ↔ ∀ p, p < F → hs p s = V.has p t := by
  unfold shown
  constructor
  · intro h p hp
    have q := h _ (List.mem_map.mpr ⟨p, List.mem_range.mpr hp, rfl⟩)
    cases e1 : hs p s with
    | true =>
      rw [if_pos e1, mem_has] at q
      exact q.2.symm
    | false =>
      rw [if_neg (by simp [e1]), mem_lacks] at q
      exact q.2.symm
  · intro h g hg
    obtain ⟨p, hp, rfl⟩ := List.mem_map.mp hg
    have q := h p (List.mem_range.mp hp)
    cases e1 : hs p s with
    | true =>
      rw [if_pos rfl, mem_has]
      exact ⟨ht, q ▸ e1⟩
    | false =>
      rw [if_neg (by decide), mem_lacks]
      exact ⟨ht, q ▸ e1⟩

theorem portrait_gd {n : Nat} (hb : ∀ u a v, v ∈ V.beh u a → v < V.n) (hf : ∀ s a o, o ∈ fol s a → o < n) : ∀ (k s : Nat) (ar : List Nat) (e : Nat → List Nat), s < n → left n ar < k → (∀ x, Sub (e x) (List.range V.n)) →
    ∀ t, t ∈ val V (drawn hs fol L F k s ar) e ↔ Gd hs fol L F V ar (fun x y => y ∈ e x) s t
  | 0, _, _, _, _, hk, _ => absurd hk (Nat.not_lt_zero _)
  | k + 1, s, ar, e, hsn, hk, hE => fun t => by
    by_cases hsa : s ∈ ar
    · have e1 : drawn hs fol L F (k + 1) s ar = .var s := by
        unfold drawn
        rw [if_pos (by simpa using hsa)]
      rw [e1, Gd.here hsa]
      exact Iff.rfl
    · -- the binder
      have hl : left n (ar ++ [s]) < k := Nat.lt_of_lt_of_le (left_add hsn hsa) (Nat.le_of_lt_succ hk)
      generalize hbody : conj (shown hs F s ++ (List.range L).flatMap fun a =>
        ((fol s a).map fun o => Fm.some a (drawn hs fol L F k o (ar ++ [s]))) ++ [.all a (disj ((fol s a).map fun o => drawn hs fol L F k o (ar ++ [s])))]) = body
      have e1 : drawn hs fol L F (k + 1) s ar = .most s body := by
        rw [← hbody]
        show (if ar.contains s then _ else _) = _
        rw [if_neg (by simpa using hsa)]
      rw [e1]
      have hput : ∀ S, Sub S (List.range V.n) → ∀ x, Sub (put e s S x) (List.range V.n) := fun S hS x => by
        unfold put
        split
        · exact hS
        · exact hE x
      -- one round
      have round : ∀ S, Sub S (List.range V.n) → ∀ t, t ∈ val V body (put e s S) ↔ Ok hs fol L F V (Gd hs fol L F V (ar ++ [s]) fun x y => y ∈ put e s S x) s t := by
        intro S hS t
        have ih := fun o (ho : o < n) => portrait_gd hb hf k o (ar ++ [s]) (put e s S) ho hl (hput S hS)
        have hlt : t ∈ val V body (put e s S) → t < V.n := fun h => List.mem_range.mp (val_range body (hput S hS) t h)
        by_cases ht : t < V.n
        · rw [← hbody, mem_conj ht]
          constructor
          · intro h
            refine ⟨ht, (mem_shown ht).mp fun g hg => h g (List.mem_append_left _ hg), fun a ha => ⟨fun o ho => ?_, fun u hu => ?_⟩⟩
            · have q := h (.some a (drawn hs fol L F k o (ar ++ [s]))) (List.mem_append_right _ (List.mem_flatMap.mpr ⟨a, List.mem_range.mpr ha, List.mem_append_left _ (List.mem_map.mpr ⟨o, ho, rfl⟩)⟩))
              rw [mem_some] at q
              obtain ⟨_, u, hu, hv⟩ := q
              exact ⟨u, hu, (ih o (hf _ _ _ ho) u).mp hv⟩
            · have q := h (.all a (disj ((fol s a).map fun o => drawn hs fol L F k o (ar ++ [s])))) (List.mem_append_right _ (List.mem_flatMap.mpr ⟨a, List.mem_range.mpr ha, List.mem_append_right _ (List.mem_singleton.mpr rfl)⟩))
              rw [mem_all] at q
              have q2 := q.2 u hu
              rw [mem_disj (hb _ _ _ hu)] at q2
              obtain ⟨g, hg, hv⟩ := q2
              obtain ⟨o, ho, rfl⟩ := List.mem_map.mp hg
              exact ⟨o, ho, (ih o (hf _ _ _ ho) u).mp hv⟩
          · rintro ⟨_, h2, h3⟩ g hg
            rcases List.mem_append.mp hg with hg | hg
            · exact (mem_shown ht).mpr h2 g hg
            · obtain ⟨a, ha, hg⟩ := List.mem_flatMap.mp hg
              have q := h3 a (List.mem_range.mp ha)
              rcases List.mem_append.mp hg with hg | hg
              · obtain ⟨o, ho, rfl⟩ := List.mem_map.mp hg
                rw [mem_some]
                obtain ⟨u, hu, r⟩ := q.1 o ho
                exact ⟨ht, u, hu, (ih o (hf _ _ _ ho) u).mpr r⟩
              · rw [List.mem_singleton.mp hg, mem_all]
                refine ⟨ht, fun u hu => ?_⟩
                rw [mem_disj (hb _ _ _ hu)]
                obtain ⟨o, ho, r⟩ := q.2 u hu
                exact ⟨_, List.mem_map.mpr ⟨o, ho, rfl⟩, (ih o (hf _ _ _ ho) u).mpr r⟩
        · exact ⟨fun h => absurd (hlt h) ht, fun h => absurd h.1 ht⟩
      -- the rounds' function, cut to the world
      have hm : ∀ S T, Sub S T → Sub (val V body (put e s S)) (val V body (put e s T)) := fun S T h => val_mono body fun x => by
        unfold put
        split
        · exact h
        · exact fun _ z => z
      let G : List Nat → List Nat := fun S : List Nat => val V body (put e s (S.filter fun x => decide (x < V.n)))
      have cut : ∀ S : List Nat, Sub (S.filter fun x => decide (x < V.n)) (List.range V.n) := fun S x hx => List.mem_range.mpr (of_decide_eq_true (List.mem_filter.mp hx).2)
      have gm : ∀ S T, Sub S T → Sub (G S) (G T) := fun S T h => hm _ _ fun x hx => List.mem_filter.mpr ⟨h x (List.mem_filter.mp hx).1, (List.mem_filter.mp hx).2⟩
      have gr : ∀ S, Sub (G S) (List.range V.n) := fun S => val_range body (hput _ (cut S))
      have same : ∀ k, iter (fun now => val V body (put e s now)) (List.range V.n) k = iter G (List.range V.n) k := by
        have inn : ∀ k, Sub (iter G (List.range V.n) k) (List.range V.n) := fun k => by
          cases k with
          | zero => exact fun _ h => h
          | succ k => exact gr _
        intro k
        induction k with
        | zero => rfl
        | succ k ih =>
          show val V body (put e s (iter _ _ k)) = val V body (put e s ((iter G _ k).filter _))
          rw [ih, List.filter_eq_self.mpr fun x hx => decide_eq_true (List.mem_range.mp (inn k x hx))]
      have ev : val V (.most s body) e = iter G (List.range V.n) (V.n + 1) := same (V.n + 1)
      rw [ev]
      have fixp := iter_fix gm gr
      have sub := fun (S : List Nat) (h1 : Sub S (List.range V.n)) (h2 : Sub S (G S)) => iter_max gm h1 h2 (V.n + 1)
      have inn : Sub (iter G (List.range V.n) (V.n + 1)) (List.range V.n) := gr _
      generalize iter G (List.range V.n) (V.n + 1) = I at fixp sub inn ⊢
      have eI : (I.filter fun x => decide (x < V.n)) = I := List.filter_eq_self.mpr fun x hx => decide_eq_true (List.mem_range.mp (inn x hx))
      constructor
      · intro ht
        refine ⟨fun x y => (x = s ∧ y ∈ I) ∨ Gd hs fol L F V (ar ++ [s]) (fun x y => y ∈ put e s I x) x y, .inl ⟨rfl, ht⟩, fun x y r => ?_⟩
        have okI : ∀ y ∈ I, Ok hs fol L F V (fun x y => (x = s ∧ y ∈ I) ∨ Gd hs fol L F V (ar ++ [s]) (fun x y => y ∈ put e s I x) x y) s y := fun y hy => by
          have q : y ∈ val V body (put e s (I.filter fun x => decide (x < V.n))) := fixp y hy
          rw [eI] at q
          exact ((round I inn y).mp q).mono fun _ _ z => .inr z
        rcases r with ⟨rfl, hy⟩ | r
        · exact ⟨fun h => absurd h hsa, fun _ => okI y hy⟩
        · by_cases hxs : x = s
          · subst hxs
            have hy := (Gd.here (by simp)).mp r
            unfold put at hy
            rw [if_pos rfl] at hy
            exact ⟨fun h => absurd h hsa, fun _ => okI y hy⟩
          · refine ⟨fun hx => ?_, fun hx => ?_⟩
            · have hy := (Gd.here (List.mem_append_left _ hx)).mp r
              unfold put at hy
              rw [if_neg hxs] at hy
              exact hy
            · obtain ⟨R, r1, r2⟩ := r
              refine ((r2 x y r1).2 (by simp [hx, hxs])).mono fun o u hr => .inr ⟨R, hr, r2⟩
      · rintro ⟨R, r1, r2⟩
        have hS : ∃ S : List Nat, ∀ y, y ∈ S ↔ y < V.n ∧ R s y := by
          refine ⟨(List.range V.n).filter fun y => @decide (R s y) (Classical.propDecidable _), fun y => ?_⟩
          rw [List.mem_filter, List.mem_range]
          exact and_congr Iff.rfl ⟨fun h => @of_decide_eq_true _ (Classical.propDecidable _) h, fun h => @decide_eq_true _ (Classical.propDecidable _) h⟩
        obtain ⟨S, hS⟩ := hS
        have hSr : Sub S (List.range V.n) := fun y hy => List.mem_range.mpr ((hS y).mp hy).1
        have eS : (S.filter fun x => decide (x < V.n)) = S := List.filter_eq_self.mpr fun x hx => decide_eq_true (List.mem_range.mp (hSr x hx))
        have lift : ∀ x y, R x y → Gd hs fol L F V (ar ++ [s]) (fun x y => y ∈ put e s S x) x y := fun x y hr => by
          refine ⟨R, hr, fun x y hr => ⟨fun hx => ?_, fun hx => (r2 x y hr).2 fun h => hx (List.mem_append_left _ h)⟩⟩
          by_cases hxs : x = s
          · subst hxs
            show y ∈ put e x S x
            unfold put
            rw [if_pos rfl]
            exact (hS y).mpr ⟨((r2 x y hr).2 hsa).1, hr⟩
          · show y ∈ put e s S x
            unfold put
            rw [if_neg hxs]
            refine (r2 x y hr).1 ?_
            rcases List.mem_append.mp hx with h | h
            · exact h
            · exact absurd (List.mem_singleton.mp h) hxs
        refine sub S hSr (fun y hy => ?_) t ((hS t).mpr ⟨((r2 s t r1).2 hsa).1, r1⟩)
        show y ∈ val V body (put e s (S.filter fun x => decide (x < V.n)))
        rw [eS, round S hSr]
        exact ((r2 s y ((hS y).mp hy).2).2 hsa).mono lift
end
end Pm
/-! Sets of nested tuples of whole numbers, filled from a list, and sorted. -/
namespace K20
open PySem PySem.Spec PyProof.Rows L2

mutual
/-- whole numbers, and tuples of such -/
def pureK : NestedKey → Bool
  | .num _ => true
  | .tup ks => pureKs ks
  | .none => false
  | .text _ => false
def pureKs : List NestedKey → Bool
  | [] => true
  | k :: ks => pureK k && pureKs ks
end
theorem dep_cons {k : NestedKey} {ks : List NestedKey} {n : Nat} (h : NestedKey.depthAll (k :: ks) ≤ n) : k.depth ≤ n ∧ NestedKey.depthAll ks ≤ n := by
  simp only [NestedKey.depthAll] at h
  omega

section
variable {P : Program} {w : World} {E : Value → Shared → Prop}
/-- a walk over values, each of which answers b0, up to the end -/
theorem walk_same {M : Model} {A : Around} {s : Shared} {items : List Value} {ok : Value → Prop} {G : Value → Option Bool × Unit → Sem (ForInStep (Option Bool × Unit))} {Q : Option Bool × Unit → Shared → Prop}
    (hok : ∀ v ∈ items, ok v) (turn : ∀ v, ok v → ∀ (r : Option Bool × Unit) (Q' : ForInStep (Option Bool × Unit) → Shared → Prop), r.1 = none → (∀ r' : Option Bool × Unit, r'.1 = none → Q' (.yield r') s) → wpAny M A (G v r) Q' E s)
    (h : ∀ r : Option Bool × Unit, r.1 = none → Q r s) : wpAny M A (forIn items ((none, ()) : Option Bool × Unit) G) Q E s := by
  refine wpAny_forIn_list _ (fun left r s' => r.1 = none ∧ s' = s ∧ ∀ v ∈ left, ok v) _ ?_ ?_ _ _ ⟨rfl, rfl, hok⟩
  · rintro v left r s' ⟨hr, rfl, hall⟩
    exact turn v (hall v List.mem_cons_self) r _ hr fun r' hr' => ⟨hr', rfl, fun u hu => hall u (List.mem_cons_of_mem _ hu)⟩
  · rintro r s' ⟨hr, rfl, _⟩
    exact h r hr

mutual
/-- no class statement stands under it -/
theorem cls_key : ∀ (k : NestedKey) (v : Value) (n : Nat) (A : Around) (s : Shared) (Q : Bool → Shared → Prop), NestedIs s.heap k v → k.depth ≤ n → Q false s → wpAny (model P w) A (ofAClassStatement n v) Q E s
  | .none, _, n, A, s, Q, x, _, h => by cases x; cases n <;> exact wpAny_pure h
  | .num i, _, n, A, s, Q, x, _, h => by cases x <;> cases n <;> exact wpAny_pure h
  | .text y, _, n, A, s, Q, x, _, h => by cases x; cases n <;> exact wpAny_pure h
  | .tup ks, _, 0, A, s, Q, x, hn, h => by simp [NestedKey.depth] at hn
  | .tup ks, _, n + 1, A, s, Q, x, hn, h => by
    cases x with
    | @tup a o vs m _ hg hc hd hk =>
      have hT : s.TypeIs (.ref a) "tuple" := ⟨o, hg, hc⟩
      unfold ofAClassStatement
      refine wpAny_bind (wpAny_typeOf hT ?_)
      dsimp only
      simp only [show (("tuple" : String) == "tuple") = true from by decide, if_true, Bool.not_true, Bool.false_eq_true, if_false]
      try refine wpAny_bind (wpAny_pure ?_)
      try simp only [Bool.not_true, Bool.false_eq_true, if_false]
      show wpAny _ _ (seqItems? (.ref a) >>= _) _ _ s
      refine wpAny_bind (wpAny_seqItems hg hd ?_)
      dsimp only
      refine wpAny_bind ?_
      show wpAny _ _ (forIn vs _ _) _ _ s
      rw [← Array.forIn_toList]
      have hn' : NestedKey.depthAll ks ≤ n := by simp only [NestedKey.depth] at hn; omega
      refine walk_same (ok := fun v => ∀ Q' : Bool → Shared → Prop, Q' false s → wpAny (model P w) A (ofAClassStatement n v) Q' E s) (cls_keys ks vs.toList n A s hk hn') (fun v hv r Q' hr hq => ?_) fun r hr => ?_
      · refine wpAny_bind (hv _ ?_)
        simp only [Bool.false_eq_true, if_false]
        exact wpAny_pure (hq _ rfl)
      · obtain ⟨r1, r2⟩ := r
        simp only at hr
        subst hr
        exact wpAny_pure h
theorem cls_keys : ∀ (ks : List NestedKey) (vs : List Value) (n : Nat) (A : Around) (s : Shared), NestedAll s.heap ks vs → NestedKey.depthAll ks ≤ n →
    ∀ v ∈ vs, ∀ Q' : Bool → Shared → Prop, Q' false s → wpAny (model P w) A (ofAClassStatement n v) Q' E s
  | [], _, _, _, _, x, _ => by cases x; intro v hv; cases hv
  | k :: ks, _, n, A, s, x, hn => by
    cases x with
    | cons h1 h2 =>
      intro v hv Q' hq
      rcases List.mem_cons.mp hv with e | hv
      · rw [e]; exact cls_key k _ n A s Q' h1 (dep_cons hn).1 hq
      · exact cls_keys ks _ n A s h2 (dep_cons hn).2 v hv Q' hq
end

mutual
/-- its hash comes from its value alone -/
theorem byv_key : ∀ (k : NestedKey) (v : Value) (n : Nat) (A : Around) (s : Shared) (Q : Bool → Shared → Prop), NestedIs s.heap k v → pureK k = true → k.depth ≤ n → Q true s → wpAny (model P w) A (hashByValue n v) Q E s
  | .none, _, n, A, s, Q, x, hp, _, h => by simp [pureK] at hp
  | .num i, _, n, A, s, Q, x, _, _, h => by cases x <;> cases n <;> exact wpAny_pure h
  | .text y, _, n, A, s, Q, x, hp, _, h => by simp [pureK] at hp
  | .tup ks, _, 0, A, s, Q, x, _, hn, h => by simp [NestedKey.depth] at hn
  | .tup ks, _, n + 1, A, s, Q, x, hp, hn, h => by
    cases x with
    | @tup a o vs m _ hg hc hd hk =>
      have hT : s.TypeIs (.ref a) "tuple" := ⟨o, hg, hc⟩
      unfold hashByValue
      refine wpAny_bind (wpAny_specialOf hT F.slot_tuple_hash.lookup ?_)
      show wpAny _ _ (seqItems? (.ref a) >>= _) _ _ s
      refine wpAny_bind (wpAny_seqItems hg hd ?_)
      refine wpAny_bind ?_
      show wpAny _ _ (forIn vs _ _) _ _ s
      rw [← Array.forIn_toList]
      have hn' : NestedKey.depthAll ks ≤ n := by simp only [NestedKey.depth] at hn; omega
      refine walk_same (ok := fun v => ∀ Q' : Bool → Shared → Prop, Q' true s → wpAny (model P w) A (hashByValue n v) Q' E s) (byv_keys ks vs.toList n A s hk (by simpa [pureK] using hp) hn') (fun v hv r Q' hr hq => ?_) fun r hr => ?_
      · refine wpAny_bind (hv _ ?_)
        simp only [Bool.not_true, Bool.false_eq_true, if_false]
        exact wpAny_pure (hq _ rfl)
      · obtain ⟨r1, r2⟩ := r
        simp only at hr
        subst hr
        exact wpAny_pure h
theorem byv_keys : ∀ (ks : List NestedKey) (vs : List Value) (n : Nat) (A : Around) (s : Shared), NestedAll s.heap ks vs → pureKs ks = true → NestedKey.depthAll ks ≤ n →
    ∀ v ∈ vs, ∀ Q' : Bool → Shared → Prop, Q' true s → wpAny (model P w) A (hashByValue n v) Q' E s
  | [], _, _, _, _, x, _, _ => by cases x; intro v hv; cases hv
  | k :: ks, _, n, A, s, x, hp, hn => by
    cases x with
    | cons h1 h2 =>
      simp only [pureKs, Bool.and_eq_true] at hp
      intro v hv Q' hq
      rcases List.mem_cons.mp hv with e | hv
      · rw [e]; exact byv_key k _ n A s Q' h1 hp.1 (dep_cons hn).1 hq
      · exact byv_keys ks _ n A s h2 hp.2 (dep_cons hn).2 v hv Q' hq
end
end

mutual
/-- the value v reads as k: whole numbers, and tuples of such -/
def ReadK (h : Heap) : NestedKey → Value → Prop
  | .num i, v => ∃ t, v = .int i t
  | .tup ks, v => ∃ a o vs n, v = .ref a ∧ h.get? a = some o ∧ o.cls = .type "tuple" ∧ o.data = .seq vs n ∧ ReadKs h ks vs.toList
  | .none, _ => False
  | .text _, _ => False
def ReadKs (h : Heap) : List NestedKey → List Value → Prop
  | [], vs => vs = []
  | k :: ks, vs => ∃ v r, vs = v :: r ∧ ReadK h k v ∧ ReadKs h ks r
end
mutual
theorem ReadK.nk {h : Heap} : ∀ {k : NestedKey} {v : Value}, ReadK h k v → NestedIs h k v ∧ pureK k = true ∧ Reads h v k.data []
  | .num i, v, x => by
    obtain ⟨t, rfl⟩ := x
    exact ⟨.int i t, rfl, .int i t⟩
  | .tup ks, v, x => by
    obtain ⟨a, o, vs, n, rfl, h1, h2, h3, h4⟩ := x
    obtain ⟨x1, x2, x3⟩ := ReadKs.nk h4
    exact ⟨.tup h1 h2 h3 x1, by rw [pureK]; exact x2, .tuple h1 h2 h3 x3⟩
theorem ReadKs.nk {h : Heap} : ∀ {ks : List NestedKey} {vs : List Value}, ReadKs h ks vs → NestedAll h ks vs ∧ pureKs ks = true ∧ ReadsAll h vs (NestedKey.datas ks) []
  | [], vs, x => by
    cases (show vs = [] from x)
    exact ⟨.nil, rfl, .nil⟩
  | k :: ks, vs, x => by
    obtain ⟨v, r, rfl, h1, h2⟩ := x
    obtain ⟨a1, a2, a3⟩ := ReadK.nk h1
    obtain ⟨b1, b2, b3⟩ := ReadKs.nk h2
    exact ⟨.cons a1 b1, by rw [pureKs, a2, b2] <;> rfl, .cons (as := []) (bs := []) a3 b3⟩
end
mutual
theorem ReadK.stay {h h' : Heap} (hk : ∀ a o vs n, h.get? a = some o → o.data = .seq vs n → h'.get? a = some o) : ∀ {k : NestedKey} {v : Value}, ReadK h k v → ReadK h' k v
  | .num i, v, x => x
  | .tup ks, v, x => by
    obtain ⟨a, o, vs, n, e, h1, h2, h3, h4⟩ := x
    exact ⟨a, o, vs, n, e, hk a o vs n h1 h3, h2, h3, ReadKs.stay hk h4⟩
theorem ReadKs.stay {h h' : Heap} (hk : ∀ a o vs n, h.get? a = some o → o.data = .seq vs n → h'.get? a = some o) : ∀ {ks : List NestedKey} {vs : List Value}, ReadKs h ks vs → ReadKs h' ks vs
  | [], _, x => x
  | k :: ks, vs, x => by
    obtain ⟨v, r, e, h1, h2⟩ := x
    exact ⟨v, r, e, ReadK.stay hk h1, ReadKs.stay hk h2⟩
end

/-- the tuple at b is the key k, of whole numbers alone -/
def IsN (h : Heap) (k : NestedKey) (b : Addr) : Prop := ReadK h k (.ref b) ∧ k.depth ≤ 8
theorem IsN.nk {h : Heap} {k : NestedKey} {b : Addr} (x : IsN h k b) : NestedIs h k (.ref b) := x.1.nk.1
theorem IsN.pure {h : Heap} {k : NestedKey} {b : Addr} (x : IsN h k b) : pureK k = true := x.1.nk.2.1
theorem IsN.reads {h : Heap} {k : NestedKey} {b : Addr} (x : IsN h k b) : Reads h (.ref b) k.data [] := x.1.nk.2.2
theorem IsN.keep {h h' : Heap} {k : NestedKey} {b : Addr} (x : IsN h k b) (hk : ∀ c o, h.get? c = some o → h'.get? c = some o) : IsN h' k b := ⟨x.1.stay (fun c o _ _ e _ => hk c o e), x.2⟩
theorem IsN.but {h h' : Heap} {k : NestedKey} {a b : Addr} {o : Obj} {es : Array (Int × Value)} {ep : Nat} {t : SetTable} (x : IsN h k b) (ho : h.get? a = some o) (hd : o.data = .set es ep t) (hs : Heap.SameBut a h h') : IsN h' k b :=
  ⟨x.1.stay (fun c u vs n e hq => by
    refine (hs.2 c fun z => ?_).trans e
    subst z
    rw [ho] at e
    cases e
    rw [hd] at hq
    cases hq), x.2⟩

section
variable {P : Program} {w : World} {A : Around} {E : Value → Shared → Prop} {s : Shared}
theorem hash_n {k : NestedKey} {b : Addr} {Q : Int → Shared → Prop} (hu : A.units + 8 < cLine) (x : IsN s.heap k b) (h : Q (k.hash w) { s with toks := s.toks + k.draws }) : wpAny (model P w) A (pyHash (.ref b)) Q E s :=
  (nestedKind P w).pyHash hu ⟨x.nk, x.2⟩ h
theorem eq_n {k j : NestedKey} {b c : Addr} {Q : Bool → Shared → Prop} (hu : A.units + 8 < cLine) (x : IsN s.heap k b) (y : IsN s.heap j c) (h : Q (decide (k = j)) s) : wpAny (model P w) A (eqBool (.ref b) (.ref c)) Q E s :=
  (nestedKind P w).eqBool hu ⟨x.nk, x.2⟩ ⟨y.nk, y.2⟩ h
theorem seen_n {k : NestedKey} {b : Addr} {Q : Bool → Shared → Prop} (x : IsN s.heap k b) {ys : List Value} (hy : ∀ y ∈ ys, ∃ j c, y = Value.ref c ∧ IsN s.heap j c) (h : Q false s) : wpAny (model P w) A (searchCouldBeSeen (.ref b) ys) Q E s := by
  unfold searchCouldBeSeen
  refine wpAny_bind (walk_same (ok := fun y => ∃ j c, y = Value.ref c ∧ IsN s.heap j c) hy (fun y hy r Q' hr hq => ?_) fun r hr => ?_)
  · obtain ⟨j, c, rfl, z⟩ := hy
    dsimp only
    by_cases hv : (b == c || (carriedByValue (.ref b) && carriedByValue (.ref c))) = true
    · refine wp_if_pos hv ?_
      exact wpAny_pure (hq _ rfl)
    · refine wp_if_neg hv ?_
      refine wpAny_bind ((nestedKind P w).quiet ⟨x.nk, x.2⟩ ?_)
      simp only [Bool.not_true, Bool.false_eq_true, if_false]
      refine wpAny_bind ((nestedKind P w).quiet ⟨z.nk, z.2⟩ ?_)
      simp only [Bool.not_true, Bool.false_eq_true, if_false]
      refine wpAny_bind (cls_key _ _ 8 A s _ x.nk x.2 ?_)
      simp only [Bool.false_eq_true, if_false]
      refine wpAny_bind (cls_key _ _ 8 A s _ z.nk z.2 ?_)
      simp only [Bool.false_eq_true, if_false]
      exact wpAny_pure (hq _ rfl)
  · obtain ⟨r1, r2⟩ := r
    simp only at hr
    subst hr
    exact wpAny_pure h
end
end K20
namespace K20
open PySem PySem.Spec PyProof.Rows L2

/-- address and key of each member, as the table's rows -/
abbrev Mb := List (Addr × NestedKey)
def tblRows (w : World) (L : Mb) : List (Int × Value) := L.map fun q => (q.2.hash w, Value.ref q.1)
abbrev hsOf (w : World) (L : Mb) : List Int := L.map fun q => q.2.hash w
abbrev ksOf (L : Mb) : List NestedKey := L.map (·.2)
theorem tblRows_len (w : World) (L : Mb) : (tblRows w L).length = L.length := List.length_map _

/-- at a stands a set of nested keys: its members L, in the table's order -/
structure SetN (w : World) (h : Heap) (a : Addr) (L : Mb) (es : Array (Int × Value)) (ep : Nat) (t : SetTable) : Prop where
  at_ : ∃ o, h.get? a = some o ∧ o.ExactSet ∧ o.data = .set es ep t
  rows : es.toList = tblRows w L
  tab : TabOk t (hsOf w L)
  nodup : (ksOf L).Nodup
  plain : t.plain = true
  led : w.params.followText "set-order" = true ∨ t.led = true
  room : L.length * 5 < t.mask * 3
  few : L.length < 64
def Keys (h : Heap) (L : Mb) : Prop := ∀ q ∈ L, IsN h q.2 q.1

section
variable {P : Program} {w : World} {A : Around} {E : Value → Shared → Prop} {s : Shared} {a : Addr} {L : Mb} {es : Array (Int × Value)} {ep : Nat} {t : SetTable}
theorem SetN.size {h : Heap} (R : SetN w h a L es ep t) : es.size = L.length := by
  rw [← Array.length_toList, R.rows, tblRows_len]
theorem SetN.place {h : Heap} (R : SetN w h a L es ep t) : t.place.size = L.length := by
  rw [R.tab.sz, List.length_map]
theorem SetN.fits {h : Heap} (R : SetN w h a L es ep t) : t.fits es.size = true := by
  have h1 := R.place
  have h2 := R.size
  have h3 := R.room
  unfold SetTable.fits SetTable.fill
  rw [R.tab.dm, Bool.and_eq_true, beq_iff_eq, decide_eq_true_eq]
  show t.place.size = es.size ∧ t.place.size + 0 ≤ t.mask
  omega
theorem SetN.entry {h : Heap} (R : SetN w h a L es ep t) {i : Nat} {q : Addr × NestedKey} (e : L[i]? = some q) : es[i]? = some (q.2.hash w, Value.ref q.1) := by
  rw [← Array.getElem?_toList, R.rows]
  unfold tblRows
  rw [List.getElem?_map, e] <;> rfl
theorem SetN.hold {h h' : Heap} (R : SetN w h a L es ep t) (ha : ∀ o, h.get? a = some o → h'.get? a = some o) : SetN w h' a L es ep t := by
  obtain ⟨o, ho, r⟩ := R.at_
  exact ⟨⟨o, ha o ho, r⟩, R.rows, R.tab, R.nodup, R.plain, R.led, R.room, R.few⟩

/-- the probe's way for a hash -/
abbrev wp0 (t : SetTable) (c : Int) : SetTable.Probe := runAt t.mask (SetTable.bits c % (t.mask + 1)) (SetTable.bits c)
theorem nodummy (m : Nat) : ∀ (n : Nat) (p : SetTable.Probe), p.dummy = none → (nth m p n).dummy = none
  | 0, _, h => h
  | n + 1, p, h => nodummy m n (adv m p) (by unfold adv; split <;> exact h)
abbrev seenHash (es : Array (Int × Value)) : Nat → Int := fun i => (es[i]?.map (·.1)).getD 0
theorem SetN.hashAt {h : Heap} (R : SetN w h a L es ep t) {i : Nat} {q : Addr × NestedKey} (e : L[i]? = some q) : seenHash es i = q.2.hash w := by
  show (es[i]?.map (·.1)).getD 0 = _
  rw [R.entry e] <;> rfl

/-- a probe from the c-th step on: a member of the same hash, or the first free slot (the K-th step) -/
theorem probe_at {h : Heap} (R : SetN w h a L es ep t) {c : Int} {K n : Nat} (hn : n ≤ K) (hKf : K < 10 * SetTable.turns t.mask) (hK : way t.mask c K ∉ t.place.toList) (hKb : ∀ j, j < K → way t.mask c j ∈ t.place.toList) :
    (∃ (m i : Nat) (q : Addr × NestedKey), n ≤ m ∧ m < K ∧ L[i]? = some q ∧ t.place.toList[i]? = some (way t.mask c m) ∧ q.2.hash w = c ∧
      (∀ (m' i' : Nat) (q' : Addr × NestedKey), n ≤ m' → m' < m → t.place.toList[i']? = some (way t.mask c m') → L[i']? = some q' → q'.2.hash w ≠ c) ∧
      t.probe (seenHash es) c (nth t.mask (wp0 t c) n) = some (.candidate (way t.mask c m) i (nth t.mask (wp0 t c) (m + 1)))) ∨
    ((∀ (m' i' : Nat) (q' : Addr × NestedKey), n ≤ m' → m' < K → t.place.toList[i']? = some (way t.mask c m') → L[i']? = some q' → q'.2.hash w ≠ c) ∧
      t.probe (seenHash es) c (nth t.mask (wp0 t c) n) = some (.empty (way t.mask c K) none)) := by
  have sh : ∀ j, nth t.mask (nth t.mask (wp0 t c) n) j = nth t.mask (wp0 t c) (n + j) := fun j => (nth_add t.mask n _ j).symm
  have sj : ∀ j, (nth t.mask (nth t.mask (wp0 t c) n) j).j = way t.mask c (n + j) := fun j => congrArg SetTable.Probe.j (sh j)
  have back : ∀ m, n ≤ m → n + (m - n) = m := fun m h => by omega
  have spec := go_spec t R.tab.ris R.tab.dm (seenHash es) c (10 * SetTable.turns t.mask) (K - n) (nth t.mask (wp0 t c) n) (nodummy _ n _ rfl) (by omega)
    (fun j hj => by rw [sj]; exact hKb _ (by omega)) (by rw [sj, back K hn]; exact hK)
  have free : ∀ lim, (∀ j i, j < lim → t.place.toList[i]? = some (nth t.mask (nth t.mask (wp0 t c) n) j).j → seenHash es i ≠ c) → ∀ (m' i' : Nat) (q' : Addr × NestedKey), n ≤ m' → m' < n + lim → t.place.toList[i']? = some (way t.mask c m') → L[i']? = some q' → q'.2.hash w ≠ c :=
    fun lim hno m' i' q' h1 h2 h3 h4 he => by
      refine hno (m' - n) i' (by omega) (by rw [sj, back m' h1]; exact h3) ?_
      rw [R.hashAt h4]
      exact he
  rcases spec with ⟨j, i, hj, hi, hh, hno, hpr⟩ | ⟨hno, hpr⟩
  · left
    rw [sj] at hi
    have hil : i < L.length := by
      have h1 : i < t.place.toList.length := (List.getElem?_eq_some_iff.mp hi).1
      rw [Array.length_toList, R.place] at h1
      exact h1
    have hq : L[i]? = some L[i] := List.getElem?_eq_getElem hil
    refine ⟨n + j, i, L[i], by omega, by omega, hq, hi, ?_, fun m' i' q' h1 h2 => free j hno m' i' q' h1 h2, ?_⟩
    · rw [← R.hashAt hq]
      exact hh
    · rw [← sj, show n + j + 1 = n + (j + 1) by omega, ← sh]
      exact hpr
  · right
    refine ⟨fun m' i' q' h1 h2 => free (K - n) hno m' i' q' h1 (by omega), ?_⟩
    have e2 : way t.mask c K = (nth t.mask (nth t.mask (wp0 t c) n) (K - n)).j := by rw [sj, back K hn]
    rw [e2]
    exact hpr

theorem one_place {i i' : Nat} {j : Nat} {h : Heap} (R : SetN w h a L es ep t) (h1 : t.place.toList[i]? = some j) (h2 : t.place.toList[i']? = some j) : i = i' := by
  have s1 := slot_live R.tab.ris h1
  have s2 := slot_live R.tab.ris h2
  rw [s1] at s2
  injection s2

/-- the search of an adding, from the n-th step on -/
theorem search_n (R : SetN w s.heap a L es ep t) (hL : Keys s.heap L) {x : Addr} {k : NestedKey} (hx : IsN s.heap k x) (hu : A.units + 8 < cLine) {K : Nat} (hKf : K < 10 * SetTable.turns t.mask)
    (hK : way t.mask (k.hash w) K ∉ t.place.toList) (hKb : ∀ j, j < K → way t.mask (k.hash w) j ∈ t.place.toList) {Q : SetFound → Shared → Prop}
    (hin : k ∈ ksOf L → Q (.there none) s) (hout : k ∉ ksOf L → Q (.free (way t.mask (k.hash w) K) false) s) :
    ∀ (f n : Nat) (stand : Option SetTable.Probe), stand.getD (t.probeStart (k.hash w)) = nth t.mask (wp0 t (k.hash w)) n → n ≤ K → K - n < f →
      (∀ (i : Nat) q, L[i]? = some q → q.2 = k → ∃ m, n ≤ m ∧ m < K ∧ t.place.toList[i]? = some (way t.mask (k.hash w) m)) →
      wpAny (model P w) A (setSearchFrom a (.ref x) (k.hash w) true f stand) Q E s
  | 0, _, _, _, _, hf, _ => absurd hf (Nat.not_lt_zero _)
  | f + 1, n, stand, hst, hn, hf, hre => by
    obtain ⟨o, ho, hex, hd⟩ := R.at_
    rw [setSearchFrom_succ]
    refine wpAny_bind (wpAny_setState_of ho hd R.fits ?_)
    dsimp only
    have gw : ¬ t.gaveWay = true := by
      unfold SetTable.gaveWay
      rw [mask_odd R.tab.mok]
      decide
    refine wp_if_neg gw ?_
    try refine wpAny_bind (wpAny_pure ?_)
    rw [hst]
    rcases probe_at R hn hKf hK hKb with ⟨m, i, q, hnm, hmK, hq, hi, hh, hno, hpr⟩ | ⟨hno, hpr⟩
    · rw [hpr]
      dsimp only
      have hmem : q ∈ L := List.mem_of_getElem? hq
      have more : wpAny (model P w) A (searchRest a (.ref x) (k.hash w) true f es t (way t.mask (k.hash w) m) i (nth t.mask (wp0 t (k.hash w)) (m + 1))) Q E s := by
        unfold searchRest
        rw [R.entry hq]
        dsimp only
        refine wpAny_bind (wpAny_holding (eq_n hu (hL q hmem) hx ?_))
        refine wpAny_bind (wpAny_setState_of ho hd R.fits ?_)
        dsimp only
        by_cases hkk : q.2 = k
        · refine wp_if_pos (by simp [hkk]) ?_
          exact wpAny_pure (hin (List.mem_map.mpr ⟨q, hmem, hkk⟩))
        · refine wp_if_neg (by simp [hkk]) ?_
          try refine wpAny_bind (wpAny_pure ?_)
          rw [sameMem]
          dsimp only
          have hsl : t.slot (way t.mask (k.hash w) m) = .live i := slot_live R.tab.ris hi
          simp only [if_true, hsl, R.entry hq]
          refine wpAny_bind (wpAny_isSame_ref_self (wpAny_bind (wpAny_pure ?_)))
          simp only [if_true]
          refine wp_if_neg (by simp [hkk]) ?_
          refine search_n R hL hx hu hKf hK hKb hin hout f (m + 1) _ rfl (by omega) (by omega) fun i' q' h0 hk0 => ?_
          obtain ⟨m', a1, a2, a3⟩ := hre i' q' h0 hk0
          have ne : m' ≠ m := fun e => by
            rw [e] at a3
            have ei := one_place R hi a3
            rw [← ei, hq] at h0
            exact hkk ((congrArg Prod.snd (Option.some.inj h0)).trans hk0)
          have nl : ¬ m' < m := fun z => hno m' i' q' a1 z a3 h0 (congrArg (NestedKey.hash w) hk0)
          exact ⟨m', by omega, a2, a3⟩
      by_cases hl : t.led = true
      · refine wp_if_neg (by simp [hl]) ?_
        try refine wpAny_bind (wpAny_pure ?_)
        exact more
      · refine wp_if_pos (by simp [hl]) ?_
        refine wpAny_bind (seen_n hx (fun y hy => ?_) ?_)
        · obtain ⟨e, he, ee⟩ := List.mem_map.mp hy
          have he1 : e ∈ es ∧ e.1 = k.hash w := by simpa using he
          have he2 : e ∈ es.toList := by simpa using he1.1
          rw [R.rows] at he2
          obtain ⟨q2, hq2, e2⟩ := List.mem_map.mp he2
          refine ⟨q2.2, q2.1, ?_, hL q2 hq2⟩
          rw [← ee, ← e2]
        · refine wp_if_neg (by decide) ?_
          try refine wpAny_bind (wpAny_pure ?_)
          exact more
    · rw [hpr]
      dsimp only
      refine wpAny_pure (hout fun hm => ?_)
      obtain ⟨q0, h0, hk0⟩ := List.mem_map.mp hm
      obtain ⟨i0, hi0, e0⟩ := List.getElem_of_mem h0
      have h00 : L[i0]? = some q0 := by rw [List.getElem?_eq_getElem hi0, e0]
      obtain ⟨m', a1, a2, a3⟩ := hre i0 q0 h00 hk0
      exact hno m' i0 q0 a1 a2 a3 h00 (congrArg (NestedKey.hash w) hk0)

theorem search_new (R : SetN w s.heap a L es ep t) (hL : Keys s.heap L) {x : Addr} {k : NestedKey} (hx : IsN s.heap k x) (hu : A.units + 8 < cLine) {Q : SetFound → Shared → Prop}
    (hin : k ∈ ksOf L → Q (.there none) s)
    (hout : ∀ K, k ∉ ksOf L → way t.mask (k.hash w) K ∉ t.place.toList → (∀ j, j < K → way t.mask (k.hash w) j ∈ t.place.toList) → Q (.free (way t.mask (k.hash w) K) false) s) :
    wpAny (model P w) A (setSearch a (.ref x) (k.hash w) true) Q E s := by
  have hroom := R.room
  obtain ⟨K, hKf, hK, hKb⟩ := R.tab.first (by rw [List.length_map]; omega) (k.hash w)
  have hbig : K < 100000 := by
    have z : 10 * SetTable.turns t.mask ≤ 1420 := by
      unfold SetTable.turns
      rcases R.tab.mok with e | e | e <;> omega
    omega
  unfold setSearch
  refine search_n R hL hx hu hKf hK hKb hin (fun hn => hout K hn hK hKb) 100000 0 none rfl (Nat.zero_le _) (by omega) fun i q hq hk => ?_
  have hi : (hsOf w L)[i]? = some (k.hash w) := by rw [List.getElem?_map, hq, ← hk] <;> rfl
  have hil : i < t.place.toList.length := by
    rw [Array.length_toList, R.place]
    exact (List.getElem?_eq_some_iff.mp hq).1
  have hj := List.getElem?_eq_getElem hil
  obtain ⟨m, hm, e⟩ := R.tab.before hK hi hj
  exact ⟨m, Nat.zero_le _, hm, by rw [hj, e]⟩

/-- the rows in another order -/
theorem rows_order (L : Mb) (es : Array (Int × Value)) (order : Array Nat) (hr : es.toList = tblRows w L) (hp : order.toList.Perm (List.range L.length)) :
    ∃ L2, (order.filterMap (es[·]?)).toList = tblRows w L2 ∧ L2.Perm L ∧ hsOf w L2 = order.toList.map fun i => (es.map (·.1)).getD i 0 := by
  have ent : ∀ i (h : i < L.length), es[i]? = some ((L[i]).2.hash w, Value.ref (L[i]).1) := fun i h => by
    rw [← Array.getElem?_toList, hr]
    unfold tblRows
    rw [List.getElem?_map, List.getElem?_eq_getElem h] <;> rfl
  have look : ∀ l : List Nat, (∀ i ∈ l, i < L.length) → l.filterMap (fun i => es[i]?) = tblRows w (l.filterMap fun i => L[i]?) ∧ hsOf w (l.filterMap fun i => L[i]?) = l.map fun i => (es.map (·.1)).getD i 0 := by
    intro l
    induction l with
    | nil => intro _; exact ⟨rfl, rfl⟩
    | cons i l ih =>
      intro hl
      have hi := hl i List.mem_cons_self
      obtain ⟨e1, e2⟩ := ih fun j hj => hl j (List.mem_cons_of_mem _ hj)
      have e5 : (es.map (·.1))[i]? = some ((L[i]).2.hash w) := by rw [Array.getElem?_map, ent i hi] <;> rfl
      have e4 : (es.map (·.1)).getD i 0 = (L[i]).2.hash w := by simp [Array.getD_eq_getD_getElem?, e5]
      rw [List.filterMap_cons_some (ent i hi), List.filterMap_cons_some (List.getElem?_eq_getElem hi), e1, List.map_cons, e4]
      refine ⟨rfl, ?_⟩
      rw [← e2] <;> rfl
  obtain ⟨e1, e2⟩ := look order.toList fun i hi => List.mem_range.mp (hp.mem_iff.mp hi)
  refine ⟨_, by first | (rw [Array.toList_filterMap]; exact e1) | simpa using e1, ?_, e2⟩
  have all : ∀ n, n ≤ L.length → (List.range n).filterMap (fun i => L[i]?) = L.take n := by
    intro n
    induction n with
    | zero => intro _; rfl
    | succ n ih =>
      intro hn
      rw [List.range_succ, List.filterMap_append, ih (Nat.le_of_lt hn), List.take_succ, List.getElem?_eq_getElem hn, List.filterMap_cons_some (List.getElem?_eq_getElem hn)] <;> rfl
  have h1 := hp.filterMap fun i => L[i]?
  rw [all L.length (Nat.le_refl _), List.take_length] at h1
  exact h1

theorem relay_n {o : Obj} (ho : s.heap.get? a = some o) (hex : o.ExactSet) (hd : o.data = .set es ep t) (hrows : es.toList = tblRows w L) (hsz : t.place.size = es.size) (hdm : t.dummies = #[]) (hfl : es.size ≤ t.mask)
    (nd : (ksOf L).Nodup) (pl : t.plain = true) (ld : w.params.followText "set-order" = true ∨ t.led = true) (few : L.length < 64) {wanted M : Nat}
    (hw : SetTable.sizeAbove wanted - 1 = M) (hM : MaskOk M) (hw2 : SetTable.sizeAbove wanted ≤ 128) (hn : L.length * 5 < M * 3) {Q : Unit → Shared → Prop}
    (hQ : ∀ h' L' es' ep' t', Heap.SameBut a s.heap h' → SetN w h' a L' es' ep' t' → L'.Perm L → Q () { s with heap := h' }) : wpAny (model P w) A (setRelay a wanted) Q E s := by
  have hsl : es.size = L.length := by rw [← Array.length_toList, hrows, tblRows_len]
  have hfits : t.fits es.size = true := by
    unfold SetTable.fits SetTable.fill
    rw [hdm, Bool.and_eq_true, beq_iff_eq, decide_eq_true_eq]
    show t.place.size = es.size ∧ t.place.size + 0 ≤ t.mask
    omega
  obtain ⟨t', order, e, hp, T, em, el, ep', ed⟩ := relaid_ok t (hs := es.map (·.1)) (wanted := wanted) hw hM (by rw [Array.size_map, hsl]; omega)
  rw [Array.size_map, hsl] at hp
  obtain ⟨L2, r1, r2, r3⟩ := rows_order L es order hrows hp
  rw [← r3] at T
  have hs2 : (order.filterMap (es[·]?)).size = es.size := by
    rw [← Array.length_toList, r1, tblRows_len, r2.length_eq, hsl]
  rw [setRelay_eq]
  refine wpAny_bind (wpAny_setState_of ho hd hfits ?_)
  dsimp only
  refine wp_if_neg (by rw [sizeLine_eq]; omega) ?_
  try refine wpAny_bind (wpAny_pure ?_)
  rw [e]
  dsimp only
  refine wpAny_bind ?_
  refine wp_if_neg (by rw [hs2]; simp) ?_
  try refine wpAny_bind (wpAny_pure ?_)
  refine wpAny_pure ?_
  dsimp only
  refine wpAny_storeSet_of ho hd ?_ (by rw [hs2, hsl, sizeLine_eq]; omega)
  have sb : Heap.SameBut a s.heap (s.heap.update a (Obj.putSet (order.filterMap (es[·]?)) t')) := Heap.SameBut.update ..
  refine hQ _ L2 (order.filterMap (es[·]?)) (ep + 1) t' sb ⟨⟨_, store_at ho hd, ⟨hex.1, hex.2.1, hex.2.2⟩, rfl⟩, r1, T, (r2.map (·.2)).nodup_iff.mpr nd, by rw [ep']; exact pl, by rw [el]; exact ld, ?_, by rw [r2.length_eq]; exact few⟩ r2
  rw [r2.length_eq, em]
  exact hn

/-- one key added -/
theorem add_n (R : SetN w s.heap a L es ep t) (hL : Keys s.heap L) {x : Addr} {k : NestedKey} (hx : IsN s.heap k x) (hu : A.units + 8 < cLine) (hfew : L.length + 1 < 64) {Q : Bool → Shared → Prop}
    (hQ : ∀ b h' L' es' ep' t', Heap.SameBut a s.heap h' → SetN w h' a L' es' ep' t' → (k ∈ ksOf L → L' = L) → (k ∉ ksOf L → L'.Perm ((x, k) :: L)) → Q b { s with heap := h' }) :
    wpAny (model P w) A (setAddHashed a (.ref x) (k.hash w)) Q E s := by
  obtain ⟨o, ho, hex, hd⟩ := R.at_
  have hsl := R.size
  have hroom := R.room
  unfold setAddHashed
  refine wpAny_holding ?_
  rw [show (100000 : Nat) = 99999 + 1 from rfl, setAddHashedIn_succ]
  refine wpAny_bind (wpAny_setState_of ho hd R.fits ?_)
  dsimp only
  refine wp_if_neg (by simp [byScan, Value.scannable]) ?_
  try refine wpAny_bind (wpAny_pure ?_)
  refine wpAny_bind (search_new R hL hx hu (fun hm => ?_) fun K hm hK hb => ?_)
  · dsimp only
    exact wpAny_pure (hQ false s.heap L es ep t (Heap.SameBut.refl a s.heap) R (fun _ => rfl) fun z => absurd hm z)
  · dsimp only
    refine wpAny_bind (wpAny_setState_of ho hd R.fits ?_)
    dsimp only
    obtain ⟨q1, q2, q3, q4, q5, q6, q7, q8, q9⟩ := R.tab.put hK hb
    have hp1 : (t.put (way t.mask (k.hash w) K)).1.plain = true := by rw [q6]; exact R.plain
    generalize hpt : t.put (way t.mask (k.hash w) K) = pt at q1 q3 q4 q5 q6 q7 q8 q9 hp1 ⊢
    obtain ⟨t1, pl⟩ := pt
    dsimp only at q1 q3 q4 q5 q6 q7 q8 q9 hp1 ⊢
    subst q1
    first
      | (refine wpAny_bind ?_; refine wp_if_pos hp1 ?_; refine byv_key _ _ 8 A s _ hx.nk hx.pure hx.2 ?_)
      | refine wp_if_pos hp1 (wpAny_bind (byv_key _ _ 8 A s _ hx.nk hx.pure hx.2 ?_))
    simp only [if_true]
    generalize hpp : SetTable.below t.place (way t.mask (k.hash w) K) = p at q2 q3 ⊢
    have pm : (L.take p ++ (x, k) :: L.drop p).Perm ((x, k) :: L) := put_perm L p (x, k)
    have hin : (SetTable.insertAt es p (k.hash w, Value.ref x)).toList = tblRows w (L.take p ++ (x, k) :: L.drop p) := by
      rw [SetTable.toList_insertAt, R.rows]
      unfold tblRows
      rw [List.map_append, List.map_cons, List.map_take, List.map_drop]
    have hhs : hsOf w (L.take p ++ (x, k) :: L.drop p) = (hsOf w L).take p ++ k.hash w :: (hsOf w L).drop p := by
      unfold hsOf
      rw [List.map_append, List.map_cons, List.map_take, List.map_drop]
    rw [← hhs] at q3
    generalize L.take p ++ (x, k) :: L.drop p = L1 at pm q3 hin
    have hlen : L1.length = L.length + 1 := pm.length_eq
    have nd1 : (ksOf L1).Nodup := by
      refine (pm.map (·.2)).nodup_iff.mpr ?_
      rw [List.map_cons]
      exact List.nodup_cons.mpr ⟨hm, R.nodup⟩
    have hes : (SetTable.insertAt es p (k.hash w, Value.ref x)).size = L.length + 1 := by
      rw [← Array.length_toList, hin, tblRows_len, hlen]
    generalize SetTable.insertAt es p (k.hash w, Value.ref x) = es1 at hin hes ⊢
    refine wpAny_bind (wpAny_storeSet_of ho hd ?_ (by rw [hes, sizeLine_eq]; omega))
    have sb : Heap.SameBut a s.heap (s.heap.update a (Obj.putSet es1 t1)) := Heap.SameBut.update ..
    have ho1 := store_at (es' := es1) (t' := t1) ho hd
    generalize s.heap.update a (Obj.putSet es1 t1) = h1 at sb ho1 ⊢
    have ld1 : w.params.followText "set-order" = true ∨ t1.led = true := by rw [q5]; exact R.led
    by_cases hf : t1.tooFull = true
    · first
        | (refine wpAny_bind ?_; refine wp_if_pos (by simp [hf]) ?_)
        | (refine wp_if_pos (by simp [hf]) ?_; refine wpAny_bind ?_)
      have hfull : (L.length + 1) * 5 ≥ t1.mask * 3 := by
        have h := hf
        unfold SetTable.tooFull at h
        rw [decide_eq_true_eq, q9, List.length_map] at h
        exact h
      rw [hsl]
      have hsz1 : t1.place.size = es1.size := by
        have h := q3.sz
        rw [List.length_map, hlen] at h
        rw [h, hes]
      have two : (t.mask = 7 ∧ L.length = 4) ∨ (t.mask = 31 ∧ L.length = 18) := by
        rcases R.tab.mok with e | e | e
        · left; rw [q4, e] at hfull; rw [e] at hroom; exact ⟨e, by omega⟩
        · right; rw [q4, e] at hfull; rw [e] at hroom; exact ⟨e, by omega⟩
        · exfalso; rw [q4, e] at hfull; omega
      have go : ∀ M, SetTable.sizeAbove (SetTable.grown (L.length + 1)) - 1 = M → MaskOk M → SetTable.sizeAbove (SetTable.grown (L.length + 1)) ≤ 128 → (L.length + 1) * 5 < M * 3 →
          wpAny (model P w) A (setRelay a (SetTable.grown (L.length + 1))) (fun _ s' => wpAny (model P w) A (pure true) Q E s') E { s with heap := h1 } := fun M h1' h2' h3' h4' => by
        refine relay_n (s := { s with heap := h1 }) ho1 ⟨hex.1, hex.2.1, hex.2.2⟩ rfl hin hsz1 q3.dm (by rw [hes, q4]; rcases two with ⟨e, e2⟩ | ⟨e, e2⟩ <;> omega) nd1 hp1 ld1 (by rw [hlen]; exact hfew) h1' h2' h3' (by rw [hlen]; exact h4') ?_
        intro h2 L2 es2 ep2 t2 sb2 R2 pm2
        refine wpAny_pure (hQ true h2 L2 es2 ep2 t2 (sb.trans sb2) R2 (fun z => absurd z hm) fun _ => pm2.trans pm)
      rcases two with ⟨_, e2⟩ | ⟨_, e2⟩
      · refine go 31 (by rw [e2, size_20]) (.inr (.inl rfl)) (by rw [e2, size_20]; decide) (by omega)
      · refine go 127 (by rw [e2, size_76]) (.inr (.inr rfl)) (by rw [e2, size_76]; decide) (by omega)
    · first
        | refine wp_if_neg (by simp [hf]) ?_
        | (refine wpAny_bind ?_; refine wp_if_neg (by simp [hf]) ?_; refine wpAny_pure ?_)
      refine wpAny_pure (hQ true h1 L1 es1 (ep + 1) t1 sb ⟨⟨_, ho1, ⟨hex.1, hex.2.1, hex.2.2⟩, rfl⟩, hin, q3, nd1, hp1, ld1, ?_, by rw [hlen]; exact hfew⟩ (fun z => absurd z hm) fun _ => pm)
      have h := hf
      unfold SetTable.tooFull at h
      rw [decide_eq_true_eq, q9, List.length_map] at h
      rw [hlen]
      omega
end
end K20
namespace K20
open PySem PySem.Spec PyProof.Rows L2

/-- of the first i of ks the set holds each key once -/
structure Has (ks : Mb) (i : Nat) (L : Mb) : Prop where
  from_ : ∀ q ∈ L, q ∈ ks.take i
  all : ∀ q ∈ ks.take i, q.2 ∈ ksOf L
  len : L.length ≤ i
theorem Has.none (ks : Mb) : Has ks 0 [] := ⟨fun _ h => (by cases h), fun _ h => (by simp at h), Nat.le_refl _⟩
theorem Has.mem {ks L : Mb} {i : Nat} (g : Has ks i L) : ∀ q ∈ L, q ∈ ks := fun q h => List.mem_of_mem_take (g.from_ q h)
theorem Has.next {ks L L' : Mb} {i : Nat} {x : Addr × NestedKey} (g : Has ks i L) (h : ks[i]? = some x) (c1 : x.2 ∈ ksOf L → L' = L) (c2 : x.2 ∉ ksOf L → L'.Perm (x :: L)) : Has ks (i + 1) L' := by
  have ht : ks.take (i + 1) = ks.take i ++ [x] := by rw [List.take_succ, h] <;> rfl
  by_cases c : x.2 ∈ ksOf L
  · rw [c1 c]
    refine ⟨fun q hq => ?_, fun q hq => ?_, Nat.le_succ_of_le g.len⟩
    · rw [ht]; exact List.mem_append_left _ (g.from_ q hq)
    · rw [ht] at hq
      rcases List.mem_append.mp hq with z | z
      · exact g.all q z
      · rw [List.mem_singleton.mp z]; exact c
  · have pm := c2 c
    refine ⟨fun q hq => ?_, fun q hq => ?_, ?_⟩
    · rw [ht]
      rcases List.mem_cons.mp (pm.mem_iff.mp hq) with e | z
      · rw [e]; exact List.mem_append_right _ (List.mem_singleton.mpr rfl)
      · exact List.mem_append_left _ (g.from_ q z)
    · have hm : ∀ k, k ∈ ksOf L' ↔ k = x.2 ∨ k ∈ ksOf L := fun k => by
        unfold ksOf
        rw [(pm.map (·.2)).mem_iff, List.map_cons, List.mem_cons]
      rw [hm]
      rw [ht] at hq
      rcases List.mem_append.mp hq with z | z
      · exact .inr (g.all q z)
      · exact .inl (by rw [List.mem_singleton.mp z])
    · rw [pm.length_eq, List.length_cons]
      exact Nat.succ_le_succ g.len

/-- an empty set, just made -/
abbrev emptySet (w : World) : Obj := { cls := .type "set", dict := none, data := .set #[] 0 (.fresh 0 0 (!w.params.followText "set-order")) }
theorem setN_empty {w : World} {h : Heap} {a : Addr} (ho : h.get? a = some (emptySet w)) : SetN w h a [] #[] 0 (.fresh 0 0 (!w.params.followText "set-order")) where
  at_ := ⟨_, ho, ⟨rfl, rfl, rfl⟩, rfl⟩
  rows := rfl
  tab := ⟨List.Pairwise.nil, rfl, rfl, .inl rfl, fun _ hx => (by cases hx), fun _ _ _ hi => (by simp at hi)⟩
  nodup := List.nodup_nil
  plain := rfl
  led := by
    show _ ∨ (!w.params.followText "set-order") = true
    cases w.params.followText "set-order"
    · exact .inr rfl
    · exact .inl rfl
  room := by
    show 0 * 5 < 7 * 3
    decide
  few := by
    show 0 < 64
    decide

section
variable {P : Program} {w : World} {A : Around} {E : Value → Shared → Prop} {s : Shared}
/-- the loop that fills it -/
theorem fill_loop {I : Addr} {fp wr : List Addr} {G : Array GenState → Array GenState → Prop} {n : Nat} {Pv : Nat → Value → Prop} {St : Nat → Shared → Prop} {R : Result → Shared → Prop}
    (W : WalksS P w A.in1 I fp wr G n Pv St) (S : Addr) (hSf : S ∉ fp) (ks : Mb) (hn : n = ks.length) (hfew : ks.length < 64) (hval : ∀ i v, Pv i v → ∃ q, ks[i]? = some q ∧ v = .ref q.1)
    (h0 : Heap) (hk : Keys h0 ks) (hS0 : h0.get? S = none) (hw0 : ∀ b ∈ wr, h0.get? b = none) (hu : A.in1.units + 8 < cLine) :
    ∀ (k i : Nat) (s : Shared), n - i = k → i ≤ n → St i s → (∀ b o, h0.get? b = some o → s.heap.get? b = some o) → (∃ L es ep t, SetN w s.heap S L es ep t ∧ Has ks i L) →
      (∀ s' L es ep t, Moved (S :: wr) G s s' → SetN w s'.heap S L es ep t → Has ks n L → (∀ b o, h0.get? b = some o → s'.heap.get? b = some o) → R (.ok (.ret .none)) s') →
      codeAny (model P w) A (.builtin "set.update.loop" ⟨[.ref S, .ref I], []⟩) R s := by
  have hSw : S ∉ wr := fun h => hSf (W.sub _ h)
  have more : ∀ b ∈ wr, b ∈ S :: wr := fun b hb => List.mem_cons_of_mem _ hb
  have old : ∀ {s s' : Shared}, Moved wr G s s' → (∀ b o, h0.get? b = some o → s.heap.get? b = some o) → ∀ b o, h0.get? b = some o → s'.heap.get? b = some o := fun hm hkp b o e =>
    hm.heap b o (fun hb => by rw [hw0 b hb] at e; cases e) (hkp b o e)
  intro k
  induction k with
  | zero =>
    intro i s hk' hi hst hkp ⟨L, es, ep, t, hS, g⟩ hR
    obtain rfl : i = n := by omega
    refine codeAny_builtin F.entry_set_update_loop ?_
    rw [Around.under_plainId F.plain_set_update_loop _]
    show wpAny _ A.in1 (pyNext (.ref I) >>= _) _ _ s
    refine wpAny_bind (W.done s _ _ hst fun s' hm => ?_)
    show wpAny _ A.in1 (ret Value.none) _ _ s'
    exact wpAny_pure (hR s' L es ep t (hm.mono more) (hS.hold fun o e => hm.heap S o hSw e) g (old hm hkp))
  | succ k ih =>
    intro i s hk' hi hst hkp ⟨L, es, ep, t, hS, g⟩ hR
    have hlt : i < n := by omega
    refine codeAny_builtin F.entry_set_update_loop ?_
    rw [Around.under_plainId F.plain_set_update_loop _]
    show wpAny _ A.in1 (pyNext (.ref I) >>= _) _ _ s
    refine wpAny_bind (W.item i s _ _ hlt hst fun v s' hP hst' hm => ?_)
    obtain ⟨q, hq, rfl⟩ := hval i v hP
    have hkp' := old hm hkp
    have hS' : SetN w s'.heap S L es ep t := hS.hold fun o e => hm.heap S o hSw e
    have hL : Keys s'.heap L := fun q hq => (hk q (g.mem q hq)).keep hkp'
    have hx : IsN s'.heap q.2 q.1 := (hk q (List.mem_of_getElem? hq)).keep hkp'
    show wpAny _ A.in1 (holding [Value.ref q.1] (setAdd S (.ref q.1)) >>= _) _ _ s'
    refine wpAny_bind (wpAny_holding ?_)
    unfold setAdd
    refine wpAny_holding ?_
    refine wpAny_bind (hash_n hu hx ?_)
    refine add_n (s := { s' with toks := s'.toks + q.2.draws }) hS' hL hx hu (by have := g.len; omega) fun b h' L' es' ep' t' hsb hS2 c1 c2 => ?_
    have hkp2 : ∀ b o, h0.get? b = some o → h'.get? b = some o := fun b o e => (hsb.2 b (fun z => by rw [z, hS0] at e; cases e)).trans (hkp' b o e)
    refine wpAny_pure ⟨plainId_quiet F.plain_set_update_loop _, ih (i + 1) _ (by omega) hlt (W.frame _ s' _ _ hst' (Nat.le_add_right _ _) fun b hb o e => ?_) hkp2 ⟨L', es', ep', t', hS2, g.next hq c1 c2⟩ fun s'' L2 es2 ep2 t2 hm'' hS'' g'' hkp'' => ?_⟩
    · rw [hsb.2 b (fun h : b = S => hSf (by rw [← h]; exact hb))]; exact e
    · refine hR s'' L2 es2 ep2 t2 (Moved.trans W.gtrans ((hm.mono more).then_heap (Nat.le_add_right _ _) fun b o hb e => ?_) hm'') hS'' g'' hkp''
      rw [hsb.2 b (fun h : b = S => hb (by rw [h]; exact List.mem_cons_self))]; exact e

/-- the iterator over a list, just made -/
abbrev newIt (l : Addr) : Obj := { cls := .type "list_iterator", data := .fields #[.ref l, .int 0 0] }
abbrev fillHeap (w : World) (h : Heap) (l : Addr) : Heap := (h.push (emptySet w)).push (newIt l)
theorem fillHeap_old {w : World} {h : Heap} {l b : Addr} {o : Obj} (e : h.get? b = some o) : (fillHeap w h l).get? b = some o := Heap.get?_push_of_some _ (Heap.get?_push_of_some _ e)
theorem fillHeap_set (w : World) (h : Heap) (l : Addr) : (fillHeap w h l).get? h.objs.size = some (emptySet w) := Heap.get?_push_of_some _ (Heap.get?_push_size _ rfl)
theorem none_above {h : Heap} {b : Addr} (hb : h.objs.size ≤ b) : h.get? b = none := by
  cases q : h.get? b with
  | none => rfl
  | some o => exact absurd (Nat.lt_of_lt_of_le (Heap.lt_size q) hb) (Nat.lt_irrefl _)

/-- set(xs): whatever the loop that fills it brings about -/
theorem set_list_call {l : Addr} {items : Array Value} (Post : Heap → Prop) {Q : Value → Shared → Prop} (hh : A.handled = none) (hl : s.heap.IsList l items)
    (fill : ∀ (A' : Around) (s0 : Shared) (R : Result → Shared → Prop), A'.in1.handled = none → A'.in1.units ≤ A.units + 8 → s0.heap = fillHeap w s.heap l →
      (∀ s', s'.gens = s0.gens → s'.drawn = s0.drawn → s'.os = s0.os → Post s'.heap → R (.ok (.ret .none)) s') → codeAny (model P w) A' (.builtin "set.update.loop" ⟨[.ref s.heap.objs.size, .ref (s.heap.push (emptySet w)).objs.size], []⟩) R s0)
    (h : ∀ (h' : Heap) (tk : Nat), Post h' → Q (.ref s.heap.objs.size) { s with heap := h', toks := tk }) :
    wpAny (model P w) A (call (.type "set") [.ref l]) Q E s := by
  obtain ⟨c, tl, hmro⟩ := F.called_set.mro
  have hmade := F.called_set.made
  have hsub := F.called_set.sub
  refine wpAny_call (codeAny_of_tree ?_)
  show wpAny _ _ (callAny (.type "set") _) _ _ _
  refine wpAny_pure ⟨Code.quiet_builtin _ (by decide +kernel), codeAny_builtin F.entry_type_call ?_⟩
  rw [Around.under_plain (weight_type_call_type "set" [.ref l] []) rfl]
  have h1 := F.called_set.notType
  have h2 := F.called_set.canCreate
  have hct := F.typeCall_set_1 (.ref l)
  repeat (any_goals (first | assumption | wp_step))
  refine codeAny_mono (code_set_led1 (.ref l) (E := E) (Q₁ := fun obj s₁ => obj = .ref s.heap.objs.size ∧ s₁ = { s with heap := s.heap.push (emptySet w) }) ⟨rfl, rfl⟩) fun r s₁ hr => ?_
  cases r with
  | error e => exact hr
  | ok fl =>
    cases fl with
    | ret obj =>
      obtain ⟨rfl, rfl⟩ := hr
      have hS : (s.heap.push (emptySet w)).get? s.heap.objs.size = some (emptySet w) := Heap.get?_push_size _ rfl
      have hT : Shared.TypeIs { s with heap := s.heap.push (emptySet w) } (.ref s.heap.objs.size) "set" := ⟨_, hS, rfl⟩
      have hli := F.called_set.init.lookup
      have hbi := F.called_set.init.bind (.ref s.heap.objs.size)
      repeat (any_goals (first | assumption | wp_step))
      refine codeAny_mono (codeAny_call_builtin (R := wants (fun r s₂ => r = .none ∧ ∃ h' tk, s₂ = { s with heap := h', toks := tk } ∧ Post h') E) F.called_set.init.plain F.entry_set_init (check_set_init_1 hT ?_)) fun r₂ s₂ hr₂ => ?_
      · obtain ⟨ol, hol, hcl, nl, hdl⟩ := hl
        obtain ⟨ocls, odict, odata, oslots⟩ := ol
        simp only at hcl hdl
        subst hcl; subst hdl
        have hol' : (s.heap.push (emptySet w)).get? l = some { cls := .type "list", dict := odict, data := .seq items nl, slots := oslots } := Heap.get?_push_of_some _ hol
        have hsls := F.sub_list_set
        have hslf := F.sub_list_frozenset
        have hne : (Value.type "list" == Value.type "dict") = false := by decide
        have hl1 : (s.heap.push (emptySet w)).IsList l items := ⟨_, hol', rfl, nl, rfl⟩
        unfold Builtin.«set.__init__» noKeywords Builtin.Frozenset.updateFrom
        generalize hPI : pyIter = PI
        wp_walk
        subst hPI
        refine wpAny_pyIter_list hl1 ?_
        refine wpAny_bind (wpAny_runValue ?_)
        refine fill _ _ _ (by simp [hh]) (by simp only [Around.in1_units]; omega) rfl fun s' eg ed eo hP => ?_
        obtain ⟨h', g2, d', tk', os'⟩ := s'
        have eg : g2 = s.gens := eg
        have ed : d' = s.drawn := ed
        have eo : os' = s.os := eo
        subst eg; subst ed; subst eo
        show wpAny _ _ _ _ _ _
        refine wpAny_pure ?_
        show wpAny _ _ (ret Value.none) _ _ _
        exact wpAny_pure ⟨rfl, h', tk', rfl, hP⟩
      · cases r₂ with
        | error e => exact hr₂
        | ok fl₂ =>
          cases fl₂ with
          | ret r =>
            obtain ⟨rfl, h', tk, rfl, hP⟩ := hr₂
            repeat (any_goals (first | assumption | wp_step))
            exact h _ _ hP
          | _ => exact hr₂.elim
    | _ => exact hr.elim

theorem it_apart {l : Addr} {items : Array Value} (hl : s.heap.IsList l items) : l ≠ (s.heap.push (emptySet w)).objs.size ∧ s.heap.objs.size ∉ [(s.heap.push (emptySet w)).objs.size, l] := by
  obtain ⟨o, ho, _⟩ := hl
  have h := Heap.lt_size ho
  rw [Heap.size_push]
  refine ⟨Nat.ne_of_lt (Nat.lt_succ_of_lt h), fun z => ?_⟩
  simp only [List.mem_cons, List.not_mem_nil, or_false] at z
  rcases z with z | z
  · exact Nat.ne_of_lt (Nat.lt_succ_self _) z
  · exact Nat.ne_of_gt h z

/-- set(xs), xs a list of nested keys -/
theorem set_of_keys {l : Addr} {items : Array Value} (ks : Mb) {Q : Value → Shared → Prop} (hh : A.handled = none) (hl : s.heap.IsList l items) (hit : items.toList = ks.map fun q => Value.ref q.1)
    (hk : Keys s.heap ks) (hfew : ks.length < 64) (hu : A.units + 16 < cLine)
    (h : ∀ (h' : Heap) (tk : Nat) L es ep t, SetN w h' s.heap.objs.size L es ep t → Has ks ks.length L → (∀ b o, s.heap.get? b = some o → h'.get? b = some o) → Q (.ref s.heap.objs.size) { s with heap := h', toks := tk }) :
    wpAny (model P w) A (call (.type "set") [.ref l]) Q E s := by
  have hisz : items.size = ks.length := by rw [← Array.length_toList, hit, List.length_map]
  obtain ⟨hneI, hSf⟩ := it_apart (w := w) hl
  refine set_list_call (fun h' => ∃ L es ep t, SetN w h' s.heap.objs.size L es ep t ∧ Has ks ks.length L ∧ ∀ b o, s.heap.get? b = some o → h'.get? b = some o) hh hl (fun A' s0 R hA hu' e0 k => ?_) fun h' tk ⟨L, es, ep, t, a, b, c⟩ => h h' tk L es ep t a b c
  have hval : ∀ (i : Nat) (v : Value), items[i]? = some v → ∃ q, ks[i]? = some q ∧ v = .ref q.1 := fun i v hv => by
    rw [← Array.getElem?_toList, hit, List.getElem?_map] at hv
    obtain ⟨q, hq, e⟩ := Option.map_eq_some_iff.mp hv
    exact ⟨q, hq, e.symm⟩
  refine fill_loop ((Walks.list hA _ l hneI items).toS) s.heap.objs.size hSf ks hisz hfew hval s.heap hk (none_above (Nat.le_refl _)) (fun b hb => none_above (by
      rw [List.mem_singleton.mp hb, Heap.size_push]
      exact Nat.le_succ _)) (by omega) (items.size - 0) 0 s0 (by omega) (Nat.zero_le _)
    ⟨⟨_, by rw [e0]; exact Heap.get?_push_size _ rfl, rfl, rfl⟩, by rw [e0]; exact (hl.push _).push _⟩ (fun b o e => by rw [e0]; exact fillHeap_old e) ⟨[], #[], 0, _, setN_empty (by rw [e0]; exact fillHeap_set w _ l), Has.none ks⟩ ?_
  intro s' L es ep t hm hS' g' hkp
  rw [hisz] at g'
  exact k s' hm.gens hm.drawn hm.os ⟨L, es, ep, t, hS', g', hkp⟩

/-- set(xs), xs a list of whole numbers -/
theorem set_of_ints {l : Addr} {items : Array Value} (ns : List Int) {Q : Value → Shared → Prop} (hh : A.handled = none) (hl : s.heap.IsList l items) (hit : IntsAre items.toList ns) (hb : ns.length + 1 < scanBound)
    (h : ∀ (h' : Heap) (tk : Nat) c, c ≤ ns.length → SetR w h' s.heap.objs.size (fun j => decide (j ∈ ns)) c → (∀ b o, s.heap.get? b = some o → h'.get? b = some o) → Q (.ref s.heap.objs.size) { s with heap := h', toks := tk }) :
    wpAny (model P w) A (call (.type "set") [.ref l]) Q E s := by
  have hisz : items.size = ns.length := by rw [← Array.length_toList]; exact hit.length
  obtain ⟨hneI, hSf⟩ := it_apart (w := w) hl
  refine set_list_call (fun h' => ∃ c, c ≤ ns.length ∧ SetR w h' s.heap.objs.size (fun j => decide (j ∈ ns)) c ∧ ∀ b o, s.heap.get? b = some o → h'.get? b = some o) hh hl (fun A' s0 R hA hu' e0 k => ?_) fun h' tk ⟨c, a, b, d⟩ => h h' tk c a b d
  have hval : ∀ (i : Nat) (v : Value), items[i]? = some v → ∃ z t, ns[i]? = some z ∧ v = .int z t := fun i v hv => by
    rw [← Array.getElem?_toList] at hv
    have hi : i < items.toList.length := (List.getElem?_eq_some_iff.mp hv).1
    obtain ⟨t, e⟩ := hit.int_at i v hv
    have hi2 : i < ns.length := by rw [← hit.length]; exact hi
    refine ⟨ns[i], t, List.getElem?_eq_getElem hi2, ?_⟩
    rw [e, List.getD_eq_getElem?_getD, List.getElem?_eq_getElem hi2] <;> rfl
  refine set_update_ints ((Walks.list hA _ l hneI items).toS) s.heap.objs.size hSf ns hisz hb hval (items.size - 0) 0 s0 (by omega) (Nat.zero_le _)
    ⟨⟨_, by rw [e0]; exact Heap.get?_push_size _ rfl, rfl, rfl⟩, by rw [e0]; exact (hl.push _).push _⟩ ⟨0, Nat.le_refl _, setR_new_at (by rw [e0]; exact fillHeap_set w _ l)⟩ ?_
  intro s' c hm hc hS'
  refine k s' hm.gens hm.drawn hm.os ⟨c, by omega, hS', fun b o e => ?_⟩
  refine hm.heap b o (fun hb => ?_) (by rw [e0]; exact fillHeap_old e)
  have hlt := Heap.lt_size e
  rcases List.mem_cons.mp hb with z | z
  · rw [z] at hlt
    exact Nat.lt_irrefl _ hlt
  · rw [List.mem_singleton.mp z, Heap.size_push] at hlt
    exact Nat.lt_irrefl _ (Nat.lt_of_succ_lt hlt)
end
end K20
namespace K20
open PySem PySem.Spec PyProof.Rows L2 PySem.W PySem.SeqAt

section
variable {prog : Program} {w : World} {A : Around} {E : Value → Shared → Prop} {s : Shared}
/-- the call of a tuple's own < -/
theorem tup_lt_call {Q : Value → Shared → Prop} {l b : Addr} {items items2 : Array Value} {e r : Nat → Bool} (hl : s.heap.IsTuple l items) (hb : s.heap.IsTuple b items2)
    (he : ∀ j (h1 : j < items.size) (h2 : j < items2.size), EqAt A.in1 s items[j] items2[j] (e j)) (hr : ∀ j (h1 : j < items.size) (h2 : j < items2.size), e j = false → RcLt A.in1 s items[j] items2[j] (r j))
    (h : Q (.bool (firstLt e r (decide (items.size < items2.size)) (List.range (min items.size items2.size)))) s) : wpAny (model prog w) A (call (.builtin "tuple.__lt__") [.ref l, .ref b]) Q E s := by
  obtain ⟨⟨c1, d1, q1, sl1⟩, ho, hc, n1, hd⟩ := id hl
  obtain ⟨⟨c2, d2, q2, sl2⟩, ho2, hc2, n2, hd2⟩ := id hb
  simp only at hc hd hc2 hd2
  subst hc hd hc2 hd2
  exact call_meets F.slot_tuple_lt ⟨_, ho, rfl⟩ F.entry_tuple_lt (F.args_tuple_lt_2 _ _) (tuple_ltAt l b items items2 n1 n2 d1 d2 sl1 sl2 e r) ⟨ho, ho2, he, hr, h⟩

/-- two tuples, compared by their own < -/
theorem one_lt_tuples {xs ys : List PyData} {a b : Value} {as bs : List Addr} {Q : Bool → Shared → Prop} (ra : Reads s.heap a (.tuple xs) as) (rb : Reads s.heap b (.tuple ys) bs) (h : alike (.tuple xs) (.tuple ys) = true)
    (hu : A.units + min (PyData.tuple xs).depth (PyData.tuple ys).depth < cLine) (hq : Q (dataLt (.tuple xs) (.tuple ys)) s) : wpAny (model prog w) A (oneLt' true a b) Q E s := by
  have hal : alikeAll xs ys = true := by simpa [alike] using h
  cases ra with
  | @tuple l o vs n _ as1 h1 h2 h3 h4 =>
    cases rb with
    | @tuple l' o' vs' n' _ bs1 k1 k2 k3 k4 =>
      have n1 : vs.size = xs.length := by simpa using SeqAt.ReadsAll.length _ _ _ h4
      have n2 : vs'.size = ys.length := by simpa using SeqAt.ReadsAll.length _ _ _ k4
      rw [dataLt_tuple, ← firstLt_toks xs ys hal, ← n1, ← n2] at hq
      rw [oneLt'_eq]
      simp only [if_true]
      refine wpAny_bind (wpAny_cRoomFor (room_here hu) ?_)
      refine wpAny_bind (wpAny_callSpecialIfBound?_slot (T := "tuple") ⟨_, h1, h2⟩ F.slot_tuple_lt (tup_lt_call (e := pairEq xs ys) (r := fun j => dataLt (xs.getD j .none) (ys.getD j .none)) ⟨_, h1, h2, _, h3⟩ ⟨_, k1, k2, _, k3⟩ (fun j j1 j2 => ?_) (fun j j1 j2 hj => ?_) ?_))
      · have := eqAt_alikeAll xs ys A.in1 s vs.toList vs'.toList _ _ h4 k4 hal (room_in hu) j (by simpa using j1) (by simpa using j2)
        simpa using this
      · have := rcLt_alikeAll xs ys A.in1 s vs.toList vs'.toList _ _ h4 k4 hal (room_in hu) j (by simpa using j1) (by simpa using j2) hj
        simpa using this
      · exact wpAny_truthy_bool hq

/-- what the sort asks first of each key: its first item -/
theorem firsts_of {M : Model} : ∀ {vs : List Value} {ds : List PyData}, EachIs (fun v d => ∃ as, Reads s.heap v d as) vs ds → (∀ d ∈ ds, ∃ xs, d = .tuple xs) →
    ∃ os : List (Option Value), (∀ Q : List (Option Value) → Shared → Prop, Q os s → wpAny M A (vs.mapM firstOfTuple') Q E s) ∧ os.length = vs.length ∧ ∀ (i : Nat) (f : Option Value), os[i]? = some f → ∃ xs, ds[i]? = some (.tuple xs) ∧ f.isSome = !xs.isEmpty
  | _, _, .nil, _ => ⟨[], fun Q h => by rw [List.mapM_nil]; exact wpAny_pure h, rfl, fun i f h => by simp at h⟩
  | v :: vs, d :: ds, .cons ⟨as, r⟩ t, ht => by
    obtain ⟨os, h1, h2, h3⟩ := firsts_of t fun d hd => ht d (List.mem_cons_of_mem _ hd)
    obtain ⟨xs, rfl⟩ := ht d List.mem_cons_self
    cases r with
    | @tuple a o us n _ _ ho hc hd hr =>
      refine ⟨us[0]? :: os, fun Q h => ?_, by rw [List.length_cons, List.length_cons, h2], fun i f hi => ?_⟩
      · rw [List.mapM_cons]
        refine wpAny_bind ?_
        rw [kas_first_eq]
        refine wpAny_bind (Looks.here (show Looks M s.heap (typeOf (.ref a)) o.cls from (Looks.ld ho).andThen .now) ?_)
        rw [hc, if_neg (by first | decide | simp)]
        refine wpAny_bind (listItems_at ho hd (wpAny_pure ?_))
        exact wpAny_bind (h1 (fun bs s' => wpAny M A (pure (us[0]? :: bs)) Q E s') (wpAny_pure h))
      · cases i with
        | zero =>
          refine ⟨xs, rfl, ?_⟩
          obtain rfl : us[0]? = f := by simpa using hi
          have hl : us.toList.length = xs.length := SeqAt.ReadsAll.length _ _ _ hr
          rw [← Array.getElem?_toList]
          generalize us.toList = l at hl
          cases l <;> cases xs <;> simp at hl ⊢
        | succ i => exact h3 i f (by simpa using hi)

theorem tup_types {M : Model} : ∀ {vs : List Value} {ds : List PyData}, EachIs (fun v d => ∃ as, Reads s.heap v d as) vs ds → (∀ d ∈ ds, ∃ xs, d = .tuple xs) → ∀ v ∈ vs, Looks M s.heap (typeOf v) (Value.type "tuple")
  | _, _, .nil, _ => fun v hv => by cases hv
  | v :: vs, d :: ds, .cons ⟨as, r⟩ t, ht => fun u hu => by
    rcases List.mem_cons.mp hu with e | hu
    · obtain ⟨xs, rfl⟩ := ht d List.mem_cons_self
      rw [e]
      exact looks_reads r
    · exact tup_types t (fun d hd => ht d (List.mem_cons_of_mem _ hd)) u hu

/-- tuples that read as alike data can be sorted, empty ones too -/
theorem sorts_tuples {vs : List Value} {ds : List PyData} (e : EachIs (fun v d => ∃ as, Reads s.heap v d as) vs ds) (hal : AllAlike ds) (ht : ∀ d ∈ ds, ∃ xs, d = .tuple xs) (hu : ∀ d, d ∈ ds → A.units + d.depth < cLine) :
    SortsAt prog w A s (dataKind s.heap ds) vs := by
  by_cases hall : ∀ d ∈ ds, ∃ x r, d = PyData.tuple (x :: r)
  · exact SortsAt.data e hal (.inl hall) hu
  · refine ⟨fun v hv => ?_, ?_⟩
    · obtain ⟨d, hd, as, r⟩ := e.left v hv
      exact ⟨_, dataKind_some hal hd r⟩
    · have room : ∀ {d d' : PyData}, d ∈ ds → A.units + min d.depth d'.depth < cLine := fun {d d'} hd => Nat.lt_of_le_of_lt (Nat.add_le_add_left (Nat.min_le_left _ _) _) (hu d hd)
      -- both ways of comparing
      have both : ∀ kd, kd = general' ∨ kd = oneType' → H.LtAt prog w A s (dataKind s.heap ds) kd := by
        intro kd hkd E x y a b Q ha hb hq
        obtain ⟨d, as, hd, ra, rfl⟩ := dataKind_inv ha
        obtain ⟨d', as', hd', rb, rfl⟩ := dataKind_inv hb
        obtain ⟨x1, rfl⟩ := ht d hd
        obtain ⟨x2, rfl⟩ := ht d' hd'
        rcases hkd with rfl | rfl
        · show wpAny _ _ (oneLt' false x y) Q E s
          exact oneLt_alike (fun h => by cases h) ra rb (hal _ hd _ hd') (fun h => by cases h) (room hd) hq
        · show wpAny _ _ (oneLt' true x y) Q E s
          exact one_lt_tuples ra rb (hal _ hd _ hd') (room hd) hq
      have hlen : vs.length = ds.length := e.length
      cases hv0 : ds with
      | nil =>
        subst hv0
        exact absurd (fun d hd => by cases hd) hall
      | cons d0 ds0 =>
        rw [← hv0]
        obtain ⟨x0, hx0⟩ := ht d0 (by rw [hv0]; exact List.mem_cons_self)
        have facts : ∀ (E : Value → Shared → Prop), ∃ os : List (Option Value), (∀ Q : List (Option Value) → Shared → Prop, Q os s → wpAny (model prog w) A (vs.mapM firstOfTuple') Q E s) ∧ (os.toArray.all fun x => x.isSome) = false ∧ ((os.toArray[0]?.bind id).isSome = !x0.isEmpty) := fun E => by
          obtain ⟨os, h1, h2, h3⟩ := firsts_of (E := E) (A := A) (M := model prog w) e ht
          refine ⟨os, h1, ?_, ?_⟩
          · cases hb : os.toArray.all fun x => x.isSome with
            | false => rfl
            | true =>
              refine absurd (fun d hd => ?_) hall
              obtain ⟨i, hi, rfl⟩ := List.getElem_of_mem hd
              have hio : i < os.length := by rw [h2, hlen]; exact hi
              obtain ⟨xs, e1, e2⟩ := h3 i os[i] (List.getElem?_eq_getElem hio)
              rw [List.getElem?_eq_getElem hi] at e1
              have hs : os[i].isSome = true := by
                have hb' : ∀ x ∈ os, x.isSome = true := by simpa using hb
                exact hb' _ (List.getElem_mem hio)
              rw [hs] at e2
              cases xs with
              | nil => simp at e2
              | cons x r => exact ⟨x, r, Option.some.inj e1⟩
          · have hv : 0 < os.length := by rw [h2, hlen, hv0]; exact Nat.succ_pos _
            obtain ⟨xs, e1, e2⟩ := h3 0 os[0] (List.getElem?_eq_getElem hv)
            rw [hv0] at e1
            have ex : x0 = xs := by
              have q := Option.some.inj (show some d0 = some (PyData.tuple xs) from e1)
              rw [hx0] at q
              injection q
            have e3 : os.toArray[0]? = some os[0] := by simp [hv]
            rw [e3, ex]
            exact e2
        cases hx : x0.isEmpty with
        | true =>
          refine ⟨oneType', both _ (.inr rfl), fun h2 E Q hq => ?_⟩
          obtain ⟨os, h1, ha, h0⟩ := facts E
          rw [keyKind'_eq, List.mapM_toArray, map_eq_pure_bind]
          refine wpAny_bind (wpAny_bind (h1 _ (wpAny_pure ?_)))
          rw [if_neg (by rw [ha]; decide), if_neg (by rw [h0, hx]; decide)]
          rw [oneTypeOnly'_eq, List.mapM_toArray, map_eq_pure_bind]
          refine wpAny_bind (wpAny_bind (wpAny_bind (kas_mapM (r := Value.type "tuple") _ (fun v hv Q' hq => (tup_types e ht v hv).here hq) (wpAny_pure ?_))))
          have a1 : ((List.map (fun _ => Value.type "tuple") vs).toArray.all fun x => x == Value.type "tuple") = true := by simp
          have a2 : (List.map (fun _ => Value.type "tuple") vs).toArray[0]? = some (Value.type "tuple") := by
            have : 0 < vs.length := by rw [hlen, hv0]; exact Nat.succ_pos _
            simp [this]
          rw [a2]
          simp only [a1, if_true]
          exact wpAny_pure (wpAny_pure hq)
        | false =>
          refine ⟨general', both _ (.inl rfl), fun h2 E Q hq => ?_⟩
          obtain ⟨os, h1, ha, h0⟩ := facts E
          rw [keyKind'_eq, List.mapM_toArray, map_eq_pure_bind]
          refine wpAny_bind (wpAny_bind (h1 _ (wpAny_pure ?_)))
          rw [if_neg (by rw [ha]; decide), if_pos (by rw [h0, hx]; rfl)]
          exact wpAny_pure hq
end
end K20
namespace K20
open PySem PySem.Spec PyProof.Rows L2 PySem.W PySem.SeqAt

/-! ### one sorted list for a set of keys -/
mutual
theorem toks_inj : ∀ (k j : NestedKey) (l m : List (Int ⊕ List Nat)), pureK k = true → pureK j = true → alike k.data j.data = true → keyToks k.data ++ l = keyToks j.data ++ m → k = j ∧ l = m
  | .none, _, _, _, h, _, _, _ => by simp [pureK] at h
  | .text _, _, _, _, h, _, _, _ => by simp [pureK] at h
  | .num i, .none, _, _, _, h, _, _ => by simp [pureK] at h
  | .num i, .text _, _, _, _, h, _, _ => by simp [pureK] at h
  | .num i, .tup _, _, _, _, _, h, _ => by simp [NestedKey.data, alike] at h
  | .num i, .num j, l, m, _, _, _, e => by
    simp only [NestedKey.data, keyToks, List.cons_append, List.nil_append, List.cons.injEq, Sum.inl.injEq] at e
    exact ⟨by rw [e.1], e.2⟩
  | .tup ks, .none, _, _, _, h, _, _ => by simp [pureK] at h
  | .tup ks, .text _, _, _, _, h, _, _ => by simp [pureK] at h
  | .tup ks, .num _, _, _, _, _, h, _ => by simp [NestedKey.data, alike] at h
  | .tup ks, .tup js, l, m, hk, hj, ha, e => by
    simp only [NestedKey.data, keyToks] at e
    simp only [pureK] at hk hj
    simp only [NestedKey.data, alike] at ha
    obtain ⟨e1, e2⟩ := toksAll_inj ks js l m hk hj ha e
    exact ⟨by rw [e1], e2⟩
theorem toksAll_inj : ∀ (ks js : List NestedKey) (l m : List (Int ⊕ List Nat)), pureKs ks = true → pureKs js = true → alikeAll (NestedKey.datas ks) (NestedKey.datas js) = true →
    keyToksAll (NestedKey.datas ks) ++ l = keyToksAll (NestedKey.datas js) ++ m → ks = js ∧ l = m
  | [], [], l, m, _, _, _, e => by
    simp only [NestedKey.datas, keyToksAll, List.cons_append, List.nil_append, List.cons.injEq] at e
    exact ⟨rfl, e.2⟩
  | [], j :: js, l, m, _, _, _, e => by
    simp only [NestedKey.datas, keyToksAll, List.cons_append, List.nil_append, List.cons.injEq, Sum.inl.injEq] at e
    exact absurd e.1 (by decide)
  | k :: ks, [], l, m, _, _, _, e => by
    simp only [NestedKey.datas, keyToksAll, List.cons_append, List.nil_append, List.cons.injEq, Sum.inl.injEq] at e
    exact absurd e.1 (by decide)
  | k :: ks, j :: js, l, m, hk, hj, ha, e => by
    simp only [pureKs, Bool.and_eq_true] at hk hj
    obtain ⟨a1, a2⟩ := alike_all_cons (by simpa only [NestedKey.datas] using ha)
    simp only [NestedKey.datas, keyToksAll, List.cons_append, List.append_assoc, List.cons.injEq, true_and] at e
    obtain ⟨e1, e2⟩ := toks_inj k j _ _ hk.1 hj.1 a1 e
    obtain ⟨e3, e4⟩ := toksAll_inj ks js l m hk.2 hj.2 a2 e2
    exact ⟨by rw [e1, e3], e4⟩
end

abbrev leK : NestedKey → NestedKey → Bool := dataLe false NestedKey.data
theorem leK_total : TotalLe leK := sortLe_total _ _ _
theorem leK_anti {k j : NestedKey} (hk : pureK k = true) (hj : pureK j = true) (ha : alike k.data j.data = true) (h1 : leK k j = true) (h2 : leK j k = true) : k = j := by
  have e1 : PyProof.Rows.lexLt itemOrd (keyToks j.data) (keyToks k.data) = false := by
    have q : (!PyProof.Rows.lexLt itemOrd (keyToks j.data) (keyToks k.data)) = true := h1
    simpa using q
  have e2 : PyProof.Rows.lexLt itemOrd (keyToks k.data) (keyToks j.data) = false := by
    have q : (!PyProof.Rows.lexLt itemOrd (keyToks k.data) (keyToks j.data)) = true := h2
    simpa using q
  have e := lex_total _ _ e2 e1
  exact (toks_inj k j [] [] hk hj ha (by rw [e])).1

def once : List NestedKey → List NestedKey
  | [] => []
  | k :: r => if k ∈ r then once r else k :: once r
theorem mem_once {k : NestedKey} : ∀ {l : List NestedKey}, k ∈ once l ↔ k ∈ l
  | [] => Iff.rfl
  | j :: r => by
    unfold once
    split
    · rename_i h
      rw [mem_once, List.mem_cons]
      exact ⟨.inr, fun z => z.elim (fun e => e ▸ h) id⟩
    · rw [List.mem_cons, List.mem_cons, mem_once]
theorem nodup_once : ∀ l : List NestedKey, (once l).Nodup
  | [] => List.nodup_nil
  | j :: r => by
    unfold once
    split
    · exact nodup_once r
    · rename_i h
      exact List.nodup_cons.mpr ⟨fun z => h (mem_once.mp z), nodup_once r⟩
/-- the keys of ks, each once, in order -/
def canon (ks : List NestedKey) : List NestedKey := (once ks).mergeSort leK
theorem mem_canon {k : NestedKey} {ks : List NestedKey} : k ∈ canon ks ↔ k ∈ ks := by
  unfold canon
  rw [(List.mergeSort_perm _ _).mem_iff, mem_once]
/-- keys that may be sorted together -/
def Fit (ks : List NestedKey) : Prop := ∀ k ∈ ks, pureK k = true ∧ ∀ j ∈ ks, alike k.data j.data = true
theorem canon_is {ks m : List NestedKey} (hf : Fit ks) (h1 : m.Nodup) (h2 : ∀ k, k ∈ m ↔ k ∈ ks) (h3 : m.Pairwise fun k j => leK k j = true) : m = canon ks := by
  have hp : m.Perm (canon ks) := (List.perm_ext_iff_of_nodup h1 ((List.mergeSort_perm _ _).nodup_iff.mpr (nodup_once ks))).mpr fun k => (h2 k).trans mem_canon.symm
  refine List.Perm.eq_of_pairwise (fun k j hk hj a b => ?_) h3 (sort_pairwise leK_total (once ks)) hp
  have hk' := (h2 k).mp hk
  have hj' := mem_canon.mp hj
  exact leK_anti (hf k hk').1 (hf j hj').1 ((hf k hk').2 j hj') a b
/-- equal sets have one sorted list; one sorted list, equal sets -/
theorem canon_eq {ks js : List NestedKey} (hf : Fit (ks ++ js)) : canon ks = canon js ↔ ∀ k, k ∈ ks ↔ k ∈ js := by
  constructor
  · intro e k
    rw [← mem_canon, e, mem_canon]
  · intro h
    refine canon_is (fun k hk => ⟨(hf k (List.mem_append_right _ hk)).1, fun j hj => (hf k (List.mem_append_right _ hk)).2 j (List.mem_append_right _ hj)⟩) ((List.mergeSort_perm _ _).nodup_iff.mpr (nodup_once ks)) (fun k => mem_canon.trans (h k)) (sort_pairwise leK_total _)

mutual
theorem deepK : ∀ k : NestedKey, k.data.depth ≤ k.depth
  | .none => by simp [NestedKey.data, PyData.depth]
  | .num _ => by simp [NestedKey.data, PyData.depth]
  | .text _ => by simp [NestedKey.data, PyData.depth]
  | .tup ks => by
    have h := deepKs ks
    simp only [NestedKey.data, PyData.depth, NestedKey.depth]
    omega
theorem deepKs : ∀ ks : List NestedKey, PyData.depthAll (NestedKey.datas ks) ≤ NestedKey.depthAll ks
  | [] => by simp [NestedKey.datas, PyData.depthAll]
  | k :: ks => by
    have h1 := deepK k
    have h2 := deepKs ks
    simp only [NestedKey.datas, PyData.depthAll, NestedKey.depthAll]
    omega
end
section
variable {P : Program} {w : World} {A : Around} {E : Value → Shared → Prop} {s : Shared}
theorem each_refs {h : Heap} : ∀ (L : Mb), Keys h L → EachIs (fun v d => ∃ as, Reads h v d as ∧ as = []) (L.map fun q => Value.ref q.1) (L.map fun q => q.2.data)
  | [], _ => .nil
  | q :: L, hk => .cons ⟨[], (hk q List.mem_cons_self).reads, rfl⟩ (each_refs L fun r hr => hk r (List.mem_cons_of_mem _ hr))
theorem each_self (L : Mb) : EachIs (fun v (q : Addr × NestedKey) => v = Value.ref q.1) (L.map fun q => Value.ref q.1) L := by
  induction L with
  | nil => exact .nil
  | cons q L ih => exact .cons rfl ih

theorem refs_each : ∀ {out : List Value} {M : Mb}, EachIs (fun v (q : Addr × NestedKey) => v = Value.ref q.1) out M → out = M.map fun q => Value.ref q.1
  | _, _, .nil => rfl
  | _, _, .cons h t => by rw [List.map_cons, ← refs_each t, h]

/-- sorted(a set of nested keys): a new list -/
theorem sorted_keys {a : Addr} {L : Mb} {es : Array (Int × Value)} {ep : Nat} {t : SetTable} {Q : Value → Shared → Prop} (R : SetN w s.heap a L es ep t) (hL : Keys s.heap L) (hh : A.handled = none)
    (htup : ∀ q ∈ L, ∃ js, q.2 = .tup js) (hf : Fit (ksOf L)) (hu : A.units + 16 < cLine)
    (hQ : ∀ s' p (out : Array Value) (c : Nat) (L' : Mb), (∀ b o, s.heap.get? b = some o → s'.heap.get? b = some o) → s'.gens = s.gens → s'.os = s.os → s.heap.objs.size ≤ p →
      s'.heap.get? p = some (seqObj "list" out c) → out.toList = L'.map (fun q => Value.ref q.1) → L'.Perm L → ksOf L' = canon (ksOf L) → Q (.ref p) s') :
    wpAny (model P w) A (call (.builtin "sorted") [.ref a]) Q E s := by
  obtain ⟨o, ho, hex, hd⟩ := R.at_
  have hsz := R.size
  have hfew := R.few
  refine Calls.call_function_entry kind_sorted plain_sorted entry_sorted (args_sorted1 _) ?_
  unfold Builtin.«sorted»
  refine wpAny_bind (m := checkCount "sorted" 1 1 _) (wpAny_pure ?_)
  refine wpAny_bind (collect_set (A := A.in1) hh ⟨o, ho, hex.1, hd⟩ R.fits (by unfold scanBound; omega) R.tab.ris R.led fun s1 vs k1 hz g1 o1 pm => ?_)
  have hes : es.toList.map (·.2) = L.map fun q => Value.ref q.1 := by
    rw [R.rows]
    unfold tblRows
    rw [List.map_map] <;> rfl
  rw [hes] at pm
  -- the members in the order of the walk
  obtain ⟨L1, e1, pL1⟩ : ∃ L1 : Mb, vs = L1.map (fun q => Value.ref q.1) ∧ L1.Perm L := by
    have gen : ∀ {us vs : List Value}, vs.Perm us → ∀ L : Mb, us = L.map (fun q => Value.ref q.1) → ∃ L1 : Mb, vs = L1.map (fun q => Value.ref q.1) ∧ L1.Perm L := by
      intro us vs h
      induction h with
      | nil =>
        intro L e
        cases L with
        | nil => exact ⟨[], rfl, .nil⟩
        | cons q L => exact nomatch e
      | cons x _ ih =>
        intro L e
        cases L with
        | nil => exact nomatch e
        | cons q L =>
          injection e with h1 h2
          obtain ⟨L1, e1, p1⟩ := ih L h2
          exact ⟨q :: L1, by rw [List.map_cons, ← e1, h1], p1.cons q⟩
      | swap x y l =>
        intro L e
        match L, e with
        | q :: r :: L, e =>
          injection e with h1 h2
          injection h2 with h2 h3
          exact ⟨r :: q :: L, by rw [List.map_cons, List.map_cons, h1, h2, h3], .swap q r L⟩
      | trans _ _ ih1 ih2 =>
        intro L e
        obtain ⟨L2, e2, p2⟩ := ih2 L e
        obtain ⟨L1, e1, p1⟩ := ih1 L2 e2
        exact ⟨L1, e1, p1.trans p2⟩
    exact gen pm L rfl
  have hl1 : L1.length = L.length := pL1.length_eq
  have e0 : EachIs (fun v (q : Addr × NestedKey) => v = Value.ref q.1) vs L1 := by
    rw [e1]
    exact each_self L1
  have hvl : vs.length = L.length := by rw [e1, List.length_map, hl1]
  refine wpAny_bind (wpAny_newList ?_ (by rw [sizeLine_eq]; omega))
  have hoL : (s1.heap.push (seqObj "list" vs.toArray 0)).get? s1.heap.objs.size = some (seqObj "list" vs.toArray 0) := Heap.get?_push_size _ rfl
  have k2 : ∀ b u, s.heap.get? b = some u → (s1.heap.push (seqObj "list" vs.toArray 0)).get? b = some u := fun b u e => Heap.get?_push_of_some _ (k1 b u e)
  -- the heap within the sort
  have hne : ∀ {b u}, s.heap.get? b = some u → b ≠ s1.heap.objs.size := fun e => Nat.ne_of_lt (Heap.lt_size (k1 _ _ e))
  have k3 : ∀ b u, s.heap.get? b = some u → (sortingHeap (s1.heap.push (seqObj "list" vs.toArray 0)) s1.heap.objs.size vs).get? b = some u := fun b u e => sortingHeap_old (hne e) (k2 b u e)
  have hK : Keys (sortingHeap (s1.heap.push (seqObj "list" vs.toArray 0)) s1.heap.objs.size vs) L1 := fun q hq => (hL q (pL1.mem_iff.mp hq)).keep k3
  have er : EachIs (fun v d => ∃ as, Reads (sortingHeap (s1.heap.push (seqObj "list" vs.toArray 0)) s1.heap.objs.size vs) v d as) vs (L1.map fun q => q.2.data) := by
    have z := (each_refs L1 hK).mono (R' := fun v d => ∃ as, Reads (sortingHeap (s1.heap.push (seqObj "list" vs.toArray 0)) s1.heap.objs.size vs) v d as) fun _ _ ⟨as, r, _⟩ => ⟨as, r⟩
    rw [← e1] at z
    exact z
  have hf1 : Fit (ksOf L1) := fun k hk => by
    have m1 : ∀ k, k ∈ ksOf L1 → k ∈ ksOf L := fun k hk => (pL1.map (·.2)).mem_iff.mp hk
    exact ⟨(hf k (m1 k hk)).1, fun j hj => (hf k (m1 k hk)).2 j (m1 j hj)⟩
  have hal : AllAlike (L1.map fun q => q.2.data) := fun d hd d' hd' => by
    obtain ⟨q, hq, rfl⟩ := List.mem_map.mp hd
    obtain ⟨r, hr, rfl⟩ := List.mem_map.mp hd'
    exact (hf1 q.2 (List.mem_map.mpr ⟨q, hq, rfl⟩)).2 r.2 (List.mem_map.mpr ⟨r, hr, rfl⟩)
  have deep : ∀ k : NestedKey, k.data.depth ≤ k.depth := deepK
  have S : SortsAt P w A.in1.in1 { s1 with heap := sortingHeap (s1.heap.push (seqObj "list" vs.toArray 0)) s1.heap.objs.size vs } (dataKind (sortingHeap (s1.heap.push (seqObj "list" vs.toArray 0)) s1.heap.objs.size vs) (L1.map fun q => q.2.data)) vs := by
    refine sorts_tuples (s := { s1 with heap := sortingHeap (s1.heap.push (seqObj "list" vs.toArray 0)) s1.heap.objs.size vs }) er hal (fun d hd => ?_) fun d hd => ?_
    · obtain ⟨q, hq, rfl⟩ := List.mem_map.mp hd
      obtain ⟨js, e⟩ := htup q (pL1.mem_iff.mp hq)
      exact ⟨NestedKey.datas js, by rw [e, NestedKey.data]⟩
    · obtain ⟨q, hq, rfl⟩ := List.mem_map.mp hd
      have q1 := deep q.2
      have q2 := (hL q (pL1.mem_iff.mp hq)).2
      simp only [Around.in1_units]
      omega
  have hT : Shared.TypeIs { s1 with heap := s1.heap.push (seqObj "list" vs.toArray 0) } (.ref s1.heap.objs.size) "list" := ⟨_, hoL, rfl⟩
  refine wpAny_bind (wpAny_holding (wpAny_call_entry slot_list_sort hT entry_list_sort (list_sort_vals (s := { s1 with heap := s1.heap.push (seqObj "list" vs.toArray 0) }) hoL S (by rw [hvl, sizeLine_eq]; omega) ?_)))
  have hsv : sortVals (dataKind (sortingHeap (s1.heap.push (seqObj "list" vs.toArray 0)) s1.heap.objs.size vs) (L1.map fun q => q.2.data)) false vs vs = (L1.mergeSort (dataLe false fun q => q.2.data)).map fun q => Value.ref q.1 := by
    have z := sortVals_data (h' := sortingHeap (s1.heap.push (seqObj "list" vs.toArray 0)) s1.heap.objs.size vs) (R := fun v (q : Addr × NestedKey) => v = Value.ref q.1) (enc := fun q => q.2.data) false e0 (by
      refine (each_mem e0).mono fun v q hvq => ?_
      rw [hvq.1]
      exact ⟨[], (hK q hvq.2).reads⟩) hal
    exact refs_each z
  rw [hsv]
  obtain ⟨c, hc⟩ := sortedHeap_at (vs := vs) (out := ((L1.mergeSort (dataLe false fun q => q.2.data)).map fun q => Value.ref q.1).toArray) hoL
  have pL : (L1.mergeSort (dataLe false fun q => q.2.data)).Perm L := (List.mergeSort_perm _ _).trans pL1
  refine ⟨_, rfl, wpAny_pure ⟨_, rfl, hQ _ s1.heap.objs.size _ c (L1.mergeSort (dataLe false fun q => q.2.data)) (fun b u e => ?_) g1 o1 hz hc rfl pL ?_⟩⟩
  · show (sortedHeap (s1.heap.push (seqObj "list" vs.toArray 0)) s1.heap.objs.size vs _).get? b = some u
    rw [sortedHeap_old (hne e) (by rw [size_push']; exact Nat.lt_succ_of_lt (Heap.lt_size (k1 _ _ e)))]
    exact k2 b u e
  · refine canon_is hf ?_ (fun k => (pL.map (·.2)).mem_iff) ?_
    · exact (pL.map (·.2)).nodup_iff.mpr R.nodup
    · unfold ksOf
      rw [List.pairwise_map]
      exact sort_pairwise (le := dataLe false fun q : Addr × NestedKey => q.2.data) (sortLe_total _ _ _) L1
end
end K20
namespace K20
open PySem PySem.Spec PyProof.Rows L2

mutual
/-- v stands for the data k -/
def DV (K : PySem.W.Frag) (H : Hp) : NestedKey → V → Prop
  | .num i, v => v = .int i
  | .tup ks, v => ∃ a xs, v = .ref a ∧ SqT K H a xs ∧ DVs K H ks xs
  | .none, _ => False
  | .text _, _ => False
def DVs (K : PySem.W.Frag) (H : Hp) : List NestedKey → List V → Prop
  | [], xs => xs = []
  | k :: ks, xs => ∃ x r, xs = x :: r ∧ DV K H k x ∧ DVs K H ks r
end
theorem rd_same {H H' : Hp} {a : Addr} {u : HO} (e : Same H H') (h : Rd H a u) : Rd H' a u := by
  rcases h with h | ⟨o, h⟩
  · exact .inl (e _ _ h)
  · exact .inr ⟨o, e _ _ h⟩
theorem sqT_same {K : PySem.W.Frag} {H H' : Hp} {a : Addr} {xs : List V} (e : Same H H') (h : SqT K H a xs) : SqT K H' a xs := by
  rcases h with h | h
  · exact .inl (rd_same e h)
  · exact .inr h
mutual
theorem DV.same {K : PySem.W.Frag} {H H' : Hp} (e : Same H H') : ∀ {k : NestedKey} {v : V}, DV K H k v → DV K H' k v
  | .num _, _, x => x
  | .tup ks, v, x => by
    obtain ⟨a, xs, h1, h2, h3⟩ := x
    exact ⟨a, xs, h1, sqT_same e h2, DVs.same e h3⟩
theorem DVs.same {K : PySem.W.Frag} {H H' : Hp} (e : Same H H') : ∀ {ks : List NestedKey} {xs : List V}, DVs K H ks xs → DVs K H' ks xs
  | [], _, x => x
  | k :: ks, xs, x => by
    obtain ⟨y, r, h1, h2, h3⟩ := x
    exact ⟨y, r, h1, DV.same e h2, DVs.same e h3⟩
end
theorem DVs.length {K : PySem.W.Frag} {H : Hp} : ∀ {ks : List NestedKey} {xs : List V}, DVs K H ks xs → xs.length = ks.length
  | [], _, x => by cases (show _ = [] from x); rfl
  | k :: ks, xs, x => by
    obtain ⟨y, r, rfl, _, h3⟩ := x
    rw [List.length_cons, List.length_cons, DVs.length h3]
theorem DVs.get {K : PySem.W.Frag} {H : Hp} : ∀ {ks : List NestedKey} {xs : List V} {i : Nat} {k : NestedKey}, DVs K H ks xs → ks[i]? = some k → ∃ x, xs[i]? = some x ∧ DV K H k x
  | [], _, _, _, _, e => by simp at e
  | k :: ks, xs, 0, _, x, e => by
    obtain ⟨y, r, rfl, h2, h3⟩ := x
    obtain rfl : k = _ := by simpa using e
    exact ⟨y, rfl, h2⟩
  | k :: ks, xs, i + 1, _, x, e => by
    obtain ⟨y, r, rfl, h2, h3⟩ := x
    exact DVs.get (i := i) h3 (by simpa using e)
theorem DVs.snoc {K : PySem.W.Frag} {H : Hp} : ∀ {ks : List NestedKey} {xs : List V} {k : NestedKey} {x : V}, DVs K H ks xs → DV K H k x → DVs K H (ks ++ [k]) (xs ++ [x])
  | [], _, k, x, h, d => by
    cases (show _ = [] from h)
    exact ⟨x, [], rfl, d, rfl⟩
  | k :: ks, xs, _, _, h, d => by
    obtain ⟨y, r, rfl, h2, h3⟩ := h
    exact ⟨y, r ++ _, rfl, h2, DVs.snoc h3 d⟩
theorem DVs.nums {K : PySem.W.Frag} {H : Hp} : ∀ {ns : List Int} {xs : List V}, DVs K H (ns.map .num) xs ↔ xs = ns.map V.int
  | [], _ => Iff.rfl
  | n :: ns, xs => by
    constructor
    · rintro ⟨y, r, rfl, h2, h3⟩
      rw [DVs.nums.mp h3, show y = .int n from h2] <;> rfl
    · rintro rfl
      exact ⟨_, _, rfl, rfl, DVs.nums.mpr rfl⟩

section
variable {X : Cx} {pins : List (Addr × Obj)} {σ : L2.St} {H : Hp} {s : Shared}
mutual
theorem readK_of (I : L2.Inv X pins σ H s) : ∀ {k : NestedKey} {v : V} {u : Value}, DV X.K H k v → RelV v u → ReadK s.heap k u
  | .num i, v, u, x, r => by
    obtain rfl : v = .int i := x
    exact r
  | .tup ks, v, u, x, r => by
    obtain ⟨a, xs, rfl, h2, h3⟩ := x
    obtain rfl : u = .ref a := r
    obtain ⟨its, rv, ⟨o, ho, hc, n, hd⟩, _⟩ := I.tuple h2
    exact ⟨a, o, its.toArray, n, rfl, ho, hc, hd, by simpa using readKs_of I h3 rv⟩
theorem readKs_of (I : L2.Inv X pins σ H s) : ∀ {ks : List NestedKey} {xs : List V} {us : List Value}, DVs X.K H ks xs → Vals xs us → ReadKs s.heap ks us
  | [], xs, us, x, r => by
    cases (show xs = [] from x)
    cases r
    rfl
  | k :: ks, xs, us, x, r => by
    obtain ⟨y, z, rfl, h2, h3⟩ := x
    cases r with
    | cons r1 r2 => exact ⟨_, _, rfl, readK_of I h2 r1, readKs_of I h3 r2⟩
end

/-- a list of keys is sorted as a set: they are whole numbers, or tuples, of one kind -/
def Sortd (ks : List NestedKey) : Prop := (∃ ns : List Int, ks = ns.map .num) ∨ ((∀ k ∈ ks, ∃ js, k = .tup js) ∧ Fit ks ∧ ∀ k ∈ ks, k.depth ≤ 8)
/-- sorted(set(xs)): a new list, the keys each once, in order -/
def tSortSet (K : PySem.W.Frag) (ta : TE) : TE := fun σ H Q => ta σ H fun x H1 => ∃ (l : Addr) (xs : List V) (ks : List NestedKey), x = V.ref l ∧ SqL K H1 l xs ∧ DVs K H1 ks xs ∧ ks.length < 64 ∧ Sortd ks ∧
  ∀ (p : Addr) (ys : List V), H1 p = none → DVs K H1 (canon ks) ys → ys.length ≤ ks.length → Q (.ref p) (upd H1 p (.lst ys))

theorem mb_of {K : PySem.W.Frag} : ∀ {ks : List NestedKey} {xs : List V}, DVs K H ks xs → (∀ k ∈ ks, ∃ js, k = .tup js) → ∃ L : Mb, ksOf L = ks ∧ xs = L.map (fun q => V.ref q.1) ∧ ∀ q ∈ L, DV K H q.2 (.ref q.1)
  | [], xs, x, _ => by
    cases (show xs = [] from x)
    exact ⟨[], rfl, rfl, fun q h => by cases h⟩
  | k :: ks, xs, x, ht => by
    obtain ⟨y, r, rfl, h2, h3⟩ := x
    obtain ⟨L, e1, e2, e3⟩ := mb_of h3 fun k hk => ht k (List.mem_cons_of_mem _ hk)
    obtain ⟨js, rfl⟩ := ht k List.mem_cons_self
    obtain ⟨a, zs, rfl, h4⟩ := id h2
    refine ⟨(a, .tup js) :: L, by rw [← e1] <;> rfl, by rw [e2] <;> rfl, fun q hq => ?_⟩
    rcases List.mem_cons.mp hq with e | hq
    · rw [e]; exact h2
    · exact e3 q hq
theorem of_mb {K : PySem.W.Frag} : ∀ (L : Mb), (∀ q ∈ L, DV K H q.2 (.ref q.1)) → DVs K H (ksOf L) (L.map fun q => V.ref q.1)
  | [], _ => rfl
  | q :: L, h => ⟨_, _, rfl, h q List.mem_cons_self, of_mb L fun r hr => h r (List.mem_cons_of_mem _ hr)⟩
theorem vals_mb : ∀ (L : Mb), Vals (L.map fun q => V.ref q.1) (L.map fun q => Value.ref q.1)
  | [] => .nil
  | q :: L => .cons rfl (vals_mb L)
theorem vals_mb_of : ∀ {L : Mb} {us : List Value}, Vals (L.map fun q => V.ref q.1) us → us = L.map fun q => Value.ref q.1
  | [], _, .nil => rfl
  | q :: L, _, .cons r t => by
    obtain rfl : _ = Value.ref q.1 := r
    rw [vals_mb_of t] <;> rfl

theorem le_num (i j : Int) : leK (.num i) (.num j) = decide (i ≤ j) := by
  show (!PySem.W.dataLt (.int j) (.int i)) = _
  rw [PySem.W.dataLt_int]
  by_cases h : j < i
  · simp [h, show ¬ i ≤ j by omega]
  · simp [h, show i ≤ j by omega]
theorem canon_nums {ns ms : List Int} (h1 : ms.Pairwise (· < ·)) (h2 : ∀ k, k ∈ ms ↔ k ∈ ns) : ms.map NestedKey.num = canon (ns.map .num) := by
  refine canon_is (fun k hk => ?_) ?_ (fun k => ?_) ?_
  · obtain ⟨i, _, rfl⟩ := List.mem_map.mp hk
    refine ⟨rfl, fun j hj => ?_⟩
    obtain ⟨i', _, rfl⟩ := List.mem_map.mp hj
    rfl
  · exact List.pairwise_map.mpr (h1.imp fun {a b} h e => by injection e with e; omega)
  · rw [List.mem_map, List.mem_map]
    exact ⟨fun ⟨i, hi, e⟩ => ⟨i, (h2 i).mp hi, e⟩, fun ⟨i, hi, e⟩ => ⟨i, (h2 i).mpr hi, e⟩⟩
  · exact List.pairwise_map.mpr (h1.imp fun {a b} h => by rw [le_num]; exact decide_eq_true (by omega))

theorem once_len : ∀ ks : List NestedKey, (once ks).length ≤ ks.length
  | [] => Nat.le_refl _
  | k :: r => by
    unfold once
    have := once_len r
    split
    · simp; omega
    · simp; omega
theorem canon_len (ks : List NestedKey) : (canon ks).length ≤ ks.length := by
  unfold canon
  rw [(List.mergeSort_perm _ _).length_eq]
  exact once_len ks

theorem pe_sset {a : Expr} {ta : TE} {p p2 q pos : Pos} (hc : X.calm = true) (hu : X.A.units + 64 < cLine) (hg : Gl X "sorted") (hm : X.mg "sorted" = none) (hg2 : Gl X "set") (hm2 : X.mg "set" = none) (ha : PE X a ta)
    (na : starEach [a] X.env = (false, eval a X.env) :: starEach [] X.env := by rfl) : PE X (.Call (.Name "sorted" p) [.Call (.Name "set" p2) [a] [] q] [] pos) (tSortSet X.K ta) := by
  refine ⟨fun pins s σ H Q I h => ?_⟩
  refine Call_ (ld_blt (u := .builtin "sorted") I hg hm (by decide +kernel) ?_)
  refine PyProof.Rows.callWith_builtin1 (PyProof.Rows.args_cons ?_ rfl) rfl rfl
  refine Call_ (ld_blt I hg2 hm2 PyProof.Rows.boot_set ?_)
  refine PyProof.Rows.callWith_type1 (PyProof.Rows.args_cons (thn (ha.run pins s σ H _ I h) fun v s1 ⟨x, H1, I1, r1, q1⟩ => PyProof.Rows.args_nil ?_) na) na rfl
  obtain ⟨l, xs, ks, rfl, hq, hd, h64, hk, q1⟩ := q1
  cases r1
  obtain ⟨its, r, pl, hz⟩ := I1.list hq
  -- the end of both ways
  have fin : ∀ (h' : Heap) (tk : Nat) (s' : Shared) (p : Addr) (out : Array Value) (c : Nat) (ys : List V), (∀ b o, s1.heap.get? b = some o → h'.get? b = some o) → (∀ b o, h'.get? b = some o → s'.heap.get? b = some o) → s'.gens = s1.gens → s'.os = s1.os →
      h'.objs.size ≤ p → s'.heap.get? p = some (seqObj "list" out c) → Vals ys out.toList → DVs X.K H1 (canon ks) ys → EP X pins σ Q (.ref p) s' := by
    intro h' tk s' p out c ys k1 k2 g o hp hg hv hds
    have I2 : L2.Inv X pins σ H1 { s1 with heap := h', toks := tk } := I1.kept (t' := tk) k1
    have hn : H1 p = none := I2.hok.fresh hp
    have hl : ys.length ≤ ks.length := by rw [hds.length]; exact canon_len ks
    have hlen : ys.length ≤ sizeLine := by rw [sizeLine_eq]; omega
    have J : L2.Inv X pins σ (upd H1 p (.lst ys)) { s1 with heap := s'.heap, gens := s'.gens, drawn := s'.drawn, toks := s'.toks } :=
      L2.Inv.call (s := { s1 with heap := h', toks := tk }) I2 (ch := []) (Un.laid k2 hp hn) (I2.hok.laid k2 hp ⟨hlen, out.toList, c, hv, hg⟩) (by rw [g]; exact I1.bare) (fun _ z => nomatch z)
    have e : s' = { s1 with heap := s'.heap, gens := s'.gens, drawn := s'.drawn, toks := s'.toks } := by
      cases s'
      cases s1
      cases o
      rfl
    rw [e]
    exact ⟨.ref p, _, J, rfl, q1 p ys hn hds hl⟩
  rcases hk with ⟨ns, rfl⟩ | ⟨ht, hf, hdep⟩
  · rw [DVs.nums] at hd
    subst hd
    refine set_of_ints ns (I1.ok.hd hc) pl.isList (by simpa using r.ints) (by rw [List.length_map] at h64; unfold scanBound; omega) fun h' tk c hcn hS hk1 => ?_
    refine PyProof.Rows.args_nil ?_
    rw [List.length_map] at h64
    refine sorted_set hS (I1.ok.hd hc) (by omega) fun s' p out c' ms k2 g o hp hg hi hs hm hl => ?_
    have hms : ∀ k, k ∈ ms ↔ k ∈ ns := fun k => (hm k).trans (by simp)
    exact fin h' tk s' p out c' (ms.map V.int) hk1 k2 g o hp hg (vals_of_ints hi) (by rw [← canon_nums hs hms]; exact DVs.nums.mpr rfl)
  · obtain ⟨L, rfl, rfl, hL⟩ := mb_of hd ht
    have hK : Keys s1.heap L := fun q hq => ⟨readK_of I1 (hL q hq) rfl, hdep q.2 (List.mem_map.mpr ⟨q, hq, rfl⟩)⟩
    rw [List.length_map] at h64
    refine set_of_keys L (I1.ok.hd hc) pl.isList (by simpa using vals_mb_of r) hK h64 (by omega) fun h' tk L' es ep t hS g hk1 => ?_
    refine PyProof.Rows.args_nil ?_
    have mem : ∀ q ∈ L', q ∈ L := g.mem
    have memk : ∀ k, k ∈ ksOf L' ↔ k ∈ ksOf L := fun k => by
      constructor
      · intro h
        obtain ⟨q, hq, rfl⟩ := List.mem_map.mp h
        exact List.mem_map.mpr ⟨q, mem q hq, rfl⟩
      · intro h
        obtain ⟨q, hq, rfl⟩ := List.mem_map.mp h
        exact g.all q (by rw [List.take_length]; exact hq)
    have hf' : Fit (ksOf L') := fun k hk => ⟨(hf k ((memk k).mp hk)).1, fun j hj => (hf k ((memk k).mp hk)).2 j ((memk j).mp hj)⟩
    refine sorted_keys (s := { s1 with heap := h', toks := tk }) hS (fun q hq => (hK q (mem q hq)).keep hk1) (I1.ok.hd hc) (fun q hq => ht q.2 (List.mem_map.mpr ⟨q, mem q hq, rfl⟩)) hf' (by omega) fun s' p out c L2 k2 g2 o hp hg hout pm hcan => ?_
    have e : canon (ksOf L') = canon (ksOf L) := (canon_eq (fun k hk => by
      have m : ∀ k, k ∈ ksOf L' ++ ksOf L → k ∈ ksOf L := fun k hk => (List.mem_append.mp hk).elim (fun z => (memk k).mp z) id
      exact ⟨(hf k (m k hk)).1, fun j hj => (hf k (m k hk)).2 j (m j hj)⟩)).mpr memk
    refine fin h' tk s' p out c (L2.map fun q => V.ref q.1) hk1 k2 g2 o hp hg (by rw [hout]; exact vals_mb L2) ?_
    rw [← e, ← hcan]
    exact of_mb L2 fun q hq => hL q (mem q (pm.mem_iff.mp hq))
end
end K20
/-! The text by places, and what stands for what. -/
namespace K20
open PySem L2 Pm
def top (i : Nat) : Stmt := PySem.Challenge.pw_fixworlds_k20_whole_portraits.main.body.getD i (.Pass ⟨0, 0, 0, 0⟩)
abbrev sConj : Stmt := top 5
abbrev sDisj : Stmt := top 6
abbrev sAsc : Stmt := top 9
abbrev sRight : Stmt := top 10
abbrev sInit : Stmt := inClass (top 11) 0
abbrev sFol : Stmt := top 12
abbrev sShown : Stmt := top 15
abbrev sDrawn : Stmt := top 16
abbrev sPort : Stmt := top 17
abbrev sDraws : Stmt := top 19
abbrev sTake : Stmt := top 20
abbrev sIsInt : Stmt := top 21
abbrev sInner : Stmt := top 22
abbrev sFree : Stmt := top 23
abbrev sWorld : Stmt := top 24
abbrev sMade : Stmt := top 25
abbrev sBeh : Stmt := top 26
abbrev sValue : Stmt := top 27
abbrev sTruth : Stmt := top 28
abbrev sClasses : Stmt := top 29
abbrev sBeside : Stmt := top 30
abbrev sIsSt : Stmt := top 31
abbrev sOut : Stmt := top 32
abbrev sLaw : Stmt := top 33

/-- the built-ins' names are free -/
structure Blt (mg : Str → Option Value) : Prop where
  len : mg "len" = none
  range : mg "range" = none
  min : mg "min" = none
  max : mg "max" = none
  tuple : mg "tuple" = none
  list : mg "list" = none
  sorted : mg "sorted" = none
  set : mg "set" = none
  int : mg "int" = none
  bool : mg "bool" = none
  isinstance : mg "isinstance" = none

/-! ### heaps -/
theorem same_new {H : Hp} {p : Addr} {o : HO} (h : H p = none) : Same H (upd H p o) := fun b x e => by
  rw [upd_ne (ne_of_none e h)]
  exact e
theorem _root_.L2.Same.mut {H H1 : Hp} {p : Addr} {o : HO} (e : Same H H1) (h : H p = none) : Same H (upd H1 p o) := fun b x q => by
  rw [upd_ne (ne_of_none q h)]
  exact e b x q
theorem _root_.L2.Same.and_new {H H1 : Hp} {p : Addr} {o : HO} (e : Same H H1) (h : H1 p = none) : Same H (upd H1 p o) := e.trans (same_new h)
theorem _root_.L2.Same.seqT {K : PySem.W.Frag} {H H' : Hp} {a : Addr} {xs : List V} (e : Same H H') (h : SqT K H a xs) : SqT K H' a xs := sqT_same e h
theorem at_len {α : Type} {l : List α} {i : Nat} {x : α} (h : l[i]? = some x) : i < l.length := (List.getElem?_eq_some_iff.mp h).1
theorem take_snoc {α : Type} {l : List α} {i : Nat} {x : α} (h : l[i]? = some x) : l.take (i + 1) = l.take i ++ [x] := by
  rw [List.take_add_one, h]
  rfl
theorem cut_tail (xs : List V) : cutV xs (some 1) none = xs.drop 1 := by
  unfold cutV
  rw [show HT.sIx xs.length 0 (some 1) = min 1 xs.length from HT.sIx_nat xs.length 0 1, HT.sIx_none]
  cases xs with
  | nil => rfl
  | cons x r =>
    rw [show min 1 (x :: r).length = 1 by rw [List.length_cons]; omega]
    show (List.take ((x :: r).length - 1) r) = r
    rw [List.length_cons, Nat.add_sub_cancel]
    exact List.take_length
theorem small {n : Nat} (h : n ≤ 1000) : n ≤ sizeLine := Nat.le_of_lt (small1000 h)

/-! ### numbers -/
abbrev nv (n : Nat) : V := .int (n : Int)
abbrev nvs (l : List Nat) : List V := l.map nv
theorem nvs_get {l : List Nat} {i : Nat} {x : V} (h : (nvs l)[i]? = some x) : ∃ n, l[i]? = some n ∧ x = nv n := by
  rw [List.getElem?_map] at h
  obtain ⟨n, h1, h2⟩ := Option.map_eq_some_iff.mp h
  exact ⟨n, h1, h2.symm⟩

/-! ### rows that go together -/
/-- xs stand for as, one by one -/
def Each {α : Type} (R : α → V → Prop) : List α → List V → Prop
  | [], xs => xs = []
  | a :: as, xs => ∃ x r, xs = x :: r ∧ R a x ∧ Each R as r
theorem Each.imp {α : Type} {R R' : α → V → Prop} (h : ∀ a x, R a x → R' a x) : ∀ {as : List α} {xs : List V}, Each R as xs → Each R' as xs
  | [], _, e => e
  | a :: as, xs, e => by
    obtain ⟨x, r, e1, e2, e3⟩ := e
    exact ⟨x, r, e1, h a x e2, Each.imp h e3⟩
theorem Each.length {α : Type} {R : α → V → Prop} : ∀ {as : List α} {xs : List V}, Each R as xs → xs.length = as.length
  | [], _, e => by cases (show _ = [] from e); rfl
  | a :: as, xs, e => by
    obtain ⟨x, r, rfl, _, e3⟩ := e
    rw [List.length_cons, List.length_cons, Each.length e3]
theorem Each.get {α : Type} {R : α → V → Prop} : ∀ {as : List α} {xs : List V} {i : Nat} {x : V}, Each R as xs → xs[i]? = some x → ∃ a, as[i]? = some a ∧ R a x
  | [], _, _, _, e, h => by cases (show _ = [] from e); simp at h
  | a :: as, xs, 0, x, e, h => by
    obtain ⟨y, r, rfl, e2, e3⟩ := e
    obtain rfl : y = x := by simpa using h
    exact ⟨a, rfl, e2⟩
  | a :: as, xs, i + 1, x, e, h => by
    obtain ⟨y, r, rfl, e2, e3⟩ := e
    exact Each.get (i := i) e3 (by simpa using h)
theorem Each.at {α : Type} {R : α → V → Prop} : ∀ {as : List α} {xs : List V} {i : Nat} {a : α}, Each R as xs → as[i]? = some a → ∃ x, xs[i]? = some x ∧ R a x
  | [], _, _, _, _, h => by simp at h
  | b :: as, xs, 0, a, e, h => by
    obtain ⟨y, r, rfl, e2, e3⟩ := e
    obtain rfl : b = a := by simpa using h
    exact ⟨y, rfl, e2⟩
  | b :: as, xs, i + 1, a, e, h => by
    obtain ⟨y, r, rfl, e2, e3⟩ := e
    exact Each.at (i := i) e3 (by simpa using h)
theorem Each.snoc {α : Type} {R : α → V → Prop} : ∀ {as : List α} {xs : List V} {a : α} {x : V}, Each R as xs → R a x → Each R (as ++ [a]) (xs ++ [x])
  | [], _, a, x, e, h => by
    cases (show _ = [] from e)
    exact ⟨x, [], rfl, h, rfl⟩
  | b :: as, xs, a, x, e, h => by
    obtain ⟨y, r, rfl, e2, e3⟩ := e
    exact ⟨y, r ++ [x], rfl, e2, Each.snoc e3 h⟩
theorem Each.app {α : Type} {R : α → V → Prop} : ∀ {as bs : List α} {xs ys : List V}, Each R as xs → Each R bs ys → Each R (as ++ bs) (xs ++ ys)
  | [], _, _, _, e, h => by
    cases (show _ = [] from e)
    exact h
  | b :: as, _, xs, ys, e, h => by
    obtain ⟨y, r, rfl, e2, e3⟩ := e
    exact ⟨y, r ++ ys, rfl, e2, Each.app e3 h⟩
theorem Each.drop {α : Type} {R : α → V → Prop} : ∀ {as : List α} {xs : List V} (n : Nat), Each R as xs → Each R (as.drop n) (xs.drop n)
  | _, _, 0, e => e
  | [], _, n + 1, e => by cases (show _ = [] from e); rfl
  | b :: as, xs, n + 1, e => by
    obtain ⟨y, r, rfl, e2, e3⟩ := e
    exact Each.drop n e3
theorem Each.take {α : Type} {R : α → V → Prop} : ∀ {as : List α} {xs : List V} (n : Nat), Each R as xs → Each R (as.take n) (xs.take n)
  | _, _, 0, e => rfl
  | [], _, n + 1, e => by cases (show _ = [] from e); rfl
  | b :: as, xs, n + 1, e => by
    obtain ⟨y, r, rfl, e2, e3⟩ := e
    exact ⟨y, r.take n, rfl, e2, Each.take n e3⟩
theorem Each.nvs : ∀ {l : List Nat} {xs : List V}, Each (fun n x => x = nv n) l xs ↔ xs = nvs l
  | [], _ => Iff.rfl
  | n :: l, xs => by
    constructor
    · rintro ⟨x, r, rfl, h, e⟩
      rw [Each.nvs.mp e, h] <;> rfl
    · rintro rfl
      exact ⟨_, _, rfl, rfl, Each.nvs.mpr rfl⟩

/-! ### statements at the heap -/
def FmAt (K : PySem.W.Frag) (H : Hp) : Fm → V → Prop
  | .tt, v => ∃ a, v = .ref a ∧ SqT K H a [.str "true"]
  | .ff, v => ∃ a, v = .ref a ∧ SqT K H a [.str "false"]
  | .has p, v => ∃ a, v = .ref a ∧ SqT K H a [.str "has", nv p]
  | .lacks p, v => ∃ a, v = .ref a ∧ SqT K H a [.str "lacks", nv p]
  | .var x, v => ∃ a, v = .ref a ∧ SqT K H a [.str "var", nv x]
  | .and f g, v => ∃ a u w, v = .ref a ∧ SqT K H a [.str "and", u, w] ∧ FmAt K H f u ∧ FmAt K H g w
  | .or f g, v => ∃ a u w, v = .ref a ∧ SqT K H a [.str "or", u, w] ∧ FmAt K H f u ∧ FmAt K H g w
  | .some l f, v => ∃ a u, v = .ref a ∧ SqT K H a [.str "some", nv l, u] ∧ FmAt K H f u
  | .all l f, v => ∃ a u, v = .ref a ∧ SqT K H a [.str "all", nv l, u] ∧ FmAt K H f u
  | .most x f, v => ∃ a u, v = .ref a ∧ SqT K H a [.str "most", nv x, u] ∧ FmAt K H f u
theorem FmAt.same {K : PySem.W.Frag} {H H' : Hp} (e : Same H H') : ∀ {f : Fm} {v : V}, FmAt K H f v → FmAt K H' f v
  | .tt, _, ⟨a, h, s⟩ => ⟨a, h, Same.seqT e s⟩
  | .ff, _, ⟨a, h, s⟩ => ⟨a, h, Same.seqT e s⟩
  | .has _, _, ⟨a, h, s⟩ => ⟨a, h, Same.seqT e s⟩
  | .lacks _, _, ⟨a, h, s⟩ => ⟨a, h, Same.seqT e s⟩
  | .var _, _, ⟨a, h, s⟩ => ⟨a, h, Same.seqT e s⟩
  | .and _ _, _, ⟨a, u, w, h, s, x, y⟩ => ⟨a, u, w, h, Same.seqT e s, FmAt.same e x, FmAt.same e y⟩
  | .or _ _, _, ⟨a, u, w, h, s, x, y⟩ => ⟨a, u, w, h, Same.seqT e s, FmAt.same e x, FmAt.same e y⟩
  | .some _ _, _, ⟨a, u, h, s, x⟩ => ⟨a, u, h, Same.seqT e s, FmAt.same e x⟩
  | .all _ _, _, ⟨a, u, h, s, x⟩ => ⟨a, u, h, Same.seqT e s, FmAt.same e x⟩
  | .most _ _, _, ⟨a, u, h, s, x⟩ => ⟨a, u, h, Same.seqT e s, FmAt.same e x⟩
abbrev FmsAt (K : PySem.W.Frag) (H : Hp) : List Fm → List V → Prop := Each (FmAt K H)
theorem FmsAt.same {K : PySem.W.Frag} {H H' : Hp} (e : Same H H') {fs : List Fm} {xs : List V} (h : FmsAt K H fs xs) : FmsAt K H' fs xs := Each.imp (fun _ _ => FmAt.same e) h

/-! ### the law's worlds: (states, steps) -/
def StepAt (K : PySem.W.Frag) (H : Hp) (t : Nat × Nat × Nat) (v : V) : Prop := ∃ a, v = .ref a ∧ SqT K H a [nv t.1, nv t.2.1, nv t.2.2]
def LstAt (K : PySem.W.Frag) (H : Hp) (l : List Nat) (v : V) : Prop := ∃ a, v = .ref a ∧ SqL K H a (nvs l)
def TupAt (K : PySem.W.Frag) (H : Hp) (l : List Nat) (v : V) : Prop := ∃ a, v = .ref a ∧ SqT K H a (nvs l)
def WdAt (K : PySem.W.Frag) (H : Hp) (W : Wd) (v : V) : Prop := ∃ a b c xs ys, v = .ref a ∧ SqT K H a [.ref b, .ref c] ∧ SqL K H b xs ∧ Each (LstAt K H) W.st xs ∧ SqL K H c ys ∧ Each (StepAt K H) W.sp ys
section
variable {K : PySem.W.Frag} {H H' : Hp}
theorem StepAt.same (e : Same H H') {t : Nat × Nat × Nat} {v : V} : StepAt K H t v → StepAt K H' t v := fun ⟨a, h, s⟩ => ⟨a, h, Same.seqT e s⟩
theorem LstAt.same (e : Same H H') {t : List Nat} {v : V} : LstAt K H t v → LstAt K H' t v := fun ⟨a, h, s⟩ => ⟨a, h, Same.seq e s⟩
theorem TupAt.same (e : Same H H') {t : List Nat} {v : V} : TupAt K H t v → TupAt K H' t v := fun ⟨a, h, s⟩ => ⟨a, h, Same.seqT e s⟩
theorem WdAt.same (e : Same H H') {W : Wd} {v : V} : WdAt K H W v → WdAt K H' W v := fun ⟨a, b, c, xs, ys, h, s1, s2, s3, s4, s5⟩ =>
  ⟨a, b, c, xs, ys, h, Same.seqT e s1, Same.seq e s2, Each.imp (fun _ _ => LstAt.same e) s3, Same.seq e s4, Each.imp (fun _ _ => StepAt.same e) s5⟩
end
end K20
namespace K20
open PySem L2 Pm
section
variable {P : Program} {w : World} {K : PySem.W.Frag} {mg : Str → Option Value} {base : Heap}
/-- conjunction | disjunction: a statement that is conj fs | disj fs -/
def spFold (K : PySem.W.Frag) (F : List Fm → Fm) : Sp := fun vs H Q _ => ∃ (a : Addr) (xs : List V) (fs : List Fm), vs = [.ref a] ∧ SqL K H a xs ∧ FmsAt K H fs xs ∧ fs.length ≤ 1000 ∧
  ∀ H' v, Same H H' → FmAt K H' (F fs) v → Q v H'
theorem scConj : FnScope ["statements", "found", "statement"] ["statements"] (defScope sConj) := ⟨rfl, rfl, rfl, by decide +kernel, rfl, by decide +kernel, by decide +kernel⟩
theorem scDisj : FnScope ["statements", "found", "statement"] ["statements"] (defScope sDisj) := ⟨rfl, rfl, rfl, by decide +kernel, rfl, by decide +kernel, by decide +kernel⟩
theorem foldl_snoc {fs : List Fm} {F : Fm → Fm → Fm} {f g : Fm} {i : Nat} (h : fs[i]? = some g) : (fs.take (i + 1)).foldl F f = F ((fs.take i).foldl F f) g := by
  rw [take_snoc h, List.foldl_append]
  rfl
theorem ok_conj {f : Addr} {fd : FuncData} {k : Nat} (F : Fun K "conjunction" "conjunction" sConj f fd) (B : Blt mg) : FnOk P w K mg base CX0 (k + 1) f fd ["statements"] (spFold K conj) := by
  refine F.ok scConj (fun vs H Q E h => ?_) (fun cdv A outer s H vs Q E hr h => ?_)
  · obtain ⟨a, xs, fs, rfl, _⟩ := h
    rfl
  obtain ⟨a, xs, fs, rfl, hS, hF, hlen, q⟩ := h
  refine ⟨_, pss_cons (ps_if (pt_cmpR op_eq (pe_callB call_len_seq (by rfl) B.len PySem.boot_len (pa_cons (pv 0) pa_nil)) pe_int (nomark _)) (pss_one (ps_ret (pe_tup (pa_cons pe_str pa_nil)))) pss_nil)
    (pss_cons (ps_set (i := 1) scConj.nd rfl (.inl rfl) (pe_ix ix_list (pv 0) pe_int (fun _ _ => rfl)))
    (pss_cons (ps_for PassesOwn.never rfl (pi_list (pe_slice sl_list (pv 0) (po_some pe_int) po_none)) (pg_name (i := 2) scConj.nd rfl (.inl rfl))
      (pss_one (ps_set (i := 1) scConj.nd rfl (.inl rfl) (pe_tup (pa_cons pe_str (pa_cons (pv 1) (pa_cons (pv 2) pa_nil)))))))
    (pss_one (ps_ret (pv 1))))), ?_⟩
  have hxl : xs.length = fs.length := hF.length
  refine ⟨_, rfl, a, xs, rfl, .inl hS, rfl, _, rfl, ite2 (fun c => ?_) (fun c => ?_)⟩
  · have e0 : (xs.length : Int) = 0 := V.int.inj (of_decide_eq_true c)
    refine ⟨by show 1 ≤ sizeLine; decide, fun p hp => ?_⟩
    refine q _ _ (same_new hp) ?_
    cases fs with
    | nil => exact ⟨p, rfl, SqT.of upd_same⟩
    | cons g gs => simp only [List.length_cons] at hxl; omega
  · cases fs with
    | nil =>
      rw [hxl] at c
      exact absurd (decide_eq_true rfl) c
    | cons g gs =>
      obtain ⟨x, r, rfl, hg, hgs⟩ := hF
      refine ⟨_, rfl, a, _, _, x, rfl, rfl, hS, atI_nat (j := 0) rfl, ?_⟩
      refine ⟨_, rfl, 1, rfl, a, _, rfl, hS, fun p hp => ?_⟩
      rw [cut_tail]
      have s1 : Same H (upd H p (.lst r)) := same_new hp
      refine ⟨p, rfl, ⟨r, .of upd_same⟩, for_list (K := K) (a := p) (xs := r) (fun i σ H' => ∃ v z, σ = [some (.ref a), some v, z] ∧ Same (upd H p (.lst r)) H' ∧ FmAt K H' ((gs.take i).foldl .and g) v)
        ⟨x, none, rfl, Same.refl _, FmAt.same s1 hg⟩ (fun i σ H' _ ⟨_, _, _, s, _⟩ => .of (s _ _ upd_same)) ?_ ?_⟩
      · rintro i y σ H' hi ⟨v, z, rfl, s, hv⟩
        obtain ⟨g', hg', hy⟩ := hgs.get hi
        refine ⟨_, rfl, _, rfl, by show 3 ≤ sizeLine; decide, fun t ht => ?_⟩
        have s2 := same_new (o := .tup [.str "and", v, y]) ht
        refine ⟨.ref t, some y, rfl, s.trans s2, ?_⟩
        rw [foldl_snoc hg']
        exact ⟨t, v, y, rfl, SqT.of upd_same, FmAt.same s2 hv, FmAt.same ((s1.trans s).trans s2) hy⟩
      · rintro σ H' ⟨v, z, rfl, s, hv⟩
        have e : r.length = gs.length := Each.length hgs
        rw [e, List.take_length] at hv
        exact ⟨_, rfl, q _ _ (s1.trans s) hv⟩
theorem ok_disj {f : Addr} {fd : FuncData} {k : Nat} (F : Fun K "disjunction" "disjunction" sDisj f fd) (B : Blt mg) : FnOk P w K mg base CX0 (k + 1) f fd ["statements"] (spFold K disj) := by
  refine F.ok scDisj (fun vs H Q E h => ?_) (fun cdv A outer s H vs Q E hr h => ?_)
  · obtain ⟨a, xs, fs, rfl, _⟩ := h
    rfl
  obtain ⟨a, xs, fs, rfl, hS, hF, hlen, q⟩ := h
  refine ⟨_, pss_cons (ps_if (pt_cmpR op_eq (pe_callB call_len_seq (by rfl) B.len PySem.boot_len (pa_cons (pv 0) pa_nil)) pe_int (nomark _)) (pss_one (ps_ret (pe_tup (pa_cons pe_str pa_nil)))) pss_nil)
    (pss_cons (ps_set (i := 1) scDisj.nd rfl (.inl rfl) (pe_ix ix_list (pv 0) pe_int (fun _ _ => rfl)))
    (pss_cons (ps_for PassesOwn.never rfl (pi_list (pe_slice sl_list (pv 0) (po_some pe_int) po_none)) (pg_name (i := 2) scDisj.nd rfl (.inl rfl))
      (pss_one (ps_set (i := 1) scDisj.nd rfl (.inl rfl) (pe_tup (pa_cons pe_str (pa_cons (pv 1) (pa_cons (pv 2) pa_nil)))))))
    (pss_one (ps_ret (pv 1))))), ?_⟩
  have hxl : xs.length = fs.length := hF.length
  refine ⟨_, rfl, a, xs, rfl, .inl hS, rfl, _, rfl, ite2 (fun c => ?_) (fun c => ?_)⟩
  · have e0 : (xs.length : Int) = 0 := V.int.inj (of_decide_eq_true c)
    refine ⟨by show 1 ≤ sizeLine; decide, fun p hp => ?_⟩
    refine q _ _ (same_new hp) ?_
    cases fs with
    | nil => exact ⟨p, rfl, SqT.of upd_same⟩
    | cons g gs => simp only [List.length_cons] at hxl; omega
  · cases fs with
    | nil =>
      rw [hxl] at c
      exact absurd (decide_eq_true rfl) c
    | cons g gs =>
      obtain ⟨x, r, rfl, hg, hgs⟩ := hF
      refine ⟨_, rfl, a, _, _, x, rfl, rfl, hS, atI_nat (j := 0) rfl, ?_⟩
      refine ⟨_, rfl, 1, rfl, a, _, rfl, hS, fun p hp => ?_⟩
      rw [cut_tail]
      have s1 : Same H (upd H p (.lst r)) := same_new hp
      refine ⟨p, rfl, ⟨r, .of upd_same⟩, for_list (K := K) (a := p) (xs := r) (fun i σ H' => ∃ v z, σ = [some (.ref a), some v, z] ∧ Same (upd H p (.lst r)) H' ∧ FmAt K H' ((gs.take i).foldl .or g) v)
        ⟨x, none, rfl, Same.refl _, FmAt.same s1 hg⟩ (fun i σ H' _ ⟨_, _, _, s, _⟩ => .of (s _ _ upd_same)) ?_ ?_⟩
      · rintro i y σ H' hi ⟨v, z, rfl, s, hv⟩
        obtain ⟨g', hg', hy⟩ := hgs.get hi
        refine ⟨_, rfl, _, rfl, by show 3 ≤ sizeLine; decide, fun t ht => ?_⟩
        have s2 := same_new (o := .tup [.str "or", v, y]) ht
        refine ⟨.ref t, some y, rfl, s.trans s2, ?_⟩
        rw [foldl_snoc hg']
        exact ⟨t, v, y, rfl, SqT.of upd_same, FmAt.same s2 hv, FmAt.same ((s1.trans s).trans s2) hy⟩
      · rintro σ H' ⟨v, z, rfl, s, hv⟩
        have e : r.length = gs.length := Each.length hgs
        rw [e, List.take_length] at hv
        exact ⟨_, rfl, q _ _ (s1.trans s) hv⟩

/-! ### _law_take: the draws' last, below the limit -/
/-- all but what stands at d stays -/
def But (d : Addr) (H H' : Hp) : Prop := ∀ b o, b ≠ d → H b = some o → H' b = some o
def spTake : Sp := fun vs H Q _ => ∃ (d : Addr) (n : Nat) (ds : List Int), vs = [.ref d, .int (n : Int)] ∧ H d = some (.lst (ds.map V.int)) ∧ 0 < n ∧
  ∀ (H' : Hp) (m : Nat) (ds' : List Int), m < n → But d H H' → H' d = some (.lst (ds'.map V.int)) → (∀ b, H b = none → H' b = none) → Q (nv m) H'
theorem scTake : FnScope ["_law_draws_here", "_law_limit"] ["_law_draws_here", "_law_limit"] (defScope sTake) := ⟨rfl, rfl, rfl, by decide +kernel, rfl, by decide +kernel, by decide +kernel⟩
theorem ok_take {f : Addr} {fd : FuncData} {k : Nat} (F : Fun K "_law_take" "_law_take" sTake f fd) (B : Blt mg) : FnOk P w K mg base CX0 (k + 1) f fd ["_law_draws_here", "_law_limit"] spTake := by
  refine F.ok scTake (fun vs H Q E h => ?_) (fun cdv A outer s H vs Q E hr h => ?_)
  · obtain ⟨d, n, ds, rfl, _⟩ := h
    rfl
  obtain ⟨d, n, ds, rfl, hd, hn, q⟩ := h
  refine ⟨_, pss_cons (ps_if (pt_cmpR op_eq (pe_callB call_len_seq (by rfl) B.len PySem.boot_len (pa_cons (pv 0) pa_nil)) pe_int (nomark _)) (pss_one (ps_ret pe_int)) pss_nil)
    (pss_one (ps_ret (pe_op op_modN (pe_callTy call_int1 (by rfl) B.int (by decide +kernel) (pa_cons (pe_bm0 PySem.F.plainAttrs_list PySem.F.slot_list_pop PySem.F.type_list_pop mt_pop (pv 0)) pa_nil)) (pv 1)))), ?_⟩
  refine ⟨_, rfl, d, _, rfl, .inl (SqL.of hd), rfl, _, rfl, ite2 (fun c => ?_) (fun c => ?_)⟩
  · exact q H 0 ds hn (fun _ _ _ e => e) hd fun _ e => e
  · have hne : ds ≠ [] := fun z => by
      subst z
      exact c (decide_eq_true rfl)
    have hl : 0 < ds.length := List.length_pos_iff.mpr hne
    have hlast : (ds.map V.int)[(ds.map V.int).length - 1]? = some (.int (ds.getLast hne)) := by
      rw [List.length_map, List.getElem?_map, List.getElem?_eq_getElem (by omega), List.getLast_eq_getElem] <;> rfl
    refine ⟨_, rfl, .inl ⟨rfl, _, SqL.of hd⟩, d, _, _, rfl, rfl, hd, hlast, .inl ⟨_, rfl, ?_⟩⟩
    refine ⟨_, rfl, _, _, rfl, rfl, (by show ((n : Nat) : Int) ≠ 0; omega), ?_⟩
    have hm0 := Int.fmod_nonneg_of_pos (ds.getLast hne) (show (0 : Int) < (n : Int) by omega)
    have hm1 := Int.fmod_lt_of_pos (ds.getLast hne) (show (0 : Int) < (n : Int) by omega)
    have e : (ds.getLast hne).fmod (n : Int) = (((ds.getLast hne).fmod (n : Int)).toNat : Int) := by omega
    show Q (.int ((ds.getLast hne).fmod (n : Int))) _
    rw [e]
    refine q _ _ ds.dropLast (by omega) (fun b o hb e => by rw [upd_ne hb]; exact e) (by rw [upd_same, List.map_dropLast]) fun b e => ?_
    rw [upd_ne (fun z => by rw [z, hd] at e; cases e)]
    exact e

/-! ### _law_is_integer -/
def spIsInt : Sp := fun vs H Q _ => ∃ n : Int, vs = [.int n] ∧ Q (.bl true) H
theorem scIsInt : FnScope ["_law_actual"] ["_law_actual"] (defScope sIsInt) := ⟨rfl, rfl, rfl, by decide +kernel, rfl, by decide +kernel, by decide +kernel⟩
end
end K20
namespace K20
open PySem L2 Pm
/-! ### a statement's tuple: its kind, its number, its parts -/
def kd : Fm → Str
  | .tt => "true" | .ff => "false" | .has _ => "has" | .lacks _ => "lacks" | .var _ => "var" | .and _ _ => "and" | .or _ _ => "or" | .some _ _ => "some" | .all _ _ => "all" | .most _ _ => "most"
def nums : Fm → List Nat
  | .tt => [] | .ff => [] | .has p => [p] | .lacks p => [p] | .var x => [x] | .and _ _ => [] | .or _ _ => [] | .some a _ => [a] | .all a _ => [a] | .most x _ => [x]
def subs : Fm → List Fm
  | .tt => [] | .ff => [] | .has _ => [] | .lacks _ => [] | .var _ => [] | .and f g => [f, g] | .or f g => [f, g] | .some _ f => [f] | .all _ f => [f] | .most _ f => [f]
def hgt : Fm → Nat
  | .tt => 1 | .ff => 1 | .has _ => 1 | .lacks _ => 1 | .var _ => 1 | .and f g => max (hgt f) (hgt g) + 1 | .or f g => max (hgt f) (hgt g) + 1 | .some _ f => hgt f + 1 | .all _ f => hgt f + 1 | .most _ f => hgt f + 1
theorem hgt_pos (f : Fm) : 1 ≤ hgt f := by cases f <;> simp [hgt]
theorem hgt_sub {f g : Fm} (h : g ∈ subs f) : hgt g + 1 ≤ hgt f := by
  cases f <;> simp only [subs, List.mem_cons, List.not_mem_nil, or_false] at h <;> simp only [hgt]
  · rcases h with rfl | rfl <;> omega
  · rcases h with rfl | rfl <;> omega
  · subst h; omega
  · subst h; omega
  · subst h; omega
theorem FmAt.parts {K : PySem.W.Frag} {H : Hp} {f : Fm} {v : V} (h : FmAt K H f v) : ∃ a us, v = .ref a ∧ SqT K H a (.str (kd f) :: (nvs (nums f) ++ us)) ∧ FmsAt K H (subs f) us := by
  cases f with
  | tt => obtain ⟨a, h1, h2⟩ := h; exact ⟨a, [], h1, h2, rfl⟩
  | ff => obtain ⟨a, h1, h2⟩ := h; exact ⟨a, [], h1, h2, rfl⟩
  | has p => obtain ⟨a, h1, h2⟩ := h; exact ⟨a, [], h1, h2, rfl⟩
  | lacks p => obtain ⟨a, h1, h2⟩ := h; exact ⟨a, [], h1, h2, rfl⟩
  | var p => obtain ⟨a, h1, h2⟩ := h; exact ⟨a, [], h1, h2, rfl⟩
  | and f g => obtain ⟨a, u, w, h1, h2, h3, h4⟩ := h; exact ⟨a, [u, w], h1, h2, u, [w], rfl, h3, w, [], rfl, h4, rfl⟩
  | or f g => obtain ⟨a, u, w, h1, h2, h3, h4⟩ := h; exact ⟨a, [u, w], h1, h2, u, [w], rfl, h3, w, [], rfl, h4, rfl⟩
  | some l f => obtain ⟨a, u, h1, h2, h3⟩ := h; exact ⟨a, [u], h1, h2, u, [], rfl, h3, rfl⟩
  | all l f => obtain ⟨a, u, h1, h2, h3⟩ := h; exact ⟨a, [u], h1, h2, u, [], rfl, h3, rfl⟩
  | most l f => obtain ⟨a, u, h1, h2, h3⟩ := h; exact ⟨a, [u], h1, h2, u, [], rfl, h3, rfl⟩
theorem nums_len (f : Fm) : (nums f).length = 0 ∨ (nums f).length = 1 := by cases f <;> simp [nums]
theorem tyx_tup {K : PySem.W.Frag} {H : Hp} {a : Addr} {xs : List V} (h : SqT K H a xs) : TyX K H (.ref a) (.type "tuple") := by
  rcases h with (h | ⟨o, h⟩) | ⟨o, its, n, h1, h2, _⟩
  · exact .base (.tup h)
  · exact .fTuple h
  · exact .kTuple h1 h2
theorem cut_from (xs : List V) (n : Nat) (h : n ≤ xs.length) : cutV xs (some (n : Int)) none = xs.drop n := by
  unfold cutV
  rw [show HT.sIx xs.length 0 (some (n : Int)) = min n xs.length from HT.sIx_nat xs.length 0 n, HT.sIx_none, Nat.min_eq_left h]
  rw [← List.length_drop]
  exact List.take_length

/-! ### _law_is_statement -/
def sizes : List (Key × V) := [(.inr "true", .int 1), (.inr "false", .int 1), (.inr "has", .int 2), (.inr "lacks", .int 2), (.inr "var", .int 2), (.inr "and", .int 3), (.inr "or", .int 3), (.inr "some", .int 3), (.inr "all", .int 3), (.inr "least", .int 3), (.inr "most", .int 3)]
theorem sizes_at (f : Fm) : valV (mergeK [] sizes) (.inr (kd f)) = some (.int ((1 + (nums f).length + (subs f).length : Nat) : Int)) := by
  cases f <;> (simp only [kd, nums, subs, List.length_nil, List.length_cons]; decide +kernel)
abbrev numKinds : List V := [.str "has", .str "lacks", .str "var", .str "some", .str "all", .str "least", .str "most"]
theorem num_kind (f : Fm) : inV (.str (kd f)) numKinds = !(nums f).isEmpty := by
  cases f <;> (simp only [kd, nums, List.isEmpty_cons, List.isEmpty_nil]; decide +kernel)

section
variable {P : Program} {w : World} {K : PySem.W.Frag} {mg : Str → Option Value} {base : Heap}
theorem ok_isint {f : Addr} {fd : FuncData} {k : Nat} (F : Fun K "_law_is_integer" "_law_is_integer" sIsInt f fd) (B : Blt mg) : FnOk P w K mg base CX0 (k + 1) f fd ["_law_actual"] spIsInt := by
  refine F.ok scIsInt (fun vs H Q E h => ?_) (fun cdv A outer s H vs Q E hr h => ?_)
  · obtain ⟨n, rfl, _⟩ := h
    rfl
  obtain ⟨n, rfl, q⟩ := h
  refine ⟨_, pss_one (ps_ret (pe_and (pe_callB call_isi (by rfl) B.isinstance PyProof.Rows.boot_isinstance (pa_cons (pv 0) (pa_cons (pe_bltn (v := .ty "int") (by rfl) B.int (by decide +kernel) rfl) pa_nil)))
    (pe_one (pe_not (pe_callB call_isi (by rfl) B.isinstance PyProof.Rows.boot_isinstance (pa_cons (pv 0) (pa_cons (pe_bltn (v := .ty "bool") (by rfl) B.bool (by decide +kernel) rfl) pa_nil))))))), ?_⟩
  refine ⟨_, rfl, _, _, _, _, true, rfl, .ty "int", .base (.int n), kit_ty (by decide +kernel), true, rfl, ?_⟩
  refine ⟨_, rfl, _, _, _, _, false, rfl, .ty "bool", .base (.int n), kit_ty (by decide +kernel), false, rfl, ?_⟩
  exact q

def spIsSt (K : PySem.W.Frag) (n : Nat) : Sp := fun vs H Q _ => ∃ (v : V) (d : Nat) (f : Fm), vs = [v, nv d] ∧ FmAt K H f v ∧ hgt f ≤ d ∧ hgt f ≤ n ∧ ∀ H', Same H H' → Q (.bl true) H'
theorem scIsSt : FnScope ["_law_actual", "_law_depth", "_law_sizes", "_law_inner_here", "_law_part"] ["_law_actual", "_law_depth"] (defScope sIsSt) := ⟨rfl, rfl, rfl, by decide +kernel, rfl, by decide +kernel, by decide +kernel⟩
theorem isst_turn {f fI : Addr} {fd fdI : FuncData} {n : Nat} (F : Fun K "_law_is_statement" "_law_is_statement" sIsSt f fd) (B : Blt mg) (G : FnOk P w K mg base CX0 (n + 1) f fd ["_law_actual", "_law_depth"] (spIsSt K n)) (mF : mg "_law_is_statement" = some (.ref f)) (bF : Binds K fd ["_law_actual", "_law_depth"] [])
    (GI : FnOk P w K mg base CX0 1 fI fdI ["_law_actual"] spIsInt) (mI : mg "_law_is_integer" = some (.ref fI)) (kI : PySem.W.keepIn K (.ref fI) = true) (bI : Binds K fdI ["_law_actual"] []) :
    FnOk P w K mg base CX0 (n + 1 + 1) f fd ["_law_actual", "_law_depth"] (spIsSt K (n + 1)) := by
  refine F.ok scIsSt (fun vs H Q E h => ?_) (fun cdv A outer s H vs Q E hr h => ?_)
  · obtain ⟨v, d, g, rfl, _⟩ := h
    rfl
  obtain ⟨v, d, g, rfl, hf, hd, hn, q⟩ := h
  have hr1 : Room 1 _ := hr.mono (by omega)
  refine ⟨_, pss_cons (ps_if (PW.pt (pw_or (pt_not (pt_val (pe_callB call_isi (by rfl) B.isinstance PyProof.Rows.boot_isinstance (pa_cons (pv 0) (pa_cons (pe_bltn (v := .ty "tuple") (by rfl) B.tuple (by decide +kernel) rfl) pa_nil)))))
      (pw_or (pt_cmpR op_eq (pe_callB call_len_seq (by rfl) B.len PySem.boot_len (pa_cons (pv 0) pa_nil)) pe_int (nomark _)) (pw_or1 (pt_cmpR op_eq (pv 1) pe_int (nomark _)))))) (pss_one (ps_ret pe_bl)) pss_nil)
    (pss_cons (ps_set (i := 2) scIsSt.nd rfl (.inl rfl) (pe_disp (pps_cons pe_str pe_int (pps_cons pe_str pe_int (pps_cons pe_str pe_int (pps_cons pe_str pe_int (pps_cons pe_str pe_int (pps_cons pe_str pe_int (pps_cons pe_str pe_int (pps_cons pe_str pe_int (pps_cons pe_str pe_int (pps_cons pe_str pe_int (pps_cons pe_str pe_int pps_nil))))))))))) (by rfl) (by rfl) (fun z => by cases z) (by decide)))
    (pss_cons (ps_if (PW.pt (pw_or (pt_cmp (pc_dnotin (hu_of hr) (pe_ix ix_tup (pv 0) pe_int (fun _ _ => rfl)) (pv 2))) (pw_or1 (pt_cmpR op_ne (pe_callB call_len_seq (by rfl) B.len PySem.boot_len (pa_cons (pv 0) pa_nil)) (pe_dget (hu_of hr) (pv 2) (pe_ix ix_tup (pv 0) pe_int (fun _ _ => rfl)) (fun _ _ => rfl)) (nomark _))))) (pss_one (ps_ret pe_bl)) pss_nil)
    (pss_cons (ps_set (i := 3) scIsSt.nd rfl (.inl rfl) (pe_slice sl_tup (pv 0) (po_some pe_int) po_none))
    (Evl.pss_cut (ps_if (pt_cmpR op_in_seq (pe_ix ix_tup (pv 0) pe_int (fun _ _ => rfl)) (pe_tup (pa_cons pe_str (pa_cons pe_str (pa_cons pe_str (pa_cons pe_str (pa_cons pe_str (pa_cons pe_str (pa_cons pe_str pa_nil)))))))) (by rfl))
      (pss_cons (ps_if (PW.pt (pw_or (pt_not (pt_val (pe_call GI hr1 rfl mI kI bI .nil pass0 (pa_cons (pe_ix ix_tup (pv 0) pe_int (fun _ _ => rfl)) pa_nil)))) (pw_or1 (pt_cmpR op_lt (pe_ix ix_tup (pv 0) pe_int (fun _ _ => rfl)) pe_int (nomark _))))) (pss_one (ps_ret pe_bl)) pss_nil)
        (pss_one (ps_set (i := 3) scIsSt.nd rfl (.inl rfl) (pe_slice sl_tup (pv 0) (po_some pe_int) po_none)))) pss_nil)
    (pss_one (ps_ret (pe_cmpR op_eq (pe_callB call_len_seq (by rfl) B.len PySem.boot_len (pa_cons
      (pe_lc (own := [("_law_part", 4)]) (g := gName 4) rfl scIsSt.nd (pi_tup (pv 3)) (blkOk_by (own := [("_law_part", 4)]) (N := ["_law_actual", "_law_depth", "_law_sizes", "_law_inner_here", "_law_part"]) (sc := defScope sIsSt) (by decide +kernel))
        (fun _ _ _ _ _ => pg_name (i := 4) scIsSt.nd rfl (.inl rfl)) (fun _ _ _ _ _ => pts_one (pt_not (pt_val (pe_call G hr rfl mF F.kp bF .nil pass0 (pa_cons (pv 4) (pa_cons (pe_op op_sub (pv 1) pe_int) pa_nil)))))) (fun _ _ _ _ _ => pv 4)) pa_nil)) pe_int (nomark _)))))))), ?_⟩
  obtain ⟨a, us, rfl, hT, hU⟩ := hf.parts
  have hgp := hgt_pos g
  have hul : us.length = (subs g).length := Each.length hU
  have hlen : (V.str (kd g) :: (nvs (nums g) ++ us)).length = 1 + (nums g).length + (subs g).length := by
    rw [List.length_cons, List.length_append, List.length_map, hul]
    omega
  -- if not isinstance(..) or len(..) == 0 or depth == 0
  refine ⟨_, rfl, _, _, _, _, true, rfl, .ty "tuple", tyx_tup hT, kit_ty (by decide +kernel), true, rfl, iteF ?_⟩
  refine ⟨_, rfl, a, _, rfl, .inr hT, rfl, _, rfl, ?_⟩
  rw [decide_eq_false (by rw [hlen]; intro z; have := V.int.inj z; omega)]
  refine iteF ⟨_, rfl, rfl, _, rfl, ?_⟩
  rw [decide_eq_false (by intro z; have := V.int.inj z; omega)]
  refine iteF ?_
  -- the sizes
  intro p hp
  have s1 : Same H (upd H p (.dK [])) := same_new hp
  refine ⟨upd_same, sizes, rfl, by decide, ?_⟩
  rw [upd_upd]
  have s2 : Same H (upd H p (.dK (mergeK [] sizes))) := same_new hp
  have hT2 := Same.seqT s2 hT
  have hD : upd H p (.dK (mergeK [] sizes)) p = some (.dK (mergeK [] sizes)) := upd_same
  generalize upd H p (.dK (mergeK [] sizes)) = H2 at s2 hT2 hD
  clear s1
  refine ⟨_, rfl, a, _, 0, _, rfl, rfl, hT2, atI_nat (j := 0) rfl, _, rfl, p, _, rfl, DGet.k (k := .inr (kd g)) hD, _, rfl, ?_⟩
  rw [sizes_at]
  have hG : DGet H2 p (.str (kd g)) (some (.int ((1 + (nums g).length + (subs g).length : Nat) : Int))) := by
    rw [← sizes_at]
    exact DGet.k (k := .inr (kd g)) hD
  refine iteF ⟨_, rfl, a, _, rfl, .inr hT2, _, rfl, _, rfl, a, _, 0, _, rfl, rfl, hT2, atI_nat (j := 0) rfl, p, _, rfl, hG, rfl, _, rfl, ?_⟩
  rw [hlen, decide_eq_true rfl]
  refine iteF ?_
  -- inner = actual[1:]
  have l1 : 1 ≤ (V.str (kd g) :: (nvs (nums g) ++ us)).length := by rw [hlen]; omega
  refine ⟨_, rfl, 1, rfl, a, _, rfl, hT2, ?_, fun p1 hp1 => ?_⟩
  · rw [show HT.sIx _ 0 (some 1) = min 1 _ from HT.sIx_nat _ 0 1, Nat.min_eq_left l1]
    omega
  have e1 : cutV (V.str (kd g) :: (nvs (nums g) ++ us)) (some 1) none = nvs (nums g) ++ us := cut_tail _
  rw [e1]
  have s3 : Same H (upd H2 p1 (.tup (nvs (nums g) ++ us))) := s2.and_new hp1
  have hT3 := Same.seqT s3 hT
  have hI3 : upd H2 p1 (.tup (nvs (nums g) ++ us)) p1 = some (.tup (nvs (nums g) ++ us)) := upd_same
  generalize upd H2 p1 (.tup (nvs (nums g) ++ us)) = H3 at s3 hT3 hI3
  -- in the kinds with a number; behind it: the parts' tuple
  refine ⟨fun σ' H' => ∃ (t1 : Addr) (z : Option V), σ' = [some (.ref a), some (nv d), some (.ref p), some (.ref t1), z] ∧ Same H H' ∧ H' t1 = some (.tup us), ?_, ?_⟩
  · refine ⟨_, rfl, a, _, 0, _, rfl, rfl, hT3, atI_nat (j := 0) rfl, by show 7 ≤ sizeLine; decide, fun t ht => ?_⟩
    have s4 := s3.and_new (o := .tup numKinds) ht
    have hT4 := Same.seqT s4 hT
    have hI4 : upd H3 t (.tup numKinds) p1 = some (.tup (nvs (nums g) ++ us)) := (same_new ht) _ _ hI3
    have ht4 : upd H3 t (.tup numKinds) t = some (.tup numKinds) := upd_same
    refine ⟨t, numKinds, rfl, .inr (SqT.of ht4), rfl, rfl, _, rfl, ?_⟩
    show (if (if false = true then !inV (V.str (kd g)) numKinds else inV (V.str (kd g)) numKinds) = true then _ else _)
    rw [if_neg Bool.false_ne_true, num_kind]
    cases hm : nums g with
    | nil =>
      rw [hm] at hI4
      exact iteF ⟨p1, none, rfl, s4, hI4⟩
    | cons m r =>
      have hr0 : r = [] := by
        rcases nums_len g with h | h <;> rw [hm] at h <;> simp at h
        exact h
      subst hr0
      rw [hm] at hT4
      refine iteT ?_
      refine ⟨_, rfl, a, _, 1, _, rfl, rfl, hT4, atI_nat (j := 1) rfl, m, rfl, ⟨true, rfl, ?_⟩⟩
      refine iteF ⟨_, rfl, a, _, 1, _, rfl, rfl, hT4, atI_nat (j := 1) rfl, _, _, rfl, rfl, _, rfl, ?_⟩
      rw [decide_eq_false (by omega)]
      refine iteF ?_
      refine ⟨_, rfl, 2, rfl, a, _, rfl, hT4, ?_, fun p2 hp2 => ?_⟩
      · rw [show HT.sIx _ 0 (some 2) = min 2 _ from HT.sIx_nat _ 0 2]
        simp only [nvs, List.map_cons, List.map_nil, List.cons_append, List.nil_append, List.length_cons]
        omega
      have e2 : cutV (V.str (kd g) :: (nvs [m] ++ us)) (some 2) none = us := cut_from _ 2 (by simp)
      rw [e2]
      exact ⟨p2, none, rfl, s4.and_new hp2, upd_same⟩
  · rintro σ' H' ⟨t1, z, rfl, s5, ht1⟩
    refine ⟨_, rfl, t1, rfl, ⟨us, SqT.of ht1⟩, fun D hD => lc_tup (K := K) (a := t1) (xs := us) (fun i H6 => Same (upd H' D (.lst [])) H6) (Same.refl _) (fun i H6 _ s6 => SqT.of (s6 _ _ (same_new hD _ _ ht1))) ?_ ?_⟩
    · intro i x H6 hi s6
      obtain ⟨g', hg', hx⟩ := hU.get hi
      have hsub := hgt_sub (List.mem_of_getElem? hg')
      have s7 : Same H H6 := (s5.trans (same_new hD)).trans s6
      refine ⟨rfl, ⟨_, rfl, _, rfl, _, _, rfl, rfl, x, d - 1, g', ?_, FmAt.same s7 hx, by omega, by omega, fun H7 s8 => ⟨true, rfl, ?_⟩⟩⟩
      · show [x, V.int ((d : Int) - 1)] = [x, V.int ((d - 1 : Nat) : Int)]
        rw [show ((d : Int) - 1) = ((d - 1 : Nat) : Int) by omega]
      · exact iteF (s6.trans s8)
    · intro H6 s6
      refine ⟨_, _, rfl, .inl (SqL.of (s6 _ _ upd_same)), rfl, ?_⟩
      exact q _ ((s5.trans (same_new hD)).trans s6)
theorem ok_isst {f fI : Addr} {fd fdI : FuncData} (F : Fun K "_law_is_statement" "_law_is_statement" sIsSt f fd) (B : Blt mg) (mF : mg "_law_is_statement" = some (.ref f)) (bF : Binds K fd ["_law_actual", "_law_depth"] [])
    (GI : FnOk P w K mg base CX0 1 fI fdI ["_law_actual"] spIsInt) (mI : mg "_law_is_integer" = some (.ref fI)) (kI : PySem.W.keepIn K (.ref fI) = true) (bI : Binds K fdI ["_law_actual"] []) :
    ∀ n, FnOk P w K mg base CX0 (n + 1) f fd ["_law_actual", "_law_depth"] (spIsSt K n)
  | 0 => by
    have no : ∀ vs H Q E, ¬ spIsSt K 0 vs H Q E := fun vs H Q E h => by
      obtain ⟨v, d, g, _, _, _, h1, _⟩ := h
      have := hgt_pos g
      omega
    exact ⟨fun vs H Q E h => absurd h (no vs H Q E), fun A outer s H args us vs Q E _ _ _ _ h => absurd h (no vs H Q E)⟩
  | n + 1 => isst_turn F B (ok_isst F B mF bF GI mI kI bI n) mF bF GI mI kI bI
end
end K20
namespace K20
open PySem L2 Pm
/-- no variable is free but those of bs -/
def Cl : Fm → List Nat → Prop
  | .tt, _ => True | .ff, _ => True | .has _, _ => True | .lacks _, _ => True
  | .var x, bs => x ∈ bs
  | .and f g, bs => Cl f bs ∧ Cl g bs
  | .or f g, bs => Cl f bs ∧ Cl g bs
  | .some _ f, bs => Cl f bs
  | .all _ f, bs => Cl f bs
  | .most x f, bs => Cl f (bs ++ [x])
theorem inV_nvs (x : Nat) : ∀ bs : List Nat, inV (nv x) (nvs bs) = bs.contains x
  | [] => rfl
  | b :: bs => by
    show (eqV (nv b) (nv x) || inV (nv x) (nvs bs)) = _
    rw [inV_nvs x bs, List.contains_cons]
    congr 1
    show ((b : Int) == (x : Int)) = (x == b)
    rw [Bool.eq_iff_iff]
    simp only [beq_iff_eq]
    omega
theorem flat_nvs (bs : List Nat) : (nvs bs).all flatV = true := by
  rw [List.all_eq_true]
  intro x hx
  obtain ⟨n, _, rfl⟩ := List.mem_map.mp hx
  rfl
section
variable {P : Program} {w : World} {K : PySem.W.Frag} {mg : Str → Option Value} {base : Heap}
/-! ### _law_inner -/
def spInner (K : PySem.W.Frag) : Sp := fun vs H Q _ => ∃ (v : V) (f : Fm), vs = [v] ∧ FmAt K H f v ∧ ∀ H' p us, Same H H' → H' p = some (.lst us) → FmsAt K H' (subs f) us → Q (.ref p) H'
theorem scInner : FnScope ["_law_statement", "_law_part"] ["_law_statement"] (defScope sInner) := ⟨rfl, rfl, rfl, by decide +kernel, rfl, by decide +kernel, by decide +kernel⟩
theorem subs_len (f : Fm) : (subs f).length ≤ 2 := by cases f <;> simp [subs]
theorem subs_ref {K : PySem.W.Frag} {H : Hp} {f : Fm} {v : V} (h : FmAt K H f v) : ∃ a xs, v = .ref a ∧ SqT K H a xs := by
  obtain ⟨a, us, e, s, _⟩ := h.parts
  exact ⟨a, _, e, s⟩
theorem ok_inner {f : Addr} {fd : FuncData} {k : Nat} (F : Fun K "_law_inner" "_law_inner" sInner f fd) (B : Blt mg) : FnOk P w K mg base CX0 (k + 1) f fd ["_law_statement"] (spInner K) := by
  refine F.ok scInner (fun vs H Q E h => ?_) (fun cdv A outer s H vs Q E hr h => ?_)
  · obtain ⟨v, g, rfl, _⟩ := h
    rfl
  obtain ⟨v, g, rfl, hf, q⟩ := h
  refine ⟨_, pss_one (ps_ret (pe_lc (own := [("_law_part", 1)]) (g := gName 1) rfl scInner.nd (pi_tup (pe_slice sl_tup (pv 0) (po_some pe_int) po_none)) (blkOk_by (own := [("_law_part", 1)]) (N := ["_law_statement", "_law_part"]) (sc := defScope sInner) (by decide +kernel))
      (fun _ _ _ _ _ => pg_name (i := 1) scInner.nd rfl (.inl rfl)) (fun _ _ _ _ _ => pts_one (pt_val (pe_callB (r := rIsi K) call_isi (by rfl) B.isinstance PyProof.Rows.boot_isinstance (pa_cons (pv 1) (pa_cons (pe_bltn (v := .ty "tuple") (by rfl) B.tuple (by decide +kernel) rfl) pa_nil))))) (fun _ _ _ _ _ => pv 1))), ?_⟩
  obtain ⟨a, us, rfl, hT, hU⟩ := hf.parts
  have hul : us.length = (subs g).length := Each.length hU
  refine ⟨_, rfl, 1, rfl, a, _, rfl, hT, ?_, fun p1 hp1 => ?_⟩
  · rw [show HT.sIx _ 0 (some 1) = min 1 _ from HT.sIx_nat _ 0 1]
    simp only [List.length_cons]
    omega
  have e1 : cutV (V.str (kd g) :: (nvs (nums g) ++ us)) (some 1) none = nvs (nums g) ++ us := cut_tail _
  rw [e1]
  have s1 : Same H (upd H p1 (.tup (nvs (nums g) ++ us))) := same_new hp1
  refine ⟨p1, rfl, ⟨_, SqT.of upd_same⟩, fun D hD => lc_tup (K := K) (a := p1) (xs := nvs (nums g) ++ us) (fun i H6 => Same (upd H p1 (.tup (nvs (nums g) ++ us))) H6 ∧ H6 D = some (.lst (us.take (i - (nums g).length)))) ⟨same_new hD, by rw [upd_same]; simp⟩ (fun i H6 _ s6 => SqT.of (s6.1 _ _ upd_same)) ?_ ?_⟩
  · rintro i x H6 hi ⟨s6, hD6⟩
    by_cases c : i < (nums g).length
    · -- a number
      rw [List.getElem?_append_left (by rw [List.length_map]; exact c)] at hi
      obtain ⟨n, _, rfl⟩ := nvs_get hi
      refine ⟨rfl, ⟨_, rfl, _, _, _, _, false, rfl, .ty "tuple", .base (.int n), kit_ty (by decide +kernel), ⟨false, rfl, ?_⟩⟩⟩
      refine iteF ⟨s6, ?_⟩
      rw [hD6, show i - (nums g).length = i + 1 - (nums g).length by omega]
    · -- a part
      rw [List.getElem?_append_right (by rw [List.length_map]; omega), List.length_map] at hi
      obtain ⟨g', hg', hx⟩ := hU.get hi
      obtain ⟨b, xs, rfl, hb⟩ := subs_ref hx
      have hb6 := (s1.trans s6).seqT hb
      refine ⟨rfl, ⟨_, rfl, _, _, _, _, true, rfl, .ty "tuple", tyx_tup hb6, kit_ty (by decide +kernel), ⟨true, rfl, ?_⟩⟩⟩
      refine iteT ⟨_, rfl, _, hD6, ?_, ?_, ?_⟩
      · rw [List.length_take, hul]
        exact Nat.lt_of_le_of_lt (Nat.min_le_right _ _) (small1000 (by have := subs_len g; omega))
      · exact s6.mut hD
      · rw [upd_same, show i + 1 - (nums g).length = (i - (nums g).length) + 1 by omega, take_snoc hi]
  · rintro H6 ⟨s6, hD6⟩
    rw [List.length_append, List.length_map, Nat.add_sub_cancel_left, List.take_length] at hD6
    exact q H6 D us (s1.trans s6) hD6 (FmsAt.same (s1.trans s6) hU)

/-! ### _law_free: nothing is free -/
def spFree (K : PySem.W.Frag) (n : Nat) : Sp := fun vs H Q _ => ∃ (v : V) (b : Addr) (bs : List Nat) (f : Fm), vs = [v, .ref b] ∧ FmAt K H f v ∧ H b = some (.lst (nvs bs)) ∧ Cl f bs ∧ hgt f ≤ n ∧ bs.length + hgt f ≤ 1000 ∧
  ∀ H' p, Same H H' → H' p = some (.lst []) → Q (.ref p) H'
theorem scFree : FnScope ["_law_statement", "_law_bound", "_law_found", "_law_part"] ["_law_statement", "_law_bound"] (defScope sFree) := ⟨rfl, rfl, rfl, by decide +kernel, rfl, by decide +kernel, by decide +kernel⟩
abbrev binders : List V := [.str "least", .str "most"]
def isVar : Fm → Bool
  | .var _ => true
  | _ => false
def isMost : Fm → Bool
  | .most _ _ => true
  | _ => false
theorem binder_kind (f : Fm) : inV (.str (kd f)) binders = isMost f := by cases f <;> (simp only [kd, isMost]; decide +kernel)
theorem str_eq (k j : Str) : decide (V.str k = V.str j) = (k == j) := by
  rw [Bool.eq_iff_iff]
  simp
theorem var_kind (f : Fm) : decide (V.str (kd f) = V.str "var") = isVar f := by
  rw [str_eq]
  cases f <;> (simp only [kd, isVar]; decide +kernel)
theorem Cl.sub {f g : Fm} {bs : List Nat} (h : Cl f bs) (hm : ∀ x f', f ≠ .most x f') (hg : g ∈ subs f) : Cl g bs := by
  cases f <;> simp only [subs, List.mem_cons, List.not_mem_nil, or_false] at hg
  · rcases hg with rfl | rfl
    · exact h.1
    · exact h.2
  · rcases hg with rfl | rfl
    · exact h.1
    · exact h.2
  · subst hg; exact h
  · subst hg; exact h
  · exact absurd rfl (hm _ _)
theorem free_turn {f fI : Addr} {fd fdI : FuncData} {n : Nat} (F : Fun K "_law_free" "_law_free" sFree f fd) (G : FnOk P w K mg base CX0 (n + 1) f fd ["_law_statement", "_law_bound"] (spFree K n)) (mF : mg "_law_free" = some (.ref f)) (bF : Binds K fd ["_law_statement", "_law_bound"] [])
    (GI : FnOk P w K mg base CX0 1 fI fdI ["_law_statement"] (spInner K)) (mI : mg "_law_inner" = some (.ref fI)) (kI : PySem.W.keepIn K (.ref fI) = true) (bI : Binds K fdI ["_law_statement"] []) :
    FnOk P w K mg base CX0 (n + 1 + 1) f fd ["_law_statement", "_law_bound"] (spFree K (n + 1)) := by
  refine F.ok scFree (fun vs H Q E h => ?_) (fun cdv A outer s H vs Q E hr h => ?_)
  · obtain ⟨v, b, bs, g, rfl, _⟩ := h
    rfl
  obtain ⟨v, b, bs, g, rfl, hf, hb, hc, hn, hz, q⟩ := h
  have hr1 : Room 1 _ := hr.mono (by omega)
  refine ⟨_, pss_cons (ps_if (pt_cmpR op_eq (pe_ix ix_tup (pv 0) pe_int (fun _ _ => rfl)) pe_str (nomark _)) (pss_one (ps_ret (pe_ifExp (pt_cmpR op_notIn_seq (pe_ix ix_tup (pv 0) pe_int (fun _ _ => rfl)) (pv 1) (by rfl)) (pe_lst (pa_cons (pe_ix ix_tup (pv 0) pe_int (fun _ _ => rfl)) pa_nil)) (pe_lst pa_nil)))) pss_nil)
    (pss_cons (ps_if (pt_cmpR op_in_seq (pe_ix ix_tup (pv 0) pe_int (fun _ _ => rfl)) (pe_tup (pa_cons pe_str (pa_cons pe_str pa_nil))) (by rfl)) (pss_one (ps_ret (pe_call G hr rfl mF F.kp bF .nil pass0 (pa_cons (pe_ix ix_tup (pv 0) pe_int (fun _ _ => rfl)) (pa_cons (pe_op op_cat (pv 1) (pe_lst (pa_cons (pe_ix ix_tup (pv 0) pe_int (fun _ _ => rfl)) pa_nil))) pa_nil))))) pss_nil)
    (pss_cons (ps_set (i := 2) scFree.nd rfl (.inl rfl) (pe_lst pa_nil))
    (pss_cons (ps_for PassesOwn.never rfl (pi_list (pe_call GI hr1 rfl mI kI bI .nil pass0 (pa_cons (pv 0) pa_nil))) (pg_name (i := 3) scFree.nd rfl (.inl rfl))
      (pss_one (ps_set (i := 2) scFree.nd rfl (.inl rfl) (pe_op op_cat (pv 2) (pe_call G hr rfl mF F.kp bF .nil pass0 (pa_cons (pv 3) (pa_cons (pv 1) pa_nil)))))))
    (pss_one (ps_ret (pv 2)))))), ?_⟩
  obtain ⟨a, us, rfl, hT, hU⟩ := hf.parts
  have hgp := hgt_pos g
  refine ⟨_, rfl, a, _, 0, _, rfl, rfl, hT, atI_nat (j := 0) rfl, rfl, _, rfl, ?_⟩
  rw [var_kind]
  by_cases hv : ∃ x, g = .var x
  · obtain ⟨x, rfl⟩ := hv
    refine iteT ?_
    refine ⟨_, rfl, a, _, 1, _, rfl, rfl, hT, atI_nat (j := 1) rfl, _, rfl, b, nvs bs, rfl, .inl (SqL.of hb), rfl, flat_nvs bs, _, rfl, ?_⟩
    show (if (if true = true then !inV (nv x) (nvs bs) else inV (nv x) (nvs bs)) = true then _ else _)
    have hx : bs.contains x = true := List.contains_iff_mem.mpr hc
    rw [if_pos rfl, inV_nvs, hx]
    refine iteF ⟨Nat.zero_le _, fun p hp => q _ p (same_new hp) upd_same⟩
  · have e1 : isVar g = false := by
      cases g <;> first | rfl | exact absurd ⟨_, rfl⟩ hv
    rw [e1]
    refine iteF ?_
    refine ⟨_, rfl, a, _, 0, _, rfl, rfl, hT, atI_nat (j := 0) rfl, by show 2 ≤ sizeLine; decide, fun t ht => ?_⟩
    have s4 := same_new (o := .tup binders) ht
    have hT4 := s4.seqT hT
    refine ⟨t, binders, rfl, .inr (SqT.of upd_same), rfl, rfl, _, rfl, ?_⟩
    show (if (if false = true then !inV (V.str (kd g)) binders else inV (V.str (kd g)) binders) = true then _ else _)
    rw [if_neg Bool.false_ne_true, binder_kind]
    by_cases hm : ∃ x g', g = .most x g'
    · obtain ⟨x, g', rfl⟩ := hm
      refine iteT ?_
      obtain ⟨u, r, rfl, hu, _⟩ := hU
      refine ⟨_, rfl, a, _, 2, _, rfl, rfl, hT4, atI_nat (j := 2) rfl, ⟨_, rfl, _, rfl, a, _, 1, _, rfl, rfl, hT4, atI_nat (j := 1) rfl, by show 1 ≤ sizeLine; decide, fun l hl => ?_⟩⟩
      have s5 : Same H (upd (upd H t (.tup binders)) l (.lst [nv x])) := s4.and_new hl
      refine ⟨b, l, nvs bs, _, rfl, rfl, s5 _ _ hb, upd_same, ?_, fun m hm => ?_⟩
      · rw [List.length_map]
        exact small (by show bs.length + 1 ≤ 1000; simp only [hgt] at hz; omega)
      have s6 := s5.and_new (o := .lst (nvs bs ++ [nv x])) hm
      refine ⟨u, m, bs ++ [x], g', rfl, FmAt.same s6 hu, ?_, hc, by simp only [hgt] at hn; omega, by rw [List.length_append]; simp only [hgt] at hz; simp; omega, fun H' p s7 hp => q H' p (s6.trans s7) hp⟩
      rw [upd_same]
      simp [nvs]
    · have e2 : isMost g = false := by
        cases g <;> first | rfl | exact absurd ⟨_, _, rfl⟩ hm
      rw [e2]
      refine iteF ?_
      have hU4 := FmsAt.same s4 hU
      refine ⟨Nat.zero_le _, fun l hl => ?_⟩
      have s5 : Same H (upd (upd H t (.tup binders)) l (.lst [])) := s4.and_new hl
      refine ⟨_, rfl, .ref a, g, rfl, FmAt.same s5 hf, fun H6 p6 us6 s6 hp6 hU6 => ?_⟩
      have s06 := s5.trans s6
      refine ⟨p6, rfl, ⟨us6, SqL.of hp6⟩, for_list (K := K) (a := p6) (xs := us6) (fun i σ H' => ∃ (l' : Addr) (z : Option V), σ = [some (.ref a), some (.ref b), some (.ref l'), z] ∧ Same H6 H' ∧ H' l' = some (.lst [])) ⟨l, none, rfl, Same.refl _, s6 _ _ upd_same⟩
        (fun i σ H' _ ⟨_, _, _, s, _⟩ => SqL.of (s _ _ hp6)) ?_ ?_⟩
      · rintro i y σ H' hi ⟨l', z, rfl, s7, hl'⟩
        obtain ⟨g', hg', hy⟩ := hU6.get hi
        have hmem := List.mem_of_getElem? hg'
        have hsub := hgt_sub hmem
        refine ⟨_, rfl, _, rfl, _, rfl, y, b, bs, g', rfl, FmAt.same s7 hy, (s06.trans s7) _ _ hb, hc.sub (fun x f' e => hm ⟨x, f', e⟩) hmem, by omega, by omega, fun H8 p8 s8 hp8 => ?_⟩
        refine ⟨l', p8, [], [], rfl, rfl, s8 _ _ hl', hp8, Nat.zero_le _, fun m hm => ?_⟩
        exact ⟨m, some y, rfl, (s7.trans s8).and_new hm, upd_same⟩
      · rintro σ H' ⟨l', z, rfl, s7, hl'⟩
        exact ⟨_, rfl, q H' l' (s06.trans s7) hl'⟩
theorem ok_free {f fI : Addr} {fd fdI : FuncData} (F : Fun K "_law_free" "_law_free" sFree f fd) (mF : mg "_law_free" = some (.ref f)) (bF : Binds K fd ["_law_statement", "_law_bound"] [])
    (GI : FnOk P w K mg base CX0 1 fI fdI ["_law_statement"] (spInner K)) (mI : mg "_law_inner" = some (.ref fI)) (kI : PySem.W.keepIn K (.ref fI) = true) (bI : Binds K fdI ["_law_statement"] []) :
    ∀ n, FnOk P w K mg base CX0 (n + 1) f fd ["_law_statement", "_law_bound"] (spFree K n)
  | 0 => by
    have no : ∀ vs H Q E, ¬ spFree K 0 vs H Q E := fun vs H Q E h => by
      obtain ⟨v, b, bs, g, _, _, _, _, h1, _⟩ := h
      have := hgt_pos g
      omega
    exact ⟨fun vs H Q E h => absurd h (no vs H Q E), fun A outer s H args us vs Q E _ _ _ _ h => absurd h (no vs H Q E)⟩
  | n + 1 => free_turn F (ok_free F mF bF GI mI kI bI n) mF bF GI mI kI bI
end
end K20
namespace K20
open PySem L2 Pm
/-- what the law draws: F facts, steps within the world, each once, few -/
structure Good (F : Nat) (W : Wd) : Prop where
  pos : 1 ≤ W.n
  few : W.n ≤ 20
  facts : ∀ l ∈ W.st, ∃ p : Nat → Bool, l = (List.range F).filter p
  stay : ∀ t ∈ W.sp, t.1 < W.n ∧ t.2.1 < 2 ∧ t.2.2 < W.n
  once : W.sp.Nodup
  short : W.sp.length ≤ 60
theorem facts_asc {F : Nat} {p : Nat → Bool} : ((List.range F).filter p).Pairwise (· < ·) ∧ (∀ x ∈ (List.range F).filter p, x < F) ∧ ((List.range F).filter p).length ≤ F := by
  refine ⟨(List.pairwise_lt_range).filter _, fun x hx => List.mem_range.mp (List.mem_filter.mp hx).1, ?_⟩
  have h := List.length_filter_le p (List.range F)
  rw [List.length_range] at h
  exact h
/-- the program's world at v: its object -/
def ObAt (K : PySem.W.Frag) (C : Addr) (H : Hp) (W : Wd) (v : V) : Prop := ∃ x dx fs a1 a2 xs ys, v = .ref x ∧ H x = some (.ins C dx fs) ∧ fs.lookup ("states" : Str) = some (V.ref a1) ∧ fs.lookup ("steps" : Str) = some (V.ref a2) ∧
  SqT K H a1 xs ∧ Each (TupAt K H) W.st xs ∧ SqT K H a2 ys ∧ Each (StepAt K H) W.sp ys
theorem ObAt.same {K : PySem.W.Frag} {C : Addr} {H H' : Hp} {W : Wd} {v : V} (e : Same H H') : ObAt K C H W v → ObAt K C H' W v := fun ⟨x, dx, fs, a1, a2, xs, ys, h0, h1, h2, h3, h4, h5, h6, h7⟩ =>
  ⟨x, dx, fs, a1, a2, xs, ys, h0, e _ _ h1, h2, h3, e.seqT h4, Each.imp (fun _ _ => TupAt.same e) h5, e.seqT h6, Each.imp (fun _ _ => StepAt.same e) h7⟩
/-- the top's facts of World -/
structure WTxt (K : PySem.W.Frag) (mg : Str → Option Value) (C : Addr) : Prop where
  cl : Cls K C
  nL : NoAttr K C "labels"
  nF : NoAttr K C "facts"
  nS : NoAttr K C "states"
  nT : NoAttr K C "steps"
  mgC : mg "World" = some (.ref C)
  most : ∃ t, mg "MOST_STATES_worlds" = some (.int 400 t)
def rTup (K : PySem.W.Frag) : List V → Hp → VK → Prop := fun xs H Q => ∃ p ys, xs = [.ref p] ∧ ((SqL K H p ys ∧ ∀ l, H l = none → Q (.ref l) (upd H l (.tup ys))) ∨ (SqT K H p ys ∧ Q (.ref p) H))
theorem call_tup {X : Cx} : CallR X (.type "tuple") (rTup X.K) := call_tuple_of
def rLst (K : PySem.W.Frag) : List V → Hp → VK → Prop := fun xs H Q => ∃ p ys, xs = [.ref p] ∧ (SqL K H p ys ∨ SqT K H p ys) ∧ ∀ l, H l = none → Q (.ref l) (upd H l (.lst ys))
theorem call_lst {X : Cx} : CallR X (.type "list") (rLst X.K) := call_list_of

section
variable {P : Program} {w : World} {K : PySem.W.Frag} {mg : Str → Option Value} {base : Heap}
/-! ### ascend -/
def spAsc (K : PySem.W.Frag) : Sp := fun vs H Q _ => ∃ (a : Addr) (l : List Nat) (F : Nat), vs = [.ref a, nv F] ∧ SqL K H a (nvs l) ∧ l.Pairwise (· < ·) ∧ (∀ x ∈ l, x < F) ∧ l.length ≤ 1000 ∧ Q (.bl true) H
theorem scAsc : FnScope ["numbers", "limit", "k"] ["numbers", "limit"] (defScope sAsc) := ⟨rfl, rfl, rfl, by decide +kernel, rfl, by decide +kernel, by decide +kernel⟩
theorem ok_asc {f : Addr} {fd : FuncData} {k : Nat} (F : Fun K "ascend" "ascend" sAsc f fd) (B : Blt mg) : FnOk P w K mg base CX0 (k + 1) f fd ["numbers", "limit"] (spAsc K) := by
  refine F.ok scAsc (fun vs H Q E h => ?_) (fun cdv A outer s H vs Q E hr h => ?_)
  · obtain ⟨a, l, F, rfl, _⟩ := h
    rfl
  obtain ⟨a, l, F, rfl, hS, hasc, hlim, hlen, q⟩ := h
  refine ⟨_, pss_cons (ps_for PassesOwn.never rfl (pi_range1 (by rfl) B.range (pa_cons (pe_callB call_len_seq (by rfl) B.len PySem.boot_len (pa_cons (pv 0) pa_nil)) pa_nil)) (pg_name (i := 2) scAsc.nd rfl (.inl rfl))
      (pss_one (ps_if (PW.pt (pw_or (pt_cmpR op_lt (pe_ix ix_list (pv 0) (pv 2) (fun _ _ => rfl)) pe_int (nomark _)) (pw_or (pt_cmpR op_ge (pe_ix ix_list (pv 0) (pv 2) (fun _ _ => rfl)) (pv 1) (nomark _))
        (pw_or1 (PW.pt (pw_and (pt_cmpR op_gt (pv 2) pe_int (nomark _)) (pw_and1 (pt_cmpR op_le (pe_ix ix_list (pv 0) (pv 2) (fun _ _ => rfl)) (pe_ix ix_list (pv 0) (pe_op op_sub (pv 2) pe_int) (fun _ _ => rfl)) (nomark _))))))))) (pss_one (ps_ret pe_bl)) pss_nil)))
    (pss_one (ps_ret pe_bl)), ?_⟩
  have hl : (nvs l).length = l.length := List.length_map _
  refine ⟨_, rfl, a, _, rfl, .inl hS, _, rfl, by omega, by rw [hl]; omega, for_range (lo := 0) (n := (nvs l).length) (fun i σ H' => ∃ z, σ = [some (.ref a), some (nv F), z] ∧ H' = H) ⟨none, rfl, rfl⟩ ?_ ?_⟩
  · rintro i σ H' hi ⟨z, rfl, rfl⟩
    rw [hl] at hi
    have hx : l[i]? = some l[i] := List.getElem?_eq_getElem hi
    have hv : atI (nvs l) (0 + (i : Int)) = some (nv l[i]) := by
      rw [Int.zero_add]
      exact atI_nat (by rw [List.getElem?_map, hx] <;> rfl)
    have hb := hlim _ (List.getElem_mem hi)
    refine ⟨_, rfl, _, rfl, a, _, _, _, rfl, rfl, hS, hv, _, _, rfl, rfl, _, rfl, ?_⟩
    rw [decide_eq_false (by omega)]
    refine iteF ⟨_, rfl, _, rfl, a, _, _, _, rfl, rfl, hS, hv, _, rfl, _, _, rfl, rfl, _, rfl, ?_⟩
    rw [decide_eq_false (by omega)]
    refine iteF ⟨_, rfl, _, _, rfl, rfl, _, rfl, ite2 (fun c => ?_) (fun c => iteF ⟨_, rfl, rfl⟩)⟩
    have c' : (0 : Int) + (i : Int) > 0 := of_decide_eq_true c
    obtain ⟨j, rfl⟩ : ∃ j, i = j + 1 := ⟨i - 1, by omega⟩
    have hj : j < l.length := by omega
    have hv2 : atI (nvs l) (0 + ((j + 1 : Nat) : Int) - 1) = some (nv l[j]) := by
      rw [show (0 : Int) + ((j + 1 : Nat) : Int) - 1 = (j : Int) by omega]
      exact atI_nat (by rw [List.getElem?_map, List.getElem?_eq_getElem hj] <;> rfl)
    have hlt := List.pairwise_iff_getElem.mp hasc j (j + 1) hj hi (Nat.lt_succ_self j)
    refine ⟨_, rfl, _, rfl, a, _, _, _, rfl, rfl, hS, hv, _, rfl, _, rfl, _, _, rfl, rfl, a, _, _, _, rfl, rfl, hS, hv2, _, _, rfl, rfl, _, rfl, ?_⟩
    rw [decide_eq_false (by omega)]
    exact iteF ⟨_, rfl, rfl⟩
  · rintro σ H' ⟨z, rfl, rfl⟩
    exact q

/-! ### right_steps -/
def keyOf3 (t : Nat × Nat × Nat) : List Key := [.inl (t.1 : Int), .inl (t.2.1 : Int), .inl (t.2.2 : Int)]
theorem keyOf3_inj {t u : Nat × Nat × Nat} (h : keyOf3 t = keyOf3 u) : t = u := by
  obtain ⟨a, b, c⟩ := t
  obtain ⟨a', b', c'⟩ := u
  simp only [keyOf3, List.cons.injEq, Sum.inl.injEq, and_true] at h
  obtain ⟨h1, h2, h3⟩ := h
  rw [show a = a' by omega, show b = b' by omega, show c = c' by omega]
def seenOf (l : List (Nat × Nat × Nat)) : List (List Key × V) := l.map fun t => (keyOf3 t, .bl true)
theorem seen_not {l : List (Nat × Nat × Nat)} {t : Nat × Nat × Nat} (h : t ∉ l) : valV (seenOf l) (keyOf3 t) = none := by
  induction l with
  | nil => rfl
  | cons u l ih =>
    show valV ((keyOf3 u, V.bl true) :: seenOf l) (keyOf3 t) = none
    rw [valV_neg (fun e => h (by rw [keyOf3_inj e]; exact List.mem_cons_self))]
    exact ih fun z => h (List.mem_cons_of_mem _ z)
theorem seen_put {l : List (Nat × Nat × Nat)} {t : Nat × Nat × Nat} (h : t ∉ l) : putK (seenOf l) (keyOf3 t) (.bl true) = seenOf (l ++ [t]) := by
  unfold putK
  rw [if_neg]
  · simp [seenOf]
  · intro z
    obtain ⟨kv, hm, e⟩ := List.any_eq_true.mp z
    obtain ⟨u, hu, rfl⟩ := List.mem_map.mp hm
    exact h (keyOf3_inj (of_decide_eq_true e) ▸ hu)
theorem min3 (a b c : Nat) : ∃ m : Nat, nuMin3 (nv a) (nv b) (nv c) = some (nv m) := by
  have two : ∀ a b : Nat, ∃ m : Nat, nuMin2 (nv a) (nv b) = some (nv m) := fun a b => by
    unfold nuMin2
    show ∃ m : Nat, (some (decide ((b : Int) < (a : Int)))).map (fun c => if c = true then nv b else nv a) = some (nv m)
    by_cases h : (b : Int) < (a : Int)
    · exact ⟨b, by simp [h]⟩
    · exact ⟨a, by simp [h]⟩
  obtain ⟨m, h⟩ := two a b
  obtain ⟨m', h'⟩ := two m c
  exact ⟨m', by unfold nuMin3; rw [h]; exact h'⟩
def spRight (K : PySem.W.Frag) : Sp := fun vs H Q _ => ∃ (L n : Nat) (a : Addr) (ys : List V) (sp : List (Nat × Nat × Nat)), vs = [nv L, nv n, .ref a] ∧ SqL K H a ys ∧ Each (StepAt K H) sp ys ∧ sp.Nodup ∧ (∀ t ∈ sp, t.1 < n ∧ t.2.1 < L ∧ t.2.2 < n) ∧ sp.length ≤ 1000 ∧
  ∀ H', Same H H' → Q (.bl true) H'
theorem scRight : FnScope ["labels", "count", "steps", "seen", "first", "label", "second"] ["labels", "count", "steps"] (defScope sRight) := ⟨rfl, rfl, rfl, by decide +kernel, rfl, by decide +kernel, by decide +kernel⟩
theorem not_taken {α : Type} {l : List α} (h : l.Nodup) {i : Nat} {x : α} (hi : l[i]? = some x) : x ∉ l.take i := fun hm => by
  obtain ⟨j, hj, e⟩ := List.getElem_of_mem hm
  have hil := at_len hi
  rw [List.length_take] at hj
  rw [List.getElem_take] at e
  have e2 : l[i] = x := by
    rw [List.getElem?_eq_getElem hil] at hi
    exact Option.some.inj hi
  exact absurd (e.trans e2.symm) (List.pairwise_iff_getElem.mp h j i (by omega) hil (by omega))
theorem ok_right {f : Addr} {fd : FuncData} {k : Nat} (F : Fun K "right_steps" "right_steps" sRight f fd) (B : Blt mg) : FnOk P w K mg base CX0 (k + 1) f fd ["labels", "count", "steps"] (spRight K) := by
  refine F.ok scRight (fun vs H Q E h => ?_) (fun cdv A outer s H vs Q E hr h => ?_)
  · obtain ⟨L, n, a, ys, sp, rfl, _⟩ := h
    rfl
  obtain ⟨L, n, a, ys, sp, rfl, hS, hE, hnd, hin, hlen, q⟩ := h
  refine ⟨_, pss_cons (ps_set (i := 3) scRight.nd rfl (.inl rfl) pe_dnewT)
    (pss_cons (ps_for PassesOwn.never rfl (pi_list (pv 2)) (pg_tup rfl (pgs_cons (pg_name (i := 4) scRight.nd rfl (.inl rfl)) (pgs_cons (pg_name (i := 5) scRight.nd rfl (.inl rfl)) (pgs_cons (pg_name (i := 6) scRight.nd rfl (.inl rfl)) pgs_nil))))
      (pss_cons (ps_if (PW.pt (pw_or (pt_cmpR op_lt (pe_callB (call_min3Nu rfl) (by rfl) B.min (by decide +kernel) (pa_cons (pv 4) (pa_cons (pv 5) (pa_cons (pv 6) pa_nil)))) pe_int (nomark _)) (pw_or (pt_cmpR op_ge (pe_callB (call_max2 rfl) (by rfl) B.max (by decide +kernel) (pa_cons (pv 4) (pa_cons (pv 6) pa_nil))) (pv 1) (nomark _)) (pw_or1 (pt_cmpR op_ge (pv 5) (pv 0) (nomark _)))))) (pss_one (ps_ret pe_bl)) pss_nil)
      (pss_cons (ps_if (pt_cmp (pc_din (hu_of hr) (pe_tup (pa_cons (pv 4) (pa_cons (pv 5) (pa_cons (pv 6) pa_nil)))) (pv 3))) (pss_one (ps_ret pe_bl)) pss_nil)
      (pss_one (ps_dput (hu_of hr) (pv 3) (pe_tup (pa_cons (pv 4) (pa_cons (pv 5) (pa_cons (pv 6) pa_nil)))) pe_bl rfl)))))
    (pss_one (ps_ret pe_bl))), ?_⟩
  intro d hd
  have s1 : Same H (upd H d (.dT [])) := same_new hd
  refine ⟨_, rfl, a, rfl, ⟨ys, s1.seq hS⟩, for_list (K := K) (a := a) (xs := ys) (fun i σ H' => ∃ z4 z5 z6, σ = [some (nv L), some (nv n), some (.ref a), some (.ref d), z4, z5, z6] ∧ Same H H' ∧ H' d = some (.dT (seenOf (sp.take i))))
    ⟨none, none, none, rfl, s1, upd_same⟩ (fun i σ H' _ ⟨_, _, _, _, s, _⟩ => s.seq hS) ?_ ?_⟩
  · rintro i y σ H' hi ⟨z4, z5, z6, rfl, s2, hd2⟩
    obtain ⟨t, ht, hy⟩ := hE.get hi
    obtain ⟨b, rfl, hb⟩ := StepAt.same s2 hy
    obtain ⟨h1, h2, h3⟩ := hin t (List.mem_of_getElem? ht)
    have hno := not_taken hnd ht
    refine ⟨b, _, rfl, hb, rfl, _, _, rfl, _, _, rfl, _, _, rfl, rfl, ?_⟩
    obtain ⟨m, hm⟩ := min3 t.1 t.2.1 t.2.2
    refine ⟨_, rfl, _, rfl, _, rfl, _, _, _, _, rfl, hm, _, _, rfl, rfl, _, rfl, ?_⟩
    rw [decide_eq_false (by omega)]
    refine iteF ⟨_, rfl, _, rfl, _, _, rfl, _, rfl, _, _, rfl, rfl, _, rfl, ?_⟩
    rw [decide_eq_false (by split <;> omega)]
    refine iteF ⟨_, rfl, _, rfl, _, _, rfl, rfl, _, rfl, ?_⟩
    rw [decide_eq_false (by omega)]
    refine iteF ?_
    refine ⟨_, rfl, _, rfl, _, rfl, by show 3 ≤ sizeLine; decide, fun p hp => ?_⟩
    have s3 := same_new (o := .tup [nv t.1, nv t.2.1, nv t.2.2]) hp
    refine ⟨_, rfl, d, _, rfl, DGet.t (k := keyOf3 t) (s3 _ _ hd2) upd_same, _, rfl, ?_⟩
    rw [seen_not hno]
    refine iteF ?_
    refine ⟨_, rfl, _, rfl, _, rfl, _, rfl, by show 3 ≤ sizeLine; decide, fun p' hp' => ?_⟩
    have s4 := same_new (o := .tup [nv t.1, nv t.2.1, nv t.2.2]) hp'
    refine ⟨d, _, rfl, DPut.t (k := keyOf3 t) (s4 _ _ (s3 _ _ hd2)) upd_same ?_, ?_⟩
    · unfold seenOf
      rw [List.length_map, List.length_take]
      exact Nat.lt_of_le_of_lt (Nat.min_le_right _ _) (small1000 hlen)
    refine ⟨_, _, _, rfl, ((s2.trans s3).trans s4).mut hd, ?_⟩
    rw [upd_same, seen_put hno, take_snoc ht]
  · rintro σ H' ⟨z4, z5, z6, rfl, s2, _⟩
    exact q H' s2
end
end K20
namespace K20
open PySem L2 Pm
section
variable {P : Program} {w : World} {K : PySem.W.Frag} {mg : Str → Option Value} {base : Heap}
/-- the parts of a world, as the constructor gets them -/
def spInit (K : PySem.W.Frag) (C : Addr) : Sp := fun vs H Q _ => ∃ (x dx : Addr) (L F : Nat) (b c : Addr) (xs ys : List V) (W : Wd), vs = [.ref x, nv L, nv F, .ref b, .ref c] ∧ H x = some (.ins C dx []) ∧ H dx = some (.own x) ∧ 1 ≤ L ∧ L ≤ 3 ∧ F ≤ 6 ∧
  1 ≤ W.n ∧ W.n ≤ 20 ∧ (∀ l ∈ W.st, ∃ p : Nat → Bool, l = (List.range F).filter p) ∧ (∀ t ∈ W.sp, t.1 < W.n ∧ t.2.1 < L ∧ t.2.2 < W.n) ∧ W.sp.Nodup ∧ W.sp.length ≤ 60 ∧
  SqL K H b xs ∧ Each (LstAt K H) W.st xs ∧ SqL K H c ys ∧ Each (StepAt K H) W.sp ys ∧
  ∀ (H' : Hp) (W' : Wd), (∀ b o, b ≠ x → H b = some o → H' b = some o) → W'.st = W.st → W'.sp.Perm W.sp → ObAt K C H' W' (.ref x) → Q .non H'
abbrev nInit : List Str := ["self", "labels", "facts", "states", "steps", "valid", "state", "first", "label", "second"]
theorem scInit : FnScope nInit ["self", "labels", "facts", "states", "steps"] (defScope sInit) := ⟨rfl, rfl, rfl, by decide +kernel, rfl, by decide +kernel, by decide +kernel⟩
theorem each_perm {α : Type} {R : α → V → Prop} {xs ys : List V} (h : ys.Perm xs) : ∀ {as : List α}, Each R as xs → ∃ bs : List α, bs.Perm as ∧ Each R bs ys := by
  induction h with
  | nil =>
    intro as e
    exact ⟨as, .refl _, e⟩
  | cons x _ ih =>
    intro as e
    cases as with
    | nil => exact nomatch (show _ :: _ = [] from e)
    | cons a as =>
      obtain ⟨y, r, e1, h1, h2⟩ := e
      injection e1 with e1 e2
      subst e1 e2
      obtain ⟨bs, p, h3⟩ := ih h2
      exact ⟨a :: bs, p.cons a, _, _, rfl, h1, h3⟩
  | swap x y l =>
    intro as e
    match as, e with
    | [], e => exact nomatch (show _ :: _ = [] from e)
    | [a], e =>
      obtain ⟨z, r, e1, h1, h2⟩ := e
      injection e1 with _ e2
      rw [← e2] at h2
      exact nomatch (show _ :: _ = [] from h2)
    | a :: b :: as, e =>
      obtain ⟨z, r, e1, h1, z', r', e2, h2, h3⟩ := e
      injection e1 with e1 e1'
      rw [e2] at e1'
      injection e1' with e3 e4
      subst e1 e3 e4
      exact ⟨b :: a :: as, .swap a b as, _, _, rfl, h2, _, _, rfl, h1, h3⟩
  | trans _ _ ih1 ih2 =>
    intro as e
    obtain ⟨bs, p, h⟩ := ih2 e
    obtain ⟨cs, p', h'⟩ := ih1 h
    exact ⟨cs, p'.trans p, h'⟩
theorem each_mem {α : Type} {R : α → V → Prop} : ∀ {as : List α} {xs : List V}, Each R as xs → ∀ x ∈ xs, ∃ a ∈ as, R a x
  | [], _, e => by
    cases (show _ = [] from e)
    intro x h
    cases h
  | a :: as, xs, e => by
    obtain ⟨y, r, rfl, h1, h2⟩ := e
    intro x hx
    rcases List.mem_cons.mp hx with e | hx
    · exact ⟨a, List.mem_cons_self, e ▸ h1⟩
    · obtain ⟨b, hb, hr⟩ := each_mem h2 x hx
      exact ⟨b, List.mem_cons_of_mem _ hb, hr⟩
theorem putF_len (f : Str) (v : V) : ∀ fs : List (Str × V), (putF f v fs).length ≤ fs.length + 1
  | [] => Nat.le_refl _
  | (g, x) :: r => by
    unfold putF
    split
    · exact Nat.le_succ _
    · exact Nat.succ_le_succ (putF_len f v r)
theorem ok_init {f fA fR C : Addr} {fd fdA fdR : FuncData} (F : Fun K "__init__" "World.__init__" sInit f fd) (B : Blt mg) (T : WTxt K mg C)
    (GA : FnOk P w K mg base CX0 1 fA fdA ["numbers", "limit"] (spAsc K)) (mA : mg "ascend" = some (.ref fA)) (kA : PySem.W.keepIn K (.ref fA) = true) (bA : Binds K fdA ["numbers", "limit"] [])
    (GR : FnOk P w K mg base CX0 1 fR fdR ["labels", "count", "steps"] (spRight K)) (mR : mg "right_steps" = some (.ref fR)) (kR : PySem.W.keepIn K (.ref fR) = true) (bR : Binds K fdR ["labels", "count", "steps"] []) :
    FnOk P w K mg base CX0 2 f fd ["self", "labels", "facts", "states", "steps"] (spInit K C) := by
  refine F.ok scInit (fun vs H Q E h => ?_) (fun cdv A outer s H vs Q E hr h => ?_)
  · obtain ⟨x, dx, L, F, b, c, xs, ys, W, rfl, _⟩ := h
    rfl
  obtain ⟨x, dx, L, F, b, c, xs, ys, W, rfl, hx, hdx, hL1, hL3, hF, hn1, hn2, hfacts, hin, hnd, hlen, hS, hE, hT, hY, q⟩ := h
  obtain ⟨tM, mM⟩ := T.most
  refine ⟨_, Evl.pss_cut (ps_set (i := 5) scInit.nd rfl (.inl rfl) (pe_and (pe_chain op_le op_le pe_int (pv 1) pe_int) (pe_and (pe_chain op_le op_le pe_int (pv 2) pe_int) (pe_one (pe_chain op_le op_le pe_int (pe_callB call_len_seq (by rfl) B.len PySem.boot_len (pa_cons (pv 3) pa_nil)) (pe_glob (v := .int 400) (by rfl) mM ⟨_, rfl⟩))))))
    (Evl.pss_cut (ps_for PassesOwn.never rfl (pi_list (pv 3)) (pg_name (i := 6) scInit.nd rfl (.inl rfl)) (pss_one (ps_set (i := 5) scInit.nd rfl (.inl rfl) (pe_and (pv 5) (pe_one (pe_call GA hr rfl mA kA bA .nil pass0 (pa_cons (pv 6) (pa_cons (pv 2) pa_nil))))))))
    (Evl.pss_cut (ps_if (PW.pt (pw_or (pt_not (pt_val (pv 5))) (pw_or1 (pt_not (pt_val (pe_call GR hr rfl mR kR bR .nil pass0 (pa_cons (pv 1) (pa_cons (pe_callB call_len_seq (by rfl) B.len PySem.boot_len (pa_cons (pv 3) pa_nil)) (pa_cons (pv 4) pa_nil))))))))) pss_never pss_nil)
    (pss_cons (ps_fld (pv 0) (pv 1) rfl)
    (pss_cons (ps_fld (pv 0) (pv 2) rfl)
    (Evl.pss_cut (ps_fld (pv 0) (pe_callTy call_tup (by rfl) B.tuple (by decide +kernel) (pa_cons (pe_lc (own := [("state", 6)]) (g := gName 6) (tt := tYes) rfl scInit.nd (pi_list (pv 3)) (blkOk_by (own := [("state", 6)]) (N := nInit) (sc := defScope sInit) (by decide +kernel))
        (fun _ _ _ _ _ => pg_name (i := 6) scInit.nd rfl (.inl rfl)) (fun _ _ _ _ _ => pts_nil) (fun _ _ _ _ _ => pe_callTy (r := rTup K) call_tup (by rfl) B.tuple (by decide +kernel) (pa_cons (pv 6) pa_nil))) pa_nil)) rfl)
    (pss_one (ps_fld (pv 0) (pe_callTy call_tup (by rfl) B.tuple (by decide +kernel) (pa_cons (pe_callB (cr_sortT (d := 3) (B := 1000) (by decide)) (by rfl) B.sorted (by decide +kernel) (pa_cons (pe_lc (own := [("first", 7), ("label", 8), ("second", 9)]) (g := gTup K 3 (gCons (gName 7) (gCons (gName 8) (gCons (gName 9) gNil)))) (tt := tYes) rfl scInit.nd (pi_list (pv 4))
        (blkOk_by (own := [("first", 7), ("label", 8), ("second", 9)]) (N := nInit) (sc := defScope sInit) (by decide +kernel))
        (fun _ _ _ _ _ => pg_tup rfl (pgs_cons (pg_name (i := 7) scInit.nd rfl (.inl rfl)) (pgs_cons (pg_name (i := 8) scInit.nd rfl (.inl rfl)) (pgs_cons (pg_name (i := 9) scInit.nd rfl (.inl rfl)) pgs_nil)))) (fun _ _ _ _ _ => pts_nil)
        (fun _ _ _ _ _ => pe_tup (pa_cons (pv 7) (pa_cons (pv 8) (pa_cons (pv 9) pa_nil))))) pa_nil)) pa_nil)) rfl))))))), ?_⟩
  have hxl : xs.length = W.n := Each.length hE
  -- valid
  refine ⟨fun σ' H' => σ' = [some (.ref x), some (nv L), some (nv F), some (.ref b), some (.ref c), some (.bl true), none, none, none, none] ∧ H' = H, ?_, ?_⟩
  · refine ⟨_, rfl, _, _, rfl, rfl, _, rfl, ?_⟩
    rw [decide_eq_true (by omega)]
    refine iteT ⟨_, _, rfl, rfl, _, rfl, ?_⟩
    rw [decide_eq_true (by omega)]
    refine iteT ⟨_, rfl, _, _, rfl, rfl, _, rfl, ?_⟩
    rw [decide_eq_true (by omega)]
    refine iteT ⟨_, _, rfl, rfl, _, rfl, ?_⟩
    rw [decide_eq_true (by omega)]
    refine iteT ⟨_, rfl, b, _, rfl, .inl hS, _, _, rfl, rfl, _, rfl, ?_⟩
    rw [decide_eq_true (by omega)]
    refine iteT ⟨_, _, rfl, rfl, ?_, rfl⟩
    show [some (V.ref x), some (nv L), some (nv F), some (V.ref b), some (V.ref c), some (V.bl (decide ((xs.length : Int) ≤ 400))), none, none, none, none] = _
    rw [decide_eq_true (by omega)]
  rintro σ1 H1 ⟨rfl, rfl⟩
  -- for state in states
  refine ⟨fun σ' H' => ∃ z, σ' = [some (.ref x), some (nv L), some (nv F), some (.ref b), some (.ref c), some (.bl true), z, none, none, none] ∧ H' = H1, ?_, ?_⟩
  · refine ⟨_, rfl, b, rfl, ⟨xs, hS⟩, for_list (K := K) (a := b) (xs := xs) (fun i σ' H' => ∃ z, σ' = [some (.ref x), some (nv L), some (nv F), some (.ref b), some (.ref c), some (.bl true), z, none, none, none] ∧ H' = H1) ⟨none, rfl, rfl⟩ (fun i σ' H' _ ⟨_, _, e⟩ => e ▸ hS) ?_ (fun _ _ z => z)⟩
    rintro i y σ' H' hi ⟨z, rfl, rfl⟩
    obtain ⟨l, hl, p, rfl, hp⟩ := hE.get hi
    obtain ⟨pr, rfl⟩ := hfacts _ (List.mem_of_getElem? hl)
    obtain ⟨c1, c2, c3⟩ := facts_asc (F := F) (p := pr)
    refine ⟨_, rfl, true, rfl, iteT ⟨_, rfl, _, rfl, p, _, F, rfl, hp, c1, c2, by omega, ?_⟩⟩
    exact ⟨some (.ref p), rfl, rfl⟩
  rintro σ1 H1 ⟨z, rfl, rfl⟩
  -- the look at the steps
  refine ⟨fun σ' H' => σ' = [some (.ref x), some (nv L), some (nv F), some (.ref b), some (.ref c), some (.bl true), z, none, none, none] ∧ Same H1 H', ?_, ?_⟩
  · refine ⟨_, rfl, true, rfl, iteF ⟨_, rfl, _, rfl, b, _, rfl, .inl hS, _, rfl, L, W.n, c, ys, W.sp, ?_, hT, hY, hnd, hin, by omega, fun H2 s2 => ⟨true, rfl, iteF ⟨rfl, s2⟩⟩⟩⟩
    rw [hxl]
    rfl
  rintro σ2 H2 ⟨rfl, s2⟩
  -- self.labels, self.facts
  refine ⟨_, rfl, _, rfl, x, C, dx, [], rfl, s2 _ _ hx, T.cl, T.nL, by show 0 < 1000; decide, ?_⟩
  refine ⟨_, rfl, _, rfl, x, C, dx, _, rfl, upd_same, T.cl, T.nF, by show 1 < 1000; decide, ?_⟩
  rw [upd_upd]
  generalize hfs : putF ("facts" : Str) (nv F) (putF ("labels" : Str) (nv L) []) = fs2
  have hfl : fs2.length ≤ 2 := by
    rw [← hfs]
    exact Nat.le_trans (putF_len _ _ _) (Nat.succ_le_succ (putF_len _ _ _))
  have but2 : ∀ a o, a ≠ x → H1 a = some o → upd H2 x (.ins C dx fs2) a = some o := fun a o hne e => by
    rw [upd_ne hne]
    exact s2 _ _ e
  have hx2 : upd H2 x (.ins C dx fs2) x = some (.ins C dx fs2) := upd_same
  generalize upd H2 x (.ins C dx fs2) = H3 at but2 hx2
  clear hfs s2
  -- what stood, apart from self
  have nl : ∀ {a : Addr} {u : List V}, SqL K H1 a u → SqL K H3 a u := fun {a u} h => by
    rcases h with (h | ⟨o, h⟩) | h
    · exact .inl (.inl (but2 _ _ (ne_of h hx (fun q => by cases q)) h))
    · exact .inl (.inr ⟨o, but2 _ _ (ne_of h hx (fun q => by cases q)) h⟩)
    · exact .inr h
  have nt : ∀ {a : Addr} {u : List V}, SqT K H1 a u → SqT K H3 a u := fun {a u} h => by
    rcases h with (h | ⟨o, h⟩) | h
    · exact .inl (.inl (but2 _ _ (ne_of h hx (fun q => by cases q)) h))
    · exact .inl (.inr ⟨o, but2 _ _ (ne_of h hx (fun q => by cases q)) h⟩)
    · exact .inr h
  have hS3 := nl hS
  have hT3 := nl hT
  have hE3 : Each (LstAt K H3) W.st xs := Each.imp (fun _ _ ⟨a, e, h⟩ => ⟨a, e, nl h⟩) hE
  have hY3 : Each (StepAt K H3) W.sp ys := Each.imp (fun _ _ ⟨a, e, h⟩ => ⟨a, e, nt h⟩) hY
  -- self.states
  refine ⟨fun σ' H' => ∃ (H4 : Hp) (a1 : Addr) (us : List V), σ' = [some (.ref x), some (nv L), some (nv F), some (.ref b), some (.ref c), some (.bl true), z, none, none, none] ∧ Same H3 H4 ∧ H4 a1 = some (.tup us) ∧ Each (TupAt K H4) W.st us ∧ H' = upd H4 x (.ins C dx (putF "states" (.ref a1) fs2)), ?_, ?_⟩
  · refine ⟨_, rfl, b, rfl, ⟨xs, hS3⟩, fun D hD => lc_list (K := K) (a := b) (xs := xs) (fun i H' => Same H3 H' ∧ ∃ acc, H' D = some (.lst acc) ∧ Each (TupAt K H') (W.st.take i) acc) ⟨same_new hD, [], upd_same, rfl⟩ (fun i H' _ h => h.1.seq hS3) ?_ ?_⟩
    · rintro i y H' hi ⟨s4, acc, hacc, hea⟩
      obtain ⟨l, hl, p, rfl, hp⟩ := hE3.get hi
      refine ⟨rfl, ⟨_, rfl, p, _, rfl, .inl ⟨s4.seq hp, fun t ht => ?_⟩⟩⟩
      have s5 := same_new (o := .tup (nvs l)) ht
      have hDt := s5 _ _ hacc
      refine ⟨acc, hDt, ?_, ?_, _, upd_same, ?_⟩
      · rw [hea.length, List.length_take]
        exact Nat.lt_of_le_of_lt (Nat.min_le_left _ _) (small1000 (by have := at_len hi; omega))
      · exact (s4.trans s5).mut hD
      · rw [take_snoc hl]
        have ne : t ≠ D := fun e => by rw [e, hacc] at ht; cases ht
        refine Each.snoc (Each.imp (fun _ _ ⟨a, e, h⟩ => ⟨a, e, ?_⟩) hea) ⟨t, rfl, SqT.of (by rw [upd_ne ne, upd_same])⟩
        · have h' := s5.seqT h
          rcases h' with (h' | ⟨o, h'⟩) | h'
          · exact .inl (.inl (by rw [upd_ne (ne_of h' hDt (fun q => by cases q))]; exact h'))
          · exact .inl (.inr ⟨o, by rw [upd_ne (ne_of h' hDt (fun q => by cases q))]; exact h'⟩)
          · exact .inr h'
    · rintro H4 ⟨s4, acc, hacc, hea⟩
      have hel : xs.length = W.st.length := Each.length hE
      rw [hel, List.take_length] at hea
      refine ⟨D, acc, rfl, .inl ⟨SqL.of hacc, fun t ht => ?_⟩⟩
      have s5 := same_new (o := .tup acc) ht
      refine ⟨_, rfl, x, C, dx, fs2, rfl, (s4.trans s5) _ _ hx2, T.cl, T.nS, by omega, ?_⟩
      exact ⟨_, t, acc, rfl, s4.trans s5, upd_same, Each.imp (fun _ _ => TupAt.same s5) hea, rfl⟩
  rintro σ3 H5 ⟨H4, a1, us, rfl, s4, ha1, hus, rfl⟩
  have hx4 : H4 x = some (.ins C dx fs2) := s4 _ _ hx2
  generalize hfs3 : putF ("states" : Str) (V.ref a1) fs2 = fs3
  have hfl3 : fs3.length ≤ 3 := by
    rw [← hfs3]
    exact Nat.le_trans (putF_len _ _ _) (by omega)
  have up : ∀ {a : Addr} {o : HO}, (∀ D d u, o ≠ .ins D d u) → H4 a = some o → upd H4 x (.ins C dx fs3) a = some o := fun {a o} hno h => by
    rw [upd_ne (ne_of h hx4 (hno _ _ _))]
    exact h
  have upl : ∀ {a : Addr} {u : List V}, SqL K H4 a u → SqL K (upd H4 x (.ins C dx fs3)) a u := fun {a u} h => by
    rcases h with (h | ⟨o, h⟩) | h
    · exact .inl (.inl (up (fun _ _ _ q => by cases q) h))
    · exact .inl (.inr ⟨o, up (fun _ _ _ q => by cases q) h⟩)
    · exact .inr h
  have upt : ∀ {a : Addr} {u : List V}, SqT K H4 a u → SqT K (upd H4 x (.ins C dx fs3)) a u := fun {a u} h => by
    rcases h with (h | ⟨o, h⟩) | h
    · exact .inl (.inl (up (fun _ _ _ q => by cases q) h))
    · exact .inl (.inr ⟨o, up (fun _ _ _ q => by cases q) h⟩)
    · exact .inr h
  have but5 : ∀ a o, a ≠ x → H1 a = some o → upd H4 x (.ins C dx fs3) a = some o := fun a o hne e => by
    rw [upd_ne hne]
    exact s4 _ _ (but2 _ _ hne e)
  have hx5 : upd H4 x (.ins C dx fs3) x = some (.ins C dx fs3) := upd_same
  have hus5 : Each (TupAt K (upd H4 x (.ins C dx fs3))) W.st us := Each.imp (fun _ _ ⟨a, e, h⟩ => ⟨a, e, upt h⟩) hus
  have ha15 : upd H4 x (.ins C dx fs3) a1 = some (.tup us) := up (fun _ _ _ q => by cases q) ha1
  have hT5 := upl (s4.seq hT3)
  have hY5 : Each (StepAt K (upd H4 x (.ins C dx fs3))) W.sp ys := Each.imp (fun _ _ ⟨a, e, h⟩ => ⟨a, e, upt (s4.seqT h)⟩) hY3
  generalize upd H4 x (.ins C dx fs3) = H5 at but5 hx5 hus5 ha15 hT5 hY5 ⊢
  clear up upl upt
  -- self.steps
  refine ⟨_, rfl, c, rfl, ⟨ys, hT5⟩, fun D hD => lc_list (K := K) (a := c) (xs := ys) (fun i H' => Same H5 H' ∧ ∃ acc, H' D = some (.lst acc) ∧ Each (StepAt K H') (W.sp.take i) acc) ⟨same_new hD, [], upd_same, rfl⟩ (fun i H' _ h => h.1.seq hT5) ?_ ?_⟩
  · rintro i y H' hi ⟨s6, acc, hacc, hea⟩
    obtain ⟨t, ht, p, rfl, hp⟩ := hY5.get hi
    refine ⟨p, _, rfl, s6.seqT hp, rfl, _, _, rfl, _, _, rfl, _, _, rfl, rfl, rfl, ?_⟩
    refine ⟨_, rfl, _, rfl, _, rfl, by show 3 ≤ sizeLine; decide, fun m hm => ?_⟩
    have s7 := same_new (o := .tup [nv t.1, nv t.2.1, nv t.2.2]) hm
    have hDt := s7 _ _ hacc
    refine ⟨acc, hDt, ?_, (s6.trans s7).mut hD, _, upd_same, ?_⟩
    · rw [hea.length, List.length_take]
      exact Nat.lt_of_le_of_lt (Nat.min_le_right _ _) (small1000 (by omega))
    · rw [take_snoc ht]
      have ne : m ≠ D := fun e => by rw [e, hacc] at hm; cases hm
      refine Each.snoc (Each.imp (fun _ _ ⟨a, e, h⟩ => ⟨a, e, ?_⟩) hea) ⟨m, rfl, SqT.of (by rw [upd_ne ne, upd_same])⟩
      have h' := s7.seqT h
      rcases h' with (h' | ⟨o, h'⟩) | h'
      · exact .inl (.inl (by rw [upd_ne (ne_of h' hDt (fun q => by cases q))]; exact h'))
      · exact .inl (.inr ⟨o, by rw [upd_ne (ne_of h' hDt (fun q => by cases q))]; exact h'⟩)
      · exact .inr h'
  · rintro H6 ⟨s6, acc, hacc, hea⟩
    have hyl : ys.length = W.sp.length := Each.length hY
    rw [hyl, List.take_length] at hea
    refine ⟨D, acc, rfl, SqL.of hacc, by rw [hea.length]; omega, fun y hy => ?_, fun zs p hperm _ hp => ?_⟩
    · obtain ⟨t, ht, a, rfl, ha⟩ := each_mem hea y hy
      obtain ⟨b1, b2, b3⟩ := hin t ht
      refine ⟨[(t.1 : Int), (t.2.1 : Int), (t.2.2 : Int)], ⟨a, rfl, ha⟩, rfl, fun m hm => ?_⟩
      simp only [List.mem_cons, List.not_mem_nil, or_false] at hm
      rcases hm with rfl | rfl | rfl <;> omega
    · obtain ⟨sp', hsp, hz⟩ := each_perm hperm hea
      have s7 := same_new (o := .lst zs) hp
      refine ⟨p, zs, rfl, .inl ⟨SqL.of upd_same, fun a2 ha2 => ?_⟩⟩
      have s8 := s7.and_new (o := .tup zs) ha2
      have s9 := s6.trans s8
      refine ⟨_, rfl, x, C, dx, fs3, rfl, s9 _ _ hx5, T.cl, T.nT, by omega, ?_⟩
      have hx9 := s9 _ _ hx5
      have ne1 : ∀ {a : Addr} {o : HO} {H' : Hp}, H' x = some (.ins C dx fs3) → (∀ D d u, o ≠ .ins D d u) → H' a = some o → ∀ o', upd H' x o' a = some o := fun {a o H'} hx' hno h o' => by
        rw [upd_ne (ne_of h hx' (hno _ _ _))]
        exact h
      have upt : ∀ {a : Addr} {u : List V} {H' : Hp} {o' : HO}, H' x = some (.ins C dx fs3) → SqT K H' a u → SqT K (upd H' x o') a u := fun {a u H' o'} hx' h => by
        rcases h with (h | ⟨o, h⟩) | h
        · exact .inl (.inl (ne1 hx' (fun _ _ _ q => by cases q) h _))
        · exact .inl (.inr ⟨o, ne1 hx' (fun _ _ _ q => by cases q) h _⟩)
        · exact .inr h
      refine q _ ⟨W.st, sp'⟩ (fun a o hne e => by rw [upd_ne hne]; exact s9 _ _ (but5 _ _ hne e)) rfl hsp ?_
      refine ⟨x, dx, putF "steps" (.ref a2) fs3, a1, a2, us, zs, rfl, upd_same, ?_, ?_, upt hx9 (s9.seqT (SqT.of ha15)), Each.imp (fun _ _ ⟨a, e, h⟩ => ⟨a, e, upt hx9 (s9.seqT h)⟩) hus5, upt hx9 (SqT.of upd_same), Each.imp (fun _ _ ⟨a, e, h⟩ => ⟨a, e, upt hx9 (s8.seqT h)⟩) hz⟩
      · rw [lookup_putF, if_neg (by decide +kernel), ← hfs3, lookup_putF, if_pos rfl]
      · rw [lookup_putF, if_pos rfl]
end
end K20
namespace K20
open PySem L2 Pm
/-- what the constructor asks -/
structure Fits (L F : Nat) (W : Wd) : Prop where
  l1 : 1 ≤ L
  l3 : L ≤ 3
  f6 : F ≤ 6
  pos : 1 ≤ W.n
  few : W.n ≤ 20
  facts : ∀ l ∈ W.st, ∃ p : Nat → Bool, l = (List.range F).filter p
  stay : ∀ t ∈ W.sp, t.1 < W.n ∧ t.2.1 < L ∧ t.2.2 < W.n
  once : W.sp.Nodup
  short : W.sp.length ≤ 60
def behT (l : List (Nat × Nat × Nat)) (s a : Nat) : List Nat := (l.filter fun x => x.1 == s && x.2.1 == a).map fun x => x.2.2
theorem behT_yes {l : List (Nat × Nat × Nat)} {i s a : Nat} {t : Nat × Nat × Nat} (h : l[i]? = some t) (h1 : t.1 = s) (h2 : t.2.1 = a) : behT (l.take (i + 1)) s a = behT (l.take i) s a ++ [t.2.2] := by
  unfold behT
  rw [take_snoc h, List.filter_append, List.map_append]
  simp [h1, h2]
theorem behT_no {l : List (Nat × Nat × Nat)} {i s a : Nat} {t : Nat × Nat × Nat} (h : l[i]? = some t) (hn : ¬ (t.1 = s ∧ t.2.1 = a)) : behT (l.take (i + 1)) s a = behT (l.take i) s a := by
  unfold behT
  rw [take_snoc h, List.filter_append, List.map_append]
  have e : (t.1 == s && t.2.1 == a) = false := by
    rw [Bool.eq_false_iff]
    intro z
    simp only [Bool.and_eq_true, beq_iff_eq] at z
    exact hn z
  simp [e]
theorem behT_len (l : List (Nat × Nat × Nat)) (s a : Nat) : (behT l s a).length ≤ l.length := by
  unfold behT
  rw [List.length_map]
  exact List.length_filter_le _ _
theorem int_eq (n m : Nat) : decide (V.int (n : Int) = V.int (m : Int)) = decide (n = m) := by
  by_cases h : n = m
  · subst h; simp
  · rw [decide_eq_false h, decide_eq_false]
    intro e
    have := V.int.inj e
    omega
section
variable {P : Program} {w : World} {K : PySem.W.Frag} {mg : Str → Option Value} {base : Heap}
/-! ### _law_made -/
def spMade (K : PySem.W.Frag) (C : Addr) : Sp := fun vs H Q _ => ∃ (v : V) (L F : Nat) (W : Wd), vs = [v, nv L, nv F] ∧ WdAt K H W v ∧ Fits L F W ∧
  ∀ H' v' W', Same H H' → W'.st = W.st → W'.sp.Perm W.sp → ObAt K C H' W' v' → Q v' H'
theorem scMade : FnScope ["_law_world_here", "_law_labels", "_law_facts", "_law_state"] ["_law_world_here", "_law_labels", "_law_facts"] (defScope sMade) := ⟨rfl, rfl, rfl, by decide +kernel, rfl, by decide +kernel, by decide +kernel⟩
theorem ok_made {f fI C : Addr} {fd fdI : FuncData} (F : Fun K "_law_made" "_law_made" sMade f fd) (B : Blt mg) (T : WTxt K mg C) (M : Mk K C fI)
    (GI : FnOk P w K mg base CX0 2 fI fdI ["self", "labels", "facts", "states", "steps"] (spInit K C)) (bI : Binds K fdI ["self", "labels", "facts", "states", "steps"] []) :
    FnOk P w K mg base CX0 4 f fd ["_law_world_here", "_law_labels", "_law_facts"] (spMade K C) := by
  refine F.ok scMade (fun vs H Q E h => ?_) (fun cdv A outer s H vs Q E hr h => ?_)
  · obtain ⟨v, L, F, W, rfl, _⟩ := h
    rfl
  obtain ⟨v, L, F, W, rfl, hW, ft, q⟩ := h
  refine ⟨_, pss_one (ps_ret (pe_make M GI hr rfl T.mgC bI .nil pass0 (pa_cons (pv 1) (pa_cons (pv 2) (pa_cons
    (pe_lc (own := [("_law_state", 3)]) (g := gName 3) (tt := tYes) rfl scMade.nd (pi_list (pe_ix ix_tup (pv 0) pe_int (fun _ _ => rfl))) (blkOk_by (own := [("_law_state", 3)]) (N := ["_law_world_here", "_law_labels", "_law_facts", "_law_state"]) (sc := defScope sMade) (by decide +kernel))
      (fun _ _ _ _ _ => pg_name (i := 3) scMade.nd rfl (.inl rfl)) (fun _ _ _ _ _ => pts_nil) (fun _ _ _ _ _ => pe_callTy (r := rLst K) call_lst (by rfl) B.list (by decide +kernel) (pa_cons (pv 3) pa_nil)))
    (pa_cons (pe_callTy call_lst (by rfl) B.list (by decide +kernel) (pa_cons (pe_ix ix_tup (pv 0) pe_int (fun _ _ => rfl)) pa_nil)) pa_nil)))))), ?_⟩
  obtain ⟨a, b, c, xs, ys, rfl, hA, hB, hX, hC, hY⟩ := hW
  refine ⟨_, rfl, _, rfl, _, rfl, a, _, 0, _, rfl, rfl, hA, atI_nat (j := 0) rfl, b, rfl, ⟨xs, hB⟩, fun D hD => lc_list (K := K) (a := b) (xs := xs) (fun i H' => Same H H' ∧ ∃ acc, H' D = some (.lst acc) ∧ Each (fun l x => ∃ p, x = .ref p ∧ H' p = some (.lst (nvs l)) ∧ p ≠ D) (W.st.take i) acc) ⟨same_new hD, [], upd_same, rfl⟩ (fun i H' _ h => h.1.seq hB) ?_ ?_⟩
  · rintro i y H' hi ⟨s4, acc, hacc, hea⟩
    obtain ⟨l, hl, p, rfl, hp⟩ := hX.get hi
    refine ⟨rfl, ⟨_, rfl, p, _, rfl, .inl (s4.seq hp), fun t ht => ?_⟩⟩
    have s5 := same_new (o := .lst (nvs l)) ht
    have hDt := s5 _ _ hacc
    have ne : t ≠ D := fun e => by rw [e, hacc] at ht; cases ht
    refine ⟨acc, hDt, ?_, (s4.trans s5).mut hD, _, upd_same, ?_⟩
    · rw [hea.length, List.length_take]
      have h1 : W.st.length ≤ 20 := ft.few
      exact Nat.lt_of_le_of_lt (Nat.min_le_right _ _) (small1000 (by omega))
    · rw [take_snoc hl]
      refine Each.snoc (Each.imp (fun _ _ ⟨a, e, h, ne'⟩ => ⟨a, e, ?_, ne'⟩) hea) ⟨t, rfl, by rw [upd_ne ne, upd_same], ne⟩
      rw [upd_ne ne']
      exact s5 _ _ h
  · rintro H4 ⟨s4, acc, hacc, hea⟩
    have hxl : xs.length = W.st.length := Each.length hX
    rw [hxl, List.take_length] at hea
    refine ⟨_, rfl, a, _, 1, _, rfl, rfl, s4.seqT hA, atI_nat (j := 1) rfl, c, ys, rfl, .inl (s4.seq hC), fun m hm => ?_⟩
    have s5 := same_new (o := .lst ys) hm
    intro x dx hx hdx hne
    have s6 : Same H4 (upd (upd (upd H4 m (.lst ys)) dx (.own x)) x (.ins C dx [])) := fun b o e => by
      have e1 := s5 _ _ e
      rw [upd_ne (ne_of_none e1 hx), upd_ne (ne_of_none e1 hdx)]
      exact e1
    have hm5 : upd (upd (upd H4 m (.lst ys)) dx (.own x)) x (.ins C dx []) m = some (.lst ys) := by
      have e1 : upd H4 m (.lst ys) m = some (.lst ys) := upd_same
      rw [upd_ne (ne_of_none e1 hx), upd_ne (ne_of_none e1 hdx)]
      exact e1
    have hx0 : H x = none := by
      have e : H4 x = none := by
        cases z : H4 x with
        | none => rfl
        | some o => have := s5 _ _ z; rw [hx] at this; cases this
      exact s4.free e
    refine ⟨x, dx, L, F, D, m, acc, ys, W, rfl, upd_same, by rw [upd_ne hne]; exact upd_same, ft.l1, ft.l3, ft.f6, ft.pos, ft.few, ft.facts, ft.stay, ft.once, ft.short, SqL.of (s6 _ _ hacc), Each.imp (fun l v ⟨p, e, h, _⟩ => ⟨p, e, SqL.of (s6 _ _ h)⟩) hea, SqL.of hm5, Each.imp (fun _ _ => StepAt.same (s4.trans s6)) hY, fun H' W' k1 k2 k3 k4 => ⟨rfl, ?_⟩⟩
    refine q H' (.ref x) W' (fun b o e => k1 b o (ne_of_none e hx0) ((s4.trans s6) _ _ e)) k2 k3 k4

/-! ### followers, _law_behind -/
def spFol (K : PySem.W.Frag) (C : Addr) : Sp := fun vs H Q _ => ∃ (v : V) (s a : Nat) (W : Wd), vs = [v, nv s, nv a] ∧ ObAt K C H W v ∧ W.sp.length ≤ 60 ∧ ∀ H' p, Same H H' → H' p = some (.lst (nvs (W.beh s a))) → Q (.ref p) H'
def spBeh (K : PySem.W.Frag) : Sp := fun vs H Q _ => ∃ (v : V) (s a : Nat) (W : Wd), vs = [v, nv s, nv a] ∧ WdAt K H W v ∧ W.sp.length ≤ 60 ∧ ∀ H' p, Same H H' → H' p = some (.lst (nvs (W.beh s a))) → Q (.ref p) H'
theorem scFol : FnScope ["world", "state", "label", "step"] ["world", "state", "label"] (defScope sFol) := ⟨rfl, rfl, rfl, by decide +kernel, rfl, by decide +kernel, by decide +kernel⟩
theorem scBeh : FnScope ["_law_world_here", "_law_state", "_law_label", "_law_step"] ["_law_world_here", "_law_state", "_law_label"] (defScope sBeh) := ⟨rfl, rfl, rfl, by decide +kernel, rfl, by decide +kernel, by decide +kernel⟩
theorem ok_fol {f C : Addr} {fd : FuncData} {k : Nat} (F : Fun K "followers" "followers" sFol f fd) (T : WTxt K mg C) : FnOk P w K mg base CX0 (k + 1) f fd ["world", "state", "label"] (spFol K C) := by
  refine F.ok scFol (fun vs H Q E h => ?_) (fun cdv A outer s H vs Q E hr h => ?_)
  · obtain ⟨v, s, a, W, rfl, _⟩ := h
    rfl
  obtain ⟨v, st, lb, W, rfl, hW, hlen, q⟩ := h
  refine ⟨_, pss_one (ps_ret (pe_lc (own := [("step", 3)]) (g := gName 3) rfl scFol.nd (pi_tup (pe_fld (pv 0) rfl)) (blkOk_by (own := [("step", 3)]) (N := ["world", "state", "label", "step"]) (sc := defScope sFol) (by decide +kernel))
    (fun _ _ _ _ _ => pg_name (i := 3) scFol.nd rfl (.inl rfl))
    (fun _ _ _ _ _ => pts_one (PW.pt (pw_and (pt_cmpR op_eq (pe_ix (r := rIxT K) ix_tup (pv 3) pe_int (fun _ _ => rfl)) (pv 1) (nomark _)) (pw_and1 (pt_cmpR op_eq (pe_ix (r := rIxT K) ix_tup (pv 3) pe_int (fun _ _ => rfl)) (pv 2) (nomark _))))))
    (fun _ _ _ _ _ => pe_ix (r := rIxT K) ix_tup (pv 3) pe_int (fun _ _ => rfl)))), ?_⟩
  obtain ⟨x, dx, fs, a1, a2, xs, ys, rfl, hx, _, hf2, _, _, hS, hY⟩ := hW
  refine ⟨_, rfl, x, C, dx, fs, _, rfl, hx, T.cl, T.nT, hf2, a2, rfl, ⟨ys, hS⟩, fun D hD => lc_tup (K := K) (a := a2) (xs := ys) (fun i H' => Same H H' ∧ H' D = some (.lst (nvs (behT (W.sp.take i) st lb)))) ⟨same_new hD, upd_same⟩ (fun i H' _ h => h.1.seqT hS) ?_ ?_⟩
  · rintro i y H' hi ⟨s4, hacc⟩
    obtain ⟨t, ht, p, rfl, hp⟩ := hY.get hi
    have hp4 := s4.seqT hp
    have hz : (nvs (behT (W.sp.take i) st lb)).length < sizeLine := by
      rw [List.length_map]
      have h1 := behT_len (W.sp.take i) st lb
      rw [List.length_take] at h1
      exact small1000 (by omega)
    refine ⟨rfl, ⟨_, rfl, p, _, 0, _, rfl, rfl, hp4, atI_nat (j := 0) rfl, _, rfl, rfl, _, rfl, ?_⟩⟩
    rw [int_eq]
    by_cases h1 : t.1 = st
    · rw [decide_eq_true h1]
      refine iteT ⟨_, rfl, p, _, 1, _, rfl, rfl, hp4, atI_nat (j := 1) rfl, _, rfl, rfl, _, rfl, ?_⟩
      rw [int_eq]
      by_cases h2 : t.2.1 = lb
      · rw [decide_eq_true h2]
        refine iteT ⟨_, rfl, p, _, 2, _, rfl, rfl, hp4, atI_nat (j := 2) rfl, _, hacc, hz, s4.mut hD, ?_⟩
        rw [upd_same, behT_yes ht h1 h2]
        simp [nvs]
      · rw [decide_eq_false h2]
        refine iteF ⟨s4, ?_⟩
        rw [behT_no ht (fun z => h2 z.2)]
        exact hacc
    · rw [decide_eq_false h1]
      refine iteF (iteF ⟨s4, ?_⟩)
      rw [behT_no ht (fun z => h1 z.1)]
      exact hacc
  · rintro H4 ⟨s4, hacc⟩
    have hyl : ys.length = W.sp.length := Each.length hY
    rw [hyl, List.take_length] at hacc
    exact q H4 D s4 hacc
theorem ok_beh {f : Addr} {fd : FuncData} {k : Nat} (F : Fun K "_law_behind" "_law_behind" sBeh f fd) : FnOk P w K mg base CX0 (k + 1) f fd ["_law_world_here", "_law_state", "_law_label"] (spBeh K) := by
  refine F.ok scBeh (fun vs H Q E h => ?_) (fun cdv A outer s H vs Q E hr h => ?_)
  · obtain ⟨v, s, a, W, rfl, _⟩ := h
    rfl
  obtain ⟨v, st, lb, W, rfl, hW, hlen, q⟩ := h
  refine ⟨_, pss_one (ps_ret (pe_lc (own := [("_law_step", 3)]) (g := gName 3) rfl scBeh.nd (pi_list (pe_ix ix_tup (pv 0) pe_int (fun _ _ => rfl))) (blkOk_by (own := [("_law_step", 3)]) (N := ["_law_world_here", "_law_state", "_law_label", "_law_step"]) (sc := defScope sBeh) (by decide +kernel))
    (fun _ _ _ _ _ => pg_name (i := 3) scBeh.nd rfl (.inl rfl))
    (fun _ _ _ _ _ => pts_one (PW.pt (pw_and (pt_cmpR op_eq (pe_ix (r := rIxT K) ix_tup (pv 3) pe_int (fun _ _ => rfl)) (pv 1) (nomark _)) (pw_and1 (pt_cmpR op_eq (pe_ix (r := rIxT K) ix_tup (pv 3) pe_int (fun _ _ => rfl)) (pv 2) (nomark _))))))
    (fun _ _ _ _ _ => pe_ix (r := rIxT K) ix_tup (pv 3) pe_int (fun _ _ => rfl)))), ?_⟩
  obtain ⟨a, b, c, xs, ys, rfl, hA, _, _, hS, hY⟩ := hW
  refine ⟨_, rfl, a, _, 1, _, rfl, rfl, hA, atI_nat (j := 1) rfl, c, rfl, ⟨ys, hS⟩, fun D hD => lc_list (K := K) (a := c) (xs := ys) (fun i H' => Same H H' ∧ H' D = some (.lst (nvs (behT (W.sp.take i) st lb)))) ⟨same_new hD, upd_same⟩ (fun i H' _ h => h.1.seq hS) ?_ ?_⟩
  · rintro i y H' hi ⟨s4, hacc⟩
    obtain ⟨t, ht, p, rfl, hp⟩ := hY.get hi
    have hp4 := s4.seqT hp
    have hz : (nvs (behT (W.sp.take i) st lb)).length < sizeLine := by
      rw [List.length_map]
      have h1 := behT_len (W.sp.take i) st lb
      rw [List.length_take] at h1
      exact small1000 (by omega)
    refine ⟨rfl, ⟨_, rfl, p, _, 0, _, rfl, rfl, hp4, atI_nat (j := 0) rfl, _, rfl, rfl, _, rfl, ?_⟩⟩
    rw [int_eq]
    by_cases h1 : t.1 = st
    · rw [decide_eq_true h1]
      refine iteT ⟨_, rfl, p, _, 1, _, rfl, rfl, hp4, atI_nat (j := 1) rfl, _, rfl, rfl, _, rfl, ?_⟩
      rw [int_eq]
      by_cases h2 : t.2.1 = lb
      · rw [decide_eq_true h2]
        refine iteT ⟨_, rfl, p, _, 2, _, rfl, rfl, hp4, atI_nat (j := 2) rfl, _, hacc, hz, s4.mut hD, ?_⟩
        rw [upd_same, behT_yes ht h1 h2]
        simp [nvs]
      · rw [decide_eq_false h2]
        refine iteF ⟨s4, ?_⟩
        rw [behT_no ht (fun z => h2 z.2)]
        exact hacc
    · rw [decide_eq_false h1]
      refine iteF (iteF ⟨s4, ?_⟩)
      rw [behT_no ht (fun z => h1 z.1)]
      exact hacc
  · rintro H4 ⟨s4, hacc⟩
    have hyl : ys.length = W.sp.length := Each.length hY
    rw [hyl, List.take_length] at hacc
    exact q H4 D s4 hacc
end
end K20
namespace K20
open PySem L2 Pm
/-- the tuples stay -/
def Tups (H H' : Hp) : Prop := (∀ a xs, H a = some (.tup xs) → H' a = some (.tup xs)) ∧ ∀ a o xs, H a = some (.frz o (.tup xs)) → H' a = some (.frz o (.tup xs))
theorem Tups.of {H H' : Hp} (e : Same H H') : Tups H H' := ⟨fun _ _ h => e _ _ h, fun _ _ _ h => e _ _ h⟩
theorem Tups.trans {H H1 H2 : Hp} (a : Tups H H1) (b : Tups H1 H2) : Tups H H2 := ⟨fun _ _ h => b.1 _ _ (a.1 _ _ h), fun _ _ _ h => b.2 _ _ _ (a.2 _ _ _ h)⟩
theorem Tups.upd {H : Hp} {p : Addr} {xs ys : List V} (h : H p = some (.lst xs)) : Tups H (upd H p (.lst ys)) :=
  ⟨fun _ _ e => by rw [upd_ne (ne_of e h (fun q => by cases q))]; exact e, fun _ _ _ e => by rw [upd_ne (ne_of e h (fun q => by cases q))]; exact e⟩
theorem Tups.seq {K : PySem.W.Frag} {H H' : Hp} {a : Addr} {xs : List V} (e : Tups H H') (h : SqT K H a xs) : SqT K H' a xs := by
  rcases h with (h | ⟨o, h⟩) | h
  · exact .inl (.inl (e.1 _ _ h))
  · exact .inl (.inr ⟨o, e.2 _ _ _ h⟩)
  · exact .inr h
theorem FmAt.tups {K : PySem.W.Frag} {H H' : Hp} (e : Tups H H') : ∀ {f : Fm} {v : V}, FmAt K H f v → FmAt K H' f v
  | .tt, _, ⟨a, h, s⟩ => ⟨a, h, e.seq s⟩
  | .ff, _, ⟨a, h, s⟩ => ⟨a, h, e.seq s⟩
  | .has _, _, ⟨a, h, s⟩ => ⟨a, h, e.seq s⟩
  | .lacks _, _, ⟨a, h, s⟩ => ⟨a, h, e.seq s⟩
  | .var _, _, ⟨a, h, s⟩ => ⟨a, h, e.seq s⟩
  | .and _ _, _, ⟨a, u, w, h, s, x, y⟩ => ⟨a, u, w, h, e.seq s, FmAt.tups e x, FmAt.tups e y⟩
  | .or _ _, _, ⟨a, u, w, h, s, x, y⟩ => ⟨a, u, w, h, e.seq s, FmAt.tups e x, FmAt.tups e y⟩
  | .some _ _, _, ⟨a, u, h, s, x⟩ => ⟨a, u, h, e.seq s, FmAt.tups e x⟩
  | .all _ _, _, ⟨a, u, h, s, x⟩ => ⟨a, u, h, e.seq s, FmAt.tups e x⟩
  | .most _ _, _, ⟨a, u, h, s, x⟩ => ⟨a, u, h, e.seq s, FmAt.tups e x⟩
theorem FmsAt.tups {K : PySem.W.Frag} {H H' : Hp} (e : Tups H H') {fs : List Fm} {xs : List V} (h : FmsAt K H fs xs) : FmsAt K H' fs xs := Each.imp (fun _ _ => FmAt.tups e) h
theorem inV_nat (x : Nat) (bs : List Nat) : inV (.int (0 + (x : Int))) (nvs bs) = bs.contains x := by
  rw [Int.zero_add]
  exact inV_nvs x bs
section
variable {P : Program} {w : World} {K : PySem.W.Frag} {mg : Str → Option Value} {base : Heap}
/-! ### shown_facts -/
def spShown (K : PySem.W.Frag) (C : Addr) : Sp := fun vs H Q _ => ∃ (v : V) (s F : Nat) (W : Wd), vs = [v, nv s, nv F] ∧ ObAt K C H W v ∧ s < W.n ∧ F ≤ 6 ∧
  ∀ H' p xs, Same H H' → H p = none → H' p = some (.lst xs) → FmsAt K H' (shown W.has F s) xs → Q (.ref p) H'
theorem scShown : FnScope ["world", "state", "facts", "found", "fact"] ["world", "state", "facts"] (defScope sShown) := ⟨rfl, rfl, rfl, by decide +kernel, rfl, by decide +kernel, by decide +kernel⟩
theorem shown_succ (hs : Nat → Nat → Bool) (i s : Nat) : shown hs (i + 1) s = shown hs i s ++ [if hs i s then .has i else .lacks i] := by
  unfold shown
  rw [List.range_succ, List.map_append]
  rfl
theorem ok_shown {f C : Addr} {fd : FuncData} {k : Nat} (F : Fun K "shown_facts" "shown_facts" sShown f fd) (B : Blt mg) (T : WTxt K mg C) : FnOk P w K mg base CX0 (k + 1) f fd ["world", "state", "facts"] (spShown K C) := by
  refine F.ok scShown (fun vs H Q E h => ?_) (fun cdv A outer s H vs Q E hr h => ?_)
  · obtain ⟨v, s, F, W, rfl, _⟩ := h
    rfl
  obtain ⟨v, st, F, W, rfl, hW, hst, hF, q⟩ := h
  refine ⟨_, pss_cons (ps_set (i := 3) scShown.nd rfl (.inl rfl) (pe_lst pa_nil))
    (pss_cons (ps_for PassesOwn.never rfl (pi_range1 (by rfl) B.range (pa_cons (pv 2) pa_nil)) (pg_name (i := 4) scShown.nd rfl (.inl rfl))
      (pss_one (ps_if (pt_cmpR op_in_seq (pv 4) (pe_ix ix_tup (pe_fld (pv 0) rfl) (pv 1) (fun _ _ => rfl)) (by rfl))
        (pss_one (ps_expr (pe_bm PySem.F.plainAttrs_list PySem.F.slot_list_append PySem.F.type_list_append mt_append (pv 3) (pa_cons (pe_tup (pa_cons pe_str (pa_cons (pv 4) pa_nil))) pa_nil))))
        (pss_one (ps_expr (pe_bm PySem.F.plainAttrs_list PySem.F.slot_list_append PySem.F.type_list_append mt_append (pv 3) (pa_cons (pe_tup (pa_cons pe_str (pa_cons (pv 4) pa_nil))) pa_nil)))))))
    (pss_one (ps_ret (pv 3)))), ?_⟩
  refine ⟨Nat.zero_le _, fun l hl => ?_⟩
  refine ⟨_, rfl, F, rfl, by omega, by omega, for_range (lo := 0) (n := F) (fun i σ H' => ∃ z xs, σ = [some v, some (nv st), some (nv F), some (.ref l), z] ∧ Same H H' ∧ H' l = some (.lst xs) ∧ FmsAt K H' (shown W.has i st) xs) ⟨none, [], rfl, same_new hl, upd_same, rfl⟩ ?_ ?_⟩
  · rintro i σ H' hi ⟨z, xs, rfl, s1, hl1, hxs⟩
    obtain ⟨x, dx, fs, a1, a2, us, ys, rfl, hx, hf1, _, hU, hE, _, _⟩ := ObAt.same s1 hW
    have hl0 : W.st[st]? = some W.st[st] := List.getElem?_eq_getElem hst
    obtain ⟨u, hu, pu, rfl, hp⟩ := hE.at hl0
    refine ⟨_, rfl, _, rfl, x, C, dx, fs, _, rfl, hx, T.cl, T.nS, hf1, _, rfl, a1, us, _, _, rfl, rfl, hU, atI_nat hu, pu, _, rfl, .inr hp, rfl, flat_nvs _, _, rfl, ?_⟩
    show (if (if false = true then !inV (V.int (0 + (i : Int))) (nvs W.st[st]) else inV (V.int (0 + (i : Int))) (nvs W.st[st])) = true then _ else _)
    rw [if_neg Bool.false_ne_true, inV_nat]
    have hh : W.has i st = W.st[st].contains i := by
      show (W.st.getD st []).contains i = _
      rw [List.getD_eq_getElem?_getD, hl0] <;> rfl
    have hz : xs.length < sizeLine := by
      rw [hxs.length]
      unfold shown
      rw [List.length_map, List.length_range]
      exact small1000 (by omega)
    refine ite2 (fun c => ?_) (fun c => ?_)
    · refine ⟨_, rfl, .inl ⟨rfl, _, SqL.of hl1⟩, _, rfl, by show 2 ≤ sizeLine; decide, fun t ht => ?_⟩
      have s2 := same_new (o := .tup [.str "has", .int (0 + (i : Int))]) ht
      refine ⟨l, xs, _, rfl, rfl, s2 _ _ hl1, hz, ?_⟩
      refine ⟨_, _, rfl, (s1.trans s2).mut hl, upd_same, ?_⟩
      rw [shown_succ, if_pos (by rw [hh]; exact c)]
      refine Each.snoc (FmsAt.tups ((Tups.of s2).trans (Tups.upd (s2 _ _ hl1))) hxs) ⟨t, rfl, (Tups.upd (s2 _ _ hl1)).seq (SqT.of ?_)⟩
      rw [upd_same, Int.zero_add]
    · refine ⟨_, rfl, .inl ⟨rfl, _, SqL.of hl1⟩, _, rfl, by show 2 ≤ sizeLine; decide, fun t ht => ?_⟩
      have s2 := same_new (o := .tup [.str "lacks", .int (0 + (i : Int))]) ht
      refine ⟨l, xs, _, rfl, rfl, s2 _ _ hl1, hz, ?_⟩
      refine ⟨_, _, rfl, (s1.trans s2).mut hl, upd_same, ?_⟩
      rw [shown_succ, if_neg (by rw [hh]; exact c)]
      refine Each.snoc (FmsAt.tups ((Tups.of s2).trans (Tups.upd (s2 _ _ hl1))) hxs) ⟨t, rfl, (Tups.upd (s2 _ _ hl1)).seq (SqT.of ?_)⟩
      rw [upd_same, Int.zero_add]
  · rintro σ H' ⟨z, xs, rfl, s1, hl1, hxs⟩
    exact ⟨_, rfl, q H' l xs s1 hl hl1 hxs⟩

/-! ### drawn -/
def spDrawn (K : PySem.W.Frag) (C : Addr) (k : Nat) : Sp := fun vs H Q _ => ∃ (v : V) (s L Fc : Nat) (b : Addr) (ar : List Nat) (W : Wd), vs = [v, nv s, nv L, nv Fc, .ref b] ∧ ObAt K C H W v ∧ H b = some (.lst (nvs ar)) ∧ s < W.n ∧ L ≤ 3 ∧ Fc ≤ 6 ∧
  (∀ t ∈ W.sp, t.2.2 < W.n) ∧ W.sp.length ≤ 60 ∧ left W.n ar < k ∧ ar.length + k ≤ 1000 ∧ ∀ H' u, Same H H' → FmAt K H' (drawn W.has W.beh L Fc k s ar) u → Q u H'
abbrev nDrawn : List Str := ["world", "state", "labels", "facts", "around", "inner", "found", "label", "behind", "other"]
theorem scDrawn : FnScope nDrawn ["world", "state", "labels", "facts", "around"] (defScope sDrawn) := ⟨rfl, rfl, rfl, by decide +kernel, rfl, by decide +kernel, by decide +kernel⟩
theorem beh_mem {W : Wd} {s a o : Nat} (h : o ∈ W.beh s a) : ∃ t ∈ W.sp, t.1 = s ∧ t.2.1 = a ∧ t.2.2 = o := by
  unfold Wd.beh at h
  obtain ⟨t, ht, rfl⟩ := List.mem_map.mp h
  obtain ⟨h1, h2⟩ := List.mem_filter.mp ht
  simp only [Bool.and_eq_true, beq_iff_eq] at h2
  exact ⟨t, h1, h2.1, h2.2, rfl⟩
theorem beh_len (W : Wd) (s a : Nat) : (W.beh s a).length ≤ W.sp.length := behT_len _ _ _
/-- what the portrait says of one label -/
def oneLabel (fol : Nat → Nat → List Nat) (dr : Nat → Fm) (s a : Nat) : List Fm := ((fol s a).map fun o => Fm.some a (dr o)) ++ [.all a (disj ((fol s a).map dr))]
theorem oneLabel_len {W : Wd} {dr : Nat → Fm} {s a : Nat} (h : W.sp.length ≤ 60) : (oneLabel W.beh dr s a).length ≤ 61 := by
  unfold oneLabel
  have := beh_len W s a
  simp only [List.length_append, List.length_map, List.length_cons, List.length_nil]
  omega
theorem labels_len {W : Wd} {dr : Nat → Fm} {s : Nat} (h : W.sp.length ≤ 60) : ∀ i, ((List.range i).flatMap (oneLabel W.beh dr s)).length ≤ 61 * i
  | 0 => Nat.le_refl _
  | i + 1 => by
    have h1 := labels_len (dr := dr) (s := s) h i
    have h2 := oneLabel_len (dr := dr) (s := s) (a := i) h
    rw [List.range_succ, List.flatMap_append, List.length_append]
    simp only [List.flatMap_cons, List.flatMap_nil, List.append_nil]
    omega
theorem labels_succ {fol : Nat → Nat → List Nat} {dr : Nat → Fm} {s i : Nat} : (List.range (i + 1)).flatMap (oneLabel fol dr s) = (List.range i).flatMap (oneLabel fol dr s) ++ oneLabel fol dr s i := by
  rw [List.range_succ, List.flatMap_append]
  simp
theorem drawn_turn {f fF fS fC fD C : Addr} {fd fdF fdS fdC fdD : FuncData} {k : Nat} (F : Fun K "drawn" "drawn" sDrawn f fd) (B : Blt mg)
    (G : FnOk P w K mg base CX0 (k + 1) f fd ["world", "state", "labels", "facts", "around"] (spDrawn K C k)) (mF : mg "drawn" = some (.ref f)) (bF : Binds K fd ["world", "state", "labels", "facts", "around"] [])
    (GF : FnOk P w K mg base CX0 1 fF fdF ["world", "state", "label"] (spFol K C)) (mFo : mg "followers" = some (.ref fF)) (kF : PySem.W.keepIn K (.ref fF) = true) (bFo : Binds K fdF ["world", "state", "label"] [])
    (GS : FnOk P w K mg base CX0 1 fS fdS ["world", "state", "facts"] (spShown K C)) (mS : mg "shown_facts" = some (.ref fS)) (kS : PySem.W.keepIn K (.ref fS) = true) (bS : Binds K fdS ["world", "state", "facts"] [])
    (GC : FnOk P w K mg base CX0 1 fC fdC ["statements"] (spFold K conj)) (mC : mg "conjunction" = some (.ref fC)) (kC : PySem.W.keepIn K (.ref fC) = true) (bC : Binds K fdC ["statements"] [])
    (GD : FnOk P w K mg base CX0 1 fD fdD ["statements"] (spFold K disj)) (mD : mg "disjunction" = some (.ref fD)) (kD : PySem.W.keepIn K (.ref fD) = true) (bD : Binds K fdD ["statements"] []) :
    FnOk P w K mg base CX0 (k + 1 + 1) f fd ["world", "state", "labels", "facts", "around"] (spDrawn K C (k + 1)) := by
  refine F.ok scDrawn (fun vs H Q E h => ?_) (fun cdv A outer s H vs Q E hr h => ?_)
  · obtain ⟨v, s, L, Fc, b, ar, W, rfl, _⟩ := h
    rfl
  obtain ⟨v, st, L, Fc, b, ar, W, rfl, hW, hb, hst, hL, hF, hin, hlen, hk, hz, q⟩ := h
  have hr1 : Room 1 _ := hr.mono (by omega)
  refine ⟨_, pss_cons (ps_if (pt_cmpR op_in_seq (pv 1) (pv 4) (by rfl)) (pss_one (ps_ret (pe_tup (pa_cons pe_str (pa_cons (pv 1) pa_nil))))) pss_nil)
    (pss_cons (ps_set (i := 5) scDrawn.nd rfl (.inr rfl) (pe_op op_cat (pv 4) (pe_lst (pa_cons (pv 1) pa_nil))))
    (pss_cons (ps_set (i := 6) scDrawn.nd rfl (.inl rfl) (pe_call GS hr1 rfl mS kS bS .nil pass0 (pa_cons (pv 0) (pa_cons (pv 1) (pa_cons (pv 3) pa_nil)))))
    (Evl.pss_cut (ps_for PassesOwn.never rfl (pi_range1 (by rfl) B.range (pa_cons (pv 2) pa_nil)) (pg_name (i := 7) scDrawn.nd rfl (.inr rfl))
      (Evl.pss_cut (ps_setLc (i := 8) (own := [("other", 9)]) (g := gName 9) (tt := tYes) rfl scDrawn.nd rfl rfl (sw_true rfl rfl rfl (by decide +kernel)) (pi_list (pe_call GF hr1 rfl mFo kF bFo .nil pass0 (pa_cons (pv 0) (pa_cons (pv 1) (pa_cons (pv 7) pa_nil)))))
          (blkOk_by (own := [("other", 9)]) (N := nDrawn) (sc := defScope sDrawn) (by decide +kernel)) (fun _ _ _ _ _ => pg_name (i := 9) scDrawn.nd rfl (.inl rfl)) (fun _ _ _ _ _ => pts_nil)
          (fun _ _ _ _ _ => pe_call G hr rfl mF F.kp bF .nil pass0 (pa_cons (pv 0) (pa_cons (pv 9) (pa_cons (pv 2) (pa_cons (pv 3) (pa_cons (pv 5) pa_nil)))))))
      (Evl.pss_cut (ps_expr (pe_bm PySem.F.plainAttrs_list PySem.F.slot_list_extend PySem.F.type_list_extend mt_extend (pv 6) (pa_cons
          (pe_lc (own := [("other", 9)]) (g := gName 9) (tt := tYes) rfl scDrawn.nd (pi_list (pv 8)) (blkOk_by (own := [("other", 9)]) (N := nDrawn) (sc := defScope sDrawn) (by decide +kernel)) (fun _ _ _ _ _ => pg_name (i := 9) scDrawn.nd rfl (.inl rfl)) (fun _ _ _ _ _ => pts_nil)
            (fun _ _ _ _ _ => pe_tup (pa_cons pe_str (pa_cons (pv 7) (pa_cons (pv 9) pa_nil))))) pa_nil)))
      (pss_one (ps_expr (pe_bm PySem.F.plainAttrs_list PySem.F.slot_list_append PySem.F.type_list_append mt_append (pv 6) (pa_cons (pe_tup (pa_cons pe_str (pa_cons (pv 7) (pa_cons (pe_call GD hr1 rfl mD kD bD .nil pass0 (pa_cons (pv 8) pa_nil)) pa_nil)))) pa_nil)))))))
    (pss_one (ps_ret (pe_tup (pa_cons pe_str (pa_cons (pv 1) (pa_cons (pe_call GC hr1 rfl mC kC bC .nil pass0 (pa_cons (pv 6) pa_nil)) pa_nil))))))))), ?_⟩
  refine ⟨_, rfl, _, rfl, b, _, rfl, .inl (SqL.of hb), rfl, flat_nvs _, _, rfl, ?_⟩
  show (if (if false = true then !inV (nv st) (nvs ar) else inV (nv st) (nvs ar)) = true then _ else _)
  rw [if_neg Bool.false_ne_true, inV_nvs]
  refine ite2 (fun c => ?_) (fun c => ?_)
  · refine ⟨_, rfl, by show 2 ≤ sizeLine; decide, fun t ht => q _ _ (same_new ht) ?_⟩
    have e : drawn W.has W.beh L Fc (k + 1) st ar = .var st := by
      unfold drawn
      rw [if_pos c]
    rw [e]
    exact ⟨t, rfl, SqT.of upd_same⟩
  · have hnot : st ∉ ar := fun z => c (List.contains_iff_mem.mpr z)
    refine ⟨_, rfl, _, rfl, by show 1 ≤ sizeLine; decide, fun l1 hl1 => ⟨b, l1, _, _, rfl, rfl, (same_new hl1) _ _ hb, upd_same, ?_, fun inn hinn => ?_⟩⟩
    · rw [List.length_map]
      exact small (by show ar.length + 1 ≤ 1000; omega)
    have s2 : Same H (upd (upd H l1 (.lst [nv st])) inn (.lst (nvs ar ++ [nv st]))) := (same_new hl1).and_new hinn
    have hI : upd (upd H l1 (.lst [nv st])) inn (.lst (nvs ar ++ [nv st])) inn = some (.lst (nvs (ar ++ [st]))) := by
      rw [upd_same]
      simp [nvs]
    generalize upd (upd H l1 (.lst [nv st])) inn (.lst (nvs ar ++ [nv st])) = H2 at s2 hI
    have hleft : left W.n (ar ++ [st]) < k := Nat.lt_of_lt_of_le (left_add hst hnot) (Nat.le_of_lt_succ hk)
    generalize hdr : (fun o => drawn W.has W.beh L Fc k o (ar ++ [st])) = dr
    have hdr' : ∀ o, drawn W.has W.beh L Fc k o (ar ++ [st]) = dr o := fun o => by rw [← hdr]
    refine ⟨_, rfl, _, rfl, _, rfl, v, st, Fc, W, rfl, ObAt.same s2 hW, hst, hF, fun H3 fnd xs0 s3 hfn hf3 hxs0 => ?_⟩
    have hW2 := ObAt.same s2 hW
    -- the labels
    refine ⟨fun σ' H' => ∃ z7 z8 xs, σ' = [some v, some (nv st), some (nv L), some (nv Fc), some (.ref b), some (.ref inn), some (.ref fnd), z7, z8, none] ∧ Same H2 H' ∧ H' fnd = some (.lst xs) ∧ FmsAt K H' (shown W.has Fc st ++ (List.range L).flatMap (oneLabel W.beh dr st)) xs, ?_, ?_⟩
    · refine ⟨_, rfl, L, rfl, by omega, by omega, for_range (lo := 0) (n := L) (fun i σ' H' => ∃ z7 z8 xs, σ' = [some v, some (nv st), some (nv L), some (nv Fc), some (.ref b), some (.ref inn), some (.ref fnd), z7, z8, none] ∧ Same H2 H' ∧ H' fnd = some (.lst xs) ∧ FmsAt K H' (shown W.has Fc st ++ (List.range i).flatMap (oneLabel W.beh dr st)) xs)
        ⟨none, none, xs0, rfl, s3, hf3, by simpa using hxs0⟩ ?_ (fun _ _ z => z)⟩
      rintro i σ' H' hi ⟨z7, z8, xs, rfl, s4, hf4, hxs⟩
      have ei : (0 : Int) + (i : Int) = (i : Int) := Int.zero_add _
      rw [ei]
      have hxl : xs.length ≤ 6 + 61 * i := by
        rw [hxs.length, List.length_append]
        have h1 := labels_len (dr := dr) (s := st) hlen i
        unfold shown
        rw [List.length_map, List.length_range]
        omega
      have hbl := beh_len W st i
      -- behind = [..]
      refine ⟨fun σ5 H5 => ∃ (D : Addr) (bs : List V), σ5 = [some v, some (nv st), some (nv L), some (nv Fc), some (.ref b), some (.ref inn), some (.ref fnd), some (nv i), some (.ref D), none] ∧ Same H2 H5 ∧ H5 fnd = some (.lst xs) ∧ FmsAt K H5 (shown W.has Fc st ++ (List.range i).flatMap (oneLabel W.beh dr st)) xs ∧ H5 D = some (.lst bs) ∧ FmsAt K H5 ((W.beh st i).map dr) bs ∧ D ≠ fnd, ?_, ?_⟩
      · refine ⟨_, rfl, _, rfl, _, rfl, v, st, i, W, rfl, ObAt.same s4 hW2, hlen, fun H5 p s5 hp => ?_⟩
        refine ⟨p, rfl, ⟨_, SqL.of hp⟩, fun D hD => lc_list (K := K) (a := p) (xs := nvs (W.beh st i)) (fun j H6 => Same H5 H6 ∧ ∃ acc, H6 D = some (.lst acc) ∧ FmsAt K H6 (((W.beh st i).take j).map dr) acc) ⟨same_new hD, [], upd_same, rfl⟩ (fun j H6 _ h => SqL.of (h.1 _ _ hp)) ?_ ?_⟩
        · rintro j x H6 hj ⟨s6, acc, hacc, hea⟩
          obtain ⟨o, ho, rfl⟩ := nvs_get hj
          have s06 : Same H2 H6 := (s4.trans s5).trans s6
          obtain ⟨t, ht, _, _, hto⟩ := beh_mem (List.mem_of_getElem? ho)
          refine ⟨rfl, ⟨_, rfl, _, rfl, _, rfl, _, rfl, _, rfl, v, o, L, Fc, inn, ar ++ [st], W, rfl, ObAt.same s06 hW2, s06 _ _ hI, by rw [← hto]; exact hin t ht, hL, hF, hin, hlen, hleft, by rw [List.length_append]; simp; omega, fun H7 u s7 hu => ?_⟩⟩
          have hD7 := s7 _ _ hacc
          refine ⟨acc, hD7, ?_, (s6.trans s7).mut hD, _, upd_same, ?_⟩
          · rw [hea.length, List.length_map, List.length_take]
            exact Nat.lt_of_le_of_lt (Nat.min_le_right _ _) (small1000 (by omega))
          · rw [take_snoc ho, List.map_append]
            rw [hdr'] at hu
            exact Each.snoc (FmsAt.tups ((Tups.of s7).trans (Tups.upd hD7)) hea) (FmAt.tups (Tups.upd hD7) hu)
        · rintro H6 ⟨s6, acc, hacc, hea⟩
          rw [List.length_map, List.take_length] at hea
          have s56 := s5.trans s6
          exact ⟨D, acc, rfl, s4.trans s56, s56 _ _ hf4, FmsAt.same s56 hxs, hacc, hea, fun e => by rw [e, s5 _ _ hf4] at hD; cases hD⟩
      rintro σ5 H5 ⟨D, bs, rfl, s5, hf5, hxs5, hD5, hbs5, hDf⟩
      have hbsl : bs.length = (W.beh st i).length := by rw [Each.length hbs5, List.length_map]
      -- found.extend(..)
      refine ⟨fun σ6 H6 => ∃ (ys : List V), σ6 = [some v, some (nv st), some (nv L), some (nv Fc), some (.ref b), some (.ref inn), some (.ref fnd), some (nv i), some (.ref D), none] ∧ Same H2 H6 ∧ H6 fnd = some (.lst (xs ++ ys)) ∧ FmsAt K H6 (shown W.has Fc st ++ (List.range i).flatMap (oneLabel W.beh dr st)) xs ∧ FmsAt K H6 ((W.beh st i).map fun o => Fm.some i (dr o)) ys ∧ H6 D = some (.lst bs) ∧ FmsAt K H6 ((W.beh st i).map dr) bs, ?_, ?_⟩
      · refine ⟨_, rfl, .inl ⟨rfl, _, SqL.of hf5⟩, _, rfl, D, rfl, ⟨bs, SqL.of hD5⟩, fun D2 hD2 => lc_list (K := K) (a := D) (xs := bs) (fun j H6 => Same H5 H6 ∧ ∃ acc, H6 D2 = some (.lst acc) ∧ FmsAt K H6 (((W.beh st i).take j).map fun o => Fm.some i (dr o)) acc) ⟨same_new hD2, [], upd_same, rfl⟩ (fun j H6 _ h => SqL.of (h.1 _ _ hD5)) ?_ ?_⟩
        · rintro j x H6 hj ⟨s6, acc, hacc, hea⟩
          obtain ⟨g, hg, hx⟩ := hbs5.get hj
          rw [List.getElem?_map] at hg
          obtain ⟨o, ho, rfl⟩ := Option.map_eq_some_iff.mp hg
          refine ⟨rfl, ⟨_, rfl, _, rfl, by show 3 ≤ sizeLine; decide, fun t ht => ?_⟩⟩
          have s7 := same_new (o := .tup [.str "some", nv i, x]) ht
          have hD7 := s7 _ _ hacc
          refine ⟨acc, hD7, ?_, (s6.trans s7).mut hD2, _, upd_same, ?_⟩
          · rw [hea.length, List.length_map, List.length_take]
            exact Nat.lt_of_le_of_lt (Nat.min_le_right _ _) (small1000 (by omega))
          · rw [take_snoc ho, List.map_append]
            exact Each.snoc (FmsAt.tups ((Tups.of s7).trans (Tups.upd hD7)) hea) ⟨t, x, rfl, (Tups.upd hD7).seq (SqT.of upd_same), FmAt.tups ((Tups.of (s6.trans s7)).trans (Tups.upd hD7)) hx⟩
        · rintro H6 ⟨s6, acc, hacc, hea⟩
          rw [hbsl, List.take_length] at hea
          have hf6 := s6 _ _ hf5
          refine ⟨fnd, D2, xs, acc, rfl, rfl, hf6, hacc, small (by rw [Each.length hea, List.length_map]; omega), ?_⟩
          exact ⟨acc, rfl, (s5.trans s6).mut hfn, upd_same, FmsAt.tups ((Tups.of s6).trans (Tups.upd hf6)) hxs5, FmsAt.tups (Tups.upd hf6) hea, by rw [upd_ne hDf]; exact s6 _ _ hD5, FmsAt.tups ((Tups.of s6).trans (Tups.upd hf6)) hbs5⟩
      rintro σ6 H6 ⟨ys, rfl, s6, hf6, hxs6, hys6, hD6, hbs6⟩
      have hysl : ys.length = (W.beh st i).length := by rw [Each.length hys6, List.length_map]
      -- found.append(..)
      refine ⟨_, rfl, .inl ⟨rfl, _, SqL.of hf6⟩, _, rfl, _, rfl, D, bs, _, rfl, SqL.of hD6, hbs6, by rw [List.length_map]; omega, fun H7 u s7 hu => ⟨by show 3 ≤ sizeLine; decide, fun t ht => ?_⟩⟩
      have s8 := same_new (o := .tup [.str "all", nv i, u]) ht
      have hf8 := (s7.trans s8) _ _ hf6
      refine ⟨fnd, xs ++ ys, _, rfl, rfl, hf8, small1000 (by rw [List.length_append]; omega), ?_⟩
      have tu := ((Tups.of (s7.trans s8)).trans (Tups.upd (ys := xs ++ (ys ++ [V.ref t])) hf8))
      refine ⟨_, _, _, rfl, ((s6.trans s7).trans s8).mut hfn, upd_same, ?_⟩
      rw [labels_succ, ← List.append_assoc, List.append_assoc xs ys]
      refine Each.app (FmsAt.tups tu hxs6) ?_
      unfold oneLabel
      exact Each.snoc (FmsAt.tups tu hys6) ⟨t, u, rfl, (Tups.upd hf8).seq (SqT.of upd_same), FmAt.tups ((Tups.of s8).trans (Tups.upd hf8)) hu⟩
    · rintro σ' H' ⟨z7, z8, xs, rfl, s4, hf4, hxs⟩
      have hxl : (shown W.has Fc st ++ (List.range L).flatMap (oneLabel W.beh dr st)).length ≤ 1000 := by
        rw [List.length_append]
        have h1 := labels_len (dr := dr) (s := st) hlen L
        unfold shown
        rw [List.length_map, List.length_range]
        omega
      refine ⟨_, rfl, _, rfl, fnd, xs, _, rfl, SqL.of hf4, hxs, hxl, fun H5 u s5 hu => ⟨by show 3 ≤ sizeLine; decide, fun t ht => ?_⟩⟩
      have s6 := same_new (o := .tup [.str "most", nv st, u]) ht
      refine q _ _ (((s2.trans s4).trans s5).trans s6) ?_
      have e : drawn W.has W.beh L Fc (k + 1) st ar = .most st (conj (shown W.has Fc st ++ (List.range L).flatMap (oneLabel W.beh dr st))) := by
        rw [← hdr]
        show (if ar.contains st then _ else _) = _
        rw [if_neg c]
        rfl
      rw [e]
      exact ⟨t, u, rfl, SqT.of upd_same, FmAt.same s6 hu⟩
theorem ok_drawn {f fF fS fC fD C : Addr} {fd fdF fdS fdC fdD : FuncData} (F : Fun K "drawn" "drawn" sDrawn f fd) (B : Blt mg)
    (mF : mg "drawn" = some (.ref f)) (bF : Binds K fd ["world", "state", "labels", "facts", "around"] [])
    (GF : FnOk P w K mg base CX0 1 fF fdF ["world", "state", "label"] (spFol K C)) (mFo : mg "followers" = some (.ref fF)) (kF : PySem.W.keepIn K (.ref fF) = true) (bFo : Binds K fdF ["world", "state", "label"] [])
    (GS : FnOk P w K mg base CX0 1 fS fdS ["world", "state", "facts"] (spShown K C)) (mS : mg "shown_facts" = some (.ref fS)) (kS : PySem.W.keepIn K (.ref fS) = true) (bS : Binds K fdS ["world", "state", "facts"] [])
    (GC : FnOk P w K mg base CX0 1 fC fdC ["statements"] (spFold K conj)) (mC : mg "conjunction" = some (.ref fC)) (kC : PySem.W.keepIn K (.ref fC) = true) (bC : Binds K fdC ["statements"] [])
    (GD : FnOk P w K mg base CX0 1 fD fdD ["statements"] (spFold K disj)) (mD : mg "disjunction" = some (.ref fD)) (kD : PySem.W.keepIn K (.ref fD) = true) (bD : Binds K fdD ["statements"] []) :
    ∀ k, FnOk P w K mg base CX0 (k + 1) f fd ["world", "state", "labels", "facts", "around"] (spDrawn K C k)
  | 0 => by
    have no : ∀ vs H Q E, ¬ spDrawn K C 0 vs H Q E := fun vs H Q E h => by
      obtain ⟨v, s, L, Fc, b, ar, W, _, _, _, _, _, _, _, _, h1, _⟩ := h
      exact Nat.not_lt_zero _ h1
    exact ⟨fun vs H Q E h => absurd h (no vs H Q E), fun A outer s H args us vs Q E _ _ _ _ h => absurd h (no vs H Q E)⟩
  | k + 1 => drawn_turn F B (ok_drawn F B mF bF GF mFo kF bFo GS mS kS bS GC mC kC bC GD mD kD bD k) mF bF GF mFo kF bFo GS mS kS bS GC mC kC bC GD mD kD bD
end
end K20
namespace K20
open PySem L2 Pm
/-- the top's facts of TooLarge -/
structure ETxt (K : PySem.W.Frag) (mg : Str → Option Value) (CT : Addr) : Prop where
  g : mg "TooLarge" = some (.ref CT)
  x : PySem.W.excIn K CT [.type "ValueError", .type "Exception", .type "BaseException", .type "object"] "ValueError.__new__" = true
  k : PySem.W.keepIn K (.ref CT) = true
  b : PySem.W.subIn K (.ref CT) (.type "BaseException") = some true
  t : PySem.W.typeIn K (.ref CT) = some (.type "type")
  e : PySem.W.exmOne K (.ref CT) (.ref CT) = some true
  most : ∃ t, mg "MOST_STATES_portraits" = some (.int 5 t)
section
variable {P : Program} {w : World} {K : PySem.W.Frag} {mg : Str → Option Value} {base : Heap}
/-! ### portrait -/
/-- the portrait's fuel -/
abbrev fuel : Nat := 6
def spPort (K : PySem.W.Frag) (C CT : Addr) : Sp := fun vs H Q E => ∃ (v : V) (s L Fc : Nat) (W : Wd), vs = [v, nv s, nv L, nv Fc] ∧ ObAt K C H W v ∧ (5 < W.n → E (.ref CT) none H) ∧
  (W.n ≤ 5 → s < W.n ∧ L ≤ 3 ∧ Fc ≤ 6 ∧ (∀ t ∈ W.sp, t.2.2 < W.n) ∧ W.sp.length ≤ 60 ∧ ∀ H' u, Same H H' → FmAt K H' (drawn W.has W.beh L Fc fuel s []) u → Q u H')
theorem scPort : FnScope ["world", "state", "labels", "facts"] ["world", "state", "labels", "facts"] (defScope sPort) := ⟨rfl, rfl, rfl, by decide +kernel, rfl, by decide +kernel, by decide +kernel⟩
theorem left_nil (n : Nat) : left n [] ≤ n := by
  unfold left
  have h := List.length_filter_le (fun x => !([] : List Nat).contains x) (List.range n)
  rw [List.length_range] at h
  exact h
theorem ok_port {f fD C CT : Addr} {fd fdD : FuncData} (F : Fun K "portrait" "portrait" sPort f fd) (B : Blt mg) (T : WTxt K mg C) (ET : ETxt K mg CT)
    (GD : FnOk P w K mg base CX0 (fuel + 1) fD fdD ["world", "state", "labels", "facts", "around"] (spDrawn K C fuel)) (mD : mg "drawn" = some (.ref fD)) (kD : PySem.W.keepIn K (.ref fD) = true) (bD : Binds K fdD ["world", "state", "labels", "facts", "around"] []) :
    FnOk P w K mg base (L2.CX P w) (fuel + 1 + 1) f fd ["world", "state", "labels", "facts"] (spPort K C CT) := by
  refine F.okX scPort (fun vs H Q E h => ?_) (fun cdv A outer s H vs Q E hr h => ?_)
  · obtain ⟨v, s, L, Fc, W, rfl, _⟩ := h
    rfl
  obtain ⟨v, st, L, Fc, W, rfl, hW, hbig, hsm⟩ := h
  obtain ⟨tM, mM⟩ := ET.most
  refine ⟨_, pss_cons (ps_if (pt_cmpR op_gt (pe_callB call_len_seq (by rfl) B.len PySem.boot_len (pa_cons (pe_fld (pv 0) rfl) pa_nil)) (pe_glob (v := .int 5) (by rfl) mM ⟨_, rfl⟩) (nomark _))
      (pss_one (ps_raise rfl (takes_of rfl rfl rfl rfl) (pmk_own PySem.F.excBase_ValueError ET.x ET.g ET.k (raises_own ET.b ET.t) (by exact rfl)))) pss_nil)
    (pss_one (ps_ret (pe_call GD hr rfl mD kD bD .nil pass0 (pa_cons (pv 0) (pa_cons (pv 1) (pa_cons (pv 2) (pa_cons (pv 3) (pa_cons (pe_lst pa_nil) pa_nil)))))))), ?_⟩
  obtain ⟨x, dx, fs, a1, a2, us, ys, rfl, hx, hf1, hf2, hU, hE, hS, hY⟩ := id hW
  have hul : us.length = W.n := Each.length hE
  refine ⟨_, rfl, x, C, dx, fs, _, rfl, hx, T.cl, T.nS, hf1, a1, us, rfl, .inr hU, _, _, rfl, rfl, _, rfl, ite2 (fun c => ?_) (fun c => ?_)⟩
  · have c' : (us.length : Int) > 5 := of_decide_eq_true c
    exact hbig (by omega)
  · have c' : ¬ (us.length : Int) > 5 := of_decide_eq_false (Bool.eq_false_iff.mpr c)
    obtain ⟨h1, h2, h3, h4, h5, q⟩ := hsm (by omega)
    refine ⟨_, rfl, _, rfl, _, rfl, _, rfl, Nat.zero_le _, fun l hl => ?_⟩
    have s1 := same_new (o := .lst []) hl
    refine ⟨.ref x, st, L, Fc, l, [], W, rfl, ObAt.same s1 hW, upd_same, h1, h2, h3, h4, h5, ?_, by decide, fun H' u s2 hu => q H' u (s1.trans s2) hu⟩
    have := left_nil W.n
    show left W.n [] < 6
    omega

/-! ### _law_outcome -/
def spOut (K : PySem.W.Frag) (C : Addr) : Sp := fun vs H Q _ => ∃ (v : V) (s L Fc : Nat) (W : Wd), vs = [v, nv s, nv L, nv Fc] ∧ ObAt K C H W v ∧ (5 < W.n → ∀ H', Same H H' → Q .non H') ∧
  (W.n ≤ 5 → s < W.n ∧ L ≤ 3 ∧ Fc ≤ 6 ∧ (∀ t ∈ W.sp, t.2.2 < W.n) ∧ W.sp.length ≤ 60 ∧ ∀ H' u, Same H H' → FmAt K H' (drawn W.has W.beh L Fc fuel s []) u → Q u H')
theorem scOut : FnScope ["_law_world_here", "_law_state", "_law_labels", "_law_facts"] ["_law_world_here", "_law_state", "_law_labels", "_law_facts"] (defScope sOut) := ⟨rfl, rfl, rfl, by decide +kernel, rfl, by decide +kernel, by decide +kernel⟩
theorem ok_out {f fP C CT : Addr} {fd fdP : FuncData} (F : Fun K "_law_outcome" "_law_outcome" sOut f fd) (ET : ETxt K mg CT)
    (GP : FnOk P w K mg base (L2.CX P w) (fuel + 1 + 1) fP fdP ["world", "state", "labels", "facts"] (spPort K C CT)) (mP : mg "portrait" = some (.ref fP)) (kP : PySem.W.keepIn K (.ref fP) = true) (bP : Binds K fdP ["world", "state", "labels", "facts"] []) :
    FnOk P w K mg base CX0 (fuel + 1 + 1 + 1) f fd ["_law_world_here", "_law_state", "_law_labels", "_law_facts"] (spOut K C) := by
  refine F.ok scOut (fun vs H Q E h => ?_) (fun cdv A outer s H vs Q E hr h => ?_)
  · obtain ⟨v, s, L, Fc, W, rfl, _⟩ := h
    rfl
  obtain ⟨v, st, L, Fc, W, rfl, hW, hbig, hsm⟩ := h
  refine ⟨_, pss_one (ps_try_only (tb := fun W => tRet (tCallS (spPort K C CT) (WE W) (tCons (tVar 0) (tCons (tVar 1) (tCons (tVar 2) (tCons (tVar 3) tNil)))))) (ts := fun _ _ _ => tRet (tC .non)) (Wout := fun _ _ _ _ => False) rfl rfl ⟨rfl, by decide, .inl ET.g⟩ takes0
    (fun W pn xe tk _ => pss_one (ps_ret (by exact (pe_callS GP hr rfl mP kP bP (fun σ => passAt tk σ) (by exact (pa_cons (pv 0) (pa_cons (pv 1) (pa_cons (pv 2) (pa_cons (pv 3) pa_nil)))))))))
    (fun a oe cls d pn hz hf => pss_one (ps_ret (by exact pe_non)))), ?_⟩
  refine ⟨_, rfl, _, rfl, _, rfl, _, rfl, v, st, L, Fc, W, rfl, hW, fun h5 => ?_, fun h5 => hsm h5⟩
  exact ⟨true, ET.e, fun _ a ha => hbig h5 H (Same.refl H), fun q => nomatch q⟩
end
end K20
namespace K20
open PySem L2 Pm
def rLen (K : PySem.W.Frag) : List V → Hp → VK → Prop := fun xs H Q => ∃ p ys, xs = [.ref p] ∧ (SqL K H p ys ∨ SqT K H p ys) ∧ Q (.int ys.length) H
theorem call_ln {X : Cx} : CallR X (.builtin "len") (rLen X.K) := call_len_seq
theorem kd_tt {f : Fm} (h : (kd f == "true") = true) : f = .tt := by cases f <;> first | rfl | exact absurd h (by simp only [kd]; decide +kernel)
theorem kd_ff {f : Fm} (h : (kd f == "false") = true) : f = .ff := by cases f <;> first | rfl | exact absurd h (by simp only [kd]; decide +kernel)
theorem kd_has {f : Fm} (h : (kd f == "has") = true) : ∃ p, f = .has p := by cases f <;> first | exact ⟨_, rfl⟩ | exact absurd h (by simp only [kd]; decide +kernel)
theorem kd_lacks {f : Fm} (h : (kd f == "lacks") = true) : ∃ p, f = .lacks p := by cases f <;> first | exact ⟨_, rfl⟩ | exact absurd h (by simp only [kd]; decide +kernel)
theorem kd_var {f : Fm} (h : (kd f == "var") = true) : ∃ p, f = .var p := by cases f <;> first | exact ⟨_, rfl⟩ | exact absurd h (by simp only [kd]; decide +kernel)
theorem kd_some {f : Fm} (h : (kd f == "some") = true) : ∃ a g, f = .some a g := by cases f <;> first | exact ⟨_, _, rfl⟩ | exact absurd h (by simp only [kd]; decide +kernel)
theorem kd_all {f : Fm} (h : (kd f == "all") = true) : ∃ a g, f = .all a g := by cases f <;> first | exact ⟨_, _, rfl⟩ | exact absurd h (by simp only [kd]; decide +kernel)
theorem kd_and {f : Fm} (h : (kd f == "and") = true) : ∃ a g, f = .and a g := by cases f <;> first | exact ⟨_, _, rfl⟩ | exact absurd h (by simp only [kd]; decide +kernel)
theorem isMost_of {f : Fm} (h : isMost f = true) : ∃ x g, f = .most x g := by cases f <;> first | exact ⟨_, _, rfl⟩ | exact absurd h (by simp [isMost])
theorem rgV_nat (n : Nat) : rgV 0 (n : Int) = nvs (List.range n) := by
  unfold rgV nvs
  rw [show ((n : Int) - 0).toNat = n by omega]
  refine List.map_congr_left fun i _ => ?_
  rw [Int.zero_add]
theorem range_at {n i : Nat} {x : V} (h : (nvs (List.range n))[i]? = some x) : i < n ∧ x = nv i := by
  obtain ⟨m, h1, h2⟩ := nvs_get h
  have hi : i < n := by
    have := at_len h1
    rw [List.length_range] at this
    exact this
  rw [List.getElem?_range hi] at h1
  rw [h2, ← Option.some.inj h1]
  exact ⟨hi, rfl⟩
theorem filt_yes {p : Nat → Bool} {i : Nat} (h : p i = true) : nvs ((List.range (i + 1)).filter p) = nvs ((List.range i).filter p) ++ [nv i] := by
  rw [List.range_succ, List.filter_append]
  simp [nvs, h]
theorem filt_no {p : Nat → Bool} {i : Nat} (h : p i = false) : nvs ((List.range (i + 1)).filter p) = nvs ((List.range i).filter p) := by
  rw [List.range_succ, List.filter_append]
  simp [nvs, h]
theorem filt_small {p : Nat → Bool} {i n : Nat} (hi : i < n) (hn : n ≤ 40) : (nvs ((List.range i).filter p)).length < sizeLine := by
  rw [List.length_map]
  have h := List.length_filter_le p (List.range i)
  rw [List.length_range] at h
  exact small1000 (by omega)
theorem upd_comm {H : Hp} {a b : Addr} {o u : HO} (h : a ≠ b) : upd (upd H a o) b u = upd (upd H b u) a o := by
  funext p
  by_cases e1 : p = a
  · subst e1
    rw [upd_ne h, upd_same, upd_same]
  · by_cases e2 : p = b
    · subst e2
      rw [upd_same, upd_ne e1, upd_same]
    · rw [upd_ne e2, upd_ne e1, upd_ne e1, upd_ne e2]
def lastP : Fm → Fm
  | .and _ g => g
  | .or _ g => g
  | .some _ g => g
  | .all _ g => g
  | g => g
def firstP : Fm → Fm
  | .and f _ => f
  | .or f _ => f
  | g => g
/-- the word of a comprehension that picks from numbers -/
def PickL (H0 : Hp) (D : Addr) (l : List Nat) (p : Nat → Bool) (i : Nat) (H' : Hp) : Prop := Same H0 H' ∧ H' D = some (.lst (nvs ((l.take i).filter p)))
theorem PickL.yes {H0 H' : Hp} {D : Addr} {l : List Nat} {p : Nat → Bool} {i o : Nat} (h : PickL H0 D l p i H') (hD : H0 D = none) (ho : l[i]? = some o) (hp : p o = true) : PickL H0 D l p (i + 1) (upd H' D (.lst (nvs ((l.take i).filter p) ++ [nv o]))) := by
  refine ⟨h.1.mut hD, ?_⟩
  rw [upd_same, take_snoc ho, List.filter_append]
  simp [nvs, hp]
theorem PickL.no {H0 H' : Hp} {D : Addr} {l : List Nat} {p : Nat → Bool} {i o : Nat} (h : PickL H0 D l p i H') (ho : l[i]? = some o) (hp : p o = false) : PickL H0 D l p (i + 1) H' := ⟨h.1, by
  rw [h.2, take_snoc ho, List.filter_append]
  simp [hp]⟩
theorem PickL.zero {H0 : Hp} {D : Addr} {l : List Nat} {p : Nat → Bool} (hD : H0 D = none) : PickL H0 D l p 0 (upd H0 D (.lst [])) := ⟨same_new hD, upd_same⟩
theorem pickL_small {l : List Nat} {p : Nat → Bool} {i : Nat} (h : l.length ≤ 60) : (nvs ((l.take i).filter p)).length < sizeLine := by
  rw [List.length_map]
  have h1 := List.length_filter_le p (l.take i)
  have h2 := (List.take_sublist i l).length_le
  exact small1000 (by omega)
theorem any_len {l : List Nat} {p : Nat → Bool} : decide ((0 : Int) < ((l.filter p).length : Int)) = l.any p := by
  rw [Bool.eq_iff_iff, decide_eq_true_iff, List.any_eq_true, Int.natCast_pos, List.length_pos_iff_exists_mem]
  constructor
  · rintro ⟨x, hx⟩
    exact ⟨x, List.mem_filter.mp hx⟩
  · rintro ⟨x, hx⟩
    exact ⟨x, List.mem_filter.mpr hx⟩
theorem all_len {l : List Nat} {p : Nat → Bool} : decide (V.int ((l.filter fun k => !p k).length : Int) = V.int 0) = l.all p := by
  rw [Bool.eq_iff_iff, decide_eq_true_iff, List.all_eq_true]
  constructor
  · intro h x hx
    have h0 : (l.filter fun k => !p k).length = 0 := by
      have := V.int.inj h
      omega
    cases hp : p x with
    | true => rfl
    | false =>
      have h1 : x ∈ l.filter fun k => !p k := List.mem_filter.mpr ⟨hx, by simp [hp]⟩
      rw [List.eq_nil_of_length_eq_zero h0] at h1
      cases h1
  · intro h
    rw [show (l.filter fun k => !p k) = [] from List.filter_eq_nil_iff.mpr fun x hx => by rw [h x hx]; decide]
    rfl
/-- the word of a comprehension that picks states -/
def Pick (H0 : Hp) (D : Addr) (p : Nat → Bool) (i : Nat) (H' : Hp) : Prop := Same H0 H' ∧ H' D = some (.lst (nvs ((List.range i).filter p)))
theorem Pick.yes {H0 H' : Hp} {D : Addr} {p : Nat → Bool} {i : Nat} (h : Pick H0 D p i H') (hD : H0 D = none) (hp : p i = true) : Pick H0 D p (i + 1) (upd H' D (.lst (nvs ((List.range i).filter p) ++ [nv i]))) := by
  refine ⟨h.1.mut hD, ?_⟩
  rw [upd_same, filt_yes hp]
theorem Pick.no {H0 H' : Hp} {D : Addr} {p : Nat → Bool} {i : Nat} (h : Pick H0 D p i H') (hp : p i = false) : Pick H0 D p (i + 1) H' := ⟨h.1, by rw [filt_no hp]; exact h.2⟩
theorem Pick.more {H0 H' H2 : Hp} {D : Addr} {p : Nat → Bool} {i : Nat} (h : Pick H0 D p i H') (s : Same H' H2) : Pick H0 D p i H2 := ⟨h.1.trans s, s _ _ h.2⟩
theorem Pick.zero {H0 : Hp} {D : Addr} {p : Nat → Bool} (hD : H0 D = none) : Pick H0 D p 0 (upd H0 D (.lst [])) := ⟨same_new hD, upd_same⟩
/-- over a dict that is held -/
theorem for_keys {d : Addr} {o : Obj} {kvs : List (Key × V)} {g : TG} {tb : TS} {D : Ends} {σ : L2.St} {H : Hp} (Pv : Nat → L2.St → Hp → Prop) (h0 : Pv 0 σ H) (hl : ∀ i σ H, Pv i σ H → H d = some (.frz o (.dK kvs)))
    (hs : ∀ i k v σ H, kvs[i]? = some (k, v) → Pv i σ H → g (kV k) σ H fun σ2 H2 => tb { D with nx := Pv (i + 1), ct := Pv (i + 1), bk := D.nx } σ2 H2) (hd : ∀ σ H, Pv kvs.length σ H → D.nx σ H) :
    ∃ W : Nat → Nat → L2.St → Hp → Prop, (∃ m, W 0 m σ H) ∧ ∀ i m σ H, W i m σ H →
      ((Itk d o kvs).stop i H ∧ D.nx σ H) ∨ ((Itk d o kvs).go i H ∧ ∃ N : L2.St → Hp → Prop, (∀ σ' H', N σ' H' → ∃ m', m' < m ∧ W (i + 1) m' σ' H') ∧ ∀ x H', (Itk d o kvs).yld i H x H' → g x σ H' fun σ2 H2 => tb { D with nx := N, ct := N, bk := D.nx } σ2 H2) := by
  refine ⟨fun i m σ H => m = kvs.length - i ∧ i ≤ kvs.length ∧ Pv i σ H, ⟨kvs.length, by simp, Nat.zero_le _, h0⟩, ?_⟩
  rintro i m σ H ⟨rfl, hi, p⟩
  have q := hl i σ H p
  by_cases hlt : i < kvs.length
  · refine .inr ⟨⟨q, hlt⟩, Pv (i + 1), fun σ' H' p' => ⟨kvs.length - (i + 1), by omega, rfl, hlt, p'⟩, ?_⟩
    rintro x H' ⟨rfl, k, v, hk, rfl⟩
    exact hs i k v σ _ hk p
  · obtain rfl : i = kvs.length := by omega
    exact .inl ⟨⟨q, Nat.le_refl _⟩, hd σ H p⟩
/-- the expression that an if's first row, or the row itself, returns -/
def retE : Stmt → Expr
  | .Return (some e) _ => e
  | .If _ (.Return (some e) _ :: _) _ _ => e
  | _ => .Constant .none 0 ⟨0, 0, 0, 0⟩
def lcSc : Expr → Scope
  | .ListComp _ _ sc _ => sc
  | _ => defScope sConj
abbrev vrow (i : Nat) : Scope := lcSc (retE ((defBody sValue).getD i sConj))
section
variable {P : Program} {w : World} {K : PySem.W.Frag} {mg : Str → Option Value} {base : Heap}
def spValue (K : PySem.W.Frag) (n : Nat) : Sp := fun vs H Q _ => ∃ (v u : V) (ds : Addr) (W : Wd) (f : Fm) (e : Nat → List Nat) (bs : List Nat) (kvs : List (Key × V)), vs = [v, u, .ref ds] ∧ WdAt K H W v ∧ FmAt K H f u ∧ H ds = some (.dK kvs) ∧
  (∀ x ∈ bs, ∃ p, valV kvs (.inl (x : Int)) = some (.ref p) ∧ H p = some (.lst (nvs (e x)))) ∧ Cl f bs ∧ hgt f ≤ n ∧ kvs.length + hgt f ≤ 1000 ∧ W.n ≤ 20 ∧ W.sp.length ≤ 60 ∧
  ∀ H' p, Same H H' → H' p = some (.lst (nvs (val W f e))) → Q (.ref p) H'
abbrev nValue : List Str := ["_law_world_here", "_law_statement", "_law_sets", "_law_states", "_law_kind", "_law_now", "_law_turn", "_law_inner_here", "_law_name", "_law_first", "_law_second", "_law_state", "_law_k"]
theorem scValue : FnScope nValue ["_law_world_here", "_law_statement", "_law_sets"] (defScope sValue) := ⟨rfl, rfl, rfl, by decide +kernel, rfl, by decide +kernel, by decide +kernel⟩
theorem value_turn {f fB : Addr} {fd fdB : FuncData} {n : Nat} (F : Fun K "_law_value" "_law_value" sValue f fd) (B : Blt mg)
    (G : FnOk P w K mg base CX0 (n + 1) f fd ["_law_world_here", "_law_statement", "_law_sets"] (spValue K n)) (mF : mg "_law_value" = some (.ref f)) (bF : Binds K fd ["_law_world_here", "_law_statement", "_law_sets"] [])
    (GB : FnOk P w K mg base CX0 1 fB fdB ["_law_world_here", "_law_state", "_law_label"] (spBeh K)) (mB : mg "_law_behind" = some (.ref fB)) (kB : PySem.W.keepIn K (.ref fB) = true) (bB : Binds K fdB ["_law_world_here", "_law_state", "_law_label"] []) :
    FnOk P w K mg base CX0 (n + 1 + 1) f fd ["_law_world_here", "_law_statement", "_law_sets"] (spValue K (n + 1)) := by
  refine F.ok scValue (fun vs H Q E h => ?_) (fun cdv A outer s H vs Q E hr h => ?_)
  · obtain ⟨v, u, ds, W, g, e, bs, kvs, rfl, _⟩ := h
    rfl
  obtain ⟨v, u, ds, W, g, e, bs, kvs, rfl, hW, hf, hds, hen, hcl, hn, hz, hWn, hWs, q⟩ := h
  have hr1 : Room 1 _ := hr.mono (by omega)
  refine ⟨_, Evl.pss_cut (ps_set (i := 3) scValue.nd rfl (.inl rfl) (pe_listRg rfl (by rfl) B.list (prg_1 (by rfl) B.range (pe_callB call_ln (by rfl) B.len PySem.boot_len (pa_cons (pe_ix ix_tup (pv 0) pe_int (fun _ _ => rfl)) pa_nil)))))
    (pss_cons (ps_set (i := 4) scValue.nd rfl (.inl rfl) (pe_ix ix_tup (pv 1) pe_int (fun _ _ => rfl)))
    (Evl.pss_cut (ps_if (pt_cmpR op_eq (pv 4) pe_str (nomark _)) (pss_one (ps_ret (pv 3))) pss_nil)
    (Evl.pss_cut (ps_if (pt_cmpR op_eq (pv 4) pe_str (nomark _)) (pss_one (ps_ret (pe_lst pa_nil))) pss_nil)
    (Evl.pss_cut (ps_if (pt_cmpR op_eq (pv 4) pe_str (nomark _)) (pss_one (ps_ret (pe_lc (own := [("_law_state", 11)]) (g := gName 11) rfl scValue.nd (pi_list (pv 3)) (blkOk_by (own := [("_law_state", 11)]) (N := nValue) (sc := defScope sValue) (by decide +kernel))
        (fun _ _ _ _ _ => pg_name (i := 11) scValue.nd rfl (.inl rfl)) (fun _ _ _ _ _ => pts_one (pt_cmpR (r := rIn K false) op_in_seq (pe_ix (r := rIxT K) ix_tup (pv 1) pe_int (fun _ _ => rfl)) (pe_ix (r := rIxL K) ix_list (pe_ix (r := rIxT K) ix_tup (pv 0) pe_int (fun _ _ => rfl)) (pv 11) (fun _ _ => rfl)) (by rfl))) (fun _ _ _ _ _ => pv 11)))) pss_nil)
    (Evl.pss_cut (ps_if (pt_cmpR op_eq (pv 4) pe_str (nomark _)) (pss_one (ps_ret (pe_lc (own := [("_law_state", 11)]) (g := gName 11) rfl scValue.nd (pi_list (pv 3)) (blkOk_by (own := [("_law_state", 11)]) (N := nValue) (sc := defScope sValue) (by decide +kernel))
        (fun _ _ _ _ _ => pg_name (i := 11) scValue.nd rfl (.inl rfl)) (fun _ _ _ _ _ => pts_one (pt_cmpR (r := rIn K true) op_notIn_seq (pe_ix (r := rIxT K) ix_tup (pv 1) pe_int (fun _ _ => rfl)) (pe_ix (r := rIxL K) ix_list (pe_ix (r := rIxT K) ix_tup (pv 0) pe_int (fun _ _ => rfl)) (pv 11) (fun _ _ => rfl)) (by rfl))) (fun _ _ _ _ _ => pv 11)))) pss_nil)
    (Evl.pss_cut (ps_if (pt_cmpR op_eq (pv 4) pe_str (nomark _)) (pss_one (ps_ret (pe_dget (hu_of hr) (pv 2) (pe_ix ix_tup (pv 1) pe_int (fun _ _ => rfl)) (fun _ _ => rfl)))) pss_nil)
    (Evl.pss_cut (ps_if (pt_cmpR op_in_seq (pv 4) (pe_tup (pa_cons pe_str (pa_cons pe_str pa_nil))) (by rfl))
      (pss_cons (ps_set (i := 5) scValue.nd rfl (.inl rfl) (pe_lst pa_nil))
      (Evl.pss_cut (ps_if (pt_cmpR op_eq (pv 4) pe_str (nomark _)) (pss_one (ps_set (i := 5) scValue.nd rfl (.inl rfl) (pe_callTy call_lst (by rfl) B.list (by decide +kernel) (pa_cons (pv 3) pa_nil)))) pss_nil)
      (pss_cons (ps_for PassesOwn.never rfl (pi_range1 (by rfl) B.range (pa_cons (pe_op op_add (pe_callB call_ln (by rfl) B.len PySem.boot_len (pa_cons (pe_ix ix_tup (pv 0) pe_int (fun _ _ => rfl)) pa_nil)) pe_int) pa_nil)) (pg_name (i := 6) scValue.nd rfl (.inl rfl))
        (pss_cons (ps_set (i := 7) scValue.nd rfl (.inl rfl) pe_dnewK)
        (Evl.pss_cut (ps_lock (ps_for PassesOwn.never rfl (pi_keys (pv 2)) (pg_name (i := 8) scValue.nd rfl (.inl rfl)) (pss_one (ps_dput (hu_of hr) (pv 7) (pv 8) (pe_dget (hu_of hr) (pv 2) (pv 8) (fun _ _ => rfl)) rfl))))
        (pss_cons (ps_dput (hu_of hr) (pv 7) (pe_ix ix_tup (pv 1) pe_int (fun _ _ => rfl)) (pv 5) rfl)
        (pss_one (ps_set (i := 5) scValue.nd rfl (.inl rfl) (pe_call G hr rfl mF F.kp bF .nil pass0 (pa_cons (pv 0) (pa_cons (pe_ix ix_tup (pv 1) pe_int (fun _ _ => rfl)) (pa_cons (pv 7) pa_nil))))))))))
      (pss_one (ps_ret (pv 5)))))) pss_nil)
    (pss_cons (ps_set (i := 9) scValue.nd rfl (.inr rfl) (pe_call G hr rfl mF F.kp bF .nil pass0 (pa_cons (pv 0) (pa_cons (pe_ix ix_tup (pv 1) (pe_op op_sub (pe_callB call_ln (by rfl) B.len PySem.boot_len (pa_cons (pv 1) pa_nil)) pe_int) (fun _ _ => rfl)) (pa_cons (pv 2) pa_nil)))))
    (Evl.pss_cut (ps_if (pt_cmpR op_eq (pv 4) pe_str (nomark _)) (pss_one (ps_ret (pe_lc (own := [("_law_state", 11)]) (g := gName 11) rfl scValue.nd (pi_list (pv 3)) (blkOk_by (own := [("_law_state", 11)]) (N := nValue) (sc := defScope sValue) (by decide +kernel))
        (fun _ _ _ _ _ => pg_name (i := 11) scValue.nd rfl (.inl rfl)) (fun _ _ _ _ _ => pts_one (pt_cmpR op_gt (pe_callB (r := rLen K) call_ln (by rfl) B.len PySem.boot_len (pa_cons (pe_lc (own := [("_law_k", 12)]) (g := gName 12) (wi := iList K _) rfl scValue.nd (pi_list (pe_call GB hr1 rfl mB kB bB .nil pass0 (pa_cons (pv 0) (pa_cons (pv 11) (pa_cons (pe_ix (r := rIxT K) ix_tup (pv 1) pe_int (fun _ _ => rfl)) pa_nil)))))
          (blkOk_by (own := [("_law_k", 12)]) (N := nValue) (sc := relS (vrow 9) (defScope sValue)) (by decide +kernel)) (fun _ _ _ _ _ => pg_name (i := 12) scValue.nd rfl (.inl rfl)) (fun _ _ _ _ _ => pts_one (pt_cmpR (r := rIn K false) op_in_seq (pv 12) (pv 9) (by rfl))) (fun _ _ _ _ _ => pv 12)) pa_nil)) pe_int (nomark _))) (fun _ _ _ _ _ => pv 11)))) pss_nil)
    (Evl.pss_cut (ps_if (pt_cmpR op_eq (pv 4) pe_str (nomark _)) (pss_one (ps_ret (pe_lc (own := [("_law_state", 11)]) (g := gName 11) rfl scValue.nd (pi_list (pv 3)) (blkOk_by (own := [("_law_state", 11)]) (N := nValue) (sc := defScope sValue) (by decide +kernel))
        (fun _ _ _ _ _ => pg_name (i := 11) scValue.nd rfl (.inl rfl)) (fun _ _ _ _ _ => pts_one (pt_cmpR op_eq (pe_callB (r := rLen K) call_ln (by rfl) B.len PySem.boot_len (pa_cons (pe_lc (own := [("_law_k", 12)]) (g := gName 12) (wi := iList K _) rfl scValue.nd (pi_list (pe_call GB hr1 rfl mB kB bB .nil pass0 (pa_cons (pv 0) (pa_cons (pv 11) (pa_cons (pe_ix (r := rIxT K) ix_tup (pv 1) pe_int (fun _ _ => rfl)) pa_nil)))))
          (blkOk_by (own := [("_law_k", 12)]) (N := nValue) (sc := relS (vrow 10) (defScope sValue)) (by decide +kernel)) (fun _ _ _ _ _ => pg_name (i := 12) scValue.nd rfl (.inl rfl)) (fun _ _ _ _ _ => pts_one (pt_cmpR (r := rIn K true) op_notIn_seq (pv 12) (pv 9) (by rfl))) (fun _ _ _ _ _ => pv 12)) pa_nil)) pe_int (nomark _))) (fun _ _ _ _ _ => pv 11)))) pss_nil)
    (pss_cons (ps_set (i := 10) scValue.nd rfl (.inr rfl) (pe_call G hr rfl mF F.kp bF .nil pass0 (pa_cons (pv 0) (pa_cons (pe_ix ix_tup (pv 1) pe_int (fun _ _ => rfl)) (pa_cons (pv 2) pa_nil)))))
    (Evl.pss_cut (ps_if (pt_cmpR op_eq (pv 4) pe_str (nomark _)) (pss_one (ps_ret (pe_lc (own := [("_law_state", 11)]) (g := gName 11) rfl scValue.nd (pi_list (pv 3)) (blkOk_by (own := [("_law_state", 11)]) (N := nValue) (sc := defScope sValue) (by decide +kernel))
        (fun _ _ _ _ _ => pg_name (i := 11) scValue.nd rfl (.inl rfl)) (fun _ _ _ _ _ => pts_one (PW.pt (pw_and (pt_cmpR (r := rIn K false) op_in_seq (pv 11) (pv 9) (by rfl)) (pw_and1 (pt_cmpR (r := rIn K false) op_in_seq (pv 11) (pv 10) (by rfl)))))) (fun _ _ _ _ _ => pv 11)))) pss_nil)
    (pss_one (ps_ret (pe_lc (own := [("_law_state", 11)]) (g := gName 11) rfl scValue.nd (pi_list (pv 3)) (blkOk_by (own := [("_law_state", 11)]) (N := nValue) (sc := defScope sValue) (by decide +kernel))
        (fun _ _ _ _ _ => pg_name (i := 11) scValue.nd rfl (.inl rfl)) (fun _ _ _ _ _ => pts_one (PW.pt (pw_or (pt_cmpR (r := rIn K false) op_in_seq (pv 11) (pv 9) (by rfl)) (pw_or1 (pt_cmpR (r := rIn K false) op_in_seq (pv 11) (pv 10) (by rfl)))))) (fun _ _ _ _ _ => pv 11)))))))))))))))), ?_⟩
  obtain ⟨a, us, rfl, hT, hU⟩ := hf.parts
  obtain ⟨aw, bw, cw, xs, ys, hv, hA, hB, hX, hC, hY⟩ := id hW
  have hxl : xs.length = W.n := Each.length hX
  -- the states
  refine ⟨fun σ' H' => ∃ sl : Addr, σ' = [some v, some (.ref a), some (.ref ds), some (.ref sl), none, none, none, none, none, none, none, none, none] ∧ Same H H' ∧ H' sl = some (.lst (nvs (List.range W.n))), ?_, ?_⟩
  · refine ⟨v, rfl, aw, _, 0, _, hv, rfl, hA, atI_nat (j := 0) rfl, bw, xs, rfl, .inl hB, _, rfl, RgOk.of_le (by omega) (by omega) (by omega) (by omega), fun sl hsl => ?_⟩
    refine ⟨sl, rfl, same_new hsl, ?_⟩
    rw [upd_same, rgV_nat, hxl]
  rintro σ0 H0 ⟨sl, rfl, s0, hsl⟩
  -- the kind
  refine ⟨_, rfl, a, _, 0, _, rfl, rfl, s0.seqT hT, atI_nat (j := 0) rfl, ?_⟩
  generalize hσ : [some v, some (V.ref a), some (V.ref ds), some (V.ref sl), some (V.str (kd g)), none, none, none, none, none, none, none, none] = σ1
  have hσ' : (σ1 : L2.St) = [some v, some (V.ref a), some (V.ref ds), some (V.ref sl), some (V.str (kd g)), none, none, none, none, none, none, none, none] := hσ.symm
  clear hσ
  -- true
  refine ⟨fun σ' H' => σ1 = σ' ∧ H0 = H' ∧ (kd g == "true") = false, ?_, ?_⟩
  · subst hσ'
    refine ⟨_, rfl, rfl, _, rfl, ?_⟩
    rw [str_eq]
    cases c : kd g == "true" with
    | false => exact iteF ⟨rfl, rfl, rfl⟩
    | true =>
      obtain rfl := kd_tt c
      exact iteT ⟨_, rfl, q _ sl s0 hsl⟩
  rintro _ _ ⟨rfl, rfl, c1⟩
  -- false
  refine ⟨fun σ' H' => σ1 = σ' ∧ H0 = H' ∧ (kd g == "false") = false, ?_, ?_⟩
  · subst hσ'
    refine ⟨_, rfl, rfl, _, rfl, ?_⟩
    rw [str_eq]
    cases c : kd g == "false" with
    | false => exact iteF ⟨rfl, rfl, rfl⟩
    | true =>
      obtain rfl := kd_ff c
      exact iteT ⟨Nat.zero_le _, fun p hp => q _ p (s0.and_new hp) upd_same⟩
  rintro _ _ ⟨rfl, rfl, c2⟩
  -- has
  have stAt : ∀ i, i < W.n → ∃ x l, xs[i]? = some x ∧ W.st[i]? = some l ∧ LstAt K H l x := fun i hi => by
    have h := List.getElem?_eq_getElem (l := W.st) (i := i) hi
    obtain ⟨x, h1, h2⟩ := hX.at h
    exact ⟨x, _, h1, h, h2⟩
  have hasAt : ∀ {i p : Nat} {l : List Nat}, W.st[i]? = some l → W.has p i = l.contains p := fun {i p l} h => by
    show (W.st.getD i []).contains p = _
    rw [List.getD_eq_getElem?_getD, h] <;> rfl
  refine ⟨fun σ' H' => σ1 = σ' ∧ H0 = H' ∧ (kd g == "has") = false, ?_, ?_⟩
  · subst hσ'
    refine ⟨_, rfl, rfl, _, rfl, ?_⟩
    rw [str_eq]
    cases c : kd g == "has" with
    | false => exact iteF ⟨rfl, rfl, rfl⟩
    | true =>
      obtain ⟨p, rfl⟩ := kd_has c
      refine iteT ⟨_, rfl, sl, rfl, ⟨_, SqL.of hsl⟩, fun D hD => lc_list (K := K) (a := sl) (xs := nvs (List.range W.n)) (Pick H0 D fun s => W.has p s) (Pick.zero hD) (fun i H' _ h => SqL.of (h.1 _ _ hsl)) ?_ ?_⟩
      · intro i x H' hi hP
        obtain ⟨hin, rfl⟩ := range_at hi
        obtain ⟨y, l, hy, hl, pl, rfl, hpl⟩ := stAt i hin
        have s1 := s0.trans hP.1
        refine ⟨rfl, ⟨_, rfl, a, _, 1, _, rfl, rfl, s1.seqT hT, atI_nat (j := 1) rfl, v, rfl, aw, _, 0, _, hv, rfl, s1.seqT hA, atI_nat (j := 0) rfl, _, rfl, bw, xs, _, _, rfl, rfl, s1.seq hB, atI_nat hy, pl, _, rfl, .inl (s1.seq hpl), rfl, flat_nvs _, _, rfl, ?_⟩⟩
        show (if (if false = true then !inV (nv p) (nvs l) else inV (nv p) (nvs l)) = true then _ else _)
        rw [if_neg Bool.false_ne_true, inV_nvs, ← hasAt hl]
        cases hp : W.has p i with
        | true => exact iteT ⟨_, rfl, _, hP.2, filt_small hin (by omega), hP.yes hD hp⟩
        | false => exact iteF (hP.no hp)
      · intro H' hP
        rw [List.length_map, List.length_range] at hP
        exact q H' D (s0.trans hP.1) hP.2
  rintro _ _ ⟨rfl, rfl, c3⟩
  -- lacks
  refine ⟨fun σ' H' => σ1 = σ' ∧ H0 = H' ∧ (kd g == "lacks") = false, ?_, ?_⟩
  · subst hσ'
    refine ⟨_, rfl, rfl, _, rfl, ?_⟩
    rw [str_eq]
    cases c : kd g == "lacks" with
    | false => exact iteF ⟨rfl, rfl, rfl⟩
    | true =>
      obtain ⟨p, rfl⟩ := kd_lacks c
      refine iteT ⟨_, rfl, sl, rfl, ⟨_, SqL.of hsl⟩, fun D hD => lc_list (K := K) (a := sl) (xs := nvs (List.range W.n)) (Pick H0 D fun s => !W.has p s) (Pick.zero hD) (fun i H' _ h => SqL.of (h.1 _ _ hsl)) ?_ ?_⟩
      · intro i x H' hi hP
        obtain ⟨hin, rfl⟩ := range_at hi
        obtain ⟨y, l, hy, hl, pl, rfl, hpl⟩ := stAt i hin
        have s1 := s0.trans hP.1
        refine ⟨rfl, ⟨_, rfl, a, _, 1, _, rfl, rfl, s1.seqT hT, atI_nat (j := 1) rfl, v, rfl, aw, _, 0, _, hv, rfl, s1.seqT hA, atI_nat (j := 0) rfl, _, rfl, bw, xs, _, _, rfl, rfl, s1.seq hB, atI_nat hy, pl, _, rfl, .inl (s1.seq hpl), rfl, flat_nvs _, _, rfl, ?_⟩⟩
        show (if (if true = true then !inV (nv p) (nvs l) else inV (nv p) (nvs l)) = true then _ else _)
        rw [if_pos rfl, inV_nvs, ← hasAt hl]
        cases hp : W.has p i with
        | true => exact iteF (hP.no (by rw [hp]; rfl))
        | false => exact iteT ⟨_, rfl, _, hP.2, filt_small hin (by omega), hP.yes hD (by rw [hp]; rfl)⟩
      · intro H' hP
        rw [List.length_map, List.length_range] at hP
        exact q H' D (s0.trans hP.1) hP.2
  rintro _ _ ⟨rfl, rfl, c4⟩
  -- var
  refine ⟨fun σ' H' => σ1 = σ' ∧ H0 = H' ∧ (kd g == "var") = false, ?_, ?_⟩
  · subst hσ'
    refine ⟨_, rfl, rfl, _, rfl, ?_⟩
    rw [str_eq]
    cases c : kd g == "var" with
    | false => exact iteF ⟨rfl, rfl, rfl⟩
    | true =>
      obtain ⟨x, rfl⟩ := kd_var c
      obtain ⟨p, hp1, hp2⟩ := hen x hcl
      refine iteT ⟨_, rfl, _, rfl, a, _, 1, _, rfl, rfl, s0.seqT hT, atI_nat (j := 1) rfl, ds, .ref p, rfl, ?_, q _ p s0 (s0 _ _ hp2)⟩
      rw [← hp1]
      exact DGet.k (k := .inl (x : Int)) (s0 _ _ hds)
  rintro _ _ ⟨rfl, rfl, c5⟩
  -- the binder
  refine ⟨fun σ' H' => σ1 = σ' ∧ Same H0 H' ∧ isMost g = false, ?_, ?_⟩
  · subst hσ'
    refine ⟨_, rfl, by show 2 ≤ sizeLine; decide, fun t ht => ?_⟩
    have s4 := same_new (o := .tup binders) ht
    have s04 : Same H (upd H0 t (.tup binders)) := s0.trans s4
    refine ⟨t, binders, rfl, .inr (SqT.of upd_same), rfl, rfl, _, rfl, ?_⟩
    show (if (if false = true then !inV (V.str (kd g)) binders else inV (V.str (kd g)) binders) = true then _ else _)
    rw [if_neg Bool.false_ne_true, binder_kind]
    cases c : isMost g with
    | false => exact iteF ⟨rfl, s4, rfl⟩
    | true =>
      obtain ⟨x, g', rfl⟩ := isMost_of c
      obtain ⟨u, r, rfl, hu, _⟩ := hU
      refine iteT ⟨Nat.zero_le _, fun l hl => ?_⟩
      have s5 : Same H (upd (upd H0 t (.tup binders)) l (.lst [])) := s04.and_new hl
      refine ⟨fun σ' H' => ∃ nw : Addr, σ' = [some v, some (V.ref a), some (V.ref ds), some (V.ref sl), some (V.str (kd (.most x g'))), some (.ref nw), none, none, none, none, none, none, none] ∧ Same H H' ∧ H' nw = some (.lst (nvs (List.range W.n))), ?_, ?_⟩
      · refine ⟨_, rfl, rfl, _, rfl, ?_⟩
        rw [show decide (V.str (kd (.most x g')) = V.str "most") = true by rw [str_eq]; rfl]
        refine iteT ⟨_, rfl, sl, _, rfl, .inl (SqL.of (((s4.and_new hl) : Same H0 _) _ _ hsl)), fun nw hnw => ?_⟩
        exact ⟨nw, rfl, s5.and_new hnw, upd_same⟩
      rintro _ H6 ⟨nw, rfl, s6, hnw⟩
      refine ⟨_, rfl, aw, _, 0, _, hv, rfl, s6.seqT hA, atI_nat (j := 0) rfl, bw, xs, rfl, .inl (s6.seq hB), _, _, rfl, rfl, _, rfl, by omega, by omega, for_range (lo := 0) (n := ((xs.length : Int) + 1).toNat) (fun i σ H' => ∃ (nw : Addr) (z6 z7 z8 : Option V), σ = [some v, some (V.ref a), some (V.ref ds), some (V.ref sl), some (V.str (kd (.most x g'))), some (.ref nw), z6, z7, z8, none, none, none, none] ∧ Same H H' ∧ H' nw = some (.lst (nvs (iter (fun now => val W g' (put e x now)) (List.range W.n) i)))) ⟨nw, none, none, none, rfl, s6, hnw⟩ ?_ ?_⟩
      · rintro i σ H7 hi ⟨nw, z6, z7, z8, rfl, s7, hnw⟩
        generalize hcur : iter (fun now => val W g' (put e x now)) (List.range W.n) i = cur at hnw
        refine fun d hd => ?_
        have hdds : ds ≠ d := ne_of_none (s7 _ _ hds) hd
        refine ⟨fun σ' H' => ∃ (z8 : Option V) (m : List (Key × V)), σ' = [some v, some (V.ref a), some (V.ref ds), some (V.ref sl), some (V.str (kd (.most x g'))), some (.ref nw), some (.int (0 + (i : Int))), some (.ref d), z8, none, none, none, none] ∧ Same H7 H' ∧ H' d = some (.dK m) ∧ (∀ k v, valV kvs k = some v → valV m k = some v) ∧ m.length ≤ kvs.length, ?_, ?_⟩
        · refine ⟨ds, .dK kvs, ?_, trivial, fun od => ?_⟩
          · rw [upd_ne hdds]
            exact s7 _ _ hds
          refine ⟨_, rfl, ds, od, rfl, .inl ⟨kvs, upd_same, for_keys (fun i' σ' H' => ∃ (z8 : Option V) (m : List (Key × V)), σ' = [some v, some (V.ref a), some (V.ref ds), some (V.ref sl), some (V.str (kd (.most x g'))), some (.ref nw), some (.int (0 + (i : Int))), some (.ref d), z8, none, none, none, none] ∧ H' = upd (upd H7 d (.dK m)) ds (.frz od (.dK kvs)) ∧ (∀ (j : Nat) (kk : Key) (vv : V), j < i' → kvs[j]? = some (kk, vv) → valV m kk = valV kvs kk) ∧ m.length ≤ i') ⟨z8, [], rfl, rfl, fun _ _ _ h => absurd h (Nat.not_lt_zero _), Nat.le_refl _⟩ (fun i' σ' H' ⟨z8, m, e1, e2, e3⟩ => by rw [e2, upd_same]) ?_ ?_⟩⟩
          · rintro i' k v' σ' H' hk ⟨z8, m, rfl, rfl, h3, h4⟩
            have hil := at_len hk
            have hsome : (valV kvs k).isSome = true := by
              rw [← valV_any]
              exact List.any_eq_true.mpr ⟨_, List.mem_of_getElem? hk, by simp⟩
            obtain ⟨vk, hvk⟩ := Option.isSome_iff_exists.mp hsome
            refine ⟨_, rfl, _, rfl, ds, vk, rfl, .inl ⟨kvs, k, .inr ⟨od, upd_same⟩, rfl, hvk.symm⟩, _, rfl, _, rfl, d, _, rfl, DPut.k (k := k) (kvs := m) (by rw [upd_ne hdds.symm, upd_same]) (small1000 (by omega)), some (kV k), putK m k vk, rfl, ?_, ?_, Nat.le_trans (length_putK m k vk) (Nat.add_le_add_right h4 1)⟩
            · rw [upd_comm (a := ds) hdds, upd_upd]
            · intro j kk vv hj hjk
              rw [valV_put]
              by_cases ek : kk = k
              · rw [if_pos ek, ek, hvk]
              · rw [if_neg ek]
                refine h3 j kk vv ?_ hjk
                rcases Nat.lt_or_ge j i' with h | h
                · exact h
                · exfalso
                  obtain rfl : j = i' := by omega
                  rw [hk] at hjk
                  exact ek (Prod.mk.inj (Option.some.inj hjk)).1.symm
          · rintro σ' H' ⟨z8, m, rfl, rfl, h3, h4⟩
            refine ⟨upd_same, z8, m, rfl, ?_, ?_, ?_, h4⟩
            · intro p o hp
              by_cases ep : p = ds
              · subst ep
                rw [upd_same, ← hp, s7 _ _ hds]
              · rw [upd_ne ep, upd_ne ep, upd_ne (ne_of_none hp hd)]
                exact hp
            · rw [upd_ne hdds.symm, upd_ne hdds.symm, upd_same]
            · intro k vv hk
              obtain ⟨kk, hkk, hkk2⟩ : ∃ kv ∈ kvs, kv.1 = k := by
                have : (kvs.any fun kv => decide (kv.1 = k)) = true := by rw [valV_any, hk]; rfl
                obtain ⟨kv, h1, h2⟩ := List.any_eq_true.mp this
                exact ⟨kv, h1, of_decide_eq_true h2⟩
              obtain ⟨j, hj⟩ := List.getElem?_of_mem hkk
              rw [← hk, ← hkk2]
              exact h3 j kk.1 kk.2 (at_len hj) hj
        rintro _ H8 ⟨z8, m, rfl, s8, hm, hmk, hml⟩
        have s08 := s7.trans s8
        have hnd : nw ≠ d := ne_of_none hnw hd
        refine ⟨_, rfl, _, rfl, _, rfl, a, _, 1, _, rfl, rfl, s08.seqT hT, atI_nat (j := 1) rfl, d, _, rfl, DPut.k (k := .inl (x : Int)) (kvs := m) hm (small1000 (by omega)), ?_⟩
        generalize hH9 : upd H8 d (.dK (putK m (.inl (x : Int)) (.ref nw))) = H9
        have s9 : Same H7 H9 := by rw [← hH9]; exact s8.mut hd
        have s09 := s7.trans s9
        refine ⟨_, rfl, _, rfl, a, _, 2, _, rfl, rfl, s09.seqT hT, atI_nat (j := 2) rfl, _, rfl, v, u, d, W, g', put e x cur, bs ++ [x], putK m (.inl (x : Int)) (.ref nw), rfl, WdAt.same s09 hW, FmAt.same s09 hu, by rw [← hH9, upd_same], ?_, hcl, by simp only [hgt] at hn; omega, ?_, hWn, hWs, ?_⟩
        · intro y hy
          rw [valV_put]
          by_cases ey : y = x
          · subst ey
            refine ⟨nw, if_pos rfl, ?_⟩
            rw [s9 _ _ hnw, put, if_pos rfl]
          · rcases List.mem_append.mp hy with hy | hy
            · obtain ⟨p, hp1, hp2⟩ := hen y hy
              refine ⟨p, ?_, ?_⟩
              · rw [if_neg (fun e => ey (by have := Sum.inl.inj e; omega))]
                exact hmk _ _ hp1
              · rw [s09 _ _ hp2, put, if_neg ey]
            · exact absurd (List.mem_singleton.mp hy) ey
        · have := length_putK m (.inl (x : Int)) (.ref nw)
          simp only [hgt] at hz
          omega
        · intro H10 p s10 hp
          exact ⟨p, _, _, _, rfl, s09.trans s10, by subst hcur; exact hp⟩
      · rintro σ H7 ⟨nw, z6, z7, z8, rfl, s7, hnw⟩
        refine ⟨_, rfl, q H7 nw s7 ?_⟩
        rw [hxl, show ((W.n : Int) + 1).toNat = W.n + 1 by omega] at hnw
        exact hnw
  rintro _ H5 ⟨rfl, s5, c6⟩
  have s05 := s0.trans s5
  have hsl5 := s5 _ _ hsl
  clear s5 hsl s0
  -- the last part
  obtain ⟨y, hy1, hy2, hy3, hy4⟩ : ∃ y, atI (.str (kd g) :: (nvs (nums g) ++ us)) (((V.str (kd g) :: (nvs (nums g) ++ us)).length : Int) - 1) = some y ∧ FmAt K H (lastP g) y ∧ hgt (lastP g) + 1 ≤ hgt g ∧ Cl (lastP g) bs := by
    cases g with
    | tt => exact absurd c1 (by simp only [kd]; decide +kernel)
    | ff => exact absurd c2 (by simp only [kd]; decide +kernel)
    | has p => exact absurd c3 (by simp only [kd]; decide +kernel)
    | lacks p => exact absurd c4 (by simp only [kd]; decide +kernel)
    | var p => exact absurd c5 (by simp only [kd]; decide +kernel)
    | most x g' => exact absurd c6 (by simp [isMost])
    | and f1 f2 =>
      obtain ⟨u1, r1, rfl, hu1, u2, r2, rfl, hu2, e3⟩ := hU
      cases (show r2 = [] from e3)
      exact ⟨u2, atI_nat (j := 2) rfl, hu2, by simp only [lastP, hgt]; omega, hcl.2⟩
    | or f1 f2 =>
      obtain ⟨u1, r1, rfl, hu1, u2, r2, rfl, hu2, e3⟩ := hU
      cases (show r2 = [] from e3)
      exact ⟨u2, atI_nat (j := 2) rfl, hu2, by simp only [lastP, hgt]; omega, hcl.2⟩
    | some l f1 =>
      obtain ⟨u1, r1, rfl, hu1, e3⟩ := hU
      cases (show r1 = [] from e3)
      exact ⟨u1, atI_nat (j := 2) rfl, hu1, by simp only [lastP, hgt]; omega, hcl⟩
    | all l f1 =>
      obtain ⟨u1, r1, rfl, hu1, e3⟩ := hU
      cases (show r1 = [] from e3)
      exact ⟨u1, atI_nat (j := 2) rfl, hu1, by simp only [lastP, hgt]; omega, hcl⟩
  subst hσ'
  refine ⟨_, rfl, _, rfl, _, rfl, a, _, rfl, .inr (s05.seqT hT), _, _, rfl, rfl, a, _, _, y, rfl, rfl, s05.seqT hT, hy1, _, rfl, v, y, ds, W, lastP g, e, bs, kvs, rfl, WdAt.same s05 hW, FmAt.same s05 hy2, s05 _ _ hds, ?_, hy4, by omega, by omega, hWn, hWs, fun H6 p s6 hp => ?_⟩
  · intro x hx
    obtain ⟨p, hp1, hp2⟩ := hen x hx
    exact ⟨p, hp1, s05 _ _ hp2⟩
  have s06 := s05.trans s6
  have hsl6 := s6 _ _ hsl5
  clear s05 hsl5 s6
  generalize hσ : [some v, some (V.ref a), some (V.ref ds), some (V.ref sl), some (V.str (kd g)), none, none, none, none, some (V.ref p), none, none, none] = σ1
  have hσ' : (σ1 : L2.St) = [some v, some (V.ref a), some (V.ref ds), some (V.ref sl), some (V.str (kd g)), none, none, none, none, some (V.ref p), none, none, none] := hσ.symm
  clear hσ
  -- some
  refine ⟨fun σ' H' => σ1 = σ' ∧ H6 = H' ∧ (kd g == "some") = false, ?_, ?_⟩
  · subst hσ'
    refine ⟨_, rfl, rfl, _, rfl, ?_⟩
    rw [str_eq]
    cases c : kd g == "some" with
    | false => exact iteF ⟨rfl, rfl, rfl⟩
    | true =>
      obtain ⟨l, g', rfl⟩ := kd_some c
      refine iteT ⟨_, rfl, sl, rfl, ⟨_, SqL.of hsl6⟩, fun D hD => lc_list (K := K) (a := sl) (xs := nvs (List.range W.n)) (Pick H6 D fun s => (W.beh s l).any fun k => (val W g' e).contains k) (Pick.zero hD) (fun i H' _ h => SqL.of (h.1 _ _ hsl6)) ?_ ?_⟩
      · intro i x H' hi hP
        obtain ⟨hin, rfl⟩ := range_at hi
        have s1 := s06.trans hP.1
        have hbl := beh_len W i l
        refine ⟨rfl, _, rfl, _, rfl, _, rfl, a, _, 1, _, rfl, rfl, s1.seqT hT, atI_nat (j := 1) rfl, v, i, l, W, rfl, WdAt.same s1 hW, hWs, fun H7 b s7 hb => ⟨b, rfl, ⟨_, SqL.of hb⟩, fun D2 hD2 => lc_list (K := K) (a := b) (xs := nvs (W.beh i l)) (PickL H7 D2 (W.beh i l) (fun k => (val W g' e).contains k)) (PickL.zero hD2) (fun i' H' _ h => SqL.of (h.1 _ _ hb)) ?_ ?_⟩⟩
        · intro j x H8 hj hP2
          obtain ⟨o, ho, rfl⟩ := nvs_get hj
          have hp8 : H8 p = some (.lst (nvs (val W g' e))) := hP2.1 _ _ (s7 _ _ (hP.1 _ _ hp))
          refine ⟨rfl, _, rfl, _, rfl, p, nvs (val W g' e), rfl, .inl (SqL.of hp8), rfl, flat_nvs _, _, rfl, ?_⟩
          show (if (if false = true then !inV (nv o) (nvs (val W g' e)) else inV (nv o) (nvs (val W g' e))) = true then _ else _)
          rw [if_neg Bool.false_ne_true, inV_nvs]
          cases ho2 : (val W g' e).contains o with
          | true => exact iteT ⟨_, rfl, _, hP2.2, pickL_small (by omega), hP2.yes hD2 ho ho2⟩
          | false => exact iteF (hP2.no ho ho2)
        · intro H8 hP2
          rw [List.length_map] at hP2
          have hP8 := hP2.2
          rw [List.take_length] at hP8
          refine ⟨D2, _, rfl, .inl (SqL.of hP8), ?_⟩
          rw [List.length_map]
          refine ⟨_, _, rfl, rfl, _, rfl, ?_⟩
          have hPm := hP.more (s7.trans hP2.1)
          rw [any_len]
          cases ho2 : (W.beh i l).any fun k => (val W g' e).contains k with
          | true => exact iteT ⟨_, rfl, _, hPm.2, filt_small hin (by omega), hPm.yes hD ho2⟩
          | false => exact iteF (hPm.no ho2)
      · intro H' hP
        rw [List.length_map, List.length_range] at hP
        exact q H' D (s06.trans hP.1) hP.2
  rintro _ _ ⟨rfl, rfl, c7⟩
  -- all
  refine ⟨fun σ' H' => σ1 = σ' ∧ H6 = H' ∧ (kd g == "all") = false, ?_, ?_⟩
  · subst hσ'
    refine ⟨_, rfl, rfl, _, rfl, ?_⟩
    rw [str_eq]
    cases c : kd g == "all" with
    | false => exact iteF ⟨rfl, rfl, rfl⟩
    | true =>
      obtain ⟨l, g', rfl⟩ := kd_all c
      refine iteT ⟨_, rfl, sl, rfl, ⟨_, SqL.of hsl6⟩, fun D hD => lc_list (K := K) (a := sl) (xs := nvs (List.range W.n)) (Pick H6 D fun s => (W.beh s l).all fun k => (val W g' e).contains k) (Pick.zero hD) (fun i H' _ h => SqL.of (h.1 _ _ hsl6)) ?_ ?_⟩
      · intro i x H' hi hP
        obtain ⟨hin, rfl⟩ := range_at hi
        have s1 := s06.trans hP.1
        have hbl := beh_len W i l
        refine ⟨rfl, _, rfl, _, rfl, _, rfl, a, _, 1, _, rfl, rfl, s1.seqT hT, atI_nat (j := 1) rfl, v, i, l, W, rfl, WdAt.same s1 hW, hWs, fun H7 b s7 hb => ⟨b, rfl, ⟨_, SqL.of hb⟩, fun D2 hD2 => lc_list (K := K) (a := b) (xs := nvs (W.beh i l)) (PickL H7 D2 (W.beh i l) (fun k => !(val W g' e).contains k)) (PickL.zero hD2) (fun i' H' _ h => SqL.of (h.1 _ _ hb)) ?_ ?_⟩⟩
        · intro j x H8 hj hP2
          obtain ⟨o, ho, rfl⟩ := nvs_get hj
          have hp8 : H8 p = some (.lst (nvs (val W g' e))) := hP2.1 _ _ (s7 _ _ (hP.1 _ _ hp))
          refine ⟨rfl, _, rfl, _, rfl, p, nvs (val W g' e), rfl, .inl (SqL.of hp8), rfl, flat_nvs _, _, rfl, ?_⟩
          show (if (if true = true then !inV (nv o) (nvs (val W g' e)) else inV (nv o) (nvs (val W g' e))) = true then _ else _)
          rw [if_pos rfl, inV_nvs]
          cases ho2 : (val W g' e).contains o with
          | true => exact iteF (hP2.no ho (by rw [ho2]; rfl))
          | false => exact iteT ⟨_, rfl, _, hP2.2, pickL_small (by omega), hP2.yes hD2 ho (by rw [ho2]; rfl)⟩
        · intro H8 hP2
          rw [List.length_map] at hP2
          have hP8 := hP2.2
          rw [List.take_length] at hP8
          refine ⟨D2, _, rfl, .inl (SqL.of hP8), ?_⟩
          rw [List.length_map]
          refine ⟨rfl, _, rfl, ?_⟩
          have hPm := hP.more (s7.trans hP2.1)
          rw [all_len]
          cases ho2 : (W.beh i l).all fun k => (val W g' e).contains k with
          | true => exact iteT ⟨_, rfl, _, hPm.2, filt_small hin (by omega), hPm.yes hD ho2⟩
          | false => exact iteF (hPm.no ho2)
      · intro H' hP
        rw [List.length_map, List.length_range] at hP
        exact q H' D (s06.trans hP.1) hP.2
  rintro _ _ ⟨rfl, rfl, c8⟩
  obtain ⟨y2, hz1, hz2, hz3, hz4⟩ : ∃ y, atI (.str (kd g) :: (nvs (nums g) ++ us)) 1 = some y ∧ FmAt K H (firstP g) y ∧ hgt (firstP g) + 1 ≤ hgt g ∧ Cl (firstP g) bs := by
    cases g with
    | tt => exact absurd c1 (by simp only [kd]; decide +kernel)
    | ff => exact absurd c2 (by simp only [kd]; decide +kernel)
    | has p => exact absurd c3 (by simp only [kd]; decide +kernel)
    | lacks p => exact absurd c4 (by simp only [kd]; decide +kernel)
    | var p => exact absurd c5 (by simp only [kd]; decide +kernel)
    | most x g' => exact absurd c6 (by simp [isMost])
    | some l f1 => exact absurd c7 (by simp only [kd]; decide +kernel)
    | all l f1 => exact absurd c8 (by simp only [kd]; decide +kernel)
    | and f1 f2 =>
      obtain ⟨u1, r1, rfl, hu1, u2, r2, rfl, hu2, e3⟩ := hU
      cases (show r2 = [] from e3)
      exact ⟨u1, atI_nat (j := 1) rfl, hu1, by simp only [firstP, hgt]; omega, hcl.1⟩
    | or f1 f2 =>
      obtain ⟨u1, r1, rfl, hu1, u2, r2, rfl, hu2, e3⟩ := hU
      cases (show r2 = [] from e3)
      exact ⟨u1, atI_nat (j := 1) rfl, hu1, by simp only [firstP, hgt]; omega, hcl.1⟩
  subst hσ'
  refine ⟨_, rfl, _, rfl, a, _, _, y2, rfl, rfl, s06.seqT hT, hz1, _, rfl, v, y2, ds, W, firstP g, e, bs, kvs, rfl, WdAt.same s06 hW, FmAt.same s06 hz2, s06 _ _ hds, ?_, hz4, by omega, by omega, hWn, hWs, fun H8 p2 s8 hp2 => ?_⟩
  · intro x hx
    obtain ⟨p, hp1, hp2⟩ := hen x hx
    exact ⟨p, hp1, s06 _ _ hp2⟩
  have s08 := s06.trans s8
  have hsl8 := s8 _ _ hsl6
  have hp8 := s8 _ _ hp
  clear s06 hsl6 hp s8
  -- and
  refine ⟨fun σ' H' => [some v, some (V.ref a), some (V.ref ds), some (V.ref sl), some (V.str (kd g)), none, none, none, none, some (V.ref p), some (V.ref p2), none, none] = σ' ∧ H8 = H' ∧ (kd g == "and") = false, ?_, ?_⟩
  · refine ⟨_, rfl, rfl, _, rfl, ?_⟩
    rw [str_eq]
    cases c : kd g == "and" with
    | false => exact iteF ⟨rfl, rfl, rfl⟩
    | true =>
      obtain ⟨f1, f2, rfl⟩ := kd_and c
      refine iteT ⟨_, rfl, sl, rfl, ⟨_, SqL.of hsl8⟩, fun D hD => lc_list (K := K) (a := sl) (xs := nvs (List.range W.n)) (Pick H8 D fun s => (val W f2 e).contains s && (val W f1 e).contains s) (Pick.zero hD) (fun i H' _ h => SqL.of (h.1 _ _ hsl8)) ?_ ?_⟩
      · intro i x H' hi hP
        obtain ⟨hin, rfl⟩ := range_at hi
        refine ⟨rfl, _, rfl, _, rfl, p, nvs (val W f2 e), rfl, .inl (SqL.of (hP.1 _ _ hp8)), rfl, flat_nvs _, _, rfl, ?_⟩
        show (if (if false = true then !inV (nv i) (nvs (val W f2 e)) else inV (nv i) (nvs (val W f2 e))) = true then _ else _)
        rw [if_neg Bool.false_ne_true, inV_nvs]
        cases ho2 : (val W f2 e).contains i with
        | false => exact iteF (hP.no (by rw [ho2]; rfl))
        | true =>
          refine iteT ?_
          refine ⟨_, rfl, _, rfl, p2, nvs (val W f1 e), rfl, .inl (SqL.of (hP.1 _ _ hp2)), rfl, flat_nvs _, _, rfl, ?_⟩
          show (if (if false = true then !inV (nv i) (nvs (val W f1 e)) else inV (nv i) (nvs (val W f1 e))) = true then _ else _)
          rw [if_neg Bool.false_ne_true, inV_nvs]
          cases ho3 : (val W f1 e).contains i with
          | true => exact iteT ⟨_, rfl, _, hP.2, filt_small hin (by omega), hP.yes hD (by rw [ho2, ho3]; rfl)⟩
          | false => exact iteF (hP.no (by rw [ho2, ho3]; rfl))
      · intro H' hP
        rw [List.length_map, List.length_range] at hP
        exact q H' D (s08.trans hP.1) hP.2
  rintro _ _ ⟨rfl, rfl, c9⟩
  -- or
  cases g with
  | tt => exact absurd c1 (by simp only [kd]; decide +kernel)
  | ff => exact absurd c2 (by simp only [kd]; decide +kernel)
  | has p => exact absurd c3 (by simp only [kd]; decide +kernel)
  | lacks p => exact absurd c4 (by simp only [kd]; decide +kernel)
  | var p => exact absurd c5 (by simp only [kd]; decide +kernel)
  | most x g' => exact absurd c6 (by simp [isMost])
  | some l f1 => exact absurd c7 (by simp only [kd]; decide +kernel)
  | all l f1 => exact absurd c8 (by simp only [kd]; decide +kernel)
  | and f1 f2 => exact absurd c9 (by simp only [kd]; decide +kernel)
  | or f1 f2 =>
    refine ⟨_, rfl, sl, rfl, ⟨_, SqL.of hsl8⟩, fun D hD => lc_list (K := K) (a := sl) (xs := nvs (List.range W.n)) (Pick H8 D fun s => (val W f2 e).contains s || (val W f1 e).contains s) (Pick.zero hD) (fun i H' _ h => SqL.of (h.1 _ _ hsl8)) ?_ ?_⟩
    · intro i x H' hi hP
      obtain ⟨hin, rfl⟩ := range_at hi
      refine ⟨rfl, _, rfl, _, rfl, p, nvs (val W f2 e), rfl, .inl (SqL.of (hP.1 _ _ hp8)), rfl, flat_nvs _, _, rfl, ?_⟩
      show (if (if false = true then !inV (nv i) (nvs (val W f2 e)) else inV (nv i) (nvs (val W f2 e))) = true then _ else _)
      rw [if_neg Bool.false_ne_true, inV_nvs]
      cases ho2 : (val W f2 e).contains i with
      | true => exact iteT ⟨_, rfl, _, hP.2, filt_small hin (by omega), hP.yes hD (by rw [ho2]; rfl)⟩
      | false =>
        refine iteF ?_
        refine ⟨_, rfl, _, rfl, p2, nvs (val W f1 e), rfl, .inl (SqL.of (hP.1 _ _ hp2)), rfl, flat_nvs _, _, rfl, ?_⟩
        show (if (if false = true then !inV (nv i) (nvs (val W f1 e)) else inV (nv i) (nvs (val W f1 e))) = true then _ else _)
        rw [if_neg Bool.false_ne_true, inV_nvs]
        cases ho3 : (val W f1 e).contains i with
        | true => exact iteT ⟨_, rfl, _, hP.2, filt_small hin (by omega), hP.yes hD (by rw [ho2, ho3]; rfl)⟩
        | false => exact iteF (hP.no (by rw [ho2, ho3]; rfl))
    · intro H' hP
      rw [List.length_map, List.length_range] at hP
      exact q H' D (s08.trans hP.1) hP.2
theorem ok_value {f fB : Addr} {fd fdB : FuncData} (F : Fun K "_law_value" "_law_value" sValue f fd) (B : Blt mg)
    (mF : mg "_law_value" = some (.ref f)) (bF : Binds K fd ["_law_world_here", "_law_statement", "_law_sets"] [])
    (GB : FnOk P w K mg base CX0 1 fB fdB ["_law_world_here", "_law_state", "_law_label"] (spBeh K)) (mB : mg "_law_behind" = some (.ref fB)) (kB : PySem.W.keepIn K (.ref fB) = true) (bB : Binds K fdB ["_law_world_here", "_law_state", "_law_label"] []) :
    ∀ n, FnOk P w K mg base CX0 (n + 1) f fd ["_law_world_here", "_law_statement", "_law_sets"] (spValue K n)
  | 0 => by
    have no : ∀ vs H Q E, ¬ spValue K 0 vs H Q E := fun vs H Q E h => by
      obtain ⟨v, u, ds, W, g, e, bs, kvs, _, _, _, _, _, _, h1, _⟩ := h
      have := hgt_pos g
      omega
    exact ⟨fun vs H Q E h => absurd h (no vs H Q E), fun A outer s H args us vs Q E _ _ _ _ h => absurd h (no vs H Q E)⟩
  | n + 1 => value_turn F B (ok_value F B mF bF GB mB kB bB n) mF bF GB mB kB bB
/-! ### _law_truth -/
def spTruth (K : PySem.W.Frag) (n : Nat) : Sp := fun vs H Q _ => ∃ (v u : V) (W : Wd) (f : Fm), vs = [v, u] ∧ WdAt K H W v ∧ FmAt K H f u ∧ Cl f [] ∧ hgt f ≤ n ∧ hgt f ≤ 1000 ∧ W.n ≤ 20 ∧ W.sp.length ≤ 60 ∧
  ∀ H' p, Same H H' → H' p = some (.lst (nvs (val W f fun _ => []))) → Q (.ref p) H'
theorem scTruth : FnScope ["_law_world_here", "_law_statement"] ["_law_world_here", "_law_statement"] (defScope sTruth) := ⟨rfl, rfl, rfl, by decide +kernel, rfl, by decide +kernel, by decide +kernel⟩
theorem ok_truth {f fV : Addr} {fd fdV : FuncData} {n : Nat} (F : Fun K "_law_truth" "_law_truth" sTruth f fd)
    (GV : FnOk P w K mg base CX0 (n + 1) fV fdV ["_law_world_here", "_law_statement", "_law_sets"] (spValue K n)) (mV : mg "_law_value" = some (.ref fV)) (kV : PySem.W.keepIn K (.ref fV) = true) (bV : Binds K fdV ["_law_world_here", "_law_statement", "_law_sets"] []) :
    FnOk P w K mg base CX0 (n + 1 + 1) f fd ["_law_world_here", "_law_statement"] (spTruth K n) := by
  refine F.ok scTruth (fun vs H Q E h => ?_) (fun cdv A outer s H vs Q E hr h => ?_)
  · obtain ⟨v, u, W, g, rfl, _⟩ := h
    rfl
  obtain ⟨v, u, W, g, rfl, hW, hf, hcl, hn, hz, hWn, hWs, q⟩ := h
  refine ⟨_, pss_one (ps_ret (pe_call GV hr rfl mV kV bV .nil pass0 (pa_cons (pv 0) (pa_cons (pv 1) (pa_cons pe_dnewK pa_nil))))), ?_⟩
  refine ⟨v, rfl, u, rfl, fun d hd => ?_⟩
  have s1 : Same H (upd H d (.dK [])) := same_new hd
  exact ⟨v, u, d, W, g, fun _ => [], [], [], rfl, WdAt.same s1 hW, FmAt.same s1 hf, upd_same, fun x hx => absurd hx List.not_mem_nil, hcl, hn, by simpa using hz, hWn, hWs, fun H' p s2 hp => q H' p (s1.trans s2) hp⟩
end
end K20
namespace K20
open PySem PySem.Spec PySem.W PySem.SeqAt L2 Pm
/-! ### classes of states, by signs: the plain law -/
/-- the first place of a in l -/
def fstAt {α : Type} [DecidableEq α] (l : List α) (a : α) : Nat := l.findIdx fun x => decide (x = a)
theorem fstAt_at {α : Type} [DecidableEq α] {l : List α} {a : α} (h : a ∈ l) : l[fstAt l a]? = some a := by
  have hlt : fstAt l a < l.length := List.findIdx_lt_length_of_exists ⟨a, h, by simp⟩
  have h2 : decide (l[fstAt l a] = a) = true := List.findIdx_getElem (p := fun x => decide (x = a)) (w := hlt)
  rw [List.getElem?_eq_getElem hlt, of_decide_eq_true h2]
theorem fstAt_min {α : Type} [DecidableEq α] {l : List α} {a b : α} {m : Nat} (h : m < fstAt l a) (hb : l[m]? = some b) : b ≠ a := by
  obtain ⟨hm, e⟩ := List.getElem?_eq_some_iff.mp hb
  have h2 : decide (l[m] = a) = false := List.not_of_lt_findIdx (p := fun x => decide (x = a)) h
  rw [e] at h2
  exact of_decide_eq_false h2
theorem fstAt_lt {α : Type} [DecidableEq α] {l : List α} {a : α} (h : a ∈ l) : fstAt l a < l.length := (List.getElem?_eq_some_iff.mp (fstAt_at h)).1
theorem fstAt_inj {α : Type} [DecidableEq α] {l : List α} {a b : α} (ha : a ∈ l) (hb : b ∈ l) : fstAt l a = fstAt l b ↔ a = b := by
  refine ⟨fun e => ?_, fun e => by rw [e]⟩
  have h1 := fstAt_at ha
  rw [e, fstAt_at hb] at h1
  exact (Option.some.inj h1).symm

/-- i and j answer alike for t rounds -/
def like (W : Wd) : Nat → Nat → Nat → Prop
  | 0, i, j => W.st.getD i [] = W.st.getD j []
  | t + 1, i, j => like W t i j ∧ ∀ l < 3, (∀ u ∈ W.beh i l, ∃ v ∈ W.beh j l, like W t u v) ∧ ∀ v ∈ W.beh j l, ∃ u ∈ W.beh i l, like W t u v

abbrev kat (ks : List NestedKey) (s : Nat) : NestedKey := ks.getD s (.num 0)
def now0 (W : Wd) : List NestedKey := W.st.map fun l => .tup (l.map fun (p : Nat) => .num (p : Int))
def tri (W : Wd) (ks : List NestedKey) (s l : Nat) : NestedKey := .tup (canon ((W.beh s l).map (kat ks)))
def signOf (W : Wd) (ks : List NestedKey) (s : Nat) : NestedKey := .tup [kat ks s, .tup ((List.range 3).map (tri W ks s))]
def signs (W : Wd) (ks : List NestedKey) : List NestedKey := (List.range W.n).map (signOf W ks)
def nextP (W : Wd) (ks : List NestedKey) : List Nat := (signs W ks).map (fstAt (canon (signs W ks)))
abbrev numK (l : List Nat) : List NestedKey := l.map fun (p : Nat) => .num (p : Int)
def nowT (W : Wd) : Nat → List NestedKey
  | 0 => now0 W
  | t + 1 => numK (nextP W (nowT W t))
theorem now0_len {W : Wd} : (now0 W).length = W.n := List.length_map ..
theorem signs_len {W : Wd} {ks : List NestedKey} : (signs W ks).length = W.n := by simp [signs]
theorem nowT_len {W : Wd} : ∀ t, (nowT W t).length = W.n
  | 0 => now0_len
  | t + 1 => by simp [nowT, nextP, signs]

/-- what may stand as a list of keys: pure, flat enough, of one kind -/
structure NowOk (ks : List NestedKey) : Prop where
  fit : Fit ks
  dep : ∀ k ∈ ks, k.depth ≤ 3
  kind : (∃ ns : List Int, ks = ns.map .num) ∨ ∀ k ∈ ks, ∃ js, k = .tup js
theorem nums_of : ∀ {ks : List NestedKey}, (∀ k ∈ ks, ∃ i, k = NestedKey.num i) → ∃ ns : List Int, ks = ns.map .num
  | [], _ => ⟨[], rfl⟩
  | k :: r, h => by
    obtain ⟨i, rfl⟩ := h k List.mem_cons_self
    obtain ⟨ns, rfl⟩ := nums_of fun j hj => h j (List.mem_cons_of_mem _ hj)
    exact ⟨i :: ns, rfl⟩
theorem NowOk.sub {ks js : List NestedKey} (h : NowOk ks) (hs : ∀ k ∈ js, k ∈ ks) : NowOk js := by
  refine ⟨fun k hk => ⟨(h.fit k (hs k hk)).1, fun j hj => (h.fit k (hs k hk)).2 j (hs j hj)⟩, fun k hk => h.dep k (hs k hk), ?_⟩
  rcases h.kind with ⟨ns, rfl⟩ | h
  · refine .inl (nums_of fun k hk => ?_)
    obtain ⟨i, _, rfl⟩ := List.mem_map.mp (hs k hk)
    exact ⟨i, rfl⟩
  · exact .inr fun k hk => h k (hs k hk)
theorem NowOk.sortd {ks : List NestedKey} (h : NowOk ks) : Sortd ks := by
  rcases h.kind with h' | h'
  · exact .inl h'
  · exact .inr ⟨h', h.fit, fun k hk => Nat.le_trans (h.dep k hk) (by decide)⟩
theorem nums_ok (ns : List Int) : NowOk (ns.map .num) := by
  refine ⟨fun k hk => ?_, fun k hk => ?_, .inl ⟨ns, rfl⟩⟩
  · obtain ⟨i, _, rfl⟩ := List.mem_map.mp hk
    refine ⟨rfl, fun j hj => ?_⟩
    obtain ⟨i', _, rfl⟩ := List.mem_map.mp hj
    rfl
  · obtain ⟨i, _, rfl⟩ := List.mem_map.mp hk
    exact Nat.zero_le _
theorem numK_ok (l : List Nat) : NowOk (numK l) := by
  have := nums_ok (l.map fun (p : Nat) => (p : Int))
  rw [List.map_map] at this
  exact this
theorem pureKs_of : ∀ {ks : List NestedKey}, (∀ k ∈ ks, pureK k = true) → pureKs ks = true
  | [], _ => rfl
  | k :: r, h => by
    unfold pureKs
    rw [h k List.mem_cons_self, pureKs_of fun j hj => h j (List.mem_cons_of_mem _ hj)]
    rfl
theorem alikeAll_of : ∀ {ks js : List NestedKey}, (∀ k ∈ ks, ∀ j ∈ js, alike k.data j.data = true) → alikeAll (NestedKey.datas ks) (NestedKey.datas js) = true
  | [], _, _ => by simp [NestedKey.datas, alikeAll]
  | k :: ks, [], _ => by simp [NestedKey.datas, alikeAll]
  | k :: ks, j :: js, h => by
    simp only [NestedKey.datas, alikeAll, Bool.and_eq_true]
    exact ⟨h k List.mem_cons_self j List.mem_cons_self, alikeAll_of fun a ha b hb => h a (List.mem_cons_of_mem _ ha) b (List.mem_cons_of_mem _ hb)⟩
theorem depthAll_of : ∀ {ks : List NestedKey} {d : Nat}, (∀ k ∈ ks, k.depth ≤ d) → NestedKey.depthAll ks ≤ d
  | [], _, _ => Nat.zero_le _
  | k :: r, d, h => by
    simp only [NestedKey.depthAll]
    have h1 := h k List.mem_cons_self
    have h2 := depthAll_of (ks := r) (d := d) fun j hj => h j (List.mem_cons_of_mem _ hj)
    omega
theorem numsK_pure (l : List Nat) : pureKs (numK l) = true := pureKs_of fun k hk => ((numK_ok l).fit k hk).1
theorem now0_ok (W : Wd) : NowOk (now0 W) := by
  refine ⟨fun k hk => ?_, fun k hk => ?_, .inr fun k hk => ?_⟩
  · obtain ⟨l, _, rfl⟩ := List.mem_map.mp hk
    refine ⟨numsK_pure l, fun j hj => ?_⟩
    obtain ⟨m, _, rfl⟩ := List.mem_map.mp hj
    simp only [NestedKey.data, alike]
    refine alikeAll_of fun a ha b hb => ?_
    obtain ⟨i, _, rfl⟩ := List.mem_map.mp ha
    obtain ⟨i', _, rfl⟩ := List.mem_map.mp hb
    rfl
  · obtain ⟨l, _, rfl⟩ := List.mem_map.mp hk
    simp only [NestedKey.depth]
    have : NestedKey.depthAll (numK l) ≤ 0 := depthAll_of fun k hk => by
      obtain ⟨i, _, rfl⟩ := List.mem_map.mp hk
      exact Nat.le_refl _
    exact Nat.le_trans (Nat.add_le_add_right this 1) (by decide)
  · obtain ⟨l, _, rfl⟩ := List.mem_map.mp hk
    exact ⟨_, rfl⟩
theorem nowT_ok (W : Wd) : ∀ t, NowOk (nowT W t)
  | 0 => now0_ok W
  | t + 1 => numK_ok _

section
variable {W : Wd} {ks : List NestedKey}
theorem kat_mem {s : Nat} (h : s < ks.length) : kat ks s ∈ ks := by
  show ks.getD s _ ∈ ks
  rw [List.getD_eq_getElem?_getD, List.getElem?_eq_getElem h]
  exact List.getElem_mem h
theorem beh_lt (he : ∀ t ∈ W.sp, t.2.2 < W.n) {s l u : Nat} (h : u ∈ W.beh s l) : u < W.n := by
  unfold Wd.beh at h
  obtain ⟨t, ht, rfl⟩ := List.mem_map.mp h
  exact he t (List.mem_filter.mp ht).1
theorem behK_mem (he : ∀ t ∈ W.sp, t.2.2 < W.n) (hl : ks.length = W.n) {s l : Nat} : ∀ k ∈ (W.beh s l).map (kat ks), k ∈ ks := fun k hk => by
  obtain ⟨u, hu, rfl⟩ := List.mem_map.mp hk
  exact kat_mem (by rw [hl]; exact beh_lt he hu)
theorem signs_fit (he : ∀ t ∈ W.sp, t.2.2 < W.n) (hl : ks.length = W.n) (h : NowOk ks) : (∀ k ∈ signs W ks, ∃ js, k = .tup js) ∧ Fit (signs W ks) ∧ ∀ k ∈ signs W ks, k.depth ≤ 8 := by
  have hc : ∀ s l, ∀ k ∈ canon ((W.beh s l).map (kat ks)), k ∈ ks := fun s l k hk => behK_mem he hl k (mem_canon.mp hk)
  refine ⟨fun k hk => ?_, fun k hk => ?_, fun k hk => ?_⟩
  · obtain ⟨s, hs, rfl⟩ := List.mem_map.mp hk
    exact ⟨_, rfl⟩
  · obtain ⟨s, hs, rfl⟩ := List.mem_map.mp hk
    have hs' : kat ks s ∈ ks := kat_mem (by rw [hl]; exact List.mem_range.mp hs)
    refine ⟨?_, fun j hj => ?_⟩
    · refine pureKs_of fun k hk => ?_
      rcases List.mem_cons.mp hk with rfl | hk
      · exact (h.fit _ hs').1
      · obtain rfl := List.mem_singleton.mp hk
        refine pureKs_of fun k hk => ?_
        obtain ⟨l, _, rfl⟩ := List.mem_map.mp hk
        exact pureKs_of fun k hk => (h.fit k (hc s l k hk)).1
    · obtain ⟨s2, hs2, rfl⟩ := List.mem_map.mp hj
      have hs2' : kat ks s2 ∈ ks := kat_mem (by rw [hl]; exact List.mem_range.mp hs2)
      simp only [signOf, NestedKey.data, NestedKey.datas, alike, alikeAll, Bool.and_eq_true]
      refine ⟨(h.fit _ hs').2 _ hs2', alikeAll_of fun a ha b hb => ?_, trivial⟩
      obtain ⟨l, _, rfl⟩ := List.mem_map.mp ha
      obtain ⟨l2, _, rfl⟩ := List.mem_map.mp hb
      simp only [tri, NestedKey.data, alike]
      exact alikeAll_of fun a ha b hb => (h.fit a (hc s l a ha)).2 b (hc s2 l2 b hb)
  · obtain ⟨s, hs, rfl⟩ := List.mem_map.mp hk
    have hs' : kat ks s ∈ ks := kat_mem (by rw [hl]; exact List.mem_range.mp hs)
    have h1 := h.dep _ hs'
    have h2 : NestedKey.depthAll ((List.range 3).map (tri W ks s)) ≤ 4 := depthAll_of fun k hk => by
      obtain ⟨l, _, rfl⟩ := List.mem_map.mp hk
      simp only [tri, NestedKey.depth]
      have : NestedKey.depthAll (canon ((W.beh s l).map (kat ks))) ≤ 3 := depthAll_of fun k hk => h.dep k (hc s l k hk)
      omega
    simp only [signOf, NestedKey.depth, NestedKey.depthAll]
    omega
theorem signs_sortd (he : ∀ t ∈ W.sp, t.2.2 < W.n) (hl : ks.length = W.n) (h : NowOk ks) : Sortd (signs W ks) := .inr (signs_fit he hl h)
theorem sign_mem {s : Nat} (h : s < W.n) : signOf W ks s ∈ signs W ks := List.mem_map.mpr ⟨s, List.mem_range.mpr h, rfl⟩
theorem next_at {s : Nat} (h : s < W.n) : kat (numK (nextP W ks)) s = .num (fstAt (canon (signs W ks)) (signOf W ks s) : Nat) := by
  show (numK (nextP W ks)).getD s _ = _
  rw [List.getD_eq_getElem?_getD]
  simp [nextP, signs, h]
theorem next_eq {i j : Nat} (hi : i < W.n) (hj : j < W.n) : kat (numK (nextP W ks)) i = kat (numK (nextP W ks)) j ↔ signOf W ks i = signOf W ks j := by
  rw [next_at hi, next_at hj, ← fstAt_inj (mem_canon.mpr (sign_mem hi)) (mem_canon.mpr (sign_mem hj))]
  constructor
  · intro e
    have := NestedKey.num.inj e
    omega
  · intro e
    rw [e]
theorem sign_eq (he : ∀ t ∈ W.sp, t.2.2 < W.n) (hl : ks.length = W.n) (h : NowOk ks) {i j : Nat} : signOf W ks i = signOf W ks j ↔
    kat ks i = kat ks j ∧ ∀ l < 3, (∀ u ∈ W.beh i l, ∃ v ∈ W.beh j l, kat ks u = kat ks v) ∧ ∀ v ∈ W.beh j l, ∃ u ∈ W.beh i l, kat ks u = kat ks v := by
  have hcan : ∀ l, tri W ks i l = tri W ks j l ↔ (∀ u ∈ W.beh i l, ∃ v ∈ W.beh j l, kat ks u = kat ks v) ∧ ∀ v ∈ W.beh j l, ∃ u ∈ W.beh i l, kat ks u = kat ks v := fun l => by
    have hf : Fit ((W.beh i l).map (kat ks) ++ (W.beh j l).map (kat ks)) := (h.sub fun k hk => by
      rcases List.mem_append.mp hk with hk | hk
      · exact behK_mem he hl k hk
      · exact behK_mem he hl k hk).fit
    unfold tri
    rw [NestedKey.tup.injEq, canon_eq hf]
    constructor
    · intro e
      refine ⟨fun u hu => ?_, fun v hv => ?_⟩
      · obtain ⟨v, hv, e2⟩ := List.mem_map.mp ((e _).mp (List.mem_map.mpr ⟨u, hu, rfl⟩))
        exact ⟨v, hv, e2.symm⟩
      · obtain ⟨u, hu, e2⟩ := List.mem_map.mp ((e _).mpr (List.mem_map.mpr ⟨v, hv, rfl⟩))
        exact ⟨u, hu, e2⟩
    · rintro ⟨h1, h2⟩ k
      constructor
      · intro hk
        obtain ⟨u, hu, rfl⟩ := List.mem_map.mp hk
        obtain ⟨v, hv, e⟩ := h1 u hu
        exact List.mem_map.mpr ⟨v, hv, e.symm⟩
      · intro hk
        obtain ⟨v, hv, rfl⟩ := List.mem_map.mp hk
        obtain ⟨u, hu, e⟩ := h2 v hv
        exact List.mem_map.mpr ⟨u, hu, e⟩
  unfold signOf
  rw [NestedKey.tup.injEq, List.cons.injEq, List.cons.injEq, NestedKey.tup.injEq]
  constructor
  · rintro ⟨e1, e2, _⟩
    refine ⟨e1, fun l hl3 => (hcan l).mp ?_⟩
    exact List.map_inj_left.mp e2 l (List.mem_range.mpr hl3)
  · rintro ⟨e1, e2⟩
    exact ⟨e1, List.map_inj_left.mpr fun l hl3 => (hcan l).mpr (e2 l (List.mem_range.mp hl3)), rfl⟩
end
theorem numK_inj {l m : List Nat} (h : numK l = numK m) : l = m := by
  refine List.map_inj_right (f := fun (p : Nat) => NestedKey.num (p : Int)) ?_ |>.mp h
  intro x y e
  have := NestedKey.num.inj e
  omega
theorem now0_at {W : Wd} {s : Nat} (h : s < W.n) : kat (now0 W) s = .tup (numK (W.st.getD s [])) := by
  have h' : s < W.st.length := h
  show (now0 W).getD s _ = _
  rw [List.getD_eq_getElem?_getD, List.getD_eq_getElem?_getD]
  simp [now0, h']
theorem nowT_like {W : Wd} (he : ∀ t ∈ W.sp, t.2.2 < W.n) : ∀ t {i j : Nat}, i < W.n → j < W.n → (kat (nowT W t) i = kat (nowT W t) j ↔ like W t i j)
  | 0, i, j, hi, hj => by
    show kat (now0 W) i = kat (now0 W) j ↔ _
    rw [now0_at hi, now0_at hj]
    constructor
    · intro e
      exact numK_inj (NestedKey.tup.inj e)
    · intro e
      rw [show W.st.getD i [] = W.st.getD j [] from e]
  | t + 1, i, j, hi, hj => by
    show kat (numK (nextP W (nowT W t))) i = kat (numK (nextP W (nowT W t))) j ↔ _
    rw [next_eq hi hj, sign_eq he (nowT_len t) (nowT_ok W t)]
    refine and_congr (nowT_like he t hi hj) ?_
    refine forall_congr' fun l => forall_congr' fun _ => ?_
    refine and_congr ?_ ?_
    · refine forall_congr' fun u => forall_congr' fun hu => ?_
      exact exists_congr fun v => and_congr_right fun hv => nowT_like he t (beh_lt he hu) (beh_lt he hv)
    · refine forall_congr' fun u => forall_congr' fun hu => ?_
      exact exists_congr fun v => and_congr_right fun hv => nowT_like he t (beh_lt he hv) (beh_lt he hu)
/-- each member once, in order of sight -/
def seen : List Nat → List Nat → List Nat
  | [], o => o
  | x :: r, o => seen r (if o.contains x then o else o ++ [x])
theorem seen_mem : ∀ (l o : List Nat) (x : Nat), x ∈ seen l o ↔ x ∈ l ∨ x ∈ o
  | [], o, x => by simp [seen]
  | y :: r, o, x => by
    unfold seen
    rw [seen_mem r _ x]
    by_cases h : o.contains y = true
    · rw [if_pos h]
      have := List.contains_iff_mem.mp h
      constructor
      · rintro (h | h)
        · exact .inl (List.mem_cons_of_mem _ h)
        · exact .inr h
      · rintro (h | h)
        · rcases List.mem_cons.mp h with rfl | h
          · exact .inr this
          · exact .inl h
        · exact .inr h
    · rw [if_neg h, List.mem_append, List.mem_singleton, List.mem_cons]
      constructor
      · rintro (h | h | h)
        · exact .inl (.inr h)
        · exact .inr h
        · exact .inl (.inl h)
      · rintro ((h | h) | h)
        · exact .inr (.inr h)
        · exact .inl h
        · exact .inr (.inl h)
theorem seen_len : ∀ (l o : List Nat), (seen l o).length ≤ l.length + o.length
  | [], o => by simp [seen]
  | y :: r, o => by
    unfold seen
    have := seen_len r (if o.contains y then o else o ++ [y])
    split at this <;> simp at this ⊢ <;> split <;> simp_all <;> omega
def ranks (W : Wd) : List Nat := nextP W (nowT W W.n)
def due (W : Wd) : List Nat := (ranks W).map (fstAt (seen (ranks W) []))
theorem ranks_len (W : Wd) : (ranks W).length = W.n := by simp [ranks, nextP, signs]
theorem due_len (W : Wd) : (due W).length = W.n := by simp [due, ranks_len]
theorem due_like {W : Wd} (he : ∀ t ∈ W.sp, t.2.2 < W.n) {i j : Nat} (hi : i < W.n) (hj : j < W.n) : (due W).getD i 0 = (due W).getD j 0 ↔ like W (W.n + 1) i j := by
  rw [← nowT_like he (W.n + 1) hi hj]
  have at_ : ∀ s, s < W.n → ∃ r, (ranks W)[s]? = some r ∧ r ∈ ranks W ∧ (due W).getD s 0 = fstAt (seen (ranks W) []) r ∧ kat (nowT W (W.n + 1)) s = .num (r : Int) := fun s hs => by
    have hs' : s < (ranks W).length := by rw [ranks_len]; exact hs
    refine ⟨(ranks W)[s], List.getElem?_eq_getElem hs', List.getElem_mem hs', ?_, ?_⟩
    · rw [List.getD_eq_getElem?_getD, due, List.getElem?_map, List.getElem?_eq_getElem hs'] <;> rfl
    · show (numK (ranks W)).getD s _ = _
      rw [List.getD_eq_getElem?_getD, List.getElem?_map, List.getElem?_eq_getElem hs'] <;> rfl
  obtain ⟨a, _, ha, e1, e2⟩ := at_ i hi
  obtain ⟨b, _, hb, e3, e4⟩ := at_ j hj
  rw [e1, e2, e3, e4, fstAt_inj ((seen_mem _ _ _).mpr (.inl ha)) ((seen_mem _ _ _).mpr (.inl hb))]
  constructor
  · rintro rfl
    rfl
  · intro e
    have := NestedKey.num.inj e
    omega

/-! ### keys as data -/
mutual
theorem pure_lay : ∀ k : NestedKey, pureK k = true → k.data.canLay0 = true
  | .none, h => by simp [pureK] at h
  | .text _, h => by simp [pureK] at h
  | .num i, _ => by simp [NestedKey.data, PyData.canLay0]
  | .tup ks, h => by
    simp only [NestedKey.data, PyData.canLay0]
    exact pure_layAll ks h
theorem pure_layAll : ∀ ks : List NestedKey, pureKs ks = true → PyData.canLayAll0 (NestedKey.datas ks) = true
  | [], _ => by simp [NestedKey.datas, PyData.canLayAll0]
  | k :: ks, h => by
    simp only [pureKs, Bool.and_eq_true] at h
    simp only [NestedKey.datas, PyData.canLayAll0, Bool.and_eq_true]
    exact ⟨pure_lay k h.1, pure_layAll ks h.2⟩
end
theorem datas_map : ∀ ks : List NestedKey, NestedKey.datas ks = ks.map NestedKey.data
  | [] => rfl
  | k :: ks => by
    simp only [NestedKey.datas, List.map_cons]
    rw [datas_map ks]
mutual
theorem DV.dp {K : PySem.W.Frag} {H : Hp} : ∀ {k : NestedKey} {v : V}, DV K H k v → Dp K H v k.data
  | .num i, v, x => by
    obtain rfl : v = .int i := x
    exact Dp.int i
  | .tup ks, v, x => by
    obtain ⟨a, xs, rfl, h2, h3⟩ := x
    exact Dp.tup h2 (DVs.dp h3)
theorem DVs.dp {K : PySem.W.Frag} {H : Hp} : ∀ {ks : List NestedKey} {xs : List V}, DVs K H ks xs → DpAll K H xs (NestedKey.datas ks)
  | [], xs, x => by
    cases (show xs = [] from x)
    exact DpAll.nil
  | k :: ks, xs, x => by
    obtain ⟨y, r, rfl, h2, h3⟩ := x
    exact DpAll.cons (DV.dp h2) (DVs.dp h3)
end
theorem eqv_key {k j : NestedKey} (hk : pureK k = true) (hj : pureK j = true) (ha : alike k.data j.data = true) : PyData.eqv k.data j.data = true ↔ k = j := by
  constructor
  · intro e
    have := (toks_eqv k.data j.data ha).1 e
    exact (toks_inj k j [] [] hk hj ha (by rw [this])).1
  · rintro rfl
    exact eqv_refl_alike _ ha
theorem key_shaped {k : NestedKey} (hk : pureK k = true) (hd : k.depth ≤ 8) : SeqAt.shaped k.data = true := by
  unfold SeqAt.shaped
  rw [pure_lay k hk, decide_eq_true (Nat.le_trans (deepK k) (Nat.le_trans hd (by decide)))]
  rfl
theorem keys_shaped {ks : List NestedKey} (hk : ∀ k ∈ ks, pureK k = true) (hd : ∀ k ∈ ks, k.depth ≤ 8) : SeqAt.shaped (.list (NestedKey.datas ks)) = true := by
  unfold SeqAt.shaped
  have h1 : PyData.canLay0 (.list (NestedKey.datas ks)) = true := by
    simp only [PyData.canLay0]
    exact pure_layAll ks (pureKs_of hk)
  have h2 : PyData.depth (.list (NestedKey.datas ks)) ≤ 64 := by
    simp only [PyData.depth]
    have := deepKs ks
    have := depthAll_of hd
    omega
  rw [h1, decide_eq_true h2]
  rfl
end K20
namespace K20
open PySem L2 Pm
theorem DVs.nat {K : PySem.W.Frag} {H : Hp} : ∀ {l : List Nat} {xs : List V}, DVs K H (numK l) xs ↔ xs = nvs l
  | [], _ => Iff.rfl
  | n :: l, xs => by
    constructor
    · rintro ⟨y, r, rfl, h2, h3⟩
      rw [DVs.nat.mp h3, show y = nv n from h2] <;> rfl
    · rintro rfl
      exact ⟨_, _, rfl, rfl, DVs.nat.mpr rfl⟩
mutual
theorem DV.tups {K : PySem.W.Frag} {H H' : Hp} (e : Tups H H') : ∀ {k : NestedKey} {v : V}, DV K H k v → DV K H' k v
  | .num _, _, x => x
  | .tup ks, v, x => by
    obtain ⟨a, xs, h1, h2, h3⟩ := x
    exact ⟨a, xs, h1, e.seq h2, DVs.tups e h3⟩
theorem DVs.tups {K : PySem.W.Frag} {H H' : Hp} (e : Tups H H') : ∀ {ks : List NestedKey} {xs : List V}, DVs K H ks xs → DVs K H' ks xs
  | [], _, x => x
  | k :: ks, xs, x => by
    obtain ⟨y, r, h1, h2, h3⟩ := x
    exact ⟨y, r, h1, DV.tups e h2, DVs.tups e h3⟩
end
theorem seen_snoc (x : Nat) : ∀ (l o : List Nat), seen (l ++ [x]) o = if (seen l o).contains x = true then seen l o else seen l o ++ [x]
  | [], o => rfl
  | y :: l, o => by
    show seen (l ++ [x]) _ = _
    rw [seen_snoc x l]
    rfl
section
variable {P : Program} {w : World} {K : PySem.W.Frag} {mg : Str → Option Value} {base : Heap}
def spClasses (K : PySem.W.Frag) : Sp := fun vs H Q _ => ∃ (v : V) (W : Wd), vs = [v] ∧ WdAt K H W v ∧ W.n ≤ 20 ∧ W.sp.length ≤ 60 ∧ (∀ t ∈ W.sp, t.2.2 < W.n) ∧
  ∀ H' p, Same H H' → SqT K H' p (nvs (due W)) → Q (.ref p) H'
abbrev nClasses : List Str := ["_law_world_here", "_law_size", "_law_state", "_law_now", "_law_turn", "_law_signs", "_law_behind_here", "_law_order", "_law_sign", "_law_label", "_law_other"]
theorem scClasses : FnScope nClasses ["_law_world_here"] (defScope sClasses) := ⟨rfl, rfl, rfl, by decide +kernel, rfl, by decide +kernel, by decide +kernel⟩
def asgV : Stmt → Expr
  | .Assign _ e _ => e
  | _ => .Constant .none 0 ⟨0, 0, 0, 0⟩
def bodyOf : Stmt → List Stmt
  | .For _ _ b _ _ => b
  | _ => []
abbrev crow : Stmt := (bodyOf ((bodyOf ((defBody sClasses).getD 2 sConj)).getD 1 sConj)).getD 0 sConj
theorem pe_ss {X : Cx} (K : PySem.W.Frag) {a : Expr} {ta : TE} {p p2 q pos : Pos} (hk : X.K = K) (hc : X.calm = true) (hu : X.A.units + 64 < cLine) (hg : Gl X "sorted") (hm : X.mg "sorted" = none) (hg2 : Gl X "set") (hm2 : X.mg "set" = none) (ha : PE X a ta)
    (na : PySem.starEach [a] X.env = (false, PySem.eval a X.env) :: PySem.starEach [] X.env := by rfl) : PE X (.Call (.Name "sorted" p) [.Call (.Name "set" p2) [a] [] q] [] pos) (tSortSet K ta) := by
  subst hk
  exact pe_sset hc hu hg hm hg2 hm2 ha na
theorem pe_bmK {X : Cx} (K : PySem.W.Frag) {o e : Expr} {es : List Expr} {to : TE} {t : TA} {name : Str} {apos cpos : Pos} {T id : String} {r : V → List V → Hp → VK → Prop} (hk : X.K = K) (pa : PlainAttrs T) (slot : Slot T name id) (hty : typeOf (.builtin id) = pure (.type "method_descriptor")) (hm : MtR X id r) (ho : PE X o to) (ha : PA X (e :: es) t)
    (hbase : attributeBase o name X.env (eval o X.env) = eval o X.env := by rfl)
    (hfew : ((backTo cpos (starEach (e :: es) X.env)).all (fun x => !x.1) && (backToKw cpos (keywordEach [] X.env)).all (fun x => x.1.isSome)
      && decide ((e :: es).length + ([] : List Keyword).length + (if ([] : List Keyword).isEmpty then 0 else 1) < 30)) = true := by rfl)
    (hline : (apos.endLine == cpos.line) = true := by rfl) (hs : starEach (e :: es) X.env = (false, eval e X.env) :: starEach es X.env := by rfl) (hplain : (backTo cpos (starEach es X.env)).any (·.1) = false := by rfl) :
    PE X (.Call (.Attribute o name apos) (e :: es) [] cpos) (tBM K T r to t) := by
  subst hk
  exact pe_bm pa slot hty hm ho ha hbase hfew hline hs hplain
theorem _root_.L2.Room.units1 {k : Nat} {A : Around} (r : Room k A) : A.units + 65 < cLine := by have := r.un; omega
theorem ok_classes {f fB : Addr} {fd fdB : FuncData} (F : Fun K "_law_classes" "_law_classes" sClasses f fd) (B : Blt mg)
    (GB : FnOk P w K mg base CX0 1 fB fdB ["_law_world_here", "_law_state", "_law_label"] (spBeh K)) (mB : mg "_law_behind" = some (.ref fB)) (kB : PySem.W.keepIn K (.ref fB) = true) (bB : Binds K fdB ["_law_world_here", "_law_state", "_law_label"] []) :
    FnOk P w K mg base CX0 2 f fd ["_law_world_here"] (spClasses K) := by
  refine F.ok scClasses (fun vs H Q E h => ?_) (fun cdv A outer s H vs Q E hr h => ?_)
  · obtain ⟨v, W, rfl, _⟩ := h
    rfl
  obtain ⟨v, W, rfl, hW, hWn, hWs, hWe, q⟩ := h
  refine ⟨_, pss_cons (ps_set (i := 1) scClasses.nd rfl (.inl rfl) (pe_callB call_ln (by rfl) B.len PySem.boot_len (pa_cons (pe_ix ix_tup (pv 0) pe_int (fun _ _ => rfl)) pa_nil)))
    (Evl.pss_cut (ps_set (i := 3) scClasses.nd rfl (.inr rfl) (pe_lc (own := [("_law_state", 2)]) (g := gName 2) (tt := tYes) rfl scClasses.nd (pi_range1 (by rfl) B.range (pa_cons (pv 1) pa_nil))
        (blkOk_by (own := [("_law_state", 2)]) (N := nClasses) (sc := defScope sClasses) (by decide +kernel)) (fun _ _ _ _ _ => pg_name (i := 2) scClasses.nd rfl (.inl rfl)) (fun _ _ _ _ _ => pts_nil) (fun _ _ _ _ _ => (pe_callTy (r := rTup K) call_tup (by rfl) B.tuple (by decide +kernel) (pa_cons (pe_ix (r := rIxL K) ix_list (pe_ix (r := rIxT K) ix_tup (pv 0) pe_int (fun _ _ => rfl)) (pv 2) (fun _ _ => rfl)) pa_nil)))))
    (Evl.pss_cut (ps_for PassesOwn.never rfl (pi_range1 (by rfl) B.range (pa_cons (pe_op op_add (pv 1) pe_int) pa_nil)) (pg_name (i := 4) scClasses.nd rfl (.inl rfl))
      (pss_cons (ps_set (i := 5) scClasses.nd rfl (.inl rfl) (pe_lst pa_nil))
    (Evl.pss_cut (ps_for PassesOwn.never rfl (pi_range1 (by rfl) B.range (pa_cons (pv 1) pa_nil)) (pg_name (i := 2) scClasses.nd rfl (.inr rfl))
      (Evl.pss_cut (ps_setLc (i := 6) (own := [("_law_label", 9)]) (g := gName 9) (tt := tYes) rfl scClasses.nd rfl rfl (sw_true rfl rfl rfl (by decide +kernel)) (pi_range1 (by rfl) B.range (pa_cons pe_int pa_nil))
        (blkOk_by (own := [("_law_label", 9)]) (N := nClasses) (sc := defScope sClasses) (by decide +kernel)) (fun _ _ _ _ _ => pg_name (i := 9) scClasses.nd rfl (.inl rfl)) (fun _ _ _ _ _ => pts_nil) (fun _ _ _ _ _ => (pe_callTy (r := rTup K) call_tup (by rfl) B.tuple (by decide +kernel) (pa_cons (pe_ss K rfl rfl hr.units (by rfl) B.sorted (by rfl) B.set (pe_lc (own := [("_law_other", 10)]) (g := gName 10) (wi := iList K _) (tt := tYes) rfl scClasses.nd (pi_list (pe_call GB hr rfl mB kB bB .nil pass0 (pa_cons (pv 0) (pa_cons (pv 2) (pa_cons (pv 9) pa_nil)))))
        (blkOk_by (own := [("_law_other", 10)]) (N := nClasses) (sc := relS (lcSc (asgV crow)) (defScope sClasses)) (by decide +kernel)) (fun _ _ _ _ _ => pg_name (i := 10) scClasses.nd rfl (.inl rfl)) (fun _ _ _ _ _ => pts_nil) (fun _ _ _ _ _ => (pe_ix (r := rIxL K) ix_list (pv 3) (pv 10) (fun _ _ => rfl))))) pa_nil))))
    (pss_one (ps_expr (pe_bm PySem.F.plainAttrs_list PySem.F.slot_list_append PySem.F.type_list_append mt_append (pv 5) (pa_cons (pe_tup (pa_cons (pe_ix ix_list (pv 3) (pv 2) (fun _ _ => rfl)) (pa_cons (pe_callTy call_tup (by rfl) B.tuple (by decide +kernel) (pa_cons (pv 6) pa_nil)) pa_nil))) pa_nil))))))
    (pss_cons (ps_set (i := 7) scClasses.nd rfl (.inr rfl) (pe_ss K rfl rfl hr.units (by rfl) B.sorted (by rfl) B.set (pv 5)))
    (pss_one (ps_set (i := 3) scClasses.nd rfl (.inr rfl) (pe_lc (own := [("_law_sign", 8)]) (g := gName 8) (tt := tYes) rfl scClasses.nd (pi_list (pv 5))
        (blkOk_by (own := [("_law_sign", 8)]) (N := nClasses) (sc := defScope sClasses) (by decide +kernel)) (fun _ _ _ _ _ => pg_name (i := 8) scClasses.nd rfl (.inl rfl)) (fun _ _ _ _ _ => pts_nil) (fun _ _ _ _ _ => (pe_bmK K (r := rIndexD K) rfl PySem.F.plainAttrs_list PySem.F.slot_list_index PySem.F.type_list_index (mt_indexD (Room.units1 hr)) (pv 7) (pa_cons (pv 8) pa_nil))))))))))
    (pss_cons (ps_set (i := 7) scClasses.nd rfl (.inr rfl) (pe_lst pa_nil))
    (Evl.pss_cut (ps_for PassesOwn.never rfl (pi_list (pv 3)) (pg_name (i := 8) scClasses.nd rfl (.inl rfl))
      (pss_one (ps_if (pt_cmpR op_notIn_seq (pv 8) (pv 7) (by rfl)) (pss_one (ps_expr (pe_bm PySem.F.plainAttrs_list PySem.F.slot_list_append PySem.F.type_list_append mt_append (pv 7) (pa_cons (pv 8) pa_nil)))) pss_nil)))
    (pss_one (ps_ret (pe_callTy call_tup (by rfl) B.tuple (by decide +kernel) (pa_cons (pe_lc (own := [("_law_sign", 8)]) (g := gName 8) (tt := tYes) rfl scClasses.nd (pi_list (pv 3))
        (blkOk_by (own := [("_law_sign", 8)]) (N := nClasses) (sc := defScope sClasses) (by decide +kernel)) (fun _ _ _ _ _ => pg_name (i := 8) scClasses.nd rfl (.inl rfl)) (fun _ _ _ _ _ => pts_nil) (fun _ _ _ _ _ => (pe_bmK K (r := rIndex K) rfl PySem.F.plainAttrs_list PySem.F.slot_list_index PySem.F.type_list_index mt_index (pv 7) (pa_cons (pv 8) pa_nil)))) pa_nil)))))))), ?_⟩
  -- §walk
  obtain ⟨aw, bw, cw, xs, ys, hv, hA, hB, hX, hC, hY⟩ := id hW
  have hxl : xs.length = W.n := Each.length hX
  have stAt : ∀ i, i < W.n → ∃ x l, xs[i]? = some x ∧ W.st[i]? = some l ∧ LstAt K H l x := fun i hi => by
    have h := List.getElem?_eq_getElem (l := W.st) (i := i) hi
    obtain ⟨x, h1, h2⟩ := hX.at h
    exact ⟨x, _, h1, h, h2⟩
  refine ⟨_, rfl, aw, _, 0, _, hv, rfl, hA, atI_nat (j := 0) rfl, bw, xs, rfl, .inl hB, ?_⟩
  rw [hxl]
  -- now
  refine ⟨fun σ' H' => ∃ (nl : Addr) (zs : List V), σ' = [some v, some (nv W.n), none, some (.ref nl), none, none, none, none, none, none, none] ∧ Same H H' ∧ H' nl = some (.lst zs) ∧ DVs K H' (nowT W 0) zs, ?_, ?_⟩
  · refine ⟨_, rfl, (W.n : Int), rfl, by omega, by omega, fun D hD => lc_range (lo := 0) (n := ((W.n : Int)).toNat) (fun i H' => Same H H' ∧ ∃ acc, H' D = some (.lst acc) ∧ DVs K H' ((now0 W).take i) acc) ⟨same_new hD, [], upd_same, rfl⟩ ?_ ?_⟩
    · rintro i H1 hi ⟨s1, acc, hacc, hd⟩
      have hin : i < W.n := by omega
      rw [Int.zero_add]
      obtain ⟨y, l, hy, hl, pl, rfl, hpl⟩ := stAt i hin
      refine ⟨rfl, v, rfl, aw, _, 0, _, hv, rfl, s1.seqT hA, atI_nat (j := 0) rfl, _, rfl, bw, xs, _, _, rfl, rfl, s1.seq hB, atI_nat hy, pl, nvs l, rfl, .inl ⟨s1.seq hpl, fun t ht => ?_⟩⟩
      have s2 := same_new (o := .tup (nvs l)) ht
      have hD2 := s2 _ _ hacc
      refine ⟨acc, hD2, ?_, (s1.trans s2).mut hD, _, upd_same, ?_⟩
      · rw [hd.length, List.length_take]
        exact Nat.lt_of_le_of_lt (Nat.min_le_left _ _) (small1000 (by omega))
      · have hn : (now0 W)[i]? = some (.tup (numK l)) := by
          unfold now0
          rw [List.getElem?_map, hl] <;> rfl
        rw [take_snoc hn]
        exact DVs.snoc (DVs.tups ((Tups.of s2).trans (Tups.upd hD2)) hd) ⟨t, nvs l, rfl, (Tups.upd hD2).seq (SqT.of upd_same), DVs.nat.mpr rfl⟩
    · rintro H1 ⟨s1, acc, hacc, hd⟩
      rw [show ((W.n : Int)).toNat = (now0 W).length by rw [now0_len]; omega, List.take_length] at hd
      exact ⟨D, acc, rfl, s1, hacc, hd⟩
  rintro _ H0 ⟨nl, zs, rfl, s0, hnl, hzs⟩
  -- the turns
  refine ⟨fun σ' H' => ∃ (nl : Addr) (zs : List V) (z2 z4 z5 z6 z7 : Option V), σ' = [some v, some (nv W.n), z2, some (.ref nl), z4, z5, z6, z7, none, none, none] ∧ Same H H' ∧ H' nl = some (.lst zs) ∧ DVs K H' (nowT W (W.n + 1)) zs, ?_, ?_⟩
  · refine ⟨_, rfl, _, _, rfl, rfl, _, rfl, by omega, by omega, for_range (lo := 0) (n := ((W.n : Int) + 1).toNat) (fun t σ' H' => ∃ (nl : Addr) (zs : List V) (z2 z4 z5 z6 z7 : Option V), σ' = [some v, some (nv W.n), z2, some (.ref nl), z4, z5, z6, z7, none, none, none] ∧ Same H H' ∧ H' nl = some (.lst zs) ∧ DVs K H' (nowT W t) zs)
      ⟨nl, zs, none, none, none, none, none, rfl, s0, hnl, hzs⟩ ?_ ?_⟩
    · clear hnl hzs s0
      rintro t σ' HT _ ⟨nl, zs, z2, z4, z5, z6, z7, rfl, s0, hnl, hzs⟩
      have hok := nowT_ok W t
      have hlen : (nowT W t).length = W.n := nowT_len t
      generalize hks : nowT W t = ks at hok hlen hzs
      have hzl : zs.length = W.n := by rw [hzs.length, hlen]
      refine ⟨Nat.zero_le _, fun sl hsl => ?_⟩
      have s1 := same_new (o := .lst []) hsl
      -- the signs
      refine ⟨fun σ' H' => ∃ (z2 z6 : Option V) (acc : List V), σ' = [some v, some (nv W.n), z2, some (.ref nl), some (.int (0 + (t : Int))), some (.ref sl), z6, z7, none, none, none] ∧ Same HT H' ∧ H' sl = some (.lst acc) ∧ DVs K H' (signs W ks) acc, ?_, ?_⟩
      · refine ⟨_, rfl, (W.n : Int), rfl, by omega, by omega, for_range (lo := 0) (n := ((W.n : Int)).toNat) (fun i σ' H' => ∃ (z2 z6 : Option V) (acc : List V), σ' = [some v, some (nv W.n), z2, some (.ref nl), some (.int (0 + (t : Int))), some (.ref sl), z6, z7, none, none, none] ∧ Same HT H' ∧ H' sl = some (.lst acc) ∧ DVs K H' ((signs W ks).take i) acc)
          ⟨z2, z6, [], rfl, s1, upd_same, rfl⟩ ?_ ?_⟩
        · rintro i σ' H1 hi ⟨z2, z6, acc, rfl, s2, hacc, hd⟩
          have hin : i < W.n := by omega
          rw [Int.zero_add i]
          have hal : acc.length ≤ W.n := by
            rw [hd.length, List.length_take, signs_len]
            exact Nat.min_le_right _ _
          -- behind
          refine ⟨fun σ' H' => ∃ (bl : Addr) (ws : List V), σ' = [some v, some (nv W.n), some (nv i), some (.ref nl), some (.int (0 + (t : Int))), some (.ref sl), some (.ref bl), z7, none, none, none] ∧ Same H1 H' ∧ H' bl = some (.lst ws) ∧ DVs K H' ((List.range 3).map (tri W ks i)) ws, ?_, ?_⟩
          · refine ⟨3, rfl, by decide, by decide, fun D hD => lc_range (lo := 0) (n := (3 : Int).toNat) (fun j H' => Same H1 H' ∧ ∃ acc, H' D = some (.lst acc) ∧ DVs K H' (((List.range 3).map (tri W ks i)).take j) acc) ⟨same_new hD, [], upd_same, rfl⟩ ?_ ?_⟩
            · rintro j H2 hj ⟨s3, acc2, hacc2, hd2⟩
              have hj3 : j < 3 := hj
              rw [Int.zero_add j]
              have s03 := s0.trans (s2.trans s3)
              have hbl := beh_len W i j
              refine ⟨rfl, _, rfl, _, rfl, _, rfl, v, i, j, W, rfl, WdAt.same s03 hW, hWs, fun H3 b s4 hb => ⟨b, rfl, ⟨_, SqL.of hb⟩, fun D2 hD2 => lc_list (K := K) (a := b) (xs := nvs (W.beh i j)) (fun m H' => Same H3 H' ∧ ∃ acc, H' D2 = some (.lst acc) ∧ DVs K H' (((W.beh i j).map (kat ks)).take m) acc) ⟨same_new hD2, [], upd_same, rfl⟩ (fun m H' _ h => SqL.of (h.1 _ _ hb)) ?_ ?_⟩⟩
              · rintro m x H4 hm ⟨s5, acc3, hacc3, hd3⟩
                obtain ⟨u, hu, rfl⟩ := nvs_get hm
                have hun : u < ks.length := by rw [hlen]; exact beh_lt hWe (List.mem_of_getElem? hu)
                have sT4 : Same HT H4 := ((s2.trans s3).trans s4).trans s5
                obtain ⟨y, hy, hdy⟩ := (DVs.same sT4 hzs).get (List.getElem?_eq_getElem hun)
                refine ⟨rfl, _, rfl, _, rfl, nl, zs, _, y, rfl, rfl, SqL.of (sT4 _ _ hnl), atI_nat hy, acc3, hacc3, ?_, s5.mut hD2, _, upd_same, ?_⟩
                · rw [hd3.length, List.length_take, List.length_map]
                  exact Nat.lt_of_le_of_lt (Nat.min_le_right _ _) (small1000 (by omega))
                · have hk : ((W.beh i j).map (kat ks))[m]? = some ks[u] := by
                    rw [List.getElem?_map, hu]
                    show some (kat ks u) = _
                    rw [kat, List.getD_eq_getElem?_getD, List.getElem?_eq_getElem hun] <;> rfl
                  rw [take_snoc hk]
                  exact DVs.snoc (DVs.tups (Tups.upd hacc3) hd3) (DV.tups (Tups.upd hacc3) hdy)
              · rintro H4 ⟨s5, acc3, hacc3, hd3⟩
                rw [List.length_map, show (W.beh i j).length = ((W.beh i j).map (kat ks)).length from (List.length_map ..).symm, List.take_length] at hd3
                refine ⟨D2, acc3, (W.beh i j).map (kat ks), rfl, SqL.of hacc3, hd3, by rw [List.length_map]; omega, (hok.sub (behK_mem hWe hlen)).sortd, fun p ys hp hdp hpl => ?_⟩
                have s6 := same_new (o := .lst ys) hp
                refine ⟨p, ys, rfl, .inl ⟨SqL.of upd_same, fun l hl => ?_⟩⟩
                have s7 := s6.and_new (o := .tup ys) hl
                have s27 := (s4.trans s5).trans s7
                have hD3 := s27 _ _ hacc2
                refine ⟨acc2, hD3, ?_, (s3.trans s27).mut hD, _, upd_same, ?_⟩
                · rw [hd2.length, List.length_take]
                  exact Nat.lt_of_le_of_lt (Nat.min_le_left _ _) (small1000 (by omega))
                · have hk : ((List.range 3).map (tri W ks i))[j]? = some (tri W ks i j) := by
                    rw [List.getElem?_map, List.getElem?_range hj3] <;> rfl
                  rw [take_snoc hk]
                  exact DVs.snoc (DVs.tups ((Tups.of s27).trans (Tups.upd hD3)) hd2) ⟨l, ys, rfl, (Tups.upd hD3).seq (SqT.of upd_same), DVs.tups ((Tups.of s7).trans (Tups.upd hD3)) hdp⟩
            · rintro H2 ⟨s3, acc2, hacc2, hd2⟩
              exact ⟨D, acc2, rfl, s3, hacc2, hd2⟩
          rintro _ H2 ⟨bl, ws, rfl, s3, hbl2, hws⟩
          have hin2 : i < ks.length := by rw [hlen]; exact hin
          have sT2 : Same HT H2 := s2.trans s3
          obtain ⟨y, hy, hdy⟩ := (DVs.same sT2 hzs).get (List.getElem?_eq_getElem hin2)
          have hsl2 := s3 _ _ hacc
          refine ⟨_, rfl, .inl ⟨rfl, _, SqL.of hsl2⟩, _, rfl, _, rfl, nl, zs, _, y, rfl, rfl, SqL.of (sT2 _ _ hnl), atI_nat hy, _, rfl, bl, ws, rfl, .inl ⟨SqL.of hbl2, fun tl htl => ⟨by show 2 ≤ sizeLine; decide, fun tp htp => ?_⟩⟩⟩
          have s4 := same_new (o := .tup ws) htl
          have s5 := s4.and_new (o := .tup [y, .ref tl]) htp
          have hsl5 := s5 _ _ hsl2
          refine ⟨sl, acc, _, rfl, rfl, hsl5, small1000 (by omega), ?_⟩
          refine ⟨_, _, _, rfl, (sT2.trans s5).mut hsl, upd_same, ?_⟩
          have hk : (signs W ks)[i]? = some (signOf W ks i) := by
            unfold signs
            rw [List.getElem?_map, List.getElem?_range hin] <;> rfl
          have tu := (Tups.of s5).trans (Tups.upd (ys := acc ++ [V.ref tp]) hsl5)
          rw [take_snoc hk]
          refine DVs.snoc (DVs.tups ((Tups.of s3).trans tu) hd) ⟨tp, [y, .ref tl], rfl, (Tups.upd hsl5).seq (SqT.of upd_same), y, _, rfl, ?_, .ref tl, [], rfl, ⟨tl, ws, rfl, ?_, DVs.tups tu hws⟩, rfl⟩
          · rw [show kat ks i = ks[i] by rw [kat, List.getD_eq_getElem?_getD, List.getElem?_eq_getElem hin2] <;> rfl]
            exact DV.tups tu hdy
          · exact (Tups.upd hsl5).seq ((same_new htp).seqT (SqT.of upd_same))
        · rintro σ' H1 ⟨z2, z6, acc, rfl, s2, hacc, hd⟩
          rw [show ((W.n : Int)).toNat = (signs W ks).length by rw [signs_len]; omega, List.take_length] at hd
          exact ⟨z2, z6, acc, rfl, s2, hacc, hd⟩
      clear hsl s1
      rintro _ H1 ⟨z2, z6, acc, rfl, s1, hacc, hd⟩
      have hal : acc.length = W.n := by rw [hd.length, signs_len]
      -- the order
      refine ⟨_, rfl, sl, acc, signs W ks, rfl, SqL.of hacc, hd, by rw [signs_len]; omega, signs_sortd hWe hlen hok, fun ol os hol hdo hosl => ?_⟩
      have s2 := same_new (o := .lst os) hol
      obtain ⟨hs1, hs2, hs3⟩ := signs_fit hWe hlen hok
      refine ⟨_, rfl, sl, rfl, ⟨acc, SqL.of (s2 _ _ hacc)⟩, fun D hD => lc_list (K := K) (a := sl) (xs := acc) (fun i H' => Same (upd H1 ol (.lst os)) H' ∧ H' D = some (.lst (nvs ((nextP W ks).take i)))) ⟨same_new hD, upd_same⟩ (fun i H' _ h => SqL.of (h.1 _ _ (s2 _ _ hacc))) ?_ ?_⟩
      · rintro i x H2 hi ⟨s3, hd2⟩
        have hin : i < W.n := by have := at_len hi; omega
        have hk : (signs W ks)[i]? = some (signOf W ks i) := by
          unfold signs
          rw [List.getElem?_map, List.getElem?_range hin] <;> rfl
        have hmem := sign_mem (ks := ks) hin
        have hmc : signOf W ks i ∈ canon (signs W ks) := mem_canon.mpr hmem
        have s12 := s2.trans s3
        obtain ⟨y, hy, hdy⟩ := (DVs.same s12 hd).get hk
        obtain rfl : x = y := by rw [hi] at hy; exact Option.some.inj hy
        have ho2 := s3 _ _ (upd_same (H := H1) (a := ol) (o := .lst os))
        have hcp : ∀ k ∈ canon (signs W ks), pureK k = true := fun k hk => (hs2 k (mem_canon.mp hk)).1
        have hcd : ∀ k ∈ canon (signs W ks), k.depth ≤ 8 := fun k hk => hs3 k (mem_canon.mp hk)
        refine ⟨rfl, _, rfl, .inl ⟨rfl, _, SqL.of ho2⟩, _, rfl, ol, x, (signOf W ks i).data, NestedKey.datas (canon (signs W ks)), fstAt (canon (signs W ks)) (signOf W ks i), (signOf W ks i).data, rfl, rfl, .lst (SqL.of ho2) (DVs.dp (DVs.same s12 hdo)), DV.dp hdy, keys_shaped hcp hcd, key_shaped (hs2 _ hmem).1 (hs3 _ hmem), ?_, ?_, ?_, ?_⟩
        · rw [datas_map, List.getElem?_map, fstAt_at hmc] <;> rfl
        · exact (eqv_key (hs2 _ hmem).1 (hs2 _ hmem).1 ((hs2 _ hmem).2 _ hmem)).mpr rfl
        · intro m z' hm hz
          rw [datas_map, List.getElem?_map] at hz
          obtain ⟨k', hk', rfl⟩ := Option.map_eq_some_iff.mp hz
          have hm' := mem_canon.mp (List.mem_of_getElem? hk')
          have hne := fstAt_min hm hk'
          cases c : PyData.eqv k'.data (signOf W ks i).data with
          | false => rfl
          | true => exact absurd ((eqv_key (hs2 _ hm').1 (hs2 _ hmem).1 ((hs2 _ hm').2 _ hmem)).mp c) hne
        · refine ⟨_, hd2, ?_, s3.mut hD, ?_⟩
          · rw [List.length_map, List.length_take]
            exact Nat.lt_of_le_of_lt (Nat.min_le_left _ _) (small1000 (by omega))
          · have hn : (nextP W ks)[i]? = some (fstAt (canon (signs W ks)) (signOf W ks i)) := by
              unfold nextP
              rw [List.getElem?_map, hk] <;> rfl
            rw [upd_same, take_snoc hn]
            simp [nvs]
      · rintro H2 ⟨s3, hd2⟩
        rw [hal, show W.n = (nextP W ks).length by simp [nextP, signs], List.take_length] at hd2
        refine ⟨D, nvs (nextP W ks), z2, _, _, _, _, rfl, (s0.trans s1).trans (s2.trans s3), hd2, ?_⟩
        show DVs K H2 (numK (nextP W (nowT W t))) _
        rw [hks]
        exact DVs.nat.mpr rfl
    · rintro σ' H1 ⟨nl, zs, z2, z4, z5, z6, z7, rfl, s1, hnl1, hzs1⟩
      rw [show ((W.n : Int) + 1).toNat = W.n + 1 by omega] at hzs1
      exact ⟨nl, zs, z2, z4, z5, z6, z7, rfl, s1, hnl1, hzs1⟩
  clear hnl hzs s0
  rintro _ H0 ⟨nl, zs, z2, z4, z5, z6, z7, rfl, s0, hnl, hzs⟩
  obtain rfl : zs = nvs (ranks W) := DVs.nat.mp hzs
  have hrl := ranks_len W
  clear hzs
  -- each once
  refine ⟨Nat.zero_le _, fun ol hol => ?_⟩
  have s1 : Same H (upd H0 ol (.lst [])) := s0.and_new hol
  refine ⟨fun σ' H' => ∃ (ol : Addr) (z8 : Option V), σ' = [some v, some (nv W.n), z2, some (.ref nl), z4, z5, z6, some (.ref ol), z8, none, none] ∧ Same H0 H' ∧ H' ol = some (.lst (nvs (seen (ranks W) []))), ?_, ?_⟩
  · refine ⟨_, rfl, nl, rfl, ⟨_, SqL.of ((same_new hol) _ _ hnl)⟩, for_list (K := K) (a := nl) (xs := nvs (ranks W)) (fun i σ' H' => ∃ (z8 : Option V), σ' = [some v, some (nv W.n), z2, some (.ref nl), z4, z5, z6, some (.ref ol), z8, none, none] ∧ Same H0 H' ∧ H' ol = some (.lst (nvs (seen ((ranks W).take i) []))))
      ⟨none, rfl, same_new hol, upd_same⟩ (fun i σ' H' _ ⟨_, _, s, _⟩ => SqL.of (s _ _ hnl)) ?_ ?_⟩
    · rintro i x σ' H1 hi ⟨z8, rfl, s2, ho⟩
      obtain ⟨r, hr2, rfl⟩ := nvs_get hi
      have hsl := seen_len ((ranks W).take i) []
      have htl := (List.take_sublist i (ranks W)).length_le
      refine ⟨_, rfl, _, rfl, ol, _, rfl, .inl (SqL.of ho), rfl, flat_nvs _, _, rfl, ?_⟩
      show (if (if true = true then !inV (nv r) (nvs (seen ((ranks W).take i) [])) else inV (nv r) (nvs (seen ((ranks W).take i) []))) = true then _ else _)
      rw [if_pos rfl, inV_nvs]
      cases c : (seen ((ranks W).take i) []).contains r with
      | true =>
        refine iteF ⟨_, rfl, s2, ?_⟩
        rw [take_snoc hr2, seen_snoc, if_pos c]
        exact ho
      | false =>
        refine iteT ⟨_, rfl, .inl ⟨rfl, _, SqL.of ho⟩, _, rfl, ol, _, _, rfl, rfl, ho, ?_, ?_⟩
        · rw [List.length_map]
          exact small1000 (by simp at hsl; omega)
        · refine ⟨_, rfl, s2.mut hol, ?_⟩
          rw [upd_same, take_snoc hr2, seen_snoc, if_neg (by rw [c]; exact Bool.false_ne_true)]
          simp [nvs]
    · rintro σ' H1 ⟨z8, rfl, s2, ho⟩
      rw [List.length_map, List.take_length] at ho
      exact ⟨ol, z8, rfl, s2, ho⟩
  rintro _ H1 ⟨ol, z8, rfl, s2, ho⟩
  refine ⟨_, rfl, nl, rfl, ⟨_, SqL.of (s2 _ _ hnl)⟩, fun D hD => lc_list (K := K) (a := nl) (xs := nvs (ranks W)) (fun i H' => Same H1 H' ∧ H' D = some (.lst (nvs ((due W).take i)))) ⟨same_new hD, upd_same⟩ (fun i H' _ h => SqL.of (h.1 _ _ (s2 _ _ hnl))) ?_ ?_⟩
  · rintro i x H2 hi ⟨s3, hd⟩
    obtain ⟨r, hr2, rfl⟩ := nvs_get hi
    have hmem : r ∈ seen (ranks W) [] := (seen_mem _ _ _).mpr (.inl (List.mem_of_getElem? hr2))
    have ho2 := s3 _ _ ho
    refine ⟨rfl, _, rfl, .inl ⟨rfl, _, SqL.of ho2⟩, _, rfl, ol, _, nv r, fstAt (seen (ranks W) []) r, nv r, rfl, rfl, SqL.of ho2, rfl, flat_nvs _, ?_, by simp [eqV], ?_, ?_⟩
    · rw [List.getElem?_map, fstAt_at hmem] <;> rfl
    · intro m z' hm hz
      obtain ⟨r', hr', rfl⟩ := nvs_get hz
      have := fstAt_min hm hr'
      simp [eqV]
      omega
    · refine ⟨_, hd, ?_, s3.mut hD, ?_⟩
      · rw [List.length_map, List.length_take]
        exact Nat.lt_of_le_of_lt (Nat.min_le_right _ _) (small1000 (by rw [due_len]; omega))
      · have hdu : (due W)[i]? = some (fstAt (seen (ranks W) []) r) := by
          unfold due
          rw [List.getElem?_map, hr2] <;> rfl
        rw [upd_same, take_snoc hdu]
        simp [nvs]
  · rintro H2 ⟨s3, hd⟩
    rw [List.length_map, hrl, show W.n = (due W).length from (due_len W).symm, List.take_length] at hd
    refine ⟨D, _, rfl, .inl ⟨SqL.of hd, fun p hp => ?_⟩⟩
    exact q _ p (((s0.trans s2).trans s3).and_new hp) (SqT.of upd_same)
end
end K20
namespace K20
open PySem L2 Pm
section
variable {P : Program} {w : World} {K : PySem.W.Frag} {mg : Str → Option Value} {base : Heap}
theorem snoc_int {H : Hp} {p : Addr} {fs : List Int} (x : Int) : upd H p (.lst (fs.map V.int ++ [.int x])) p = some (.lst ((fs ++ [x]).map V.int)) := by
  rw [upd_same, List.map_append] <;> rfl
/-! ### _law_draws: a new list of numbers -/
def spDraws (K : PySem.W.Frag) : Sp := fun vs H Q _ => ∃ (a : Addr) (ns : List Int) (n : Nat), vs = [.ref a, nv n] ∧ SqL K H a (ns.map V.int) ∧ ns.length ≤ 1000 ∧ n ≤ 900 ∧
  ∀ H' d (ds : List Int), Same H H' → H d = none → H' d = some (.lst (ds.map V.int)) → Q (.ref d) H'
abbrev nDraws : List Str := ["_law_script", "_law_count", "_law_cells", "_law_found", "_law_mixed", "_law_k", "_law_j", "_law_cell", "_law_again"]
theorem scDraws : FnScope nDraws ["_law_script", "_law_count"] (defScope sDraws) := ⟨rfl, rfl, rfl, by decide +kernel, rfl, by decide +kernel, by decide +kernel⟩
theorem ok_draws {f : Addr} {fd : FuncData} {k : Nat} (F : Fun K "_law_draws" "_law_draws" sDraws f fd) (B : Blt mg) : FnOk P w K mg base CX0 (k + 1) f fd ["_law_script", "_law_count"] (spDraws K) := by
  refine F.ok scDraws (fun vs H Q E h => ?_) (fun cdv A outer s H vs Q E hr h => ?_)
  · obtain ⟨a, ns, n, rfl, _⟩ := h
    rfl
  obtain ⟨a, ns, n, rfl, ha, hz, hn, q⟩ := h
  refine ⟨_, pss_cons (ps_set (i := 2) scDraws.nd rfl (.inl rfl) (pe_callTy call_lst (by rfl) B.list (by decide +kernel) (pa_cons (pv 0) pa_nil)))     (Evl.pss_cut (ps_if (pt_cmpR op_eq (pe_callB call_ln (by rfl) B.len PySem.boot_len (pa_cons (pv 2) pa_nil)) pe_int (nomark _)) (pss_one (ps_set (i := 2) scDraws.nd rfl (.inl rfl) (pe_lst (pa_cons pe_int pa_nil)))) pss_nil)     (pss_cons (ps_set (i := 3) scDraws.nd rfl (.inl rfl) (pe_lst pa_nil))     (pss_cons (ps_set (i := 4) scDraws.nd rfl (.inl rfl) pe_int)     (Evl.pss_cut (ps_for PassesOwn.never rfl (pi_range1 (by rfl) B.range (pa_cons (pv 1) pa_nil)) (pg_name (i := 5) scDraws.nd rfl (.inl rfl))       (pss_cons (ps_set (i := 6) scDraws.nd rfl (.inl rfl) (pe_op op_mod (pv 5) (pe_callB call_ln (by rfl) B.len PySem.boot_len (pa_cons (pv 2) pa_nil))))     (pss_cons (ps_set (i := 7) scDraws.nd rfl (.inl rfl) (pe_ix ix_list (pv 2) (pv 6) (fun _ _ => rfl)))     (pss_cons (ps_set (i := 4) scDraws.nd rfl (.inl rfl) (pe_op op_mod (pe_callTy call_int1 (by rfl) B.int (by decide +kernel) (pa_cons (pe_op op_add (pe_op op_add (pe_op op_add (pe_op op_mul (pv 4) pe_int) (pe_op op_mul (pe_op op_mod (pe_callTy call_int1 (by rfl) B.int (by decide +kernel) (pa_cons (pv 7) pa_nil)) pe_int) pe_int)) (pe_op op_mul (pv 5) pe_int)) pe_int) pa_nil)) pe_int))     (pss_cons (ps_set (i := 8) scDraws.nd rfl (.inl rfl) (pe_op op_mod (pe_callTy call_int1 (by rfl) B.int (by decide +kernel) (pa_cons (pe_op op_add (pe_op op_add (pe_op op_mul (pv 4) (pv 4)) (pe_op op_mul pe_int (pv 4))) (pv 5)) pa_nil)) pe_int))     (pss_one (ps_if (pt_cmpR op_ge (pv 7) (pe_op op_pow pe_int pe_int) (nomark _)) (pss_cons (ps_expr (pe_bm PySem.F.plainAttrs_list PySem.F.slot_list_append PySem.F.type_list_append mt_append (pv 3) (pa_cons (pe_op op_mod (pe_callTy call_int1 (by rfl) B.int (by decide +kernel) (pa_cons (pv 7) pa_nil)) pe_int) pa_nil)))     (pss_one (ps_asg (pe_op op_fdiv (pv 7) pe_int) (pg_sub (pv 2) (pv 6) set_list)))) (pss_one (ps_expr (pe_bm PySem.F.plainAttrs_list PySem.F.slot_list_append PySem.F.type_list_append mt_append (pv 3) (pa_cons (pe_op op_mod (pe_callTy call_int1 (by rfl) B.int (by decide +kernel) (pa_cons (pv 8) pa_nil)) pe_int) pa_nil)))))))))))     (pss_cons (ps_expr (pe_bm0 PySem.F.plainAttrs_list PySem.F.slot_list_reverse PySem.F.type_list_reverse mt_reverse (pv 3)))     (pss_one (ps_ret (pv 3)))))))), ?_⟩
  refine ⟨_, rfl, a, _, rfl, .inl ha, fun c0 hc0 => ?_⟩
  refine ⟨fun σ' H' => ∃ (c : Addr) (cs : List Int), σ' = [some (.ref a), some (nv n), some (.ref c), none, none, none, none, none, none] ∧ Same H H' ∧ H c = none ∧ H' c = some (.lst (cs.map V.int)) ∧ 0 < cs.length ∧ cs.length ≤ 1000, ?_, ?_⟩
  · refine ⟨_, rfl, c0, _, rfl, .inl (SqL.of upd_same), rfl, _, rfl, ite2 (fun c => ?_) (fun c => ?_)⟩
    · refine ⟨by show 1 ≤ sizeLine; decide, fun c2 hc2 => ⟨c2, [7], rfl, (same_new hc0).and_new hc2, ?_, upd_same, by simp, by simp⟩⟩
      by_cases e : H c2 = none
      · exact e
      · exfalso
        obtain ⟨o, ho⟩ := Option.ne_none_iff_exists'.mp e
        rw [(same_new hc0) _ _ ho] at hc2
        cases hc2
    · refine ⟨c0, ns, rfl, same_new hc0, hc0, upd_same, ?_, hz⟩
      cases ns with
      | nil => exact absurd (decide_eq_true rfl) c
      | cons x r => simp
  rintro _ H0 ⟨c, cs, rfl, s0, hc, hcs, hc1, hc2⟩
  refine ⟨Nat.zero_le _, fun fo hfo => ?_⟩
  have s1 := same_new (o := .lst []) hfo
  have hcf : c ≠ fo := ne_of_none hcs hfo
  have hfoH : H fo = none := by
    cases e : H fo with
    | none => rfl
    | some o => rw [s0 _ _ e] at hfo; cases hfo
  refine ⟨fun σ' H' => ∃ (z4 z5 z6 z7 z8 : Option V) (fs : List Int), σ' = [some (.ref a), some (nv n), some (.ref c), some (.ref fo), z4, z5, z6, z7, z8] ∧ Same H H' ∧ H' fo = some (.lst (fs.map V.int)), ?_, ?_⟩
  · refine ⟨_, rfl, (n : Int), rfl, by omega, by omega, for_range (lo := 0) (n := ((n : Int)).toNat) (fun i σ' H' => ∃ (m : Int) (z5 z6 z7 z8 : Option V) (cs fs : List Int), σ' = [some (.ref a), some (nv n), some (.ref c), some (.ref fo), some (.int m), z5, z6, z7, z8] ∧ Same H H' ∧ 0 ≤ m ∧ m < 2147483647 ∧ H' c = some (.lst (cs.map V.int)) ∧ 0 < cs.length ∧ cs.length ≤ 1000 ∧ H' fo = some (.lst (fs.map V.int)) ∧ fs.length ≤ i)
      ⟨12345, none, none, none, none, cs, [], rfl, s0.and_new hfo, by decide, by decide, by rw [upd_ne hcf]; exact hcs, hc1, hc2, upd_same, Nat.le_refl _⟩ ?_ ?_⟩
    · clear hcs hc1 hc2 cs
      rintro i σ' H1 hi ⟨m, z5, z6, z7, z8, cs, fs, rfl, s2, hm0, hm1, hcs, hc1, hc2, hfs, hfl⟩
      have hin : i < n := by omega
      rw [Int.zero_add]
      have hmod : ((i : Int) % (((cs.map V.int).length : Nat) : Int)) = ((i % cs.length : Nat) : Int) := by
        rw [List.length_map]
        omega
      have hj : i % cs.length < cs.length := Nat.mod_lt _ hc1
      have hcell : (cs.map V.int)[i % cs.length]? = some (.int cs[i % cs.length]) := by
        rw [List.getElem?_map, List.getElem?_eq_getElem hj] <;> rfl
      refine ⟨_, rfl, _, rfl, c, _, rfl, .inl (SqL.of hcs), _, _, rfl, rfl, by rw [List.length_map]; omega, ?_⟩
      refine ⟨_, rfl, _, rfl, c, _, _, _, rfl, rfl, SqL.of hcs, (by rw [hmod]; exact atI_nat hcell), ?_⟩
      generalize cs[i % cs.length] = cell
      refine ⟨_, rfl, _, _, rfl, rfl, .inl (by omega), _, rfl, .inl ⟨_, rfl, _, _, rfl, rfl, (by show (0 : Int) < 1000003; decide), _, _, rfl, rfl, .inr (by decide), _, _, rfl, rfl, _, rfl, _, _, rfl, rfl, .inl (by omega), _, _, rfl, rfl, _, _, rfl, rfl, .inl ⟨_, rfl, _, _, rfl, rfl, (by show (0 : Int) < 2147483647; decide), ?_⟩⟩⟩
      refine ⟨_, rfl, _, rfl, _, _, rfl, rfl, .inl ⟨Int.lt_of_lt_of_le (by decide) (Int.emod_nonneg _ (by decide)), Int.lt_trans (Int.emod_lt_of_pos _ (by decide)) (by decide)⟩, _, rfl, _, _, rfl, rfl, .inl (by decide), _, _, rfl, rfl, _, rfl, _, _, rfl, rfl, .inl ⟨_, rfl, _, _, rfl, rfl, (by show (0 : Int) < 1000003; decide), ?_⟩⟩
      refine ⟨_, rfl, _, _, rfl, rfl, ⟨by decide, by decide, by decide⟩, _, _, rfl, rfl, _, rfl, ite2 (fun ch => ?_) (fun ch => ?_)⟩
      · refine ⟨_, rfl, .inl ⟨rfl, _, SqL.of hfs⟩, _, rfl, .inl ⟨_, rfl, _, _, rfl, rfl, (by show (0 : Int) < 1000; decide), fo, _, _, rfl, rfl, hfs, ?_, ?_⟩⟩
        · rw [List.length_map]
          exact small1000 (by omega)
        have hcs2 : upd H1 fo (.lst (fs.map V.int ++ [.int (cell % 1000)])) c = some (.lst (cs.map V.int)) := by
          rw [upd_ne hcf]
          exact hcs
        refine ⟨_, rfl, _, _, rfl, rfl, ⟨by decide, by decide⟩, _, rfl, _, rfl, c, _, _, i % cs.length, rfl, rfl, hcs2, ?_, ?_⟩
        · rw [hmod, List.length_map]
          unfold ixN
          rw [if_pos (by omega), if_pos (by omega)]
          congr 1
        · refine ⟨_, _, _, _, _, cs.set (i % cs.length) (cell / 1000), fs ++ [cell % 1000], rfl, (s2.mut hfoH).mut hc, Int.emod_nonneg _ (by decide), Int.emod_lt_of_pos _ (by decide), ?_, ?_, ?_, ?_, ?_⟩
          · rw [upd_same, List.map_set]
          · rw [List.length_set]; exact hc1
          · rw [List.length_set]; exact hc2
          · rw [upd_ne hcf.symm, upd_same, List.map_append] <;> rfl
          · rw [List.length_append]; simp; omega
      · refine ⟨_, rfl, .inl ⟨rfl, _, SqL.of hfs⟩, _, rfl, .inl ⟨_, rfl, _, _, rfl, rfl, (by show (0 : Int) < 1000; decide), fo, _, _, rfl, rfl, hfs, ?_, ?_⟩⟩
        · rw [List.length_map]
          exact small1000 (by omega)
        exact ⟨_, _, _, _, _, cs, _, rfl, s2.mut hfoH, Int.emod_nonneg _ (by decide), Int.emod_lt_of_pos _ (by decide), by rw [upd_ne hcf]; exact hcs, hc1, hc2, snoc_int _, by rw [List.length_append]; simp; omega⟩
    · rintro σ' H1 ⟨m, z5, z6, z7, z8, cs, fs, rfl, s2, _, _, _, _, _, hfs, _⟩
      exact ⟨_, z5, z6, z7, z8, fs, rfl, s2, hfs⟩
  rintro _ H1 ⟨z4, z5, z6, z7, z8, fs, rfl, s2, hfs⟩
  refine ⟨_, rfl, .inl ⟨rfl, _, SqL.of hfs⟩, fo, _, rfl, rfl, hfs, ?_⟩
  refine ⟨_, rfl, q _ fo fs.reverse (s2.mut hfoH) hfoH ?_⟩
  rw [upd_same, List.map_reverse]
/-! ### _law_world -/
def off (d : Addr) (H : Hp) : Hp := fun b => if b = d then none else H b
theorem off_at {d b : Addr} {H : Hp} (h : b ≠ d) : off d H b = H b := if_neg h
theorem off_upd {d l : Addr} {H : Hp} {o : HO} (h : l ≠ d) : off d (upd H l o) = upd (off d H) l o := by
  funext b
  by_cases e : b = l
  · subst e
    rw [off_at h, upd_same, upd_same]
  · rw [upd_ne e]
    unfold off
    rw [upd_ne e]
theorem off_same {d : Addr} {H : Hp} : Same (off d H) H := fun b o h => by
  by_cases e : b = d
  · rw [e, off, if_pos rfl] at h
    cases h
  · rw [off_at e] at h
    exact h
theorem But.off {d : Addr} {H H' : Hp} (h : But d H H') : Same (K20.off d H) (K20.off d H') := fun b o e => by
  by_cases eb : b = d
  · rw [eb, K20.off, if_pos rfl] at e
    cases e
  · rw [off_at eb] at e ⊢
    exact h b o eb e
theorem But.rfl' {d : Addr} {H : Hp} : But d H H := fun _ _ _ e => e
theorem But.trans {d : Addr} {H H1 H2 : Hp} (a : But d H H1) (b : But d H1 H2) : But d H H2 := fun p o h e => b p o h (a p o h e)
theorem But.of {d : Addr} {H H1 : Hp} (a : Same H H1) : But d H H1 := fun p o _ e => a p o e
theorem But.mut {d l : Addr} {H H1 : Hp} {o : HO} (a : But d H H1) (h : H l = none) : But d H (upd H1 l o) := fun p u hp e => by
  rw [upd_ne (ne_of_none e h)]
  exact a p u hp e
theorem Tups.but {d : Addr} {H H' : Hp} {xs : List V} (a : But d H H') (h : H d = some (.lst xs)) : Tups H H' :=
  ⟨fun b ys e => a b _ (ne_of e h fun q => by cases q) e, fun b o ys e => a b _ (ne_of e h fun q => by cases q) e⟩
theorem off_seqT {d : Addr} {H : Hp} {xs ys : List V} {b : Addr} (h : H d = some (.lst ys)) (e : SqT K H b xs) : SqT K (off d H) b xs := by
  rcases e with (e | ⟨o, e⟩) | e
  · exact .inl (.inl (by rw [off_at (ne_of e h fun q => by cases q)]; exact e))
  · exact .inl (.inr ⟨o, by rw [off_at (ne_of e h fun q => by cases q)]; exact e⟩)
  · exact .inr e
theorem StepAt.tups {H H' : Hp} (e : Tups H H') {t : Nat × Nat × Nat} {v : V} : StepAt K H t v → StepAt K H' t v := fun ⟨a, h, s⟩ => ⟨a, h, e.seq s⟩
/-- l picks from the first j numbers -/
def FS (j : Nat) (l : List Nat) : Prop := ∃ p : Nat → Bool, l = (List.range j).filter p
theorem FS.zero : FS 0 [] := ⟨fun _ => true, rfl⟩
theorem FS.add {j : Nat} {l : List Nat} (b : Bool) : FS j l → FS (j + 1) (if b = true then l ++ [j] else l) := by
  rintro ⟨p, rfl⟩
  refine ⟨fun x => if x = j then b else p x, ?_⟩
  rw [List.range_succ, List.filter_append]
  have e : (List.range j).filter (fun x => if x = j then b else p x) = (List.range j).filter p := List.filter_congr fun x hx => by
    have := List.mem_range.mp hx
    rw [if_neg (by omega)]
  rw [e]
  cases b <;> simp
theorem FS.len {j : Nat} {l : List Nat} : FS j l → l.length ≤ j := by
  rintro ⟨p, rfl⟩
  have h := List.length_filter_le p (List.range j)
  rw [List.length_range] at h
  exact h
structure StepsOk (n s l o : Nat) (sp : List (Nat × Nat × Nat)) : Prop where
  nd : sp.Nodup
  st : ∀ t ∈ sp, t.1 < n ∧ t.2.1 < 2 ∧ t.2.2 < n
  lo : ∀ t ∈ sp, t.1 * 1000 + t.2.1 * 100 + t.2.2 < s * 1000 + l * 100 + o
  len : sp.length ≤ s * 10 + l * 5 + o
theorem StepsOk.none {n : Nat} : StepsOk n 0 0 0 [] := ⟨List.nodup_nil, fun t h => (by cases h), fun t h => (by cases h), Nat.le_refl _⟩
theorem StepsOk.push {n s l o : Nat} {sp : List (Nat × Nat × Nat)} (h : StepsOk n s l o sp) (hs : s < n) (hl : l < 2) (ho : o < n) : StepsOk n s l (o + 1) (sp ++ [(s, l, o)]) := by
  refine ⟨?_, fun t ht => ?_, fun t ht => ?_, ?_⟩
  · refine List.nodup_append.mpr ⟨h.nd, by simp, fun a ha b hb e => ?_⟩
    obtain rfl := List.mem_singleton.mp hb
    have := h.lo a ha
    rw [e] at this
    exact Nat.lt_irrefl _ this
  · rcases List.mem_append.mp ht with ht | ht
    · exact h.st t ht
    · obtain rfl := List.mem_singleton.mp ht
      exact ⟨hs, hl, ho⟩
  · rcases List.mem_append.mp ht with ht | ht
    · have := h.lo t ht
      omega
    · obtain rfl := List.mem_singleton.mp ht
      show s * 1000 + l * 100 + o < _
      omega
  · have := h.len
    rw [List.length_append, List.length_singleton]
    omega
theorem StepsOk.skip {n s l o : Nat} {sp : List (Nat × Nat × Nat)} (h : StepsOk n s l o sp) : StepsOk n s l (o + 1) sp :=
  ⟨h.nd, h.st, fun t ht => Nat.lt_succ_of_lt (h.lo t ht), Nat.le_succ_of_le h.len⟩
theorem StepsOk.row {n s l : Nat} {sp : List (Nat × Nat × Nat)} (h : StepsOk n s l n sp) (hn : n ≤ 5) : StepsOk n s (l + 1) 0 sp :=
  ⟨h.nd, h.st, fun t ht => by have := h.lo t ht; omega, by have := h.len; omega⟩
theorem StepsOk.page {n s : Nat} {sp : List (Nat × Nat × Nat)} (h : StepsOk n s 2 0 sp) : StepsOk n (s + 1) 0 0 sp :=
  ⟨h.nd, h.st, fun t ht => by have := h.lo t ht; omega, by have := h.len; omega⟩
def spWorld (K : PySem.W.Frag) : Sp := fun vs H Q _ => ∃ (d : Addr) (m F : Nat) (ds : List Int), vs = [.ref d, nv m, nv F] ∧ H d = some (.lst (ds.map V.int)) ∧ 0 < m ∧ m ≤ 5 ∧ F ≤ 6 ∧
  ∀ H' v W (ds' : List Int), But d H H' → H' d = some (.lst (ds'.map V.int)) → WdAt K (off d H') W v → Good F W → W.n ≤ m → W.sp.length ≤ 50 → Q v H'
abbrev nWorld : List Str := ["_law_draws_here", "_law_most", "_law_facts", "_law_size", "_law_state", "_law_states", "_law_steps", "_law_label", "_law_other", "_law_fact"]
theorem scWorld : FnScope nWorld ["_law_draws_here", "_law_most", "_law_facts"] (defScope sWorld) := ⟨rfl, rfl, rfl, by decide +kernel, rfl, by decide +kernel, by decide +kernel⟩
abbrev wrow : Stmt := (defBody sWorld).getD 1 sConj
theorem ok_world {f fT : Addr} {fd fdT : FuncData} (F : Fun K "_law_world" "_law_world" sWorld f fd) (B : Blt mg)
    (GT : FnOk P w K mg base CX0 1 fT fdT ["_law_draws_here", "_law_limit"] spTake) (mT : mg "_law_take" = some (.ref fT)) (kT : PySem.W.keepIn K (.ref fT) = true) (bT : Binds K fdT ["_law_draws_here", "_law_limit"] []) :
    FnOk P w K mg base CX0 2 f fd ["_law_draws_here", "_law_most", "_law_facts"] (spWorld K) := by
  refine F.ok scWorld (fun vs H Q E h => ?_) (fun cdv A outer s H vs Q E hr h => ?_)
  · obtain ⟨d, m, F, ds, rfl, _⟩ := h
    rfl
  obtain ⟨d, m, Fc, ds, rfl, hd, hm0, hm5, hF, q⟩ := h
  refine ⟨_, Evl.pss_cut (ps_set (i := 3) scWorld.nd rfl (.inl rfl) (pe_op op_add pe_int (pe_call GT hr rfl mT kT bT .nil pass0 (pa_cons (pv 0) (pa_cons (pv 1) pa_nil)))))     (Evl.pss_cut (ps_setLc (i := 5) (own := [("_law_state", 4)]) (g := gName 4) (tt := tYes) rfl scWorld.nd rfl rfl (sw_true rfl rfl rfl (by decide +kernel)) (pi_range1 (by rfl) B.range (pa_cons (pv 3) pa_nil))         (blkOk_by (own := [("_law_state", 4)]) (N := nWorld) (sc := defScope sWorld) (by decide +kernel)) (fun _ _ _ _ _ => pg_name (i := 4) scWorld.nd rfl (.inl rfl)) (fun _ _ _ _ _ => pts_nil) (fun _ _ _ _ _ => (pe_lc (own := [("_law_fact", 9)]) (g := gName 9) (wi := iRng1 _) rfl scWorld.nd (pi_range1 (by rfl) B.range (pa_cons (pv 2) pa_nil))         (blkOk_by (own := [("_law_fact", 9)]) (N := nWorld) (sc := relS (lcSc (asgV wrow)) (defScope sWorld)) (by decide +kernel)) (fun _ _ _ _ _ => pg_name (i := 9) scWorld.nd rfl (.inl rfl)) (fun _ _ _ _ _ => pts_one (pt_cmpR op_eq (pe_call GT hr rfl mT kT bT .nil pass0 (pa_cons (pv 0) (pa_cons pe_int pa_nil))) pe_int (nomark _))) (fun _ _ _ _ _ => (pv 9)))))     (pss_cons (ps_set (i := 6) scWorld.nd rfl (.inl rfl) (pe_lst pa_nil))     (Evl.pss_cut (ps_for PassesOwn.never rfl (pi_range1 (by rfl) B.range (pa_cons (pv 3) pa_nil)) (pg_name (i := 4) scWorld.nd rfl (.inl rfl))       (pss_one (ps_for PassesOwn.never rfl (pi_range1 (by rfl) B.range (pa_cons pe_int pa_nil)) (pg_name (i := 7) scWorld.nd rfl (.inl rfl))       (pss_one (ps_for PassesOwn.never rfl (pi_range1 (by rfl) B.range (pa_cons (pv 3) pa_nil)) (pg_name (i := 8) scWorld.nd rfl (.inl rfl))       (pss_one (ps_if (pt_cmpR op_lt (pe_call GT hr rfl mT kT bT .nil pass0 (pa_cons (pv 0) (pa_cons (pe_op op_add pe_int (pv 3)) pa_nil))) pe_int (nomark _)) (pss_one (ps_expr (pe_bm PySem.F.plainAttrs_list PySem.F.slot_list_append PySem.F.type_list_append mt_append (pv 6) (pa_cons (pe_tup (pa_cons (pv 4) (pa_cons (pv 7) (pa_cons (pv 8) pa_nil)))) pa_nil)))) pss_nil)))))))     (pss_one (ps_ret (pe_tup (pa_cons (pv 5) (pa_cons (pv 6) pa_nil)))))))), ?_⟩
  refine ⟨fun σ' H' => ∃ (N : Nat) (ds' : List Int), σ' = [some (.ref d), some (nv m), some (nv Fc), some (nv N), none, none, none, none, none, none] ∧ 1 ≤ N ∧ N ≤ m ∧ But d H H' ∧ H' d = some (.lst (ds'.map V.int)), ?_, ?_⟩
  · refine ⟨_, rfl, _, rfl, d, m, ds, rfl, hd, hm0, fun H1 z ds1 hz b1 hd1 _ => ⟨_, _, rfl, rfl, z + 1, ds1, ?_, by omega, by omega, b1, hd1⟩⟩
    show [some (V.ref d), some (nv m), some (nv Fc), some (V.int (1 + (z : Int))), none, none, none, none, none, none] = _
    rw [show (1 + (z : Int)) = ((z + 1 : Nat) : Int) by omega]
  rintro _ H0 ⟨N, ds0, rfl, hN1, hNm, b0, hd0⟩
  -- the states
  refine ⟨fun σ' H' => ∃ (bl : Addr) (acc : List V) (st : List (List Nat)) (ds' : List Int), σ' = [some (.ref d), some (nv m), some (nv Fc), some (nv N), none, some (.ref bl), none, none, none, none] ∧ But d H H' ∧ H' d = some (.lst (ds'.map V.int)) ∧ bl ≠ d ∧ H' bl = some (.lst acc) ∧ Each (LstAt K (off d H')) st acc ∧ st.length = N ∧ ∀ l ∈ st, FS Fc l, ?_, ?_⟩
  · refine ⟨_, rfl, (N : Int), rfl, by omega, by omega, fun D hD => ?_⟩
    have hDd : D ≠ d := fun e => by rw [e, hd0] at hD; cases hD
    refine lc_range (lo := 0) (n := ((N : Int)).toNat) (fun i H' => But d H0 H' ∧ (∃ ds' : List Int, H' d = some (.lst (ds'.map V.int))) ∧ ∃ acc st, H' D = some (.lst acc) ∧ Each (LstAt K (off D (off d H'))) st acc ∧ st.length = i ∧ ∀ l ∈ st, FS Fc l)
      ⟨But.of (same_new hD), ⟨ds0, by rw [upd_ne hDd.symm]; exact hd0⟩, [], [], upd_same, rfl, rfl, fun l h => by cases h⟩ ?_ ?_
    · rintro i H1 hi ⟨b1, ⟨ds1, hd1⟩, acc, st, hacc, hst, hlen, hfs⟩
      refine ⟨rfl, _, rfl, (Fc : Int), rfl, by omega, by omega, fun D2 hD2 => ?_⟩
      have hD2d : D2 ≠ d := fun e => by rw [e, hd1] at hD2; cases hD2
      have hD2D : D2 ≠ D := fun e => by rw [e, hacc] at hD2; cases hD2
      refine lc_range (lo := 0) (n := ((Fc : Int)).toNat) (fun j H' => But d H1 H' ∧ (∃ ds' : List Int, H' d = some (.lst (ds'.map V.int))) ∧ ∃ l, H' D2 = some (.lst (nvs l)) ∧ FS j l)
        ⟨But.of (same_new hD2), ⟨ds1, by rw [upd_ne hD2d.symm]; exact hd1⟩, [], upd_same, FS.zero⟩ ?_ ?_
      · rintro j H2 hj ⟨b2, ⟨ds2, hd2⟩, l, hl, hfl⟩
        rw [Int.zero_add j]
        refine ⟨rfl, _, rfl, d, 2, ds2, rfl, hd2, by decide, fun H3 z ds3 hz b3 hd3 _ => ⟨rfl, _, rfl, ?_⟩⟩
        have hl3 := b3 _ _ hD2d hl
        refine ite2 (fun c => ?_) (fun c => ?_)
        · refine ⟨_, rfl, _, hl3, ?_, (b2.trans b3).mut hD2, ⟨ds3, by rw [upd_ne hD2d.symm]; exact hd3⟩, l ++ [j], ?_, FS.add true hfl⟩
          · rw [List.length_map]
            have := hfl.len
            exact small1000 (by omega)
          · rw [upd_same]
            simp [nvs]
        · exact ⟨b2.trans b3, ⟨ds3, hd3⟩, l, hl3, FS.add false hfl⟩
      · rintro H2 ⟨b2, ⟨ds2, hd2⟩, l, hl, hfl⟩
        have e : ((Fc : Int)).toNat = Fc := by omega
        rw [e] at hfl
        refine ⟨acc, b2 _ _ hDd hacc, ?_, (b1.trans b2).mut hD, ⟨ds2, by rw [upd_ne hDd.symm]; exact hd2⟩, _, st ++ [l], upd_same, ?_, by rw [List.length_append, hlen] <;> rfl, fun k hk => ?_⟩
        · rw [Each.length hst, hlen]
          exact small1000 (by omega)
        · have s1 : Same (off D (off d H1)) (off D (off d (upd H2 D (.lst (acc ++ [V.ref D2]))))) := fun p o hp => by
            by_cases ep : p = D
            · rw [ep, off, if_pos rfl] at hp
              cases hp
            · rw [off_at ep] at hp ⊢
              rw [off_upd hDd, upd_ne ep]
              exact b2.off _ _ hp
          refine Each.snoc (Each.imp (fun _ _ => LstAt.same s1) hst) ⟨D2, rfl, SqL.of ?_⟩
          rw [off_at hD2D, off_at hD2d, upd_ne hD2D]
          exact hl
        · rcases List.mem_append.mp hk with hk | hk
          · exact hfs k hk
          · obtain rfl := List.mem_singleton.mp hk
            exact hfl
    · rintro H1 ⟨b1, ⟨ds1, hd1⟩, acc, st, hacc, hst, hlen, hfs⟩
      exact ⟨D, acc, st, ds1, rfl, b0.trans b1, hd1, hDd, hacc, Each.imp (fun _ _ => LstAt.same off_same) hst, by omega, hfs⟩
  clear b0 hd0
  rintro _ H0 ⟨bl, acc, st, ds0, rfl, b0, hd0, hbd, hacc, hst, hlen, hfs⟩
  -- the steps
  refine ⟨Nat.zero_le _, fun sl hsl => ?_⟩
  have hsd : sl ≠ d := fun e => by rw [e, hd0] at hsl; cases hsl
  refine ⟨fun σ' H' => ∃ (z4 z7 z8 : Option V) (ys : List V) (sp : List (Nat × Nat × Nat)) (ds' : List Int), σ' = [some (.ref d), some (nv m), some (nv Fc), some (nv N), z4, some (.ref bl), some (.ref sl), z7, z8, none] ∧ But d H0 H' ∧ H' d = some (.lst (ds'.map V.int)) ∧ H' sl = some (.lst ys) ∧ Each (StepAt K H') sp ys ∧ StepsOk N N 0 0 sp, ?_, ?_⟩
  · refine ⟨_, rfl, (N : Int), rfl, by omega, by omega, for_range (lo := 0) (n := ((N : Int)).toNat) (fun s σ' H' => ∃ (z4 z7 z8 : Option V) (ys : List V) (sp : List (Nat × Nat × Nat)) (ds' : List Int), σ' = [some (.ref d), some (nv m), some (nv Fc), some (nv N), z4, some (.ref bl), some (.ref sl), z7, z8, none] ∧ But d H0 H' ∧ H' d = some (.lst (ds'.map V.int)) ∧ H' sl = some (.lst ys) ∧ Each (StepAt K H') sp ys ∧ StepsOk N s 0 0 sp)
      ⟨none, none, none, [], [], ds0, rfl, But.of (same_new hsl), by rw [upd_ne hsd.symm]; exact hd0, upd_same, rfl, StepsOk.none⟩ ?_ ?_⟩
    · rintro s σ' H1 hs ⟨z4, z7, z8, ys, sp, ds1, rfl, b1, hd1, hys, hsp, hok⟩
      have hsN : s < N := by omega
      rw [Int.zero_add s]
      refine ⟨2, rfl, by decide, by decide, for_range (lo := 0) (n := (2 : Int).toNat) (fun l σ' H' => ∃ (z7 z8 : Option V) (ys : List V) (sp : List (Nat × Nat × Nat)) (ds' : List Int), σ' = [some (.ref d), some (nv m), some (nv Fc), some (nv N), some (nv s), some (.ref bl), some (.ref sl), z7, z8, none] ∧ But d H0 H' ∧ H' d = some (.lst (ds'.map V.int)) ∧ H' sl = some (.lst ys) ∧ Each (StepAt K H') sp ys ∧ StepsOk N s l 0 sp)
        ⟨z7, z8, ys, sp, ds1, rfl, b1, hd1, hys, hsp, hok⟩ ?_ ?_⟩
      · clear b1 hd1 hys hsp hok
        rintro l σ' H1 hl ⟨z7, z8, ys, sp, ds1, rfl, b1, hd1, hys, hsp, hok⟩
        have hl2 : l < 2 := hl
        rw [Int.zero_add l]
        refine ⟨_, rfl, (N : Int), rfl, by omega, by omega, for_range (lo := 0) (n := ((N : Int)).toNat) (fun o σ' H' => ∃ (z8 : Option V) (ys : List V) (sp : List (Nat × Nat × Nat)) (ds' : List Int), σ' = [some (.ref d), some (nv m), some (nv Fc), some (nv N), some (nv s), some (.ref bl), some (.ref sl), some (nv l), z8, none] ∧ But d H0 H' ∧ H' d = some (.lst (ds'.map V.int)) ∧ H' sl = some (.lst ys) ∧ Each (StepAt K H') sp ys ∧ StepsOk N s l o sp)
          ⟨z8, ys, sp, ds1, rfl, b1, hd1, hys, hsp, hok⟩ ?_ ?_⟩
        · clear b1 hd1 hys hsp hok
          rintro o σ' H1 ho ⟨z8, ys, sp, ds1, rfl, b1, hd1, hys, hsp, hok⟩
          have hoN : o < N := by omega
          rw [Int.zero_add o]
          refine ⟨_, rfl, _, rfl, _, _, rfl, rfl, d, 2 + N, ds1, rfl, hd1, by omega, fun H2 z ds2 hz b2 hd2 _ => ⟨_, _, rfl, rfl, _, rfl, ?_⟩⟩
          have hys2 := b2 _ _ hsd hys
          have tu : Tups H1 H2 := Tups.but b2 hd1
          refine ite2 (fun c => ?_) (fun c => ?_)
          · refine ⟨_, rfl, .inl ⟨rfl, _, SqL.of hys2⟩, _, rfl, _, rfl, _, rfl, by show 3 ≤ sizeLine; decide, fun t ht => ?_⟩
            have s3 := same_new (o := .tup [nv s, nv l, nv o]) ht
            have hys3 := s3 _ _ hys2
            refine ⟨sl, ys, _, rfl, rfl, hys3, ?_, ?_⟩
            · rw [Each.length hsp]
              have := hok.len
              exact small1000 (by omega)
            · have tu3 := (Tups.of s3).trans (Tups.upd (ys := ys ++ [V.ref t]) hys3)
              refine ⟨_, _, sp ++ [(s, l, o)], ds2, rfl, ((b1.trans b2).trans (But.of s3)).mut hsl, ?_, upd_same, ?_, hok.push hsN hl2 hoN⟩
              · rw [upd_ne hsd.symm]
                exact s3 _ _ hd2
              · exact Each.snoc (Each.imp (fun _ _ => StepAt.tups (tu.trans tu3)) hsp) ⟨t, rfl, (Tups.upd hys3).seq (SqT.of upd_same)⟩
          · exact ⟨_, ys, sp, ds2, rfl, b1.trans b2, hd2, hys2, Each.imp (fun _ _ => StepAt.tups tu) hsp, hok.skip⟩
        · rintro σ' H1 ⟨z8, ys, sp, ds1, rfl, b1, hd1, hys, hsp, hok⟩
          rw [show ((N : Int)).toNat = N by omega] at hok
          exact ⟨_, z8, ys, sp, ds1, rfl, b1, hd1, hys, hsp, hok.row (by omega)⟩
      · rintro σ' H1 ⟨z7, z8, ys, sp, ds1, rfl, b1, hd1, hys, hsp, hok⟩
        exact ⟨_, z7, z8, ys, sp, ds1, rfl, b1, hd1, hys, hsp, hok.page⟩
    · rintro σ' H1 ⟨z4, z7, z8, ys, sp, ds1, rfl, b1, hd1, hys, hsp, hok⟩
      rw [show ((N : Int)).toNat = N by omega] at hok
      exact ⟨z4, z7, z8, ys, sp, ds1, rfl, b1, hd1, hys, hsp, hok⟩
  rintro _ H1 ⟨z4, z7, z8, ys, sp, ds1, rfl, b1, hd1, hys, hsp, hok⟩
  refine ⟨_, rfl, _, rfl, by show 2 ≤ sizeLine; decide, fun t ht => ?_⟩
  have htd : t ≠ d := fun e => by rw [e, hd1] at ht; cases ht
  have s2 := same_new (o := .tup [V.ref bl, V.ref sl]) ht
  have so : Same (off d H1) (off d (upd H1 t (.tup [V.ref bl, V.ref sl]))) := (But.of s2).off
  have hlen2 := hok.len
  refine q _ _ ⟨st, sp⟩ ds1 ((b0.trans b1).trans (But.of s2)) (s2 _ _ hd1) ⟨t, bl, sl, acc, ys, rfl, SqT.of ?_, SqL.of ?_, Each.imp (fun _ _ => LstAt.same ((b1.off).trans so)) hst, SqL.of ?_, ?_⟩ ⟨by show 1 ≤ st.length; omega, by show st.length ≤ 20; omega, hfs, fun x hx => by show _ < st.length ∧ _ ∧ _ < st.length; rw [hlen]; exact hok.st x hx, hok.nd, by show sp.length ≤ 60; omega⟩ (by show st.length ≤ m; omega) (by show sp.length ≤ 50; omega)
  · rw [off_at htd, upd_same]
  · rw [off_at hbd]
    exact s2 _ _ (b1 _ _ hbd hacc)
  · rw [off_at hsd]
    exact s2 _ _ hys
  · exact Each.imp (fun x v h => by
      obtain ⟨a, e1, e2⟩ := h
      exact ⟨a, e1, Same.seqT so (off_seqT hd1 e2)⟩) hsp
/-! ### _law_beside -/
def sh (n : Nat) (t : Nat × Nat × Nat) : Nat × Nat × Nat := (t.1 + n, t.2.1, t.2.2 + n)
def joinW (V W : Wd) : Wd := ⟨V.st ++ W.st, V.sp ++ W.sp.map (sh V.n)⟩
def spBeside (K : PySem.W.Frag) : Sp := fun vs H Q _ => ∃ (v1 v2 : V) (W1 W2 : Wd), vs = [v1, v2] ∧ WdAt K H W1 v1 ∧ WdAt K H W2 v2 ∧ W1.n ≤ 20 ∧ W2.n ≤ 20 ∧ W1.sp.length ≤ 60 ∧ W2.sp.length ≤ 60 ∧
  ∀ H' v, Same H H' → WdAt K H' (joinW W1 W2) v → Q v H'
abbrev nBeside : List Str := ["_law_first", "_law_second", "_law_shift", "_law_steps", "_law_step"]
theorem scBeside : FnScope nBeside ["_law_first", "_law_second"] (defScope sBeside) := ⟨rfl, rfl, rfl, by decide +kernel, rfl, by decide +kernel, by decide +kernel⟩
theorem ok_beside {f : Addr} {fd : FuncData} {k : Nat} (F : Fun K "_law_beside" "_law_beside" sBeside f fd) (B : Blt mg) : FnOk P w K mg base CX0 (k + 1) f fd ["_law_first", "_law_second"] (spBeside K) := by
  refine F.ok scBeside (fun vs H Q E h => ?_) (fun cdv A outer s H vs Q E hr h => ?_)
  · obtain ⟨v1, v2, W1, W2, rfl, _⟩ := h
    rfl
  obtain ⟨v1, v2, W1, W2, rfl, hW1, hW2, hn1, hn2, hs1, hs2, q⟩ := h
  refine ⟨_, pss_cons (ps_set (i := 2) scBeside.nd rfl (.inr rfl) (pe_callB call_ln (by rfl) B.len PySem.boot_len (pa_cons (pe_ix ix_tup (pv 0) pe_int (fun _ _ => rfl)) pa_nil)))     (Evl.pss_cut (ps_setLc (i := 3) (own := [("_law_step", 4)]) (g := gName 4) (tt := tYes) rfl scBeside.nd rfl rfl (sw_true rfl rfl rfl (by decide +kernel)) (pi_list (pe_ix ix_tup (pv 1) pe_int (fun _ _ => rfl)))         (blkOk_by (own := [("_law_step", 4)]) (N := nBeside) (sc := defScope sBeside) (by decide +kernel)) (fun _ _ _ _ _ => pg_name (i := 4) scBeside.nd rfl (.inl rfl)) (fun _ _ _ _ _ => pts_nil) (fun _ _ _ _ _ => (pe_tup (pa_cons (pe_op op_add (pe_ix (r := rIxT K) ix_tup (pv 4) pe_int (fun _ _ => rfl)) (pv 2)) (pa_cons (pe_ix (r := rIxT K) ix_tup (pv 4) pe_int (fun _ _ => rfl)) (pa_cons (pe_op op_add (pe_ix (r := rIxT K) ix_tup (pv 4) pe_int (fun _ _ => rfl)) (pv 2)) pa_nil))))))     (pss_one (ps_ret (pe_tup (pa_cons (pe_op op_cat (pe_callTy call_lst (by rfl) B.list (by decide +kernel) (pa_cons (pe_ix ix_tup (pv 0) pe_int (fun _ _ => rfl)) pa_nil)) (pe_callTy call_lst (by rfl) B.list (by decide +kernel) (pa_cons (pe_ix ix_tup (pv 1) pe_int (fun _ _ => rfl)) pa_nil))) (pa_cons (pe_op op_cat (pe_callTy call_lst (by rfl) B.list (by decide +kernel) (pa_cons (pe_ix ix_tup (pv 0) pe_int (fun _ _ => rfl)) pa_nil)) (pv 3)) pa_nil)))))), ?_⟩
  obtain ⟨a1, b1, c1, xs1, ys1, rfl, A1, B1, X1, C1, Y1⟩ := id hW1
  obtain ⟨a2, b2, c2, xs2, ys2, rfl, A2, B2, X2, C2, Y2⟩ := id hW2
  have hx1 : xs1.length = W1.n := Each.length X1
  have hx2 : xs2.length = W2.n := Each.length X2
  have hy1 : ys1.length = W1.sp.length := Each.length Y1
  have hy2 : ys2.length = W2.sp.length := Each.length Y2
  refine ⟨_, rfl, a1, _, 0, _, rfl, rfl, A1, atI_nat (j := 0) rfl, b1, xs1, rfl, .inl B1, ?_⟩
  rw [hx1]
  refine ⟨fun σ' H' => ∃ (D : Addr) (zs : List V), σ' = [some (.ref a1), some (.ref a2), some (nv W1.n), some (.ref D), none] ∧ Same H H' ∧ H' D = some (.lst zs) ∧ Each (StepAt K H') (W2.sp.map (sh W1.n)) zs, ?_, ?_⟩
  · refine ⟨_, rfl, a2, _, 1, _, rfl, rfl, A2, atI_nat (j := 1) rfl, c2, rfl, ⟨_, C2⟩, fun D hD => lc_list (K := K) (a := c2) (xs := ys2) (fun i H' => Same H H' ∧ ∃ acc, H' D = some (.lst acc) ∧ Each (StepAt K H') ((W2.sp.take i).map (sh W1.n)) acc) ⟨same_new hD, [], upd_same, rfl⟩ (fun i H' _ h => h.1.seq C2) ?_ ?_⟩
    · rintro i x H1 hi ⟨s1, acc, hacc, hsp⟩
      obtain ⟨t, ht, p, rfl, hp⟩ := Y2.get hi
      have hp1 := s1.seqT hp
      refine ⟨rfl, _, rfl, p, _, 0, _, rfl, rfl, hp1, atI_nat (j := 0) rfl, _, rfl, _, _, rfl, rfl, _, rfl, p, _, 1, _, rfl, rfl, hp1, atI_nat (j := 1) rfl, _, rfl, p, _, 2, _, rfl, rfl, hp1, atI_nat (j := 2) rfl, _, rfl, _, _, rfl, rfl, by show 3 ≤ sizeLine; decide, fun u hu => ?_⟩
      have s2 := same_new (o := .tup [V.int ((t.1 : Int) + (W1.n : Int)), nv t.2.1, V.int ((t.2.2 : Int) + (W1.n : Int))]) hu
      have hacc2 := s2 _ _ hacc
      refine ⟨acc, hacc2, ?_, (s1.trans s2).mut hD, _, upd_same, ?_⟩
      · rw [Each.length hsp, List.length_map, List.length_take]
        exact Nat.lt_of_le_of_lt (Nat.min_le_right _ _) (small1000 (by omega))
      · rw [take_snoc ht, List.map_append]
        exact Each.snoc (Each.imp (fun _ _ => StepAt.tups ((Tups.of s2).trans (Tups.upd hacc2))) hsp) ⟨u, rfl, (Tups.upd hacc2).seq (SqT.of upd_same)⟩
    · rintro H1 ⟨s1, acc, hacc, hsp⟩
      rw [hy2, List.take_length] at hsp
      exact ⟨D, acc, rfl, s1, hacc, hsp⟩
  rintro _ H1 ⟨D, zs, rfl, s1, hD, hzs⟩
  have hzl : zs.length = W2.sp.length := by rw [Each.length hzs, List.length_map]
  refine ⟨_, rfl, a1, _, 0, _, rfl, rfl, s1.seqT A1, atI_nat (j := 0) rfl, b1, xs1, rfl, .inl (s1.seq B1), fun l1 hl1 => ?_⟩
  have s2 := s1.and_new (o := .lst xs1) hl1
  refine ⟨_, rfl, a2, _, 0, _, rfl, rfl, s2.seqT A2, atI_nat (j := 0) rfl, b2, xs2, rfl, .inl (s2.seq B2), fun l2 hl2 => ?_⟩
  have n1 := same_new (o := .lst xs2) hl2
  refine ⟨l1, l2, xs1, xs2, rfl, rfl, n1 _ _ upd_same, upd_same, small (by omega), fun m hm => ?_⟩
  have s3 := (s2.and_new (o := .lst xs2) hl2).and_new (o := .lst (xs1 ++ xs2)) hm
  have hm3 : upd (upd (upd H1 l1 (.lst xs1)) l2 (.lst xs2)) m (.lst (xs1 ++ xs2)) m = some (.lst (xs1 ++ xs2)) := upd_same
  have hD3 : upd (upd (upd H1 l1 (.lst xs1)) l2 (.lst xs2)) m (.lst (xs1 ++ xs2)) D = some (.lst zs) := ((((same_new hl1).and_new hl2).and_new hm) : Same H1 _) _ _ hD
  have hz3 : Each (StepAt K (upd (upd (upd H1 l1 (.lst xs1)) l2 (.lst xs2)) m (.lst (xs1 ++ xs2)))) (W2.sp.map (sh W1.n)) zs := Each.imp (fun _ _ => StepAt.same (((same_new hl1).and_new hl2).and_new hm)) hzs
  generalize upd (upd (upd H1 l1 (.lst xs1)) l2 (.lst xs2)) m (.lst (xs1 ++ xs2)) = H3 at s3 hm3 hD3 hz3
  refine ⟨_, rfl, a1, _, 1, _, rfl, rfl, s3.seqT A1, atI_nat (j := 1) rfl, c1, ys1, rfl, .inl (s3.seq C1), fun l3 hl3 => ?_⟩
  have n4 := same_new (o := .lst ys1) hl3
  refine ⟨_, rfl, l3, D, ys1, zs, rfl, rfl, upd_same, n4 _ _ hD3, small (by omega), fun m2 hm2 => ⟨by show 2 ≤ sizeLine; decide, fun t ht => ?_⟩⟩
  have n5 := n4.and_new (o := .lst (ys1 ++ zs)) hm2
  have n6 := same_new (o := .tup [V.ref m, V.ref m2]) ht
  have n7 := n5.trans n6
  have s7 := s3.trans n7
  refine q _ _ s7 ⟨t, m, m2, xs1 ++ xs2, ys1 ++ zs, rfl, SqT.of upd_same, SqL.of (n7 _ _ hm3), ?_, SqL.of (n6 _ _ upd_same), ?_⟩
  · exact Each.app (Each.imp (fun _ _ => LstAt.same s7) X1) (Each.imp (fun _ _ => LstAt.same s7) X2)
  · exact Each.app (Each.imp (fun _ _ => StepAt.same s7) Y1) (Each.imp (fun _ _ => StepAt.same n7) hz3)
end
end K20
namespace K20
open PySem L2 Pm
/-! ### like: rounds that come to rest -/
section
variable {W : Wd}
theorem like_refl : ∀ t i, like W t i i
  | 0, _ => rfl
  | t + 1, i => ⟨like_refl t i, fun _ _ => ⟨fun u hu => ⟨u, hu, like_refl t u⟩, fun u hu => ⟨u, hu, like_refl t u⟩⟩⟩
theorem like_symm : ∀ t {i j}, like W t i j → like W t j i
  | 0, _, _, h => Eq.symm h
  | t + 1, _, _, h => ⟨like_symm t h.1, fun l hl => ⟨fun u hu => by
      obtain ⟨v, hv, e⟩ := (h.2 l hl).2 u hu
      exact ⟨v, hv, like_symm t e⟩, fun u hu => by
      obtain ⟨v, hv, e⟩ := (h.2 l hl).1 u hu
      exact ⟨v, hv, like_symm t e⟩⟩⟩
theorem like_trans : ∀ t {i j k}, like W t i j → like W t j k → like W t i k
  | 0, _, _, _, h, g => Eq.trans h g
  | t + 1, _, _, _, h, g => ⟨like_trans t h.1 g.1, fun l hl => ⟨fun u hu => by
      obtain ⟨v, hv, e⟩ := (h.2 l hl).1 u hu
      obtain ⟨x, hx, e2⟩ := (g.2 l hl).1 v hv
      exact ⟨x, hx, like_trans t e e2⟩, fun u hu => by
      obtain ⟨v, hv, e⟩ := (g.2 l hl).2 u hu
      obtain ⟨x, hx, e2⟩ := (h.2 l hl).2 v hv
      exact ⟨x, hx, like_trans t e2 e⟩⟩⟩
theorem like_down : ∀ t {i j}, like W t i j → like W 0 i j
  | 0, _, _, h => h
  | t + 1, _, _, h => like_down t h.1
/-- i is the first of its class -/
def First (W : Wd) (t i : Nat) : Prop := ∀ j < i, ¬ like W t i j
noncomputable def isFirst (W : Wd) (t i : Nat) : Bool := @decide (First W t i) (Classical.propDecidable _)
theorem isFirst_iff {t i : Nat} : isFirst W t i = true ↔ First W t i :=
  ⟨fun h => @of_decide_eq_true _ (Classical.propDecidable _) h, fun h => @decide_eq_true _ (Classical.propDecidable _) h⟩
noncomputable def cls (W : Wd) (t : Nat) : Nat := ((List.range W.n).filter (isFirst W t)).length
theorem first_of (t : Nat) : ∀ n i, i ≤ n → ∃ r, r ≤ i ∧ First W t r ∧ like W t r i
  | 0, i, h => ⟨i, Nat.le_refl _, fun j hj => by omega, like_refl t i⟩
  | n + 1, i, h => by
    by_cases hf : First W t i
    · exact ⟨i, Nat.le_refl _, hf, like_refl t i⟩
    · have : ∃ j, j < i ∧ like W t i j := Classical.byContradiction fun hn => hf fun j hj hl => hn ⟨j, hj, hl⟩
      obtain ⟨j, hj, hl⟩ := this
      obtain ⟨r, h1, h2, h3⟩ := first_of t n j (by omega)
      exact ⟨r, by omega, h2, like_trans t h3 (like_symm t hl)⟩
def Rest (W : Wd) (t : Nat) : Prop := ∀ i j, i < W.n → j < W.n → like W t i j → like W (t + 1) i j
theorem rest_or (t : Nat) : Rest W t ∨ cls W t < cls W (t + 1) := by
  by_cases h : ∃ y, y < W.n ∧ First W (t + 1) y ∧ ¬ First W t y
  · obtain ⟨y, hy, h1, h2⟩ := h
    refine .inr ?_
    unfold cls
    refine filter_len_lt (fun x _ hx => isFirst_iff.mpr fun j hj hl => (isFirst_iff.mp hx) j hj hl.1) (List.mem_range.mpr hy) (isFirst_iff.mpr h1) ?_
    cases e : isFirst W t y with
    | false => rfl
    | true => exact absurd (isFirst_iff.mp e) h2
  · refine .inl fun i j hi hj hl => ?_
    have hall : ∀ y, y < W.n → First W (t + 1) y → First W t y := fun y hy h1 => Classical.byContradiction fun h2 => h ⟨y, hy, h1, h2⟩
    obtain ⟨r, r1, r2, r3⟩ := first_of (W := W) (t + 1) i i (Nat.le_refl _)
    obtain ⟨q, q1, q2, q3⟩ := first_of (W := W) (t + 1) j j (Nat.le_refl _)
    have hr := hall r (by omega) r2
    have hq := hall q (by omega) q2
    have hrq : like W t r q := like_trans t (like_trans t r3.1 hl) (like_symm t q3.1)
    have e : r = q := by
      rcases Nat.lt_trichotomy r q with h | h | h
      · exact absurd (like_symm t hrq) (hq r h)
      · exact h
      · exact absurd hrq (hr q h)
    subst e
    exact like_trans (t + 1) (like_symm (t + 1) r3) q3
theorem rest_next (he : ∀ t ∈ W.sp, t.2.2 < W.n) {t : Nat} (h : Rest W t) : Rest W (t + 1) := fun i j hi hj hl =>
  ⟨hl, fun l hl3 => ⟨fun u hu => by
    obtain ⟨v, hv, e⟩ := (hl.2 l hl3).1 u hu
    exact ⟨v, hv, h u v (beh_lt he hu) (beh_lt he hv) e⟩, fun u hu => by
    obtain ⟨v, hv, e⟩ := (hl.2 l hl3).2 u hu
    exact ⟨v, hv, h v u (beh_lt he hv) (beh_lt he hu) e⟩⟩⟩
theorem rest_by (h1 : 1 ≤ W.n) : ∀ k, (∃ j, j < k ∧ Rest W j) ∨ k + 1 ≤ cls W k
  | 0 => .inr (by
    unfold cls
    refine List.length_pos_of_mem (a := 0) (List.mem_filter.mpr ⟨List.mem_range.mpr h1, isFirst_iff.mpr fun j hj => by omega⟩))
  | k + 1 => by
    rcases rest_by h1 k with ⟨j, hj, hr⟩ | h
    · exact .inl ⟨j, by omega, hr⟩
    · rcases rest_or (W := W) k with hr | hlt
      · exact .inl ⟨k, by omega, hr⟩
      · exact .inr (by omega)
theorem rest_end (he : ∀ t ∈ W.sp, t.2.2 < W.n) (h1 : 1 ≤ W.n) : Rest W (W.n + 1) := by
  rcases rest_by h1 W.n with ⟨j, hj, hr⟩ | h
  · have : ∀ i, Rest W (j + i) := fun i => by
      induction i with
      | zero => exact hr
      | succ i ih => exact rest_next he ih
    have q := this (W.n + 1 - j)
    rw [show j + (W.n + 1 - j) = W.n + 1 by omega] at q
    exact q
  · have := List.length_filter_le (isFirst W W.n) (List.range W.n)
    rw [List.length_range] at this
    unfold cls at h
    omega
/-- a relation that is kept by the steps lies in like -/
theorem like_of {R : Nat → Nat → Prop} (h : ∀ x y, R x y → W.st.getD x [] = W.st.getD y [] ∧ ∀ l < 3, (∀ u ∈ W.beh x l, ∃ v ∈ W.beh y l, R u v) ∧ ∀ v ∈ W.beh y l, ∃ u ∈ W.beh x l, R u v) : ∀ t {x y}, R x y → like W t x y
  | 0, _, _, r => (h _ _ r).1
  | t + 1, _, _, r => ⟨like_of h t r, fun l hl => ⟨fun u hu => by
      obtain ⟨v, hv, e⟩ := ((h _ _ r).2 l hl).1 u hu
      exact ⟨v, hv, like_of h t e⟩, fun v hv => by
      obtain ⟨u, hu, e⟩ := ((h _ _ r).2 l hl).2 v hv
      exact ⟨u, hu, like_of h t e⟩⟩⟩
end
/-! ### the join -/
theorem mem_beh {W : Wd} {s a o : Nat} : o ∈ W.beh s a ↔ (s, a, o) ∈ W.sp := by
  constructor
  · intro h
    obtain ⟨t, ht, rfl, rfl, rfl⟩ := beh_mem h
    exact ht
  · intro h
    unfold Wd.beh
    refine List.mem_map.mpr ⟨_, List.mem_filter.mpr ⟨h, ?_⟩, rfl⟩
    simp
/-- where a state of one of the two stands in the join -/
structure Part (V J : Wd) (k : Nat) : Prop where
  lt : ∀ t, t < V.n → t + k < J.n
  st : ∀ t, t < V.n → J.st.getD (t + k) [] = V.st.getD t []
  beh : ∀ t, t < V.n → ∀ a o, o ∈ J.beh (t + k) a ↔ ∃ u, u ∈ V.beh t a ∧ o = u + k
theorem join_n (V W : Wd) : (joinW V W).n = V.n + W.n := by
  show (V.st ++ W.st).length = _
  rw [List.length_append] <;> rfl
theorem part_left {F : Nat} {V W : Wd} (hV : Good F V) : Part V (joinW V W) 0 := by
  refine ⟨fun t ht => by rw [join_n]; omega, fun t ht => ?_, fun t ht a o => ?_⟩
  · have ht' : t < V.st.length := ht
    show (V.st ++ W.st).getD t [] = _
    rw [List.getD_eq_getElem?_getD, List.getD_eq_getElem?_getD, List.getElem?_append_left ht']
  · rw [mem_beh]
    show (t, a, o) ∈ V.sp ++ W.sp.map (sh V.n) ↔ _
    rw [List.mem_append]
    constructor
    · rintro (h | h)
      · exact ⟨o, mem_beh.mpr h, rfl⟩
      · obtain ⟨x, _, e⟩ := List.mem_map.mp h
        have := congrArg (·.1) e
        simp [sh] at this
        omega
    · rintro ⟨u, hu, rfl⟩
      exact .inl (mem_beh.mp hu)
theorem part_right {F : Nat} {V W : Wd} (hV : Good F V) : Part W (joinW V W) V.n := by
  refine ⟨fun t ht => by rw [join_n]; omega, fun t ht => ?_, fun t ht a o => ?_⟩
  · show (V.st ++ W.st).getD (t + V.n) [] = _
    rw [List.getD_eq_getElem?_getD, List.getD_eq_getElem?_getD, List.getElem?_append_right (by show V.st.length ≤ t + V.st.length; omega)]
    rw [show t + V.n - V.st.length = t by show t + V.st.length - V.st.length = t; omega]
  · rw [mem_beh]
    show (t + V.n, a, o) ∈ V.sp ++ W.sp.map (sh V.n) ↔ _
    rw [List.mem_append]
    constructor
    · rintro (h | h)
      · have := (hV.stay _ h).1
        simp at this
        omega
      · obtain ⟨⟨x1, x2, x3⟩, hx, e⟩ := List.mem_map.mp h
        simp only [sh, Prod.mk.injEq] at e
        obtain ⟨e1, e2, e3⟩ := e
        obtain rfl : x1 = t := by omega
        subst e2
        exact ⟨x3, mem_beh.mpr hx, e3.symm⟩
    · rintro ⟨u, hu, rfl⟩
      exact .inr (List.mem_map.mpr ⟨_, mem_beh.mp hu, rfl⟩)
theorem has_eq {F : Nat} {V W : Wd} {x y : Nat} (h1 : ∃ p : Nat → Bool, V.st.getD x [] = (List.range F).filter p) (h2 : ∃ p : Nat → Bool, W.st.getD y [] = (List.range F).filter p) : (∀ p, p < F → V.has p x = W.has p y) ↔ V.st.getD x [] = W.st.getD y [] := by
  obtain ⟨p, e1⟩ := h1
  obtain ⟨q, e2⟩ := h2
  unfold Wd.has
  rw [e1, e2]
  constructor
  · intro h
    refine List.filter_congr fun z hz => ?_
    have hz' := List.mem_range.mp hz
    have := h z hz'
    rw [Bool.eq_iff_iff, List.contains_iff_mem, List.contains_iff_mem, List.mem_filter, List.mem_filter, List.mem_range] at this
    rw [Bool.eq_iff_iff]
    constructor
    · intro hp
      exact (this.mp ⟨hz', hp⟩).2
    · intro hq
      exact (this.mpr ⟨hz', hq⟩).2
  · intro e p' _
    rw [e]
theorem Good.at {F : Nat} {W : Wd} (h : Good F W) {x : Nat} (hx : x < W.n) : ∃ p : Nat → Bool, W.st.getD x [] = (List.range F).filter p := by
  have hx' : x < W.st.length := hx
  rw [List.getD_eq_getElem?_getD, List.getElem?_eq_getElem hx']
  exact h.facts _ (List.getElem_mem hx')
theorem Good.no_beh {F : Nat} {W : Wd} (h : Good F W) {s a : Nat} (ha : 2 ≤ a) : ∀ o, o ∉ W.beh s a := fun o ho => by
  have := (h.stay _ (mem_beh.mp ho)).2.1
  simp at this
  omega
/-- the portrait's word, read in the join -/
theorem gd_like {F L k : Nat} {W1 V J : Wd} {hs : Nat → Nat → Bool} {fol : Nat → Nat → List Nat} (G1 : Good F W1) (GV : Good F V) (P1 : Part W1 J 0) (PV : Part V J k) (hJe : ∀ t ∈ J.sp, t.2.2 < J.n) (hL2 : 2 ≤ L) (hL3 : L ≤ 3)
    (hhs : hs = W1.has) (hfol : ∀ s a o, o ∈ fol s a ↔ o ∈ W1.beh s a) {ρ : Nat → Nat → Prop} {s t : Nat} (hs1 : s < W1.n) (ht : t < V.n) :
    Gd hs fol L F V [] ρ s t ↔ like J (J.n + 1) s (t + k) := by
  subst hhs
  have hJ1 : 1 ≤ J.n := by have := P1.lt s hs1; omega
  constructor
  · rintro ⟨R, r1, r2⟩
    have rOk : ∀ x y, R x y → Ok W1.has fol L F V R x y := fun x y r => (r2 x y r).2 List.not_mem_nil
    refine like_of (R := fun i j => ∃ y, j = y + k ∧ R i y ∧ i < W1.n) ?_ _ ⟨t, rfl, r1, hs1⟩
    rintro x _ ⟨y, rfl, r, hx⟩
    obtain ⟨hy, hhas, hst⟩ := rOk x y r
    refine ⟨?_, fun l hl => ?_⟩
    · have e1 := P1.st x hx
      rw [Nat.add_zero] at e1
      rw [e1, PV.st y hy]
      exact (has_eq (G1.at hx) (GV.at hy)).mp hhas
    · by_cases hl2 : l < 2
      · obtain ⟨z1, z2⟩ := hst l (by omega)
        refine ⟨fun u hu => ?_, fun v hv => ?_⟩
        · have hu' : u ∈ W1.beh x l := by
            have := (P1.beh x hx l u).mp (by rw [Nat.add_zero]; exact hu)
            obtain ⟨u', hu', e⟩ := this
            rw [e]; exact hu'
          obtain ⟨v, hv, hr⟩ := z1 u ((hfol _ _ _).mpr hu')
          exact ⟨v + k, (PV.beh y hy l _).mpr ⟨v, hv, rfl⟩, v, rfl, hr, (G1.stay _ (mem_beh.mp hu')).2.2⟩
        · obtain ⟨v', hv', rfl⟩ := (PV.beh y hy l v).mp hv
          obtain ⟨u, hu, hr⟩ := z2 v' hv'
          have hu' := (hfol _ _ _).mp hu
          refine ⟨u, ?_, v', rfl, hr, (G1.stay _ (mem_beh.mp hu')).2.2⟩
          have := (P1.beh x hx l u).mpr ⟨u, hu', rfl⟩
          rw [Nat.add_zero] at this
          exact this
      · refine ⟨fun u hu => ?_, fun v hv => ?_⟩
        · obtain ⟨u', hu', _⟩ := (P1.beh x hx l u).mp (by rw [Nat.add_zero]; exact hu)
          exact absurd hu' (G1.no_beh (by omega) _)
        · obtain ⟨v', hv', _⟩ := (PV.beh y hy l v).mp hv
          exact absurd hv' (GV.no_beh (by omega) _)
  · intro h
    refine ⟨fun x y => x < W1.n ∧ y < V.n ∧ like J (J.n + 1) x (y + k), ⟨hs1, ht, h⟩, fun x y ⟨hx, hy, hl⟩ => ⟨fun h => absurd h List.not_mem_nil, fun _ => ?_⟩⟩
    have hx' := P1.lt x hx
    rw [Nat.add_zero] at hx'
    have hl2 := rest_end hJe hJ1 x (y + k) hx' (PV.lt y hy) hl
    refine ⟨hy, ?_, fun a ha => ⟨fun o ho => ?_, fun u hu => ?_⟩⟩
    · have e0 : J.st.getD x [] = J.st.getD (y + k) [] := like_down _ hl
      have e1 := P1.st x hx
      rw [Nat.add_zero] at e1
      rw [e1, PV.st y hy] at e0
      exact (has_eq (G1.at hx) (GV.at hy)).mpr e0
    · have ho' := (hfol _ _ _).mp ho
      have hoJ := (P1.beh x hx a o).mpr ⟨o, ho', rfl⟩
      rw [Nat.add_zero] at hoJ
      obtain ⟨v, hv, e⟩ := (hl2.2 a (by omega)).1 o hoJ
      obtain ⟨v', hv', rfl⟩ := (PV.beh y hy a v).mp hv
      exact ⟨v', hv', (G1.stay _ (mem_beh.mp ho')).2.2, (GV.stay _ (mem_beh.mp hv')).2.2, e⟩
    · have huJ := (PV.beh y hy a _).mpr ⟨u, hu, rfl⟩
      obtain ⟨v, hv, e⟩ := (hl2.2 a (by omega)).2 _ huJ
      have := (P1.beh x hx a v).mp (by rw [Nat.add_zero]; exact hv)
      obtain ⟨v', hv', e2⟩ := this
      obtain rfl : v = v' := e2
      exact ⟨v, (hfol _ _ _).mpr hv', (G1.stay _ (mem_beh.mp hv')).2.2, (GV.stay _ (mem_beh.mp hu)).2.2, e⟩
/-! ### values as lists -/
theorem val_filter {W : Wd} : ∀ (f : Fm) {e : Nat → List Nat}, (∀ x, ∃ p : Nat → Bool, e x = (List.range W.n).filter p) → ∃ p : Nat → Bool, val W f e = (List.range W.n).filter p
  | .tt, _, _ => ⟨fun _ => true, (List.filter_eq_self.mpr fun _ _ => rfl).symm⟩
  | .ff, _, _ => ⟨fun _ => false, (List.filter_eq_nil_iff.mpr fun _ _ => Bool.false_ne_true).symm⟩
  | .has _, _, _ => ⟨_, rfl⟩
  | .lacks _, _, _ => ⟨_, rfl⟩
  | .var x, _, h => h x
  | .and f g, _, _ => ⟨_, rfl⟩
  | .or f g, _, _ => ⟨_, rfl⟩
  | .some a f, _, _ => ⟨_, rfl⟩
  | .all a f, _, _ => ⟨_, rfl⟩
  | .most x f, e, h => by
    show ∃ p : Nat → Bool, iter _ _ (W.n + 1) = _
    generalize W.n + 1 = k
    induction k with
    | zero => exact ⟨fun _ => true, (List.filter_eq_self.mpr fun _ _ => rfl).symm⟩
    | succ k ih =>
      refine val_filter f fun y => ?_
      unfold put
      split
      · exact ih
      · exact h y
theorem filter_mem {n : Nat} {S : List Nat} {q : Nat → Bool} (h : ∃ p : Nat → Bool, S = (List.range n).filter p) (hq : ∀ t, t < n → (t ∈ S ↔ q t = true)) : S = (List.range n).filter q := by
  obtain ⟨p, rfl⟩ := h
  refine List.filter_congr fun t ht => ?_
  have ht' := List.mem_range.mp ht
  rw [Bool.eq_iff_iff, ← hq t ht', List.mem_filter]
  exact ⟨fun h => ⟨ht, h⟩, fun h => h.2⟩
/-- the states that the law holds due -/
def goods (J : Wd) (s : Nat) : List Nat := (List.range J.n).filter fun o => decide ((due J).getD o 0 = (due J).getD s 0)
section
variable {F L k : Nat} {W1 W2 W' : Wd} {s : Nat} (G1 : Good F W1) (G2 : Good F W2) (hst : W'.st = W1.st) (hsp : W'.sp.Perm W1.sp) (hL2 : 2 ≤ L) (hL3 : L ≤ 3) (hs : s < W1.n) (hk : W1.n < k)
include G1 G2 hst hsp hL2 hL3 hs hk
theorem join_ends : ∀ t ∈ (joinW W1 W2).sp, t.2.2 < (joinW W1 W2).n := fun t ht => by
  rw [join_n]
  rcases List.mem_append.mp ht with h | h
  · have := (G1.stay t h).2.2
    omega
  · obtain ⟨x, hx, rfl⟩ := List.mem_map.mp h
    have := (G2.stay x hx).2.2
    show x.2.2 + W1.n < _
    omega
theorem val_due {V : Wd} {m : Nat} (GV : Good F V) (PV : Part V (joinW W1 W2) m) :
    val V (drawn W'.has W'.beh L F k s []) (fun _ => []) = (List.range V.n).filter fun t => decide ((due (joinW W1 W2)).getD (t + m) 0 = (due (joinW W1 W2)).getD s 0) := by
  have hJe := join_ends G1 G2 hst hsp hL2 hL3 hs hk
  have P1 : Part W1 (joinW W1 W2) 0 := part_left G1
  have hfol : ∀ s a o, o ∈ W'.beh s a ↔ o ∈ W1.beh s a := fun s a o => by rw [mem_beh, mem_beh]; exact hsp.mem_iff
  have hhas : W'.has = W1.has := by
    funext p x
    show (W'.st.getD x []).contains p = _
    rw [hst] <;> rfl
  refine filter_mem (val_filter _ fun x => ⟨fun _ => false, (List.filter_eq_nil_iff.mpr fun _ _ => Bool.false_ne_true).symm⟩) fun t ht => ?_
  have hleft : left W1.n [] < k := by
    have h := List.length_filter_le (fun x => !([] : List Nat).contains x) (List.range W1.n)
    rw [List.length_range] at h
    unfold left
    omega
  have e1 := portrait_gd (hs := W'.has) (fol := W'.beh) (L := L) (F := F) (V := V) (n := W1.n) (fun u a v h => (GV.stay _ (mem_beh.mp h)).2.2) (fun s a o h => (G1.stay _ (mem_beh.mp ((hfol s a o).mp h))).2.2) k s [] (fun _ => []) hs hleft (fun x y hy => by cases hy) t
  rw [e1, gd_like G1 GV P1 PV hJe hL2 hL3 hhas hfol hs ht, decide_eq_true_iff]
  have hs' := P1.lt s hs
  rw [Nat.add_zero] at hs'
  rw [due_like hJe (PV.lt t ht) hs']
  exact ⟨like_symm _, like_symm _⟩
theorem first_due : val W1 (drawn W'.has W'.beh L F k s []) (fun _ => []) = (goods (joinW W1 W2) s).filter fun o => decide (o < W1.n) := by
  rw [val_due G1 G2 hst hsp hL2 hL3 hs hk G1 (part_left G1)]
  unfold goods
  rw [join_n, List.range_add, List.filter_append, List.filter_append, List.filter_filter, List.filter_filter]
  rw [show (List.filter (fun a => decide (a < W1.n) && decide ((due (joinW W1 W2)).getD a 0 = (due (joinW W1 W2)).getD s 0)) (List.map (fun x => W1.n + x) (List.range W2.n))) = [] from List.filter_eq_nil_iff.mpr fun x hx => by
    obtain ⟨y, _, rfl⟩ := List.mem_map.mp hx
    simp only [Bool.and_eq_true, decide_eq_true_eq]
    exact fun h => by omega]
  rw [List.append_nil]
  refine List.filter_congr fun x hx => ?_
  rw [decide_eq_true (List.mem_range.mp hx), Bool.true_and, Nat.add_zero]
theorem second_due : val W2 (drawn W'.has W'.beh L F k s []) (fun _ => []) = ((goods (joinW W1 W2) s).filter fun o => decide (W1.n ≤ o)).map fun o => o - W1.n := by
  rw [val_due G1 G2 hst hsp hL2 hL3 hs hk G2 (part_right G1)]
  unfold goods
  rw [join_n, List.range_add, List.filter_append, List.filter_append, List.filter_filter, List.filter_filter]
  rw [show (List.filter (fun a => decide (W1.n ≤ a) && decide ((due (joinW W1 W2)).getD a 0 = (due (joinW W1 W2)).getD s 0)) (List.range W1.n)) = [] from List.filter_eq_nil_iff.mpr fun x hx => by
    have := List.mem_range.mp hx
    simp
    omega]
  rw [List.nil_append, List.filter_map, List.map_map]
  rw [show ((fun o => o - W1.n) ∘ fun x => W1.n + x) = id from funext fun x => by simp, List.map_id]
  refine List.filter_congr fun x hx => ?_
  show _ = (decide (W1.n ≤ W1.n + x) && decide _)
  rw [decide_eq_true (Nat.le_add_right _ _), Bool.true_and, Nat.add_comm]
end
/-! ### the portrait is closed, and not high -/
theorem cl_foldl {b : Fm → Fm → Fm} {bs : List Nat} (hb : ∀ f g, Cl f bs → Cl g bs → Cl (b f g) bs) : ∀ (l : List Fm) (f : Fm), Cl f bs → (∀ g ∈ l, Cl g bs) → Cl (l.foldl b f) bs
  | [], _, h, _ => h
  | g :: l, f, h, hl => cl_foldl hb l (b f g) (hb f g h (hl g List.mem_cons_self)) fun x hx => hl x (List.mem_cons_of_mem _ hx)
theorem cl_conj {bs : List Nat} {l : List Fm} (h : ∀ g ∈ l, Cl g bs) : Cl (conj l) bs := by
  cases l with
  | nil => exact trivial
  | cons f r => exact cl_foldl (b := .and) (fun _ _ a b => ⟨a, b⟩) r f (h f List.mem_cons_self) fun x hx => h x (List.mem_cons_of_mem _ hx)
theorem cl_disj {bs : List Nat} {l : List Fm} (h : ∀ g ∈ l, Cl g bs) : Cl (disj l) bs := by
  cases l with
  | nil => exact trivial
  | cons f r => exact cl_foldl (b := .or) (fun _ _ a b => ⟨a, b⟩) r f (h f List.mem_cons_self) fun x hx => h x (List.mem_cons_of_mem _ hx)
theorem hgt_foldl {b : Fm → Fm → Fm} (hb : ∀ f g, hgt (b f g) = max (hgt f) (hgt g) + 1) {m : Nat} : ∀ (l : List Fm) (f : Fm) (k : Nat), hgt f ≤ m + k → (∀ g ∈ l, hgt g ≤ m) → hgt (l.foldl b f) ≤ m + k + l.length
  | [], _, _, h, _ => h
  | g :: l, f, k, h, hl => by
    have q := hgt_foldl hb (m := m) l (b f g) (k + 1) (by rw [hb]; have := hl g List.mem_cons_self; omega) fun x hx => hl x (List.mem_cons_of_mem _ hx)
    show hgt (l.foldl b (b f g)) ≤ _
    rw [List.length_cons]
    omega
theorem hgt_conj {m : Nat} {l : List Fm} (h1 : 1 ≤ m) (h : ∀ g ∈ l, hgt g ≤ m) : hgt (conj l) ≤ m + l.length := by
  cases l with
  | nil => exact h1
  | cons f r =>
    have q := hgt_foldl (b := .and) (fun _ _ => rfl) r f 0 (h f List.mem_cons_self) fun x hx => h x (List.mem_cons_of_mem _ hx)
    show hgt (r.foldl .and f) ≤ _
    rw [List.length_cons]
    omega
theorem hgt_disj {m : Nat} {l : List Fm} (h1 : 1 ≤ m) (h : ∀ g ∈ l, hgt g ≤ m) : hgt (disj l) ≤ m + l.length := by
  cases l with
  | nil => exact h1
  | cons f r =>
    have q := hgt_foldl (b := .or) (fun _ _ => rfl) r f 0 (h f List.mem_cons_self) fun x hx => h x (List.mem_cons_of_mem _ hx)
    show hgt (r.foldl .or f) ≤ _
    rw [List.length_cons]
    omega
section
variable {hs : Nat → Nat → Bool} {fol : Nat → Nat → List Nat} {L F : Nat}
theorem cl_drawn : ∀ (k s : Nat) (ar : List Nat), Cl (drawn hs fol L F k s ar) ar
  | 0, _, _ => trivial
  | k + 1, s, ar => by
    unfold drawn
    by_cases h : ar.contains s = true
    · rw [if_pos h]
      exact List.contains_iff_mem.mp h
    · rw [if_neg h]
      show Cl (conj _) (ar ++ [s])
      refine cl_conj fun g hg => ?_
      rcases List.mem_append.mp hg with hg | hg
      · obtain ⟨p, _, rfl⟩ := List.mem_map.mp hg
        split <;> exact trivial
      · obtain ⟨a, _, hg⟩ := List.mem_flatMap.mp hg
        rcases List.mem_append.mp hg with hg | hg
        · obtain ⟨o, _, rfl⟩ := List.mem_map.mp hg
          exact cl_drawn k o (ar ++ [s])
        · rw [List.mem_singleton.mp hg]
          refine cl_disj fun g hg => ?_
          obtain ⟨o, _, rfl⟩ := List.mem_map.mp hg
          exact cl_drawn k o (ar ++ [s])
theorem hgt_drawn {n : Nat} (hf : ∀ s a o, o ∈ fol s a → o < n) (h6 : ∀ s a, (fol s a).length ≤ 6) (hL : L ≤ 3) (hF : F ≤ 2) : ∀ (k s : Nat) (ar : List Nat), s < n → hgt (drawn hs fol L F k s ar) ≤ 31 * left n ar + 1
  | 0, _, _, _ => by show 1 ≤ _; omega
  | k + 1, s, ar, hsn => by
    unfold drawn
    by_cases h : ar.contains s = true
    · rw [if_pos h]
      show 1 ≤ _
      omega
    · rw [if_neg h]
      have hna : s ∉ ar := fun z => h (List.contains_iff_mem.mpr z)
      have hl := left_add hsn hna
      generalize hm : 31 * left n (ar ++ [s]) + 1 = m
      have ih : ∀ o, o < n → hgt (drawn hs fol L F k o (ar ++ [s])) ≤ m := fun o ho => by rw [← hm]; exact hgt_drawn hf h6 hL hF k o (ar ++ [s]) ho
      show hgt (conj _) + 1 ≤ _
      refine Nat.le_trans (Nat.add_le_add_right (hgt_conj (m := m + 7) (by omega) fun g hg => ?_) 1) ?_
      · rcases List.mem_append.mp hg with hg | hg
        · obtain ⟨p, _, rfl⟩ := List.mem_map.mp hg
          split <;> (show 1 ≤ _; omega)
        · obtain ⟨a, _, hg⟩ := List.mem_flatMap.mp hg
          rcases List.mem_append.mp hg with hg | hg
          · obtain ⟨o, ho, rfl⟩ := List.mem_map.mp hg
            have := ih o (hf _ _ _ ho)
            show hgt _ + 1 ≤ _
            omega
          · rw [List.mem_singleton.mp hg]
            have q := hgt_disj (m := m) (l := (fol s a).map fun o => drawn hs fol L F k o (ar ++ [s])) (by omega) fun g hg => by
              obtain ⟨o, ho, rfl⟩ := List.mem_map.mp hg
              exact ih o (hf _ _ _ ho)
            rw [List.length_map] at q
            have := h6 s a
            show hgt _ + 1 ≤ _
            omega
      · have hlen : ∀ i, i ≤ 3 → ((List.range i).flatMap fun a => ((fol s a).map fun o => Fm.some a (drawn hs fol L F k o (ar ++ [s]))) ++ [.all a (disj ((fol s a).map fun o => drawn hs fol L F k o (ar ++ [s])))]).length ≤ 7 * i := fun i hi => by
          induction i with
          | zero => exact Nat.le_refl _
          | succ i ih2 =>
            have := ih2 (by omega)
            have h6' := h6 s i
            rw [List.range_succ, List.flatMap_append, List.length_append]
            simp only [List.flatMap_cons, List.flatMap_nil, List.append_nil, List.length_append, List.length_map, List.length_cons, List.length_nil]
            omega
        have := hlen L hL
        have hsl : (shown hs F s).length ≤ 2 := by
          unfold shown
          rw [List.length_map, List.length_range]
          exact hF
        rw [List.length_append]
        omega
end
end K20
namespace K20
open PySem L2 Pm
section
variable {P : Program} {w : World} {K : PySem.W.Frag} {mg : Str → Option Value} {base : Heap}
theorem TupAt.tups {H H' : Hp} (e : Tups H H') {t : List Nat} {v : V} : TupAt K H t v → TupAt K H' t v := fun ⟨a, h, s⟩ => ⟨a, h, e.seq s⟩
theorem ObAt.but {C d : Addr} {H H' : Hp} {W : Wd} {v : V} {zs : List V} (b : But d H H') (hd : H d = some (.lst zs)) (h : ObAt K C H W v) : ObAt K C H' W v := by
  obtain ⟨x, dx, fs, a1, a2, xs, ys, h0, h1, h2, h3, h4, h5, h6, h7⟩ := h
  have tu := Tups.but b hd
  exact ⟨x, dx, fs, a1, a2, xs, ys, h0, b _ _ (ne_of h1 hd fun q => by cases q) h1, h2, h3, tu.seq h4, Each.imp (fun _ _ => TupAt.tups tu) h5, tu.seq h6, Each.imp (fun _ _ => StepAt.tups tu) h7⟩
abbrev numD (l : List Nat) : List PyData := l.map fun (n : Nat) => .int (n : Int)
theorem dp_all {H : Hp} : ∀ l : List Nat, DpAll K H (nvs l) (numD l)
  | [] => .nil
  | x :: l => .cons (.int _) (dp_all l)
theorem dp_nvs {H : Hp} {p : Addr} {l : List Nat} (h : SqL K H p (nvs l)) : Dp K H (.ref p) (.list (numD l)) := .lst h (dp_all l)
theorem numD_datas (l : List Nat) : numD l = NestedKey.datas (numK l) := by
  rw [datas_map]
  simp [numD, numK, NestedKey.data]
theorem nums_shaped (l : List Nat) : SeqAt.shaped (.list (numD l)) = true := by
  rw [numD_datas]
  exact keys_shaped (fun k hk => ((numK_ok l).fit k hk).1) fun k hk => Nat.le_trans ((numK_ok l).dep k hk) (by decide)
theorem nums_eqv (l : List Nat) : PyData.eqv (.list (numD l)) (.list (numD l)) = true := SeqAt.eqv_refl _ (SeqAt.canLay_of_shaped (nums_shaped l))
theorem cut_to6 (xs : List V) : cutV xs none (some 6) = xs.take 6 := by
  unfold cutV
  rw [show HT.sIx xs.length xs.length (some 6) = min 6 xs.length from HT.sIx_nat xs.length xs.length 6, HT.sIx_none, List.drop_zero, Nat.sub_zero]
  rcases Nat.le_total 6 xs.length with h | h
  · rw [Nat.min_eq_left h]
  · rw [Nat.min_eq_right h, List.take_length, List.take_of_length_le h]
theorem flat_rep (n : Nat) (v : V) : (List.replicate n [v]).flatten = List.replicate n v := by
  induction n with
  | zero => rfl
  | succ n ih => rw [List.replicate_succ, List.flatten_cons, ih] <;> rfl
theorem each_rep {α : Type} {R : α → V → Prop} {x : α} {v : V} (h : v = v → R x v) : ∀ n, Each R (List.replicate n x) (List.replicate n v)
  | 0 => rfl
  | n + 1 => ⟨v, _, rfl, h rfl, each_rep h n⟩
def spLaw (K : PySem.W.Frag) : Sp := fun vs H Q _ => ∃ (a : Addr) (ns : List Int), vs = [.ref a] ∧ SqL K H a (ns.map V.int) ∧ ns.length ≤ 63 ∧ ∀ H', Q (.bl true) H'
abbrev nLaw : List Str := ["_law_script", "_law_draws_here", "_law_facts", "_law_first", "_law_second", "_law_large", "_law_state", "_law_found", "_law_both", "_law_due", "_law_good", "_law_shift", "_law_other"]
theorem scLaw : FnScope nLaw ["_law_script"] (defScope sLaw) := ⟨rfl, rfl, rfl, by decide +kernel, rfl, by decide +kernel, by decide +kernel⟩
theorem ok_law {f fD fT fW fM fO fS fF fB fC fV C : Addr} {fd dD dT dW dM dO dS dF dB dC dV : FuncData} (F : Fun K "law" "law" sLaw f fd) (B : Blt mg)
    (GD : FnOk P w K mg base CX0 1 fD dD ["_law_script", "_law_count"] (spDraws K)) (mD : mg "_law_draws" = some (.ref fD)) (kD : PySem.W.keepIn K (.ref fD) = true) (bD : Binds K dD ["_law_script", "_law_count"] [])
    (GT : FnOk P w K mg base CX0 1 fT dT ["_law_draws_here", "_law_limit"] spTake) (mT : mg "_law_take" = some (.ref fT)) (kT : PySem.W.keepIn K (.ref fT) = true) (bT : Binds K dT ["_law_draws_here", "_law_limit"] [])
    (GW : FnOk P w K mg base CX0 2 fW dW ["_law_draws_here", "_law_most", "_law_facts"] (spWorld K)) (mW : mg "_law_world" = some (.ref fW)) (kW : PySem.W.keepIn K (.ref fW) = true) (bW : Binds K dW ["_law_draws_here", "_law_most", "_law_facts"] [])
    (GM : FnOk P w K mg base CX0 4 fM dM ["_law_world_here", "_law_labels", "_law_facts"] (spMade K C)) (mM : mg "_law_made" = some (.ref fM)) (kM : PySem.W.keepIn K (.ref fM) = true) (bM : Binds K dM ["_law_world_here", "_law_labels", "_law_facts"] [])
    (GO : FnOk P w K mg base CX0 9 fO dO ["_law_world_here", "_law_state", "_law_labels", "_law_facts"] (spOut K C)) (mO : mg "_law_outcome" = some (.ref fO)) (kO : PySem.W.keepIn K (.ref fO) = true) (bO : Binds K dO ["_law_world_here", "_law_state", "_law_labels", "_law_facts"] [])
    (GS : FnOk P w K mg base CX0 95 fS dS ["_law_actual", "_law_depth"] (spIsSt K 94)) (mS : mg "_law_is_statement" = some (.ref fS)) (kS : PySem.W.keepIn K (.ref fS) = true) (bS : Binds K dS ["_law_actual", "_law_depth"] [])
    (GF : FnOk P w K mg base CX0 95 fF dF ["_law_statement", "_law_bound"] (spFree K 94)) (mF : mg "_law_free" = some (.ref fF)) (kF : PySem.W.keepIn K (.ref fF) = true) (bF : Binds K dF ["_law_statement", "_law_bound"] [])
    (GB : FnOk P w K mg base CX0 1 fB dB ["_law_first", "_law_second"] (spBeside K)) (mB : mg "_law_beside" = some (.ref fB)) (kB : PySem.W.keepIn K (.ref fB) = true) (bB : Binds K dB ["_law_first", "_law_second"] [])
    (GC : FnOk P w K mg base CX0 2 fC dC ["_law_world_here"] (spClasses K)) (mC : mg "_law_classes" = some (.ref fC)) (kC : PySem.W.keepIn K (.ref fC) = true) (bC : Binds K dC ["_law_world_here"] [])
    (GV : FnOk P w K mg base CX0 96 fV dV ["_law_world_here", "_law_statement"] (spTruth K 94)) (mV : mg "_law_truth" = some (.ref fV)) (kV : PySem.W.keepIn K (.ref fV) = true) (bV : Binds K dV ["_law_world_here", "_law_statement"] []) :
    FnOk P w K mg base CX0 97 f fd ["_law_script"] (spLaw K) := by
  refine F.ok scLaw (fun vs H Q E h => ?_) (fun cdv A outer s H vs Q E hr h => ?_)
  · obtain ⟨a, ns, rfl, _⟩ := h
    rfl
  obtain ⟨a, ns, rfl, ha, hz, q⟩ := h
  have hr96 : Room 96 _ := hr
  have hr95 : Room 95 _ := hr.mono (by decide)
  have hr9 : Room 9 _ := hr.mono (by decide)
  have hr4 : Room 4 _ := hr.mono (by decide)
  have hr2 : Room 2 _ := hr.mono (by decide)
  have hr1 : Room 1 _ := hr.mono (by decide)
  refine ⟨_, pss_cons (ps_set (i := 1) scLaw.nd rfl (.inl rfl) (pe_call GD hr1 rfl mD kD bD .nil pass0 (pa_cons (pv 0) (pa_cons pe_int pa_nil))))     (Evl.pss_cut (ps_set (i := 2) scLaw.nd rfl (.inl rfl) (pe_op op_add pe_int (pe_call GT hr1 rfl mT kT bT .nil pass0 (pa_cons (pv 1) (pa_cons pe_int pa_nil)))))     (pss_cons (ps_set (i := 3) scLaw.nd rfl (.inl rfl) (pe_call GW hr2 rfl mW kW bW .nil pass0 (pa_cons (pv 1) (pa_cons pe_int (pa_cons (pv 2) pa_nil)))))     (Evl.pss_cut (ps_set (i := 3) scLaw.nd rfl (.inl rfl) (pe_tup (pa_cons (pe_ix ix_tup (pv 3) pe_int (fun _ _ => rfl)) (pa_cons (pe_slice sl_list (pe_ix ix_tup (pv 3) pe_int (fun _ _ => rfl)) po_none (po_some pe_int)) pa_nil))))     (Evl.pss_cut (ps_set (i := 4) scLaw.nd rfl (.inl rfl) (pe_call GW hr2 rfl mW kW bW .nil pass0 (pa_cons (pv 1) (pa_cons pe_int (pa_cons (pv 2) pa_nil)))))     (Evl.pss_cut (ps_if (pt_cmpR op_eq (pe_call GT hr1 rfl mT kT bT .nil pass0 (pa_cons (pv 1) (pa_cons pe_int pa_nil))) pe_int (nomark _)) (pss_cons (ps_set (i := 5) scLaw.nd rfl (.inl rfl) (pe_tup (pa_cons (pe_op op_rep (pe_lst (pa_cons (pe_lst pa_nil) pa_nil)) (pe_op op_add pe_int (pe_call GT hr1 rfl mT kT bT .nil pass0 (pa_cons (pv 1) (pa_cons pe_int pa_nil))))) (pa_cons (pe_lst pa_nil) pa_nil))))     (pss_one (ps_ret (pe_cmp (pc_isN (pe_call GO hr9 rfl mO kO bO .nil pass0 (pa_cons (pe_call GM hr4 rfl mM kM bM .nil pass0 (pa_cons (pv 5) (pa_cons pe_int (pa_cons pe_int pa_nil)))) (pa_cons pe_int (pa_cons pe_int (pa_cons pe_int pa_nil)))))))))) pss_nil)     (Evl.pss_cut (ps_set (i := 6) scLaw.nd rfl (.inr rfl) (pe_call GT hr1 rfl mT kT bT .nil pass0 (pa_cons (pv 1) (pa_cons (pe_callB call_ln (by rfl) B.len PySem.boot_len (pa_cons (pe_ix ix_tup (pv 3) pe_int (fun _ _ => rfl)) pa_nil)) pa_nil))))     (Evl.pss_cut (ps_set (i := 7) scLaw.nd rfl (.inl rfl) (pe_call GO hr9 rfl mO kO bO .nil pass0 (pa_cons (pe_call GM hr4 rfl mM kM bM .nil pass0 (pa_cons (pv 3) (pa_cons pe_int (pa_cons (pv 2) pa_nil)))) (pa_cons (pv 6) (pa_cons (pe_op op_add pe_int (pe_call GT hr1 rfl mT kT bT .nil pass0 (pa_cons (pv 1) (pa_cons pe_int pa_nil)))) (pa_cons (pv 2) pa_nil))))))     (Evl.pss_cut (ps_if (PW.pt (pw_or (pt_not (pt_val (pe_call GS hr95 rfl mS kS bS .nil pass0 (pa_cons (pv 7) (pa_cons pe_int pa_nil))))) (pw_or1 (pt_cmpR op_gt (pe_callB call_ln (by rfl) B.len PySem.boot_len (pa_cons (pe_call GF hr95 rfl mF kF bF .nil pass0 (pa_cons (pv 7) (pa_cons (pe_lst pa_nil) pa_nil))) pa_nil)) pe_int (nomark _))))) (pss_one (ps_ret pe_bl)) pss_nil)     (pss_cons (ps_set (i := 8) scLaw.nd rfl (.inl rfl) (pe_call GB hr1 rfl mB kB bB .nil pass0 (pa_cons (pv 3) (pa_cons (pv 4) pa_nil))))     (pss_cons (ps_set (i := 9) scLaw.nd rfl (.inr rfl) (pe_call GC hr2 rfl mC kC bC .nil pass0 (pa_cons (pv 8) pa_nil)))     (Evl.pss_cut (ps_setLc (i := 10) (own := [("_law_other", 12)]) (g := gName 12) rfl scLaw.nd rfl rfl (sw_true rfl rfl rfl (by decide +kernel)) (pi_range1 (by rfl) B.range (pa_cons (pe_callB call_ln (by rfl) B.len PySem.boot_len (pa_cons (pv 9) pa_nil)) pa_nil))         (blkOk_by (own := [("_law_other", 12)]) (N := nLaw) (sc := defScope sLaw) (by decide +kernel)) (fun _ _ _ _ _ => pg_name (i := 12) scLaw.nd rfl (.inl rfl)) (fun _ _ _ _ _ => pts_one (pt_cmpR op_eq (pe_ix (r := rIxT K) ix_tup (pv 9) (pv 12) (fun _ _ => rfl)) (pe_ix (r := rIxT K) ix_tup (pv 9) (pv 6) (fun _ _ => rfl)) (nomark _))) (fun _ _ _ _ _ => (pv 12)))     (pss_cons (ps_set (i := 11) scLaw.nd rfl (.inr rfl) (pe_callB call_ln (by rfl) B.len PySem.boot_len (pa_cons (pe_ix ix_tup (pv 3) pe_int (fun _ _ => rfl)) pa_nil)))     (Evl.pss_cut (ps_if (pt_cmpR (op_neD hr.units) (pe_call GV hr96 rfl mV kV bV .nil pass0 (pa_cons (pv 3) (pa_cons (pv 7) pa_nil))) (pe_lc (own := [("_law_other", 12)]) (g := gName 12) rfl scLaw.nd (pi_list (pv 10))         (blkOk_by (own := [("_law_other", 12)]) (N := nLaw) (sc := defScope sLaw) (by decide +kernel)) (fun _ _ _ _ _ => pg_name (i := 12) scLaw.nd rfl (.inl rfl)) (fun _ _ _ _ _ => pts_one (pt_cmpR op_lt (pv 12) (pv 11) (nomark _))) (fun _ _ _ _ _ => (pv 12))) (nomark _)) (pss_one (ps_ret pe_bl)) pss_nil)     (pss_one (ps_ret (pe_cmpR (op_eqD hr.units) (pe_call GV hr96 rfl mV kV bV .nil pass0 (pa_cons (pv 4) (pa_cons (pv 7) pa_nil))) (pe_lc (own := [("_law_other", 12)]) (g := gName 12) rfl scLaw.nd (pi_list (pv 10))         (blkOk_by (own := [("_law_other", 12)]) (N := nLaw) (sc := defScope sLaw) (by decide +kernel)) (fun _ _ _ _ _ => pg_name (i := 12) scLaw.nd rfl (.inl rfl)) (fun _ _ _ _ _ => pts_one (pt_cmpR op_ge (pv 12) (pv 11) (nomark _))) (fun _ _ _ _ _ => (pe_op op_sub (pv 12) (pv 11)))) (nomark _))))))))))))))))), ?_⟩
  refine ⟨_, rfl, a, ns, 250, rfl, ha, by omega, by decide, fun H1 d ds1 _ _ hd1 => ?_⟩
  -- facts
  refine ⟨fun σ' H' => ∃ (Fc : Nat) (ds : List Int), σ' = [some (.ref a), some (.ref d), some (nv Fc), none, none, none, none, none, none, none, none, none, none] ∧ 1 ≤ Fc ∧ Fc ≤ 2 ∧ H' d = some (.lst (ds.map V.int)), ?_, ?_⟩
  · refine ⟨_, rfl, d, 2, ds1, rfl, hd1, by decide, fun H2 z ds2 hz2 _ hd2 _ => ⟨_, _, rfl, rfl, z + 1, ds2, ?_, by omega, by omega, hd2⟩⟩
    show [some (V.ref a), some (V.ref d), some (V.int (1 + (z : Int))), none, none, none, none, none, none, none, none, none, none] = _
    rw [show (1 + (z : Int)) = ((z + 1 : Nat) : Int) by omega]
  clear hd1 ds1
  rintro _ H1 ⟨Fc, ds1, rfl, hF1, hF2, hd1⟩
  -- the first world
  refine ⟨_, rfl, _, rfl, d, 3, Fc, ds1, rfl, hd1, by decide, by decide, by omega, fun H2 v0 W0 ds2 _ hd2 hW0 G0 hn0 _ => ?_⟩
  refine ⟨fun σ' H' => ∃ (v1 : V) (W1 : Wd) (ds : List Int), σ' = [some (.ref a), some (.ref d), some (nv Fc), some v1, none, none, none, none, none, none, none, none, none] ∧ H' d = some (.lst (ds.map V.int)) ∧ WdAt K (off d H') W1 v1 ∧ Good Fc W1 ∧ W1.n ≤ 3 ∧ W1.sp.length ≤ 6, ?_, ?_⟩
  · obtain ⟨aw, bw, cw, xs, ys, rfl, hA, hB, hX, hC, hY⟩ := hW0
    have o2 : Same (off d H2) H2 := off_same
    refine ⟨_, rfl, aw, _, 0, _, rfl, rfl, o2.seqT hA, atI_nat (j := 0) rfl, _, rfl, aw, _, 1, _, rfl, rfl, o2.seqT hA, atI_nat (j := 1) rfl, 6, rfl, cw, ys, rfl, o2.seq hC, fun p hp => ⟨by show 2 ≤ sizeLine; decide, fun t ht => ?_⟩⟩
    rw [cut_to6] at ht ⊢
    have s3 := same_new (o := .lst (ys.take 6)) hp
    have s4 := s3.and_new (o := .tup [V.ref bw, V.ref p]) ht
    have hpd : p ≠ d := fun e => by rw [e, hd2] at hp; cases hp
    have htd : t ≠ d := fun e => by rw [e, s3 _ _ hd2] at ht; cases ht
    have so := (But.of (d := d) s4).off
    refine ⟨.ref t, ⟨W0.st, W0.sp.take 6⟩, ds2, rfl, s4 _ _ hd2, ⟨t, bw, p, xs, ys.take 6, rfl, SqT.of (by rw [off_at htd, upd_same]), so.seq hB, Each.imp (fun _ _ => LstAt.same so) hX, SqL.of ?_, Each.take 6 (Each.imp (fun _ _ => StepAt.same so) hY)⟩, ?_, hn0, ?_⟩
    · rw [off_at hpd]
      exact (same_new ht) _ _ upd_same
    · refine ⟨G0.pos, G0.few, G0.facts, fun x hx => G0.stay x (List.mem_of_mem_take hx), G0.once.sublist (List.take_sublist _ _), ?_⟩
      have := (List.take_sublist 6 W0.sp).length_le
      have := G0.short
      show (W0.sp.take 6).length ≤ 60
      omega
    · show (W0.sp.take 6).length ≤ 6
      exact List.length_take_le _ _
  clear hd1 hW0 G0 hn0 hd2
  rintro _ H2 ⟨v1, W1, ds2, rfl, hd2, hW1, G1, hn1, hs1⟩
  -- the second
  refine ⟨fun σ' H' => ∃ (v2 : V) (W2 : Wd) (ds : List Int), W2.sp.length ≤ 50 ∧ σ' = [some (.ref a), some (.ref d), some (nv Fc), some v1, some v2, none, none, none, none, none, none, none, none] ∧ H' d = some (.lst (ds.map V.int)) ∧ WdAt K (off d H') W1 v1 ∧ WdAt K (off d H') W2 v2 ∧ Good Fc W2 ∧ W2.n ≤ 5, ?_, ?_⟩
  · refine ⟨_, rfl, _, rfl, d, 5, Fc, ds2, rfl, hd2, by decide, by decide, by omega, fun H3 v2 W2 ds3 b3 hd3 hW2 G2 hn2 hs2 => ?_⟩
    exact ⟨v2, W2, ds3, hs2, rfl, hd3, WdAt.same b3.off hW1, hW2, G2, hn2⟩
  clear hW1 hd2
  rintro _ H2 ⟨v2, W2, ds2, hs2, rfl, hd2, hW1, hW2, G2, hn2⟩
  -- the large world
  refine ⟨fun σ' H' => ∃ (ds : List Int), [some (.ref a), some (.ref d), some (nv Fc), some v1, some v2, none, none, none, none, none, none, none, none] = σ' ∧ H' d = some (.lst (ds.map V.int)) ∧ WdAt K (off d H') W1 v1 ∧ WdAt K (off d H') W2 v2, ?_, ?_⟩
  · refine ⟨_, rfl, d, 8, ds2, rfl, hd2, by decide, fun H3 z ds3 hz3 b3 hd3 _ => ⟨rfl, _, rfl, ite2 (fun c => ?_) (fun c => ?_)⟩⟩
    · refine ⟨Nat.zero_le _, fun e he => ⟨by show 1 ≤ sizeLine; decide, fun l hl => ?_⟩⟩
      have n1 := same_new (o := .lst []) he
      have n2 := n1.and_new (o := .lst [V.ref e]) hl
      refine ⟨_, rfl, d, 2, ds3, rfl, n2 _ _ hd3, by decide, fun H4 z4 ds4 hz4 b4 hd4 _ => ⟨_, _, rfl, rfl, ?_⟩⟩
      have hed : e ≠ d := fun e' => by rw [e', hd3] at he; cases he
      have hld : l ≠ d := fun e' => by rw [e', n1 _ _ hd3] at hl; cases hl
      have hl4 := b4 _ _ hld upd_same
      have he4 := b4 _ _ hed ((same_new hl) _ _ upd_same)
      have ek : (6 + (z4 : Int)).toNat = 6 + z4 := by omega
      refine ⟨l, 6 + (z4 : Int), _, rfl, rfl, hl4, by omega, by omega, ?_, fun p hp => ⟨Nat.zero_le _, fun p2 hp2 => ⟨by show 2 ≤ sizeLine; decide, fun t ht => ?_⟩⟩⟩
      · rw [ek]
        exact small (by show 1 * (6 + z4) ≤ 1000; omega)
      rw [ek, flat_rep] at hp2 ht ⊢
      have n5 := same_new (o := .lst (List.replicate (6 + z4) (V.ref e))) hp
      have n6 := same_new (o := .lst []) hp2
      have n7 := same_new (o := .tup [V.ref p, V.ref p2]) ht
      have he7 := n7 _ _ (n6 _ _ (n5 _ _ he4))
      refine ⟨_, rfl, .ref t, 1, 0, ⟨List.replicate (6 + z4) [], []⟩, rfl, ⟨t, p, p2, List.replicate (6 + z4) (.ref e), [], rfl, SqT.of upd_same, SqL.of (n7 _ _ (n6 _ _ upd_same)), each_rep (fun v => ⟨e, v, SqL.of he7⟩) _, SqL.of (n7 _ _ upd_same), rfl⟩, ⟨by decide, by decide, by decide, ?_, ?_, fun l hl => ⟨fun _ => true, ?_⟩, fun x hx => (by cases hx), List.nodup_nil, Nat.zero_le _⟩, fun H8 v' W' s8 hst hsp hob => ?_⟩
      · show 1 ≤ (List.replicate (6 + z4) []).length
        rw [List.length_replicate]
        omega
      · show (List.replicate (6 + z4) []).length ≤ 20
        rw [List.length_replicate]
        omega
      · rw [(List.mem_replicate.mp hl).2]
        rfl
      · have hWn : W'.n = 6 + z4 := by
          show W'.st.length = _
          rw [hst]
          show (List.replicate (6 + z4) []).length = _
          rw [List.length_replicate]
        exact ⟨v', 0, 2, 1, W', rfl, hob, fun _ H9 _ => q H9, fun h => by omega⟩
    · exact ⟨ds3, rfl, hd3, WdAt.same b3.off hW1, WdAt.same b3.off hW2⟩
  clear hd2 hW1 hW2
  rintro _ H2 ⟨ds2, rfl, hd2, hW1, hW2⟩
  -- the state
  refine ⟨fun σ' H' => ∃ (s : Nat) (ds : List Int), [some (.ref a), some (.ref d), some (nv Fc), some v1, some v2, none, some (nv s), none, none, none, none, none, none] = σ' ∧ s < W1.n ∧ H' d = some (.lst (ds.map V.int)) ∧ WdAt K (off d H') W1 v1 ∧ WdAt K (off d H') W2 v2, ?_, ?_⟩
  · obtain ⟨aw, bw, cw, xs, ys, rfl, hA, hB, hX, hC, hY⟩ := id hW1
    have o2 : Same (off d H2) H2 := off_same
    have hxl : xs.length = W1.n := Each.length hX
    have := G1.pos
    refine ⟨_, rfl, _, rfl, aw, _, 0, _, rfl, rfl, o2.seqT hA, atI_nat (j := 0) rfl, bw, xs, rfl, .inl (o2.seq hB), d, xs.length, ds2, rfl, hd2, by omega, fun H3 z ds3 hz3 b3 hd3 _ => ?_⟩
    exact ⟨z, ds3, rfl, by omega, hd3, WdAt.same b3.off hW1, WdAt.same b3.off hW2⟩
  clear hd2 hW1 hW2
  rintro _ H2 ⟨s, ds2, rfl, hs, hd2, hW1, hW2⟩
  -- the portrait
  refine ⟨fun σ' H' => ∃ (u : V) (L : Nat) (W' : Wd), [some (.ref a), some (.ref d), some (nv Fc), some v1, some v2, none, some (nv s), some u, none, none, none, none, none] = σ' ∧ FmAt K H' (drawn W'.has W'.beh L Fc fuel s []) u ∧ W'.st = W1.st ∧ W'.sp.Perm W1.sp ∧ 2 ≤ L ∧ L ≤ 3 ∧ WdAt K H' W1 v1 ∧ WdAt K H' W2 v2, ?_, ?_⟩
  · have o2 : Same (off d H2) H2 := off_same
    refine ⟨_, rfl, _, rfl, v1, 2, Fc, W1, rfl, WdAt.same o2 hW1, ⟨by decide, by decide, by omega, G1.pos, G1.few, G1.facts, G1.stay, G1.once, G1.short⟩, fun H3 v' W' s3 hst hsp hob => ?_⟩
    refine ⟨_, rfl, _, rfl, d, 2, ds2, rfl, s3 _ _ hd2, by decide, fun H4 z ds4 hz4 b4 hd4 _ => ⟨_, _, rfl, rfl, _, rfl, ?_⟩⟩
    have hWn : W'.n = W1.n := by
      show W'.st.length = W1.st.length
      rw [hst]
    have so := ((But.of (d := d) s3).trans b4).off
    refine ⟨v', s, 2 + z, Fc, W', rfl, ObAt.but b4 (s3 _ _ hd2) hob, fun h => absurd h (by omega), fun _ => ⟨by omega, by omega, by omega, fun t ht => by rw [hWn]; exact (G1.stay t (hsp.mem_iff.mp ht)).2.2, by rw [hsp.length_eq]; exact G1.short, fun H5 u s5 hu => ?_⟩⟩
    exact ⟨u, 2 + z, W', rfl, hu, hst, hsp, by omega, by omega, WdAt.same s5 (WdAt.same off_same (WdAt.same so hW1)), WdAt.same s5 (WdAt.same off_same (WdAt.same so hW2))⟩
  clear hd2 hW1 hW2
  rintro _ H2 ⟨u, L, W', rfl, hu, hst, hsp, hL2, hL3, hW1, hW2⟩
  have hfd := first_due (k := fuel) G1 G2 hst hsp hL2 hL3 hs (by show W1.n < 6; omega)
  have hsd := second_due (k := fuel) G1 G2 hst hsp hL2 hL3 hs (by show W1.n < 6; omega)
  have hJe := join_ends (k := fuel) G1 G2 hst hsp hL2 hL3 hs (by show W1.n < 6; omega)
  have hclo : Cl (drawn W'.has W'.beh L Fc fuel s []) [] := cl_drawn _ _ _
  have hhgt : hgt (drawn W'.has W'.beh L Fc fuel s []) ≤ 94 := by
    have h1 := hgt_drawn (hs := W'.has) (fol := W'.beh) (L := L) (F := Fc) (n := W1.n) (fun s a o h => (G1.stay _ (hsp.mem_iff.mp (mem_beh.mp h))).2.2) (fun s a => by
      have := beh_len W' s a
      have := hsp.length_eq
      omega) hL3 hF2 fuel s [] hs
    have h2 := left_nil W1.n
    omega
  generalize drawn W'.has W'.beh L Fc fuel s [] = f0 at hu hfd hsd hclo hhgt
  -- a statement, nothing free
  refine ⟨fun σ' H' => [some (.ref a), some (.ref d), some (nv Fc), some v1, some v2, none, some (nv s), some u, none, none, none, none, none] = σ' ∧ Same H2 H', ?_, ?_⟩
  · refine ⟨_, rfl, u, 100, f0, rfl, hu, by omega, hhgt, fun H3 s3 => ⟨true, rfl, iteF ?_⟩⟩
    refine ⟨_, rfl, Nat.zero_le _, fun l hl => ?_⟩
    have s4 := s3.and_new (o := .lst []) hl
    refine ⟨u, l, [], f0, rfl, FmAt.same s4 hu, upd_same, hclo, hhgt, by simp; omega, fun H5 p s5 hp => ⟨p, [], rfl, .inl (SqL.of hp), _, _, rfl, rfl, _, rfl, ?_⟩⟩
    exact iteF ⟨rfl, s4.trans s5⟩
  rintro _ H3 ⟨rfl, s3⟩
  have hu3 := FmAt.same s3 hu
  have hW13 := WdAt.same s3 hW1
  have hW23 := WdAt.same s3 hW2
  clear hu hW1 hW2 s3
  have hl2 := G2.short
  -- side by side
  refine ⟨_, rfl, _, rfl, v1, v2, W1, W2, rfl, hW13, hW23, by omega, by omega, by omega, hl2, fun H4 vb s4 hJ => ?_⟩
  refine ⟨_, rfl, vb, joinW W1 W2, rfl, hJ, by rw [join_n]; omega, ?_, hJe, fun H5 dp s5 hdue => ?_⟩
  · show (W1.sp ++ W2.sp.map (sh W1.n)).length ≤ 60
    rw [List.length_append, List.length_map]
    omega
  have s35 := s4.trans s5
  have hdl := due_len (joinW W1 W2)
  have hJn := join_n W1 W2
  -- good
  refine ⟨fun σ' H' => ∃ gl : Addr, [some (.ref a), some (.ref d), some (nv Fc), some v1, some v2, none, some (nv s), some u, some vb, some (.ref dp), some (.ref gl), none, none] = σ' ∧ Same H5 H' ∧ H' gl = some (.lst (nvs (goods (joinW W1 W2) s))), ?_, ?_⟩
  · refine ⟨_, rfl, dp, _, rfl, .inr hdue, _, rfl, by rw [List.length_map]; omega, by rw [List.length_map]; omega, fun D hD => lc_range (lo := 0) (n := (((nvs (due (joinW W1 W2))).length : Nat) : Int).toNat) (Pick H5 D fun o => decide ((due (joinW W1 W2)).getD o 0 = (due (joinW W1 W2)).getD s 0)) (Pick.zero hD) ?_ ?_⟩
    · intro i H6 hi hP
      rw [List.length_map] at hi
      have hin : i < (joinW W1 W2).n := by omega
      rw [Int.zero_add]
      have dAt : ∀ j, j < (joinW W1 W2).n → (nvs (due (joinW W1 W2)))[j]? = some (nv ((due (joinW W1 W2)).getD j 0)) := fun j hj => by
        rw [List.getElem?_map, List.getD_eq_getElem?_getD, List.getElem?_eq_getElem (by omega)] <;> rfl
      have hd6 := hP.1.seqT hdue
      refine ⟨rfl, _, rfl, _, rfl, dp, _, _, _, rfl, rfl, hd6, atI_nat (dAt i hin), _, rfl, _, rfl, dp, _, _, _, rfl, rfl, hd6, atI_nat (dAt s (by omega)), rfl, _, rfl, ?_⟩
      refine ite2 (fun c => ?_) (fun c => ?_)
      · refine ⟨_, rfl, _, hP.2, filt_small hin (by omega), hP.yes hD ?_⟩
        have := of_decide_eq_true c
        refine decide_eq_true ?_
        have := V.int.inj this
        omega
      · refine hP.no ?_
        refine decide_eq_false fun e => c (decide_eq_true ?_)
        rw [e]
    · intro H6 hP
      rw [show (((nvs (due (joinW W1 W2))).length : Nat) : Int).toNat = (joinW W1 W2).n by rw [List.length_map]; omega] at hP
      exact ⟨D, rfl, hP.1, hP.2⟩
  rintro _ H6 ⟨gl, rfl, s6, hgl⟩
  have s36 := s35.trans s6
  have hW16 := WdAt.same s36 hW13
  have hgle : (goods (joinW W1 W2) s).length ≤ 8 := by
    unfold goods
    have := List.length_filter_le (fun o => decide ((due (joinW W1 W2)).getD o 0 = (due (joinW W1 W2)).getD s 0)) (List.range (joinW W1 W2).n)
    rw [List.length_range] at this
    omega
  generalize goods (joinW W1 W2) s = gd at hfd hsd hgl hgle
  obtain ⟨aw, bw, cw, xs, ys, rfl, hA, hB, hX, hC, hY⟩ := id hW16
  have hxl : xs.length = W1.n := Each.length hX
  refine ⟨_, rfl, aw, _, 0, _, rfl, rfl, hA, atI_nat (j := 0) rfl, bw, xs, rfl, .inl hB, ?_⟩
  rw [hxl]
  -- the first's truth
  refine ⟨fun σ' H' => [some (.ref a), some (.ref d), some (nv Fc), some (.ref aw), some v2, none, some (nv s), some u, some vb, some (.ref dp), some (.ref gl), some (nv W1.n), none] = σ' ∧ Same H6 H', ?_, ?_⟩
  · refine ⟨_, rfl, _, rfl, .ref aw, u, W1, f0, rfl, hW16, FmAt.same s36 hu3, hclo, hhgt, by omega, G1.few, G1.short, fun H7 p s7 hp => ?_⟩
    refine ⟨_, rfl, gl, rfl, ⟨_, SqL.of (s7 _ _ hgl)⟩, fun D hD => lc_list (K := K) (a := gl) (xs := nvs gd) (fun i H' => Same H7 H' ∧ H' D = some (.lst (nvs ((gd.take i).filter fun o => decide (o < W1.n))))) ⟨same_new hD, upd_same⟩ (fun i H' _ h => SqL.of (h.1 _ _ (s7 _ _ hgl))) ?_ ?_⟩
    · intro i x H8 hi hP
      obtain ⟨o, ho, rfl⟩ := nvs_get hi
      refine ⟨rfl, _, rfl, _, rfl, _, _, rfl, rfl, _, rfl, ite2 (fun c => ?_) (fun c => ?_)⟩
      · refine ⟨_, rfl, _, hP.2, pickL_small (by omega), PickL.yes (p := fun o => decide (o < W1.n)) hP hD ho ?_⟩
        have := of_decide_eq_true c
        exact decide_eq_true (by omega)
      · refine PickL.no (p := fun o => decide (o < W1.n)) hP ho ?_
        have := of_decide_eq_false (Bool.eq_false_iff.mpr c)
        exact decide_eq_false (by omega)
    · intro H8 hP
      rw [List.length_map, List.take_length] at hP
      have hp8 := hP.1 _ _ hp
      rw [hfd] at hp8
      refine ⟨_, _, dp_nvs (SqL.of hp8), dp_nvs (SqL.of hP.2), nums_shaped _, nums_shaped _, _, rfl, ?_⟩
      rw [nums_eqv]
      exact iteF ⟨rfl, s7.trans hP.1⟩
  rintro _ H7 ⟨rfl, s7⟩
  have s37 := s36.trans s7
  refine ⟨_, rfl, _, rfl, v2, u, W2, f0, rfl, WdAt.same s37 hW23, FmAt.same s37 hu3, hclo, hhgt, by omega, G2.few, G2.short, fun H8 p s8 hp => ?_⟩
  have hgl8 := s8 _ _ (s7 _ _ hgl)
  refine ⟨_, rfl, gl, rfl, ⟨_, SqL.of hgl8⟩, fun D hD => lc_list (K := K) (a := gl) (xs := nvs gd) (fun i H' => Same H8 H' ∧ H' D = some (.lst (nvs (((gd.take i).filter fun o => decide (W1.n ≤ o)).map fun o => o - W1.n)))) ⟨same_new hD, upd_same⟩ (fun i H' _ h => SqL.of (h.1 _ _ hgl8)) ?_ ?_⟩
  · rintro i x H9 hi ⟨s9, hacc⟩
    obtain ⟨o, ho, rfl⟩ := nvs_get hi
    refine ⟨rfl, _, rfl, _, rfl, _, _, rfl, rfl, _, rfl, ite2 (fun c => ?_) (fun c => ?_)⟩
    · have hle : W1.n ≤ o := by
        have := of_decide_eq_true c
        omega
      refine ⟨_, rfl, _, rfl, _, _, rfl, rfl, _, hacc, ?_, s9.mut hD, ?_⟩
      · rw [List.length_map, List.length_map]
        have h1 := List.length_filter_le (fun o => decide (W1.n ≤ o)) (gd.take i)
        have h2 := (List.take_sublist i gd).length_le
        exact small1000 (by omega)
      · rw [upd_same, take_snoc ho, List.filter_append]
        rw [show ([o].filter fun o => decide (W1.n ≤ o)) = [o] by simp [hle]]
        rw [List.map_append, nvs, nvs, List.map_append]
        show some (HO.lst (_ ++ [V.int ((o : Int) - (W1.n : Int))])) = some (HO.lst (_ ++ [V.int ((o - W1.n : Nat) : Int)]))
        rw [show ((o : Int) - (W1.n : Int)) = ((o - W1.n : Nat) : Int) by omega]
    · have hlt : ¬ W1.n ≤ o := by
        have := of_decide_eq_false (Bool.eq_false_iff.mpr c)
        omega
      refine ⟨s9, ?_⟩
      rw [hacc, take_snoc ho, List.filter_append]
      rw [show ([o].filter fun o => decide (W1.n ≤ o)) = [] by simp [hlt]]
      rw [List.append_nil]
  · rintro H9 ⟨s9, hacc⟩
    rw [List.length_map, List.take_length] at hacc
    have hp9 := s9 _ _ hp
    rw [hsd] at hp9
    refine ⟨_, _, dp_nvs (SqL.of hp9), dp_nvs (SqL.of hacc), nums_shaped _, nums_shaped _, ?_⟩
    rw [nums_eqv]
    exact q H9
end
end K20
namespace K20
open PySem L2 Pm
/-! ### what the top has written -/
theorem exm_own {K : PySem.W.Frag} {S : Addr} (h1 : PySem.W.subIn K (.ref S) (.type "BaseException") = some true) (h2 : PySem.W.isClsIn K S = true) (h3 : PySem.W.typeIn K (.ref S) = some (.type "type")) (h4 : PySem.W.subIn K (.ref S) (.ref S) = some true) : PySem.W.exmOne K (.ref S) (.ref S) = some true := by
  have p1 : (PySem.W.subIn K (.ref S) (.type "BaseException") == some true) = true := by rw [h1] <;> rfl
  have p2 : ((PySem.W.clsIn K S).isSome && PySem.W.typeIn K (.ref S) == some (.type "type")) = true := by
    rw [show (PySem.W.clsIn K S).isSome = true from h2, h3] <;> rfl
  show (if (PySem.W.subIn K (.ref S) (.type "BaseException") == some true) = true then (if ((PySem.W.clsIn K S).isSome && PySem.W.typeIn K (.ref S) == some (.type "type")) = true then PySem.W.subIn K (.ref S) (.ref S) else none) else none) = some true
  rw [if_pos p1, if_pos p2, h4]
theorem all_mk {P : Program} {w : World} {K : PySem.W.Frag} {h : Heap} {mg : Str → Option Value} {fa C CT fCj fDj fAs fRs fIn fFo fSh fDr fPo fDs fTa fIi fIr fFr fWo fMa fBe fVa fTr fCl fBs fIs fOu fLa : Addr} (X : K.In h) (G : h.Ns mainGlobals mg) (hfa : mg "law" = some (.ref fa))
    {odCj anCj odDj anDj odAs anAs odRs anRs odIn anIn odFo anFo odSh anSh odDr anDr odPo anPo odDs anDs odTa anTa odIi anIi odIr anIr odFr anFr odWo anWo odMa anMa odBe anBe odVa anVa odTr anTr odCl anCl odBs anBs odIs anIs odOu anOu odLa anLa : Option Addr} {slCj slDj slAs slRs slIn slFo slSh slDr slPo slDs slTa slIi slIr slFr slWo slMa slBe slVa slTr slCl slBs slIs slOu slLa : Array (Option Value)} {ocCj kVCj dcCj pmCj cdCj ctCj ocDj kVDj dcDj pmDj cdDj ctDj ocAs kVAs dcAs pmAs cdAs ctAs ocRs kVRs dcRs pmRs cdRs ctRs ocIn kVIn dcIn pmIn cdIn ctIn ocFo kVFo dcFo pmFo cdFo ctFo ocSh kVSh dcSh pmSh cdSh ctSh ocDr kVDr dcDr pmDr cdDr ctDr ocPo kVPo dcPo pmPo cdPo ctPo ocDs kVDs dcDs pmDs cdDs ctDs ocTa kVTa dcTa pmTa cdTa ctTa ocIi kVIi dcIi pmIi cdIi ctIi ocIr kVIr dcIr pmIr cdIr ctIr ocFr kVFr dcFr pmFr cdFr ctFr ocWo kVWo dcWo pmWo cdWo ctWo ocMa kVMa dcMa pmMa cdMa ctMa ocBe kVBe dcBe pmBe cdBe ctBe ocVa kVVa dcVa pmVa cdVa ctVa ocTr kVTr dcTr pmTr cdTr ctTr ocCl kVCl dcCl pmCl cdCl ctCl ocBs kVBs dcBs pmBs cdBs ctBs ocIs kVIs dcIs pmIs cdIs ctIs ocOu kVOu dcOu pmOu cdOu ctOu ocLa kVLa dcLa pmLa cdLa ctLa : Value} {t1 t2 : Tok}
    (aCj : PySem.W.nsIn K mainGlobals "conjunction" = some (some (.ref fCj)))
    (lCj : K.lookup fCj = some ⟨ocCj, odCj, .func (PySem.W.fnOf "conjunction" "conjunction" (defArgs sConj) (defBody sConj) (defScope sConj) .none kVCj dcCj pmCj anCj cdCj ctCj), slCj⟩) (cCj : PySem.W.codeIn K cdCj "conjunction" = true) (kCj : PySem.W.keepIn K (.ref fCj) = true)
    (aDj : PySem.W.nsIn K mainGlobals "disjunction" = some (some (.ref fDj)))
    (lDj : K.lookup fDj = some ⟨ocDj, odDj, .func (PySem.W.fnOf "disjunction" "disjunction" (defArgs sDisj) (defBody sDisj) (defScope sDisj) .none kVDj dcDj pmDj anDj cdDj ctDj), slDj⟩) (cDj : PySem.W.codeIn K cdDj "disjunction" = true) (kDj : PySem.W.keepIn K (.ref fDj) = true)
    (aAs : PySem.W.nsIn K mainGlobals "ascend" = some (some (.ref fAs)))
    (lAs : K.lookup fAs = some ⟨ocAs, odAs, .func (PySem.W.fnOf "ascend" "ascend" (defArgs sAsc) (defBody sAsc) (defScope sAsc) .none kVAs dcAs pmAs anAs cdAs ctAs), slAs⟩) (cAs : PySem.W.codeIn K cdAs "ascend" = true) (kAs : PySem.W.keepIn K (.ref fAs) = true)
    (aRs : PySem.W.nsIn K mainGlobals "right_steps" = some (some (.ref fRs)))
    (lRs : K.lookup fRs = some ⟨ocRs, odRs, .func (PySem.W.fnOf "right_steps" "right_steps" (defArgs sRight) (defBody sRight) (defScope sRight) .none kVRs dcRs pmRs anRs cdRs ctRs), slRs⟩) (cRs : PySem.W.codeIn K cdRs "right_steps" = true) (kRs : PySem.W.keepIn K (.ref fRs) = true)
    (aIn : PySem.W.findIn K (.ref C) "__init__" = some (some (.ref fIn))) (iIn : PySem.W.isFn K (.ref fIn) = true)
    (lIn : K.lookup fIn = some ⟨ocIn, odIn, .func (PySem.W.fnOf "__init__" "World.__init__" (defArgs sInit) (defBody sInit) (defScope sInit) .none kVIn dcIn pmIn anIn cdIn ctIn), slIn⟩) (cIn : PySem.W.codeIn K cdIn "World.__init__" = true) (kIn : PySem.W.keepIn K (.ref fIn) = true)
    (aFo : PySem.W.nsIn K mainGlobals "followers" = some (some (.ref fFo)))
    (lFo : K.lookup fFo = some ⟨ocFo, odFo, .func (PySem.W.fnOf "followers" "followers" (defArgs sFol) (defBody sFol) (defScope sFol) .none kVFo dcFo pmFo anFo cdFo ctFo), slFo⟩) (cFo : PySem.W.codeIn K cdFo "followers" = true) (kFo : PySem.W.keepIn K (.ref fFo) = true)
    (aSh : PySem.W.nsIn K mainGlobals "shown_facts" = some (some (.ref fSh)))
    (lSh : K.lookup fSh = some ⟨ocSh, odSh, .func (PySem.W.fnOf "shown_facts" "shown_facts" (defArgs sShown) (defBody sShown) (defScope sShown) .none kVSh dcSh pmSh anSh cdSh ctSh), slSh⟩) (cSh : PySem.W.codeIn K cdSh "shown_facts" = true) (kSh : PySem.W.keepIn K (.ref fSh) = true)
    (aDr : PySem.W.nsIn K mainGlobals "drawn" = some (some (.ref fDr)))
    (lDr : K.lookup fDr = some ⟨ocDr, odDr, .func (PySem.W.fnOf "drawn" "drawn" (defArgs sDrawn) (defBody sDrawn) (defScope sDrawn) .none kVDr dcDr pmDr anDr cdDr ctDr), slDr⟩) (cDr : PySem.W.codeIn K cdDr "drawn" = true) (kDr : PySem.W.keepIn K (.ref fDr) = true)
    (aPo : PySem.W.nsIn K mainGlobals "portrait" = some (some (.ref fPo)))
    (lPo : K.lookup fPo = some ⟨ocPo, odPo, .func (PySem.W.fnOf "portrait" "portrait" (defArgs sPort) (defBody sPort) (defScope sPort) .none kVPo dcPo pmPo anPo cdPo ctPo), slPo⟩) (cPo : PySem.W.codeIn K cdPo "portrait" = true) (kPo : PySem.W.keepIn K (.ref fPo) = true)
    (aDs : PySem.W.nsIn K mainGlobals "_law_draws" = some (some (.ref fDs)))
    (lDs : K.lookup fDs = some ⟨ocDs, odDs, .func (PySem.W.fnOf "_law_draws" "_law_draws" (defArgs sDraws) (defBody sDraws) (defScope sDraws) .none kVDs dcDs pmDs anDs cdDs ctDs), slDs⟩) (cDs : PySem.W.codeIn K cdDs "_law_draws" = true) (kDs : PySem.W.keepIn K (.ref fDs) = true)
    (aTa : PySem.W.nsIn K mainGlobals "_law_take" = some (some (.ref fTa)))
    (lTa : K.lookup fTa = some ⟨ocTa, odTa, .func (PySem.W.fnOf "_law_take" "_law_take" (defArgs sTake) (defBody sTake) (defScope sTake) .none kVTa dcTa pmTa anTa cdTa ctTa), slTa⟩) (cTa : PySem.W.codeIn K cdTa "_law_take" = true) (kTa : PySem.W.keepIn K (.ref fTa) = true)
    (aIi : PySem.W.nsIn K mainGlobals "_law_is_integer" = some (some (.ref fIi)))
    (lIi : K.lookup fIi = some ⟨ocIi, odIi, .func (PySem.W.fnOf "_law_is_integer" "_law_is_integer" (defArgs sIsInt) (defBody sIsInt) (defScope sIsInt) .none kVIi dcIi pmIi anIi cdIi ctIi), slIi⟩) (cIi : PySem.W.codeIn K cdIi "_law_is_integer" = true) (kIi : PySem.W.keepIn K (.ref fIi) = true)
    (aIr : PySem.W.nsIn K mainGlobals "_law_inner" = some (some (.ref fIr)))
    (lIr : K.lookup fIr = some ⟨ocIr, odIr, .func (PySem.W.fnOf "_law_inner" "_law_inner" (defArgs sInner) (defBody sInner) (defScope sInner) .none kVIr dcIr pmIr anIr cdIr ctIr), slIr⟩) (cIr : PySem.W.codeIn K cdIr "_law_inner" = true) (kIr : PySem.W.keepIn K (.ref fIr) = true)
    (aFr : PySem.W.nsIn K mainGlobals "_law_free" = some (some (.ref fFr)))
    (lFr : K.lookup fFr = some ⟨ocFr, odFr, .func (PySem.W.fnOf "_law_free" "_law_free" (defArgs sFree) (defBody sFree) (defScope sFree) .none kVFr dcFr pmFr anFr cdFr ctFr), slFr⟩) (cFr : PySem.W.codeIn K cdFr "_law_free" = true) (kFr : PySem.W.keepIn K (.ref fFr) = true)
    (aWo : PySem.W.nsIn K mainGlobals "_law_world" = some (some (.ref fWo)))
    (lWo : K.lookup fWo = some ⟨ocWo, odWo, .func (PySem.W.fnOf "_law_world" "_law_world" (defArgs sWorld) (defBody sWorld) (defScope sWorld) .none kVWo dcWo pmWo anWo cdWo ctWo), slWo⟩) (cWo : PySem.W.codeIn K cdWo "_law_world" = true) (kWo : PySem.W.keepIn K (.ref fWo) = true)
    (aMa : PySem.W.nsIn K mainGlobals "_law_made" = some (some (.ref fMa)))
    (lMa : K.lookup fMa = some ⟨ocMa, odMa, .func (PySem.W.fnOf "_law_made" "_law_made" (defArgs sMade) (defBody sMade) (defScope sMade) .none kVMa dcMa pmMa anMa cdMa ctMa), slMa⟩) (cMa : PySem.W.codeIn K cdMa "_law_made" = true) (kMa : PySem.W.keepIn K (.ref fMa) = true)
    (aBe : PySem.W.nsIn K mainGlobals "_law_behind" = some (some (.ref fBe)))
    (lBe : K.lookup fBe = some ⟨ocBe, odBe, .func (PySem.W.fnOf "_law_behind" "_law_behind" (defArgs sBeh) (defBody sBeh) (defScope sBeh) .none kVBe dcBe pmBe anBe cdBe ctBe), slBe⟩) (cBe : PySem.W.codeIn K cdBe "_law_behind" = true) (kBe : PySem.W.keepIn K (.ref fBe) = true)
    (aVa : PySem.W.nsIn K mainGlobals "_law_value" = some (some (.ref fVa)))
    (lVa : K.lookup fVa = some ⟨ocVa, odVa, .func (PySem.W.fnOf "_law_value" "_law_value" (defArgs sValue) (defBody sValue) (defScope sValue) .none kVVa dcVa pmVa anVa cdVa ctVa), slVa⟩) (cVa : PySem.W.codeIn K cdVa "_law_value" = true) (kVa : PySem.W.keepIn K (.ref fVa) = true)
    (aTr : PySem.W.nsIn K mainGlobals "_law_truth" = some (some (.ref fTr)))
    (lTr : K.lookup fTr = some ⟨ocTr, odTr, .func (PySem.W.fnOf "_law_truth" "_law_truth" (defArgs sTruth) (defBody sTruth) (defScope sTruth) .none kVTr dcTr pmTr anTr cdTr ctTr), slTr⟩) (cTr : PySem.W.codeIn K cdTr "_law_truth" = true) (kTr : PySem.W.keepIn K (.ref fTr) = true)
    (aCl : PySem.W.nsIn K mainGlobals "_law_classes" = some (some (.ref fCl)))
    (lCl : K.lookup fCl = some ⟨ocCl, odCl, .func (PySem.W.fnOf "_law_classes" "_law_classes" (defArgs sClasses) (defBody sClasses) (defScope sClasses) .none kVCl dcCl pmCl anCl cdCl ctCl), slCl⟩) (cCl : PySem.W.codeIn K cdCl "_law_classes" = true) (kCl : PySem.W.keepIn K (.ref fCl) = true)
    (aBs : PySem.W.nsIn K mainGlobals "_law_beside" = some (some (.ref fBs)))
    (lBs : K.lookup fBs = some ⟨ocBs, odBs, .func (PySem.W.fnOf "_law_beside" "_law_beside" (defArgs sBeside) (defBody sBeside) (defScope sBeside) .none kVBs dcBs pmBs anBs cdBs ctBs), slBs⟩) (cBs : PySem.W.codeIn K cdBs "_law_beside" = true) (kBs : PySem.W.keepIn K (.ref fBs) = true)
    (aIs : PySem.W.nsIn K mainGlobals "_law_is_statement" = some (some (.ref fIs)))
    (lIs : K.lookup fIs = some ⟨ocIs, odIs, .func (PySem.W.fnOf "_law_is_statement" "_law_is_statement" (defArgs sIsSt) (defBody sIsSt) (defScope sIsSt) .none kVIs dcIs pmIs anIs cdIs ctIs), slIs⟩) (cIs : PySem.W.codeIn K cdIs "_law_is_statement" = true) (kIs : PySem.W.keepIn K (.ref fIs) = true)
    (aOu : PySem.W.nsIn K mainGlobals "_law_outcome" = some (some (.ref fOu)))
    (lOu : K.lookup fOu = some ⟨ocOu, odOu, .func (PySem.W.fnOf "_law_outcome" "_law_outcome" (defArgs sOut) (defBody sOut) (defScope sOut) .none kVOu dcOu pmOu anOu cdOu ctOu), slOu⟩) (cOu : PySem.W.codeIn K cdOu "_law_outcome" = true) (kOu : PySem.W.keepIn K (.ref fOu) = true)
    (aLa : PySem.W.nsIn K mainGlobals "law" = some (some (.ref fLa)))
    (lLa : K.lookup fLa = some ⟨ocLa, odLa, .func (PySem.W.fnOf "law" "law" (defArgs sLaw) (defBody sLaw) (defScope sLaw) .none kVLa dcLa pmLa anLa cdLa ctLa), slLa⟩) (cLa : PySem.W.codeIn K cdLa "law" = true) (kLa : PySem.W.keepIn K (.ref fLa) = true)
    (aC : PySem.W.nsIn K mainGlobals "World" = some (some (.ref C))) (pg : PySem.W.plainGet K C Str.empty = true) (hd : PySem.W.hasDictIn K C = true) (po : PySem.W.plainOver K C = true) (sa : PySem.W.findIn K (.ref C) "__setattr__" = some (some (.builtin "object.__setattr__"))) (mk : PySem.W.makesIn K C = true) (kc : PySem.W.keepIn K (.ref C) = true)
    (nL : PySem.W.findIn K (.ref C) "labels" = some none)
    (nF : PySem.W.findIn K (.ref C) "facts" = some none)
    (nS : PySem.W.findIn K (.ref C) "states" = some none)
    (nT : PySem.W.findIn K (.ref C) "steps" = some none)
    (aE : PySem.W.nsIn K mainGlobals "TooLarge" = some (some (.ref CT))) (xE : PySem.W.excIn K CT [.type "ValueError", .type "Exception", .type "BaseException", .type "object"] "ValueError.__new__" = true) (kE : PySem.W.keepIn K (.ref CT) = true) (bE : PySem.W.subIn K (.ref CT) (.type "BaseException") = some true) (tE : PySem.W.typeIn K (.ref CT) = some (.type "type")) (iE : PySem.W.isClsIn K CT = true) (sE : PySem.W.subIn K (.ref CT) (.ref CT) = some true)
    (mo1 : PySem.W.nsIn K mainGlobals "MOST_STATES_worlds" = some (some (.int 400 t1))) (mo2 : PySem.W.nsIn K mainGlobals "MOST_STATES_portraits" = some (some (.int 5 t2)))
    (z0 : PySem.W.nsIn K mainGlobals "len" = some none)
    (z1 : PySem.W.nsIn K mainGlobals "range" = some none)
    (z2 : PySem.W.nsIn K mainGlobals "min" = some none)
    (z3 : PySem.W.nsIn K mainGlobals "max" = some none)
    (z4 : PySem.W.nsIn K mainGlobals "tuple" = some none)
    (z5 : PySem.W.nsIn K mainGlobals "list" = some none)
    (z6 : PySem.W.nsIn K mainGlobals "sorted" = some none)
    (z7 : PySem.W.nsIn K mainGlobals "set" = some none)
    (z8 : PySem.W.nsIn K mainGlobals "int" = some none)
    (z9 : PySem.W.nsIn K mainGlobals "bool" = some none)
    (z10 : PySem.W.nsIn K mainGlobals "isinstance" = some none) :
    ∃ fd : FuncData, (∀ (s : Shared) (v : Value), BindsTo s fd ⟨[v], []⟩ [("_law_script", v)]) ∧ ∀ base : Heap, K.In base → base.Ns mainGlobals mg → FnOk P w K mg base CX0 97 fa fd ["_law_script"] (spLaw K) := by
  have e := hfa.symm.trans (PySem.W.mg_of X G aLa)
  cases e
  have B : Blt mg := ⟨PySem.W.mg_none_of X G z0, PySem.W.mg_none_of X G z1, PySem.W.mg_none_of X G z2, PySem.W.mg_none_of X G z3, PySem.W.mg_none_of X G z4, PySem.W.mg_none_of X G z5, PySem.W.mg_none_of X G z6, PySem.W.mg_none_of X G z7, PySem.W.mg_none_of X G z8, PySem.W.mg_none_of X G z9, PySem.W.mg_none_of X G z10⟩
  have T : WTxt K mg C := ⟨⟨pg, hd, po, sa⟩, nL, nF, nS, nT, PySem.W.mg_of X G aC, t1, PySem.W.mg_of X G mo1⟩
  have ET : ETxt K mg CT := ⟨PySem.W.mg_of X G aE, xE, kE, bE, tE, exm_own bE iE tE sE, t2, PySem.W.mg_of X G mo2⟩
  have FCj := fun_mk (st := sConj) lCj cCj kCj
  have mCj := PySem.W.mg_of X G aCj
  have bCj := FCj.binds (ps := ["statements"]) fun _ _ _ _ _ _ us hl => match us, hl with | [_], _ => rfl
  have FDj := fun_mk (st := sDisj) lDj cDj kDj
  have mDj := PySem.W.mg_of X G aDj
  have bDj := FDj.binds (ps := ["statements"]) fun _ _ _ _ _ _ us hl => match us, hl with | [_], _ => rfl
  have FAs := fun_mk (st := sAsc) lAs cAs kAs
  have mAs := PySem.W.mg_of X G aAs
  have bAs := FAs.binds (ps := ["numbers", "limit"]) fun _ _ _ _ _ _ us hl => match us, hl with | [_, _], _ => rfl
  have FRs := fun_mk (st := sRight) lRs cRs kRs
  have mRs := PySem.W.mg_of X G aRs
  have bRs := FRs.binds (ps := ["labels", "count", "steps"]) fun _ _ _ _ _ _ us hl => match us, hl with | [_, _, _], _ => rfl
  have FIn := fun_mk (st := sInit) lIn cIn kIn
  have bIn := FIn.binds (ps := ["self", "labels", "facts", "states", "steps"]) fun _ _ _ _ _ _ us hl => match us, hl with | [_, _, _, _, _], _ => rfl
  have FFo := fun_mk (st := sFol) lFo cFo kFo
  have mFo := PySem.W.mg_of X G aFo
  have bFo := FFo.binds (ps := ["world", "state", "label"]) fun _ _ _ _ _ _ us hl => match us, hl with | [_, _, _], _ => rfl
  have FSh := fun_mk (st := sShown) lSh cSh kSh
  have mSh := PySem.W.mg_of X G aSh
  have bSh := FSh.binds (ps := ["world", "state", "facts"]) fun _ _ _ _ _ _ us hl => match us, hl with | [_, _, _], _ => rfl
  have FDr := fun_mk (st := sDrawn) lDr cDr kDr
  have mDr := PySem.W.mg_of X G aDr
  have bDr := FDr.binds (ps := ["world", "state", "labels", "facts", "around"]) fun _ _ _ _ _ _ us hl => match us, hl with | [_, _, _, _, _], _ => rfl
  have FPo := fun_mk (st := sPort) lPo cPo kPo
  have mPo := PySem.W.mg_of X G aPo
  have bPo := FPo.binds (ps := ["world", "state", "labels", "facts"]) fun _ _ _ _ _ _ us hl => match us, hl with | [_, _, _, _], _ => rfl
  have FDs := fun_mk (st := sDraws) lDs cDs kDs
  have mDs := PySem.W.mg_of X G aDs
  have bDs := FDs.binds (ps := ["_law_script", "_law_count"]) fun _ _ _ _ _ _ us hl => match us, hl with | [_, _], _ => rfl
  have FTa := fun_mk (st := sTake) lTa cTa kTa
  have mTa := PySem.W.mg_of X G aTa
  have bTa := FTa.binds (ps := ["_law_draws_here", "_law_limit"]) fun _ _ _ _ _ _ us hl => match us, hl with | [_, _], _ => rfl
  have FIi := fun_mk (st := sIsInt) lIi cIi kIi
  have mIi := PySem.W.mg_of X G aIi
  have bIi := FIi.binds (ps := ["_law_actual"]) fun _ _ _ _ _ _ us hl => match us, hl with | [_], _ => rfl
  have FIr := fun_mk (st := sInner) lIr cIr kIr
  have mIr := PySem.W.mg_of X G aIr
  have bIr := FIr.binds (ps := ["_law_statement"]) fun _ _ _ _ _ _ us hl => match us, hl with | [_], _ => rfl
  have FFr := fun_mk (st := sFree) lFr cFr kFr
  have mFr := PySem.W.mg_of X G aFr
  have bFr := FFr.binds (ps := ["_law_statement", "_law_bound"]) fun _ _ _ _ _ _ us hl => match us, hl with | [_, _], _ => rfl
  have FWo := fun_mk (st := sWorld) lWo cWo kWo
  have mWo := PySem.W.mg_of X G aWo
  have bWo := FWo.binds (ps := ["_law_draws_here", "_law_most", "_law_facts"]) fun _ _ _ _ _ _ us hl => match us, hl with | [_, _, _], _ => rfl
  have FMa := fun_mk (st := sMade) lMa cMa kMa
  have mMa := PySem.W.mg_of X G aMa
  have bMa := FMa.binds (ps := ["_law_world_here", "_law_labels", "_law_facts"]) fun _ _ _ _ _ _ us hl => match us, hl with | [_, _, _], _ => rfl
  have FBe := fun_mk (st := sBeh) lBe cBe kBe
  have mBe := PySem.W.mg_of X G aBe
  have bBe := FBe.binds (ps := ["_law_world_here", "_law_state", "_law_label"]) fun _ _ _ _ _ _ us hl => match us, hl with | [_, _, _], _ => rfl
  have FVa := fun_mk (st := sValue) lVa cVa kVa
  have mVa := PySem.W.mg_of X G aVa
  have bVa := FVa.binds (ps := ["_law_world_here", "_law_statement", "_law_sets"]) fun _ _ _ _ _ _ us hl => match us, hl with | [_, _, _], _ => rfl
  have FTr := fun_mk (st := sTruth) lTr cTr kTr
  have mTr := PySem.W.mg_of X G aTr
  have bTr := FTr.binds (ps := ["_law_world_here", "_law_statement"]) fun _ _ _ _ _ _ us hl => match us, hl with | [_, _], _ => rfl
  have FCl := fun_mk (st := sClasses) lCl cCl kCl
  have mCl := PySem.W.mg_of X G aCl
  have bCl := FCl.binds (ps := ["_law_world_here"]) fun _ _ _ _ _ _ us hl => match us, hl with | [_], _ => rfl
  have FBs := fun_mk (st := sBeside) lBs cBs kBs
  have mBs := PySem.W.mg_of X G aBs
  have bBs := FBs.binds (ps := ["_law_first", "_law_second"]) fun _ _ _ _ _ _ us hl => match us, hl with | [_, _], _ => rfl
  have FIs := fun_mk (st := sIsSt) lIs cIs kIs
  have mIs := PySem.W.mg_of X G aIs
  have bIs := FIs.binds (ps := ["_law_actual", "_law_depth"]) fun _ _ _ _ _ _ us hl => match us, hl with | [_, _], _ => rfl
  have FOu := fun_mk (st := sOut) lOu cOu kOu
  have mOu := PySem.W.mg_of X G aOu
  have bOu := FOu.binds (ps := ["_law_world_here", "_law_state", "_law_labels", "_law_facts"]) fun _ _ _ _ _ _ us hl => match us, hl with | [_, _, _, _], _ => rfl
  have FLa := fun_mk (st := sLaw) lLa cLa kLa
  have mLa := PySem.W.mg_of X G aLa
  refine ⟨PySem.W.fnOf "law" "law" (defArgs sLaw) (defBody sLaw) (defScope sLaw) .none kVLa dcLa pmLa anLa cdLa ctLa, fun s v => .of_eq rfl, fun base _ _ => ?_⟩
  have GTa : FnOk P w K mg base CX0 1 fTa _ ["_law_draws_here", "_law_limit"] spTake := ok_take (k := 0) FTa B
  have GBe : FnOk P w K mg base CX0 1 fBe _ ["_law_world_here", "_law_state", "_law_label"] (spBeh K) := ok_beh (k := 0) FBe
  have GIn : FnOk P w K mg base CX0 2 fIn _ ["self", "labels", "facts", "states", "steps"] (spInit K C) := ok_init FIn B T (ok_asc (k := 0) FAs B) mAs kAs bAs (ok_right (k := 0) FRs B) mRs kRs bRs
  have GMa : FnOk P w K mg base CX0 4 fMa _ ["_law_world_here", "_law_labels", "_law_facts"] (spMade K C) := ok_made FMa B T ⟨mk, aIn, iIn, kc⟩ GIn bIn
  have GDr : FnOk P w K mg base CX0 (fuel + 1) fDr _ ["world", "state", "labels", "facts", "around"] (spDrawn K C fuel) := ok_drawn FDr B mDr bDr (ok_fol (k := 0) FFo T) mFo kFo bFo (ok_shown (k := 0) FSh B T) mSh kSh bSh (ok_conj (k := 0) FCj B) mCj kCj bCj (ok_disj (k := 0) FDj B) mDj kDj bDj fuel
  have GPo : FnOk P w K mg base (L2.CX P w) (fuel + 1 + 1) fPo _ ["world", "state", "labels", "facts"] (spPort K C CT) := ok_port FPo B T ET GDr mDr kDr bDr
  have GOu : FnOk P w K mg base CX0 9 fOu _ ["_law_world_here", "_law_state", "_law_labels", "_law_facts"] (spOut K C) := ok_out FOu ET GPo mPo kPo bPo
  have GIs : FnOk P w K mg base CX0 95 fIs _ ["_law_actual", "_law_depth"] (spIsSt K 94) := ok_isst FIs B mIs bIs (ok_isint (k := 0) FIi B) mIi kIi bIi 94
  have GFr : FnOk P w K mg base CX0 95 fFr _ ["_law_statement", "_law_bound"] (spFree K 94) := ok_free FFr mFr bFr (ok_inner (k := 0) FIr B) mIr kIr bIr 94
  have GVa : FnOk P w K mg base CX0 95 fVa _ ["_law_world_here", "_law_statement", "_law_sets"] (spValue K 94) := ok_value FVa B mVa bVa GBe mBe kBe bBe 94
  have GTr : FnOk P w K mg base CX0 96 fTr _ ["_law_world_here", "_law_statement"] (spTruth K 94) := ok_truth FTr GVa mVa kVa bVa
  exact ok_law FLa B (ok_draws (k := 0) FDs B) mDs kDs bDs GTa mTa kTa bTa (ok_world FWo B GTa mTa kTa bTa) mWo kWo bWo GMa mMa kMa bMa GOu mOu kOu bOu GIs mIs kIs bIs GFr mFr kFr bFr (ok_beside (k := 0) FBs B) mBs kBs bBs (ok_classes FCl B GBe mBe kBe bBe) mCl kCl bCl GTr mTr kTr bTr
theorem walk {l : PySem.W.OpenLaw} {q : Program} {loose : List Str} {XP : (Str → Option Value) → Heap → Prop} {YP : World → Heap → Prop} {d : DefRec} {K : Params → PySem.W.Frag} (hn : l.most = some 63) (hdf : d.params.defaults = [])
    (hY : ∀ (w : World) (h : Heap), YP w h → (K w.params).In h)
    (F : ∀ (w : World) (mg : Str → Option Value) (fa : Addr) (h : Heap), (K w.params).In h → h.Ns mainGlobals mg → mg d.name = some (.ref fa) →
      ∃ fd : FuncData, (∀ (s : Shared) (u : Value), BindsTo s fd ⟨[u], []⟩ [("_law_script", u)]) ∧ ∀ base : Heap, (K w.params).In base → base.Ns mainGlobals mg → FnOk l.prog w (K w.params) mg base CX0 97 fa fd ["_law_script"] (spLaw (K w.params))) :
    PySem.W.WalkO q loose XP YP l.row.toRowW d [] (fun f vs => PySem.call f vs) :=
  L2.walk_of (n := 63) (k := 97) (x := "_law_script") (CX := fun _ => CX0) (sp := fun w => spLaw (K w.params)) hn (by decide) hdf ⟨rfl, by decide, by decide⟩ hY F (fun _ _ a ns hl _ hS => ⟨a, ns, rfl, hS, hl, fun _ => rfl⟩) fun _ _ _ _ _ z => z
end K20
open PySem PySem.W PyProof.Rows in
set_option maxRecDepth 100000 in
set_option maxHeartbeats 0 in
theorem PySem.Challenge.cw_fixworlds_k20_whole_portraits_holds : PySem.Challenge.rw_fixworlds_k20_whole_portraits.Holds := by
  w_on; o_law; k_head; (case hw => w_witness2)
  k_fill
  refine K20.walk (l := PySem.Challenge.rw_fixworlds_k20_whole_portraits) rfl rfl (fun w h Y => PySem.W.kIn_of Y) ?F
  case F =>
    intro w mg fa h KX G hmg
    refine' K20.all_mk KX G hmg ?aCj ?lCj ?cCj ?kCj ?aDj ?lDj ?cDj ?kDj ?aAs ?lAs ?cAs ?kAs ?aRs ?lRs ?cRs ?kRs ?aIn ?iIn ?lIn ?cIn ?kIn ?aFo ?lFo ?cFo ?kFo ?aSh ?lSh ?cSh ?kSh ?aDr ?lDr ?cDr ?kDr ?aPo ?lPo ?cPo ?kPo ?aDs ?lDs ?cDs ?kDs ?aTa ?lTa ?cTa ?kTa ?aIi ?lIi ?cIi ?kIi ?aIr ?lIr ?cIr ?kIr ?aFr ?lFr ?cFr ?kFr ?aWo ?lWo ?cWo ?kWo ?aMa ?lMa ?cMa ?kMa ?aBe ?lBe ?cBe ?kBe ?aVa ?lVa ?cVa ?kVa ?aTr ?lTr ?cTr ?kTr ?aCl ?lCl ?cCl ?kCl ?aBs ?lBs ?cBs ?kBs ?aIs ?lIs ?cIs ?kIs ?aOu ?lOu ?cOu ?kOu ?aLa ?lLa ?cLa ?kLa ?aC ?pg ?hd ?po ?sa ?mk ?kc ?nL ?nF ?nS ?nT ?aE ?xE ?kE ?bE ?tE ?iE ?sE ?mo1 ?mo2 ?z0 ?z1 ?z2 ?z3 ?z4 ?z5 ?z6 ?z7 ?z8 ?z9 ?z10
    (case aC => k_is)
    (case aCj => k_is)
    (case lCj => k_is)
    (case cCj => k_is)
    (case kCj => k_is)
    (case aDj => k_is)
    (case lDj => k_is)
    (case cDj => k_is)
    (case kDj => k_is)
    (case aAs => k_is)
    (case lAs => k_is)
    (case cAs => k_is)
    (case kAs => k_is)
    (case aRs => k_is)
    (case lRs => k_is)
    (case cRs => k_is)
    (case kRs => k_is)
    (case aIn => k_is)
    (case iIn => k_is)
    (case lIn => k_is)
    (case cIn => k_is)
    (case kIn => k_is)
    (case aFo => k_is)
    (case lFo => k_is)
    (case cFo => k_is)
    (case kFo => k_is)
    (case aSh => k_is)
    (case lSh => k_is)
    (case cSh => k_is)
    (case kSh => k_is)
    (case aDr => k_is)
    (case lDr => k_is)
    (case cDr => k_is)
    (case kDr => k_is)
    (case aPo => k_is)
    (case lPo => k_is)
    (case cPo => k_is)
    (case kPo => k_is)
    (case aDs => k_is)
    (case lDs => k_is)
    (case cDs => k_is)
    (case kDs => k_is)
    (case aTa => k_is)
    (case lTa => k_is)
    (case cTa => k_is)
    (case kTa => k_is)
    (case aIi => k_is)
    (case lIi => k_is)
    (case cIi => k_is)
    (case kIi => k_is)
    (case aIr => k_is)
    (case lIr => k_is)
    (case cIr => k_is)
    (case kIr => k_is)
    (case aFr => k_is)
    (case lFr => k_is)
    (case cFr => k_is)
    (case kFr => k_is)
    (case aWo => k_is)
    (case lWo => k_is)
    (case cWo => k_is)
    (case kWo => k_is)
    (case aMa => k_is)
    (case lMa => k_is)
    (case cMa => k_is)
    (case kMa => k_is)
    (case aBe => k_is)
    (case lBe => k_is)
    (case cBe => k_is)
    (case kBe => k_is)
    (case aVa => k_is)
    (case lVa => k_is)
    (case cVa => k_is)
    (case kVa => k_is)
    (case aTr => k_is)
    (case lTr => k_is)
    (case cTr => k_is)
    (case kTr => k_is)
    (case aCl => k_is)
    (case lCl => k_is)
    (case cCl => k_is)
    (case kCl => k_is)
    (case aBs => k_is)
    (case lBs => k_is)
    (case cBs => k_is)
    (case kBs => k_is)
    (case aIs => k_is)
    (case lIs => k_is)
    (case cIs => k_is)
    (case kIs => k_is)
    (case aOu => k_is)
    (case lOu => k_is)
    (case cOu => k_is)
    (case kOu => k_is)
    (case aLa => k_is)
    (case lLa => k_is)
    (case cLa => k_is)
    (case kLa => k_is)
    (case pg => k_is)
    (case hd => k_is)
    (case po => k_is)
    (case sa => k_is)
    (case mk => k_is)
    (case kc => k_is)
    (case nL => k_is)
    (case nF => k_is)
    (case nS => k_is)
    (case nT => k_is)
    (case aE => k_is)
    (case xE => k_exc)
    (case kE => k_is)
    (case bE => k_is)
    (case tE => k_is)
    (case iE => k_is)
    (case sE => first | rfl | k_is)
    (case mo1 => k_is)
    (case mo2 => k_is)
    (case z0 => k_is)
    (case z1 => k_is)
    (case z2 => k_is)
    (case z3 => k_is)
    (case z4 => k_is)
    (case z5 => k_is)
    (case z6 => k_is)
    (case z7 => k_is)
    (case z8 => k_is)
    (case z9 => k_is)
    (case z10 => k_is)
