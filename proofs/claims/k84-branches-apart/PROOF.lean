import PyProof.Rows.All
import Wide.All
import OpenK.AllK
import Wide.FinOn
import HandS.ForMost
import HandS.Walk
import KE.GoesEnum
import KE.DataMinMax
import KE.SortData
import HandS.SortKw
import KE.GoesEnumKw
import KE.KDictCopyH
import KE.KTupTabMore
import KE.KDictLaw
import HandS.Style
import HandS.GenList
import HandS.List
import HandS.GenCall
import HandS.Comp
import KE.GoesMore
import HandS.IsInst
import HandS.Conv
import PySem.Challenge.RW_movingup_k84_whole_branches_apart
import PyProof.P3Eq
import HandS.DictComp
import HandS.Star
import HandS.GenBody
import HandS.GenYield
import HandS.WideBits
import HandS.TupAny
import HandS.TupMul
set_option Elab.async false
set_option linter.all false
set_option maxRecDepth 100000
set_option maxHeartbeats 4000000
/-! Plain mathematics of movingup: the mirror and the branch laws. No program here. -/
namespace Mv
/-- a person or none -/
abbrev OI := Option Int
abbrev Rows := List OI

/-- the post directly above post k (k at least 1); u k is the post above post k + 1 -/
def par (u : List Nat) (k : Nat) : Nat := u.getD (k - 1) 0
/-- u is a chart's parents -/
def Vd (u : List Nat) : Prop := ∀ k, k < u.length → u.getD k 0 ≤ k
theorem par_lt {u : List Nat} (h : Vd u) {k : Nat} (h1 : 1 ≤ k) (h2 : k ≤ u.length) : par u k < k := by
  have := h (k - 1) (by omega)
  unfold par; omega

/-- from a post up to the head -/
def up (u : List Nat) : Nat → List Nat
  | 0 => [0]
  | p + 1 => (p + 1) :: up u (min (u.getD p 0) p)
termination_by p => p
decreasing_by omega
theorem up_zero (u : List Nat) : up u 0 = [0] := by rw [up]
theorem up_succ {u : List Nat} (h : Vd u) {p : Nat} (h1 : 1 ≤ p) (h2 : p ≤ u.length) : up u p = p :: up u (par u p) := by
  obtain ⟨q, rfl⟩ : ∃ q, p = q + 1 := ⟨p - 1, by omega⟩
  have := h q (by omega)
  rw [up]
  have e : min (u.getD q 0) q = par u (q + 1) := by unfold par; rw [Nat.add_sub_cancel]; omega
  rw [e]
theorem up_ne (u : List Nat) (p : Nat) : up u p ≠ [] := by
  cases p with
  | zero => rw [up]; simp
  | succ p => rw [up]; simp
theorem mem_up_le (u : List Nat) : ∀ p q, q ∈ up u p → q ≤ p := by
  intro p
  induction p using Nat.strongRecOn with
  | ind p ih =>
    intro q hq
    cases p with
    | zero => rw [up] at hq; simp at hq; omega
    | succ p =>
      rw [up] at hq
      rcases List.mem_cons.mp hq with e | hq
      · omega
      · have := ih (min (u.getD p 0) p) (by omega) q hq
        omega
theorem zero_mem_up (u : List Nat) : ∀ p, 0 ∈ up u p := by
  intro p
  induction p using Nat.strongRecOn with
  | ind p ih =>
    cases p with
    | zero => rw [up]; simp
    | succ p =>
      rw [up]
      exact List.mem_cons_of_mem _ (ih (min (u.getD p 0) p) (by omega))
theorem self_mem_up (u : List Nat) (p : Nat) : p ∈ up u p := by
  cases p with
  | zero => rw [up]; simp
  | succ p => rw [up]; simp
/-- the part of the path above p, p excluded -/
theorem up_len (u : List Nat) : ∀ p, (up u p).length ≤ p + 1 := by
  intro p
  induction p using Nat.strongRecOn with
  | ind p ih =>
    cases p with
    | zero => rw [up]; simp
    | succ p =>
      rw [up]
      have := ih (min (u.getD p 0) p) (by omega)
      simp only [List.length_cons]; omega
theorem up_nodup (u : List Nat) : ∀ p, (up u p).Nodup := by
  intro p
  induction p using Nat.strongRecOn with
  | ind p ih =>
    cases p with
    | zero => rw [up]; simp
    | succ p =>
      rw [up]
      refine List.nodup_cons.mpr ⟨fun h => ?_, ih _ (by omega)⟩
      have := mem_up_le u _ _ h
      omega
theorem up_last (u : List Nat) : ∀ p, (up u p).getLast? = some 0 := by
  intro p
  induction p using Nat.strongRecOn with
  | ind p ih =>
    cases p with
    | zero => rw [up]; simp
    | succ p =>
      rw [up]
      have := ih (min (u.getD p 0) p) (by omega)
      rw [List.getLast?_cons, this]; rfl

/-- the posts directly below -/
def kids (u : List Nat) (p : Nat) : List Nat := (List.range (u.length + 1)).filter fun k => decide (0 < k ∧ par u k = p)
theorem mem_kids {u : List Nat} {p k : Nat} : k ∈ kids u p ↔ 0 < k ∧ k ≤ u.length ∧ par u k = p := by
  unfold kids
  rw [List.mem_filter, List.mem_range]
  simp only [decide_eq_true_eq]
  omega
theorem kids_gt {u : List Nat} (h : Vd u) {p k : Nat} (hk : k ∈ kids u p) : p < k ∧ k ≤ u.length := by
  obtain ⟨h1, h2, h3⟩ := mem_kids.mp hk
  have := par_lt h (k := k) (by omega) h2
  omega

/-- the order of pairs -/
def lt2 (a b : Int × Nat) : Bool := decide (a.1 < b.1) || (decide (a.1 = b.1) && decide (a.2 < b.2))
def best : List (Int × Nat) → Option (Int × Nat)
  | [] => none
  | a :: l => some (l.foldl (fun m x => if lt2 x m then x else m) a)
/-- the held posts directly below, with their holders -/
def cands (u : List Nat) (r : Rows) (p : Nat) : List (Int × Nat) := (kids u p).filterMap fun k => (r.getD k none).map fun x => (x, k)
theorem fold_mem : ∀ (l : List (Int × Nat)) (a : Int × Nat), l.foldl (fun m x => if lt2 x m then x else m) a ∈ a :: l
  | [], a => by simp
  | b :: l, a => by
    rw [List.foldl_cons]
    have := fold_mem l (if lt2 b a then b else a)
    rcases List.mem_cons.mp this with h | h
    · rw [h]; split <;> simp
    · simp [h]
theorem best_mem {l : List (Int × Nat)} {x : Int × Nat} (h : best l = some x) : x ∈ l := by
  cases l with
  | nil => cases h
  | cons a l => simp only [best, Option.some.injEq] at h; subst h; exact fold_mem l a
theorem mem_cands {u : List Nat} {r : Rows} {p : Nat} {x : Int} {k : Nat} (h : (x, k) ∈ cands u r p) : k ∈ kids u p ∧ r.getD k none = some x := by
  unfold cands at h
  obtain ⟨j, hj, e⟩ := List.mem_filterMap.mp h
  cases q : r.getD j none with
  | none => rw [q] at e; cases e
  | some y =>
    rw [q] at e
    simp only [Option.map_some, Option.some.injEq, Prod.mk.injEq] at e
    obtain ⟨rfl, rfl⟩ := e
    exact ⟨hj, q⟩

/-- who moves up, from the post p that became empty: (mover, old, new), and the rows behind -/
def run (u : List Nat) : Nat → Rows → Nat → List (Int × Nat × Nat) × Rows
  | 0, r, _ => ([], r)
  | f + 1, r, p => match best (cands u r p) with
    | none => ([], r)
    | some (x, l) => ((x, l, p) :: (run u f ((r.set p (some x)).set l none) l).1, (run u f ((r.set p (some x)).set l none) l).2)
theorem run_len (u : List Nat) : ∀ f r p, (run u f r p).2.length = r.length
  | 0, r, p => rfl
  | f + 1, r, p => by
    unfold run
    cases best (cands u r p) with
    | none => rfl
    | some x => obtain ⟨x, l⟩ := x; show (run u f _ l).2.length = _; rw [run_len u f]; simp
theorem run_fuel {u : List Nat} (h : Vd u) : ∀ f g r p, u.length + 1 ≤ f + p → u.length + 1 ≤ g + p → p ≤ u.length → run u f r p = run u g r p
  | 0, g, r, p, h1, h2, h3 => by omega
  | f + 1, 0, r, p, h1, h2, h3 => by omega
  | f + 1, g + 1, r, p, h1, h2, h3 => by
    unfold run
    cases e : best (cands u r p) with
    | none => rfl
    | some x =>
      obtain ⟨x, l⟩ := x
      have hl := kids_gt h (mem_cands (best_mem e)).1
      show ((x, l, p) :: (run u f _ l).1, (run u f _ l).2) = ((x, l, p) :: (run u g _ l).1, (run u g _ l).2)
      rw [run_fuel h f g _ l (by omega) (by omega) hl.2]

def idx (r : Rows) (x : Int) : Nat := r.idxOf (some x)
theorem idx_lt {r : Rows} {x : Int} (h : some x ∈ r) : idx r x < r.length := List.idxOf_lt_length_of_mem h
theorem idx_get {r : Rows} {x : Int} (h : some x ∈ r) : r.getD (idx r x) none = some x := by
  have hl := idx_lt h
  rw [List.getD_eq_getElem?_getD, List.getElem?_eq_getElem hl]
  have : r[idx r x] = some x := List.getElem_idxOf hl
  rw [this]; rfl
theorem idx_le {r : Rows} {x : Int} {k : Nat} (h : r.getD k none = some x) : idx r x ≤ k := by
  unfold idx
  by_cases hk : k < r.length
  · refine Nat.le_of_not_lt fun hlt => ?_
    have := List.not_of_lt_findIdx (p := (· == some x)) (xs := r) (i := k) hlt
    rw [List.getD_eq_getElem?_getD, List.getElem?_eq_getElem hk] at h
    simp at h this
    exact this h
  · rw [List.getD_eq_getElem?_getD, List.getElem?_eq_none (by omega)] at h; cases h

/-- one person leaves -/
def leaveR (u : List Nat) (r : Rows) (x : Int) : List (Int × Nat × Nat) × Rows := run u (u.length + 1) (r.set (idx r x) none) (idx r x)
end Mv


/-! Plain mathematics of movingup: a branch within a chart. No program here. -/
namespace Mv
/-- u's posts stand in uT from s on -/
structure Emb (uT u : List Nat) (s : Nat) : Prop where
  pos : 1 ≤ s
  fit : s + u.length ≤ uT.length
  vT : Vd uT
  v : Vd u
  inn : ∀ k, 1 ≤ k → k ≤ u.length → par uT (s + k) = s + par u k
  head : par uT s = 0
  out : ∀ j, 1 ≤ j → j ≤ uT.length → ¬ (s ≤ j ∧ j ≤ s + u.length) → ¬ (s ≤ par uT j ∧ par uT j ≤ s + u.length)

variable {uT u : List Nat} {s : Nat}
theorem Emb.up (E : Emb uT u s) : ∀ p, p ≤ u.length → up uT (s + p) = (up u p).map (s + ·) ++ [0] := by
  intro p
  induction p using Nat.strongRecOn with
  | ind p ih =>
    intro hp
    have h1 := E.pos
    have h2 := E.fit
    rw [up_succ E.vT (by omega) (by omega)]
    by_cases h0 : p = 0
    · subst h0
      rw [Nat.add_zero, E.head, up_zero, up_zero]; rfl
    · rw [E.inn p (by omega) hp]
      have := par_lt E.v (k := p) (by omega) hp
      rw [ih (par u p) this (by omega), up_succ E.v (by omega) hp]
      rfl

theorem filter_range_map (a b n : Nat) (P : Nat → Bool) (Q : Nat → Bool) (h1 : ∀ k, k < a → P k = false) (h2 : ∀ k, k < b → P (a + k) = Q k) (h3 : ∀ k, a + b ≤ k → k < n → P k = false) (hn : a + b ≤ n) :
    (List.range n).filter P = ((List.range b).filter Q).map (a + ·) := by
  have e : n = a + (b + (n - (a + b))) := by omega
  rw [e, List.range_add, List.filter_append, List.range_add, List.map_append, List.filter_append]
  have z1 : (List.range a).filter P = [] := List.filter_eq_nil_iff.mpr fun k hk => by rw [h1 k (List.mem_range.mp hk)]; simp
  have z2 : (((List.range (n - (a + b))).map (b + ·)).map (a + ·)).filter P = [] := List.filter_eq_nil_iff.mpr fun k hk => by
    obtain ⟨j, hj, rfl⟩ := List.mem_map.mp hk
    obtain ⟨i, hi, rfl⟩ := List.mem_map.mp hj
    have := List.mem_range.mp hi
    rw [h3 _ (by omega) (by omega)]; simp
  rw [z1, z2, List.nil_append, List.append_nil, List.filter_map]
  congr 1
  refine List.filter_congr fun k hk => ?_
  exact h2 k (List.mem_range.mp hk)

theorem Emb.kids (E : Emb uT u s) {p : Nat} (hp : p ≤ u.length) : kids uT (s + p) = (kids u p).map (s + ·) := by
  have h1 := E.pos
  have h2 := E.fit
  unfold Mv.kids
  refine filter_range_map s (u.length + 1) _ _ _ (fun k hk => ?_) (fun k hk => ?_) (fun k h3 h4 => ?_) (by omega)
  · rw [decide_eq_false_iff_not]
    rintro ⟨h5, h6⟩
    have := par_lt E.vT (k := k) (by omega) (by omega)
    omega
  · by_cases h0 : k = 0
    · subst h0
      rw [Nat.add_zero, E.head]
      simp; omega
    · rw [E.inn k (by omega) (by omega)]
      exact decide_eq_decide.mpr (by omega)
  · rw [decide_eq_false_iff_not]
    rintro ⟨h5, h6⟩
    exact E.out k (by omega) (by omega) (by omega) (by omega)

theorem getD_mid {pre r post : Rows} {k : Nat} (h : k < r.length) : (pre ++ r ++ post).getD (pre.length + k) none = r.getD k none := by
  simp only [List.getD_eq_getElem?_getD]
  rw [List.getElem?_append_left (by simp; omega), List.getElem?_append_right (by omega), Nat.add_sub_cancel_left]
theorem set_mid {pre r post : Rows} {k : Nat} {v : OI} (h : k < r.length) : (pre ++ r ++ post).set (pre.length + k) v = pre ++ r.set k v ++ post := by
  rw [List.set_append_left _ _ (by simp; omega), List.set_append_right _ _ (by omega), Nat.add_sub_cancel_left]

def sh (s : Nat) (x : Int × Nat) : Int × Nat := (x.1, s + x.2)
def sh3 (s : Nat) (x : Int × Nat × Nat) : Int × Nat × Nat := (x.1, s + x.2.1, s + x.2.2)
theorem lt2_sh (s : Nat) (a b : Int × Nat) : lt2 (sh s a) (sh s b) = lt2 a b := by
  unfold lt2 sh
  simp
theorem best_sh (s : Nat) : ∀ l : List (Int × Nat), best (l.map (sh s)) = (best l).map (sh s)
  | [] => rfl
  | a :: l => by
    simp only [List.map_cons, best, Option.map_some]
    congr 1
    have key : ∀ (l : List (Int × Nat)) (a : Int × Nat), (l.map (sh s)).foldl (fun m x => if lt2 x m then x else m) (sh s a) = sh s (l.foldl (fun m x => if lt2 x m then x else m) a) := by
      intro l
      induction l with
      | nil => intro a; rfl
      | cons b l ih =>
        intro a
        rw [List.map_cons, List.foldl_cons, List.foldl_cons, lt2_sh]
        rw [show (if lt2 b a = true then sh s b else sh s a) = sh s (if lt2 b a = true then b else a) by split <;> rfl]
        exact ih _
    exact key l a
theorem Emb.cands (E : Emb uT u s) {pre r post : Rows} (hs : pre.length = s) (hr : r.length = u.length + 1) {p : Nat} (hp : p ≤ u.length) : cands uT (pre ++ r ++ post) (s + p) = (cands u r p).map (sh s) := by
  unfold Mv.cands
  rw [E.kids hp, List.filterMap_map, List.map_filterMap]
  have key : ∀ l : List Nat, (∀ k ∈ l, k ≤ u.length) → l.filterMap ((fun k => Option.map (fun x => (x, k)) ((pre ++ r ++ post).getD k none)) ∘ fun x => s + x) = l.filterMap (fun x => Option.map (sh s) (Option.map (fun y => (y, x)) (r.getD x none))) := by
    intro l
    induction l with
    | nil => intro _; rfl
    | cons k l ih =>
      intro h
      have e : (pre ++ r ++ post).getD (s + k) none = r.getD k none := by
        rw [← hs]
        exact getD_mid (by have := h k List.mem_cons_self; omega)
      have e2 : ((fun k => Option.map (fun x => (x, k)) ((pre ++ r ++ post).getD k none)) ∘ fun x => s + x) k = Option.map (sh s) (Option.map (fun y => (y, k)) (r.getD k none)) := by
        show Option.map (fun x => (x, s + k)) ((pre ++ r ++ post).getD (s + k) none) = _
        rw [e]
        cases r.getD k none <;> rfl
      rw [List.filterMap_cons, List.filterMap_cons, e2, ih fun j hj => h j (List.mem_cons_of_mem _ hj)]
  exact key _ fun k hk => (kids_gt E.v hk).2
theorem Emb.run (E : Emb uT u s) {pre post : Rows} (hs : pre.length = s) : ∀ (f : Nat) (r : Rows) (p : Nat), r.length = u.length + 1 → p ≤ u.length →
    run uT f (pre ++ r ++ post) (s + p) = ((run u f r p).1.map (sh3 s), pre ++ (run u f r p).2 ++ post)
  | 0, r, p, _, _ => rfl
  | f + 1, r, p, hr, hp => by
    unfold Mv.run
    rw [E.cands hs hr hp, best_sh]
    cases e : best (Mv.cands u r p) with
    | none => rfl
    | some x =>
      obtain ⟨x, l⟩ := x
      have hl := kids_gt E.v (mem_cands (best_mem e)).1
      show ((x, s + l, s + p) :: (Mv.run uT f (((pre ++ r ++ post).set (s + p) (some x)).set (s + l) none) (s + l)).1, (Mv.run uT f (((pre ++ r ++ post).set (s + p) (some x)).set (s + l) none) (s + l)).2) =
        (((x, l, p) :: (Mv.run u f ((r.set p (some x)).set l none) l).1).map (sh3 s), pre ++ (Mv.run u f ((r.set p (some x)).set l none) l).2 ++ post)
      have e1 : (pre ++ r ++ post).set (s + p) (some x) = pre ++ r.set p (some x) ++ post := by rw [← hs]; exact set_mid (by omega)
      have e2 : (pre ++ r.set p (some x) ++ post).set (s + l) none = pre ++ (r.set p (some x)).set l none ++ post := by rw [← hs]; exact set_mid (by rw [List.length_set]; omega)
      rw [e1, e2, E.run hs f _ l (by simp; omega) hl.2]
      rfl

/-- where a person of the branch sits -/
theorem idx_mid {pre r post : Rows} {x : Int} (h1 : some x ∉ pre) (h2 : some x ∈ r) : idx (pre ++ r ++ post) x = pre.length + idx r x := by
  unfold idx
  rw [List.idxOf_append, if_pos (List.mem_append_right _ h2), List.idxOf_append, if_neg h1]
  omega
theorem Emb.leave (E : Emb uT u s) {pre r post : Rows} (hs : pre.length = s) (hr : r.length = u.length + 1) {x : Int} (h1 : some x ∉ pre) (h2 : some x ∈ r) :
    leaveR uT (pre ++ r ++ post) x = ((leaveR u r x).1.map (sh3 s), pre ++ (leaveR u r x).2 ++ post) := by
  have hi : idx r x ≤ u.length := by have := idx_lt h2; omega
  have h3 := E.fit
  unfold leaveR
  rw [idx_mid h1 h2, hs]
  have e1 : (pre ++ r ++ post).set (s + idx r x) none = pre ++ r.set (idx r x) none ++ post := by rw [← hs]; exact set_mid (by omega)
  rw [e1, E.run hs _ _ _ (by rw [List.length_set]; exact hr) hi, run_fuel E.v (uT.length + 1) (u.length + 1) _ _ (by omega) (by omega) hi]
end Mv


/-! Plain mathematics of movingup: posts below, open posts, joining, who stays in place. No program here. -/
namespace Mv
variable {uT u : List Nat} {s : Nat}
/-! ### sorting -/
def srt (l : List Int) : List Int := l.mergeSort fun a b => decide (a ≤ b)
theorem srt_perm (l : List Int) : (srt l).Perm l := List.mergeSort_perm _ _
theorem srt_pw (l : List Int) : (srt l).Pairwise (· ≤ ·) := by
  have h := List.pairwise_mergeSort (le := fun a b : Int => decide (a ≤ b)) (fun a b c h1 h2 => by simp at *; omega) (fun a b => by simp; omega) l
  exact h.imp fun h => by simpa using h
theorem srt_uniq {l ys : List Int} (hp : ys.Perm l) (hs : ys.Pairwise (· ≤ ·)) : ys = srt l :=
  List.Perm.eq_of_pairwise (le := (· ≤ ·)) (fun a b _ _ h1 h2 => by omega) hs (srt_pw l) (hp.trans (srt_perm l).symm)
theorem srt_cons {l l' : List Int} {h : Int} (hp : l'.Perm (h :: l)) (hl : ∀ x ∈ l, h ≤ x) : srt l' = h :: srt l := by
  refine (srt_uniq ((srt_perm l).cons h |>.trans hp.symm) (List.pairwise_cons.mpr ⟨fun x hx => hl x ((srt_perm l).mem_iff.mp hx), srt_pw l⟩)).symm
theorem srt_filter {l l' : List Int} (P : Int → Bool) (hp : l'.Perm (l.filter P)) : (srt l).filter P = srt l' :=
  srt_uniq (((srt_perm l).filter P).trans hp.symm) ((srt_pw l).filter P)
theorem srt_len (l : List Int) : (srt l).length = l.length := (srt_perm l).length_eq
theorem mem_srt {l : List Int} {x : Int} : x ∈ srt l ↔ x ∈ l := (srt_perm l).mem_iff

/-! ### posts below -/
def downs (u : List Nat) (p : Nat) : List Nat := (List.range (u.length + 1)).filter fun k => decide (p ∈ up u k)
theorem Emb.out_up (E : Emb uT u s) : ∀ k, k ≤ uT.length → ¬ (s ≤ k ∧ k ≤ s + u.length) → ∀ j ∈ Mv.up uT k, ¬ (s ≤ j ∧ j ≤ s + u.length) := by
  intro k
  induction k using Nat.strongRecOn with
  | ind k ih =>
    intro hk ho j hj
    by_cases h0 : k = 0
    · subst h0
      rw [up_zero] at hj
      have := List.mem_singleton.mp hj
      have := E.pos
      omega
    · rw [up_succ E.vT (by omega) hk] at hj
      rcases List.mem_cons.mp hj with e | hj
      · rw [e]; exact ho
      · have := par_lt E.vT (k := k) (by omega) hk
        exact ih _ this (by omega) (E.out k (by omega) hk ho) j hj
theorem Emb.downs (E : Emb uT u s) {p : Nat} (hp : p ≤ u.length) : downs uT (s + p) = (downs u p).map (s + ·) := by
  have h1 := E.pos
  have h2 := E.fit
  unfold Mv.downs
  refine filter_range_map s (u.length + 1) _ _ _ (fun k hk => ?_) (fun k hk => ?_) (fun k h3 h4 => ?_) (by omega)
  · rw [decide_eq_false_iff_not]
    intro h
    exact E.out_up k (by omega) (by omega) _ h (by omega)
  · rw [E.up k (by omega)]
    refine decide_eq_decide.mpr ?_
    rw [List.mem_append, List.mem_map, List.mem_singleton]
    constructor
    · rintro (⟨j, hj, e⟩ | e)
      · have : j = p := by omega
        rw [← this]; exact hj
      · omega
    · intro h
      exact .inl ⟨p, h, rfl⟩
  · rw [decide_eq_false_iff_not]
    intro h
    exact E.out_up k (by omega) (by omega) _ h (by omega)
theorem downs_zero (u : List Nat) : downs u 0 = List.range (u.length + 1) := by
  unfold downs
  exact List.filter_eq_self.mpr fun k _ => decide_eq_true (zero_mem_up u k)

/-! ### open posts -/
def isOpen (u : List Nat) (r : Rows) (k : Nat) : Bool := decide (r.getD k none = none ∧ (k = 0 ∨ r.getD (par u k) none ≠ none))
def opens (u : List Nat) (r : Rows) : List Nat := (List.range (u.length + 1)).filter (isOpen u r)
theorem Emb.isOpen (E : Emb uT u s) {pre r post : Rows} (hs : pre.length = s) (hr : r.length = u.length + 1) (h0 : pre.getD 0 none ≠ none) {k : Nat} (hk : k ≤ u.length) : isOpen uT (pre ++ r ++ post) (s + k) = isOpen u r k := by
  have h1 := E.pos
  unfold Mv.isOpen
  refine decide_eq_decide.mpr ?_
  have e1 : (pre ++ r ++ post).getD (s + k) none = r.getD k none := by rw [← hs]; exact getD_mid (by omega)
  rw [e1]
  by_cases hk0 : k = 0
  · subst hk0
    rw [Nat.add_zero, E.head]
    have e2 : (pre ++ r ++ post).getD 0 none = pre.getD 0 none := by
      rw [List.append_assoc, List.getD_eq_getElem?_getD, List.getElem?_append_left (by omega), ← List.getD_eq_getElem?_getD]
    rw [e2]
    constructor
    · rintro ⟨h, _⟩; exact ⟨h, .inl rfl⟩
    · rintro ⟨h, _⟩; exact ⟨h, .inr h0⟩
  · rw [E.inn k (by omega) hk]
    have := par_lt E.v (k := k) (by omega) hk
    have e3 : (pre ++ r ++ post).getD (s + par u k) none = r.getD (par u k) none := by rw [← hs]; exact getD_mid (by omega)
    rw [e3]
    constructor
    · rintro ⟨h, h2 | h2⟩
      · omega
      · exact ⟨h, .inr h2⟩
    · rintro ⟨h, h2 | h2⟩
      · omega
      · exact ⟨h, .inr h2⟩

/-! ### an arrangement -/
structure ArrOk (u : List Nat) (r : Rows) : Prop where
  len : r.length = u.length + 1
  pos : ∀ x, some x ∈ r → 0 ≤ x
  inj : ∀ (i j : Nat) (x : Int), r.getD i none = some x → r.getD j none = some x → i = j
  ord : ∀ (k : Nat) (x : Int), 1 ≤ k → k ≤ u.length → r.getD k none = some x → ∃ y, r.getD (par u k) none = some y ∧ y ≤ x
variable {r : Rows}
theorem getD_mem {r : Rows} {k : Nat} {x : Int} (h : r.getD k none = some x) : some x ∈ r := by
  rw [List.getD_eq_getElem?_getD] at h
  cases e : r[k]? with
  | none => rw [e] at h; cases h
  | some v =>
    rw [e] at h
    have h : v = some x := h
    subst h
    exact List.mem_of_getElem? e
theorem mem_getD {r : Rows} {x : Int} (h : some x ∈ r) : ∃ k, k < r.length ∧ r.getD k none = some x := ⟨idx r x, idx_lt h, idx_get h⟩
theorem ArrOk.lt (A : ArrOk u r) {k : Nat} {x : Int} (h : r.getD k none = some x) : k ≤ u.length := by
  have := A.len
  refine Nat.le_of_not_lt fun hl => ?_
  rw [List.getD_eq_getElem?_getD, List.getElem?_eq_none (by omega)] at h
  cases h
theorem ArrOk.at (A : ArrOk u r) {k : Nat} {x : Int} (h : r.getD k none = some x) : idx r x = k := A.inj _ _ x (idx_get (getD_mem h)) h
/-- up the path all is held, the head's person is the least -/
theorem ArrOk.up (A : ArrOk u r) (v : Vd u) : ∀ q x, r.getD q none = some x → ∀ p ∈ Mv.up u q, ∃ y, r.getD p none = some y ∧ y ≤ x := by
  intro q
  induction q using Nat.strongRecOn with
  | ind q ih =>
    intro x hx p hp
    by_cases h0 : q = 0
    · subst h0
      rw [up_zero] at hp
      rw [List.mem_singleton.mp hp]
      exact ⟨x, hx, Int.le_refl _⟩
    · have hq := A.lt hx
      rw [up_succ v (by omega) hq] at hp
      rcases List.mem_cons.mp hp with e | hp
      · rw [e]; exact ⟨x, hx, Int.le_refl _⟩
      · obtain ⟨y, hy, hle⟩ := A.ord q x (by omega) hq hx
        obtain ⟨z, hz, hle2⟩ := ih _ (par_lt v (by omega) hq) y hy p hp
        exact ⟨z, hz, by omega⟩
theorem ArrOk.head_le (A : ArrOk u r) (v : Vd u) {h x : Int} (h0 : r.getD 0 none = some h) (hx : some x ∈ r) : h ≤ x := by
  obtain ⟨y, hy, hle⟩ := A.up v (idx r x) x (idx_get hx) 0 (zero_mem_up u _)
  rw [h0] at hy
  cases hy
  exact hle
theorem ArrOk.empty (A : ArrOk u r) (v : Vd u) (h0 : r.getD 0 none = none) : r = List.replicate (u.length + 1) none := by
  refine List.eq_replicate_iff.mpr ⟨A.len, fun b hb => ?_⟩
  cases b with
  | none => rfl
  | some x =>
    obtain ⟨y, hy, _⟩ := A.up v (idx r x) x (idx_get hb) 0 (zero_mem_up u _)
    rw [h0] at hy; cases hy

/-! ### who stays -/
theorem run_mem (u : List Nat) (v : Vd u) : ∀ (f : Nat) (r : Rows) (p : Nat) (y : Int), r.length = u.length + 1 → p ≤ u.length → r.getD p none = none → some y ∈ r → some y ∈ (run u f r p).2
  | 0, r, p, y, _, _, _, h => h
  | f + 1, r, p, y, hl, hp, hn, h => by
    unfold run
    cases e : best (cands u r p) with
    | none => exact h
    | some x =>
      obtain ⟨x, l⟩ := x
      obtain ⟨hk, hx⟩ := mem_cands (best_mem e)
      have hkl := kids_gt v hk
      refine run_mem u v f _ l y (by simp; exact hl) hkl.2 ?_ ?_
      · rw [List.getD_eq_getElem?_getD, List.getElem?_set_self (by simp; omega)]; rfl
      · have hy := idx_get h
        have hyl := idx_lt h
        by_cases hj : idx r y = l
        · rw [hj] at hy
          rw [hx] at hy
          cases hy
          refine List.mem_of_getElem? (i := p) ?_
          rw [List.getElem?_set_ne (by omega), List.getElem?_set_self (by omega)]
        · have hjp : idx r y ≠ p := fun e => by rw [e, hn] at hy; cases hy
          refine List.mem_of_getElem? (i := idx r y) ?_
          rw [List.getElem?_set_ne (Ne.symm hj), List.getElem?_set_ne (Ne.symm hjp)]
          rw [List.getD_eq_getElem?_getD, List.getElem?_eq_getElem hyl] at hy
          rw [List.getElem?_eq_getElem hyl]
          exact congrArg some hy
theorem leave_len (u : List Nat) (r : Rows) (x : Int) : (leaveR u r x).2.length = r.length := by unfold leaveR; rw [run_len]; simp
theorem leave_mem (v : Vd u) {r : Rows} (hl : r.length = u.length + 1) {x y : Int} (hx : some x ∈ r) (hy : some y ∈ r) (hne : y ≠ x) : some y ∈ (leaveR u r x).2 := by
  have h1 := idx_lt hx
  have h2 := idx_get hx
  have h3 := idx_lt hy
  have h4 := idx_get hy
  unfold leaveR
  refine run_mem u v _ _ _ y (by simp; exact hl) (by omega) ?_ ?_
  · rw [List.getD_eq_getElem?_getD, List.getElem?_set_self h1]; rfl
  · have hj : idx r y ≠ idx r x := fun e => by rw [e, h2] at h4; cases h4; exact hne rfl
    refine List.mem_of_getElem? (i := idx r y) ?_
    rw [List.getElem?_set_ne (Ne.symm hj)]
    rw [List.getD_eq_getElem?_getD, List.getElem?_eq_getElem h3] at h4
    rw [List.getElem?_eq_getElem h3]
    exact congrArg some h4
def careerR (u : List Nat) (x : Int) : Rows → List Int → List Nat
  | r, [] => [idx r x]
  | r, l :: ls => idx r x :: careerR u x (leaveR u r l).2 ls
theorem Emb.career (E : Emb uT u s) {pre post : Rows} (hs : pre.length = s) {x : Int} (hx : some x ∉ pre) : ∀ (ls : List Int) (r : Rows), r.length = u.length + 1 → some x ∈ r → ls.Nodup → x ∉ ls → (∀ y ∈ ls, some y ∈ r ∧ some y ∉ pre) →
    careerR uT x (pre ++ r ++ post) ls = (careerR u x r ls).map (s + ·)
  | [], r, hr, hm, _, _, _ => by
    unfold careerR
    rw [idx_mid hx hm, hs]; rfl
  | l :: ls, r, hr, hm, hn, hxl, hls => by
    have hl := hls l List.mem_cons_self
    have hnd := List.nodup_cons.mp hn
    have hxne : x ≠ l := fun e => hxl (by rw [e]; exact List.mem_cons_self)
    unfold careerR
    rw [idx_mid hx hm, hs, E.leave hs hr hl.2 hl.1]
    rw [E.career hs hx ls _ ((leave_len u r l).trans hr) (leave_mem E.v hr hl.1 hm hxne) hnd.2 (fun h => hxl (List.mem_cons_of_mem _ h)) fun y hy => ⟨leave_mem E.v hr hl.1 (hls y (List.mem_cons_of_mem _ hy)).1 fun e => hnd.1 (by rw [← e]; exact hy), (hls y (List.mem_cons_of_mem _ hy)).2⟩]
    rfl
/-- the others leave: one's own post stays -/
theorem Emb.career_out (E : Emb uT u s) {pre post : Rows} (hs : pre.length = s) {x : Int} (hx : some x ∈ pre) : ∀ (ls : List Int) (r : Rows), r.length = u.length + 1 → ls.Nodup → (∀ y ∈ ls, some y ∈ r ∧ some y ∉ pre) →
    careerR uT x (pre ++ r ++ post) ls = List.replicate (ls.length + 1) (idx pre x)
  | [], r, hr, _, _ => by
    unfold careerR idx
    rw [List.append_assoc, List.idxOf_append, if_pos hx]; rfl
  | l :: ls, r, hr, hn, hls => by
    have hl := hls l List.mem_cons_self
    have hnd := List.nodup_cons.mp hn
    unfold careerR
    rw [E.leave hs hr hl.2 hl.1]
    rw [E.career_out hs hx ls _ ((leave_len u r l).trans hr) hnd.2 fun y hy => ⟨leave_mem E.v hr hl.1 (hls y (List.mem_cons_of_mem _ hy)).1 fun e => hnd.1 (by rw [← e]; exact hy), (hls y (List.mem_cons_of_mem _ hy)).2⟩]
    have e : idx (pre ++ r ++ post) x = idx pre x := by unfold idx; rw [List.append_assoc, List.idxOf_append, if_pos hx]
    rw [e]; rfl

/-! ### joining -/
def path (u : List Nat) (p : Nat) : List Nat := (up u p).reverse
theorem path_head (u : List Nat) (p : Nat) : (path u p).head? = some 0 := by unfold path; rw [List.head?_reverse, up_last]
theorem Emb.path (E : Emb uT u s) {p : Nat} (hp : p ≤ u.length) : path uT (s + p) = 0 :: (path u p).map (s + ·) := by
  unfold Mv.path
  rw [E.up p hp, List.reverse_append, List.map_reverse]; rfl
def over (u : List Nat) (r : Rows) (p : Nat) : List Int := (path u p).dropLast.map fun q => (r.getD q none).getD 0
def lay (r : Rows) (ps : List Nat) (xs : List Int) : Rows := (ps.zip xs).foldl (fun r q => r.set q.1 (some q.2)) r
def joinR (u : List Nat) (r : Rows) (x : Int) (p : Nat) : Rows := lay r (path u p) (srt (over u r p ++ [x]))
theorem lay_mid {pre post : Rows} (hs : pre.length = s) : ∀ (ps : List Nat) (xs : List Int) (r : Rows), (∀ p ∈ ps, p < r.length) → lay (pre ++ r ++ post) (ps.map (s + ·)) xs = pre ++ lay r ps xs ++ post
  | [], xs, r, h => rfl
  | p :: ps, [], r, h => rfl
  | p :: ps, x :: xs, r, h => by
    unfold lay
    rw [List.map_cons, List.zip_cons_cons, List.zip_cons_cons, List.foldl_cons, List.foldl_cons]
    have e : (pre ++ r ++ post).set (s + p) (some x) = pre ++ r.set p (some x) ++ post := by rw [← hs]; exact set_mid (h p List.mem_cons_self)
    show ((ps.map (s + ·)).zip xs).foldl _ ((pre ++ r ++ post).set (s + p) (some x)) = _
    rw [e]
    exact lay_mid hs ps xs _ fun q hq => by rw [List.length_set]; exact h q (List.mem_cons_of_mem _ hq)
theorem lay_len (r : Rows) (ps : List Nat) (xs : List Int) : (lay r ps xs).length = r.length := by
  unfold lay
  generalize ps.zip xs = l
  induction l generalizing r with
  | nil => rfl
  | cons a l ih => rw [List.foldl_cons, ih]; simp
theorem mem_path_le {u : List Nat} {p q : Nat} (h : q ∈ path u p) : q ≤ p := mem_up_le u p q (List.mem_reverse.mp h)
/-- a newcomer above the head joins in the branch; h heads all -/
theorem Emb.join (E : Emb uT u s) {pre r post : Rows} (hs : pre.length = s) (hr : r.length = u.length + 1) {h x : Int} {p : Nat} (hp : p ≤ u.length) (h0 : pre.getD 0 none = some h) (hx : h ≤ x) (ho : ∀ y ∈ over u r p, h ≤ y) :
    joinR uT (pre ++ r ++ post) x (s + p) = pre ++ joinR u r x p ++ post := by
  have h1 := E.pos
  have hov : over uT (pre ++ r ++ post) (s + p) = h :: over u r p := by
    unfold over
    rw [E.path hp]
    have hne : (Mv.path u p).map (s + ·) ≠ [] := fun e => up_ne u p (List.reverse_eq_nil_iff.mp (List.map_eq_nil_iff.mp e))
    rw [List.dropLast_cons_of_ne_nil hne, List.map_cons, ← List.map_dropLast, List.map_map]
    have e2 : (pre ++ r ++ post).getD 0 none = pre.getD 0 none := by
      rw [List.append_assoc, List.getD_eq_getElem?_getD, List.getElem?_append_left (by omega), ← List.getD_eq_getElem?_getD]
    rw [e2, h0]
    congr 1
    refine List.map_congr_left fun q hq => ?_
    have hq' := mem_path_le (List.dropLast_subset _ hq)
    show ((pre ++ r ++ post).getD (s + q) none).getD 0 = _
    rw [← hs, getD_mid (by omega)]
  have hsrt : srt (over uT (pre ++ r ++ post) (s + p) ++ [x]) = h :: srt (over u r p ++ [x]) := by
    refine srt_cons (by rw [hov]; exact List.Perm.refl _) fun y hy => ?_
    rcases List.mem_append.mp hy with z | z
    · exact ho y z
    · rw [List.mem_singleton.mp z]; exact hx
  unfold joinR
  rw [hsrt, E.path hp]
  show lay ((pre ++ r ++ post).set 0 (some h)) ((Mv.path u p).map (s + ·)) (srt (over u r p ++ [x])) = _
  have e3 : (pre ++ r ++ post).set 0 (some h) = pre ++ r ++ post := by
    refine List.ext_getElem? fun i => ?_
    rw [List.getElem?_set]
    by_cases hi : 0 = i
    · subst hi
      rw [if_pos rfl, List.append_assoc]
      have l0 : 0 < pre.length := by omega
      rw [if_pos (by rw [List.length_append]; omega), List.getElem?_append_left l0]
      rw [List.getD_eq_getElem?_getD, List.getElem?_eq_getElem l0] at h0
      rw [List.getElem?_eq_getElem l0]
      exact congrArg some h0.symm
    · rw [if_neg hi]
  rw [e3]
  exact lay_mid hs _ _ _ fun q hq => by have := mem_path_le hq; omega
end Mv


/-! Plain mathematics of movingup: two branches under a head; reduced arrangements; filling. No program here. -/
namespace Mv
/-- two charts as branches under a new head -/
def tog (u0 u1 : List Nat) : List Nat := (0 :: u0.map (1 + ·)) ++ (0 :: u1.map (u0.length + 2 + ·))
variable {u0 u1 u : List Nat} {r0 r1 r : Rows} {h : Int}
theorem tog_len (u0 u1 : List Nat) : (tog u0 u1).length = u0.length + u1.length + 2 := by unfold tog; simp; omega
theorem tog_lo {k : Nat} (hk : k < u0.length) : (tog u0 u1).getD (1 + k) 0 = 1 + u0.getD k 0 := by
  unfold tog
  rw [List.getD_eq_getElem?_getD, List.getElem?_append_left (by simp; omega), Nat.add_comm 1 k, List.getElem?_cons_succ, List.getElem?_map, List.getD_eq_getElem?_getD, List.getElem?_eq_getElem hk]
  rfl
theorem tog_zero : (tog u0 u1).getD 0 0 = 0 := rfl
theorem tog_mid : (tog u0 u1).getD (u0.length + 1) 0 = 0 := by
  unfold tog
  rw [List.getD_eq_getElem?_getD, List.getElem?_append_right (by simp)]
  simp
theorem tog_hi {k : Nat} (hk : k < u1.length) : (tog u0 u1).getD (u0.length + 2 + k) 0 = u0.length + 2 + u1.getD k 0 := by
  unfold tog
  rw [List.getD_eq_getElem?_getD, List.getElem?_append_right (by simp; omega)]
  have e : u0.length + 2 + k - (0 :: u0.map (1 + ·)).length = k + 1 := by simp; omega
  rw [e, List.getElem?_cons_succ, List.getElem?_map, List.getD_eq_getElem?_getD, List.getElem?_eq_getElem hk]
  rfl
theorem tog_vd (v0 : Vd u0) (v1 : Vd u1) : Vd (tog u0 u1) := by
  intro k hk
  rw [tog_len] at hk
  by_cases h1 : k = 0
  · subst h1; rw [tog_zero]; omega
  · by_cases h2 : k < u0.length + 1
    · obtain ⟨j, rfl⟩ : ∃ j, k = 1 + j := ⟨k - 1, by omega⟩
      rw [tog_lo (by omega)]
      have := v0 j (by omega)
      omega
    · by_cases h3 : k = u0.length + 1
      · subst h3; rw [tog_mid]; omega
      · obtain ⟨j, rfl⟩ : ∃ j, k = u0.length + 2 + j := ⟨k - (u0.length + 2), by omega⟩
        rw [tog_hi (by omega)]
        have := v1 j (by omega)
        omega
theorem par_add {u : List Nat} {k : Nat} : par u (1 + k) = u.getD k 0 := by unfold par; rw [Nat.add_sub_cancel_left]
theorem tog_lo_le (v0 : Vd u0) {k : Nat} (h1 : 1 ≤ k) (h2 : k ≤ u0.length) : par (tog u0 u1) (1 + k) = 1 + par u0 k := by
  obtain ⟨j, rfl⟩ : ∃ j, k = 1 + j := ⟨k - 1, by omega⟩
  rw [par_add, par_add, tog_lo (by omega)]
theorem tog_hi_le (v1 : Vd u1) {k : Nat} (h1 : 1 ≤ k) (h2 : k ≤ u1.length) : par (tog u0 u1) (u0.length + 2 + k) = u0.length + 2 + par u1 k := by
  obtain ⟨j, rfl⟩ : ∃ j, k = 1 + j := ⟨k - 1, by omega⟩
  rw [show u0.length + 2 + (1 + j) = 1 + (u0.length + 2 + j) by omega, par_add, par_add, tog_hi (by omega)]
theorem tog_one : par (tog u0 u1) 1 = 0 := by unfold par; exact tog_zero
theorem tog_two : par (tog u0 u1) (u0.length + 2) = 0 := by unfold par; exact tog_mid
theorem emb0 (v0 : Vd u0) (v1 : Vd u1) : Emb (tog u0 u1) u0 1 := by
  refine ⟨by omega, by rw [tog_len]; omega, tog_vd v0 v1, v0, fun k h1 h2 => tog_lo_le v0 h1 h2, tog_one, fun j h1 h2 h3 h4 => ?_⟩
  rw [tog_len] at h2
  by_cases hj : j = u0.length + 2
  · rw [hj, tog_two] at h4; omega
  · obtain ⟨k, rfl⟩ : ∃ k, j = u0.length + 2 + k := ⟨j - (u0.length + 2), by omega⟩
    rw [tog_hi_le v1 (by omega) (by omega)] at h4
    omega
theorem emb1 (v0 : Vd u0) (v1 : Vd u1) : Emb (tog u0 u1) u1 (u0.length + 2) := by
  refine ⟨by omega, by rw [tog_len]; omega, tog_vd v0 v1, v1, fun k h1 h2 => tog_hi_le v1 h1 h2, tog_two, fun j h1 h2 h3 h4 => ?_⟩
  have := par_lt (tog_vd v0 v1) (k := j) h1 h2
  rw [tog_len] at h2
  omega

/-! ### the rows of both -/
def rws (h : Int) (r0 r1 : Rows) : Rows := some h :: (r0 ++ r1)
theorem rws0 (h : Int) (r0 r1 : Rows) : rws h r0 r1 = [some h] ++ r0 ++ r1 := rfl
theorem rws1 (h : Int) (r0 r1 : Rows) : rws h r0 r1 = (some h :: r0) ++ r1 ++ [] := by simp [rws]
theorem getD_r0 {k : Nat} (hk : k < r0.length) : (rws h r0 r1).getD (1 + k) none = r0.getD k none := by rw [rws0]; exact getD_mid (pre := [some h]) hk
theorem getD_r1 {k : Nat} (hk : k < r1.length) : (rws h r0 r1).getD (r0.length + 1 + k) none = r1.getD k none := by
  rw [rws1]; exact getD_mid (pre := some h :: r0) (r := r1) (post := []) hk
/-- two arrangements under a head that has the least number -/
structure Two (u0 u1 : List Nat) (h : Int) (r0 r1 : Rows) : Prop where
  v0 : Vd u0
  v1 : Vd u1
  a0 : ArrOk u0 r0
  a1 : ArrOk u1 r1
  pos : 0 ≤ h
  lt0 : ∀ x, some x ∈ r0 → h < x
  lt1 : ∀ x, some x ∈ r1 → h < x
  dis : ∀ x, some x ∈ r0 → some x ∉ r1
theorem rws_split (a0 : ArrOk u0 r0) (a1 : ArrOk u1 r1) {k : Nat} {x : Int} (e : (rws h r0 r1).getD k none = some x) :
    (k = 0 ∧ x = h) ∨ (∃ j, j ≤ u0.length ∧ k = 1 + j ∧ r0.getD j none = some x) ∨ ∃ j, j ≤ u1.length ∧ k = u0.length + 2 + j ∧ r1.getD j none = some x := by
  have l0 := a0.len
  have l1 := a1.len
  by_cases h0 : k = 0
  · subst h0
    refine .inl ⟨rfl, ?_⟩
    cases e
    rfl
  · by_cases h1 : k ≤ u0.length + 1
    · obtain ⟨j, rfl⟩ : ∃ j, k = 1 + j := ⟨k - 1, by omega⟩
      rw [getD_r0 (by omega)] at e
      exact .inr (.inl ⟨j, by omega, rfl, e⟩)
    · obtain ⟨j, rfl⟩ : ∃ j, k = r0.length + 1 + j := ⟨k - (r0.length + 1), by omega⟩
      by_cases hj : j < r1.length
      · rw [getD_r1 hj] at e
        exact .inr (.inr ⟨j, by omega, by omega, e⟩)
      · rw [List.getD_eq_getElem?_getD, List.getElem?_eq_none (by simp [rws]; omega)] at e
        cases e
theorem Two.arr (t : Two u0 u1 h r0 r1) : ArrOk (tog u0 u1) (rws h r0 r1) := by
  have l0 := t.a0.len
  have l1 := t.a1.len
  refine ⟨by rw [tog_len]; simp [rws]; omega, fun x hx => ?_, fun i j x hi hj => ?_, fun k x h1 h2 e => ?_⟩
  · rcases List.mem_cons.mp hx with e | hx
    · cases e; exact t.pos
    · rcases List.mem_append.mp hx with hx | hx
      · exact t.a0.pos x hx
      · exact t.a1.pos x hx
  · rcases rws_split t.a0 t.a1 hi with ⟨ei, ex⟩ | ⟨a, ha, ei, ex⟩ | ⟨a, ha, ei, ex⟩ <;> rcases rws_split t.a0 t.a1 hj with ⟨ej, ey⟩ | ⟨b, hb, ej, ey⟩ | ⟨b, hb, ej, ey⟩
    · omega
    · have := t.lt0 x (getD_mem ey); omega
    · have := t.lt1 x (getD_mem ey); omega
    · have := t.lt0 x (getD_mem ex); omega
    · have := t.a0.inj a b x ex ey; omega
    · exact absurd (getD_mem ey) (t.dis x (getD_mem ex))
    · have := t.lt1 x (getD_mem ex); omega
    · exact absurd (getD_mem ex) (t.dis x (getD_mem ey))
    · have := t.a1.inj a b x ex ey; omega
  · rcases rws_split t.a0 t.a1 e with ⟨ei, ex⟩ | ⟨a, ha, ei, ex⟩ | ⟨a, ha, ei, ex⟩
    · omega
    · by_cases h0 : a = 0
      · subst h0
        rw [ei, Nat.add_zero, tog_one]
        exact ⟨h, rfl, Int.le_of_lt (t.lt0 x (getD_mem ex))⟩
      · rw [ei, tog_lo_le t.v0 (by omega) ha]
        obtain ⟨y, hy, hle⟩ := t.a0.ord a x (by omega) ha ex
        exact ⟨y, by rw [getD_r0 (by have := t.a0.lt hy; omega)]; exact hy, hle⟩
    · by_cases h0 : a = 0
      · subst h0
        rw [ei, Nat.add_zero, tog_two]
        exact ⟨h, rfl, Int.le_of_lt (t.lt1 x (getD_mem ex))⟩
      · rw [ei, tog_hi_le t.v1 (by omega) ha]
        obtain ⟨y, hy, hle⟩ := t.a1.ord a x (by omega) ha ex
        have q := t.a1.lt hy
        refine ⟨y, ?_, hle⟩
        rw [show u0.length + 2 + par u1 a = r0.length + 1 + par u1 a by omega, getD_r1 (by omega)]
        exact hy

/-! ### the head leaves -/
theorem tog_kids (v0 : Vd u0) (v1 : Vd u1) : kids (tog u0 u1) 0 = [1, u0.length + 2] := by
  unfold kids
  rw [tog_len]
  have key : ∀ k, k < u0.length + u1.length + 3 → (decide (0 < k ∧ par (tog u0 u1) k = 0) = decide (k = 1 ∨ k = u0.length + 2)) := fun k hk => by
    refine decide_eq_decide.mpr ?_
    by_cases h0 : k = 0
    · omega
    · by_cases h1 : k ≤ u0.length + 1
      · obtain ⟨j, rfl⟩ : ∃ j, k = 1 + j := ⟨k - 1, by omega⟩
        by_cases hj : j = 0
        · subst hj; rw [tog_one]; omega
        · rw [tog_lo_le v0 (by omega) (by omega)]; omega
      · by_cases h2 : k = u0.length + 2
        · subst h2; rw [tog_two]; omega
        · obtain ⟨j, rfl⟩ : ∃ j, k = u0.length + 2 + j := ⟨k - (u0.length + 2), by omega⟩
          rw [tog_hi_le v1 (by omega) (by omega)]; omega
  rw [List.filter_congr (q := fun k => decide (k = 1 ∨ k = u0.length + 2)) fun k hk => key k (by have := List.mem_range.mp hk; omega)]
  have e : u0.length + u1.length + 2 + 1 = 1 + (1 + (u0.length + (1 + u1.length))) := by omega
  rw [e]
  simp only [List.range_add, List.filter_append, List.filter_map, List.map_append]
  have z0 : (List.range 1).filter (fun k => decide (k = 1 ∨ k = u0.length + 2)) = [] := by simp [List.range_succ]
  have z1 : (List.range 1).filter ((fun k => decide (k = 1 ∨ k = u0.length + 2)) ∘ fun x => 1 + x) = [0] := by simp [List.range_succ]
  have z2 : (List.range u0.length).filter (((fun k => decide (k = 1 ∨ k = u0.length + 2)) ∘ fun x => 1 + x) ∘ fun x => 1 + x) = [] := by
    refine List.filter_eq_nil_iff.mpr fun k hk => ?_
    have := List.mem_range.mp hk
    simp; omega
  have z3 : (List.range 1).filter ((((fun k => decide (k = 1 ∨ k = u0.length + 2)) ∘ fun x => 1 + x) ∘ fun x => 1 + x) ∘ fun x => u0.length + x) = [0] := by
    have : 1 + (1 + u0.length) = u0.length + 2 := by omega
    simp [List.range_succ, this]
  have z4 : (List.range u1.length).filter (((((fun k => decide (k = 1 ∨ k = u0.length + 2)) ∘ fun x => 1 + x) ∘ fun x => 1 + x) ∘ fun x => u0.length + x) ∘ fun x => 1 + x) = [] := by
    refine List.filter_eq_nil_iff.mpr fun k hk => ?_
    simp; omega
  rw [z0, z1, z2, z3, z4]
  simp
  omega
/-- the heads of the branches: (person, which) -/
def heads (r0 r1 : Rows) : List (Int × Nat) := ((r0.getD 0 none).map fun x => (x, 0)).toList ++ ((r1.getD 0 none).map fun x => (x, 1)).toList
theorem head_cands (t : Two u0 u1 h r0 r1) : cands (tog u0 u1) ((rws h r0 r1).set 0 none) 0 = (heads r0 r1).map fun p => (p.1, if p.2 = 0 then 1 else u0.length + 2) := by
  have l0 := t.a0.len
  have l1 := t.a1.len
  unfold cands heads
  rw [tog_kids t.v0 t.v1]
  have e1 : ((rws h r0 r1).set 0 none).getD 1 none = r0.getD 0 none := by
    have := getD_r0 (h := h) (r0 := r0) (r1 := r1) (k := 0) (by omega)
    exact this
  have e2 : ((rws h r0 r1).set 0 none).getD (u0.length + 2) none = r1.getD 0 none := by
    have := getD_r1 (h := h) (r0 := r0) (r1 := r1) (k := 0) (by omega)
    rw [Nat.add_zero, l0] at this
    exact this
  simp only [List.filterMap_cons, List.filterMap_nil, e1, e2]
  cases r0.getD 0 none <;> cases r1.getD 0 none <;> simp
theorem head_none (t : Two u0 u1 h r0 r1) (e : heads r0 r1 = []) : leaveR (tog u0 u1) (rws h r0 r1) h = ([], List.replicate ((tog u0 u1).length + 1) none) := by
  have hi : idx (rws h r0 r1) h = 0 := by unfold idx rws; simp
  unfold leaveR
  rw [hi]
  have hc := head_cands t
  rw [e, List.map_nil] at hc
  unfold run
  rw [hc]
  have z0 : r0.getD 0 none = none := by
    unfold heads at e
    cases q : r0.getD 0 none with
    | none => rfl
    | some x => rw [q] at e; simp at e
  have z1 : r1.getD 0 none = none := by
    unfold heads at e
    cases q : r1.getD 0 none with
    | none => rfl
    | some x => rw [q] at e; simp at e
  have l0 := t.a0.empty t.v0 z0
  have l1 := t.a1.empty t.v1 z1
  show ([], (rws h r0 r1).set 0 none) = _
  have e3 : (rws h r0 r1).set 0 none = none :: (r0 ++ r1) := rfl
  rw [e3, l0, l1, tog_len, List.replicate_append_replicate, ← List.replicate_succ]
  congr 2
  omega
theorem best_pair (a b : Int × Nat) (f : Nat → Nat) (hf : f a.2 < f b.2 ↔ a.2 < b.2) (hf2 : f b.2 < f a.2 ↔ b.2 < a.2) : lt2 (b.1, f b.2) (a.1, f a.2) = lt2 b a := by
  unfold lt2
  have : decide (f b.2 < f a.2) = decide (b.2 < a.2) := decide_eq_decide.mpr hf2
  simp only [this]
theorem head_best (r0 r1 : Rows) (n : Nat) : best ((heads r0 r1).map fun p => (p.1, if p.2 = 0 then 1 else n + 2)) = (best (heads r0 r1)).map fun p => (p.1, if p.2 = 0 then 1 else n + 2) := by
  unfold heads
  cases r0.getD 0 none with
  | none => cases r1.getD 0 none <;> simp [best]
  | some x =>
    cases r1.getD 0 none with
    | none => simp [best]
    | some y =>
      simp only [Option.map_some, Option.toList_some, List.singleton_append, List.map_cons, List.map_nil, best, List.foldl_cons, List.foldl_nil, if_true]
      have e : lt2 (y, if (1 : Nat) = 0 then 1 else n + 2) (x, 1) = lt2 (y, 1) (x, 0) := by
        unfold lt2
        simp
      rw [e]
      split <;> simp
theorem heads_mem {x : Int} {w : Nat} (hm : (x, w) ∈ heads r0 r1) : (w = 0 ∧ r0.getD 0 none = some x) ∨ (w = 1 ∧ r1.getD 0 none = some x) := by
  unfold heads at hm
  rcases List.mem_append.mp hm with z | z
  · cases q : r0.getD 0 none with
    | none => rw [q] at z; simp at z
    | some y => rw [q] at z; simp at z; exact .inl ⟨z.2, by rw [z.1]⟩
  · cases q : r1.getD 0 none with
    | none => rw [q] at z; simp at z
    | some y => rw [q] at z; simp at z; exact .inr ⟨z.2, by rw [z.1]⟩
theorem idx_head {r : Rows} {x : Int} (e : r.getD 0 none = some x) : idx r x = 0 := by
  have := idx_le e
  omega
theorem head_0 (t : Two u0 u1 h r0 r1) {x : Int} (e : best (heads r0 r1) = some (x, 0)) :
    leaveR (tog u0 u1) (rws h r0 r1) h = ((x, 1, 0) :: (leaveR u0 r0 x).1.map (sh3 1), some x :: ((leaveR u0 r0 x).2 ++ r1)) := by
  have l0 := t.a0.len
  have hx : r0.getD 0 none = some x := by
    rcases heads_mem (best_mem e) with ⟨_, z⟩ | ⟨z, _⟩
    · exact z
    · omega
  have hi : idx (rws h r0 r1) h = 0 := by unfold idx rws; simp
  have E := emb0 t.v0 t.v1
  have step : run (tog u0 u1) ((tog u0 u1).length + 1) ((rws h r0 r1).set 0 none) 0 = ((x, 1, 0) :: (run (tog u0 u1) (tog u0 u1).length ((((rws h r0 r1).set 0 none).set 0 (some x)).set 1 none) 1).1, (run (tog u0 u1) (tog u0 u1).length ((((rws h r0 r1).set 0 none).set 0 (some x)).set 1 none) 1).2) := by
    rw [run, head_cands t, head_best, e]
    rfl
  have e2 : (((rws h r0 r1).set 0 none).set 0 (some x)).set 1 none = [some x] ++ r0.set 0 none ++ r1 := by
    have : (((rws h r0 r1).set 0 none).set 0 (some x)) = [some x] ++ r0 ++ r1 := rfl
    rw [this]
    exact set_mid (pre := [some x]) (k := 0) (by omega)
  have e3 := E.run (pre := [some x]) (post := r1) rfl (tog u0 u1).length (r0.set 0 none) 0 (by rw [List.length_set]; exact l0) (Nat.zero_le _)
  unfold leaveR
  rw [hi, step, e2, show (1 : Nat) = 1 + 0 from rfl, e3, idx_head hx, run_fuel t.v0 (tog u0 u1).length (u0.length + 1) _ _ (by rw [tog_len]; omega) (by omega) (Nat.zero_le _)]
  simp [sh3]
theorem head_1 (t : Two u0 u1 h r0 r1) {x : Int} (e : best (heads r0 r1) = some (x, 1)) :
    leaveR (tog u0 u1) (rws h r0 r1) h = ((x, u0.length + 2, 0) :: (leaveR u1 r1 x).1.map (sh3 (u0.length + 2)), some x :: (r0 ++ (leaveR u1 r1 x).2)) := by
  have l0 := t.a0.len
  have l1 := t.a1.len
  have hx : r1.getD 0 none = some x := by
    rcases heads_mem (best_mem e) with ⟨z, _⟩ | ⟨_, z⟩
    · omega
    · exact z
  have hi : idx (rws h r0 r1) h = 0 := by unfold idx rws; simp
  have E := emb1 t.v0 t.v1
  have step : run (tog u0 u1) ((tog u0 u1).length + 1) ((rws h r0 r1).set 0 none) 0 = ((x, u0.length + 2, 0) :: (run (tog u0 u1) (tog u0 u1).length ((((rws h r0 r1).set 0 none).set 0 (some x)).set (u0.length + 2) none) (u0.length + 2)).1, (run (tog u0 u1) (tog u0 u1).length ((((rws h r0 r1).set 0 none).set 0 (some x)).set (u0.length + 2) none) (u0.length + 2)).2) := by
    rw [run, head_cands t, head_best, e]
    rfl
  have e2 : (((rws h r0 r1).set 0 none).set 0 (some x)).set (u0.length + 2) none = (some x :: r0) ++ r1.set 0 none ++ [] := by
    have q : (((rws h r0 r1).set 0 none).set 0 (some x)) = (some x :: r0) ++ r1 ++ [] := by rw [List.append_nil]; rfl
    rw [q]
    have := set_mid (pre := some x :: r0) (r := r1) (post := []) (k := 0) (v := none) (by omega)
    rw [Nat.add_zero, List.length_cons, l0] at this
    exact this
  have e3 := E.run (pre := some x :: r0) (post := []) (by rw [List.length_cons, l0]) (tog u0 u1).length (r1.set 0 none) 0 (by rw [List.length_set]; exact l1) (Nat.zero_le _)
  rw [Nat.add_zero] at e3
  unfold leaveR
  rw [hi, step, e2, e3, idx_head hx, run_fuel t.v1 (tog u0 u1).length (u1.length + 1) _ _ (by rw [tog_len]; omega) (by omega) (Nat.zero_le _)]
  simp [sh3]
end Mv


/-! Plain mathematics of movingup: reduced arrangements, filling. No program here. -/
namespace Mv
variable {u0 u1 u : List Nat} {r0 r1 r : Rows} {h : Int}
/-! ### reduced -/
def freeOf (u : List Nat) (r : Rows) (w : Rows) (x : Int) : List Nat := (path u (idx r x)).filter fun k => decide (w.getD k none = none)
def place (u : List Nat) (r : Rows) (w : Rows) (x : Int) : Rows := w.set ((freeOf u r w x).headD 0) (some x)
def redR (u : List Nat) (r : Rows) (xs : List Int) : Rows := (srt xs).foldl (place u r) (List.replicate r.length none)
/-- who is placed sits on his own path; all of them are below b -/
structure Placed (u : List Nat) (r : Rows) (w : Rows) (b : Int → Prop) : Prop where
  len : w.length = u.length + 1
  on : ∀ k z, w.getD k none = some z → b z ∧ some z ∈ r ∧ k ∈ up u (idx r z)
theorem Placed.own {w : Rows} {x : Int} {b : Int → Prop} (P : Placed u r w b) (hb : ∀ z, b z → z < x) (A : ArrOk u r) (v : Vd u) (hx : some x ∈ r) : w.getD (idx r x) none = none := by
  cases e : w.getD (idx r x) none with
  | none => rfl
  | some z =>
    obtain ⟨h1, h2, h3⟩ := P.on _ _ e
    obtain ⟨y, hy, hle⟩ := A.up v (idx r z) z (idx_get h2) _ h3
    rw [idx_get hx] at hy
    cases hy
    have := hb z h1
    omega
theorem Placed.free {w : Rows} {x : Int} {b : Int → Prop} (P : Placed u r w b) (hb : ∀ z, b z → z < x) (A : ArrOk u r) (v : Vd u) (hx : some x ∈ r) : ∃ k l, freeOf u r w x = k :: l ∧ k ∈ up u (idx r x) ∧ k ≤ u.length ∧ w.getD k none = none := by
  cases e : freeOf u r w x with
  | nil =>
    have := List.filter_eq_nil_iff.mp e (idx r x) (List.mem_reverse.mpr (self_mem_up u _))
    exact absurd (decide_eq_true (P.own hb A v hx)) this
  | cons k l =>
    have hm : k ∈ freeOf u r w x := by rw [e]; exact List.mem_cons_self
    obtain ⟨m1, m2⟩ := List.mem_filter.mp hm
    have m3 := List.mem_reverse.mp m1
    have := mem_up_le u _ _ m3
    have l1 := idx_lt hx
    have l2 := A.len
    exact ⟨k, l, rfl, m3, by omega, of_decide_eq_true m2⟩
theorem Placed.step {w : Rows} {x : Int} {b : Int → Prop} (P : Placed u r w b) (hb : ∀ z, b z → z < x) (A : ArrOk u r) (v : Vd u) (hx : some x ∈ r) : Placed u r (place u r w x) fun z => b z ∨ z = x := by
  obtain ⟨k, l, e, h1, h2, h3⟩ := P.free hb A v hx
  unfold place
  rw [e]
  refine ⟨by rw [List.length_set]; exact P.len, fun j z hz => ?_⟩
  rw [List.getD_eq_getElem?_getD, List.getElem?_set] at hz
  by_cases hj : k = j
  · subst hj
    have : (k :: l).headD 0 = k := rfl
    rw [this, if_pos rfl, if_pos (by have := P.len; omega)] at hz
    cases hz
    exact ⟨.inr rfl, hx, h1⟩
  · have : (k :: l).headD 0 = k := rfl
    rw [this, if_neg hj, ← List.getD_eq_getElem?_getD] at hz
    obtain ⟨q1, q2, q3⟩ := P.on j z hz
    exact ⟨.inl q1, q2, q3⟩
theorem Placed.none (u : List Nat) (r : Rows) {b : Int → Prop} {n : Nat} (hn : n = u.length + 1) : Placed u r (List.replicate n none) b := by
  refine ⟨by rw [List.length_replicate]; exact hn, fun k z hz => ?_⟩
  rw [List.getD_eq_getElem?_getD, List.getElem?_replicate] at hz
  split at hz <;> cases hz
theorem Placed.weak {w : Rows} {b b' : Int → Prop} (P : Placed u r w b) (hb : ∀ z, b z → b' z) : Placed u r w b' := ⟨P.len, fun k z hz => let ⟨q1, q2⟩ := P.on k z hz; ⟨hb z q1, q2⟩⟩

theorem place_emb {uT : List Nat} {s : Nat} (E : Emb uT u s) {pre w post : Rows} {pr ps : Rows} {rT : Rows} (hs : pre.length = s) (A : ArrOk u r) (hT : rT = pr ++ r ++ ps) (hpr : pr.length = s) {x : Int} {b : Int → Prop} (P : Placed u r w b) (hb : ∀ z, b z → z < x)
    (hx : some x ∈ r) (hn : some x ∉ pr) (h0 : pre.getD 0 none ≠ none) : place uT rT (pre ++ w ++ post) x = pre ++ place u r w x ++ post := by
  have h1 := E.pos
  have li := idx_lt hx
  have la := A.len
  obtain ⟨k, l, e, _, hk, _⟩ := P.free hb A E.v hx
  have e2 : (pre ++ w ++ post).getD 0 none = pre.getD 0 none := by
    rw [List.append_assoc, List.getD_eq_getElem?_getD, List.getElem?_append_left (by omega), ← List.getD_eq_getElem?_getD]
  have hf : freeOf uT rT (pre ++ w ++ post) x = (freeOf u r w x).map (s + ·) := by
    unfold freeOf
    rw [hT, idx_mid hn hx, hpr, E.path (by omega), List.filter_cons, e2, if_neg (by simpa using h0), List.filter_map]
    congr 1
    refine List.filter_congr fun q hq => ?_
    have := mem_path_le hq
    show decide ((pre ++ w ++ post).getD (s + q) none = none) = _
    rw [← hs, getD_mid (by have := P.len; omega)]
  unfold place
  rw [hf, e]
  show (pre ++ w ++ post).set (s + k) (some x) = pre ++ w.set k (some x) ++ post
  rw [← hs]
  exact set_mid (by have := P.len; omega)
/-- sorted, placed one after another: the branches do not meet -/
theorem place_fold (t : Two u0 u1 h r0 r1) : ∀ (l : List Int) (a c : Rows) (b : Int → Prop), Placed u0 r0 a b → Placed u1 r1 c b → (∀ z, b z → ∀ x ∈ l, z < x) → l.Pairwise (· < ·) → (∀ x ∈ l, some x ∈ r0 ∨ some x ∈ r1) →
    l.foldl (place (tog u0 u1) (rws h r0 r1)) (rws h a c) = rws h ((l.filter fun x => decide (some x ∈ r0)).foldl (place u0 r0) a) ((l.filter fun x => decide (some x ∈ r1)).foldl (place u1 r1) c)
  | [], a, c, b, _, _, _, _, _ => rfl
  | x :: l, a, c, b, Pa, Pc, hb, hl, hm => by
    have l0 := t.a0.len
    have l1 := t.a1.len
    obtain ⟨hl1, hl2⟩ := List.pairwise_cons.mp hl
    have hbx : ∀ z, b z → z < x := fun z hz => hb z hz x List.mem_cons_self
    have hb2 : ∀ z, (b z ∨ z = x) → ∀ y ∈ l, z < y := fun z hz y hy => by
      rcases hz with hz | hz
      · exact hb z hz y (List.mem_cons_of_mem _ hy)
      · rw [hz]; exact hl1 y hy
    rw [List.foldl_cons]
    by_cases h0 : some x ∈ r0
    · have n1 : some x ∉ r1 := t.dis x h0
      have e : place (tog u0 u1) (rws h r0 r1) (rws h a c) x = rws h (place u0 r0 a x) c := by
        rw [rws0 h a c, rws0 h (place u0 r0 a x) c]
        refine place_emb (emb0 t.v0 t.v1) rfl t.a0 (rws0 h r0 r1) rfl Pa hbx h0 ?_ (by simp)
        intro z
        rw [List.mem_singleton] at z
        cases z
        exact absurd (t.lt0 _ h0) (by omega)
      rw [e, List.filter_cons, if_pos (decide_eq_true h0), List.filter_cons, if_neg (by simpa using n1), List.foldl_cons]
      exact place_fold t l _ c _ (Pa.step hbx t.a0 t.v0 h0) (Pc.weak fun z hz => .inl hz) hb2 hl2 fun y hy => hm y (List.mem_cons_of_mem _ hy)
    · have h1 : some x ∈ r1 := (hm x List.mem_cons_self).resolve_left h0
      have e : place (tog u0 u1) (rws h r0 r1) (rws h a c) x = rws h a (place u1 r1 c x) := by
        rw [rws1 h a c, rws1 h a (place u1 r1 c x)]
        refine place_emb (emb1 t.v0 t.v1) (by rw [List.length_cons, Pa.len]) t.a1 (rws1 h r0 r1) (by rw [List.length_cons, l0]) Pc hbx h1 ?_ (by simp)
        intro z
        rcases List.mem_cons.mp z with z | z
        · cases z
          exact absurd (t.lt1 _ h1) (by omega)
        · exact h0 z
      rw [e, List.filter_cons, if_neg (by simpa using h0), List.filter_cons, if_pos (decide_eq_true h1), List.foldl_cons]
      exact place_fold t l a _ _ (Pa.weak fun z hz => .inl hz) (Pc.step hbx t.a1 t.v1 h1) hb2 hl2 fun y hy => hm y (List.mem_cons_of_mem _ hy)
theorem srt_lt {l : List Int} (hn : l.Nodup) : (srt l).Pairwise (· < ·) := by
  have h1 := srt_pw l
  have h2 : (srt l).Nodup := (srt_perm l).nodup_iff.mpr hn
  exact (List.Pairwise.and h1 h2).imp fun ⟨a, b⟩ => by omega
theorem reduced_two (t : Two u0 u1 h r0 r1) {s0 s1 : List Int} (n0 : s0.Nodup) (n1 : s1.Nodup) (m0 : ∀ x ∈ s0, some x ∈ r0) (m1 : ∀ x ∈ s1, some x ∈ r1) :
    redR (tog u0 u1) (rws h r0 r1) (s1 ++ s0 ++ [h]) = rws h (redR u0 r0 s0) (redR u1 r1 s1) := by
  have l0 := t.a0.len
  have l1 := t.a1.len
  have hs : srt (s1 ++ s0 ++ [h]) = h :: srt (s1 ++ s0) := by
    refine srt_cons (List.perm_append_comm) fun x hx => ?_
    rcases List.mem_append.mp hx with z | z
    · exact Int.le_of_lt (t.lt1 x (m1 x z))
    · exact Int.le_of_lt (t.lt0 x (m0 x z))
  have hi : idx (rws h r0 r1) h = 0 := by unfold idx rws; simp
  unfold redR
  rw [hs, List.foldl_cons]
  have e1 : place (tog u0 u1) (rws h r0 r1) (List.replicate (rws h r0 r1).length none) h = rws h (List.replicate r0.length none) (List.replicate r1.length none) := by
    unfold place freeOf
    rw [hi]
    have : path (tog u0 u1) 0 = [0] := by unfold path; rw [up_zero]; rfl
    rw [this]
    have e2 : (List.replicate (rws h r0 r1).length (none : OI)) = none :: (List.replicate r0.length none ++ List.replicate r1.length none) := by
      rw [List.replicate_append_replicate, ← List.replicate_succ]
      congr 1
      simp [rws]
    rw [e2]
    rfl
  rw [e1, place_fold t _ _ _ (fun _ => False) (Placed.none u0 r0 l0) (Placed.none u1 r1 l1) (fun z hz => hz.elim) (srt_lt ?_) fun x hx => ?_]
  · rw [srt_filter (l' := s0) (fun x => decide (some x ∈ r0)) ?_, srt_filter (l' := s1) (fun x => decide (some x ∈ r1)) ?_]
    · rw [List.filter_append, List.filter_eq_self.mpr (fun x hx => decide_eq_true (m1 x hx)), List.filter_eq_nil_iff.mpr (fun x hx => by simpa using t.dis x (m0 x hx)), List.append_nil]
    · rw [List.filter_append, List.filter_eq_self.mpr (fun x hx => decide_eq_true (m0 x hx)), List.filter_eq_nil_iff.mpr (fun x hx => by simpa using fun z => t.dis x z (m1 x hx)), List.nil_append]
  · refine List.nodup_append.mpr ⟨n1, n0, fun a ha b hb e => ?_⟩
    subst e
    exact t.dis _ (m0 _ hb) (m1 _ ha)
  · rcases List.mem_append.mp (mem_srt.mp hx) with z | z
    · exact .inr (m1 x z)
    · exact .inl (m0 x z)

/-! ### the open posts of both branches -/
theorem opens_tog (t : Two u0 u1 h r0 r1) : opens (tog u0 u1) (rws h r0 r1) = (opens u0 r0).map (1 + ·) ++ (opens u1 r1).map (u0.length + 2 + ·) := by
  have l0 := t.a0.len
  have l1 := t.a1.len
  unfold opens
  rw [tog_len]
  have e : u0.length + u1.length + 2 + 1 = 1 + ((u0.length + 1) + (u1.length + 1)) := by omega
  rw [e, List.range_add, List.filter_append, List.range_add, List.map_append, List.filter_append]
  have z0 : (List.range 1).filter (isOpen (tog u0 u1) (rws h r0 r1)) = [] := by
    have : isOpen (tog u0 u1) (rws h r0 r1) 0 = false := by unfold isOpen rws; simp
    simp [List.range_succ, this]
  rw [z0, List.nil_append, List.map_map, List.filter_map, List.filter_map]
  congr 1
  · congr 1
    refine List.filter_congr fun k hk => ?_
    have := List.mem_range.mp hk
    show isOpen (tog u0 u1) (rws h r0 r1) (1 + k) = _
    rw [rws0]
    exact (emb0 t.v0 t.v1).isOpen rfl l0 (by simp) (by omega)
  · have e3 : ((fun x => 1 + x) ∘ fun x => u0.length + 1 + x) = fun x => u0.length + 2 + x := by
      funext x
      show 1 + (u0.length + 1 + x) = u0.length + 2 + x
      omega
    rw [e3]
    congr 1
    refine List.filter_congr fun k hk => ?_
    have := List.mem_range.mp hk
    show isOpen (tog u0 u1) (rws h r0 r1) (u0.length + 2 + k) = _
    rw [rws1]
    exact (emb1 t.v0 t.v1).isOpen (by rw [List.length_cons, l0]) l1 (by simp) (by omega)

/-! ### filling -/
def heldL (r : Rows) : List Int := r.filterMap id
theorem mem_heldL {r : Rows} {x : Int} : x ∈ heldL r ↔ some x ∈ r := by unfold heldL; simp
theorem opens_ne (v : Vd u) {w : Rows} (hl : w.length = u.length + 1) (hn : ∃ k, k < w.length ∧ w.getD k none = none) : opens u w ≠ [] := by
  have key : ∀ n k, k ≤ n → k < w.length → w.getD k none = none → ∃ j, j ≤ u.length ∧ isOpen u w j = true := by
    intro n
    induction n with
    | zero =>
      intro k hk h1 h2
      have : k = 0 := by omega
      subst this
      exact ⟨0, by omega, decide_eq_true ⟨h2, .inl rfl⟩⟩
    | succ n ih =>
      intro k hk h1 h2
      by_cases h0 : k = 0
      · exact ih k (by omega) h1 h2
      · by_cases hp : w.getD (par u k) none = none
        · have := par_lt v (k := k) (by omega) (by omega)
          exact ih (par u k) (by omega) (by omega) hp
        · exact ⟨k, by omega, decide_eq_true ⟨h2, .inr hp⟩⟩
  obtain ⟨k, h1, h2⟩ := hn
  obtain ⟨j, hj, ho⟩ := key k k (Nat.le_refl _) h1 h2
  intro e
  have : j ∈ opens u w := List.mem_filter.mpr ⟨List.mem_range.mpr (by omega), ho⟩
  rw [e] at this
  cases this
theorem fill_step (v : Vd u) {w : Rows} (A : ArrOk u w) {k : Nat} {x : Int} (hk : k ∈ opens u w) (hx : 0 ≤ x) (hlt : ∀ y, some y ∈ w → y < x) : ArrOk u (w.set k (some x)) ∧ k < w.length ∧ w.getD k none = none := by
  obtain ⟨h1, h2⟩ := List.mem_filter.mp hk
  have h1 := List.mem_range.mp h1
  obtain ⟨h3, h4⟩ := of_decide_eq_true h2
  have hl := A.len
  have get : ∀ j z, (w.set k (some x)).getD j none = some z → (j = k ∧ z = x) ∨ (j ≠ k ∧ w.getD j none = some z) := fun j z e => by
    rw [List.getD_eq_getElem?_getD, List.getElem?_set] at e
    by_cases hj : k = j
    · subst hj
      rw [if_pos rfl, if_pos (by omega)] at e
      cases e
      exact .inl ⟨rfl, rfl⟩
    · rw [if_neg hj, ← List.getD_eq_getElem?_getD] at e
      exact .inr ⟨Ne.symm hj, e⟩
  have put : ∀ j z, j ≠ k → w.getD j none = some z → (w.set k (some x)).getD j none = some z := fun j z hj e => by
    rw [List.getD_eq_getElem?_getD, List.getElem?_set_ne (Ne.symm hj), ← List.getD_eq_getElem?_getD]; exact e
  refine ⟨⟨by rw [List.length_set]; exact hl, fun z hz => ?_, fun i j z hi hj => ?_, fun j z q1 q2 e => ?_⟩, by omega, h3⟩
  · rcases List.mem_or_eq_of_mem_set hz with q | q
    · exact A.pos z q
    · cases q; exact hx
  · rcases get i z hi with ⟨e1, e2⟩ | ⟨e1, e2⟩ <;> rcases get j z hj with ⟨e3, e4⟩ | ⟨e3, e4⟩
    · omega
    · have := hlt z (getD_mem e4); omega
    · have := hlt z (getD_mem e2); omega
    · exact A.inj i j z e2 e4
  · rcases get j z e with ⟨e1, e2⟩ | ⟨e1, e2⟩
    · subst e1
      subst e2
      rcases h4 with h4 | h4
      · omega
      · cases q : w.getD (par u j) none with
        | none => exact absurd q h4
        | some y =>
          have hp := par_lt v (k := j) q1 q2
          exact ⟨y, put _ _ (by omega) q, Int.le_of_lt (hlt y (getD_mem q))⟩
    · obtain ⟨y, hy, hle⟩ := A.ord j z q1 q2 e2
      refine ⟨y, put _ _ (fun e => ?_) hy, hle⟩
      rw [e, h3] at hy
      cases hy
theorem arr_none (u : List Nat) : ArrOk u (List.replicate (u.length + 1) none) := by
  have key : ∀ k x, (List.replicate (u.length + 1) (none : OI)).getD k none = some x → False := fun k x e => by
    rw [List.getD_eq_getElem?_getD, List.getElem?_replicate] at e
    split at e <;> cases e
  refine ⟨by simp, fun x hx => ?_, fun i j x e => (key i x e).elim, fun k x _ _ e => (key k x e).elim⟩
  have := List.eq_of_mem_replicate hx
  cases this
theorem held_set {w : Rows} {k : Nat} {x : Int} (hk : k < w.length) (hn : w.getD k none = none) : (w.set k (some x)).countP (·.isSome) = w.countP (·.isSome) + 1 := by
  rw [List.countP_set hk]
  have : w[k] = none := by
    rw [List.getD_eq_getElem?_getD, List.getElem?_eq_getElem hk] at hn
    exact hn
  rw [this]
  simp
theorem none_left {w : Rows} (h : w.countP (·.isSome) < w.length) : ∃ k, k < w.length ∧ w.getD k none = none := by
  have h2 : ¬ ∀ a ∈ w, a.isSome = true := fun z => by
    have q : w.countP (fun x => x.isSome) = w.length := List.countP_eq_length.mpr z
    omega
  have : ∃ a, a ∈ w ∧ ¬ a.isSome = true := Classical.byContradiction fun z => h2 fun a ha => Classical.byContradiction fun q => z ⟨a, ha, q⟩
  obtain ⟨a, ha, hn⟩ := this
  have : a = none := by cases a with
    | none => rfl
    | some _ => exact absurd rfl hn
  subst this
  obtain ⟨k, hk, e⟩ := List.mem_iff_getElem.mp ha
  exact ⟨k, hk, by rw [List.getD_eq_getElem?_getD, List.getElem?_eq_getElem hk, e]; rfl⟩
/-- one of so many numbers is free -/
theorem gap (h : Int) (l : List Int) (hm : h ∈ l) : ∃ x, h < x ∧ x < h + l.length + 2 ∧ x ∉ l := by
  refine Classical.byContradiction fun z => ?_
  have all : ∀ x, h < x → x < h + l.length + 2 → x ∈ l := fun x h1 h2 => Classical.byContradiction fun q => z ⟨x, h1, h2, q⟩
  have sub : ∀ x ∈ (List.range (l.length + 1)).map (fun i : Nat => h + 1 + (i : Int)), x ∈ l := fun x hx => by
    obtain ⟨i, hi, rfl⟩ := List.mem_map.mp hx
    have := List.mem_range.mp hi
    exact all _ (by omega) (by omega)
  have nd : ((List.range (l.length + 1)).map (fun i : Nat => h + 1 + (i : Int))).Nodup := by
    refine List.Pairwise.map _ (fun a b hab => ?_) List.nodup_range
    omega
  have : ((List.range (l.length + 1)).map (fun i : Nat => h + 1 + (i : Int))).length ≤ l.length := (List.subset_def.mpr (fun {x} hx => sub x hx) |> fun hs => nd.length_le_of_subset hs)
  simp at this
  omega
end Mv


/-! Rules of my own: for .. in enumerate(a tuple) -/
namespace Ru
open PySem PySem.Spec PyProof.Rows L2

/-- enumerate of the tuple at a, each item in a new pair -/
def Ien (K : PySem.W.Frag) (a : Addr) : It where
  go := fun i H => ∃ (xs : List V) (x : V), SqT K H a xs ∧ xs[i]? = some x
  yld := fun i H v H' => ∃ T x, v = .ref T ∧ H T = none ∧ H' = upd H T (.tup [.int (i : Nat), x]) ∧ ∀ xs, SqT K H a xs → xs[i]? = some x
  stop := fun i H => ∃ xs : List V, SqT K H a xs ∧ xs.length = i

theorem tup_ne_iter {h : Heap} {a it : Addr} {i : Nat} {items : Array Value} (t : IsTup h a items) (q : h.IsTupleIter it a i) : a ≠ it := by
  rintro rfl
  obtain ⟨o1, e1, c1, _⟩ := t
  obtain ⟨o2, e2, c2, _⟩ := q
  rw [e1] at e2; cases e2
  rw [c1] at c2; exact absurd c2 (by decide)
theorem tup_ne_enum {h : Heap} {a e it : Addr} {i : Int} {old : Value} {items : Array Value} (t : IsTup h a items) (q : IsEnum h e it i old) : a ≠ e := by
  rintro rfl
  obtain ⟨o1, e1, c1, _⟩ := t
  have e2 : h.get? a = some _ := q
  rw [e1] at e2; cases e2
  exact absurd (show Value.type "enumerate" = Value.type "tuple" from c1) (by decide)

theorem turn_ien {P : Program} {w : World} {K : PySem.W.Frag} {elts : List Expr} {kk : Nat} {tpos : Pos} (a e it : Addr) :
    Turn P w K (.Tuple elts kk tpos) (Ien K a) [e, it] e (fun i h => (∃ old, IsEnum h e it ((i : Nat) : Int) old) ∧ h.IsTupleIter it a i ∧ e ≠ it) where
  mem := List.mem_cons_self
  obj := fun i h st b hb => by
    obtain ⟨⟨old, he⟩, ⟨o, ho, hc, hd⟩, _⟩ := st
    rcases List.mem_cons.mp hb with q | hb
    · subst q; exact ⟨_, he, fun v z => nomatch z⟩
    · rw [List.mem_singleton.mp hb]
      refine ⟨o, ho, fun v z => ?_⟩
      rw [hd] at z; cases z
  keep := fun i h h' st k => by
    obtain ⟨⟨old, he⟩, hi, hne⟩ := st
    exact ⟨⟨old, k e List.mem_cons_self _ he⟩, hi.at fun o q => k it (List.mem_cons_of_mem _ List.mem_cons_self) o q, hne⟩
  item := by
    intro X hP hw hK hc i pins s σ H E I hf st hg
    subst hP hw hK
    obtain ⟨⟨old, he⟩, hit, hne⟩ := st
    obtain ⟨xs, x, hq, hx⟩ := hg
    obtain ⟨its, rv, p, hz⟩ := I.tuple hq
    obtain ⟨u, hu, ru⟩ := rv.get hx
    have hel : e < s.heap.objs.size := Heap.lt_size he
    have hil : it < s.heap.objs.size := by
      obtain ⟨_, q, _⟩ := id hit
      exact Heap.lt_size q
    have n1 := tup_ne_iter p hit
    have n2 := tup_ne_enum p he
    have lt : i < its.toArray.size := by
      have := (List.getElem?_eq_some_iff.mp hu).1
      simpa using this
    refine wpAny_pyNext_enum_itemD (Draws.tuple (prog := X.prog) (w := X.w) (A := X.A.in1) (I.ok.hd hc) it a n1 its.toArray) he ⟨hit, p⟩ lt hne (by simp; exact ⟨hne, Ne.symm n2⟩) fun y h' tk py ho st' hT hsz hk => ?_
    have ey : y = u := by
      have h1 : its[i]? = some y := by simpa using py
      rw [hu] at h1; exact (Option.some.inj h1).symm
    subst ey
    refine ⟨_, rfl, wpAny_letOwnedTupleGo_enum (s := { s with heap := h', toks := tk + 1 }) ho fun h'' he' sb => ?_⟩
    have hT2 : h''.get? s.heap.objs.size = some { cls := .type "tuple", data := .seq #[.int i tk, y] } := (sb.2 _ (Nat.ne_of_gt hel)).trans hT
    have new : ObjOk X.prog X.w (upd H s.heap.objs.size (.tup [.int (i : Nat), x])) h'' s.heap.objs.size (.tup [.int (i : Nat), x]) := by
      refine ⟨by show 2 ≤ sizeLine; decide, [.int i tk, y], .cons ⟨_, rfl⟩ (.cons ru .nil), ?_⟩
      exact ⟨_, hT2, rfl, _, rfl⟩
    have I1 : Inv X pins σ (upd H s.heap.objs.size (.tup [.int (i : Nat), x])) { s with heap := h'', toks := tk + 1 } := by
      refine I.turnedNew (ch := [e, it]) (fun b ob hb q => ?_) hf (Nat.le_refl _) new
      have b1 : b ≠ e := fun z => hb (by simp [z])
      have b2 : b ≠ it := fun z => hb (by simp [z])
      exact (sb.2 b b1).trans (hk b ob b1 b2 q)
    refine ⟨.ref s.heap.objs.size, _, I1, rfl, ⟨_, x, rfl, I.hok.fresh (Nat.le_refl _), rfl, fun ys hy => ?_⟩, ⟨⟨y, ?_⟩, st'.1.at fun o q => (sb.2 it (Ne.symm hne)).trans q, hne⟩, fun b hb => ?_⟩
    · rw [I.tuple_inj hy hq]; exact hx
    · have e1 : ((i + 1 : Nat) : Int) = (i : Int) + 1 := by omega
      rw [e1]; exact he'
    · have hb' : b < s.heap.objs.size := by
        rcases List.mem_cons.mp hb with z | z
        · rw [z]; exact hel
        · rw [List.mem_singleton.mp z]; exact hil
      rw [upd_ne (Nat.ne_of_lt hb')]
      exact (hf b hb).1
  done := by
    intro X hP hw hK hc i pins s σ H E I hf st hg
    subst hP hw hK
    obtain ⟨⟨old, he⟩, hit, hne⟩ := st
    obtain ⟨xs, hq, hx⟩ := hg
    obtain ⟨its, rv, p, hz⟩ := I.tuple hq
    obtain ⟨f0, f1, f2, f3, f4, f5⟩ := hf it (List.mem_cons_of_mem _ List.mem_cons_self)
    have n1 := tup_ne_iter p hit
    have hl := rv.length
    have hi : its.toArray.size = i := by simp; omega
    refine wpAny_pyNext_enum_endD (Draws.tuple (prog := X.prog) (w := X.w) (A := X.A.in1) (I.ok.hd hc) it a n1 its.toArray) he ⟨by rw [hi]; exact hit, p⟩ fun h' eb => ?_
    exact ⟨rfl, I.turned (t' := s.toks) (fun b o hb q => eb b o hb q) f0 f1 f3 f4 f5⟩
  self := fun A i s Q E st h => by
    obtain ⟨⟨_, he⟩, _⟩ := st
    exact wpAny_pyIter_enum he h

theorem meets_enum_newT (a : Addr) (items : Array Value) :
    Meets (Builtin.«enumerate.__new__» ⟨[.type "enumerate", .ref a], []⟩) (fun _ R s => IsTup s.heap a items ∧
      R (.ok (.ret (.ref (s.heap.push { cls := .type "tuple_iterator", data := .fields #[.ref a, .int 0 0] }).objs.size)))
        { s with heap := (s.heap.push { cls := .type "tuple_iterator", data := .fields #[.ref a, .int 0 0] }).push { cls := .type "enumerate", data := .fields #[.none, .bool false, .ref s.heap.objs.size, rawInt 0, .none, .none] } }) := by
  refine .of_wp fun prog w A R s h => ?_
  obtain ⟨hp, g, d, tk, os⟩ := s
  obtain ⟨hl, h⟩ := h
  have hsub := sub_enumerate
  have B := begins_tuple a items
  have q1 : ∀ {A' : Around} {E : Value → Shared → Prop} {Q : Value → Shared → Prop}, Q (.ref hp.objs.size) ⟨hp.push { cls := .type "tuple_iterator", data := .fields #[.ref a, .int 0 0] }, g, d, tk, os⟩ →
      wpAny (model prog w) A' (pyIter (.ref a)) Q E ⟨hp, g, d, tk, os⟩ := fun q => B.iter prog w _ _ ⟨hp, g, d, tk, os⟩ _ hl q
  wp_walk using q1
  refine wpAny_stack_any fun st => wpAny_pure ?_
  split
  · rename_i c _ _ _ _ _
    cases (c == Value.type "enumerate")
    all_goals
      wp_walk using q1
      exact ⟨_, rfl, h⟩
  · wp_walk using q1
    exact ⟨_, rfl, h⟩

theorem call_enum_tup {prog : Program} {w : World} {A : Around} {E : Value → Shared → Prop} {s : Shared} {a : Addr} {items : Array Value} {Q : Value → Shared → Prop} (hL : IsTup s.heap a items)
    (h : ∀ h', IsEnum h' (s.heap.objs.size + 1) s.heap.objs.size 0 .none → h'.IsTupleIter s.heap.objs.size a 0 → (∀ b o, s.heap.get? b = some o → h'.get? b = some o) → Q (.ref (s.heap.objs.size + 1)) { s with heap := h' }) :
    wpAny (model prog w) A (call (.type "enumerate") [.ref a]) Q E s := by
  refine callType_new F.called_enumerate (by decide) (F.typeCall_enumerate_1 _) (F.newCall_enumerate_1 _) (fun obj => F.args_object_init_2 obj _) F.entry_enumerate_new (meets_enum_newT a items) ⟨hL, ?_⟩
  show _ ∧ _
  generalize hP : s.heap.push { cls := .type "tuple_iterator", data := .fields #[.ref a, .int 0 0] } = hp1
  have hz : hp1.objs.size = s.heap.objs.size + 1 := by rw [← hP]; exact Heap.size_push ..
  have he := Heap.get?_push_size hp1 (o := { cls := .type "enumerate", data := .fields #[.none, .bool false, .ref s.heap.objs.size, rawInt 0, .none, .none] }) rfl
  rw [hz] at he ⊢
  refine ⟨⟨_, he, rfl⟩, h _ he ⟨{ cls := .type "tuple_iterator", data := .fields #[.ref a, .int 0 0] }, Heap.get?_push_of_some _ ?_, rfl, rfl⟩ fun b o x => Heap.get?_push_of_some _ ?_⟩
  · rw [← hP]; exact Heap.get?_push_size _ rfl
  · rw [← hP]; exact Heap.get?_push_of_some _ x

def iEnT (K : PySem.W.Frag) (ta : TA) : TI := fun σ H R => ta σ H fun vs H1 => ∃ a xs, vs = [.ref a] ∧ SqT K H1 a xs ∧ R (Ien K a) H1
/-- enumerate(t), t a tuple, to a target of several names -/
theorem pi_ent {X : Cx} {e : Expr} {ta : TA} {p pos tpos : Pos} {elts : List Expr} {kk : Nat} (hg : Gl X "enumerate") (hm : X.mg "enumerate" = none) (ha : PA X [e] ta) (hs : starEach [e] X.env = [(false, eval e X.env)] := by rfl) :
    PI X (.Tuple elts kk tpos) (.Call (.Name "enumerate" p) [e] [] pos) (iEnT X.K ta) := by
  refine ⟨fun pins s σ H R I h => ?_⟩
  refine Call_ (ld_blt I hg hm boot_enumerate (PyProof.Rows.callWith_type1 (thn (ha.run pos pins s σ H _ I h) fun us s1 ⟨vs, H1, I1, r1, q1⟩ => ?_) hs rfl))
  obtain ⟨a, xs, ex, hq, q⟩ := q1
  subst ex
  obtain ⟨u, rfl, rr⟩ : ∃ u, us = [u] ∧ RelV (.ref a) u := by
    cases r1 with
    | cons r rr => cases rr; exact ⟨_, rfl, r⟩
  obtain rfl : u = Value.ref a := rr
  obtain ⟨its, rv, p', hz⟩ := I1.tuple hq
  refine call_enum_tup p' fun h' he hit hk => wpAny_pyIter_enum he ?_
  have I2 : Inv X pins σ H1 { s1 with heap := h' } := I1.kept (t' := s1.toks) hk
  refine ⟨s1.heap.objs.size + 1, [s1.heap.objs.size + 1, s1.heap.objs.size], _, _, H1, rfl, I2, turn_ien a (s1.heap.objs.size + 1) s1.heap.objs.size, ⟨⟨.none, he⟩, hit, Nat.succ_ne_self _⟩, fun b hb => ?_, q⟩
  have hle : s1.heap.objs.size ≤ b := by
    rcases List.mem_cons.mp hb with z | z
    · rw [z]; exact Nat.le_add_right _ _
    · rw [List.mem_singleton.mp z]; exact Nat.le_refl _
  exact I1.fpOk hle (I1.hok.fresh hle)
/-- the walk over it -/
theorem walk_ien {K : PySem.W.Frag} {a : Addr} {xs : List V} : Walk (Ien K a) xs.length (fun H => SqT K H a xs) (YPair (fun i => some (.int (i : Nat))) (fun i => xs[i]?)) := by
  refine ⟨fun i _ hi q => ⟨xs, xs[i], q, by simp [hi]⟩, fun _ q => ⟨xs, q, rfl⟩, fun i H v H' _ q y => ?_⟩
  obtain ⟨T, x, h1, h2, h3, h4⟩ := y
  exact ⟨T, .int (i : Nat), x, h1, h2, h3, rfl, h4 xs q⟩
end Ru


/-! Rules of my own: min of a list of pairs of ints -/
namespace Ru
open PySem PySem.Spec PyProof.Rows L2

/-- a pair as data -/
def dP (p : Int × Nat) : PyData := .tuple [.int p.1, .int (p.2 : Int)]
theorem dP_lt (a b : Int × Nat) : PySem.W.dataLt (dP a) (dP b) = Mv.lt2 a b := by
  unfold dP
  rw [PySem.W.dataLt_ii]
  unfold Mv.lt2
  by_cases h1 : a.1 < b.1
  · simp [h1]
  · by_cases h2 : a.1 = b.1
    · simp [h2]
    · simp [h1, h2]
theorem dP_min (a : Int × Nat) (l : List (Int × Nat)) : PySem.W.minD (dP a) (l.map dP) = dP (l.foldl (fun m x => if Mv.lt2 x m then x else m) a) := by
  unfold PySem.W.minD
  induction l generalizing a with
  | nil => rfl
  | cons b l ih =>
    rw [List.map_cons, List.foldl_cons, List.foldl_cons, dP_lt]
    by_cases h : Mv.lt2 b a = true
    · rw [if_pos h, if_pos h]; exact ih b
    · rw [if_neg h, if_neg h]; exact ih a
theorem dP_inj {a b : Int × Nat} (h : dP a = dP b) : a = b := by
  unfold dP at h
  simp only [PyData.tuple.injEq, List.cons.injEq, PyData.int.injEq, and_true] at h
  obtain ⟨h1, h2⟩ := h
  obtain ⟨a1, a2⟩ := a
  obtain ⟨b1, b2⟩ := b
  simp only at h1 h2
  rw [h1]
  have : a2 = b2 := by omega
  rw [this]

/-- the pairs at their addresses -/
def PairsAt (H : Hp) (ps : List (Addr × Int × Nat)) : Prop := ∀ p ∈ ps, H p.1 = some (.tup [.int p.2.1, .int (p.2.2 : Int)])
theorem reads_pair {P : Program} {w : World} {H : Hp} {h : Heap} {p : Addr × Int × Nat} (ok : HOk P w H h) (e : H p.1 = some (.tup [.int p.2.1, .int (p.2.2 : Int)])) : Reads h (.ref p.1) (dP p.2) [] := by
  obtain ⟨_, its, r, o, ho, hc, n, hd⟩ := ok p.1 _ e
  refine .tuple ho hc hd ?_
  cases r with
  | cons r1 r =>
    cases r with
    | cons r2 r =>
      cases r
      obtain ⟨t1, rfl⟩ := r1
      obtain ⟨t2, rfl⟩ := r2
      exact .cons (as := []) (.int _ _) (.cons (as := []) (.int _ _) .nil)
theorem reads_pairs {P : Program} {w : World} {H : Hp} {h : Heap} (ok : HOk P w H h) : ∀ {ps : List (Addr × Int × Nat)} {us : List Value}, PairsAt H ps → Vals (ps.map fun p => V.ref p.1) us → ReadsAll h us (ps.map fun p => dP p.2) []
  | [], _, _, .nil => .nil
  | p :: ps, _, hp, .cons r rr => by
    have r' : _ = Value.ref p.1 := r
    subst r'
    exact .cons (as := []) (reads_pair ok (hp p List.mem_cons_self)) (reads_pairs ok (fun q hq => hp q (List.mem_cons_of_mem _ hq)) rr)
theorem alike_dP (a b : Int × Nat) : PySem.W.alike (dP a) (dP b) = true := by
  unfold dP PySem.W.alike PySem.W.alikeAll PySem.W.alikeAll PySem.W.alikeAll
  rfl
theorem depth_dPs : ∀ (ps : List (Addr × Int × Nat)), PyData.depthAll (ps.map fun p => dP p.2) ≤ 2
  | [] => by unfold PyData.depthAll; exact Nat.zero_le _
  | p :: ps => by
    rw [List.map_cons]
    unfold PyData.depthAll
    refine Nat.max_le.mpr ⟨?_, depth_dPs ps⟩
    unfold dP PyData.depth PyData.depthAll PyData.depthAll PyData.depthAll PyData.depth
    decide

/-- min(xs), xs a list of pairs of ints: the first of the least -/
def rMinP (K : PySem.W.Frag) : List V → Hp → VK → Prop := fun vs H Q => ∃ (a : Addr) (p : Addr × Int × Nat) (ps : List (Addr × Int × Nat)), vs = [V.ref a] ∧ SqL K H a ((p :: ps).map fun p => V.ref p.1) ∧ PairsAt H (p :: ps) ∧
  ∀ q ∈ p :: ps, q.2 = (ps.map (·.2)).foldl (fun m x => if Mv.lt2 x m then x else m) p.2 → Q (.ref q.1) H
theorem cr_minP {X : Cx} (hc : X.calm = true) (hu : X.A.units + 64 < cLine) : CallR X (.builtin "min") (rMinP X.K) := by
  intro pins s σ H vs us Q I r h
  obtain ⟨a, p, ps, rfl, hl, hp, q⟩ := h
  obtain ⟨u, rfl, ru⟩ := vals1 r
  obtain rfl : u = Value.ref a := ru
  obtain ⟨its, rv, pl, hz⟩ := I.list hl
  have rd := reads_pairs I.hok hp rv
  rw [List.map_cons] at rd
  refine PySem.W.min_list_data (I.ok.hd hc) pl.isList (x := dP p.2) (xs := ps.map fun p => dP p.2) (as := []) rd ⟨fun x hx y hy => ?_, fun x hx => ?_⟩ ?_ fun i v h' tk bs hv rdv hk => ?_
  · rw [← List.map_cons (f := fun p : Addr × Int × Nat => dP p.2)] at hx hy
    obtain ⟨x, _, rfl⟩ := List.mem_map.mp hx
    obtain ⟨y, _, rfl⟩ := List.mem_map.mp hy
    exact alike_dP _ _
  · rw [← List.map_cons (f := fun p : Addr × Int × Nat => dP p.2)] at hx
    obtain ⟨x, _, rfl⟩ := List.mem_map.mp hx
    intro z; cases z
  · have := depth_dPs (p :: ps)
    rw [List.map_cons] at this
    omega
  · have hv' : its[i]? = some v := by simpa using hv
    have hil : i < (p :: ps).length := by
      have h1 := (List.getElem?_eq_some_iff.mp hv').1
      have h2 := rv.length
      rw [List.length_map] at h2
      omega
    have hq := List.getElem_mem hil
    have hi : ((p :: ps).map fun p => V.ref p.1)[i]? = some (.ref (p :: ps)[i].1) := by
      rw [List.getElem?_map, List.getElem?_eq_getElem hil]; rfl
    obtain ⟨v2, e2, r2⟩ := Vals.get rv hi
    rw [hv'] at e2
    have e3 : v = v2 := Option.some.inj e2
    have r3 : v2 = Value.ref (p :: ps)[i].1 := r2
    rw [e3, r3]
    have I1 : Inv X pins σ H { s with heap := h', toks := tk } := I.kept hk
    refine ⟨.ref (p :: ps)[i].1, H, I1, rfl, q _ hq ?_⟩
    have rd2 : Reads h' (.ref (p :: ps)[i].1) (dP (p :: ps)[i].2) [] := reads_pair I1.hok (hp _ hq)
    rw [e3, r3] at rdv
    have e4 : (ps.map fun p => dP p.2) = (ps.map (·.2)).map dP := by rw [List.map_map]; rfl
    rw [e4, dP_min] at rdv
    exact dP_inj (PySem.W.alike_unique _ _ _ _ _ (alike_dP _ _) rd2 rdv)
end Ru


/-! Rules of my own: for a, b in zip(xs, ys, strict=True), lists of one length -/
namespace Ru
open PySem PySem.Spec PyProof.Rows L2

/-- the zip object that asks for equal lengths -/
abbrev ZipS (h : Heap) (z TI TO : Addr) (f0 : Value) : Prop := h.get? z = some { cls := .type "zip", dict := none, data := .fields #[f0, .bool false, .bool true, .ref TI, .ref TO], slots := #[] }
section
variable {prog : Program} {w : World} {A : Around} {E : Value → Shared → Prop} {s : Shared}
theorem drawS_item {it l : Addr} {i : Nat} {items : Array Value} {x : Value} {Q : Option Value → Shared → Prop} (hit : s.heap.IsListIter it l i) (hl : s.heap.IsList l items) (hx : items[i]? = some x)
    (hQ : ∀ h', h'.IsListIter it l (i + 1) → Heap.SameBut it s.heap h' → Q (some x) { s with heap := h' }) : wpAny (model prog w) A (Builtin.SmallTypes.nextOrEnd (.ref it)) Q E s := by
  unfold Builtin.SmallTypes.nextOrEnd
  exact wpAny_bind (wpAny_attempt (wpAny_nextOf_list_item hit hl hx fun h' q1 q2 => wpAny_pure (hQ h' q1 q2)))
theorem drawS_end {it l : Addr} {i : Nat} {items : Array Value} {Q : Option Value → Shared → Prop} (hh : A.handled = none) (hit : s.heap.IsListIter it l i) (hl : s.heap.IsList l items) (hx : items[i]? = none)
    (hQ : ∀ h', (∀ b o, b ≠ it → s.heap.get? b = some o → h'.get? b = some o) → Q none { s with heap := h' }) : wpAny (model prog w) A (Builtin.SmallTypes.nextOrEnd (.ref it)) Q E s := by
  unfold Builtin.SmallTypes.nextOrEnd
  refine wpAny_bind (wpAny_attempt (wpAny_nextOf_list_end hh hit hl hx fun h' e q1 q2 => ?_))
  obtain ⟨o, ho, hc⟩ := q2
  refine wpAny_bind (wpAny_isInstance (T := "StopIteration") (b := true) ⟨o, ho, hc⟩ isSubtype_stop ?_)
  exact wpAny_pure (hQ h' fun b o hb q => q1 b o hb q)

theorem zipS_item {z TI TO i1 i2 l1 l2 : Addr} {k1 k2 : Nat} {xs ys : Array Value} {x y a b : Value} {Q : Value → Shared → Prop} (D : ZipApart z TI TO i1 i2 l1 l2)
    (hz : ZipS s.heap z TI TO .none) (hTI : IsPair s.heap TI (.ref i1) (.ref i2)) (hTO : IsPair s.heap TO a b)
    (h1 : s.heap.IsListIter i1 l1 k1) (h2 : s.heap.IsListIter i2 l2 k2) (hl1 : s.heap.IsList l1 xs) (hl2 : s.heap.IsList l2 ys) (hx : xs[k1]? = some x) (hy : ys[k2]? = some y)
    (hQ : ∀ h', ZipS h' z TI TO (rawInt s.heap.objs.size) → IsPair h' TO x y → h'.IsListIter i1 l1 (k1 + 1) → h'.IsListIter i2 l2 (k2 + 1) → IsPair h' s.heap.objs.size x y →
      (∀ c o, c ≠ z → c ≠ TO → c ≠ i1 → c ≠ i2 → s.heap.get? c = some o → h'.get? c = some o) → Q (.ref s.heap.objs.size) { s with heap := h' }) :
    wpAny (model prog w) A (Builtin.«zip.__next__» ⟨[.ref z], []⟩) (fun fin s' => ∃ v, fin = .done (.ret v) ∧ Q v s') E s := by
  show wpAny _ _ (field (.ref z) 2 >>= _) _ _ _
  refine wpAny_bind (wpAny_field hz rfl (x := .bool true) rfl ?_)
  show wpAny _ _ (field (.ref z) 3 >>= _) _ _ _
  refine wpAny_bind (wpAny_field hz rfl (x := .ref TI) rfl ?_)
  refine wpAny_bind (wpAny_seqItems hTI rfl ?_)
  show wpAny _ _ (Builtin.SmallTypes.ownedTupleIsFree (.ref z) >>= _) _ _ _
  refine wpAny_bind ?_
  unfold Builtin.SmallTypes.ownedTupleIsFree
  refine wpAny_bind (wpAny_field hz rfl (x := .none) rfl (wpAny_pure ?_))
  simp only [if_true]
  refine wpAny_bind (wpAny_rule ?_)
  refine wpAny_bind (wpAny_field hz rfl (x := .ref TO) rfl ?_)
  refine wpAny_bind (wpAny_setField_rec hz (by simp) fun g1 z1 e1 => ?_)
  replace z1 : ZipS g1 z TI TO .ellipsis := z1
  refine wpAny_bind ?_
  simp only [List.zipIdx_cons, List.zipIdx_nil, List.forIn_cons, List.forIn_nil]
  refine wpAny_bind (wpAny_bind (wpAny_onRaise ?_))
  show wpAny _ _ (Builtin.SmallTypes.nextOrEnd (.ref i1)) _ _ _
  refine drawS_item (h1.extBut e1.extBut D.i1z) (hl1.extBut e1.extBut D.l1z) hx fun g2 j1 e2 => ?_
  have t2 : IsPair g2 TO a b := e2.extBut _ _ D.TOi1 (e1.extBut _ _ D.TOz hTO)
  refine wpAny_bind (wpAny_seqItems t2 rfl ?_)
  refine wpAny_bind (wpAny_updateSeq_pair t2 fun g3 t3 e3 => ?_)
  replace t3 : IsPair g3 TO x b := t3
  refine wpAny_bind (wpAny_letGo (wpAny_pure ?_))
  refine wpAny_bind (wpAny_bind (wpAny_onRaise ?_))
  show wpAny _ _ (Builtin.SmallTypes.nextOrEnd (.ref i2)) _ _ _
  have h2' := ((h2.extBut e1.extBut D.i2z).extBut e2.extBut D.i12.symm).extBut e3.extBut D.TOi2.symm
  have hl2' := ((hl2.extBut e1.extBut D.l2z).extBut e2.extBut D.l2i1).extBut e3.extBut D.l2TO
  refine drawS_item h2' hl2' hy fun g4 j2 e4 => ?_
  have t4 : IsPair g4 TO x b := e4.extBut _ _ D.TOi2 t3
  refine wpAny_bind (wpAny_seqItems t4 rfl ?_)
  refine wpAny_bind (wpAny_updateSeq_pair t4 fun g5 t5 e5 => ?_)
  replace t5 : IsPair g5 TO x y := t5
  refine wpAny_bind (wpAny_letGo (wpAny_pure (wpAny_pure ?_)))
  refine wpAny_bind (wpAny_seqItems t5 rfl ?_)
  refine wpAny_bind (wpAny_newTuple ?_)
  have gs : g5.objs.size = s.heap.objs.size := by rw [e5.1, e4.1, e3.1, e2.1, e1.1]
  have z5 : ZipS g5 z TI TO .ellipsis := e5.extBut _ _ D.TOz.symm (e4.extBut _ _ D.i2z.symm (e3.extBut _ _ D.TOz.symm (e2.extBut _ _ D.i1z.symm z1)))
  have k5 : ∀ c o, c ≠ z → c ≠ TO → c ≠ i1 → c ≠ i2 → s.heap.get? c = some o → g5.get? c = some o := fun c o c1 c2 c3 c4 e => by
    refine e5.extBut _ _ c2 (e4.extBut _ _ c4 (e3.extBut _ _ c2 ?_))
    exact e2.extBut _ _ c3 (e1.extBut _ _ c1 e)
  have j1' : g5.IsListIter i1 l1 (k1 + 1) := ((j1.extBut e3.extBut D.TOi1.symm).extBut e4.extBut D.i12).extBut e5.extBut D.TOi1.symm
  have j2' : g5.IsListIter i2 l2 (k2 + 1) := j2.extBut e5.extBut D.TOi2.symm
  have zlt : z < g5.objs.size := Heap.lt_size z5
  show wpAny _ _ (Builtin.SmallTypes.ownedTupleHandOut (.ref z) (.ref g5.objs.size) >>= _) _ _ _
  refine wpAny_bind ?_
  unfold Builtin.SmallTypes.ownedTupleHandOut
  have z6 : ZipS (g5.push { cls := .type "tuple", data := .seq #[x, y] }) z TI TO .ellipsis := Heap.get?_push_of_some _ z5
  refine wpAny_bind (wpAny_setField_rec z6 (by simp) fun g7 z7 e7 => ?_)
  replace z7 : ZipS g7 z TI TO (rawInt g5.objs.size) := z7
  refine wpAny_setField_rec z7 (by simp) fun g8 z8 e8 => ?_
  replace z8 : ZipS g8 z TI TO (rawInt g5.objs.size) := z8
  have up : ∀ c o, c ≠ z → g5.get? c = some o → g8.get? c = some o := fun c o c1 e => e8.extBut _ _ c1 (e7.extBut _ _ c1 (Heap.get?_push_of_some _ e))
  have t8 : IsPair g8 g5.objs.size x y := e8.extBut _ _ (Nat.ne_of_gt zlt) (e7.extBut _ _ (Nat.ne_of_gt zlt) (Heap.get?_push_size _ rfl))
  rw [gs] at z8 t8
  refine wpAny_pure ⟨_, rfl, ?_⟩
  show Q (.ref g5.objs.size) _
  rw [gs]
  exact hQ g8 z8 (up _ _ D.TOz t5) (j1'.at fun o e => up _ o D.i1z e) (j2'.at fun o e => up _ o D.i2z e) t8 fun c o c1 c2 c3 c4 e => up c o c1 (k5 c o c1 c2 c3 c4 e)

theorem stop_raises {α : Type} {Q : α → Shared → Prop} (hh : A.handled = none)
    (hE : ∀ h' e, (∀ b o, s.heap.get? b = some o → h'.get? b = some o) → (∃ o, h'.get? e = some o ∧ o.cls = .type "StopIteration") → E (.ref e) { s with heap := h' }) :
    wpAny (model prog w) A (do raiseNew (← newExc (.type "StopIteration") []) : Sem α) Q E s := by
  refine wpAny_bind ?_
  simp only [newExc, newTuple]
  refine wpAny_bind (wpAny_newObj_type ?_ (by size_fits))
  have em : firstArgMember (.type "StopIteration") [] = (pure Value.none : Sem Value) := by first | rfl | (simp only [firstArgMember]; rfl)
  refine wpAny_bind (wpAny_of_eq em ?_)
  refine wpAny_newObj_type ?_ (by size_fits)
  simp only [raiseNew]
  refine wpAny_bind (wpAny_handled ?_)
  rw [hh]
  refine wpAny_bind (wpAny_pure (wpAny_throw ?_))
  refine hE _ _ (fun b o q => Heap.get?_push_of_some _ (Heap.get?_push_of_some _ q)) ?_
  exact ⟨_, Heap.get?_push_size _ rfl, rfl⟩
theorem zipS_end {z TI TO i1 i2 l1 l2 : Addr} {k1 k2 : Nat} {xs ys : Array Value} {a b : Value} {Q : PySem.Fin → Shared → Prop} (hh : A.handled = none) (D : ZipApart z TI TO i1 i2 l1 l2)
    (hz : ZipS s.heap z TI TO .none) (hTI : IsPair s.heap TI (.ref i1) (.ref i2)) (hTO : IsPair s.heap TO a b)
    (h1 : s.heap.IsListIter i1 l1 k1) (h2 : s.heap.IsListIter i2 l2 k2) (hl1 : s.heap.IsList l1 xs) (hl2 : s.heap.IsList l2 ys) (hx : xs[k1]? = none) (hy : ys[k2]? = none)
    (hE : ∀ h' e, (∀ c o, c ≠ z → c ≠ TO → c ≠ i1 → c ≠ i2 → s.heap.get? c = some o → h'.get? c = some o) → (∃ o, h'.get? e = some o ∧ o.cls = .type "StopIteration") → E (.ref e) { s with heap := h' }) :
    wpAny (model prog w) A (Builtin.«zip.__next__» ⟨[.ref z], []⟩) Q E s := by
  show wpAny _ _ (field (.ref z) 2 >>= _) _ _ _
  refine wpAny_bind (wpAny_field hz rfl (x := .bool true) rfl ?_)
  show wpAny _ _ (field (.ref z) 3 >>= _) _ _ _
  refine wpAny_bind (wpAny_field hz rfl (x := .ref TI) rfl ?_)
  refine wpAny_bind (wpAny_seqItems hTI rfl ?_)
  show wpAny _ _ (Builtin.SmallTypes.ownedTupleIsFree (.ref z) >>= _) _ _ _
  refine wpAny_bind ?_
  unfold Builtin.SmallTypes.ownedTupleIsFree
  refine wpAny_bind (wpAny_field hz rfl (x := .none) rfl (wpAny_pure ?_))
  simp only [if_true]
  refine wpAny_bind (wpAny_rule ?_)
  refine wpAny_bind (wpAny_field hz rfl (x := .ref TO) rfl ?_)
  refine wpAny_bind (wpAny_setField_rec hz (by simp) fun g1 z1 e1 => ?_)
  replace z1 : ZipS g1 z TI TO .ellipsis := z1
  refine wpAny_bind ?_
  simp only [List.zipIdx_cons, List.zipIdx_nil, List.forIn_cons, List.forIn_nil]
  refine wpAny_bind (wpAny_bind (wpAny_onRaise ?_))
  show wpAny _ _ (Builtin.SmallTypes.nextOrEnd (.ref i1)) _ _ _
  refine drawS_end hh (h1.extBut e1.extBut D.i1z) (hl1.extBut e1.extBut D.l1z) hx fun g2 e2 => ?_
  have z2 : ZipS g2 z TI TO .ellipsis := e2 _ _ D.i1z.symm z1
  refine wpAny_bind (wpAny_setField_rec z2 (by simp) fun g3 z3 e3 => ?_)
  have ng : ∀ {b o}, s.heap.get? b = some o → b ≠ z → b ≠ i1 → g3.get? b = some o := fun {b o} q b1 b2 => e3.extBut _ _ b1 (e2 _ _ b2 (e1.extBut _ _ b1 q))
  refine wpAny_bind (wpAny_bind ?_)
  have d2 := (h2.extBut e1.extBut D.i2z)
  have d2' : g3.IsListIter i2 l2 k2 := h2.at fun o q => ng q D.i2z D.i12.symm
  have dl : g3.IsList l2 ys := hl2.at fun o q => ng q D.l2z D.l2i1
  show wpAny _ _ (forIn [(Value.ref i2, 1)] PUnit.unit _) _ _ _
  rw [List.forIn_cons]
  refine wpAny_bind (wpAny_bind (drawS_end hh d2' dl hy fun g4 e4 => ?_))
  refine wpAny_pure ?_
  show wpAny _ _ (forIn ([] : List (Value × Nat)) PUnit.unit _) _ _ _
  rw [List.forIn_nil]
  refine wpAny_pure ?_
  refine wpAny_bind (wpAny_rule ?_)
  unfold Builtin.SmallTypes.stopIteration
  refine stop_raises hh fun h' e hk he => hE h' e (fun c o c1 c2 c3 c4 q => hk c o (e4 c o c4 (ng q c1 c3))) he

theorem nextS_item {z TI TO i1 i2 l1 l2 : Addr} {k1 k2 : Nat} {xs ys : Array Value} {x y a b : Value} {Q : Option Value → Shared → Prop} (D : ZipApart z TI TO i1 i2 l1 l2)
    (hz : ZipS s.heap z TI TO .none) (hTI : IsPair s.heap TI (.ref i1) (.ref i2)) (hTO : IsPair s.heap TO a b)
    (h1 : s.heap.IsListIter i1 l1 k1) (h2 : s.heap.IsListIter i2 l2 k2) (hl1 : s.heap.IsList l1 xs) (hl2 : s.heap.IsList l2 ys) (hx : xs[k1]? = some x) (hy : ys[k2]? = some y)
    (hQ : ∀ h', ZipS h' z TI TO (rawInt s.heap.objs.size) → IsPair h' TO x y → h'.IsListIter i1 l1 (k1 + 1) → h'.IsListIter i2 l2 (k2 + 1) → IsPair h' s.heap.objs.size x y →
      (∀ c o, c ≠ z → c ≠ TO → c ≠ i1 → c ≠ i2 → s.heap.get? c = some o → h'.get? c = some o) → Q (some (.ref s.heap.objs.size)) { s with heap := h' }) :
    wpAny (model prog w) A (pyNext (.ref z)) Q E s := by
  have hT : s.TypeIs (.ref z) "zip" := ⟨_, hz, rfl⟩
  unfold pyNext
  refine wpAny_bind (wpAny_attempt (wpAny_callSpecial?_slot (name := Str.ofString "__next__") hT F.slot_zip_next ?_))
  refine wpAny_call_entry F.slot_zip_next hT F.entry_zip_next ?_ (F.args_zip_next_1 _)
  exact zipS_item D hz hTI hTO h1 h2 hl1 hl2 hx hy fun h' q1 q2 q3 q4 q5 q6 => wpAny_pure (hQ h' q1 q2 q3 q4 q5 q6)
theorem nextS_end {z TI TO i1 i2 l1 l2 : Addr} {k1 k2 : Nat} {xs ys : Array Value} {a b : Value} {Q : Option Value → Shared → Prop} (hh : A.handled = none) (D : ZipApart z TI TO i1 i2 l1 l2)
    (hz : ZipS s.heap z TI TO .none) (hTI : IsPair s.heap TI (.ref i1) (.ref i2)) (hTO : IsPair s.heap TO a b)
    (h1 : s.heap.IsListIter i1 l1 k1) (h2 : s.heap.IsListIter i2 l2 k2) (hl1 : s.heap.IsList l1 xs) (hl2 : s.heap.IsList l2 ys) (hx : xs[k1]? = none) (hy : ys[k2]? = none)
    (hQ : ∀ h', (∀ c o, c ≠ z → c ≠ TO → c ≠ i1 → c ≠ i2 → s.heap.get? c = some o → h'.get? c = some o) → Q none { s with heap := h' }) : wpAny (model prog w) A (pyNext (.ref z)) Q E s := by
  have hT : s.TypeIs (.ref z) "zip" := ⟨_, hz, rfl⟩
  unfold pyNext
  refine wpAny_bind (wpAny_attempt (wpAny_callSpecial?_slot (name := Str.ofString "__next__") hT F.slot_zip_next ?_))
  refine wpAny_call_entry F.slot_zip_next hT F.entry_zip_next ?_ (F.args_zip_next_1 _)
  refine zipS_end hh D hz hTI hTO h1 h2 hl1 hl2 hx hy fun h' e hk he => ?_
  obtain ⟨o, ho, hc⟩ := he
  refine wpAny_bind (wpAny_isInstance (T := "StopIteration") (b := true) ⟨o, ho, hc⟩ isSubtype_stop ?_)
  exact wpAny_pure (hQ _ hk)
theorem goS {elts : List Expr} {x1 : Nat} {pos : Pos} {z TI TO T : Addr} {Q : Unit → Shared → Prop} (hz : ZipS s.heap z TI TO (rawInt T))
    (hQ : ∀ h', ZipS h' z TI TO .none → Heap.SameBut z s.heap h' → Q () { s with heap := h' }) : wpAny (model prog w) A (letOwnedTupleGo (.Tuple elts x1 pos) (.ref z) (.ref T)) Q E s := by
  unfold letOwnedTupleGo
  refine wpAny_bind (wpAny_load hz ?_)
  show wpAny _ _ (if (["enumerate", "zip", "dict_itemiterator", "dict_reverseitemiterator", "odict_iterator", "itertools.zip_longest", "itertools.pairwise"].contains "zip" && (#[rawInt T, .bool false, .bool true, .ref TI, .ref TO] : Array Value)[0]? == some (rawInt T)) = true then _ else _) Q E s
  rw [if_pos (by simp)]
  refine wpAny_bind (wpAny_rule ?_)
  show wpAny _ _ (setField (.ref z) 0 .none) Q E s
  exact wpAny_setField_rec hz (by simp) fun h' q1 q2 => hQ h' q1 q2
theorem iterS {z TI TO : Addr} {f0 : Value} {Q : Value → Shared → Prop} (hz : ZipS s.heap z TI TO f0) (h : Q (.ref z) s) : wpAny (model prog w) A (pyIter (.ref z)) Q E s := by
  have hT : s.TypeIs (.ref z) "zip" := ⟨_, hz, rfl⟩
  refine wpAny_pyIter_slot hT F.slot_zip_iter (wpAny_call_entry F.slot_zip_iter hT F.entry_zip_iter ?_ (F.args_zip_iter_1 _))
  show wpAny _ _ (ret (.ref z)) _ _ s
  exact wpAny_pure ⟨_, rfl, "zip", _, hT, F.slot_zip_next.lookup, h⟩

/-- the heap with the strict zip object -/
abbrev zS5 (h : Heap) (l1 l2 : Addr) : Heap := (zipH4 h l1 l2).push { cls := .type "zip", data := .fields #[.none, .bool false, .bool true, .ref (zipH2 h l1 l2).objs.size, .ref (zipH3 h l1 l2).objs.size] }
theorem meets_zipS (l1 l2 : Addr) (xs ys : Array Value) :
    Meets (Builtin.«zip.__new__» ⟨[.type "zip", .ref l1, .ref l2], [(Str.ofString "strict", .bool true)]⟩) (fun _ R s => s.heap.IsList l1 xs ∧ s.heap.IsList l2 ys ∧
      R (.ok (.ret (.ref (zipH4 s.heap l1 l2).objs.size))) { s with heap := zS5 s.heap l1 l2 }) := by
  refine .of_wp fun prog w A R s h => ?_
  obtain ⟨hp, g, d, tk, os⟩ := s
  obtain ⟨hl1, hl2, h⟩ := h
  have hsub := sub_zip
  have e2 : (Str.ofString "strict" != ("strict" : Str)) = false := by decide +kernel
  have L1 : Heap.IsList (Shared.heap ⟨hp, g, d, tk, os⟩) l1 xs := hl1
  have L2 : Heap.IsList (Shared.heap ⟨hp.push { cls := .type "list_iterator", data := .fields #[.ref l1, .int 0 0] }, g, d, tk, os⟩) l2 ys := Heap.IsList.push hl2 _
  wp_walk using wpAny_pyIter_list L1, wpAny_pyIter_list L2
  exact ⟨_, rfl, h⟩
theorem typeCall_zipS (a b c : Value) : checkTypeCall "zip" ⟨[a, b], [(Str.ofString "strict", c)]⟩ = pure () := by kernel_rfl
theorem newCall_zipS (a b c : Value) : checkBuiltinCall "zip.__new__" ⟨[.type "zip", a, b], [(Str.ofString "strict", c)]⟩ = pure () := by kernel_rfl
theorem args_initS (obj a b c : Value) : argsOk "object.__init__" ⟨[obj, a, b], [(Str.ofString "strict", c)]⟩ := by unfold argsOk; kernel_rfl
theorem call_zipS {l1 l2 : Addr} {xs ys : Array Value} {Q : Value → Shared → Prop} (hl1 : s.heap.IsList l1 xs) (hl2 : s.heap.IsList l2 ys)
    (h : ∀ h', ZipS h' (s.heap.objs.size + 4) (s.heap.objs.size + 2) (s.heap.objs.size + 3) .none → IsPair h' (s.heap.objs.size + 2) (.ref s.heap.objs.size) (.ref (s.heap.objs.size + 1)) →
      IsPair h' (s.heap.objs.size + 3) .none .none → h'.IsListIter s.heap.objs.size l1 0 → h'.IsListIter (s.heap.objs.size + 1) l2 0 →
      (∀ c o, s.heap.get? c = some o → h'.get? c = some o) → Q (.ref (s.heap.objs.size + 4)) { s with heap := h' }) :
    wpAny (model prog w) A (call (.type "zip") [.ref l1, .ref l2] [(Str.ofString "strict", .bool true)]) Q E s := by
  refine callType_newKw F.called_zip (by decide) (typeCall_zipS _ _ _) (newCall_zipS _ _ _) (fun obj => args_initS obj _ _ _) F.entry_zip_new (meets_zipS l1 l2 xs ys) ⟨hl1, hl2, ?_⟩
  have z1 : (zipH1 s.heap l1).objs.size = s.heap.objs.size + 1 := Heap.size_push ..
  have z2 : (zipH2 s.heap l1 l2).objs.size = s.heap.objs.size + 2 := by rw [Heap.size_push, z1]
  have z3 : (zipH3 s.heap l1 l2).objs.size = s.heap.objs.size + 3 := by rw [Heap.size_push, z2]
  have z4 : (zipH4 s.heap l1 l2).objs.size = s.heap.objs.size + 4 := by rw [Heap.size_push, z3]
  have up : ∀ {h : Heap} {o : Obj} {b : Addr} {u : Obj}, h.get? b = some u → (h.push o).get? b = some u := fun q => Heap.get?_push_of_some _ q
  have q5 : (zS5 s.heap l1 l2).get? (zipH4 s.heap l1 l2).objs.size = some _ := Heap.get?_push_size _ rfl
  have q4 : (zS5 s.heap l1 l2).get? (zipH3 s.heap l1 l2).objs.size = some _ := up (Heap.get?_push_size _ rfl)
  have q3 : (zS5 s.heap l1 l2).get? (zipH2 s.heap l1 l2).objs.size = some _ := up (up (Heap.get?_push_size _ rfl))
  have q2 : (zS5 s.heap l1 l2).get? (zipH1 s.heap l1).objs.size = some _ := up (up (up (Heap.get?_push_size _ rfl)))
  have q1 : (zS5 s.heap l1 l2).get? s.heap.objs.size = some _ := up (up (up (up (Heap.get?_push_size _ rfl))))
  show _ ∧ _
  rw [z4] at q5 ⊢
  rw [z2, z3] at q5
  rw [z2, z1] at q3
  rw [z3] at q4
  rw [z1] at q2
  exact ⟨⟨_, q5, rfl⟩, h _ q5 q3 q4 ⟨_, q1, rfl, rfl⟩ ⟨_, q2, rfl, rfl⟩ fun c o q => up (up (up (up (up q))))⟩
end
end Ru


namespace Ru
open PySem PySem.Spec PyProof.Rows L2
/-- the lists at a and b, of one length, the items in new pairs -/
def Izs (K : PySem.W.Frag) (a b : Addr) : It where
  go := fun i H => ∃ (xs ys : List V) (x y : V), SqL K H a xs ∧ SqL K H b ys ∧ xs[i]? = some x ∧ ys[i]? = some y
  yld := fun i H v H' => ∃ T x y, v = .ref T ∧ H T = none ∧ H' = upd H T (.tup [x, y]) ∧ (∀ xs, SqL K H a xs → xs[i]? = some x) ∧ ∀ ys, SqL K H b ys → ys[i]? = some y
  stop := fun i H => ∃ xs ys : List V, SqL K H a xs ∧ SqL K H b ys ∧ xs.length ≤ i ∧ ys.length ≤ i
theorem turn_izs {P : Program} {w : World} {K : PySem.W.Frag} {elts : List Expr} {kk : Nat} {tpos : Pos} {a b z TI TO i1 i2 : Addr} (D : ZipApart z TI TO i1 i2 a b) :
    Turn P w K (.Tuple elts kk tpos) (Izs K a b) [z, TI, TO, i1, i2] z (fun i h => ZipS h z TI TO .none ∧ IsPair h TI (.ref i1) (.ref i2) ∧ (∃ x y, IsPair h TO x y) ∧ h.IsListIter i1 a i ∧ h.IsListIter i2 b i) where
  mem := List.mem_cons_self
  obj := fun i h st c hc => by
    obtain ⟨hz, hTI, ⟨x, y, hTO⟩, ⟨o1, e1, _, d1⟩, ⟨o2, e2, _, d2⟩⟩ := st
    simp only [List.mem_cons, List.not_mem_nil, or_false] at hc
    rcases hc with rfl | rfl | rfl | rfl | rfl
    · exact ⟨_, hz, fun v q => nomatch q⟩
    · exact ⟨_, hTI, fun v q => nomatch q⟩
    · exact ⟨_, hTO, fun v q => nomatch q⟩
    · refine ⟨o1, e1, fun v q => ?_⟩
      rw [d1] at q; cases q
    · refine ⟨o2, e2, fun v q => ?_⟩
      rw [d2] at q; cases q
  keep := fun i h h' st k => by
    obtain ⟨hz, hTI, ⟨x, y, hTO⟩, h1, h2⟩ := st
    refine ⟨k z (by simp) _ hz, k TI (by simp) _ hTI, ⟨x, y, k TO (by simp) _ hTO⟩, ?_, ?_⟩
    · exact h1.at fun o q => k i1 (by simp) o q
    · exact h2.at fun o q => k i2 (by simp) o q
  item := by
    intro X hP hw hK hc i pins s σ H E I hf st hg
    subst hP hw hK
    obtain ⟨hz, hTI, ⟨x0, y0, hTO⟩, h1, h2⟩ := st
    obtain ⟨xs, ys, x, y, hqx, hqy, hx, hy⟩ := hg
    obtain ⟨its, rv, p, _⟩ := I.list hqx
    obtain ⟨its2, rv2, p2, _⟩ := I.list hqy
    obtain ⟨u, hu, ru⟩ := rv.get hx
    obtain ⟨u2, hu2, ru2⟩ := rv2.get hy
    have hzl : z < s.heap.objs.size := Heap.lt_size hz
    refine nextS_item D hz hTI hTO h1 h2 p.isList p2.isList (x := u) (y := u2) (by simpa using hu) (by simpa using hu2) fun h' z' TO' h1' h2' hT hk => ?_
    refine ⟨_, rfl, goS (s := { s with heap := h' }) z' fun h'' z'' sb => ?_⟩
    have hT2 : h''.get? s.heap.objs.size = some { cls := .type "tuple", data := .seq #[u, u2] } := (sb.2 _ (Nat.ne_of_gt hzl)).trans hT
    have new : ObjOk X.prog X.w (upd H s.heap.objs.size (.tup [x, y])) h'' s.heap.objs.size (.tup [x, y]) := by
      refine ⟨by show 2 ≤ sizeLine; decide, [u, u2], .cons ru (.cons ru2 .nil), ?_⟩
      exact ⟨_, hT2, rfl, _, rfl⟩
    have I1 : Inv X pins σ (upd H s.heap.objs.size (.tup [x, y])) { s with heap := h'' } := by
      refine I.turnedNew (t' := s.toks) (ch := [z, TI, TO, i1, i2]) (fun c o hb q => ?_) hf (Nat.le_refl _) new
      have nz : c ≠ z := fun q' => hb (by simp [q'])
      have nT : c ≠ TO := fun q' => hb (by simp [q'])
      have n1 : c ≠ i1 := fun q' => hb (by simp [q'])
      have n2 : c ≠ i2 := fun q' => hb (by simp [q'])
      exact (sb.2 c nz).trans (hk c o nz nT n1 n2 q)
    refine ⟨.ref s.heap.objs.size, _, I1, rfl, ⟨_, x, y, rfl, I.hok.fresh (Nat.le_refl _), rfl, fun l hl => ?_, fun l hl => ?_⟩, ⟨z'', ?_, ⟨u, u2, ?_⟩, ?_, ?_⟩, fun c hcm => ?_⟩
    · rw [I.list_inj hl hqx]; exact hx
    · rw [I.list_inj hl hqy]; exact hy
    · exact (sb.2 _ D.TIz).trans (hk _ _ D.TIz D.TITO D.TIi1 D.TIi2 hTI)
    · exact (sb.2 _ D.TOz).trans TO'
    · exact h1'.at fun o q => (sb.2 _ D.i1z).trans q
    · exact h2'.at fun o q => (sb.2 _ D.i2z).trans q
    · have hlt : c < s.heap.objs.size := by
        simp only [List.mem_cons, List.not_mem_nil, or_false] at hcm
        rcases hcm with q | q | q | q | q <;> rw [q]
        · exact hzl
        · exact Heap.lt_size hTI
        · exact Heap.lt_size hTO
        · obtain ⟨_, e1, _⟩ := h1
          exact Heap.lt_size e1
        · obtain ⟨_, e2, _⟩ := h2
          exact Heap.lt_size e2
      rw [upd_ne (Nat.ne_of_lt hlt)]
      exact (hf c hcm).1
  done := by
    intro X hP hw hK hc i pins s σ H E I hf st hg
    subst hP hw hK
    obtain ⟨hz, hTI, ⟨x0, y0, hTO⟩, h1, h2⟩ := st
    obtain ⟨xs, ys, hqx, hqy, en1, en2⟩ := hg
    obtain ⟨its, rv, p, _⟩ := I.list hqx
    obtain ⟨its2, rv2, p2, _⟩ := I.list hqy
    have l1 := rv.length
    have l2 := rv2.length
    refine nextS_end (I.ok.hd hc) D hz hTI hTO h1 h2 p.isList p2.isList (by simp; omega) (by simp; omega) fun h' hk => ⟨rfl, ?_⟩
    refine I.turnedL (t' := s.toks) (ch := [z, TI, TO, i1, i2]) (fun c o hb q => ?_) hf
    exact hk c o (fun q' => hb (by simp [q'])) (fun q' => hb (by simp [q'])) (fun q' => hb (by simp [q'])) (fun q' => hb (by simp [q'])) q
  self := fun A i s Q E st h => iterS st.1 h
/-- a call of a built-in class with keywords -/
theorem callWith_tkw {M : Model} {A : Around} {E : Value → Shared → Prop} {s : Shared} {env : Env} {pos : Pos} {T : String} {e : Expr} {rest : List Expr} {kws : List Keyword} {Q : Value → Shared → Prop}
    (h : wpAny M A (spliced (backTo pos (starEach (e :: rest) env))) (fun vs s1 => wpAny M A (evalAll ((backToKw pos (keywordEach kws env)).map (·.2)))
      (fun kvs s2 => wpAny M A (call (.type T) vs (((backToKw pos (keywordEach kws env)).filterMap (·.1)).zip kvs)) Q E s2) E s1) E s)
    (he : backTo pos (starEach (e :: rest) env) = (false, eval e env) :: backTo pos (starEach rest env)) (hpl : (backTo pos (starEach (e :: rest) env)).any (·.1) = false)
    (hall : (backToKw pos (keywordEach kws env)).all (·.1.isSome) = true) (hkw : (backToKw pos (keywordEach kws env)).any (·.1.isNone) = false) :
    wpAny M A (callWith pos (.type T) [] (backTo pos (starEach (e :: rest) env)) (backToKw pos (keywordEach kws env))) Q E s := by
  unfold callWith
  have h2 : wpAny M A (evalArgs (.type T) true (backTo pos (starEach (e :: rest) env)) (backToKw pos (keywordEach kws env))) (fun a s1 => wpAny M A (call (.type T) a.pos a.kw) Q E s1) E s := by
    rw [he] at h ⊢
    exact PyProof.Rows.evalArgs_kwB hall h
  refine wpAny_bind (wpAny_holding (wpAny_mono h2 (fun a s1 h1 => wpAny_bind (wpAny_standAt ?_)) fun _ _ x => x))
  simp only [hpl, hkw, Bool.or_false]
  refine wpAny_bind (wpAny_pure ?_)
  refine wpAny_bind (wpAny_mono h1 (fun r s2 hr => ?_) fun _ _ x => x)
  exact wpAny_bind (wpAny_holding (wpAny_point (wpAny_pure hr)))
def iZs (K : PySem.W.Frag) (ta : TA) : TI := fun σ H R => ta σ H fun vs H1 => ∃ a b xs ys, vs = [.ref a, .ref b] ∧ SqL K H1 a xs ∧ SqL K H1 b ys ∧ R (Izs K a b) H1
theorem pi_zipS {X : Cx} {e e2 : Expr} {ta : TA} {p pos tpos : Pos} {elts : List Expr} {kk : Nat} {kws : List Keyword} (hg : Gl X "zip") (hm : X.mg "zip" = none) (ha : PA X [e, e2] ta) (hk : PK X kws (tCons (tC (.bl true)) tNil))
    (he : backTo pos (starEach [e, e2] X.env) = (false, eval e X.env) :: backTo pos (starEach [e2] X.env) := by rfl) (hpl : (backTo pos (starEach [e, e2] X.env)).any (·.1) = false := by rfl)
    (hall : (backToKw pos (keywordEach kws X.env)).all (·.1.isSome) = true := by rfl)
    (hnone : (backToKw pos (keywordEach kws X.env)).any (·.1.isNone) = false := by rfl)
    (hks : (backToKw pos (keywordEach kws X.env)).filterMap (·.1) = [Str.ofString "strict"] := by rfl) :
    PI X (.Tuple elts kk tpos) (.Call (.Name "zip" p) [e, e2] kws pos) (iZs X.K ta) := by
  refine ⟨fun pins s σ H R I h => ?_⟩
  refine wpAny_Call_Name_kw (ld_blt I hg hm PyProof.Rows.boot_zip ?_)
  refine callWith_tkw (thn (ha.run pos pins s σ H _ I h) fun us s1 ⟨vs, H1, I1, r1, q1⟩ => thn (hk.run pos pins s1 σ H1 (fun zs H2 => zs = [.bl true] ∧ H2 = H1) I1 ⟨rfl, rfl⟩) fun ws s2 ⟨zs, H2, I2, r2, q2, e2⟩ => ?_) he hpl hall hnone
  subst q2 e2
  rw [hks]
  obtain ⟨a, b, xs, ys, ex, hqx, hqy, q⟩ := q1
  subst ex
  obtain ⟨u1, u2, rfl, ra, rb⟩ := vals2 r1
  obtain rfl : u1 = Value.ref a := ra
  obtain rfl : u2 = Value.ref b := rb
  obtain ⟨u3, rfl, rc⟩ := vals1 r2
  obtain rfl : u3 = Value.bool true := rc
  obtain ⟨its, rv, p1, _⟩ := I2.list hqx
  obtain ⟨its2, rv2, p2, _⟩ := I2.list hqy
  show wpAny _ _ (call (.type "zip") [.ref a, .ref b] [(Str.ofString "strict", .bool true)]) _ _ _
  refine call_zipS p1.isList p2.isList fun h' hz hTI hTO h1 h2 hk' => iterS hz ?_
  have I3 : Inv X pins σ H2 { s2 with heap := h' } := I2.kept (t' := s2.toks) hk'
  refine ⟨s2.heap.objs.size + 4, [s2.heap.objs.size + 4, s2.heap.objs.size + 2, s2.heap.objs.size + 3, s2.heap.objs.size, s2.heap.objs.size + 1], _, _, H2, rfl, I3,
    turn_izs (PySem.W.ktu_apart s2.heap.objs.size a b p1.lt p2.lt), ⟨hz, hTI, ⟨_, _, hTO⟩, h1, h2⟩, fun c hcm => ?_, q⟩
  have hle : s2.heap.objs.size ≤ c := by
    simp only [List.mem_cons, List.not_mem_nil, or_false] at hcm
    rcases hcm with q | q | q | q | q <;> rw [q]
    all_goals first | exact Nat.le_add_right _ _ | exact Nat.le_refl _
  exact I2.fpOk hle (I2.hok.fresh hle)
end Ru


/-! Rules of my own: a dict whose keys are None and ints, its values truth values -/
namespace Ru
open PySem PySem.Spec PyProof.Rows L2
abbrev LK := PySem.Leaf
/-- the dict at d with these pairs -/
def LD (P : Program) (w : World) (d : Addr) (kvs : List (LK × Value)) : HO := .ext fun h => h.DictOf (leafKind P w) d kvs ∧ (d == sysModules) = false ∧ kvs.length ≤ 1000
section
variable {P : Program} {w : World} {H : Hp} {h h' : Heap} {d : Addr} {kvs : List (LK × Value)}
theorem ld_of (ok : HOk P w H h) (e : H d = some (LD P w d kvs)) : h.DictOf (leafKind P w) d kvs ∧ (d == sysModules) = false ∧ kvs.length ≤ 1000 := by
  have q : ObjOk P w H h d (LD P w d kvs) := ok d _ e
  exact q.1
theorem ld_ok (dd : h.DictOf (leafKind P w) d kvs) (hd : (d == sysModules) = false) (hz : kvs.length ≤ 1000) : ObjOk P w H h d (LD P w d kvs) := by
  refine ⟨⟨dd, hd, hz⟩, ?_, fun h1 h2 q k => ⟨?_, q.2⟩⟩
  · obtain ⟨o, es, ep, ho, _⟩ := dd
    exact ⟨o, ho⟩
  · obtain ⟨⟨o, es, ep, ho, r⟩, _⟩ := q
    exact ⟨o, es, ep, k o ho, r⟩
end
/-- a key as a value of the layer -/
def lkV : LK → V → Prop
  | .none, x => x = .non
  | .num i, x => x = .int i
  | _, _ => False
theorem lk_is {P : Program} {w : World} {k : LK} {x : V} {u : Value} (h : lkV k x) (r : RelV x u) : (leafKind P w).is k u = true := by
  cases k with
  | none => cases h; cases r; exact leaf_none
  | num i => cases h; obtain ⟨t, rfl⟩ := r; exact leaf_int i t
  | text z => exact h.elim

section
variable {X : Cx} {o e f i value : Expr} {td ty tx tv : TE} {apos cpos pos pos' : Pos}
/-- {None: False} -/
def tDisN (P : Program) (w : World) : TE := fun _ H Q => ∀ p, H p = none → Q (.ref p) (upd H p (LD P w p [(.none, .bool false)]))
theorem pe_dispN {j1 j2 p1 p2} : PE X (.Dict [some (.Constant .none j1 p1)] [.Constant (.bool false) j2 p2] pos) (tDisN X.prog X.w) := by
  refine ⟨fun pins s σ H Q I q => ?_⟩
  have hn := I.hok.fresh (Nat.le_refl s.heap.objs.size)
  have hb : s.heap.objs.size ≠ sysModules := Ne.symm (Nat.ne_of_lt I.big)
  have e0 : ObjOk X.prog X.w (upd H s.heap.objs.size (LD X.prog X.w s.heap.objs.size [])) (s.heap.push { cls := .type "dict", data := .dict #[] }) s.heap.objs.size (LD X.prog X.w s.heap.objs.size []) :=
    ld_ok (Heap.DictOf.new s.heap) (beq_eq_false_iff_ne.mpr hb) (Nat.zero_le _)
  have I1 := I.laid (t' := s.toks) (fun _ _ q => Heap.get?_push_of_some _ q) (Nat.le_refl _) e0
  have pp : PPs X pos [some (.Constant .none j1 p1)] [.Constant (.bool false) j2 p2] _ := pps_cons pe_non pe_bl pps_nil
  refine wpAny_Dict_walk (knd := leafKind X.prog X.w) rfl rfl (by simp) (by simp) (thn (pp.run pins _ σ _ (fun ps H2 => ps = [(.non, .bl false)] ∧ H2 = upd H s.heap.objs.size (LD X.prog X.w s.heap.objs.size [])) I1 ⟨rfl, rfl⟩) fun ws s2 ⟨ps, H2, I2, rel, ep, eH⟩ => ?_)
  subst ep eH
  obtain ⟨w1, w2, rfl, r1, r2⟩ : ∃ w1 w2, ws = [(w1, w2)] ∧ RelV .non w1 ∧ RelV (.bl false) w2 := by
    cases rel with
    | cons a b => cases b; exact ⟨_, _, rfl, a.1, a.2⟩
  obtain rfl : w1 = Value.none := r1
  obtain rfl : w2 = Value.bool false := r2
  obtain ⟨d1, d2, _⟩ := ld_of I2.hok upd_same
  refine ⟨[(.none, .bool false)], ⟨leaf_none, rfl, True.intro⟩, d1, fun h' dd' hs => ⟨.ref s.heap.objs.size, _, ?_, rfl, q _ hn⟩⟩
  have he : ∃ q, h'.get? s.heap.objs.size = some q := let ⟨q, _, _, hq, _⟩ := dd'; ⟨q, hq⟩
  have J := d_write (t' := s2.toks + 1) (ob := LD X.prog X.w s.heap.objs.size [(.none, .bool false)]) I2 (by rw [upd_same]; exact True.intro) hs he (ld_ok dd' d2 (by show 1 ≤ 1000; decide))
  rw [upd_upd] at J
  exact J
/-- d.get(k, x) -/
def tGetN (P : Program) (w : World) (td ty tx : TE) : TE := fun σ H Q => td σ H fun x H1 => (∃ a kvs, x = .ref a ∧ H1 a = some (LD P w a kvs)) ∧ ty σ H1 fun y H2 => tx σ H2 fun z H3 =>
  ∃ a kvs k, x = .ref a ∧ H3 a = some (LD P w a kvs) ∧ lkV k y ∧ ((∃ c, valueAt kvs k = some (.bool c) ∧ Q (.bl c) H3) ∨ (valueAt kvs k = none ∧ Q z H3))
theorem pe_getN (ho : PE X o td) (he : PE X e ty) (hf : PE X f tx) (m : M2 X o "get" apos e f cpos) : PE X (.Call (.Attribute o "get" apos) [e, f] [] cpos) (tGetN X.prog X.w td ty tx) := by
  refine ⟨fun pins s σ H Q I h => ?_⟩
  refine wpAny_Call_method m.base m.few m.line PySem.F.plainAttrs_dict PySem.F.slot_dict_get PySem.F.type_dict_get (thn (ho.run pins s σ H _ I h) fun u s1 ⟨x, H1, I1, rx, ⟨a, kvs0, ex, hd0⟩, q1⟩ => ?_)
  subst ex
  obtain rfl : u = Value.ref a := rx
  obtain ⟨d1, d2, _⟩ := ld_of I1.hok hd0
  refine ⟨d1.typeIs, fun b q => ?_, ?_⟩
  · cases q
    obtain ⟨ob, _, _, h1, h2, _⟩ := d1
    exact ⟨ob, h1, h2.2.1⟩
  rw [m.trees]
  refine Calls.callWith_builtin rfl (Calls.evalArgs_plain (Calls.spliced_cons (thn (he.run pins s1 σ H1 _ I1 q1) fun iv s2 ⟨y, H2, I2, ry, q2⟩ => ?_)))
  refine Calls.spliced_cons (thn (hf.run pins s2 σ H2 _ I2 q2) fun fv s3 ⟨z, H3, I3, rz, a', kvs, k, ea, hd, hk, q3⟩ => Calls.spliced_nil ?_)
  cases ea
  obtain ⟨dd, hd2, _⟩ := ld_of I3.hok hd
  refine call_meetsIn PySem.F.slot_dict_get dd.typeIs PySem.F.entry_dict_get (PySem.F.args_dict_get_3 _ _ _) (meets_dict_get_default (leafKind X.prog X.w) a (lk_is hk ry) hd2 fv) ⟨_, dd.mapOf, ?_⟩
  rcases q3 with ⟨c, e, q⟩ | ⟨e, q⟩
  · rw [e]
    exact ⟨.bl c, H3, I3.tok _, rfl, q⟩
  · rw [e]
    exact ⟨z, H3, I3.tok _, rz, q⟩
/-- d[k] = v -/
def sPutN (P : Program) (w : World) (td ty tv : TE) : TS := fun D σ H => tv σ H fun v H1 => td σ H1 fun x H2 => ty σ H2 fun y H3 =>
  ∃ a kvs k c, x = .ref a ∧ H3 a = some (LD P w a kvs) ∧ lkV k y ∧ v = .bl c ∧ kvs.length < 1000 ∧ D.nx σ (upd H3 a (LD P w a (stored kvs k (.bool c))))
theorem ps_putN (ho : PE X o td) (hi : PE X i ty) (hv : PE X value tv) (hs : swapsWith value (some (.Subscript o i pos')) pos.line X.env = pure false := by rfl) :
    PS X (.Assign [.Subscript o i pos'] value pos) (sPutN X.prog X.w td ty tv) := by
  refine ⟨fun pins s σ H D I h => ?_⟩
  refine wpAny_Assign_Subscript (thn (hv.run pins s σ H _ I h) fun r s1 ⟨v, H1, I1, rv, q1⟩ => thn (ho.run pins s1 σ H1 _ I1 q1) fun u s2 ⟨x, H2, I2, rx, q2⟩ => ?_) hs
  refine thn (hi.run pins s2 σ H2 _ I2 q2) fun iv s3 ⟨y, H3, I3, ry, a, kvs, k, c, ex, hd, hk, ev, hl, q3⟩ => ?_
  subst ex ev
  obtain rfl : u = Value.ref a := rx
  obtain rfl : r = Value.bool c := rv
  obtain ⟨dd, hd2, hz⟩ := ld_of I3.hok hd
  refine wpAny_setItem_pairs (hsz := Nat.le_trans hz (by decide)) (lk_is hk ry) dd fun h' dd' hsb => ?_
  have he : ∃ q, h'.get? a = some q := let ⟨q, _, _, hq, _⟩ := dd'; ⟨q, hq⟩
  have hln : (stored kvs k (.bool c)).length ≤ 1000 := by
    rw [length_stored]
    split <;> omega
  exact ⟨σ, _, d_write (t' := _) I3 (by rw [hd]; exact True.intro) hsb he (ld_ok dd' hd2 hln), q3⟩
end
end Ru


/-! Rules of my own: xs[::e], e worth 1 or -1; powers of great ints -/
namespace Ru
open PySem PySem.Spec PyProof.Rows L2

theorem pick_one (items : Array Value) : slicePick items none none (some 1) = items.toList.toArray := by
  unfold slicePick
  have eb : sliceBounds none none (some 1) items.size = (0, (items.size : Int), 1) := by
    first
    | rfl
    | simp [sliceBounds]
  rw [eb]
  show ((sliceRange 0 (items.size : Int) 1).filterMap (items[·]?)).toArray = _
  have er : sliceRange 0 (items.size : Int) 1 = List.range items.size := by
    unfold sliceRange
    have h1 : ((1 : Int) > 0) := by decide
    simp only [h1, if_true]
    by_cases h : (0 : Int) < items.size
    · have e : ((items.size : Int) - 0 + 1 - 1) / 1 = (items.size : Int) := by rw [Int.ediv_one]; omega
      simp only [h, if_true, e, Int.toNat_natCast]
      refine (List.map_congr_left (g := fun k => k) ?_).trans (List.map_id' _)
      intro k hk
      omega
    · have e : items.size = 0 := by omega
      rw [e]; simp
  rw [er, PySem.W.krv_all]

def tSlStep (K : PySem.W.Frag) (te ts : TE) : TE := fun σ H Q => te σ H fun x H1 => tPart ts σ H1 fun o H2 => ∃ a xs, ∃ fw : Bool, x = .ref a ∧ SqL K H2 a xs ∧ o = some (if fw = true then 1 else -1) ∧
  ∀ p, H2 p = none → Q (.ref p) (upd H2 p (.lst (if fw = true then xs else xs.reverse)))
theorem pe_step {X : Cx} {e st : Expr} {te ts : TE} {p3 pos : Pos} (he : PE X e te) (hst : PE X st ts) (ht : ∀ a b, subscripted (.Slice none none (some st) p3) false (.ref a) (.ref b) = operate [.ref a, .ref b] (getItem (.ref a) (.ref b)) := by intros; with_unfolding_all rfl) :
    PE X (.Subscript e (.Slice none none (some st) p3) pos) (tSlStep X.K te ts) := by
  refine ⟨fun pins s σ H Q I h => ?_⟩
  refine Subscript_ (thn (he.run pins s σ H _ I h) fun v s1 ⟨x, H1, I1, r1, q1⟩ => ?_)
  refine wpAny_Slice (thn (po_none.run pins s1 σ H1 (fun o H2 => o = none ∧ H2 = H1) I1 ⟨rfl, rfl⟩) fun vl s2 ⟨l, H2, I2, pl, el, e2⟩ => ?_)
  subst el e2
  refine thn (po_none.run pins s2 σ H2 (fun o H3 => o = none ∧ H3 = H2) I2 ⟨rfl, rfl⟩) fun vu s3 ⟨u, H3, I3, pu, eu, e3⟩ => ?_
  subst eu e3
  have hp : PO X (some st) (tPart ts) := po_some hst
  refine thn (hp.run pins s3 σ H3 _ I3 q1) fun vs s4 ⟨o, H4, I4, ps, a, xs, fw, ex, hx, eo, q⟩ => ?_
  subst ex eo
  cases r1
  have I5 : Inv X pins σ H4 { s4 with heap := s4.heap.push { cls := .type "slice", data := .fields #[vl, vu, vs] } } := I4.kept (t' := s4.toks) fun b ob q => Heap.get?_push_of_some _ q
  obtain ⟨its, r, hL, hz⟩ := I5.list hx
  have hlen := r.length
  show wpAny (model X.prog X.w) X.A (subscriptTail e (.Slice none none (some st) p3) (.ref a) (.ref s4.heap.objs.size)) (EP X pins σ Q) X.xe { s4 with heap := s4.heap.push { cls := .type "slice", data := .fields #[vl, vu, vs] } }
  refine tail_any (ops := [.ref a, .ref s4.heap.objs.size]) hL.isList.typeIs (PySem.slot_list_getitem.lookup) ?_ (ht _ _)
  refine wpAny_getItem_list_slice hL.isList (Heap.IsSliceOf.new _ vl vu vs) pl pu ps (by cases fw <;> decide) ?_ (by rw [List.size_toArray]; omega)
  have hf := I5.hok.fresh (Nat.le_refl _)
  cases fw with
  | true =>
    rw [if_pos rfl, pick_one]
    refine ⟨.ref _, _, I5.laid (t' := s4.toks) (o := .lst xs) (fun b ob q => Heap.get?_push_of_some _ q) (Nat.le_refl _) ?_, rfl, q _ hf⟩
    exact ⟨hz, its, 0, r, Heap.get?_push_size _ rfl⟩
  | false =>
    rw [if_neg Bool.false_ne_true, PySem.W.krv_pick]
    refine ⟨.ref _, _, I5.laid (t' := s4.toks) (o := .lst xs.reverse) (fun b ob q => Heap.get?_push_of_some _ q) (Nat.le_refl _) ?_, rfl, q _ hf⟩
    exact ⟨by rw [List.length_reverse]; exact hz, its.reverse, 0, r.reverse, Heap.get?_push_size _ rfl⟩
/-- powers by size -/
def CPowL (i j : Int) : Prop := 0 ≤ j ∧ (Builtin.Int.intBits i : Int) * j ≤ 2 ^ 27
theorem op_powL {X : Cx} : OpR X (binaryOp .Pow) (rI CPowL fun i j => .int (i ^ j.toNat)) := opI fun _ _ _ _ _ _ _ hc q => pow_int hc.1 hc.2 q
theorem cpow_60 : CPowL (10 ^ 60) 10 := ⟨by decide, by decide +kernel⟩
end Ru


/-! Rules of my own: a run to its next halt, whatever is wanted there -/
namespace Ru
open PySem PySem.Spec PyProof.Rows GenW
open Sem (wp)
/-- the code t at c over the frames fs comes to a halt where Post stands -/
def SegE (M : Model) (A : Around) (Post : End → Shared → Prop) (c : Code) (t : Sem PySem.Fin) (fs : List Frame) (s : Shared) : Prop :=
  ∀ Γ p, Γ.code = c → Γ.Woken A → ∃ e s', Runs M Γ p t fs s e s' ∧ Post e s'
section
variable {M : Model} {A : Around} {Post : End → Shared → Prop} {c : Code} {fs : List Frame} {s : Shared}
theorem sE_wrap {α : Type} {m : Sem α} {K : α → Sem PySem.Fin} {H : Value → Sem PySem.Fin} {gd : Bool → Bool} {lv : List Value → List Value}
    (h : wpAny M (A.over c fs) m (fun a s' => SegE M A Post c (K a) fs s') (fun x s' => SegE M A Post c (H x) fs s') s) : SegE M A Post c (m.wrap K H gd lv) fs s := by
  rintro Γ p rfl hΓ
  refine runs_wrap_of_wp K H gd lv m (h (Γ.over fs) p (hΓ.over fs)) (fun a p' s' h' => ?_) fun x p' s' h' => ?_
  · exact h' Γ p' rfl hΓ
  · exact h' Γ p' rfl hΓ
theorem sE_bind {α : Type} {m : Sem α} {K : α → Sem PySem.Fin} (h : wpAny M (A.over c fs) m (fun a s' => SegE M A Post c (K a) fs s') (fun x s' => SegE M A Post c (.raise x) fs s') s) : SegE M A Post c (m >>= K) fs s := by
  rw [Sem.bind_eq_wrap']
  exact sE_wrap h
theorem sE_at {p' : Pos} {k : Unit → Sem PySem.Fin} (h : SegE M A Post c (k ()) fs s) : SegE M A Post c (.at p' k) fs s :=
  sE_wrap (m := standAt p') (K := k) (H := Sem.raise) (gd := id) (lv := id) (wpAny_standAt h)
theorem sE_point {l : List Value} {k : Unit → Sem PySem.Fin} (h : SegE M A Post c (k ()) fs s) : SegE M A Post c (.point l k) fs s :=
  sE_wrap (m := point) (K := k) (H := Sem.raise) (gd := id) (lv := fun _ => l) (wpAny_point h)
theorem sE_call {c' : Code} {h g l} {k : Result → Sem PySem.Fin} (hc : ∀ p, SegE M A Post c' (M.den c') (.ret k h g l c p [] :: fs) s) : SegE M A Post c (.call c' h g l k) fs s := by
  rintro Γ p rfl hΓ
  obtain ⟨e, s', hr, he⟩ := hc p (Γ.goto c') p rfl (hΓ.goto c')
  exact ⟨e, s', runs_call_seg hr, he⟩
theorem sE_leaf {k h g l c₁ p₁ kp} (r : Result) (hk : SegE M A Post c₁ (k r) fs s) : SegE M A Post c (leafOf r) (.ret k h g l c₁ p₁ kp :: fs) s := by
  rintro Γ p rfl hΓ
  obtain ⟨e, s', hr, he⟩ := hk (Γ.goto c₁) p₁ rfl (hΓ.goto c₁)
  exact ⟨e, s', Runs.pop r hr, he⟩
theorem sE_again {c' : Code} (hq : c'.quiet = true) (hc : SegE M A Post c' (M.den c') fs s) : SegE M A Post c (.pure (.again c')) fs s := by
  rintro Γ p rfl hΓ
  obtain ⟨e, s', hr, he⟩ := hc (Γ.goto c') p rfl (hΓ.goto c')
  exact ⟨e, s', Runs.head (c₁ := c') (fun _ _ x => .again hq x) hr, he⟩
theorem sE_end (r : Result) (h : Post (.ret r) s) : SegE M A Post c (leafOf r) [] s := by
  rintro Γ p rfl _
  exact ⟨.ret r, s, Runs.leaf r, h⟩
theorem sE_yield {v g l} {k : Resume → Sem PySem.Fin} (hfs : splitAtGen fs = none) (h : ∀ p, Post (.susp v g l k c p fs) s) : SegE M A Post c (.yield v g l k) fs s := by
  rintro Γ p rfl _
  exact ⟨_, s, Runs.yield' fs hfs, h p⟩
end
section
variable {M : Model} {A : Around} {Post : End → Shared → Prop} {c : Code} {fs : List Frame} {s : Shared} {env : Env} {K : Flow → Sem PySem.Fin} {H : Value → Sem PySem.Fin} {gd : Bool → Bool} {lv : List Value → List Value}
theorem sE_nil (h : SegE M A Post c (K .next) fs s) : SegE M A Post c ((execs [] env).wrap K H gd lv) fs s := h
theorem sE_cons {st : Stmt} {rest : List Stmt} (h : SegE M A Post c ((exec st env).wrap (fun f => match f with | .next => (execs rest env).wrap K H gd lv | f => K f) H gd lv) fs s) :
    SegE M A Post c ((execs (st :: rest) env).wrap K H gd lv) fs s := by
  rw [execs_cons_wrap]
  exact h
/-- yield e, its value dropped -/
theorem sE_yieldExpr {e : Expr} {ypos pos : Pos} (hfs : splitAtGen fs = none) (hgd : gd false = false) (hfg : fs.any Frame.guarded = false)
    (h : wpAny M (A.over c fs) (eval e env) (fun v s' => ∀ l k p, (∀ s'' (Post' : End → Shared → Prop), SegE M A Post' c (K .next) fs s'' → SegE M A Post' c (k (.send .none)) fs s'') → Post (.susp v false l k c p fs) s')
      (fun x s' => SegE M A Post c (H x) fs s') s) (hco : env.scope.isCoroutine = false := by rfl) (hi : interactive env = false := by rfl) :
    SegE M A Post c ((exec (.Expr (.Yield (some e) ypos) pos) env).wrap K H gd lv) fs s := by
  rw [exec_Expr env _ pos hi rfl]
  show SegE M A Post c (.at pos fun _ => ((eval e env >>= fun v => (standAt ypos >>= fun _ => yieldOut env v)) >>= fun x => dropValue (.Yield (some e) ypos) pos x).wrap K H gd lv) fs s
  have hy : ∀ v, yieldOut env v = yieldValue v := fun v => by simp only [yieldOut, hco, Bool.false_eq_true, if_false]
  simp only [hy]
  refine sE_at ?_
  rw [Sem.bind_eq_wrap', Sem.bind_eq_wrap', Sem.wrap_wrap, Sem.wrap_wrap]
  refine sE_wrap (wpAny_mono h (fun v s' h' => ?_) fun _ _ x => x)
  refine sE_at (sE_yield hfs fun p => ?_)
  have h2 := fun l k => h' l k p
  show Post (.susp v (gd false) _ _ c p fs) s'
  rw [hgd]
  exact h2 _ _ fun s'' Post' q => q
theorem sE_While {test : Expr} {body orelse : List Stmt} {pos : Pos}
    (h : ∀ k : Result → Sem PySem.Fin, (∀ s'' (Post' : End → Shared → Prop), SegE M A Post' c (K .next) fs s'' → SegE M A Post' c (k (.ok .next)) fs s'') →
      ∀ p, SegE M A Post (.whileLoop test body orelse env) (M.den (.whileLoop test body orelse env)) (.ret k none (gd false) (lv []) c p [] :: fs) s) :
    SegE M A Post c ((exec (.While test body orelse pos) env).wrap K H gd lv) fs s := sE_at (sE_call (h _ fun s'' Post' q => q))
end
section
variable {prog : Program} {w : World} {A : Around} {Post : End → Shared → Prop} {fs : List Frame} {s : Shared} {env : Env}
theorem sE_whileLoop {test : Expr} {body : List Stmt}
    (h : wpAny (model prog w) (A.over (.whileLoop test body [] env) fs) (isTrue test env (eval test env)) (fun b s' =>
        if b = true then
          ∀ K : Flow → Sem PySem.Fin, K .next = .pure (.again (.whileLoop test body [] env)) → ∀ H, SegE (model prog w) A Post (.whileLoop test body [] env) ((execs body env).wrap K H id id) fs s'
        else SegE (model prog w) A Post (.whileLoop test body [] env) (.pure (.done .next)) fs s') (fun _ _ => False) s) :
    SegE (model prog w) A Post (.whileLoop test body [] env) ((model prog w).den (.whileLoop test body [] env)) fs s := by
  show SegE _ A Post _ ((whileTurn test body [] env).onRaise (fun x => do noteFrame x env; theTreesLotGoes x)) fs s
  unfold whileTurn
  rw [Sem.onRaise_eq_wrap, Sem.bind_eq_wrap', Sem.wrap_wrap]
  refine sE_wrap (wpAny_mono h (fun b s' hb => ?_) fun x s' hx => hx.elim)
  cases b with
  | true =>
    rw [if_pos rfl] at hb
    show SegE _ A Post _ (Sem.wrap _ _ _ _ (if true = true then _ else _)) fs s'
    rw [if_pos rfl, Sem.bind_eq_wrap', Sem.wrap_wrap]
    exact hb _ rfl _
  | false =>
    rw [if_neg Bool.false_ne_true] at hb
    show SegE _ A Post _ (Sem.wrap _ _ _ _ (if false = true then _ else _)) fs s'
    rw [if_neg Bool.false_ne_true]
    exact hb
theorem sE_func {body : List Stmt}
    (h : ∀ K : Flow → Sem PySem.Fin, (∀ s'' (Post' : End → Shared → Prop), Post' (.ret (.ok (.ret .none))) s'' → SegE (model prog w) A Post' (.func body env) (K .next) fs s'') → ∀ H, SegE (model prog w) A Post (.func body env) ((execs body env).wrap K H id id) fs s) (hfs : fs = []) :
    SegE (model prog w) A Post (.func body env) ((model prog w).den (.func body env)) fs s := by
  subst hfs
  show SegE _ A Post _ (.point [] fun _ => ((execs body env).onRaise (leaving env)) >>= _) [] s
  refine sE_point ?_
  rw [Sem.onRaise_eq_wrap, Sem.bind_eq_wrap', Sem.wrap_wrap]
  exact h _ (fun s'' Post' q => sE_end (.ok (.ret .none)) q) _
end
end Ru


/-! Rules of my own: a generator def's frame, woken in any later state -/
namespace Ru
open PySem PySem.Spec PyProof.Rows L2 GenW
/-- the first n objects -/
def cutH (n : Nat) (h : Heap) : Heap := { h with objs := h.objs.extract 0 n }
theorem cutH_size {n : Nat} {h : Heap} (hn : n ≤ h.objs.size) : (cutH n h).objs.size = n := by
  show (h.objs.extract 0 n).size = n
  simp
  omega
theorem cutH_get {n b : Nat} {h : Heap} : (cutH n h).get? b = if b < n then h.get? b else none := by
  unfold Heap.get? cutH
  by_cases hb : b < n
  · rw [if_pos hb]
    have e : (h.objs.extract 0 n)[b]? = h.objs[b]? := by
      rw [Array.getElem?_extract]
      by_cases hs : b < h.objs.size
      · rw [if_pos (by omega), Nat.zero_add]
      · rw [if_neg (by omega), Array.getElem?_eq_none (by omega)]
    rw [e]
  · rw [if_neg hb]
    have e : (h.objs.extract 0 n)[b]? = none := by
      rw [Array.getElem?_extract, if_neg (by omega)]
    rw [e]
theorem cutH_lt {n b : Nat} {h : Heap} {o : Obj} (e : (cutH n h).get? b = some o) : b < n ∧ h.get? b = some o := by
  rw [cutH_get] at e
  by_cases hb : b < n
  · rw [if_pos hb] at e; exact ⟨hb, e⟩
  · rw [if_neg hb] at e; cases e
def cutP (n : Nat) (H : Hp) : Hp := fun b => if b < n then H b else none
theorem cutP_lt {n b : Nat} {H : Hp} (h : b < n) : cutP n H b = H b := if_pos h
theorem cutP_some {n b : Nat} {H : Hp} {o : HO} (h : cutP n H b = some o) : H b = some o := by
  unfold cutP at h
  split at h
  · exact h
  · cases h

/-- a generator def that was called: its frame's dict stands at n0; A: around its waker's code -/
structure GD where
  P : Program
  w : World
  K : PySem.W.Frag
  mg : Str → Option Value
  base : Heap
  N : List Str
  qual : Str
  scope : Scope
  f : Addr
  cd : Value
  n0 : Nat
  outer : List Env
  A : Around
abbrev GD.env (G : GD) : Env := envOfC G.qual G.scope G.n0 G.f G.cd
/-- its context, woken at s, H -/
@[reducible] def GD.X (G : GD) (s : Shared) (H : Hp) : Cx where
  prog := G.P
  w := G.w
  K := G.K
  mg := G.mg
  base := G.base
  A := G.A.deeper G.env
  N := G.N
  s_0 := { s with heap := cutH G.n0 s.heap }
  H_0 := cutP G.n0 H
  env := G.env
  outer := G.outer
  stack := G.env :: G.outer
  ex := []
  fn := fun _ => true
  calm := true
  pn := []
  xe := fun _ _ => False
structure GD.Ok (G : GD) : Prop where
  mod : Mod G.K G.mg G.base
  kind : G.scope.kind = .function
  co : G.scope.isCoroutine = false
  nocell : ∀ y ∈ G.scope.names, y.2 ≠ .cell ∧ y.2 ≠ .free
  bsz : G.base.objs.size ≤ G.n0
  frl : ∀ b ∈ frs G.outer, b < G.n0
  hd : G.A.handled = none
  fr : G.A.frames = some G.outer
structure Wake (G : GD) (pl : List (Addr × Obj)) (H : Hp) (s : Shared) : Prop where
  e0 : Env0 G.P G.w G.K G.mg G.base G.A G.outer s H
  free : H G.n0 = none
  big : G.n0 < s.heap.objs.size
  pins : ∀ p ∈ pl, s.heap.get? p.1 = some p.2 ∧ H p.1 = none ∧ p.1 ≠ G.n0 ∧ p.1 ∉ frs G.outer ∧ ∀ v, p.2.data ≠ .cell v
/-- the frame's slots -/
def FrF (G : GD) (σ : L2.St) (h : Heap) : Prop := σ.length = G.N.length ∧ ∃ m, h.Ns G.n0 m ∧ ∀ (i : Nat) (x : Str) (v : V), G.N[i]? = some x → σ[i]? = some (some v) → Vis G.scope x → ∃ u, RelV v u ∧ m x = some u

theorem cells_none : ∀ {names : List (Str × NameKind)} {n : Nat} {acc : List (Str × Addr)}, (∀ y ∈ names, y.2 ≠ .cell ∧ y.2 ≠ .free) → cellsFrom n names acc = acc
  | [], _, _, _ => by unfold cellsFrom; rfl
  | (x, k) :: r, n, acc, h => by
    unfold cellsFrom
    have hk : ¬ ((k == NameKind.cell) = true) := fun z => (h (x, k) List.mem_cons_self).1 (by simpa using z)
    rw [if_neg hk]
    exact cells_none fun y hy => h y (List.mem_cons_of_mem _ hy)
theorem GD.Ok.cells {G : GD} (ok : G.Ok) : G.env.cells = [] := by
  show cellsFrom (G.n0 + 1) G.scope.names [] = []
  exact cells_none ok.nocell
theorem GD.Ok.look {G : GD} (ok : G.Ok) {x : Str} : ¬ (G.env.kindOf x = some .cell ∨ G.env.kindOf x = some .free) := by
  rintro (z | z)
  · exact (ok.nocell _ (PySem.mem_of_lookup (show G.scope.names.lookup x = some .cell from z))).1 rfl
  · exact (ok.nocell _ (PySem.mem_of_lookup (show G.scope.names.lookup x = some .free from z))).2 rfl

theorem inv_wake {G : GD} {pl : List (Addr × Obj)} {H : Hp} {s : Shared} {σ : L2.St} (ok : G.Ok) (W : Wake G pl H s) (F : FrF G σ s.heap) : Inv (G.X s H) pl σ H s := by
  have hc : ∀ x c, (G.X s H).env.cells.lookup x = some c → False := fun x c e => by
    have e' : G.env.cells.lookup x = some c := e
    rw [ok.cells] at e'
    cases e'
  have hs : (cutH G.n0 s.heap).objs.size = G.n0 := cutH_size (Nat.le_of_lt W.big)
  obtain ⟨hl, m, hn, hlk⟩ := F
  have kd : ∀ x, Vis G.scope x → G.env.kindOf x = some .local := fun x hv => by
    rcases hv with z | z | z
    · exact z
    · exact absurd (Or.inl z) (ok.look (x := x))
    · exact absurd (Or.inr z) (ok.look (x := x))
  have okX : (G.X s H).Ok := by
    refine ⟨ok.mod, ok.kind, rfl, rfl, ?_, fun x y c e _ => (hc x c e).elim, fun x z => (ok.look z).elim, fun x c _ e => (hc x c e).elim, fun _ => ok.hd, Around.frames_deeper ok.fr, .inr ⟨rfl, rfl⟩, fun b z => (nomatch z), fun b o e => ?_, ?_, fun b o _ z => (nomatch z), fun b z => (nomatch z), ?_, fun b hb => ?_⟩
    · show (cutH G.n0 s.heap).objs.size ≤ G.n0
      rw [hs]; exact Nat.le_refl _
    · have hb : b < G.n0 := Nat.lt_of_lt_of_le (Heap.lt_size e) ok.bsz
      obtain ⟨q1, q2⟩ := W.e0.bs b o e
      exact ⟨by show (cutH G.n0 s.heap).get? b = some o; rw [cutH_get, if_pos hb]; exact q1, by show cutP G.n0 H b = none; rw [cutP_lt hb]; exact q2⟩
    · show G.base.objs.size ≤ (cutH G.n0 s.heap).objs.size
      rw [hs]; exact ok.bsz
    · show (cutH G.n0 s.heap).FunFrames G.base G.outer
      have all : ∀ (l : List Env), (∀ b ∈ frs l, b < G.n0) → s.heap.FunFrames G.base l → (cutH G.n0 s.heap).FunFrames G.base l := by
        intro l
        induction l with
        | nil => intro _ _; trivial
        | cons env r ih =>
          intro hs' hf
          obtain ⟨q1, ⟨L, o, q2, q3, q4, q5⟩, q6⟩ := hf
          have hm : L ∈ frs (env :: r) := by
            unfold frs
            rw [List.filterMap_cons, q2]
            exact List.mem_cons_self
          refine ⟨q1, ⟨L, o, q2, q3, ?_, q5⟩, ih (fun b hb => hs' b ?_) q6⟩
          · rw [cutH_get, if_pos (hs' L hm)]; exact q4
          · unfold frs
            rw [List.filterMap_cons, q2]
            exact List.mem_cons_of_mem _ hb
      exact all G.outer ok.frl W.e0.funs
    · show cutP G.n0 H b = none
      rw [cutP_lt (ok.frl b hb)]
      exact W.e0.frf b hb
  refine ⟨okX, rfl, W.e0.bare, ⟨fun b o e n _ _ => (cutH_lt e).2, fun b o e n _ _ => ⟨o.slots, (cutH_lt e).2⟩, fun b o e n _ => ?_, fun b o e _ => ⟨o, (cutH_lt e).2⟩, fun b xs e => cutP_some e, fun b o u e => cutP_some e, fun b ps e => ⟨#[], ?_⟩⟩,
    ⟨m, hn, fun i x v e1 e2 e3 => ?_⟩, fun x c e => (hc x c e).elim, W.free, fun x c e => (hc x c e).elim, fun p hp => W.pins p (by simpa using hp), W.e0.hok, hl⟩
  · have hb := (cutH_lt e).1
    have n' : cutP G.n0 H b = none := n
    rw [cutP_lt hb] at n'
    exact n'
  · rw [cutP_some e]; simp
  · obtain ⟨u, r, q⟩ := hlk i x v e1 e2 e3
    exact ⟨u, r, .inl ⟨kd x e3, q⟩⟩
/-- what is left of the frame behind a run -/
theorem frf_of {G : GD} {pl : List (Addr × Obj)} {H Hw : Hp} {s sw : Shared} {σ : L2.St} (ok : G.Ok) (I : Inv (G.X sw Hw) pl σ H s) : FrF G σ s.heap := by
  obtain ⟨m, hn, hl⟩ := I.loc
  refine ⟨I.len, m, hn, fun i x v e1 e2 e3 => ?_⟩
  obtain ⟨u, r, q⟩ := hl i x v e1 e2 e3
  rcases q with ⟨_, q⟩ | ⟨z, _⟩
  · exact ⟨u, r, q⟩
  · exact (ok.look z).elim
/-- it depends on the frame's dict alone -/
theorem FrF.at {G : GD} {σ : L2.St} {h h' : Heap} (F : FrF G σ h) (e : ∀ o, h.get? G.n0 = some o → h'.get? G.n0 = some o) : FrF G σ h' := by
  obtain ⟨hl, m, ⟨o, es, ep, ho, r⟩, q⟩ := F
  exact ⟨hl, m, ⟨o, es, ep, e o ho, r⟩, q⟩
end Ru


/-! Rules of my own: a generator def of the form «statements; while test: yield e; statements», item by item -/
namespace Ru
open PySem PySem.Spec PyProof.Rows L2 GenW
/-- a run of the generator leaves as it was: what the consumer had at the making (Hc), its own list at Dl, whatever is no list -/
def Rl (Dl : Addr) (Hc Hw H1 : Hp) : Prop := (∀ b o, Hc b = some o → Hw b = some o → H1 b = some o) ∧ (∀ o, Hw Dl = some o → H1 Dl = some o) ∧ ∀ b o, (∀ xs, o ≠ .lst xs) → Hw b = some o → H1 b = some o
theorem Rl.ex {Dl : Addr} {Hc Hw H1 : Hp} (e : ∀ b o, Hw b = some o → H1 b = some o) : Rl Dl Hc Hw H1 := ⟨fun b o _ q => e b o q, fun o q => e Dl o q, fun b o _ q => e b o q⟩
/-- while it sleeps its consumer changes the list at Dl alone -/
def Sl (Dl : Addr) (H H' : Hp) : Prop := (∀ b o, b ≠ Dl → H b = some o → H' b = some o) ∧ ∃ xs, H' Dl = some (.lst xs)
/-- a run from its waking at sw, Hw: rest is still to come -/
def PostG (G : GD) (Dl : Addr) (Hc : Hp) : List (List V) → List (Addr × Obj) → Hp → Shared → End → Shared → Prop
  | [], pl, Hw, sw, e, s1 => e = .ret (.ok (.ret .none)) ∧ ∃ σ H1, Inv (G.X sw Hw) pl σ H1 s1 ∧ Rl Dl Hc Hw H1
  | x :: r, pl, Hw, sw, e, s1 => ∃ l k c p fs T σ H1, e = .susp (.ref T) false l k c p fs ∧ e.quiet = true ∧ Hw T = none ∧ H1 T = some (.tup x) ∧ Inv (G.X sw Hw) pl σ H1 s1 ∧ Rl Dl Hc Hw H1 ∧
      ∀ pl3 H3 s3, Sl Dl H1 H3 → Wake G pl3 H3 s3 → (∀ o, s1.heap.get? G.n0 = some o → s3.heap.get? G.n0 = some o) → SegE (model G.P G.w) G.A (PostG G Dl Hc r pl3 H3 s3) c (k (.send .none)) fs s3

theorem over_gen {A : Around} {body : List Stmt} {env : Env} {test : Expr} {lb : List Stmt} {kk : Result → Sem PySem.Fin} {p : Pos} :
    A.over (.whileLoop test lb [] env) [.ret kk none false [] (.func body env) p []] = A.deeper env := (over_loop rfl rfl).trans over_func

theorem execs_app_wrap {env : Env} (rest : List Stmt) {K : Flow → Sem PySem.Fin} {H : Value → Sem PySem.Fin} {gd : Bool → Bool} {lv : List Value → List Value} : ∀ pre : List Stmt,
    (execs (pre ++ rest) env).wrap K H gd lv = (execs pre env).wrap (fun f => match f with | .next => (execs rest env).wrap K H gd lv | f => K f) H gd lv
  | [] => rfl
  | st :: pre => by
    rw [List.cons_append, execs_cons_wrap, execs_cons_wrap]
    refine Sem.wrap_congr _ _ _ (fun f => ?_) fun _ => rfl
    cases f with
    | next => exact execs_app_wrap rest pre
    | brk => rfl
    | cont => rfl
    | ret v => rfl
section
variable {G : GD} {Dl : Addr} {Hc : Hp} {test e : Expr} {post body : List Stmt} {ypos ypos' : Pos} {tc : TT} {te : TE} {tp : TS} {W : Hp → List (List V) → L2.St → Hp → Prop}
theorem loopE (ok : G.Ok) (hT : ∀ sw Hw, PT (G.X sw Hw) test tc) (hE : ∀ sw Hw, PE (G.X sw Hw) e te) (hP : ∀ sw Hw, PSs (G.X sw Hw) post tp)
    (hW0 : ∀ Hw σ H, W Hw [] σ H → tc σ H fun b H1 => b = false ∧ Rl Dl Hc Hw H1)
    (hW1 : ∀ Hw x r σ H, W Hw (x :: r) σ H → tc σ H fun b H1 => b = true ∧ te σ H1 fun v H2 => ∃ T, v = .ref T ∧ Hw T = none ∧ H2 T = some (.tup x) ∧ Rl Dl Hc Hw H2 ∧
      ∀ H3, Sl Dl H2 H3 → tp { nx := fun σ' H' => W H3 r σ' H', rt := fun _ _ => False } σ H3)
    {kk : Result → Sem PySem.Fin} {p0 : Pos} (hk : ∀ (s'' : Shared) (Post' : End → Shared → Prop), Post' (.ret (.ok (.ret .none))) s'' → SegE (model G.P G.w) G.A Post' (.func body G.env) (kk (.ok .next)) [] s'') :
    ∀ (rest : List (List V)) (pl : List (Addr × Obj)) (Hw : Hp) (sw : Shared) (σ : L2.St) (H : Hp) (s : Shared), Inv (G.X sw Hw) pl σ H s → W Hw rest σ H →
      SegE (model G.P G.w) G.A (PostG G Dl Hc rest pl Hw sw) (.whileLoop test (.Expr (.Yield (some e) ypos) ypos' :: post) [] G.env)
        ((model G.P G.w).den (.whileLoop test (.Expr (.Yield (some e) ypos) ypos' :: post) [] G.env)) [.ret kk none false [] (.func body G.env) p0 []] s := by
  intro rest
  induction rest with
  | nil =>
    intro pl Hw sw σ H s I w
    refine sE_whileLoop ?_
    rw [over_gen]
    refine wpAny_mono ((hT sw Hw).run pl s σ H _ I (hW0 Hw σ H w)) (fun b s' hb => ?_) fun _ _ z => z
    obtain ⟨H1, I1, rfl, q⟩ := hb
    rw [if_neg Bool.false_ne_true]
    refine sE_leaf (.ok .next) (hk s' _ ?_)
    exact ⟨rfl, σ, H1, I1, q⟩
  | cons x r ih =>
    intro pl Hw sw σ H s I w
    refine sE_whileLoop ?_
    rw [over_gen]
    refine wpAny_mono ((hT sw Hw).run pl s σ H _ I (hW1 Hw x r σ H w)) (fun b s' hb => ?_) fun _ _ z => z
    obtain ⟨H1, I1, rfl, q⟩ := hb
    rw [if_pos rfl]
    intro K hK J
    refine sE_cons (sE_yieldExpr rfl rfl rfl ?_ ok.co I1.quiet)
    rw [over_gen]
    refine wpAny_mono ((hE sw Hw).run pl s' σ H1 _ I1 q) (fun v s2 hv => ?_) fun _ _ z => z.elim
    obtain ⟨xv, H2, I2, rv, T, rfl, hT0, hT1, hR, hn⟩ := hv
    obtain rfl : v = Value.ref T := rv
    intro l k p hkk
    refine ⟨l, k, _, p, _, T, σ, H2, rfl, rfl, hT0, hT1, I2, hR, fun pl3 H3 s3 hs W3 hL => hkk s3 _ ?_⟩
    have I3 : Inv (G.X s3 H3) pl3 σ H3 s3 := inv_wake ok W3 ((frf_of ok I2).at hL)
    refine sE_wrap ?_
    rw [over_gen]
    refine wpAny_mono ((hP s3 H3).run pl3 s3 σ H3 _ I3 (hn H3 hs)) (fun f s4 hf => ?_) fun _ _ z => z.elim
    cases f with
    | next =>
      obtain ⟨σ4, H4, I4, w4⟩ := hf
      show SegE _ _ _ _ (K .next) _ _
      rw [hK]
      exact sE_again rfl (ih pl3 H3 s3 σ4 H4 s4 I4 w4)
    | brk => obtain ⟨_, _, _, z⟩ := hf; exact z.elim
    | cont => obtain ⟨_, _, _, z⟩ := hf; exact z.elim
    | ret u => obtain ⟨_, _, _, _, _, z⟩ := hf; exact z.elim

/-- the whole body, from the first waking -/
theorem bodyE {pre : List Stmt} {tq : TS} {wpos : Pos} {items : List (List V)} {σ0 : L2.St} {H0 : Hp} {h0 : Heap} (ok : G.Ok) (hQ : ∀ sw Hw, PSs (G.X sw Hw) pre tq) (hT : ∀ sw Hw, PT (G.X sw Hw) test tc) (hE : ∀ sw Hw, PE (G.X sw Hw) e te) (hP : ∀ sw Hw, PSs (G.X sw Hw) post tp)
    (hW0 : ∀ Hw σ H, W Hw [] σ H → tc σ H fun b H1 => b = false ∧ Rl Dl Hc Hw H1)
    (hW1 : ∀ Hw x r σ H, W Hw (x :: r) σ H → tc σ H fun b H1 => b = true ∧ te σ H1 fun v H2 => ∃ T, v = .ref T ∧ Hw T = none ∧ H2 T = some (.tup x) ∧ Rl Dl Hc Hw H2 ∧
      ∀ H3, Sl Dl H2 H3 → tp { nx := fun σ' H' => W H3 r σ' H', rt := fun _ _ => False } σ H3)
    (hS : ∀ H3, Sl Dl H0 H3 → tq { nx := fun σ' H' => W H3 items σ' H', rt := fun _ _ => False } σ0 H3) (F0 : FrF G σ0 h0)
    {pl : List (Addr × Obj)} {H3 : Hp} {s3 : Shared} (hs : Sl Dl H0 H3) (W3 : Wake G pl H3 s3) (hL : ∀ o, h0.get? G.n0 = some o → s3.heap.get? G.n0 = some o) :
    SegE (model G.P G.w) G.A (PostG G Dl Hc items pl H3 s3) (.func (pre ++ [.While test (.Expr (.Yield (some e) ypos) ypos' :: post) [] wpos]) G.env)
      ((model G.P G.w).den (.func (pre ++ [.While test (.Expr (.Yield (some e) ypos) ypos' :: post) [] wpos]) G.env)) [] s3 := by
  refine sE_func (fun K hK J => ?_) rfl
  have I3 : Inv (G.X s3 H3) pl σ0 H3 s3 := inv_wake ok W3 (F0.at hL)
  rw [execs_app_wrap]
  refine sE_wrap ?_
  rw [over_func]
  refine wpAny_mono ((hQ s3 H3).run pl s3 σ0 H3 _ I3 (hS H3 hs)) (fun f s4 hf => ?_) fun _ _ z => z.elim
  cases f with
  | next =>
    obtain ⟨σ4, H4, I4, w4⟩ := hf
    refine sE_cons (sE_While fun kk hkk p => ?_)
    refine loopE ok hT hE hP hW0 hW1 (fun s'' Post' z => hkk s'' Post' ?_) items pl H3 s3 σ4 H4 s4 I4 w4
    exact sE_nil (hK s'' Post' z)
  | brk => obtain ⟨_, _, _, z⟩ := hf; exact z.elim
  | cont => obtain ⟨_, _, _, z⟩ := hf; exact z.elim
  | ret u => obtain ⟨_, _, _, _, _, z⟩ := hf; exact z.elim
end
end Ru


/-! Rules of my own: next of a generator; its consumer's state behind it -/
namespace Ru
open PySem PySem.Spec PyProof.Rows L2 GenW
/-- the generator in the state gs runs on -/
def GoesE (M : Model) (A : Around) (Post : End → Shared → Prop) (gs : GenState) (s : Shared) : Prop :=
  match gs with
  | .fresh c => SegE M A Post c (M.den c) [] s
  | .suspended k _ c _ fs _ => SegE M A Post c (k (.send .none)) fs s
  | _ => False
theorem resumeE {M : Model} {A : Around} {Post : End → Shared → Prop} {E : Value → Shared → Prop} {s : Shared} {g : Nat} {gs : GenState} {l : List Value} {α : Type} {k : GenResult → Sem α} {Q : α → Shared → Prop} (hg : s.gens[g]? = some gs)
    (hgo : GoesE M A Post gs (s.setGen g .running)) (hq : ∀ e s1, Post e s1 → e.quiet = true) (hk : ∀ e s1, Post e s1 → wpAny M A (k e.result) Q E (s1.setGen g e.genState)) :
    wpAny M A (.resume g (.send .none) l k) Q E s := by
  intro Γ p hΓ
  rw [Sem.wp_resume]
  cases gs with
  | running => exact hgo.elim
  | finished => exact hgo.elim
  | fresh c =>
    obtain ⟨e, s1, hr, he⟩ := hgo (Γ.wake c p) p rfl (hΓ.wake c p)
    exact ⟨_, _, by unfold Wakes; rw [hg]; exact ⟨e, s1, hr, hq e s1 he, rfl, rfl⟩, hk e s1 he Γ p hΓ⟩
  | suspended k0 l0 c0 p0 fs0 cl =>
    obtain ⟨e, s1, hr, he⟩ := hgo (Γ.wake c0 p) p0 rfl (hΓ.wake c0 p)
    exact ⟨_, _, by unfold Wakes; rw [hg]; exact ⟨e, s1, hr, hq e s1 he, rfl, rfl⟩, hk e s1 he Γ p hΓ⟩

/-- next(generator) -/
theorem nextE {P : Program} {w : World} {A : Around} {E : Value → Shared → Prop} {s : Shared} {a : Addr} {g : Nat} {gs : GenState} {Post : End → Shared → Prop} {Q : Option Value → Shared → Prop} (hh : A.handled = none) (hl : s.heap.NoLimit)
    (hroom : A.depth < recursionLimit) (hg : s.heap.IsGen a g) (hgs : s.gens[g]? = some gs) (hgo : GoesE (model P w) A.in1 Post gs (s.setGen g .running))
    (hpost : ∀ e s1, Post e s1 → (e = .ret (.ok (.ret .none)) ∧ ∀ h', (∀ b o, s1.heap.get? b = some o → h'.get? b = some o) → Q none { s1.setGen g .finished with heap := h' }) ∨
      (∃ v l k c p fs, e = .susp v false l k c p fs ∧ e.quiet = true ∧ Q (some v) (s1.setGen g e.genState))) :
    wpAny (model P w) A (pyNext (.ref a)) Q E s := by
  unfold pyNext
  refine wpAny_bind (wpAny_attempt (wpAny_callSpecial?_slot (name := Str.ofString "__next__") hg.typeIs slot_gen_next ?_))
  refine wpAny_call_entry slot_gen_next hg.typeIs entry_gen_next ?_ (args_gen_next _)
  show wpAny _ A.in1 (Builtin.Generator.genWake (.ref a) (.send .none)) _ _ s
  unfold Builtin.Generator.genWake
  refine wpAny_bind (wpAny_holding (wpAny_genNumber hg (wpAny_bind (wpAny_genState hgs ?_))))
  have hq : ∀ e s1, Post e s1 → e.quiet = true := fun e s1 z => by
    rcases hpost e s1 z with ⟨q, _⟩ | ⟨_, _, _, _, _, _, _, q, _⟩
    · rw [q]; rfl
    · exact q
  cases gs with
  | running => exact hgo.elim
  | finished => exact hgo.elim
  | _ =>
    refine wpAny_bind (wpAny_roomToWake hl hroom ?_)
    show wpAny _ A.in1 (.resume g (.send .none) [] _) _ _ s
    refine resumeE hgs hgo hq fun e s1 he => ?_
    rcases hpost e s1 he with ⟨rfl, hp⟩ | ⟨v, l, k, c, p, fs, rfl, _, hp⟩
    · show wpAny _ A.in1 (newExc (.type "StopIteration") [] >>= _) _ _ _
      refine wpAny_bind ?_
      simp only [newExc, newTuple]
      refine wpAny_bind (wpAny_newObj_type ?_ (by size_fits))
      have em : firstArgMember (.type "StopIteration") [] = (pure Value.none : Sem Value) := by first | rfl | (simp only [firstArgMember]; rfl)
      refine wpAny_bind (wpAny_of_eq em ?_)
      refine wpAny_newObj_type ?_ (by size_fits)
      simp only [raiseNew]
      refine wpAny_bind (wpAny_bind (wpAny_handled ?_))
      first | rw [show A.in1.handled = none from hh] | rw [hh]
      refine wpAny_throw ?_
      refine wpAny_bind (wpAny_isInstance (T := "StopIteration") (b := true) ⟨_, Heap.get?_push_size _ rfl, rfl⟩ isSubtype_stop ?_)
      exact wpAny_pure (hp _ fun b o hb => Heap.get?_push_of_some _ (Heap.get?_push_of_some _ hb))
    · exact wpAny_pure ⟨v, rfl, wpAny_pure hp⟩

/-- the generator in the state gs will hand out rest, told of the state H1, h1 behind its last run -/
def RdyG (G : GD) (Dl : Addr) (Hc : Hp) (gs : GenState) (rest : List (List V)) (H1 : Hp) (h1 : Heap) : Prop :=
  ∀ pl H3 s3, Sl Dl H1 H3 → Wake G pl H3 s3 → (∀ o, h1.get? G.n0 = some o → s3.heap.get? G.n0 = some o) → GoesE (model G.P G.w) G.A (PostG G Dl Hc rest pl H3 s3) gs s3

/-- how a consumer's context lies to a generator that it has made -/
structure Cons (G : GD) (X : Cx) (Dl : Addr) (pl : List (Addr × Obj)) (pc : List (Addr × Obj)) : Prop where
  out : G.outer = X.stack
  P : G.P = X.prog
  w : G.w = X.w
  cells : ∀ x c, X.env.cells.lookup x = some c → c < G.n0
  loc : X.env.locals < G.n0 ∨ ∃ o, (X.env.locals, o) ∈ pl
  fsl : ∀ b ∈ X.fs, b < G.n0
  pin : ∀ p ∈ X.pn ++ pc, p ∈ pl
  old : ∀ b o, X.s_0.heap.get? b = some o → b ∉ X.ex → b < G.n0 ∨ (∃ o', (b, o') ∈ pl) ∨ (b = Dl ∧ ∃ u, X.H_0 b = some u)

/-- what is held stands in the heap -/
theorem objT {P : Program} {w : World} {H : Hp} {h : Heap} {a : Addr} {o : HO} (x : ObjOk P w H h a o) : ∃ u, h.get? a = some u := by
  cases o with
  | lst _ | rng _ _ => first | (obtain ⟨_, _, _, _, q⟩ := x; exact ⟨_, q⟩) | (obtain ⟨_, _, _, q⟩ := x; exact ⟨_, q⟩)
  | tup _ => obtain ⟨_, _, _, o, q, _⟩ := x; exact ⟨_, q⟩
  | dK _ | dT _ => obtain ⟨_, _, _, _, _, _, _, q, _⟩ := x; exact ⟨_, q⟩
  | set _ _ => obtain ⟨_, _, _, _, q, _⟩ := x; exact ⟨_, q⟩
  | ins _ _ _ => obtain ⟨_, _, _, q, _⟩ := x; exact ⟨_, q⟩
  | own _ => exact x
  | xd _ => obtain ⟨_, ⟨_, _, _, q, _⟩, _⟩ := x; exact ⟨_, q⟩
  | frz _ _ => exact ⟨_, x.1⟩
  | tbl _ | met _ _ => exact ⟨_, x⟩
  | ext _ => exact x.2.1

theorem Inv.woken {G : GD} {X : Cx} {pl pc : List (Addr × Obj)} {σ σg : L2.St} {H H1 Hc : Hp} {s sw s1 : Shared} {Dl : Addr} (C : Cons G X Dl pl pc) (I : Inv X pc σ H s) (hs : sw.heap = s.heap) (ho : sw.os = s.os) (J : Inv (G.X sw H) pl σg H1 s1) (R : Rl Dl Hc H H1)
    (hp0 : ∀ p ∈ pl, s.heap.get? p.1 = some p.2) (hD : ∃ u, H1 Dl = some u) : Inv X pc σ H1 s1 := by
  have up : ∀ b o, b < G.n0 → s.heap.get? b = some o → (cutH G.n0 sw.heap).get? b = some o := fun b o hb e => by
    rw [cutH_get, if_pos hb, hs]; exact e
  have dn : ∀ b, b < G.n0 → H b = none → cutP G.n0 H b = none := fun b hb n => by rw [cutP_lt hb]; exact n
  have pj : ∀ p ∈ pl, s1.heap.get? p.1 = some p.2 ∧ H1 p.1 = none := fun p hp => by
    obtain ⟨q1, q2, _⟩ := J.pin p (List.mem_append_right _ hp)
    exact ⟨q1, q2⟩
  -- untracked, below n0: kept up to slots; kept, if no frame's
  have any : ∀ b o, b < G.n0 → s.heap.get? b = some o → H b = none → ∃ sl, s1.heap.get? b = some { o with slots := sl } := fun b o hb e n => J.base.any (up b o hb e) (dn b hb n) (fun z => nomatch z)
  have non : ∀ b o, b < G.n0 → s.heap.get? b = some o → H b = none → H1 b = none := fun b o hb e n => J.base.free b o (up b o hb e) (dn b hb n) (fun z => nomatch z)
  have keep : ∀ b o, b < G.n0 → s.heap.get? b = some o → H b = none → b ∉ frs X.stack → s1.heap.get? b = some o := fun b o hb e n hf =>
    J.base.keep b o (up b o hb e) (dn b hb n) (by show b ∉ frs G.outer; rw [C.out]; exact hf) (fun z => nomatch z)
  have nst : ∀ b o, X.s_0.heap.get? b = some o → b ∉ X.fs → b ∉ frs X.stack := fun b o e hb hm => by
    rcases List.mem_cons.mp (I.stkSub b hm) with z | z
    · have h1 := Heap.lt_size e
      have h2 := I.ok.above
      rw [z] at h1
      exact absurd (Nat.lt_of_lt_of_le h1 h2) (Nat.lt_irrefl _)
    · exact hb z
  have ns : ∀ m, s.heap.Ns X.env.locals m → s1.heap.Ns X.env.locals m := fun m hm => by
    obtain ⟨o, es, ep, hoo, r⟩ := hm
    rcases C.loc with hb | ⟨o', hp⟩
    · obtain ⟨sl, q⟩ := any _ o hb hoo I.free
      exact ⟨_, es, ep, q, r⟩
    · have e0 := hp0 _ hp
      rw [hoo] at e0
      have e1 : o = o' := Option.some.inj e0
      subst e1
      exact ⟨o, es, ep, (pj _ hp).1, r⟩
  have cellK : ∀ x c, X.env.cells.lookup x = some c → ∀ v, s.heap.IsCell c v → s1.heap.IsCell c v := fun x c e v ⟨o, hoo, hd⟩ => by
    obtain ⟨sl, q⟩ := any c o (C.cells x c e) hoo (I.freeC x c e)
    exact ⟨_, q, hd⟩
  refine ⟨I.ok, (J.os.trans (show sw.os = X.s_0.os from ho.trans I.os)), J.bare, ⟨fun b o e n hb hx => ?_, fun b o e n hb hx => ?_, fun b o e n hx => ?_, fun b o e hx => ?_, fun b xs e => ?_, fun b o u e => ?_, fun b ps e => ?_⟩, ?_, fun x c e => ?_, ?_, fun x c e => ?_, fun p hp => ?_, ?_, I.len⟩
  · have e1 := I.base.keep b o e n hb hx
    have n1 := I.base.free b o e n hx
    rcases C.old b o e hx with z | ⟨o', z⟩ | ⟨zd, u, z⟩
    · exact keep b o z e1 n1 (nst b o e hb)
    · have e2 := hp0 _ z
      rw [e1] at e2
      rw [(pj _ z).1, e2]
    · rw [n] at z; cases z
  · obtain ⟨sl, e1⟩ := I.base.slot b o e n hb hx
    have n1 := I.base.free b o e n hx
    obtain ⟨sl2, e2⟩ := any b _ (C.fsl b hb) e1 n1
    exact ⟨sl2, e2⟩
  · obtain ⟨o', e1⟩ := I.base.there b o e hx
    have n1 := I.base.free b o e n hx
    rcases C.old b o e hx with z | ⟨o', z⟩ | ⟨zd, u, z⟩
    · exact non b _ z e1 n1
    · exact (pj _ z).2
    · rw [n] at z; cases z
  · obtain ⟨o', e1⟩ := I.base.there b o e hx
    rcases C.old b o e hx with z | ⟨o2, z⟩ | ⟨zd, u, z⟩
    · exact J.base.there b _ (up b _ z e1) (fun z => nomatch z)
    · exact ⟨_, (pj _ z).1⟩
    · obtain ⟨u', q⟩ := hD
      rw [zd]
      exact objT (J.hok Dl u' q)
  · exact R.2.2 b _ (fun xs z => nomatch z) (I.base.tups b xs e)
  · exact R.2.2 b _ (fun xs z => nomatch z) (I.base.frzs b o u e)
  · obtain ⟨more, q⟩ := I.base.tbls b ps e
    exact ⟨more, R.2.2 b _ (fun xs z => nomatch z) q⟩
  · obtain ⟨m, hn, hl⟩ := I.loc
    refine ⟨m, ns m hn, fun i x v e1 e2 e3 => ?_⟩
    obtain ⟨u, r, q⟩ := hl i x v e1 e2 e3
    refine ⟨u, r, ?_⟩
    rcases q with q | ⟨k, c, e, z⟩
    · exact .inl q
    · exact .inr ⟨k, c, e, cellK x c e _ z⟩
  · obtain ⟨v, z⟩ := I.cell x c e
    exact ⟨v, cellK x c e v z⟩
  · obtain ⟨m, ⟨o, _, _, hoo, _⟩, _⟩ := I.loc
    rcases C.loc with hb | ⟨o', hp⟩
    · exact non _ o hb hoo I.free
    · exact (pj _ hp).2
  · obtain ⟨v, o, hoo, hd⟩ := I.cell x c e
    exact non c o (C.cells x c e) hoo (I.freeC x c e)
  · obtain ⟨_, _, q3, q4, q5⟩ := I.pin p hp
    obtain ⟨q1, q2⟩ := pj p (C.pin p hp)
    exact ⟨q1, q2, q3, q4, q5⟩
  · have h1 := J.hok
    rw [← C.P, ← C.w]
    exact h1
end Ru


/-! Rules of my own: evaluation that leaves the generators as they are -/
namespace Ru
open PySem PySem.Spec PyProof.Rows L2 GenW
section
variable {X : Cx}
structure PEg (X : Cx) (e : Expr) (t : TE) : Prop where
  run : ∀ (pins : List (Addr × Obj)) (s : Shared) (σ : L2.St) (H : Hp) (Q : VK), Inv X pins σ H s → t σ H Q → wpAny (model X.prog X.w) X.A (eval e X.env) (fun u s' => EP X pins σ Q u s' ∧ s'.gens = s.gens) X.xe s
structure PAg (X : Cx) (es : List Expr) (t : TA) : Prop where
  run : ∀ (pos : Pos) (pins : List (Addr × Obj)) (s : Shared) (σ : L2.St) (H : Hp) (Q : List V → Hp → Prop), Inv X pins σ H s → t σ H Q → wpAny (model X.prog X.w) X.A (spliced (backTo pos (starEach es X.env))) (fun us s' => AP X pins σ Q us s' ∧ s'.gens = s.gens) X.xe s
structure PGg (X : Cx) (tg : Expr) (t : TG) : Prop where
  run : ∀ (pins : List (Addr × Obj)) (s : Shared) (σ : L2.St) (H : Hp) (v : V) (u : Value) (Q : L2.St → Hp → Prop), Inv X pins σ H s → RelV v u → t v σ H Q →
    wpAny (model X.prog X.w) X.A (assign tg X.env u) (fun _ s' => (∃ σ' H', Inv X pins σ' H' s' ∧ Q σ' H') ∧ s'.gens = s.gens) X.xe s
structure PGsg (X : Cx) (ts : List Expr) (t : TGs) : Prop where
  run : ∀ (pins : List (Addr × Obj)) (s : Shared) (σ : L2.St) (H : Hp) (vs : List V) (us : List Value) (Q : L2.St → Hp → Prop), Inv X pins σ H s → Vals vs us → t vs σ H Q →
    wpAny (model X.prog X.w) X.A (assignInOrder ((assignEach ts X.env).map (·.2)) us) (fun _ s' => (∃ σ' H', Inv X pins σ' H' s' ∧ Q σ' H') ∧ s'.gens = s.gens) X.xe s
structure PSg (X : Cx) (st : Stmt) (t : TS) : Prop where
  run : ∀ (pins : List (Addr × Obj)) (s : Shared) (σ : L2.St) (H : Hp) (D : Ends), Inv X pins σ H s → t D σ H → wpAny (model X.prog X.w) X.A (exec st X.env) (fun f s' => SP X pins D f s' ∧ s'.gens = s.gens) X.xe s

theorem peg_var {i : Nat} {x : Str} {pos : Pos} (hN : X.N[i]? = some x) (hv : Vis X.env.scope x) (hd : (x == ("__debug__" : Str)) = false := by decide) (hcd : (x == ("__classdict__" : Str)) = false := by decide) : PEg X (.Name x pos) (tVar i) := by
  constructor
  intro pins s σ H Q I ⟨v, e, h⟩
  obtain ⟨m, hn, hl⟩ := I.loc
  obtain ⟨u, r, l⟩ := hl i x v hN e hv
  have done : EP X pins σ Q u s ∧ s.gens = s.gens := ⟨⟨v, H, I, r, h⟩, rfl⟩
  rcases l with ⟨hk, hm⟩ | ⟨hk | hk, c, hc, hcell⟩
  · exact wpAny_Name (wpAny_loadName_local I.ok.kind hk hn hm done) hd
  · exact wpAny_Name (wpAny_loadName_cell I.ok.kind hk hc hcell done) hd
  · exact wpAny_Name (wpAny_loadName_free I.ok.kind hk hc hcell done hcd) hd
/-- a + b of ints -/
theorem peg_add {a b : Expr} {ta tb : TE} {pos : Pos} (ha : PEg X a ta) (hb : PEg X b tb) : PEg X (.BinOp a .Add b pos) (tOp (rI0 fun i j => .int (i + j)) ta tb) := by
  constructor
  intro pins s σ H Q I h
  refine wpAny_BinOp (thn (ha.run pins s σ H _ I h) fun v s1 ⟨⟨x, H1, I1, r1, q1⟩, g1⟩ => thn (hb.run pins s1 σ H1 _ I1 q1) fun u s2 ⟨⟨y, H2, I2, r2, q2⟩, g2⟩ => ?_)
  obtain ⟨i, j, rfl, rfl, q⟩ := q2
  obtain ⟨t, rfl⟩ := r1
  obtain ⟨t', rfl⟩ := r2
  exact PyProof.Rows.add_int ⟨⟨.int (i + j), H2, I2.tok _, ⟨_, rfl⟩, q⟩, g2.trans g1⟩
theorem pag_nil : PAg X [] tNil := ⟨fun pos pins s σ H Q I h => Calls.spliced_nil ⟨⟨[], H, I, .nil, h⟩, rfl⟩⟩
theorem pag_cons {e : Expr} {es : List Expr} {te : TE} {t : TA} (ha : PEg X e te) (hr : PAg X es t) (hs : starEach (e :: es) X.env = (false, eval e X.env) :: starEach es X.env := by rfl) : PAg X (e :: es) (tCons te t) := by
  constructor
  intro pos pins s σ H Q I h
  rw [hs]
  show wpAny _ _ (spliced ((false, eval e X.env) :: backTo pos (starEach es X.env))) _ _ s
  refine Calls.spliced_cons (thn (ha.run pins s σ H _ I h) fun u s1 ⟨⟨x, H1, I1, r1, q1⟩, g1⟩ => ?_)
  exact thn (hr.run pos pins s1 σ H1 _ I1 q1) fun us s2 ⟨⟨xs, H2, I2, r2, q2⟩, g2⟩ => ⟨⟨x :: xs, H2, I2, .cons r1 r2, q2⟩, g2.trans g1⟩
theorem peg_tup {es : List Expr} {t : TA} {x1} {pos : Pos} (h : PAg X es t) : PEg X (.Tuple es x1 pos) (tTup t) := by
  constructor
  intro pins s σ H Q I hq
  refine wpAny_Tuple_spliced (thn (h.run pos pins s σ H _ I hq) fun us s1 ⟨⟨xs, H1, I1, r, z, q⟩, g1⟩ => ⟨by rw [← r.length]; exact z, ?_⟩)
  have new : ObjOk X.prog X.w (upd H1 s1.heap.objs.size (.tup xs)) (s1.heap.push { cls := .type "tuple", data := .seq us.toArray }) s1.heap.objs.size (.tup xs) := ⟨z, us, r, ⟨_, Heap.get?_push_size _ rfl, rfl, _, rfl⟩⟩
  exact ⟨⟨.ref s1.heap.objs.size, _, I1.laid (t' := s1.toks) (fun _ _ e => Heap.get?_push_of_some _ e) (Nat.le_refl _) new, rfl, q _ (I1.hok.fresh (Nat.le_refl _))⟩, g1⟩

/-- the state behind a store in the frame's dict -/
theorem Inv.slotted {pins : List (Addr × Obj)} {σ : L2.St} {H : Hp} {s : Shared} {i : Nat} {x : Str} {v : V} {u : Value} {h' : Heap} {t' : Nat} {m : Str → Option Value} (I : Inv X pins σ H s) (hN : X.N.Nodup) (hi : X.N[i]? = some x) (hk : X.env.kindOf x = some .local) (r : RelV v u)
    (hl : ∀ (i : Nat) (x : Str) (v : V), X.N[i]? = some x → σ[i]? = some (some v) → Vis X.env.scope x → ∃ u, RelV v u ∧ Look X.env s.heap m x u) (hn : s.heap.Ns X.env.locals m)
    (hn' : h'.Ns X.env.locals (fun y => if y = x then some u else m y)) (hs : Heap.SameBut X.env.locals s.heap h') : Inv X pins (σ.set i (some v)) H { s with heap := h', toks := t' } := by
  have lt : i < σ.length := by rw [I.len]; exact (List.getElem?_eq_some_iff.mp hi).1
  obtain ⟨oL, _, _, hoL, _⟩ := id hn
  have old : ∀ b o, X.s_0.heap.get? b = some o → b ≠ X.env.locals := fun b o e z => by
    have q1 := Heap.lt_size e
    have q2 := I.ok.above
    rw [z] at q1
    exact absurd (Nat.lt_of_lt_of_le q1 q2) (Nat.lt_irrefl _)
  have same : ∀ b o, b ≠ X.env.locals → s.heap.get? b = some o → h'.get? b = some o := fun b o hb e => by rw [hs.2 b hb, e]
  refine ⟨I.ok, I.os, I.bare, ⟨fun b o e n hb hx => same b o (old b o e) (I.base.keep b o e n hb hx), fun b o e n hb hx => ?_, I.base.free, fun b o e hx => ?_, I.base.tups, I.base.frzs, I.base.tbls⟩, ⟨_, hn', fun j y w e1 e2 e3 => ?_⟩, fun y c e => ?_, I.free, I.freeC, fun p hp => ?_, fun b ob e => ?_, by rw [List.length_set]; exact I.len⟩
  · obtain ⟨sl, q⟩ := I.base.slot b o e n hb hx
    exact ⟨sl, same b _ (old b o e) q⟩
  · obtain ⟨o', q⟩ := I.base.there b o e hx
    exact ⟨o', same b _ (old b o e) q⟩
  · by_cases hj : i = j
    · subst hj
      cases hi.symm.trans e1
      rw [List.getElem?_set_self lt] at e2
      cases e2
      exact ⟨u, r, .inl ⟨hk, if_pos rfl⟩⟩
    · rw [List.getElem?_set_ne hj] at e2
      obtain ⟨w', r', q⟩ := hl j y w e1 e2 e3
      refine ⟨w', r', q.imp (fun ⟨k, z⟩ => ⟨k, ?_⟩) fun ⟨k, c, e, z⟩ => ⟨k, c, e, z.sameBut hs (I.cne y c e)⟩⟩
      have ny : y ≠ x := fun z => hj (nodup_ix hN hi (by rw [← z]; exact e1))
      exact (if_neg ny).trans z
  · obtain ⟨w, z⟩ := I.cell y c e
    exact ⟨w, z.sameBut hs (I.cne y c e)⟩
  · obtain ⟨q1, q2, q3, q4, q5⟩ := I.pin p hp
    exact ⟨same p.1 p.2 q3 q1, q2, q3, q4, q5⟩
  · refine (I.hok b ob e).stay (fun c w hc q => same c w (fun z => ?_) q) (fun _ q => q) fun _ _ q => q
    have nf := I.free
    rw [← z] at nf
    rcases hc with hc | hc
    · rw [hc, e] at nf; cases nf
    · rw [hc] at nf; cases nf
theorem pgg_name {i : Nat} {x : Str} {pos : Pos} (hN : X.N.Nodup) (hi : X.N[i]? = some x) (hk : X.env.scope.names.lookup x = some .local) : PGg X (.Name x pos) (gName i) := by
  constructor
  intro pins s σ H v u Q I r h
  obtain ⟨m, hn, hl⟩ := id I.loc
  have hcls : (X.env.scope.kind == .class || (X.env.scope.kind == .module && X.env.locals != X.env.globals)) = false := by rw [I.ok.kind]; rfl
  refine wpAny_assign_Name (wpAny_storeName_local hk hn (fun h' hn' hs => ?_) hcls)
  exact ⟨⟨_, H, Inv.slotted I hN hi hk r hl hn hn' hs, h⟩, rfl⟩
theorem pgsg_nil : PGsg X [] gNil := by
  constructor
  intro pins s σ H vs us Q I r ⟨e, h⟩
  subst e
  cases r
  exact assignInOrder_nil ⟨⟨σ, H, I, h⟩, rfl⟩
theorem pgsg_cons {e : Expr} {es : List Expr} {t : TG} {u : TGs} (h1 : PGg X e t) (h2 : PGsg X es u)
    (hs : (assignEach (e :: es) X.env).map (·.2) = assign e X.env :: (assignEach es X.env).map (·.2) := by rfl) : PGsg X (e :: es) (gCons t u) := by
  constructor
  intro pins s σ H vs us Q I r ⟨v, vr, e1, h⟩
  subst e1
  cases r with
  | cons r rr =>
    rw [hs]
    refine assignInOrder_cons (thn (h1.run pins s σ H _ _ _ I r h) fun _ s1 ⟨⟨σ1, H1, I1, q1⟩, g1⟩ => ?_)
    exact thn (h2.run pins s1 σ1 H1 _ _ Q I1 rr q1) fun _ s2 ⟨z, g2⟩ => ⟨z, g2.trans g1⟩
theorem pgg_tup {es : List Expr} {k : Nat} {t : TGs} {n : Nat} {pos : Pos} (hc : X.calm = true) (h : PGsg X es t)
    (hn : (assignEach es X.env).length = n := by rfl) (hst : (assignEach es X.env).findIdx? (·.1) = none := by rfl) : PGg X (.Tuple es k pos) (gTup X.K n t) := by
  constructor
  intro pins s σ H v u Q I r ⟨a, xs, e1, hq, hl, hw⟩
  subst e1
  cases r
  obtain ⟨its, rv, ht, hz⟩ := I.tuple hq
  refine assign_Tuple_tuple (I.ok.hd hc) ht (by simp [hn, ← hl, rv.length]) hst fun h' hx => ?_
  have I1 : Inv X pins σ H { s with heap := h' } := I.kept (t' := s.toks) fun b o e => hx b o (Nat.ne_of_lt (Heap.lt_size e)) e
  exact h.run pins _ σ H xs _ Q I1 (by simpa using rv) hw
/-- l.append(e) -/
theorem peg_append {o e : Expr} {apos cpos : Pos} {to te : TE} (ho : PEg X o to) (ha : PEg X e te)
    (hbase : attributeBase o "append" X.env (eval o X.env) = eval o X.env := by rfl)
    (hfew : ((backTo cpos (starEach [e] X.env)).all (fun x => !x.1) && (backToKw cpos (keywordEach [] X.env)).all (fun x => x.1.isSome)
      && decide ([e].length + ([] : List Keyword).length + (if ([] : List Keyword).isEmpty then 0 else 1) < 30)) = true := by rfl)
    (hline : (apos.endLine == cpos.line) = true := by rfl) (hs : starEach [e] X.env = (false, eval e X.env) :: starEach [] X.env := by rfl) :
    PEg X (.Call (.Attribute o "append" apos) [e] [] cpos) (tBM X.K "list" rAppend to (tCons te tNil)) := by
  constructor
  intro pins s σ H Q I h
  refine wpAny_Call_method_late hbase hfew hline rfl (thn (ho.run pins s σ H _ I h) fun v s1 ⟨⟨x, H1, I1, r1, ty, q1⟩, g1⟩ => ?_)
  obtain ⟨h1, h2⟩ := tyV_is I1 r1 ty
  refine ⟨"list", "list.append", F.plainAttrs_list, F.slot_list_append, rfl, h1, h2, ?_⟩
  have hA := (pag_cons ha pag_nil hs).run cpos pins s1 σ H1 _ I1 q1
  rw [hs] at hA ⊢
  refine Calls.callWith_builtin (by show (false || (backTo cpos (starEach [] X.env)).any (·.1)) = false; rfl) (Calls.evalArgs_plain ?_)
  refine thn hA fun us s2 ⟨⟨vs, H2, I2, r2, q2⟩, g2⟩ => ?_
  obtain ⟨l, xs, y, rfl, rfl, hH, hz, q⟩ := q2
  cases r1
  obtain ⟨u, rfl, ru⟩ := r2.one
  obtain ⟨z, its, n, r, hl, e⟩ := I2.lstM hH
  refine call_meets F.slot_list_append ⟨_, e, rfl⟩ F.entry_list_append (F.args_list_append_2 _ _) (PySem.list_append l its.toArray n u (by rw [List.size_toArray]; omega)) ⟨e, ?_⟩
  refine ⟨⟨.non, _, I2.lset (its' := its ++ [u]) hH e (by simp) (r.append (.cons ru .nil)) (by rw [List.length_append, List.length_singleton]; omega), rfl, q⟩, g2.trans g1⟩
theorem psg_expr {e : Expr} {te : TE} {pos : Pos} (he : PEg X e te) (hs : swapsWith e none pos.line X.env = pure false := by rfl) : PSg X (.Expr e pos) (tDrop te) := by
  constructor
  intro pins s σ H D I h
  exact wpAny_Expr_any (thn (he.run pins s σ H _ I h) fun v s1 ⟨⟨x, H1, I1, r1, q1⟩, g1⟩ => ⟨⟨σ, H1, I1, q1⟩, g1⟩) I.quiet hs
end
end Ru


/-! Rules of my own: a generator is made; one turn of its consumer -/
namespace Ru
open PySem PySem.Spec PyProof.Rows L2 GenW
/-- a generator def's data -/
structure GDef where
  N : List Str
  qual : Str
  scope : Scope
  f : Addr
  cd : Value
  body : List Stmt
/-- the frame of a call from X's code -/
@[reducible] def GDef.at (D : GDef) (X : Cx) (n : Nat) : GD where
  P := X.prog
  w := X.w
  K := X.K
  mg := X.mg
  base := X.base
  N := D.N
  qual := D.qual
  scope := D.scope
  f := D.f
  cd := D.cd
  n0 := n
  outer := X.stack
  A := X.A.in1
structure GObj (go : Obj) (g : Nat) : Prop where
  cls : go.cls = .type "generator"
  data : ∃ nm qn, go.data = .fields #[.int g 0, nm, qn]
  slots : go.slots = #[]
theorem GObj.gen {go : Obj} {g : Nat} (x : GObj go g) {h : Heap} {a : Addr} (e : h.get? a = some go) : h.IsGen a g := by
  obtain ⟨nm, qn, q⟩ := x.data
  exact ⟨go, nm, qn, e, x.cls, q, x.slots⟩
theorem GObj.nocell {go : Obj} {g : Nat} (x : GObj go g) : ∀ v, go.data ≠ .cell v := fun v z => by
  obtain ⟨nm, qn, q⟩ := x.data
  rw [q] at z; cases z
/-- behind the call -/
structure Born (X : Cx) (pins : List (Addr × Obj)) (σ : L2.St) (H : Hp) (D : GDef) (n : Nat) (vs : List V) (a : Addr) (g : Nat) (go od : Obj) (s' : Shared) : Prop where
  inv : Inv X pins σ H s'
  ok : (D.at X n).Ok
  frf : FrF (D.at X n) (start D.N vs) s'.heap
  hod : s'.heap.get? n = some od
  hgo : s'.heap.get? a = some go
  gobj : GObj go g
  gen : s'.gens[g]? = some (.fresh (.func D.body (D.at X n).env))
  lo : X.s_0.heap.objs.size ≤ n
  lt : n < a
  loc : X.env.locals < n
  cells : ∀ x c, X.env.cells.lookup x = some c → c < n
  fsl : ∀ b ∈ frs X.stack, b < n
  hpins : ∀ p ∈ X.pn ++ pins, p.1 < n
  old : ∀ b u, H b = some u → b < n

theorem bornE {X : Cx} {pins : List (Addr × Obj)} {σ : L2.St} {H : Hp} {s : Shared} {f : Addr} {name qual : Str} {params : Arguments} {body : List Stmt} {scope : Scope} {dV kV doc pm cdv ct oc : Value} {an od : Option Addr} {k : Nat}
    {osl : Array (Option Value)} {N ps : List Str} {vs : List V} {us : List Value} {args : Args} (lk : X.K.lookup f = some ⟨oc, od, .func (PySem.W.fnOf name qual params body scope dV kV doc pm an cdv ct), osl⟩) (hcd : PySem.W.codeIn X.K cdv qual = true) (S : GScope N ps scope)
    (nc : ∀ y ∈ scope.names, y.2 ≠ .cell ∧ y.2 ≠ .free) (hr : Room k X.A) (I : Inv X pins σ H s) (hb : BindsTo s (PySem.W.fnOf name qual params body scope dV kV doc pm an cdv ct) args (ps.zip us)) (r : Vals vs us) (hl : vs.length = ps.length) :
    codeAny (model X.prog X.w) X.A (.call (.ref f) args) (fun q s' => ∃ n a g go od, q = .ok (.ret (.ref a)) ∧ Born X pins σ H ⟨N, qual, scope, f, cdv, body⟩ n vs a g go od s') s := by
  have e0 := I.env0
  have hkind : ∀ y ∈ ps.zip us, scope.names.lookup y.1 = some .local ∨ (scope.names.lookup y.1 = some .cell ∧ ((cellsFrom (s.heap.objs.size + 1) scope.names []).lookup y.1).isSome = true) := fun ⟨m, v⟩ hy => by
    rcases S.par m (List.of_mem_zip hy).1 with q | q
    · exact .inl q
    · exact absurd rfl (nc _ (PySem.mem_of_lookup q)).1
  refine codeAny_call_generator hr.depth (I.kIn _ _ lk) rfl S.co S.gen rfl (PySem.W.codeRec_of I.kIn hcd) (hb _ _ _ _ ?_)
  refine wpAny_newFunctionEnv_cells S.kind hkind fun env he s1 x => ?_
  subst he
  have I1 : Inv (gcxOf X.prog X.w X.K X.mg X.base N qual scope f cdv X.A X.stack s H (fun _ _ _ => False) []) [] (start N vs) H s1 := inv_startG S hr.hd e0 hl r x
  have kp1 := x.toInCall.keep
  have lt1 : s.heap.objs.size < s1.heap.objs.size := x.toInCall.ns.lt
  obtain ⟨h1, tk, es1, hk1⟩ := x.done
  have os1 : s1.os = s.os := by rw [es1]
  have gen1 : s1.gens = s.gens := by rw [es1]
  have ok : (GDef.at ⟨N, qual, scope, f, cdv, body⟩ X s.heap.objs.size).Ok := by
    refine ⟨e0.mod, S.kind, S.co, nc, e0.bsz, fun b hb => ?_, hr.hd, e0.frames⟩
    obtain ⟨_, o, ho, _⟩ := e0.funs.mem hb
    exact Heap.lt_size ho
  refine ⟨I.nolimit.keeps kp1, ?_⟩
  obtain ⟨m, hn, hlk⟩ := I1.loc
  obtain ⟨oD, es, ep, hoD, _⟩ := id hn
  have frf1 : FrF (GDef.at ⟨N, qual, scope, f, cdv, body⟩ X s.heap.objs.size) (start N vs) s1.heap := by
    refine ⟨I1.len, m, hn, fun i y v e1 e2 e3 => ?_⟩
    obtain ⟨u, rv, q⟩ := hlk i y v e1 e2 e3
    rcases q with ⟨_, q⟩ | ⟨z, _⟩
    · exact ⟨u, rv, q⟩
    · exact (ok.look (x := y) z).elim
  refine ⟨s.heap.objs.size, s1.heap.objs.size, s1.gens.size, _, oD, rfl, ?_, ok, frf1.at fun o e => Heap.get?_push_of_some _ e, Heap.get?_push_of_some _ hoD, Heap.get?_push_size _ rfl, ⟨rfl, ⟨_, _, rfl⟩, rfl⟩, Array.getElem?_push_size .., I.sz, lt1, I.lt, fun y c e => ?_, fun b hb => ok.frl b hb, fun p hp => Heap.lt_size (I.pin p hp).1, fun b u e => (I.hok b u e).lt⟩
  · refine I.call' (ch := []) os1 (Un.kept fun b o e => Heap.get?_push_of_some _ (kp1 b o e)) (I.hok.kept fun b o e => Heap.get?_push_of_some _ (kp1 b o e)) (AllBare.push (by rw [gen1]; exact I.bare) rfl) fun b z => nomatch z
  · obtain ⟨v, z⟩ := I.cell y c e
    exact z.lt
/-- f(e, ..): the generator is made -/
structure PBn (X : Cx) (e : Expr) (D : GDef) (t : TA) : Prop where
  run : ∀ (pins : List (Addr × Obj)) (s : Shared) (σ : L2.St) (H : Hp) (R : List V → Hp → Prop), Inv X pins σ H s → t σ H R →
    wpAny (model X.prog X.w) X.A (eval e X.env) (fun u s' => ∃ vs H1 n a g go od, R vs H1 ∧ u = .ref a ∧ Born X pins σ H1 D n vs a g go od s') X.xe s
section
variable {X : Cx}
theorem pbn_call {k : Nat} {f : Addr} {x : Str} {p pos' : Pos} {e : Expr} {es : List Expr} {t : TA} {name qual : Str} {params : Arguments} {body : List Stmt} {scope : Scope} {dV kV doc pm cdv ct oc : Value} {an od : Option Addr} {osl : Array (Option Value)} {N ps : List Str}
    (lk : X.K.lookup f = some ⟨oc, od, .func (PySem.W.fnOf name qual params body scope dV kV doc pm an cdv ct), osl⟩) (hcd : PySem.W.codeIn X.K cdv qual = true) (S : GScope N ps scope) (nc : ∀ y ∈ scope.names, y.2 ≠ .cell ∧ y.2 ≠ .free)
    (hr : Room k X.A) (hg : Gl X x) (hm : X.mg x = some (.ref f)) (hk : PySem.W.keepIn X.K (.ref f) = true) (hb : Binds X.K (PySem.W.fnOf name qual params body scope dV kV doc pm an cdv ct) ps []) (hlen : ∀ σ H R, t σ H R → t σ H fun vs H1 => vs.length = ps.length ∧ R vs H1)
    (ha : PA X (e :: es) t) (hdb : (x == ("__debug__" : Str)) = false := by decide) (he : starEach (e :: es) X.env = (false, eval e X.env) :: starEach es X.env := by rfl) (hpl : (backTo pos' (starEach es X.env)).any (·.1) = false := by rfl) :
    PBn X (.Call (.Name x p) (e :: es) [] pos') ⟨N, qual, scope, f, cdv, body⟩ t := by
  constructor
  intro pins s σ H R I h
  refine wpAny_Call_Name_kw (ld_glob I hg hm ?_ hdb)
  refine PySem.W.callWith_K (h₀ := X.base) I.ok.mod.kin hk (thn (ha.run pos' pins s σ H _ I (hlen σ H R h)) fun us s1 ⟨vs, H1, I1, r, hl, q⟩ => ⟨I1.kIn, ?_⟩) he hpl
  have hb2 : BindsTo s1 (PySem.W.fnOf name qual params body scope dV kV doc pm an cdv ct) ⟨us, []⟩ (ps.zip us) := by
    have z := hb s1 us I1.kIn (by rw [List.append_nil, ← r.length]; exact hl)
    rw [List.append_nil] at z
    exact z
  refine wpAny_call (codeAny_mono (bornE lk hcd S nc hr I1 hb2 r hl) fun q' s' hq => ?_)
  obtain ⟨n, a, g, go, od, rfl, B⟩ := hq
  exact ⟨vs, H1, n, a, g, go, od, q, rfl, B⟩
end

/-- one turn of the consumer -/
theorem turnE {G : GD} {X : Cx} {pl pins : List (Addr × Obj)} {σ : L2.St} {H Hc Hy : Hp} {hy : Heap} {s : Shared} {a Dl : Addr} {g : Nat} {gs : GenState} {go : Obj} {rest : List (List V)} {Q : Option Value → Shared → Prop} {E : Value → Shared → Prop}
    (C : Cons G X Dl pl pins) (hA : G.A = X.A.in1) (hh : X.A.handled = none) (hroom : X.A.depth < recursionLimit) (I : Inv X pins σ H s) (W : Wake G pl H (s.setGen g .running)) (hgo : GObj go g) (ha : (a, go) ∈ pl)
    (hgs : s.gens[g]? = some gs) (R : RdyG G Dl Hc gs rest Hy hy) (hS : Sl Dl Hy H) (hk : ∀ o, hy.get? G.n0 = some o → s.heap.get? G.n0 = some o)
    (h0 : rest = [] → ∀ H1 s1, Inv X pins σ H1 s1 → Rl Dl Hc H H1 → Q none s1)
    (h1 : ∀ x r, rest = x :: r → ∀ T H1 s1 gs' oD, Inv X pins σ H1 s1 → Rl Dl Hc H H1 → H T = none → H1 T = some (.tup x) → H1 G.n0 = none → s1.heap.get? G.n0 = some oD → (∀ v, oD.data ≠ .cell v) → s1.gens[g]? = some gs' →
      RdyG G Dl Hc gs' r H1 s1.heap → (∀ p ∈ pl, s1.heap.get? p.1 = some p.2 ∧ H1 p.1 = none) → Q (some (.ref T)) s1) :
    wpAny (model X.prog X.w) X.A (pyNext (.ref a)) Q E s := by
  have hp0 : ∀ p ∈ pl, s.heap.get? p.1 = some p.2 := fun p hp => (W.pins p hp).1
  have hgn : s.heap.IsGen a g := hgo.gen (hp0 _ ha)
  have go1 := R pl H (s.setGen g .running) hS W hk
  rw [C.P, C.w, hA] at go1
  have lt : g < s.gens.size := by
    obtain ⟨z, _⟩ := Array.getElem?_eq_some_iff.mp hgs
    exact z
  -- the consumer behind the run
  have back : ∀ {σg : L2.St} {H1 : Hp} {s1 : Shared}, Inv (G.X (s.setGen g .running) H) pl σg H1 s1 → Rl Dl Hc H H1 → Inv X pins σ H1 s1 := fun {σg H1 s1} J r => Inv.woken (sw := s.setGen g .running) C I rfl rfl J r hp0 (let ⟨xs, e⟩ := hS.2; ⟨_, r.2.1 _ e⟩)
  have rege : ∀ {H1 : Hp} {s1 : Shared} {h' : Heap} {x : GenState}, Inv X pins σ H1 s1 → x.bare = true → (∀ b o, s1.heap.get? b = some o → h'.get? b = some o) → Inv X pins σ H1 { s1.setGen g x with heap := h' } := fun {H1 s1 h' x} J hx hkp =>
    J.call' (ch := []) rfl (Un.kept hkp) (J.hok.kept hkp) (allBare_setGen J.bare hx) fun b z => nomatch z
  refine wpAny_gsz (n := g + 1) lt (nextE hh I.nolimit hroom hgn hgs go1 fun e s1 hp => ?_)
  cases rest with
  | nil =>
    obtain ⟨rfl, σg, H1, J, r⟩ := hp
    exact .inl ⟨rfl, fun h' hkp _ => h0 rfl H1 _ (rege (back J r) rfl hkp) r⟩
  | cons x r =>
    obtain ⟨l, k, c, p, fs, T, σg, H1, rfl, hq, hT0, hT1, J, rl, nx⟩ := hp
    obtain ⟨m, ⟨oD, es, ep, hoD, hdD, _⟩, _⟩ := id J.loc
    refine .inr ⟨.ref T, l, k, c, p, fs, rfl, hq, ?_⟩
    have hb2 : (End.genState (End.susp (Value.ref T) false l k c p fs)).bare = true := End.bare_of_quiet hq
    intro hsz
    rw [setGen_size] at hsz
    refine h1 x r rfl T H1 _ _ oD (rege (h' := s1.heap) (back J rl) hb2 fun _ _ e => e) rl hT0 hT1 J.free hoD (fun v z => by rw [hdD] at z; cases z) (setGen_at hsz) (fun pl3 H3 s3 q1 q2 q3 => ?_) fun p hp => ?_
    · exact nx pl3 H3 s3 q1 q2 q3
    · obtain ⟨z1, z2, _⟩ := J.pin p (List.mem_append_right _ hp)
      exact ⟨z1, z2⟩
end Ru


/-! Rules of my own: for .. in a generator; name = [.. for .. in a generator] -/
namespace Ru
open PySem PySem.Spec PyProof.Rows L2 GenW
/-- what a generator def, called from X, hands out -/
def GPr (X : Cx) (D : GDef) (sp : List V → Hp → List (List V) → Prop) : Prop :=
  ∀ n vs H items h Dl, (D.at X n).Ok → (∀ o, H Dl = some o → ∃ xs, o = .lst xs) → sp vs H items → FrF (D.at X n) (start D.N vs) h → RdyG (D.at X n) Dl H (.fresh (.func D.body (D.at X n).env)) items H h
/-- the consumer between two turns -/
structure Held (G : GD) (X : Cx) (Dl : Addr) (Hc : Hp) (a : Addr) (g : Nat) (go : Obj) (rest : List (List V)) (pins : List (Addr × Obj)) (σ : L2.St) (H : Hp) (s : Shared) : Prop where
  inv : Inv X pins σ H s
  gens : ∃ gs Hy hy, s.gens[g]? = some gs ∧ RdyG G Dl Hc gs rest Hy hy ∧ Sl Dl Hy H ∧ ∀ o, hy.get? G.n0 = some o → s.heap.get? G.n0 = some o
  hgo : s.heap.get? a = some go
  fa : H a = none
  fn : H G.n0 = none
  od : ∃ oD, s.heap.get? G.n0 = some oD ∧ ∀ v, oD.data ≠ .cell v
/-- behind the body: what was pinned still stands -/
theorem Held.next {G : GD} {X : Cx} {Dl : Addr} {Hc H1 H' : Hp} {a : Addr} {g : Nat} {gs : GenState} {go oD : Obj} {r : List (List V)} {pins ps : List (Addr × Obj)} {σ' : L2.St} {s1 s' : Shared} (I : Inv X ps σ' H' s') (h0 : Inv X pins σ' H' s') (hg : s1.gens[g]? = some gs) (hge : s'.gens = s1.gens)
    (R : RdyG G Dl Hc gs r H1 s1.heap) (S : Sl Dl H1 H') (p1 : (G.n0, oD) ∈ ps) (p2 : (a, go) ∈ ps) (e1 : s1.heap.get? G.n0 = some oD) (e2 : ∀ v, oD.data ≠ .cell v) : Held G X Dl Hc a g go r pins σ' H' s' := by
  obtain ⟨q1, q2, _⟩ := I.pin _ (List.mem_append_right _ p1)
  obtain ⟨q3, q4, _⟩ := I.pin _ (List.mem_append_right _ p2)
  refine ⟨h0, ⟨gs, H1, s1.heap, by rw [hge]; exact hg, R, S, fun o e => ?_⟩, q3, q4, q2, oD, q1, e2⟩
  rw [e1] at e
  cases e
  exact q1
theorem Inv.env1 {X : Cx} {pins : List (Addr × Obj)} {σ : L2.St} {H : Hp} {s : Shared} (I : Inv X pins σ H s) (g : Nat) : Env0 X.prog X.w X.K X.mg X.base X.A.in1 X.stack (s.setGen g .running) H := by
  have e := I.env0
  exact ⟨e.frames, e.mod, e.bs, e.bsz, e.funs, e.frf, e.hok, allBare_setGen e.bare rfl⟩
section
variable {X : Cx} {D : GDef} {sp : List V → Hp → List (List V) → Prop}
def tForG (sp : List V → Hp → List (List V) → Prop) (ta : TA) (g : TG) (tb : TS) : TS := fun Dn σ H => ta σ H fun vs H1 => ∃ (items : List (List V)) (Dl : Addr) (Pv : Nat → L2.St → Hp → Prop), sp vs H1 items ∧ (∃ xs, H1 Dl = some (.lst xs)) ∧ Pv 0 σ H1 ∧
  (∀ i x σ H Hr T, items[i]? = some x → Pv i σ H → Rl Dl H1 H Hr → H T = none → Hr T = some (.tup x) → g (.ref T) σ Hr fun σ2 H2 => tb { nx := fun σ3 H3 => Pv (i + 1) σ3 H3 ∧ Sl Dl Hr H3, rt := fun _ _ => False } σ2 H2) ∧
  ∀ σ H Hr, Pv items.length σ H → Rl Dl H1 H Hr → Dn.nx σ Hr
theorem ps_forG {k : Nat} {tg iter : Expr} {st : Stmt} {ta : TA} {gt : TG} {tb : TS} {pos : Pos} (hp : PassesOwn (model X.prog X.w) X.A X.env X.xe) (hc : X.calm = true) (hr : Room k X.A) (hi : PBn X iter D ta) (hg : PGg X tg gt) (hb : PSg X st tb) (P : GPr X D sp)
    (hs : ∀ x, foldedSetIterable iter X.env x = pure x := by intro _; rfl) : PS X (.For tg iter [st] [] pos) (tForG sp ta gt tb) := by
  constructor
  intro pins s σ H Dn I h
  refine wpAny_For (thn (hi.run pins s σ H _ I h) fun u s1 h1 => ?_) hs
  obtain ⟨vs, H1, n, a, g, go, od, q, rfl, B⟩ := h1
  obtain ⟨items, Dl, Pv, hsp, hDl, p0, step, fin⟩ := q
  obtain ⟨gnm, gqn, gdat⟩ := B.gobj.data
  refine wpAny_pyIter_gen (B.gobj.gen B.hgo) ?_
  have hfs : ∀ b ∈ X.fs, b < n := fun b hb => by
    rcases I.ok.stk with z | ⟨z, _⟩
    · exact B.fsl b (by rw [z]; exact hb)
    · refine B.fsl b ?_
      rw [z]
      unfold frs
      rw [List.filterMap_cons]
      split
      · exact hb
      · exact List.mem_cons_of_mem _ hb
  have pok : ∀ {oD : Obj} {H' : Hp} {s' : Shared}, s'.heap.get? n = some oD → (∀ v, oD.data ≠ .cell v) → s'.heap.get? a = some go → H' a = none → H' n = none → ∀ p ∈ [(n, oD), (a, go)], s'.heap.get? p.1 = some p.2 ∧ H' p.1 = none ∧ p.1 ≠ X.env.locals ∧ p.1 ∉ X.fs ∧ ∀ v, p.2.data ≠ .cell v := fun {oD H' s'} e1 e2 e3 e4 e5 p hm => by
    have l1 := B.loc
    have l2 := B.lt
    rcases List.mem_cons.mp hm with z | z
    · subst z
      exact ⟨e1, e5, Nat.ne_of_gt l1, fun z => Nat.lt_irrefl _ (hfs _ z), e2⟩
    · cases List.mem_singleton.mp z
      exact ⟨e3, e4, Nat.ne_of_gt (Nat.lt_trans l1 l2), fun z => Nat.lt_irrefl _ (Nat.lt_trans l2 (hfs _ z)), B.gobj.nocell⟩
  -- the frame's object
  obtain ⟨m0, ⟨oD0, es0, ep0, hoD0, hdD0, _⟩, _⟩ := id B.frf.2
  refine codeAny_forLoop_any (fun m s' => ∃ i σ' H', m = items.length - i ∧ i ≤ items.length ∧ Held (D.at X n) X Dl H1 a g go (items.drop i) pins σ' H' s' ∧ Pv i σ' H') ?_ (items.length - 0)
    ⟨0, σ, H1, rfl, Nat.zero_le _, ⟨B.inv, ⟨_, H1, s1.heap, B.gen, P n vs H1 items s1.heap Dl B.ok (fun o e => by obtain ⟨xs, z⟩ := hDl; rw [z] at e; cases e; exact ⟨xs, rfl⟩) hsp B.frf, ⟨fun _ _ _ e => e, hDl⟩, fun _ e => e⟩, B.hgo, ?_, ?_, oD0, hoD0, fun v z => by rw [hdD0] at z; cases z⟩, p0⟩
  rotate_left
  · cases e : H1 a with
    | none => rfl
    | some u => exact absurd (Nat.lt_trans B.lt (B.old a u e)) (Nat.lt_irrefl _)
  · show H1 n = none
    cases e : H1 n with
    | none => rfl
    | some u => exact absurd (B.old n u e) (Nat.lt_irrefl _)
  rintro m s2 ⟨i, σ2, H2, rfl, hi2, Hd, pv⟩
  have I2 := Hd.inv
  obtain ⟨gs, Hy, hy, hgs, R, S, hk⟩ := Hd.gens
  refine wpAny_passesOwn hp (turnE (G := D.at X n) (pl := (X.pn ++ pins) ++ [(a, go)]) (Dl := Dl) (Hc := H1) ⟨rfl, rfl, rfl, B.cells, .inl B.loc, hfs, fun p hp => List.mem_append_left _ hp, fun b o e _ => .inl (Nat.lt_of_lt_of_le (Heap.lt_size e) B.lo)⟩ rfl hr.hd hr.depth I2
    ⟨Inv.env1 I2 g, Hd.fn, Nat.lt_trans B.lt (Heap.lt_size Hd.hgo), fun p hp => ?_⟩ B.gobj (List.mem_append_right _ (List.mem_singleton.mpr rfl)) hgs R S hk (fun e0 H3 s3 I3 r3 => ?_) fun x r e1 T H3 s3 gs' oD I3 r3 hT0 hT1 fn3 od3 nc3 hg3 R3 pl3 => ?_)
  · rcases List.mem_append.mp hp with z | z
    · obtain ⟨z1, z2, z3, z4, z5⟩ := I2.pin p z
      refine ⟨z1, z2, Nat.ne_of_lt (B.hpins p z), fun z6 => ?_, z5⟩
      rcases List.mem_cons.mp (I2.stkSub _ z6) with z7 | z7
      · exact z3 z7
      · exact z4 z7
    · cases List.mem_singleton.mp z
      exact ⟨Hd.hgo, Hd.fa, Nat.ne_of_gt B.lt, fun z6 => Nat.lt_irrefl _ (Nat.lt_trans B.lt (B.fsl _ z6)), B.gobj.nocell⟩
  · -- the end
    have ei : i = items.length := by
      have := List.drop_eq_nil_iff.mp e0
      omega
    subst ei
    exact wpAny_execs_nil ⟨σ2, H3, I3, fin σ2 H2 H3 pv r3⟩
  · -- an item
    have lti : i < items.length := by
      cases Nat.lt_or_ge i items.length with
      | inl z => exact z
      | inr z => rw [List.drop_eq_nil_of_le z] at e1; cases e1
    rw [List.drop_eq_getElem_cons lti] at e1
    obtain ⟨ex, er⟩ := List.cons.inj e1
    have gx : items[i]? = some x := by rw [List.getElem?_eq_getElem lti, ex]
    have ga3 : s3.heap.get? a = some go ∧ H3 a = none := pl3 (a, go) (List.mem_append_right _ (List.mem_singleton.mpr rfl))
    refine wpAny_passesOwn hp (letGo_of_cls (c := "generator") ga3.1 B.gobj.cls gdat (by decide) ?_)
    have I3' : Inv X (pins ++ [(n, oD), (a, go)]) σ2 H3 s3 := I3.pins_of fun p hp => by
      rcases List.mem_append.mp hp with z | z
      · exact I3.pin p (List.mem_append_right _ z)
      · exact pok od3 nc3 ga3.1 ga3.2 fn3 p z
    refine wpAny_passesOwn hp (thn (hg.run _ s3 σ2 H3 (.ref T) (.ref T) _ I3' rfl (step i x σ2 H2 H3 T gx pv r3 hT0 hT1)) fun _ s4 ⟨⟨σ4, H4, I4, q4⟩, g4⟩ => ?_)
    refine wpAny_passesOwn hp (wpAny_execs_cons (thn (hb.run _ s4 σ4 H4 _ I4 q4) fun f s5 ⟨q5, g5⟩ => ?_))
    cases f with
    | next =>
      obtain ⟨σ5, H5, I5, pv5, S5⟩ := q5
      refine wpAny_execs_nil ⟨items.length - (i + 1), by omega, i + 1, σ5, H5, rfl, lti, ?_, pv5⟩
      rw [er]
      exact Held.next I5 (I5.pins_of fun p hp => I5.pin p (List.mem_append_right _ (List.mem_append_left _ hp))) hg3 (g5.trans g4) R3 S5 (List.mem_append_right _ (List.mem_cons_self ..)) (List.mem_append_right _ (List.mem_cons_of_mem _ (List.mem_cons_self ..))) od3 nc3
    | brk => obtain ⟨_, _, _, z⟩ := q5; exact z.elim
    | cont => obtain ⟨_, _, _, z⟩ := q5; exact z.elim
    | ret v => obtain ⟨_, _, _, _, _, z⟩ := q5; exact z.elim
end
end Ru


/-! Rules of my own: name = [.. for .. in a generator] -/
namespace Ru
open PySem PySem.Spec PyProof.Rows L2 GenW
theorem cells_plain : ∀ {names : List (Str × NameKind)} {n : Nat} {acc : List (Str × Addr)}, (∀ y ∈ names, y.2 ≠ .cell) → cellsFrom n names acc = acc
  | [], _, _, _ => by unfold cellsFrom; rfl
  | (x, k) :: r, n, acc, h => by
    unfold cellsFrom
    have hk : ¬ ((k == NameKind.cell) = true) := fun z => h (x, k) List.mem_cons_self (by simpa using z)
    rw [if_neg hk]
    exact cells_plain fun y hy => h y (List.mem_cons_of_mem _ hy)
section
variable {X : Cx} {D : GDef} {sp : List V → Hp → List (List V) → Prop}
/-- an item appended, the generators as they were -/
theorem appG {pins : List (Addr × Obj)} {σ : L2.St} {H : Hp} {s : Shared} {E : Value → Shared → Prop} {L : Addr} {xs : List V} {y : V} {v : Value} {Q : Value → Shared → Prop} (I : Inv X pins σ H s) (hL : H L = some (.lst xs)) (hz : xs.length < sizeLine) (r : RelV y v)
    (h : ∀ s', Inv X pins σ (upd H L (.lst (xs ++ [y]))) s' → s'.gens = s.gens → Q .none s') : wpAny (model X.prog X.w) X.A (call (.builtin "list.append") [.ref L, v]) Q E s := by
  obtain ⟨z, its, n, rv, hl, e⟩ := I.lstM hL
  refine call_meets F.slot_list_append ⟨_, e, rfl⟩ F.entry_list_append (F.args_list_append_2 _ _) (PySem.list_append L its.toArray n v (by rw [List.size_toArray]; omega)) ⟨e, ?_⟩
  exact h _ (I.lset (its' := its ++ [v]) hL e (by simp) (rv.append (.cons r .nil)) (by rw [List.length_append, List.length_singleton]; omega)) rfl
def tLcG (sp : List V → Hp → List (List V) → Prop) (ta : TA) (g : TG) (te : TE) (vs : List Nat) : TE := fun σ H Q => ta σ H fun as H1 => ∃ items : List (List V), sp as H1 items ∧ ∀ L, H1 L = none → ∃ Pv : Nat → Hp → Prop, Pv 0 (upd H1 L (.lst [])) ∧
  (∀ i x H Hr T, items[i]? = some x → Pv i H → Rl L H1 H Hr → H T = none → Hr T = some (.tup x) → g (.ref T) (wipe σ vs) Hr fun σ2 H2 => wipe σ2 vs = wipe σ vs ∧ te σ2 H2 fun y H4 => ∃ acc, H4 L = some (.lst acc) ∧ acc.length < sizeLine ∧
    Pv (i + 1) (upd H4 L (.lst (acc ++ [y]))) ∧ Sl L Hr H4) ∧
  ∀ H Hr, Pv items.length H → Rl L H1 H Hr → Q (.ref L) Hr
theorem ps_setLcG {k i : Nat} {y : Str} {py : Pos} {elt tg iter : Expr} {scope : Scope} {own : List (Str × Nat)} {pos spos : Pos} {ta : TA} {g : TG} {te : TE} (hc : X.calm = true) (hr : Room k X.A) (hN : X.N.Nodup) (hy : X.N[i]? = some y) (hyl : X.env.scope.names.lookup y = some .local)
    (hsw : swapsWith (.ListComp elt [⟨tg, iter, [], 0⟩] scope pos) (some (.Name y py)) spos.line X.env = pure true) (hi : PBn X iter D ta) (P : GPr X D sp) (ok : BlkOk X.N X.env.scope scope own) (nc : ∀ y ∈ scope.names, y.2 ≠ .cell)
    (hg : ∀ (s : Shared) (H : Hp) (C : Addr) (cl : List (Str × Addr)) (fp : List Addr), PGg (X.blk s H scope (compEnvC scope cl C X.env) fp) tg g)
    (he : ∀ (s : Shared) (H : Hp) (C : Addr) (cl : List (Str × Addr)) (fp : List Addr), PEg (X.blk s H scope (compEnvC scope cl C X.env) fp) elt te) (hs : ∀ x, foldedSetIterable iter X.env x = pure x := by intro _; rfl) :
    PS X (.Assign [.Name y py] (.ListComp elt [⟨tg, iter, [], 0⟩] scope pos) spos) (tAsg (tLcG sp ta g te (own.map (·.2))) (gName i)) := by
  constructor
  intro pins s σ H Dn I h
  rw [exec_Assign_Name_used _ _ _ _ hsw]
  refine wpAny_bind (wpAny_standAt (wpAny_bind ?_))
  show wpAny _ X.A (do let _ ← comprehension (.ListComp elt [⟨tg, iter, [], 0⟩] scope pos) scope X.env (firstIterPos [⟨tg, iter, [], 0⟩] pos) (newList []) false (eval iter X.env) (some (assign (.Name y py) X.env))) _ _ s
  have h : tLcG sp ta g te (own.map (·.2)) σ H (fun x H1 => gName i x σ H1 Dn.nx) := h
  have hfree : ∀ y ∈ scope.names, y.2 = .free → ∃ c, X.env.cells.lookup y.1 = some c := fun y hy e => by
    rcases ok.free y hy e with k | k
    · exact I.ok.has _ (.inl k)
    · exact I.ok.has _ (.inr k)
  refine wpAny_bind (wpAny_mono (Q := fun _ s' => SP X pins Dn .next s') ?_ (fun _ s' hq => wpAny_pure (wpAny_pure hq)) fun _ _ z => z)
  refine wpAny_comprehension_free (use := some (assign (.Name y py) X.env)) rfl hs (closure_ok hfree) ok.kind (fun y hy e => by rw [ok.uniq y hy, e])
    (thn (hi.run pins s σ H _ I h) fun u s1 h1 => ?_)
  obtain ⟨vs, H1, n, a, gn, go, od, q, rfl, B⟩ := h1
  obtain ⟨items, hsp, q⟩ := q
  obtain ⟨gnm, gqn, gdat⟩ := B.gobj.data
  refine wpAny_pyIter_gen (B.gobj.gen B.hgo) ?_
  refine wpAny_newObj_type (newEnv_comp ?_) (by show 0 ≤ sizeLine; decide)
  generalize hL : s1.heap.objs.size = L
  have I1 := B.inv
  have hLn : H1 L = none := I1.hok.fresh (Nat.le_of_eq hL)
  obtain ⟨Pv, p0, step, fin⟩ := q L hLn
  have laL : a < L := by rw [← hL]; exact Heap.lt_size B.hgo
  have lnL : n < L := Nat.lt_trans B.lt laL
  obtain ⟨m0, ⟨oD0, es0, ep0, hoD0, hdD0, _⟩, _⟩ := id B.frf.2
  have H1a : ∀ b, n ≤ b → H1 b = none := fun b hb => by
    cases e : H1 b with
    | none => rfl
    | some u => exact absurd (Nat.lt_of_lt_of_le (B.old b u e) hb) (Nat.lt_irrefl _)
  -- the new list
  generalize hs3 : ({ s1 with heap := s1.heap.push { cls := .type "list", data := .seq ([] : List Value).toArray } } : Shared) = s3
  have h3 : s3.heap = s1.heap.push { cls := .type "list", data := .seq ([] : List Value).toArray } := by rw [← hs3]
  have g3 : s3.gens = s1.gens := by rw [← hs3]
  have kp3 : ∀ b o, s1.heap.get? b = some o → s3.heap.get? b = some o := fun b o e => by rw [h3]; exact Heap.get?_push_of_some _ e
  generalize hH3 : upd H1 L (.lst []) = H3 at p0
  have I3 : Inv X pins σ H3 s3 := by
    rw [← hs3, ← hH3]
    refine I1.laid (t' := s1.toks) (fun b o e => Heap.get?_push_of_some _ e) (Nat.le_of_eq hL) ⟨Nat.zero_le _, [], 0, .nil, ?_⟩
    rw [← hL]
    exact Heap.get?_push_size _ rfl
  have H3L : H3 L = some (.lst []) := by rw [← hH3, upd_same]
  have H3n : ∀ b, n ≤ b → b ≠ L → H3 b = none := fun b hb hne => by rw [← hH3, upd_ne hne]; exact H1a b hb
  -- what is the generator's own
  generalize hfp : (List.range s3.heap.objs.size).filter (fun b => decide (n ≤ b) && (H3 b).isNone) = fp
  have fpm : ∀ b, b ∈ fp ↔ b < s3.heap.objs.size ∧ n ≤ b ∧ H3 b = none := fun b => by
    rw [← hfp, List.mem_filter, List.mem_range, Bool.and_eq_true, decide_eq_true_eq, Option.isNone_iff_eq_none]
  have fsX : ∀ b ∈ X.fs, b < n := fun b hb => by
    rcases I.ok.stk with z | ⟨z, _⟩
    · exact B.fsl b (by rw [z]; exact hb)
    · refine B.fsl b ?_
      rw [z]
      unfold frs
      rw [List.filterMap_cons]
      split
      · exact hb
      · exact List.mem_cons_of_mem _ hb
  have f3 : ∀ b ∈ fp, FpOk X pins H3 b ∧ b < s3.heap.objs.size := fun b hb => by
    obtain ⟨z1, z2, z3⟩ := (fpm b).mp hb
    refine ⟨⟨z3, Nat.ne_of_gt (Nat.lt_of_lt_of_le B.loc z2), fun z => absurd (Nat.lt_of_lt_of_le (fsX b z) z2) (Nat.lt_irrefl _), .inr (Nat.le_trans B.lo z2), fun x c e z => ?_, fun p hp z => ?_⟩, z1⟩
    · rw [z] at e
      exact absurd (Nat.lt_of_lt_of_le (B.cells x b e) z2) (Nat.lt_irrefl _)
    · have := B.hpins p hp
      rw [z] at this
      exact absurd (Nat.lt_of_lt_of_le this z2) (Nat.lt_irrefl _)
  have I4 := block_start I3 ok hN f3
  have pg := hg s3 H3 s3.heap.objs.size (cellsFrom (s3.heap.objs.size + 1) scope.names (cloFrom X.env.cells scope.names [])) fp
  have pe := he s3 H3 s3.heap.objs.size (cellsFrom (s3.heap.objs.size + 1) scope.names (cloFrom X.env.cells scope.names [])) fp
  show codeAny _ _ (.compStart (.ListComp elt [⟨tg, iter, [], 0⟩] scope pos) 0 (.ref a) (.ref L) (compEnvC scope (cellsFrom (s3.heap.objs.size + 1) scope.names (cloFrom X.env.cells scope.names [])) s3.heap.objs.size X.env)) (compPost (model X.prog X.w) X.A X.xe (some (assign (.Name y py) X.env)) (fun _ s' => SP X pins Dn .next s') (.ref L) s3.heap.objs.size)
    { s3 with heap := pushCells (s3.heap.push { cls := .type "dict", data := .dict #[] }) scope.names }
  have ccl : ∀ z c, (compEnvC scope (cellsFrom (s3.heap.objs.size + 1) scope.names (cloFrom X.env.cells scope.names [])) s3.heap.objs.size X.env).cells.lookup z = some c → c < n := fun z c e => by
    have e : (cellsFrom (s3.heap.objs.size + 1) scope.names (cloFrom X.env.cells scope.names [])).lookup z = some c := e
    rw [cells_plain nc] at e
    rcases cloFrom_mem (PySem.mem_of_lookup e) with hm | ⟨hm, rfl⟩
    · cases hm
    · obtain ⟨c, hc⟩ := hfree _ hm rfl
      have hc : X.env.cells.lookup z = some c := hc
      rw [hc]
      exact B.cells z c hc
  generalize hce : compEnvC scope (cellsFrom (s3.heap.objs.size + 1) scope.names (cloFrom X.env.cells scope.names [])) s3.heap.objs.size X.env = ce at I4 pg pe ccl ⊢
  have cL : ce.locals = s3.heap.objs.size := by subst hce; rfl
  have s3L : L < s3.heap.objs.size := by rw [h3, Heap.size_push, hL]; exact Nat.lt_succ_self _
  have ncl : n < ce.locals := by rw [cL]; exact Nat.lt_trans lnL s3L
  have acl : a < ce.locals := by rw [cL]; exact Nat.lt_trans laL s3L
  have gens4 : ({ s3 with heap := pushCells (s3.heap.push { cls := .type "dict", data := .dict #[] }) scope.names } : Shared).gens = s1.gens := g3
  have kp4 : ∀ b o, s1.heap.get? b = some o → ({ s3 with heap := pushCells (s3.heap.push { cls := .type "dict", data := .dict #[] }) scope.names } : Shared).heap.get? b = some o := fun b o e => pushCells_keeps _ _ _ _ (Heap.get?_push_of_some _ (kp3 b o e))
  generalize hs4 : ({ s3 with heap := pushCells (s3.heap.push { cls := .type "dict", data := .dict #[] }) scope.names } : Shared) = s4 at I4 gens4 kp4 ⊢
  have pok : ∀ {oD : Obj} {H' : Hp} {s' : Shared}, s'.heap.get? n = some oD → (∀ v, oD.data ≠ .cell v) → s'.heap.get? a = some go → H' a = none → H' n = none → ∀ p ∈ [(n, oD), (a, go)], s'.heap.get? p.1 = some p.2 ∧ H' p.1 = none ∧ p.1 ≠ ce.locals ∧ p.1 ∉ frs X.stack ∧ ∀ v, p.2.data ≠ .cell v := fun {oD H' s'} e1 e2 e3 e4 e5 p hm => by
    have l2 := B.lt
    rcases List.mem_cons.mp hm with z | z
    · subst z
      exact ⟨e1, e5, Nat.ne_of_lt ncl, fun z => Nat.lt_irrefl _ (B.fsl _ z), e2⟩
    · cases List.mem_singleton.mp z
      exact ⟨e3, e4, Nat.ne_of_lt acl, fun z => Nat.lt_irrefl _ (Nat.lt_trans l2 (B.fsl _ z)), B.gobj.nocell⟩
  have loop : codeAny (model X.prog X.w) X.A (.compLoop (.ListComp elt [⟨tg, iter, [], 0⟩] scope pos) 0 (.ref a) (.ref L) ce) (compPost (model X.prog X.w) X.A X.xe (some (assign (.Name y py) X.env)) (fun _ s' => SP X pins Dn .next s') (.ref L) s3.heap.objs.size) s4 := by
    refine compLoop_any (fun m s' => ∃ j H', m = items.length - j ∧ j ≤ items.length ∧ Held (D.at X n) (X.blk s3 H3 scope ce fp) L H1 a gn go (items.drop j) [] (wipe σ (own.map (·.2))) H' s' ∧ Pv j H') ?_ (items.length - 0)
      ⟨0, H3, rfl, Nat.zero_le _, ⟨I4, ⟨_, H1, s1.heap, by rw [gens4]; exact B.gen, P n vs H1 items s1.heap L B.ok (fun o e => by rw [hLn] at e; cases e) hsp B.frf, ⟨fun b o hb e => by rw [← hH3, upd_ne hb]; exact e, _, H3L⟩, fun o e => kp4 _ _ e⟩, kp4 _ _ B.hgo, H3n a (Nat.le_of_lt B.lt) (Nat.ne_of_lt laL), H3n n (Nat.le_refl _) (Nat.ne_of_lt lnL), oD0, kp4 _ _ hoD0, fun v z => by rw [hdD0] at z; cases z⟩, p0⟩
    rintro m s5 ⟨j, H5, rfl, hj, Hd, pv⟩
    have I5 := Hd.inv
    obtain ⟨gs, Hy, hy', hgs, R, S, hk⟩ := Hd.gens
    obtain ⟨m5, ⟨oL, esL, epL, hoL, hdL, _⟩, _⟩ := id I5.loc
    have hoL : s5.heap.get? ce.locals = some oL := hoL
    have free5 : H5 ce.locals = none := I5.free
    have clf : ce.locals ∉ frs X.stack := fun z => Nat.lt_irrefl _ (Nat.lt_trans ncl (B.fsl _ z))
    refine turnE (G := D.at X n) (X := X.blk s3 H3 scope ce fp) (pl := [(a, go), (ce.locals, oL)]) (Dl := L) (Hc := H1) ⟨rfl, rfl, rfl, ccl, .inr ⟨oL, List.mem_cons_of_mem _ (List.mem_cons_self ..)⟩, B.fsl, fun p hp => absurd (show p ∈ ([] : List (Addr × Obj)) ++ [] from hp) (by simp), fun b o e hx => ?_⟩ rfl hr.hd hr.depth I5
      ⟨Inv.env1 I5 gn, Hd.fn, Nat.lt_trans B.lt (Heap.lt_size Hd.hgo), fun p hp => ?_⟩ B.gobj (List.mem_cons_self ..) hgs R S hk (fun e0 H6 s6 I6 r6 => ?_) fun x r e1 T H6 s6 gs' oD I6 r6 hT0 hT1 fn6 od6 nc6 hg6 R6 pl6 => ?_
    · by_cases hb : b < n
      · exact .inl hb
      · by_cases hbL : b = L
        · exact .inr (.inr ⟨hbL, _, by rw [hbL]; exact H3L⟩)
        · exact absurd ((fpm b).mpr ⟨Heap.lt_size e, Nat.le_of_not_lt hb, H3n b (Nat.le_of_not_lt hb) hbL⟩) hx
    · rcases List.mem_cons.mp hp with z | z
      · subst z
        exact ⟨Hd.hgo, Hd.fa, Nat.ne_of_gt B.lt, fun z6 => Nat.lt_irrefl _ (Nat.lt_trans B.lt (B.fsl _ z6)), B.gobj.nocell⟩
      · cases List.mem_singleton.mp z
        exact ⟨hoL, free5, Nat.ne_of_gt ncl, clf, fun v q => by rw [hdL] at q; cases q⟩
    · -- the end
      have ej : j = items.length := by
        have := List.drop_eq_nil_iff.mp e0
        omega
      subst ej
      have I7 : Inv X pins σ H6 s6 := I3.call' (ch := fp) I6.os I6.base I6.hok I6.bare fun b hb => ⟨(f3 b hb).1.2.2.2.1, (f3 b hb).1.2.1, (f3 b hb).1.2.2.2.2.1, (f3 b hb).1.2.2.2.2.2⟩
      have nC : H6 s3.heap.objs.size = none := by
        have z : H6 ce.locals = none := I6.free
        rw [cL] at z
        exact z
      obtain ⟨m6, hn6, _⟩ := I6.loc
      have hn6 : s6.heap.Ns ce.locals m6 := hn6
      rw [cL] at hn6
      obtain ⟨f0, f1, f2, f3', f4, f5⟩ := I3.fpOk (Nat.le_refl _) nC
      show wpAny _ _ (assign (.Name y py) X.env (.ref L)) _ _ _
      refine wpAny_assign_Name (store_ok2 (v := V.ref L) I7 hN hy (.inl hyl) rfl (fun s8 I8 ⟨b, sb, hb⟩ => ?_) (.inr hyl))
      have haC : s3.heap.objs.size ≠ b := by
        rcases hb with z | z
        · rw [z]; exact f1
        · exact fun e => f4 y b z e.symm
      exact ⟨m6, hn6.sameBut sb haC, fun h9 sb9 => ⟨_, H6, I8.turned (t' := s8.toks) (fun b o hb e => (sb9.2 b hb).trans e) f0 f1 f3' f4 f5, fin H5 H6 pv r6⟩⟩
    · -- an item
      have ltj : j < items.length := by
        cases Nat.lt_or_ge j items.length with
        | inl z => exact z
        | inr z => rw [List.drop_eq_nil_of_le z] at e1; cases e1
      rw [List.drop_eq_getElem_cons ltj] at e1
      obtain ⟨ex, er⟩ := List.cons.inj e1
      have gx : items[j]? = some x := by rw [List.getElem?_eq_getElem ltj, ex]
      have ga6 : s6.heap.get? a = some go ∧ H6 a = none := pl6 (a, go) (List.mem_cons_self ..)
      refine letGo_of_cls (c := "generator") ga6.1 B.gobj.cls gdat (by decide) ?_
      have I6' : Inv (X.blk s3 H3 scope ce fp) [(n, oD), (a, go)] (wipe σ (own.map (·.2))) H6 s6 := I6.pins_of fun p hp => pok od6 nc6 ga6.1 ga6.2 fn6 p hp
      refine thnF (pg.run _ s6 _ H6 (.ref T) (.ref T) _ I6' rfl (step j x H5 H6 T gx pv r6 hT0 hT1)) fun _ s8 ⟨⟨σ8, H8, I8, hw8, q8⟩, g8⟩ => ?_
      refine wpAny_tests_nil ?_
      rw [if_pos rfl]
      refine thnF (pe.run _ s8 σ8 H8 _ I8 q8) fun z s10 ⟨⟨yv, H10, I10, r10, acc, hL10, hz10, nx, Sx⟩, g10⟩ => ?_
      refine appG (X := X.blk s3 H3 scope ce fp) I10 hL10 hz10 r10 fun s11 I11 g11 => ?_
      refine ⟨items.length - (j + 1), by omega, j + 1, _, rfl, ltj, ?_, nx⟩
      have hl : (wipe σ (own.map (·.2))).length = σ8.length := by rw [← hw8, wipe_length]
      have wk : ∀ {ps : List (Addr × Obj)}, Inv (X.blk s3 H3 scope ce fp) ps σ8 (upd H10 L (.lst (acc ++ [yv]))) s11 → Inv (X.blk s3 H3 scope ce fp) ps (wipe σ (own.map (·.2))) (upd H10 L (.lst (acc ++ [yv]))) s11 := fun J => J.weak hl fun j v e => by
        rw [← hw8] at e
        exact (wipe_some e).1
      rw [er]
      refine Held.next (wk I11) ((wk I11).pins_of fun p hp => nomatch hp) hg6 (g11.trans (g10.trans g8)) R6 ⟨fun b o hb e => ?_, _, upd_same⟩ (List.mem_cons_self ..) (List.mem_cons_of_mem _ (List.mem_cons_self ..)) od6 nc6
      rw [upd_ne hb]
      exact Sx.1 b o hb e
  exact codeAny_compStart_list loop (wpAny_pyIter_gen (B.gobj.gen (kp4 _ _ B.hgo)) loop)
end
end Ru


/-! The text by places; charts and rows as values; the first promises. -/
namespace Pm
open PySem PySem.Spec PyProof.Rows L2 Ru
def top (i : Nat) : Stmt := PySem.Challenge.pw_movingup_k84_whole_branches_apart.main.body.getD i (.Pass ⟨0, 0, 0, 0⟩)
/-- a def of the module under its own name -/
structure Gn (K : PySem.W.Frag) (mg : Str → Option Value) (x : Str) (st : Stmt) (ps : List Str) : Prop where
  ex : ∃ (f : Addr) (fd : FuncData), Fun K x x st f fd ∧ mg x = some (.ref f) ∧ Binds K fd ps []
structure Cal (P : Program) (w : World) (K : PySem.W.Frag) (mg : Str → Option Value) (base : Heap) (k : Nat) (x : Str) (sp : Sp) : Prop where
  ex : ∃ (f : Addr) (fd : FuncData) (ps : List Str), FnOk P w K mg base CX0 k f fd ps sp ∧ mg x = some (.ref f) ∧ PySem.W.keepIn K (.ref f) = true ∧ Binds K fd ps []
section
variable {P : Program} {w : World} {K : PySem.W.Frag} {mg : Str → Option Value} {base : Heap}
theorem Gn.cal {x : Str} {st : Stmt} {N ps : List Str} {k : Nat} {sp : Sp} (G : Gn K mg x st ps) (S : FnScope N ps (defScope st)) (len : ∀ vs H Q E, sp vs H Q E → vs.length = ps.length)
    (hbody : ∀ (f : Addr) (cdv : Value) (A : Around) (outer : List Env) (s : Shared) (H : Hp) (vs : List V) (Q : VK) (E : XK), Room k (A.deeper (envOfC x (defScope st) s.heap.objs.size f cdv)) → sp vs H Q E →
      ∃ t, PSs (cxOf CX0 P w K mg base N x (defScope st) f cdv A outer s H E).nox (defBody st) t ∧ t { nx := fun _ H' => Q .non H', rt := Q } (start N vs) H) : Cal P w K mg base (k + 1) x sp := by
  obtain ⟨f, fd, F, hm, b⟩ := G.ex
  exact ⟨f, fd, ps, F.ok S len fun cdv A outer s H vs Q E hr h => hbody f cdv A outer s H vs Q E hr h, hm, F.kp, b⟩
end
section
variable {X : Cx} {k j : Nat} {x : Str} {sp : Sp} {p pos : Pos} {e : Expr} {es : List Expr} {t : TA}
/-- a def called by its name -/
theorem pe_c (c : Cal X.prog X.w X.K X.mg X.base k x sp) (hr : Room j X.A) (ha : PA X (e :: es) t) (hk : k ≤ j := by decide) (hg : Gl X x := by rfl)
    (hdb : (x == ("__debug__" : Str)) = false := by decide) (he : starEach (e :: es) X.env = (false, eval e X.env) :: starEach es X.env := by rfl) (hpl : (backTo pos (starEach es X.env)).any (·.1) = false := by rfl) :
    PE X (.Call (.Name x p) (e :: es) [] pos) (tCall sp [] E0 t) := by
  obtain ⟨f, fd, ps, F, hm, kp, b⟩ := c.ex
  exact pe_call F (hr.mono hk) hg hm kp b .nil pass0 ha hdb he hpl
end
/-- the built-in names -/
structure Bt (mg : Str → Option Value) : Prop where
  isinstance : mg "isinstance" = none
  int : mg "int" = none
  bool : mg "bool" = none
  tuple : mg "tuple" = none
  list : mg "list" = none
  range : mg "range" = none
  enumerate : mg "enumerate" = none
  zip : mg "zip" = none
  min : mg "min" = none
  max : mg "max" = none
  sorted : mg "sorted" = none
  len : mg "len" = none
section
variable {X : Cx} (B : Bt X.mg)
include B
/-- isinstance(e, T) -/
theorem pe_isi {e : Expr} {te : TE} {p p2 pos : Pos} {T : Str} {T' : String} (he : PE X e te) (hm : X.mg T = none) (hv : bootBuiltins T = some (.type T')) (hg : Gl X "isinstance" := by rfl) (hgT : Gl X T := by rfl) (hn : T ≠ "__name__" := by decide) (hd : (T == ("__debug__" : Str)) = false := by decide)
    (h1 : starEach [e, .Name T p2] X.env = (false, eval e X.env) :: starEach [.Name T p2] X.env := by rfl) : PE X (.Call (.Name "isinstance" p) [e, .Name T p2] [] pos) (tCB (rIsi X.K) (tCons te (tCons (tC (.ty T')) tNil))) :=
  pe_callB call_isi hg B.isinstance PyProof.Rows.boot_isinstance (pa_cons he (pa_cons (pe_bltn hgT hm hv rfl hn hd) pa_nil) h1) (he := h1)
end
/-! ### values -/
def chV (u : List Nat) : List V := .non :: u.map fun (k : Nat) => V.int (k : Int)
def oV : Mv.OI → V
  | none => .non
  | some x => .int x
def rV (r : Mv.Rows) : List V := r.map oV
def nV (l : List Nat) : List V := l.map fun (k : Nat) => V.int (k : Int)
def iV (l : List Int) : List V := l.map V.int
structure ChA (H : Hp) (c : Addr) (u : List Nat) : Prop where
  at_ : H c = some (.tup (chV u))
  v : Mv.Vd u
  sz : u.length ≤ 13
theorem ChA.same {H H' : Hp} {c : Addr} {u : List Nat} (h : ChA H c u) (s : Same H H') : ChA H' c u := ⟨s _ _ h.at_, h.v, h.sz⟩
theorem chV_len (u : List Nat) : (chV u).length = u.length + 1 := by simp [chV]
theorem chV_get {u : List Nat} {k : Nat} (h1 : 1 ≤ k) (h2 : k ≤ u.length) : (chV u)[k]? = some (.int (Mv.par u k : Nat)) := by
  obtain ⟨j, rfl⟩ : ∃ j, k = j + 1 := ⟨k - 1, by omega⟩
  unfold chV Mv.par
  rw [List.getElem?_cons_succ, List.getElem?_map, Nat.add_sub_cancel, List.getElem?_eq_getElem (by omega), List.getD_eq_getElem?_getD, List.getElem?_eq_getElem (by omega)]
  rfl
theorem chV_zero (u : List Nat) : (chV u)[0]? = some .non := rfl
theorem rV_get {r : Mv.Rows} {k : Nat} (h : k < r.length) : (rV r)[k]? = some (oV (r.getD k none)) := by
  unfold rV
  rw [List.getElem?_map, List.getElem?_eq_getElem h, List.getD_eq_getElem?_getD, List.getElem?_eq_getElem h]
  rfl
theorem rV_len (r : Mv.Rows) : (rV r).length = r.length := by simp [rV]
theorem upd_same_of {H : Hp} {a : Addr} {o : HO} (h : H a = none) : Same H (upd H a o) := fun b u e => by rw [upd_ne (ne_of_none e h)]; exact e

/-! ### is_whole, is_person -/
abbrev sWhole : Stmt := top 9
abbrev sPerson : Stmt := top 17
/-- the reading of a number or None -/
def spWhole : Sp := fun vs H Q _ => ∃ v, vs = [v] ∧ ((v = .non ∧ Q (.bl false) H) ∨ ∃ n : Int, v = .int n ∧ Q (.bl (decide (0 ≤ n))) H)
section
variable {P : Program} {w : World} {K : PySem.W.Frag} {mg : Str → Option Value} {base : Heap}
theorem scWhole : FnScope ["value"] ["value"] (defScope sWhole) := ⟨rfl, rfl, rfl, by decide +kernel, rfl, by decide +kernel, by decide +kernel⟩
theorem c_whole (G : Gn K mg "is_whole" sWhole ["value"]) (B : Bt mg) : Cal P w K mg base 1 "is_whole" spWhole := by
  refine G.cal scWhole (fun vs H Q E h => ?_) (fun f cdv A outer s H vs Q E hr h => ?_)
  · obtain ⟨v, rfl, _⟩ := h; rfl
  · obtain ⟨v, rfl, h⟩ := h
    refine ⟨_, pss_one (ps_ret (pe_and (pe_isi B (pv 0) B.int PyProof.Rows.boot_int) (pe_and (pe_not (pe_isi B (pv 0) B.bool PyProof.Rows.boot_bool)) (pe_one (pe_cmpR op_ge (pv 0) pe_int (nomark _)))))), ?_⟩
    rcases h with ⟨rfl, q⟩ | ⟨n, rfl, q⟩
    · exact ⟨_, rfl, _, _, _, _, false, rfl, .ty _, .base .non, kit_ty (by decide +kernel), _, rfl, q⟩
    · refine ⟨_, rfl, _, _, _, _, true, rfl, .ty _, .base (.int n), kit_ty (by decide +kernel), _, rfl, ?_⟩
      exact ⟨_, rfl, _, _, _, _, false, rfl, .ty _, .base (.int n), kit_ty (by decide +kernel), _, rfl, _, rfl, _, rfl, _, _, rfl, rfl, q⟩
end
end Pm


/-! Values as data: equality of lists and tuples. -/
namespace Pm
open PySem PySem.Spec PyProof.Rows L2 Ru
variable {K : PySem.W.Frag} {H : Hp} {Q : VK}
def vD : V → PyData
  | .int i => .int i
  | .bl b => .bool b
  | _ => .none
def FlatV (xs : List V) : Prop := ∀ v ∈ xs, v = .non ∨ (∃ i, v = .int i) ∨ ∃ b, v = .bl b
theorem FlatV.dp : ∀ {xs : List V}, FlatV xs → DpAll K H xs (xs.map vD)
  | [], _ => .nil
  | v :: xs, h => by
    refine .cons ?_ (FlatV.dp fun u hu => h u (List.mem_cons_of_mem _ hu))
    rcases h v List.mem_cons_self with rfl | ⟨i, rfl⟩ | ⟨b, rfl⟩
    · exact .non
    · exact .int i
    · exact .bl b
/-- data that may be compared -/
def Shp (ds : List PyData) : Prop := PyData.canLayAll0 ds = true ∧ PyData.depthAll ds ≤ 60
theorem shp_flat : ∀ {xs : List V}, FlatV xs → PyData.canLayAll0 (xs.map vD) = true ∧ PyData.depthAll (xs.map vD) = 0
  | [], _ => ⟨by unfold List.map PyData.canLayAll0; rfl, by unfold List.map PyData.depthAll; rfl⟩
  | v :: xs, h => by
    obtain ⟨h1, h2⟩ := shp_flat (xs := xs) fun u hu => h u (List.mem_cons_of_mem _ hu)
    rw [List.map_cons]
    unfold PyData.canLayAll0 PyData.depthAll
    rw [h1, h2]
    rcases h v List.mem_cons_self with rfl | ⟨i, rfl⟩ | ⟨b, rfl⟩
    · exact ⟨by unfold vD PyData.canLay0; rfl, by unfold vD PyData.depth; rfl⟩
    · exact ⟨by unfold vD PyData.canLay0; rfl, by unfold vD PyData.depth; rfl⟩
    · exact ⟨by unfold vD PyData.canLay0; rfl, by unfold vD PyData.depth; rfl⟩
theorem FlatV.shp {xs : List V} (h : FlatV xs) : Shp (xs.map vD) := ⟨(shp_flat h).1, by rw [(shp_flat h).2]; decide⟩
theorem Shp.lst {ds : List PyData} (h : Shp ds) : SeqAt.shaped (.list ds) = true := by
  unfold SeqAt.shaped PyData.canLay0 PyData.depth
  rw [h.1, Bool.true_and, decide_eq_true_eq]
  have := h.2
  omega
theorem Shp.tup {ds : List PyData} (h : Shp ds) : SeqAt.shaped (.tuple ds) = true := by
  unfold SeqAt.shaped PyData.canLay0 PyData.depth
  rw [h.1, Bool.true_and, decide_eq_true_eq]
  have := h.2
  omega
theorem Shp.tupD {ds : List PyData} (h : PyData.canLayAll0 ds = true) : (PyData.tuple ds).canLay0 = true := by unfold PyData.canLay0; exact h
theorem Shp.lstD {ds : List PyData} (h : PyData.canLayAll0 ds = true) : (PyData.list ds).canLay0 = true := by unfold PyData.canLay0; exact h
theorem shp_nil : Shp [] := ⟨by unfold PyData.canLayAll0; rfl, by unfold PyData.depthAll; decide⟩
section
variable {a b : Addr} {xs ys : List V} {ds : List PyData}
theorem eqL_of (h1 : SqL K H a xs) (h2 : SqL K H b ys) (d1 : DpAll K H xs ds) (d2 : DpAll K H ys ds) (s : Shp ds) (q : Q (.bl true) H) : rEqD K (.ref a) (.ref b) H Q :=
  ⟨_, _, .lst h1 d1, .lst h2 d2, s.lst, s.lst, by rw [PySem.SeqAt.eqv_refl _ (Shp.lstD s.1)]; exact q⟩
theorem neL_of (h1 : SqL K H a xs) (h2 : SqL K H b ys) (d1 : DpAll K H xs ds) (d2 : DpAll K H ys ds) (s : Shp ds) (q : Q (.bl false) H) : rNeD K (.ref a) (.ref b) H Q :=
  ⟨_, _, .lst h1 d1, .lst h2 d2, s.lst, s.lst, by rw [PySem.SeqAt.eqv_refl _ (Shp.lstD s.1)]; exact q⟩
theorem eqT_of (h1 : SqT K H a xs) (h2 : SqT K H b ys) (d1 : DpAll K H xs ds) (d2 : DpAll K H ys ds) (s : Shp ds) (q : Q (.bl true) H) : rEqD K (.ref a) (.ref b) H Q :=
  ⟨_, _, .tup h1 d1, .tup h2 d2, s.tup, s.tup, by rw [PySem.SeqAt.eqv_refl _ (Shp.tupD s.1)]; exact q⟩
theorem neT_of (h1 : SqT K H a xs) (h2 : SqT K H b ys) (d1 : DpAll K H xs ds) (d2 : DpAll K H ys ds) (s : Shp ds) (q : Q (.bl false) H) : rNeD K (.ref a) (.ref b) H Q :=
  ⟨_, _, .tup h1 d1, .tup h2 d2, s.tup, s.tup, by rw [PySem.SeqAt.eqv_refl _ (Shp.tupD s.1)]; exact q⟩
/-- against the empty one -/
theorem eqL_nil (h1 : SqL K H a xs) (h2 : SqL K H b []) (d1 : DpAll K H xs ds) (s : Shp ds) (q : Q (.bl (decide (xs = []))) H) : rEqD K (.ref a) (.ref b) H Q := by
  refine ⟨_, _, .lst h1 d1, .lst h2 .nil, s.lst, shp_nil.lst, ?_⟩
  have e : PyData.eqv (.list ds) (.list []) = decide (xs = []) := by
    cases d1 with
    | nil => unfold PyData.eqv PyData.eqvAll; rfl
    | cons _ _ => unfold PyData.eqv PyData.eqvAll; simp
  rw [e]
  exact q
theorem eqT_nil (h1 : SqT K H a xs) (h2 : SqT K H b []) (d1 : DpAll K H xs ds) (s : Shp ds) (q : Q (.bl (decide (xs = []))) H) : rEqD K (.ref a) (.ref b) H Q := by
  refine ⟨_, _, .tup h1 d1, .tup h2 .nil, s.tup, shp_nil.tup, ?_⟩
  have e : PyData.eqv (.tuple ds) (.tuple []) = decide (xs = []) := by
    cases d1 with
    | nil => unfold PyData.eqv PyData.eqvAll; rfl
    | cons _ _ => unfold PyData.eqv PyData.eqvAll; simp
  rw [e]
  exact q
end
theorem flat_ch (u : List Nat) : FlatV (chV u) := fun v hv => by
  rcases List.mem_cons.mp hv with e | hv
  · exact .inl e
  · obtain ⟨k, _, rfl⟩ := List.mem_map.mp hv
    exact .inr (.inl ⟨_, rfl⟩)
theorem flat_r (r : Mv.Rows) : FlatV (rV r) := fun v hv => by
  obtain ⟨k, _, rfl⟩ := List.mem_map.mp hv
  cases k with
  | none => exact .inl rfl
  | some x => exact .inr (.inl ⟨x, rfl⟩)
theorem flat_n (l : List Nat) : FlatV (nV l) := fun v hv => by
  obtain ⟨k, _, rfl⟩ := List.mem_map.mp hv
  exact .inr (.inl ⟨_, rfl⟩)
theorem flat_i (l : List Int) : FlatV (iV l) := fun v hv => by
  obtain ⟨k, _, rfl⟩ := List.mem_map.mp hv
  exact .inr (.inl ⟨_, rfl⟩)
end Pm


/-! Promises: charts and their checks. -/
namespace Pm
open PySem PySem.Spec PyProof.Rows L2 Ru
abbrev sChartFault : Stmt := top 10
abbrev sReqChart : Stmt := top 11
abbrev sReqPost : Stmt := top 12
def spPerson : Sp := spWhole
def spChart : Sp := fun vs H Q _ => ∃ c u, vs = [.ref c] ∧ ChA H c u ∧ ∀ H', Same H H' → Q .non H'
def spReqPost : Sp := fun vs H Q _ => ∃ c u, ∃ k : Nat, vs = [.ref c, .int k] ∧ ChA H c u ∧ k ≤ u.length ∧ Q .non H
section
variable {P : Program} {w : World} {K : PySem.W.Frag} {mg : Str → Option Value} {base : Heap}
theorem scPerson : FnScope ["value"] ["value"] (defScope sPerson) := ⟨rfl, rfl, rfl, by decide +kernel, rfl, by decide +kernel, by decide +kernel⟩
theorem c_person (G : Gn K mg "is_person" sPerson ["value"]) (cW : Cal P w K mg base 1 "is_whole" spWhole) : Cal P w K mg base 2 "is_person" spPerson := by
  refine G.cal scPerson (fun vs H Q E h => ?_) (fun f cdv A outer s H vs Q E hr h => ?_)
  · obtain ⟨v, rfl, _⟩ := h; rfl
  · obtain ⟨v, rfl, h⟩ := h
    exact ⟨_, pss_one (ps_ret (pe_c cW hr (pa_cons (pv 0) pa_nil))), _, rfl, _, rfl, h⟩
theorem scChartFault : FnScope ["value", "post", "above"] ["value"] (defScope sChartFault) := ⟨rfl, rfl, rfl, by decide +kernel, rfl, by decide +kernel, by decide +kernel⟩
theorem c_chart_fault (G : Gn K mg "chart_fault" sChartFault ["value"]) (B : Bt mg) (cW : Cal P w K mg base 1 "is_whole" spWhole) : Cal P w K mg base 2 "chart_fault" spChart := by
  refine G.cal scChartFault (fun vs H Q E h => ?_) (fun f cdv A outer s H vs Q E hr h => ?_)
  · obtain ⟨c, u, rfl, _⟩ := h; rfl
  · obtain ⟨c, u, rfl, C, q⟩ := h
    refine ⟨_, pss_cons (ps_if (PW.pt (pw_or (pt_not (pt_val (pe_isi B (pv 0) B.tuple PyProof.Rows.boot_tuple))) (pw_or (pt_cmpR (op_eqD hr.units) (pv 0) (pe_tup pa_nil) (nomark _)) (pw_or1 (pt_cmpR op_notN (pe_ix ix_tup (pv 0) pe_int (fun _ _ => rfl)) pe_non (nomark _)))))) pss_never pss_nil)
      (pss_cons (ps_for PassesOwn.never rfl (pi_ent (by rfl) B.enumerate (pa_cons (pv 0) pa_nil)) (pg_tup rfl (pgs_cons (pg_name (i := 1) scChartFault.nd rfl (.inl rfl)) (pgs_cons (pg_name (i := 2) scChartFault.nd rfl (.inl rfl)) pgs_nil)))
        (pss_one (ps_if (PW.pt (pw_and (pt_cmpR op_gt (pv 1) pe_int (nomark _)) (pw_and1 (PW.pt (pw_or (pt_not (pt_val (pe_c cW hr (pa_cons (pv 2) pa_nil)))) (pw_or1 (pt_cmpR op_ge (pv 2) (pv 1) (nomark _)))))))) pss_never pss_nil)))
      (pss_one (ps_ret pe_non))), ?_⟩
    refine ⟨_, rfl, _, _, _, _, true, rfl, .ty _, .base (.tup C.at_), kit_ty (by decide +kernel), _, rfl, ?_⟩
    refine ⟨_, rfl, Nat.zero_le _, fun t0 n0 => ?_⟩
    have s0 := upd_same_of (o := .tup []) n0
    refine eqT_nil (SqT.of (s0 _ _ C.at_)) (SqT.of upd_same) (flat_ch u).dp (flat_ch u).shp ⟨false, rfl, ?_⟩
    refine ⟨_, rfl, _, _, _, _, rfl, rfl, SqT.of (s0 _ _ C.at_), atI_nat (chV_zero u), rfl, _, rfl, ?_⟩
    refine ⟨_, rfl, _, _, rfl, SqT.of (s0 _ _ C.at_), ?_⟩
    refine for_it walk_ien (fun i σ H' => σ.length = 3 ∧ σ[0]? = some (some (.ref c)) ∧ Same H H') ⟨rfl, rfl, s0⟩ (fun i σ H' hi ⟨_, _, s1⟩ => SqT.of (s1 _ _ C.at_)) (fun i x σ H' H2 hi ⟨hl, h0, s1⟩ y => ?_) (fun σ H' ⟨_, _, s1⟩ => q _ s1)
    obtain ⟨T, a, b, rfl, nT, rfl, ea, eb⟩ := y
    cases ea
    have eb : (chV u)[i]? = some b := eb
    match σ, hl, h0 with
    | [v0, v1, v2], _, h0 =>
      cases h0
      have s2 : Same H (upd H' T (.tup [.int (i : Nat), b])) := s1.trans (upd_same_of nT)
      refine ⟨T, _, rfl, SqT.of upd_same, rfl, _, _, rfl, _, _, rfl, rfl, ?_⟩
      refine ⟨_, rfl, _, _, rfl, rfl, _, rfl, ?_⟩
      by_cases hi0 : i = 0
      · subst hi0
        exact ⟨rfl, rfl, s2⟩
      · rw [chV_len] at hi
        rw [chV_get (by omega) (by omega)] at eb
        cases eb
        have lt := Mv.par_lt C.v (k := i) (by omega) (by omega)
        rw [decide_eq_true (by omega : (0 : Int) < (i : Nat))]
        refine ⟨_, rfl, _, rfl, .inr ⟨_, rfl, _, rfl, ?_⟩⟩
        rw [decide_eq_true (by omega : (0 : Int) ≤ (Mv.par u i : Nat))]
        refine ⟨_, rfl, _, rfl, _, _, rfl, rfl, _, rfl, ?_⟩
        rw [decide_eq_false (by omega : ¬ ((i : Nat) : Int) ≤ (Mv.par u i : Nat))]
        exact ⟨rfl, rfl, s2⟩
theorem scReqChart : FnScope ["chart", "reason"] ["chart"] (defScope sReqChart) := ⟨rfl, rfl, rfl, by decide +kernel, rfl, by decide +kernel, by decide +kernel⟩
theorem c_req_chart (G : Gn K mg "require_chart" sReqChart ["chart"]) (cF : Cal P w K mg base 2 "chart_fault" spChart) : Cal P w K mg base 3 "require_chart" spChart := by
  refine G.cal scReqChart (fun vs H Q E h => ?_) (fun f cdv A outer s H vs Q E hr h => ?_)
  · obtain ⟨c, u, rfl, _⟩ := h; rfl
  · obtain ⟨c, u, rfl, C, q⟩ := h
    exact ⟨_, pss_cons (ps_set (i := 1) scReqChart.nd rfl (.inl rfl) (pe_c cF hr (pa_cons (pv 0) pa_nil))) (pss_one (ps_if (pt_cmpR op_notN (pv 1) pe_non (nomark _)) pss_never pss_nil)),
      _, rfl, c, u, rfl, C, fun H' s1 => ⟨_, rfl, rfl, _, rfl, q _ s1⟩⟩
theorem scReqPost : FnScope ["chart", "post"] ["chart", "post"] (defScope sReqPost) := ⟨rfl, rfl, rfl, by decide +kernel, rfl, by decide +kernel, by decide +kernel⟩
theorem c_req_post (G : Gn K mg "require_post" sReqPost ["chart", "post"]) (B : Bt mg) (cW : Cal P w K mg base 1 "is_whole" spWhole) : Cal P w K mg base 2 "require_post" spReqPost := by
  refine G.cal scReqPost (fun vs H Q E h => ?_) (fun f cdv A outer s H vs Q E hr h => ?_)
  · obtain ⟨c, u, k, rfl, _⟩ := h; rfl
  · obtain ⟨c, u, k, rfl, C, hk, q⟩ := h
    refine ⟨_, pss_one (ps_if (PW.pt (pw_or (pt_not (pt_val (pe_c cW hr (pa_cons (pv 1) pa_nil)))) (pw_or1 (pt_cmpR op_ge (pv 1) (pe_callB call_len_seq (by rfl) B.len PySem.boot_len (pa_cons (pv 0) pa_nil)) (nomark _))))) pss_never pss_nil), ?_⟩
    refine ⟨_, rfl, _, rfl, .inr ⟨_, rfl, _, rfl, ?_⟩⟩
    rw [decide_eq_true (by omega : (0 : Int) ≤ (k : Nat))]
    refine ⟨_, rfl, _, rfl, c, chV u, rfl, .inr (SqT.of C.at_), _, _, rfl, rfl, _, rfl, ?_⟩
    rw [chV_len, decide_eq_false (by omega : ¬ ((u.length + 1 : Nat) : Int) ≤ (k : Nat))]
    exact q
end
end Pm


/-! Promises: the tree. -/
namespace Pm
open PySem PySem.Spec PyProof.Rows L2 Ru
abbrev sTInit : Stmt := inClass (top 13) 0
abbrev sTPath : Stmt := inClass (top 13) 1
abbrev sTBelow : Stmt := inClass (top 13) 2
/-- a look at a comprehension's block -/
def blkC (N : List Str) (sc scope : Scope) (own : List (Str × Nat)) : Bool :=
  decide (scope.kind = .function) && scope.names.all (fun y => decide (scope.names.lookup y.1 = some y.2)) && own.all (fun p => decide (N[p.2]? = some p.1)) &&
  scope.names.all (fun y => decide (y.2 ≠ .free) || decide (sc.names.lookup y.1 = some .cell) || decide (sc.names.lookup y.1 = some .free)) &&
  scope.names.all (fun y => (decide (y.2 ≠ .local) && decide (y.2 ≠ .cell)) || decide (y.1 ∈ own.map (·.1)) || decide (y.1 ∉ N))
theorem blk_by {N : List Str} {sc scope : Scope} {own : List (Str × Nat)} (h : blkC N sc scope own = true) : BlkOk N sc scope own := by
  unfold blkC at h
  simp only [Bool.and_eq_true, decide_eq_true_eq, List.all_eq_true, Bool.or_eq_true] at h
  obtain ⟨⟨⟨⟨h1, h2⟩, h3⟩, h4⟩, h5⟩ := h
  refine ⟨h1, h2, h3, fun y hy e => ?_, fun y hy e => ?_⟩
  · rcases h4 y hy with (z | z) | z
    · exact absurd e z
    · exact .inl z
    · exact .inr z
  · rcases h5 y hy with (⟨z1, z2⟩ | z) | z
    · rcases e with e | e
      · exact absurd e z1
      · exact absurd e z2
    · exact .inl z
    · exact .inr z
theorem ab_ : ¬ (("above" : Str) = "below") := by decide +kernel
def tf (c bl : Addr) : List (Str × V) := putF "below" (.ref bl) (putF "above" (.ref c) [])
theorem tf_above (c bl : Addr) : (tf c bl).lookup ("above" : Str) = some (.ref c) := by unfold tf; rw [lookup_putF, if_neg ab_, lookup_putF, if_pos rfl]
theorem tf_below (c bl : Addr) : (tf c bl).lookup ("below" : Str) = some (.ref bl) := by unfold tf; rw [lookup_putF, if_pos rfl]
theorem tf_no (c bl : Addr) {m : Str} (h1 : ¬ m = "below") (h2 : ¬ m = "above") : (tf c bl).lookup m = none := by unfold tf; rw [lookup_putF, if_neg h1, lookup_putF, if_neg h2]; rfl
structure TreeAt (C : Addr) (H : Hp) (t : Addr) (u : List Nat) : Prop where
  ex : ∃ (dx c bl : Addr) (ls : List Addr), H t = some (.ins C dx (tf c bl)) ∧ ChA H c u ∧ H bl = some (.lst (ls.map V.ref)) ∧ ls.length = u.length + 1 ∧ ∀ k l, ls[k]? = some l → H l = some (.lst (nV (Mv.kids u k)))
theorem TreeAt.same {C : Addr} {H H' : Hp} {t : Addr} {u : List Nat} (h : TreeAt C H t u) (s : Same H H') : TreeAt C H' t u := by
  obtain ⟨dx, c, bl, ls, h1, h2, h3, h4, h5⟩ := h.ex
  exact ⟨dx, c, bl, ls, s _ _ h1, h2.same s, s _ _ h3, h4, fun k l e => s _ _ (h5 k l e)⟩
/-- the tree alone, apart from the lists of H0 -/
structure Solo (C : Addr) (H0 H : Hp) (t : Addr) (u : List Nat) : Prop where
  ex : ∃ Ht, TreeAt C Ht t u ∧ Same Ht H ∧ ∀ b xs, H0 b = some (.lst xs) → Ht b = none
/-- the class as the text has it -/
structure TTx (K : PySem.W.Frag) (mg : Str → Option Value) (C : Addr) : Prop where
  cl : Cls K C
  nA : NoAttr K C "above"
  nB : NoAttr K C "below"
  mgC : mg "Tree" = some (.ref C)
def kidsTo (u : List Nat) (i k : Nat) : List Nat := (List.range i).filter fun j => decide (0 < j ∧ Mv.par u j = k)
theorem kidsTo_succ (u : List Nat) (i k : Nat) : kidsTo u (i + 1) k = kidsTo u i k ++ (if 0 < i ∧ Mv.par u i = k then [i] else []) := by
  unfold kidsTo
  rw [List.range_succ, List.filter_append]
  congr 1
  by_cases h : 0 < i ∧ Mv.par u i = k
  · rw [if_pos h, List.filter_cons, if_pos (decide_eq_true h)]; rfl
  · rw [if_neg h, List.filter_cons, if_neg (by simpa using h)]; rfl
def spTInit (C : Addr) : Sp := fun vs H Q _ => ∃ (H0 : Hp) (t c dx : Addr) (u : List Nat), vs = [.ref t, .ref c] ∧ Same H0 H ∧ H0 t = none ∧ H t = some (.ins C dx []) ∧ ChA H0 c u ∧ ∀ H', Same H0 H' → TreeAt C H' t u → Solo C H0 H' t u → Q .non H'
def spTPath (C : Addr) : Sp := fun vs H Q _ => ∃ (t : Addr) (u : List Nat) (p : Nat), vs = [.ref t, .int p] ∧ TreeAt C H t u ∧ p ≤ u.length ∧ ∀ H' l, Same H H' → H l = none → H' l = some (.lst (nV (Mv.path u p))) → Q (.ref l) H'
def spTBelow (C : Addr) : Sp := fun vs H Q _ => ∃ (t : Addr) (u : List Nat) (p q : Nat), vs = [.ref t, .int p, .int q] ∧ TreeAt C H t u ∧ p ≤ u.length ∧ Q (.bl (decide (q ∈ Mv.up u p))) H
section
variable {P : Program} {w : World} {K : PySem.W.Frag} {mg : Str → Option Value} {base : Heap}
theorem scTInit : FnScope ["self", "chart", "post", "upper"] ["self", "chart"] (defScope sTInit) := ⟨rfl, rfl, rfl, by decide +kernel, rfl, by decide +kernel, by decide +kernel⟩
theorem c_tinit {f C : Addr} {fd : FuncData} (F : Fun K "__init__" "Tree.__init__" sTInit f fd) (T : TTx K mg C) (B : Bt mg) : FnOk P w K mg base CX0 1 f fd ["self", "chart"] (spTInit C) := by
  refine F.ok scTInit (fun vs H Q E h => ?_) (fun cdv A outer s H vs Q E hr h => ?_)
  · obtain ⟨H0, t, c, dx, u, rfl, _⟩ := h; rfl
  · obtain ⟨H0, t, c, dx, u, rfl, s0, t0, ht, C0, q⟩ := h
    refine ⟨_, pss_cons (ps_fld (pv 0) (pv 1) rfl) (pss_cons (ps_fld (pv 0) (pe_lc rfl scTInit.nd (pi_tup (pv 1)) (blk_by (own := [("post", 2)]) (by kernel_rfl)) (fun _ _ _ _ _ => pg_name (i := 2) scTInit.nd rfl (.inl rfl)) (fun _ _ _ _ _ => pts_nil) (fun _ _ _ _ _ => pe_lst pa_nil)) rfl)
      (pss_one (ps_for PassesOwn.never rfl (pi_ent (by rfl) B.enumerate (pa_cons (pv 1) pa_nil)) (pg_tup rfl (pgs_cons (pg_name (i := 2) scTInit.nd rfl (.inl rfl)) (pgs_cons (pg_name (i := 3) scTInit.nd rfl (.inl rfl)) pgs_nil)))
        (pss_one (ps_if (pt_cmpR op_notN (pv 3) pe_non (nomark _))
          (pss_one (ps_expr (pe_bm PySem.F.plainAttrs_list PySem.F.slot_list_append PySem.F.type_list_append mt_append (pe_ix ix_list (pe_fld (pv 0) rfl) (pv 3) (fun _ _ => rfl)) (pa_cons (pv 2) pa_nil)))) pss_nil))))), ?_⟩
    have hct : c ≠ t := ne_of_none C0.at_ t0
    refine ⟨_, rfl, _, rfl, t, C, dx, [], rfl, ht, T.cl, T.nA, (by show 0 < 1000; decide), ?_⟩
    generalize hHa : upd H t (.ins C dx (putF "above" (.ref c) [])) = Ha
    have sA : Same H0 Ha := fun b o e => by rw [← hHa, upd_ne (ne_of_none e t0)]; exact s0 _ _ e
    have hta : Ha t = some (.ins C dx (putF "above" (.ref c) [])) := by rw [← hHa, upd_same]
    -- the lists
    refine ⟨_, rfl, _, rfl, ⟨_, SqT.of (sA _ _ C0.at_)⟩, fun D hD => ?_⟩
    have hDt : t ≠ D := ne_of_none hta hD
    refine lc_it walk_tup (fun i H' => ∃ ls : List Addr, ls.length = i ∧ H' D = some (.lst (ls.map V.ref)) ∧ (∀ l ∈ ls, H' l = some (.lst []) ∧ Ha l = none ∧ l ≠ D) ∧ ls.Nodup ∧ Same Ha H') ⟨[], rfl, upd_same, fun _ z => (nomatch z), .nil, upd_same_of hD⟩
      (fun i H' hi ⟨_, _, _, _, _, s1⟩ => SqT.of (s1 _ _ (sA _ _ C0.at_))) (fun i x H' H2 hi ⟨ls, e1, e2, e3, e4, s1⟩ y => ?_) (fun H' ⟨ls, e1, e2, e3, e4, s1⟩ => ?_)
    · obtain ⟨rfl, _⟩ := y
      rw [chV_len] at hi
      refine ⟨rfl, Nat.zero_le _, fun l hl => ⟨ls.map V.ref, ?_, ?_, ls ++ [l], ?_, ?_, fun l' hl' => ?_, ?_, fun b o e => ?_⟩⟩
      · rw [upd_ne (ne_of_none e2 hl)]; exact e2
      · rw [List.length_map, e1]
        have := C0.sz
        exact small1000 (by omega)
      · rw [List.length_append, e1]; rfl
      · rw [upd_same, List.map_append]; rfl
      · rcases List.mem_append.mp hl' with z | z
        · obtain ⟨z1, z2, z3⟩ := e3 l' z
          exact ⟨by rw [upd_ne z3, upd_ne (ne_of_none z1 hl)]; exact z1, z2, z3⟩
        · rw [List.mem_singleton.mp z]
          have nlD : l ≠ D := (ne_of_none e2 hl).symm
          exact ⟨by rw [upd_ne nlD, upd_same], s1.free hl, nlD⟩
      · refine List.nodup_append.mpr ⟨e4, List.nodup_cons.mpr ⟨by simp, .nil⟩, fun a ha b hb e => ?_⟩
        rw [List.mem_singleton.mp hb] at e
        rw [e] at ha
        have := (e3 l ha).1
        rw [hl] at this
        cases this
      · rw [upd_ne (ne_of_none e hD), upd_ne (ne_of_none (s1 _ _ e) hl)]; exact s1 _ _ e
    · -- self.below = ..; the loop
      refine ⟨_, rfl, t, C, dx, _, rfl, s1 _ _ hta, T.cl, T.nB, (by show 1 < 1000; decide), ?_⟩
      rw [chV_len] at e1
      generalize hHb : upd H' t (.ins C dx (putF "below" (.ref D) (putF "above" (.ref c) []))) = Hb
      have hbt : Hb t = some (.ins C dx (tf c D)) := by rw [← hHb, upd_same]; rfl
      have sB : Same H0 Hb := fun b o e => by rw [← hHb, upd_ne (ne_of_none e t0)]; exact s1 _ _ (sA _ _ e)
      have lt : ∀ l ∈ ls, l ≠ t := fun l hl => (ne_of_none hta (e3 l hl).2.1).symm
      have hbD : Hb D = some (.lst (ls.map V.ref)) := by rw [← hHb, upd_ne hDt.symm]; exact e2
      have hbl : ∀ l ∈ ls, Hb l = some (.lst []) := fun l hl => by rw [← hHb, upd_ne (lt l hl)]; exact (e3 l hl).1
      refine ⟨_, rfl, _, _, rfl, SqT.of (sB _ _ C0.at_), ?_⟩
      refine for_it walk_ien (fun i σ H2 => σ.length = 4 ∧ σ[0]? = some (some (.ref t)) ∧ σ[1]? = some (some (.ref c)) ∧ Same H0 H2 ∧ H2 t = some (.ins C dx (tf c D)) ∧ H2 D = some (.lst (ls.map V.ref)) ∧ ∀ k l, ls[k]? = some l → H2 l = some (.lst (nV (kidsTo u i k))))
        ⟨rfl, rfl, rfl, sB, hbt, hbD, fun k l e => hbl l (List.mem_of_getElem? e)⟩ (fun i σ H2 hi ⟨_, _, _, s2, _⟩ => SqT.of (s2 _ _ C0.at_)) (fun i x σ H2 H3 hi ⟨hl, h0, h1, s2, g1, g2, g3⟩ y => ?_) (fun σ H2 ⟨_, _, _, s2, g1, g2, g3⟩ => ?_)
      · obtain ⟨U, a, b, rfl, nU, rfl, ea, eb⟩ := y
        cases ea
        have eb : (chV u)[i]? = some b := eb
        match σ, hl, h0, h1 with
        | [v0, v1, v2, v3], _, h0, h1 =>
          cases h0
          cases h1
          have s3 := s2.trans (upd_same_of (o := .tup [.int (i : Nat), b]) nU)
          have g1' : upd H2 U (.tup [.int (i : Nat), b]) t = some (.ins C dx (tf c D)) := by rw [upd_ne (ne_of_none g1 nU)]; exact g1
          have g2' : upd H2 U (.tup [.int (i : Nat), b]) D = some (.lst (ls.map V.ref)) := by rw [upd_ne (ne_of_none g2 nU)]; exact g2
          have g3' : ∀ k l, ls[k]? = some l → upd H2 U (.tup [.int (i : Nat), b]) l = some (.lst (nV (kidsTo u i k))) := fun k l e => by rw [upd_ne (ne_of_none (g3 k l e) nU)]; exact g3 k l e
          refine ⟨U, _, rfl, SqT.of upd_same, rfl, _, _, rfl, _, _, rfl, rfl, ?_⟩
          generalize upd H2 U (.tup [.int (i : Nat), b]) = H4 at s3 g1' g2' g3' ⊢
          refine ⟨_, rfl, rfl, _, rfl, ?_⟩
          rw [chV_len] at hi
          by_cases hi0 : i = 0
          · subst hi0
            rw [chV_zero] at eb
            cases eb
            exact ⟨rfl, rfl, rfl, s3, g1', g2', fun k l e => by rw [kidsTo_succ, if_neg (by omega), List.append_nil]; exact g3' k l e⟩
          · rw [chV_get (by omega) (by omega)] at eb
            cases eb
            have hp := Mv.par_lt C0.v (k := i) (by omega) (by omega)
            have hpl : Mv.par u i < ls.length := by omega
            have gl := g3' (Mv.par u i) ls[Mv.par u i] (List.getElem?_eq_getElem hpl)
            have lm : ls[Mv.par u i] ∈ ls := List.getElem_mem hpl
            have nlt : ls[Mv.par u i] ≠ t := lt _ lm
            have nlD : ls[Mv.par u i] ≠ D := (e3 _ lm).2.2
            have n0 : H0 ls[Mv.par u i] = none := sA.free (e3 _ lm).2.1
            refine ⟨_, rfl, t, C, dx, _, _, rfl, g1', T.cl, T.nB, tf_below _ _, _, rfl, D, _, _, V.ref ls[Mv.par u i], rfl, rfl, SqL.of g2', atI_nat (by rw [List.getElem?_map, List.getElem?_eq_getElem hpl]; rfl), .inl ⟨rfl, _, SqL.of gl⟩, _, rfl, _, _, _, rfl, rfl, gl, ?_, rfl, rfl, rfl, fun b' o e => ?_, ?_, ?_, fun k l e => ?_⟩
            · refine small1000 ?_
              unfold nV kidsTo
              rw [List.length_map]
              refine Nat.le_trans (List.length_filter_le _ _) ?_
              rw [List.length_range]
              have := C0.sz
              omega
            · rw [upd_ne (ne_of_none e n0)]; exact s3 _ _ e
            · rw [upd_ne nlt.symm]; exact g1'
            · rw [upd_ne nlD.symm]; exact g2'
            · rw [kidsTo_succ]
              have hk := (List.getElem?_eq_some_iff.mp e).1
              by_cases hkp : Mv.par u i = k
              · subst hkp
                rw [List.getElem?_eq_getElem hpl] at e
                cases e
                rw [upd_same, if_pos ⟨by omega, rfl⟩]
                unfold nV
                rw [List.map_append]
                rfl
              · have : l ≠ ls[Mv.par u i] := fun z => by
                  rw [z] at e
                  obtain ⟨_, z2⟩ := List.getElem?_eq_some_iff.mp e
                  exact hkp ((List.getElem_inj e4).mp z2.symm)
                rw [upd_ne this, if_neg (fun z => hkp z.2), List.append_nil]
                exact g3' k l e
      · have g3' : ∀ k l, ls[k]? = some l → H2 l = some (.lst (nV (Mv.kids u k))) := fun k l e => by
          rw [g3 k l e, chV_len]
          rfl
        refine q H2 s2 ⟨dx, c, D, ls, g1, C0.same s2, g2, e1, g3'⟩ ⟨fun b => if b ∈ t :: c :: D :: ls then H2 b else none, ⟨dx, c, D, ls, ?_, ⟨?_, C0.v, C0.sz⟩, ?_, e1, fun k l e => ?_⟩, fun b o e => ?_, fun b xs e => ?_⟩
        · rw [if_pos (by simp)]; exact g1
        · rw [if_pos (by simp)]; exact s2 _ _ C0.at_
        · rw [if_pos (by simp)]; exact g2
        · rw [if_pos (by simp [List.mem_of_getElem? e])]; exact g3' k l e
        · have e : (if b ∈ t :: c :: D :: ls then H2 b else none) = some o := e
          split at e
          · exact e
          · cases e
        · refine if_neg fun hm => ?_
          rcases List.mem_cons.mp hm with z | hm
          · rw [z, t0] at e; cases e
          rcases List.mem_cons.mp hm with z | hm
          · rw [z, C0.at_] at e; cases e
          rcases List.mem_cons.mp hm with z | hm
          · rw [z, sA.free hD] at e; cases e
          · rw [sA.free (e3 b hm).2.1] at e; cases e
end
end Pm


/-! Promises: the tree's methods; path_to, posts_below. -/
namespace Pm
open PySem PySem.Spec PyProof.Rows L2 Ru
abbrev sPathTo : Stmt := top 14
abbrev sPostsBelow : Stmt := top 15
theorem atI_last {α : Type} (xs : List α) (v : α) : atI (xs ++ [v]) (-1) = some v := by
  unfold atI ixN
  rw [if_neg (by decide), if_pos (by rw [List.length_append, List.length_singleton]; omega)]
  have e : ((-1 : Int) + ((xs ++ [v]).length : Nat)).toNat = xs.length := by rw [List.length_append, List.length_singleton]; omega
  show (xs ++ [v])[((-1 : Int) + ((xs ++ [v]).length : Nat)).toNat]? = some v
  rw [e]
  simp
theorem int_eq {i j : Int} : decide (V.int i = V.int j) = decide (i = j) := decide_eq_decide.mpr ⟨fun h => by cases h; rfl, fun h => by rw [h]⟩
theorem nV_app (a b : List Nat) : nV (a ++ b) = nV a ++ nV b := by unfold nV; rw [List.map_append]
section
variable {P : Program} {w : World} {K : PySem.W.Frag} {mg : Str → Option Value} {base : Heap} {C : Addr}
theorem scTPath : FnScope ["self", "post", "posts"] ["self", "post"] (defScope sTPath) := ⟨rfl, rfl, rfl, by decide +kernel, rfl, by decide +kernel, by decide +kernel⟩
theorem c_tpath {f : Addr} {fd : FuncData} (F : Fun K "path" "Tree.path" sTPath f fd) (T : TTx K mg C) : FnOk P w K mg base CX0 1 f fd ["self", "post"] (spTPath C) := by
  refine F.ok scTPath (fun vs H Q E h => ?_) (fun cdv A outer s H vs Q E hr h => ?_)
  · obtain ⟨t, u, p, rfl, _⟩ := h; rfl
  · obtain ⟨t, u, p, rfl, ⟨dx, c, bl, ls, h1, h2, h3, h4, h5⟩, hp, q⟩ := h
    refine ⟨_, pss_cons (ps_set (i := 2) scTPath.nd rfl (.inl rfl) (pe_lst (pa_cons (pv 1) pa_nil)))
      (pss_cons (ps_while PassesOwn.never (pt_cmpR op_ne (pe_ix ix_list (pv 2) (pe_un un_neg pe_int) (fun _ _ => rfl)) pe_int (nomark _))
        (pss_one (ps_expr (pe_bm PySem.F.plainAttrs_list PySem.F.slot_list_append PySem.F.type_list_append mt_append (pv 2) (pa_cons (pe_ix ix_tup (pe_fld (pv 0) rfl) (pe_ix ix_list (pv 2) (pe_un un_neg pe_int) (fun _ _ => rfl)) (fun _ _ => rfl)) pa_nil)))))
      (pss_one (ps_ret (pe_revL (pv 2))))), ?_⟩
    refine ⟨_, rfl, (by show 1 ≤ sizeLine; decide), fun l hl => ?_⟩
    have s0 : Same H (upd H l (.lst [.int (p : Nat)])) := upd_same_of hl
    refine ⟨fun m σ H' => σ = [some (.ref t), some (.int (p : Nat)), some (.ref l)] ∧ Same H H' ∧ ∃ (pre : List Nat) (q : Nat), m = q ∧ q ≤ u.length ∧ pre.length + q ≤ p ∧ Mv.up u p = pre ++ Mv.up u q ∧ H' l = some (.lst (nV (pre ++ [q]))), ⟨p, rfl, s0, [], p, rfl, hp, by simp, rfl, upd_same⟩, ?_⟩
    rintro m σ H' ⟨rfl, s1, pre, a, rfl, ha, hpa, hu, hL⟩
    have nlt : t ≠ l := ne_of_none h1 hl
    refine ⟨_, rfl, _, rfl, l, _, _, V.int (m : Nat), rfl, rfl, SqL.of hL, (by rw [nV_app]; exact atI_last _ _), rfl, _, rfl, ?_⟩
    rw [int_eq]
    by_cases h0 : m = 0
    · subst h0
      refine ⟨_, rfl, _, _, rfl, SqL.of hL, fun r hr' => ?_⟩
      refine q _ r (fun b o e => ?_) (s1.free hr') ?_
      · rw [upd_ne (ne_of_none (s1 _ _ e) hr')]; exact s1 _ _ e
      · rw [upd_same]
        unfold nV Mv.path
        rw [hu, Mv.up_zero, List.map_reverse]
    · rw [decide_eq_false (by omega : ¬ ((m : Nat) : Int) = 0)]
      have lt := Mv.par_lt h2.v (k := m) (by omega) ha
      refine ⟨fun σ' H2 => σ' = [some (.ref t), some (.int (p : Nat)), some (.ref l)] ∧ Same H H2 ∧ H2 l = some (.lst (nV (pre ++ [m] ++ [Mv.par u m]))), fun σ' H2 ⟨e1, e2, e3⟩ => ⟨Mv.par u m, lt, e1, e2, pre ++ [m], Mv.par u m, rfl, by omega, by rw [List.length_append, List.length_singleton]; omega, ?_, e3⟩, ?_⟩
      · rw [hu, Mv.up_succ h2.v (by omega) ha, List.append_assoc]; rfl
      · refine ⟨_, rfl, .inl ⟨rfl, _, SqL.of hL⟩, _, rfl, t, C, dx, _, V.ref c, rfl, s1 _ _ h1, T.cl, T.nA, tf_above _ _, _, rfl, _, rfl, l, _, _, V.int (m : Nat), rfl, rfl, SqL.of hL, (by rw [nV_app]; exact atI_last _ _), c, _, _, V.int (Mv.par u m : Nat), rfl, rfl, SqT.of (s1 _ _ h2.at_), atI_nat (chV_get (by omega) ha), l, _, _, rfl, rfl, hL, ?_, rfl, fun b o e => ?_, ?_⟩
        · refine small1000 ?_
          unfold nV
          rw [List.length_map, List.length_append, List.length_singleton]
          have := h2.sz
          omega
        · rw [upd_ne (ne_of_none e hl)]; exact s1 _ _ e
        · rw [upd_same, nV_app (pre ++ [m])]; rfl
theorem scTBelow : FnScope ["self", "post", "top"] ["self", "post", "top"] (defScope sTBelow) := ⟨rfl, rfl, rfl, by decide +kernel, rfl, by decide +kernel, by decide +kernel⟩
theorem c_tbelow {f : Addr} {fd : FuncData} (F : Fun K "is_below" "Tree.is_below" sTBelow f fd) (T : TTx K mg C) : FnOk P w K mg base CX0 1 f fd ["self", "post", "top"] (spTBelow C) := by
  refine F.ok scTBelow (fun vs H Q E h => ?_) (fun cdv A outer s H vs Q E hr h => ?_)
  · obtain ⟨t, u, p, q, rfl, _⟩ := h; rfl
  · obtain ⟨t, u, p, a, rfl, ⟨dx, c, bl, ls, h1, h2, h3, h4, h5⟩, hp, q⟩ := h
    refine ⟨_, pss_cons (ps_while PassesOwn.never (pt_cmpR op_gt (pv 1) (pv 2) (nomark _)) (pss_one (ps_set (i := 1) scTBelow.nd rfl (.inl rfl) (pe_ix ix_tup (pe_fld (pv 0) rfl) (pv 1) (fun _ _ => rfl)))))
      (pss_one (ps_ret (pe_cmpR op_eq (pv 1) (pv 2) (nomark _)))), ?_⟩
    refine ⟨fun m σ H' => H' = H ∧ σ = [some (.ref t), some (.int (m : Nat)), some (.int (a : Nat))] ∧ m ≤ u.length ∧ (a ∈ Mv.up u p ↔ a ∈ Mv.up u m), ⟨p, rfl, rfl, hp, Iff.rfl⟩, ?_⟩
    rintro m σ H' ⟨rfl, rfl, hm, hiff⟩
    refine ⟨_, rfl, _, rfl, _, _, rfl, rfl, _, rfl, ?_⟩
    by_cases hlt : a < m
    · rw [decide_eq_true (by omega : ((a : Nat) : Int) < (m : Nat))]
      have lt := Mv.par_lt h2.v (k := m) (by omega) hm
      refine ⟨fun σ' H2 => H2 = H' ∧ σ' = [some (.ref t), some (.int (Mv.par u m : Nat)), some (.int (a : Nat))], fun σ' H2 ⟨e1, e2⟩ => ⟨Mv.par u m, lt, e1, e2, by omega, ?_⟩, ?_⟩
      · rw [hiff, Mv.up_succ h2.v (by omega) hm, List.mem_cons]
        exact ⟨fun z => z.resolve_left (by omega), .inr⟩
      · exact ⟨_, rfl, t, C, dx, _, V.ref c, rfl, h1, T.cl, T.nA, tf_above _ _, _, rfl, c, _, _, V.int (Mv.par u m : Nat), rfl, rfl, SqT.of h2.at_, atI_nat (chV_get (by omega) hm), rfl, rfl⟩
    · rw [decide_eq_false (by omega : ¬ ((a : Nat) : Int) < (m : Nat))]
      refine ⟨_, rfl, _, rfl, rfl, ?_⟩
      rw [int_eq]
      have e : decide (((m : Nat) : Int) = (a : Nat)) = decide (a ∈ Mv.up u p) := by
        refine decide_eq_decide.mpr ?_
        rw [hiff]
        constructor
        · intro z
          have : m = a := by omega
          rw [← this]
          exact Mv.self_mem_up u m
        · intro z
          have := Mv.mem_up_le u m a z
          omega
      rw [e]
      exact q
end
end Pm


/-! Promises: path_to, posts_below. -/
namespace Pm
open PySem PySem.Spec PyProof.Rows L2 Ru
theorem pe_imp {X : Cx} {e : Expr} {t t' : TE} (h : PE X e t) (i : ∀ σ H Q, t' σ H Q → t σ H Q) : PE X e t' := ⟨fun pins s σ H Q I q => h.run pins s σ H Q I (i σ H Q q)⟩
/-- the class Tree with its promises -/
structure Tr (P : Program) (w : World) (K : PySem.W.Frag) (mg : Str → Option Value) (base : Heap) (C : Addr) : Prop where
  T : TTx K mg C
  make : ∃ f fd, Mk K C f ∧ FnOk P w K mg base CX0 1 f fd ["self", "chart"] (spTInit C) ∧ Binds K fd ["self", "chart"] []
  path : ∃ f fd, Meth K C "path" f ∧ FnOk P w K mg base CX0 1 f fd ["self", "post"] (spTPath C) ∧ Binds K fd ["self", "post"] []
  below : ∃ f fd, Meth K C "is_below" f ∧ FnOk P w K mg base CX0 1 f fd ["self", "post", "top"] (spTBelow C) ∧ Binds K fd ["self", "post", "top"] []
section
variable {X : Cx} {C : Addr} {j : Nat} {p px pos apos : Pos} {e e2 o : Expr} {te te2 to : TE} {x : Str} {ta : TA} {es : List Expr}
def tTree (C : Addr) (i : Nat) : TE := fun σ H Q => ∃ c u, σ[i]? = some (some (.ref c)) ∧ ChA H c u ∧ ∀ H2 t, Same H H2 → H t = none → TreeAt C H2 t u → Q (.ref t) H2
/-- Tree(x), x a name -/
theorem pe_tree (i : Nat) (R : Tr X.prog X.w X.K X.mg X.base C) (hr : Room j X.A) (hk : 2 ≤ j := by decide) (hN : X.N[i]? = some x := by rfl) (hv : Vis X.env.scope x := by first | exact Or.inl rfl | exact Or.inr (Or.inl rfl) | exact Or.inr (Or.inr rfl)) (hg : Gl X "Tree" := by rfl)
    (hd : (x == ("__debug__" : Str)) = false := by decide) (hcd : (x == ("__classdict__" : Str)) = false := by decide)
    (h1 : starEach [.Name x px] X.env = (false, eval (.Name x px) X.env) :: starEach [] X.env := by rfl) (hpl : (backTo pos (starEach [] X.env)).any (·.1) = false := by rfl) :
    PE X (.Call (.Name "Tree" p) [.Name x px] [] pos) (tTree C i) := by
  obtain ⟨f, fd, M, F, b⟩ := R.make
  refine pe_imp (pe_make (p := p) (pos := pos) M F (hr.mono hk) hg R.T.mgC b .nil pass0 (pa_cons (pe_var (pos := px) hN hv hd hcd) pa_nil h1) (by decide) h1 hpl) fun σ H Q ⟨c, u, hi, hC, q⟩ => ?_
  refine ⟨_, hi, fun t dx n1 n2 n3 => ?_⟩
  have s0 : Same H (upd (upd H dx (.own t)) t (.ins C dx [])) := fun b o e => by rw [upd_ne (ne_of_none e n1), upd_ne (ne_of_none e n2)]; exact e
  exact ⟨H, t, c, dx, u, rfl, s0, n1, upd_same, hC, fun H' s1 T1 _ => ⟨rfl, q H' t s1 n1 T1⟩⟩
def tTreeN (C : Addr) (i : Nat) : TE := fun σ H Q => ∃ c u, σ[i]? = some (some (.ref c)) ∧ ChA H c u ∧ ∀ H2 t, Same H H2 → H t = none → Solo C H H2 t u → Q (.ref t) H2
theorem pe_treeN (i : Nat) (R : Tr X.prog X.w X.K X.mg X.base C) (hr : Room j X.A) (hk : 2 ≤ j := by decide) (hN : X.N[i]? = some x := by rfl) (hv : Vis X.env.scope x := by first | exact Or.inl rfl | exact Or.inr (Or.inl rfl) | exact Or.inr (Or.inr rfl)) (hg : Gl X "Tree" := by rfl)
    (hd : (x == ("__debug__" : Str)) = false := by decide) (hcd : (x == ("__classdict__" : Str)) = false := by decide)
    (h1 : starEach [.Name x px] X.env = (false, eval (.Name x px) X.env) :: starEach [] X.env := by rfl) (hpl : (backTo pos (starEach [] X.env)).any (·.1) = false := by rfl) :
    PE X (.Call (.Name "Tree" p) [.Name x px] [] pos) (tTreeN C i) := by
  obtain ⟨f, fd, M, F, b⟩ := R.make
  refine pe_imp (pe_make (p := p) (pos := pos) M F (hr.mono hk) hg R.T.mgC b .nil pass0 (pa_cons (pe_var (pos := px) hN hv hd hcd) pa_nil h1) (by decide) h1 hpl) fun σ H Q ⟨c, u, hi, hC, q⟩ => ?_
  refine ⟨_, hi, fun t dx n1 n2 n3 => ?_⟩
  have s0 : Same H (upd (upd H dx (.own t)) t (.ins C dx [])) := fun b o e => by rw [upd_ne (ne_of_none e n1), upd_ne (ne_of_none e n2)]; exact e
  exact ⟨H, t, c, dx, u, rfl, s0, n1, upd_same, hC, fun H' s1 _ S1 => ⟨rfl, q H' t s1 n1 S1⟩⟩
theorem pe_tpath (R : Tr X.prog X.w X.K X.mg X.base C) (hr : Room j X.A) (ho : PE X o to) (ha : PE X e te) (hk : 1 ≤ j := by decide) (hst : starEach [e] X.env = (false, eval e X.env) :: starEach [] X.env := by rfl) (hpl : (backTo pos (starEach [] X.env)).any (·.1) = false := by rfl)
    {pl : Sem Bool} (ht : eval (.Call (.Attribute o "path" apos) [e] [] pos) X.env = (do
      let ov ← eval o X.env
      standAt apos.atName
      let (f, first) ← holding [ov] (getMethod ov "path" pl)
      callWith pos f first (backTo pos (starEach [e] X.env)) (backToKw pos (keywordEach [] X.env))) := by rfl) :
    PE X (.Call (.Attribute o "path" apos) [e] [] pos) (tMeth C "path" (spTPath C) [] E0 to (tCons te tNil)) := by
  obtain ⟨f, fd, M, F, b⟩ := R.path
  exact pe_meth ho R.T.cl M F (hr.mono hk) b .nil pass0 (pa_cons ha pa_nil hst) hst hpl ht
theorem pe_tbelow (R : Tr X.prog X.w X.K X.mg X.base C) (hr : Room j X.A) (ho : PE X o to) (ha : PA X (e :: es) ta) (hk : 1 ≤ j := by decide) (hst : starEach (e :: es) X.env = (false, eval e X.env) :: starEach es X.env := by rfl) (hpl : (backTo pos (starEach es X.env)).any (·.1) = false := by rfl)
    {pl : Sem Bool} (ht : eval (.Call (.Attribute o "is_below" apos) (e :: es) [] pos) X.env = (do
      let ov ← eval o X.env
      standAt apos.atName
      let (f, first) ← holding [ov] (getMethod ov "is_below" pl)
      callWith pos f first (backTo pos (starEach (e :: es) X.env)) (backToKw pos (keywordEach [] X.env))) := by rfl) :
    PE X (.Call (.Attribute o "is_below" apos) (e :: es) [] pos) (tMeth C "is_below" (spTBelow C) [] E0 to ta) := by
  obtain ⟨f, fd, M, F, b⟩ := R.below
  exact pe_meth ho R.T.cl M F (hr.mono hk) b .nil pass0 ha hst hpl ht
end
theorem walk0 {n : Nat} : Walk (Itr 0 n) n (fun _ => True) (YFn fun i => .int ((i : Nat) : Int)) := walk_range.mono (fun _ h => h) fun i H x H' _ _ ⟨e1, e2⟩ => ⟨e1, by rw [e2]; show V.int (0 + (i : Nat)) = _; rw [Int.zero_add]⟩
theorem tree_ins {C : Addr} {H : Hp} {t : Addr} {u : List Nat} (h : TreeAt C H t u) {m : Str} (h1 : ¬ m = "below" := by decide +kernel) (h2 : ¬ m = "above" := by decide +kernel) : ∃ dx fs, H t = some (.ins C dx fs) ∧ fs.lookup m = none := by
  obtain ⟨dx, c, bl, ls, g1, _⟩ := h.ex
  exact ⟨dx, _, g1, tf_no _ _ h1 h2⟩
def spPathTo : Sp := fun vs H Q _ => ∃ (c : Addr) (u : List Nat) (p : Nat), vs = [.ref c, .int p] ∧ ChA H c u ∧ p ≤ u.length ∧ ∀ H' l, Same H H' → H l = none → H' l = some (.lst (nV (Mv.path u p))) → Q (.ref l) H'
def spPostsBelow : Sp := fun vs H Q _ => ∃ (c : Addr) (u : List Nat) (p : Nat), vs = [.ref c, .int p] ∧ ChA H c u ∧ p ≤ u.length ∧ ∀ H' l, Same H H' → H l = none → H' l = some (.lst (nV (Mv.downs u p))) → Q (.ref l) H'
section
variable {P : Program} {w : World} {K : PySem.W.Frag} {mg : Str → Option Value} {base : Heap} {C : Addr}
theorem scPathTo : FnScope ["chart", "post"] ["chart", "post"] (defScope sPathTo) := ⟨rfl, rfl, rfl, by decide +kernel, rfl, by decide +kernel, by decide +kernel⟩
theorem c_path_to (G : Gn K mg "path_to" sPathTo ["chart", "post"]) (R : Tr P w K mg base C) (c1 : Cal P w K mg base 3 "require_chart" spChart) (c2 : Cal P w K mg base 2 "require_post" spReqPost) : Cal P w K mg base 4 "path_to" spPathTo := by
  refine G.cal scPathTo (fun vs H Q E h => ?_) (fun f cdv A outer s H vs Q E hr h => ?_)
  · obtain ⟨c, u, p, rfl, _⟩ := h; rfl
  · obtain ⟨c, u, p, rfl, hC, hp, q⟩ := h
    refine ⟨_, pss_cons (ps_expr (pe_c c1 hr (pa_cons (pv 0) pa_nil))) (pss_cons (ps_expr (pe_c c2 hr (pa_cons (pv 0) (pa_cons (pv 1) pa_nil)))) (pss_one (ps_ret (pe_tpath R hr (pe_tree 0 R hr) (pv 1))))), ?_⟩
    refine ⟨_, rfl, c, u, rfl, hC, fun H1 s1 => ⟨_, rfl, _, rfl, c, u, p, rfl, hC.same s1, hp, c, u, rfl, hC.same s1, fun H2 t s2 n2 T2 => ?_⟩⟩
    obtain ⟨dx, fs, g1, g2⟩ := tree_ins T2 (m := "path")
    exact ⟨t, dx, fs, rfl, g1, g2, _, rfl, t, u, p, rfl, T2, hp, fun H' l s3 n3 e3 => q H' l ((s1.trans s2).trans s3) ((s1.trans s2).free n3) e3⟩
theorem scPostsBelow : FnScope ["chart", "post", "tree", "other"] ["chart", "post"] (defScope sPostsBelow) := ⟨rfl, rfl, rfl, by decide +kernel, rfl, by decide +kernel, by decide +kernel⟩
theorem c_posts_below (G : Gn K mg "posts_below" sPostsBelow ["chart", "post"]) (B : Bt mg) (R : Tr P w K mg base C) (c1 : Cal P w K mg base 3 "require_chart" spChart) (c2 : Cal P w K mg base 2 "require_post" spReqPost) : Cal P w K mg base 4 "posts_below" spPostsBelow := by
  refine G.cal scPostsBelow (fun vs H Q E h => ?_) (fun f cdv A outer s H vs Q E hr h => ?_)
  · obtain ⟨c, u, p, rfl, _⟩ := h; rfl
  · obtain ⟨c, u, p, rfl, hC, hp, q⟩ := h
    refine ⟨_, pss_cons (ps_expr (pe_c c1 hr (pa_cons (pv 0) pa_nil))) (pss_cons (ps_expr (pe_c c2 hr (pa_cons (pv 0) (pa_cons (pv 1) pa_nil)))) (pss_cons (ps_set (i := 2) scPostsBelow.nd rfl (.inr rfl) (pe_tree 0 R hr))
      (pss_one (ps_ret (pe_lc rfl scPostsBelow.nd (pi_range1 (by rfl) B.range (pa_cons (pe_callB call_len_seq (by rfl) B.len PySem.boot_len (pa_cons (pv 0) pa_nil)) pa_nil)) (blk_by (own := [("other", 3)]) (by kernel_rfl))
        (fun _ _ _ _ _ => pg_name (i := 3) scPostsBelow.nd rfl (.inl rfl)) (fun _ _ _ _ _ => pts_one (pt_val (pe_tbelow R hr (pv 2) (pa_cons (pv 3) (pa_cons (pv 1) pa_nil))))) (fun _ _ _ _ _ => pv 3)))))), ?_⟩
    refine ⟨_, rfl, c, u, rfl, hC, fun H1 s1 => ⟨_, rfl, _, rfl, c, u, p, rfl, hC.same s1, hp, c, u, rfl, hC.same s1, fun H2 t s2 n2 T2 => ?_⟩⟩
    have s02 := s1.trans s2
    refine ⟨_, rfl, c, _, rfl, .inr (SqT.of (s02 _ _ hC.at_)), _, rfl, ?_⟩
    rw [chV_len]
    have sz := hC.sz
    refine ⟨by omega, by omega, fun D hD => ?_⟩
    rw [Int.toNat_natCast]
    refine lc_it walk0 (fun i H' => Same H2 H' ∧ H' D = some (.lst (nV ((List.range i).filter fun k => decide (p ∈ Mv.up u k))))) ⟨upd_same_of hD, upd_same⟩ (fun _ _ _ _ => trivial) (fun i x H' H3 hi ⟨s3, e3⟩ y => ?_) (fun H' ⟨s3, e3⟩ => ?_)
    · obtain ⟨rfl, rfl⟩ := y
      obtain ⟨dx, fs, g1, g2⟩ := tree_ins (T2.same s3) (m := "is_below")
      refine ⟨rfl, _, rfl, t, dx, fs, rfl, g1, g2, _, rfl, _, rfl, t, u, i, p, rfl, T2.same s3, by omega, _, rfl, ?_⟩
      by_cases hb : p ∈ Mv.up u i
      · rw [decide_eq_true hb]
        refine ⟨_, rfl, _, e3, ?_, fun b o e => ?_, ?_⟩
        · refine small1000 ?_
          unfold nV
          rw [List.length_map]
          refine Nat.le_trans (List.length_filter_le _ _) ?_
          rw [List.length_range]
          omega
        · rw [upd_ne (ne_of_none e hD)]; exact s3 _ _ e
        · rw [upd_same, List.range_succ, List.filter_append, List.filter_cons, if_pos (decide_eq_true hb), nV_app]
          rfl
      · rw [decide_eq_false hb]
        refine ⟨s3, ?_⟩
        rw [List.range_succ, List.filter_append, List.filter_cons, if_neg (by simpa using hb), List.filter_nil, List.append_nil]
        exact e3
    · exact q H' D (s02.trans s3) (s02.free hD) e3
end
end Pm


/-! Promises: the checks of an arrangement. -/
namespace Pm
open PySem PySem.Spec PyProof.Rows L2 Ru
abbrev sFirstFault : Stmt := top 18
abbrev sRepeats : Stmt := top 19
abbrev sOutOfOrder : Stmt := top 20
structure ArA (H : Hp) (a : Addr) (u : List Nat) (r : Mv.Rows) : Prop where
  at_ : H a = some (.tup (rV r))
  ok : Mv.ArrOk u r
theorem ArA.same {H H' : Hp} {a : Addr} {u : List Nat} {r : Mv.Rows} (h : ArA H a u r) (s : Same H H') : ArA H' a u r := ⟨s _ _ h.at_, h.ok⟩
def noF (n : Nat) : List V := List.replicate n (.bl false)
def spFirstFault : Sp := fun vs H Q _ => ∃ wd l n, vs = [wd, .ref l] ∧ H l = some (.lst (noF n)) ∧ ∀ H', Same H H' → Q .non H'
def spRepeats : Sp := fun vs H Q _ => ∃ a u r, vs = [.ref a] ∧ ArA H a u r ∧ u.length ≤ 100 ∧ ∀ H' l, Same H H' → H l = none → H' l = some (.lst (noF r.length)) → Q (.ref l) H'
def spOutOfOrder : Sp := fun vs H Q _ => ∃ c u a r, ∃ k : Nat, vs = [.ref c, .ref a, .int k] ∧ ChA H c u ∧ ArA H a u r ∧ k ≤ u.length ∧ Q (.bl false) H
theorem noF_succ (n : Nat) : noF (n + 1) = noF n ++ [.bl false] := List.replicate_succ'
section
variable {P : Program} {w : World} {K : PySem.W.Frag} {mg : Str → Option Value} {base : Heap} {C : Addr}
theorem scFirstFault : FnScope ["word", "faults", "index", "fault"] ["word", "faults"] (defScope sFirstFault) := ⟨rfl, rfl, rfl, by decide +kernel, rfl, by decide +kernel, by decide +kernel⟩
theorem c_first_fault (G : Gn K mg "first_fault" sFirstFault ["word", "faults"]) (B : Bt mg) : Cal P w K mg base 1 "first_fault" spFirstFault := by
  refine G.cal scFirstFault (fun vs H Q E h => ?_) (fun f cdv A outer s H vs Q E hr h => ?_)
  · obtain ⟨wd, l, n, rfl, _⟩ := h; rfl
  · obtain ⟨wd, l, n, rfl, hl, q⟩ := h
    refine ⟨_, pss_cons (ps_for PassesOwn.never rfl (pi_enum (by rfl) B.enumerate (pa_cons (pv 1) pa_nil)) (pg_tup rfl (pgs_cons (pg_name (i := 2) scFirstFault.nd rfl (.inl rfl)) (pgs_cons (pg_name (i := 3) scFirstFault.nd rfl (.inl rfl)) pgs_nil)))
      (pss_one (ps_if (pt_val (pv 3)) pss_never pss_nil))) (pss_one (ps_ret pe_non)), ?_⟩
    refine ⟨_, rfl, _, _, rfl, SqL.of hl, ?_⟩
    refine for_it walk_enum (fun i σ H' => σ.length = 4 ∧ σ[1]? = some (some (.ref l)) ∧ Same H H') ⟨rfl, rfl, Same.refl H⟩ (fun i σ H' hi ⟨_, _, s1⟩ => SqL.of (s1 _ _ hl)) (fun i x σ H' H2 hi ⟨hl', h0, s1⟩ y => ?_) (fun σ H' ⟨_, _, s1⟩ => q _ s1)
    obtain ⟨T, a, b, rfl, nT, rfl, ea, eb⟩ := y
    cases ea
    have eb : (noF n)[i]? = some b := eb
    obtain rfl : b = .bl false := List.eq_of_mem_replicate (List.mem_of_getElem? eb)
    match σ, hl', h0 with
    | [v0, v1, v2, v3], _, h0 =>
      cases h0
      exact ⟨T, _, rfl, SqT.of upd_same, rfl, _, _, rfl, _, _, rfl, rfl, _, rfl, _, rfl, rfl, rfl, s1.trans (upd_same_of nT)⟩
theorem scRepeats : FnScope ["items", "seen", "found", "item"] ["items"] (defScope sRepeats) := ⟨rfl, rfl, rfl, by decide +kernel, rfl, by decide +kernel, by decide +kernel⟩
def kvr (r : Mv.Rows) (i : Nat) : List (Leaf × Value) := (.none, .bool false) :: ((r.take i).filterMap id).map fun x => (.num x, .bool true)
theorem not_yet {u : List Nat} {r : Mv.Rows} (A : Mv.ArrOk u r) {i : Nat} {x : Int} (h : r[i]? = some (some x)) : x ∉ (r.take i).filterMap id := fun hm => by
  obtain ⟨y, hy, e⟩ := List.mem_filterMap.mp hm
  have e : y = some x := e
  subst e
  obtain ⟨j, hj, ej⟩ := List.mem_iff_getElem.mp hy
  rw [List.getElem_take] at ej
  rw [List.length_take] at hj
  have := A.inj i j x (by rw [List.getD_eq_getElem?_getD, h]; rfl) (by rw [List.getD_eq_getElem?_getD, List.getElem?_eq_getElem (by omega), ej]; rfl)
  omega
theorem kvr_none {r : Mv.Rows} {i : Nat} {x : Int} (h : x ∉ (r.take i).filterMap id) : ∀ kv ∈ kvr r i, ¬ kv.1 = Leaf.num x := fun kv hk e => by
  rcases List.mem_cons.mp hk with z | z
  · rw [z] at e; cases e
  · obtain ⟨y, hy, rfl⟩ := List.mem_map.mp z
    cases e
    exact h hy
theorem c_repeats (G : Gn K mg "repeats" sRepeats ["items"]) (B : Bt mg) : Cal P w K mg base 1 "repeats" spRepeats := by
  refine G.cal scRepeats (fun vs H Q E h => ?_) (fun f cdv A outer s H vs Q E hr h => ?_)
  · obtain ⟨a, u, r, rfl, _⟩ := h; rfl
  · obtain ⟨a, u, r, rfl, hA, hu, q⟩ := h
    refine ⟨_, pss_cons (ps_set (i := 1) scRepeats.nd rfl (.inl rfl) pe_dispN) (pss_cons (ps_set (i := 2) scRepeats.nd rfl (.inl rfl) (pe_lst pa_nil))
      (pss_cons (ps_for PassesOwn.never rfl (pi_tup (pv 0)) (pg_name (i := 3) scRepeats.nd rfl (.inl rfl))
        (pss_cons (ps_expr (pe_bm PySem.F.plainAttrs_list PySem.F.slot_list_append PySem.F.type_list_append mt_append (pv 2) (pa_cons (pe_getN (pv 1) (pv 3) pe_bl ⟨rfl, rfl, rfl, rfl⟩) pa_nil)))
          (pss_one (ps_if (pt_cmpR op_notN (pv 3) pe_non (nomark _)) (pss_one (ps_putN (pv 1) (pv 3) pe_bl)) pss_nil)))) (pss_one (ps_ret (pv 2))))), ?_⟩
    intro d hd
    refine ⟨Nat.zero_le _, fun l hl => ?_⟩
    have hda : a ≠ d := ne_of_none hA.at_ hd
    have hdl : d ≠ l := fun e => by rw [e, upd_same] at hl; cases hl
    have hl0 : H l = none := by rw [upd_ne hdl.symm] at hl; exact hl
    have hal : a ≠ l := ne_of_none hA.at_ hl0
    have lr := hA.ok.len
    refine ⟨_, rfl, _, rfl, ⟨_, SqT.of (by rw [upd_ne hal, upd_ne hda]; exact hA.at_)⟩, ?_⟩
    refine for_it walk_tup (fun i σ H' => σ.length = 4 ∧ σ[1]? = some (some (.ref d)) ∧ σ[2]? = some (some (.ref l)) ∧ (∀ b o, b ≠ d → H b = some o → H' b = some o) ∧ H' d = some (LD P w d (kvr r i)) ∧ H' l = some (.lst (noF i)))
      ⟨rfl, rfl, rfl, fun b o hb e => by rw [upd_ne (ne_of_none e hl0), upd_ne hb]; exact e, by rw [upd_ne hdl, upd_same]; rfl, by rw [upd_same]; rfl⟩ (fun i σ H' hi ⟨_, _, _, s1, _⟩ => SqT.of (s1 _ _ hda hA.at_)) (fun i x σ H' H2 hi ⟨hln, h0, h1, s1, e1, e2⟩ y => ?_) (fun σ H' ⟨hln, h0, h1, s1, e1, e2⟩ => ?_)
    · obtain ⟨rfl, ex⟩ := y
      rw [rV_len] at hi
      rw [rV_get hi] at ex
      cases ex
      match σ, hln, h0, h1 with
      | [v0, v1, v2, v3], _, h0, h1 =>
        cases h0
        cases h1
        have sz : (kvr r i).length < 1000 := by
          unfold kvr
          rw [List.length_cons, List.length_map]
          have := List.length_filterMap_le id (r.take i)
          rw [List.length_take] at this
          omega
        have e1' : upd H2 l (.lst (noF i ++ [.bl false])) d = some (LD P w d (kvr r i)) := by rw [upd_ne hdl]; exact e1
        have s1' : ∀ b o, b ≠ d → H b = some o → upd H2 l (.lst (noF i ++ [.bl false])) b = some o := fun b o hb e => by rw [upd_ne (ne_of_none e hl0)]; exact s1 b o hb e
        have tk : r.take (i + 1) = r.take i ++ [r.getD i none] := by rw [List.take_succ, List.getElem?_eq_getElem hi, List.getD_eq_getElem?_getD, List.getElem?_eq_getElem hi]; rfl
        refine ⟨_, rfl, .inl ⟨rfl, _, SqL.of e2⟩, _, rfl, ⟨_, _, rfl, e1⟩, _, rfl, ?_⟩
        cases er : r.getD i none with
        | none =>
          refine ⟨d, _, .none, rfl, e1, rfl, .inl ⟨false, rfl, l, _, _, rfl, rfl, e2, ?_, _, rfl, rfl, _, rfl, ?_⟩⟩
          · unfold noF; rw [List.length_replicate]; exact small1000 (by omega)
          · refine ⟨rfl, rfl, rfl, s1', ?_, by rw [upd_same, noF_succ]⟩
            rw [e1']
            unfold kvr
            rw [tk, er, List.filterMap_append]
            simp
        | some x =>
          have hx : r[i]? = some (some x) := by
            rw [List.getD_eq_getElem?_getD, List.getElem?_eq_getElem hi] at er
            rw [List.getElem?_eq_getElem hi]
            exact congrArg some er
          have nk := kvr_none (not_yet hA.ok hx)
          refine ⟨d, _, .num x, rfl, e1, rfl, .inr ⟨?_, l, _, _, rfl, rfl, e2, ?_, _, rfl, rfl, _, rfl, ?_⟩⟩
          · unfold valueAt
            rw [List.find?_eq_none.mpr (fun kv hk => by simpa using nk kv hk)]
            rfl
          · unfold noF; rw [List.length_replicate]; exact small1000 (by omega)
          · refine ⟨_, rfl, _, rfl, d, _, .num x, _, rfl, e1', rfl, rfl, sz, rfl, rfl, rfl, fun b o hb e => by rw [upd_ne hb]; exact s1' b o hb e, ?_, ?_⟩
            · rw [upd_same]
              congr 2
              unfold stored
              rw [if_neg (by rw [List.any_eq_true]; rintro ⟨kv, hk, e⟩; exact nk kv hk (by simpa using e))]
              unfold kvr
              rw [tk, er, List.filterMap_append, List.map_append]
              rfl
            · rw [upd_ne hdl.symm, upd_same, noF_succ]
    · rw [rV_len] at e2
      match σ, hln, h1 with
      | [v0, v1, v2, v3], _, h1 =>
        cases h1
        exact ⟨_, rfl, q H' l (fun b o e => s1 b o (ne_of_none e hd) e) hl0 e2⟩
theorem scOutOfOrder : FnScope ["chart", "value", "post", "upper"] ["chart", "value", "post"] (defScope sOutOfOrder) := ⟨rfl, rfl, rfl, by decide +kernel, rfl, by decide +kernel, by decide +kernel⟩
theorem c_out_of_order (G : Gn K mg "is_out_of_order" sOutOfOrder ["chart", "value", "post"]) : Cal P w K mg base 1 "is_out_of_order" spOutOfOrder := by
  refine G.cal scOutOfOrder (fun vs H Q E h => ?_) (fun f cdv A outer s H vs Q E hr h => ?_)
  · obtain ⟨c, u, a, r, k, rfl, _⟩ := h; rfl
  · obtain ⟨c, u, a, r, k, rfl, hC, hA, hk, q⟩ := h
    refine ⟨_, pss_cons (ps_if (PW.pt (pw_or (pt_cmpR op_eq (pv 2) pe_int (nomark _)) (pw_or1 (pt_cmpR op_isN (pe_ix ix_tup (pv 1) (pv 2) (fun _ _ => rfl)) pe_non (nomark _))))) (pss_one (ps_ret pe_bl)) pss_nil)
      (pss_cons (ps_set (i := 3) scOutOfOrder.nd rfl (.inl rfl) (pe_ix ix_tup (pv 1) (pe_ix ix_tup (pv 0) (pv 2) (fun _ _ => rfl)) (fun _ _ => rfl)))
      (pss_one (ps_ret (pe_or (pe_cmpR op_isN (pv 3) pe_non (nomark _)) (pe_one (pe_cmpR op_gt (pv 3) (pe_ix ix_tup (pv 1) (pv 2) (fun _ _ => rfl)) (nomark _))))))), ?_⟩
    have lr := hA.ok.len
    refine ⟨_, rfl, rfl, _, rfl, ?_⟩
    rw [int_eq]
    by_cases h0 : k = 0
    · rw [decide_eq_true (by omega : ((k : Nat) : Int) = 0)]
      exact q
    · rw [decide_eq_false (by omega : ¬ ((k : Nat) : Int) = 0)]
      refine ⟨_, rfl, _, rfl, a, _, _, oV (r.getD k none), rfl, rfl, SqT.of hA.at_, atI_nat (rV_get (by omega)), rfl, _, rfl, ?_⟩
      cases er : r.getD k none with
      | none => exact q
      | some x =>
        obtain ⟨y, hy, hle⟩ := hA.ok.ord k x (by omega) hk er
        have lp := hA.ok.lt hy
        have gp : (rV r)[Mv.par u k]? = some (.int y) := by rw [rV_get (by omega), hy]; rfl
        have gk : (rV r)[k]? = some (.int x) := by rw [rV_get (by omega), er]; rfl
        refine ⟨_, rfl, _, rfl, _, rfl, c, _, _, V.int (Mv.par u k : Nat), rfl, rfl, SqT.of hC.at_, atI_nat (chV_get (by omega) hk), a, _, _, V.int y, rfl, rfl, SqT.of hA.at_, atI_nat gp, ?_⟩
        refine ⟨_, rfl, rfl, _, rfl, _, rfl, _, rfl, _, rfl, a, _, _, V.int x, rfl, rfl, SqT.of hA.at_, atI_nat gk, _, _, rfl, rfl, ?_⟩
        show Q (V.bl (decide (x < y))) H
        rw [decide_eq_false (by omega : ¬ x < y)]
        exact q
end
end Pm


/-! Promises: arrangements as a whole; where people are. -/
namespace Pm
open PySem PySem.Spec PyProof.Rows L2 Ru
abbrev sArrFault : Stmt := top 21
abbrev sReqArr : Stmt := top 22
abbrev sPostsOf : Stmt := top 23
abbrev sReqHolder : Stmt := top 24
abbrev sReqPeople : Stmt := top 25
abbrev sIsOpen : Stmt := top 26
def spArr : Sp := fun vs H Q _ => ∃ c u a r, vs = [.ref c, .ref a] ∧ ChA H c u ∧ ArA H a u r ∧ ∀ H', Same H H' → Q .non H'
def PeopleAt (H : Hp) (d : Addr) (r : Mv.Rows) : Prop := ∃ kvs : List (Key × V), H d = some (.dK kvs) ∧ ∀ j x, r.getD j none = some x → valV kvs (Sum.inl x) = some (.int (j : Nat))
def spPostsOf : Sp := fun vs H Q _ => ∃ a u r, vs = [.ref a] ∧ ArA H a u r ∧ u.length ≤ 100 ∧ ∀ H' d, Same H H' → H d = none → PeopleAt H' d r → Q (.ref d) H'
def spReqHolder : Sp := fun vs H Q _ => ∃ a u r x, vs = [.ref a, .int x] ∧ ArA H a u r ∧ some x ∈ r ∧ Q .non H
def spReqPeople : Sp := fun vs H Q _ => ∃ a u r l xs, vs = [.ref a, .ref l] ∧ ArA H a u r ∧ H l = some (.lst (iV xs)) ∧ (∀ x ∈ xs, some x ∈ r) ∧ xs.Nodup ∧ xs.length ≤ 100 ∧ ∀ H', Same H H' → Q .non H'
def spIsOpen (C : Addr) : Sp := fun vs H Q _ => ∃ t u a r, ∃ k : Nat, vs = [.ref t, .ref a, .int k] ∧ TreeAt C H t u ∧ ArA H a u r ∧ k ≤ u.length ∧ Q (.bl (Mv.isOpen u r k)) H
theorem all_flat (r : Mv.Rows) : (rV r).all flatV = true := List.all_eq_true.mpr fun v hv => by
  obtain ⟨k, _, rfl⟩ := List.mem_map.mp hv
  cases k <;> rfl
theorem all_flatI (l : List Int) : (iV l).all flatV = true := List.all_eq_true.mpr fun v hv => by
  obtain ⟨k, _, rfl⟩ := List.mem_map.mp hv
  rfl
theorem in_rV (r : Mv.Rows) (x : Int) : inV (.int x) (rV r) = decide (some x ∈ r) := by
  unfold inV rV
  rw [List.any_map, Bool.eq_iff_iff, List.any_eq_true, decide_eq_true_eq]
  constructor
  · rintro ⟨y, hy, e⟩
    cases y with
    | none => exact absurd e (by simp [oV, eqV])
    | some y =>
      have : y = x := by simpa [oV, eqV] using e
      rw [← this]; exact hy
  · intro h
    exact ⟨some x, h, by simp [oV, eqV]⟩
theorem in_iV (l : List Int) (x : Int) : inV (.int x) (iV l) = decide (x ∈ l) := by
  unfold inV iV
  rw [List.any_map, Bool.eq_iff_iff, List.any_eq_true, decide_eq_true_eq]
  constructor
  · rintro ⟨y, hy, e⟩
    have : y = x := by simpa [eqV] using e
    rw [← this]; exact hy
  · intro h
    exact ⟨x, h, by simp [eqV]⟩
/-- a dict comprehension over any walk -/
theorem dc_it {J : It} {n : Nat} {G : Hp → Prop} {Y : Nat → Hp → V → Hp → Prop} (w : Walk J n G Y) {g : TG} {tt : TT} {tk tv : TE} {vs : List Nat} {σ : L2.St} {H1 : Hp} {D : Addr} {Qd : Hp → Prop} (Pv : Nat → Hp → Prop) (h0 : Pv 0 (upd H1 D (.dK []))) (hG : ∀ i H, i ≤ n → Pv i H → G H)
    (hs : ∀ i x H H', i < n → Pv i H → Y i H x H' → g x (wipe σ vs) H' fun σ2 H2 => wipe σ2 vs = wipe σ vs ∧ tt σ2 H2 fun b H3 =>
      if b = true then tk σ2 H3 fun y H4 => tv σ2 H4 fun z H5 => ∃ kvs k, y = kV k ∧ H5 D = some (.dK kvs) ∧ kvs.length < sizeLine ∧ Pv (i + 1) (upd H5 D (.dK (putK kvs k z))) else Pv (i + 1) H3) (hd : ∀ H, Pv n H → Qd H) :
    ∃ W : Nat → Nat → Hp → Prop, (∃ m, W 0 m (upd H1 D (.dK []))) ∧ ∀ i m H, W i m H →
      (J.stop i H ∧ Qd H) ∨ (J.go i H ∧ ∃ Nx : Hp → Prop, (∀ H', Nx H' → ∃ m', m' < m ∧ W (i + 1) m' H') ∧ ∀ x H', J.yld i H x H' → g x (wipe σ vs) H' fun σ2 H2 => wipe σ2 vs = wipe σ vs ∧ tt σ2 H2 fun b H3 =>
        if b = true then tk σ2 H3 fun y H4 => tv σ2 H4 fun z H5 => ∃ kvs k, y = kV k ∧ H5 D = some (.dK kvs) ∧ kvs.length < sizeLine ∧ Nx (upd H5 D (.dK (putK kvs k z))) else Nx H3) := by
  refine ⟨fun i m H => m + i = n ∧ Pv i H, ⟨n, rfl, h0⟩, fun i m H ⟨e, p⟩ => ?_⟩
  have q := hG i H (by omega) p
  cases m with
  | zero =>
    have : i = n := by omega
    subst this
    exact .inl ⟨w.stops H q, hd H p⟩
  | succ m => exact .inr ⟨w.goes i H (by omega) q, Pv (i + 1), fun H' p' => ⟨m, by omega, by omega, p'⟩, fun x H' y => hs i x H H' (by omega) p (w.yields i H x H' (by omega) q y)⟩
theorem putK_len (kvs : List (Key × V)) (k : Key) (v : V) : (putK kvs k v).length ≤ kvs.length + 1 := by
  unfold putK
  split
  · rw [List.length_map]; omega
  · rw [List.length_append]; exact Nat.le_refl _
section
variable {P : Program} {w : World} {K : PySem.W.Frag} {mg : Str → Option Value} {base : Heap} {C : Addr}
theorem scArrFault : FnScope ["chart", "value", "reason", "person", "post"] ["chart", "value"] (defScope sArrFault) := ⟨rfl, rfl, rfl, by decide +kernel, rfl, by decide +kernel, by decide +kernel⟩
theorem c_arr_fault (G : Gn K mg "arrangement_fault" sArrFault ["chart", "value"]) (B : Bt mg) (cP : Cal P w K mg base 2 "is_person" spPerson) (cF : Cal P w K mg base 1 "first_fault" spFirstFault) (cR : Cal P w K mg base 1 "repeats" spRepeats) (cO : Cal P w K mg base 1 "is_out_of_order" spOutOfOrder) :
    Cal P w K mg base 3 "arrangement_fault" spArr := by
  refine G.cal scArrFault (fun vs H Q E h => ?_) (fun f cdv A outer s H vs Q E hr h => ?_)
  · obtain ⟨c, u, a, r, rfl, _⟩ := h; rfl
  · obtain ⟨c, u, a, r, rfl, hC, hA, q⟩ := h
    refine ⟨_, pss_cons (ps_if (PW.pt (pw_or (pt_not (pt_val (pe_isi B (pv 1) B.tuple PyProof.Rows.boot_tuple))) (pw_or1 (pt_cmpR op_ne (pe_callB call_len_seq (by rfl) B.len PySem.boot_len (pa_cons (pv 1) pa_nil)) (pe_callB call_len_seq (by rfl) B.len PySem.boot_len (pa_cons (pv 0) pa_nil)) (nomark _))))) pss_never pss_nil)
      (pss_cons (ps_set (i := 2) scArrFault.nd rfl (.inl rfl) (pe_c cF hr (pa_cons pe_str (pa_cons (pe_lc rfl scArrFault.nd (pi_tup (pv 1)) (blk_by (own := [("person", 3)]) (by kernel_rfl)) (fun _ _ _ _ _ => pg_name (i := 3) scArrFault.nd rfl (.inl rfl)) (fun _ _ _ _ _ => pts_nil)
        (fun _ _ _ _ _ => pe_and (pe_cmpR op_notN (pv 3) pe_non (nomark _)) (pe_one (pe_not (pe_c cP hr (pa_cons (pv 3) pa_nil)))))) pa_nil))))
      (pss_cons (ps_if (pt_cmpR op_notN (pv 2) pe_non (nomark _)) pss_never pss_nil)
      (pss_cons (ps_set (i := 2) scArrFault.nd rfl (.inl rfl) (pe_c cF hr (pa_cons pe_str (pa_cons (pe_c cR hr (pa_cons (pv 1) pa_nil)) pa_nil))))
      (pss_cons (ps_if (pt_cmpR op_notN (pv 2) pe_non (nomark _)) pss_never pss_nil)
      (pss_one (ps_ret (pe_c cF hr (pa_cons pe_str (pa_cons (pe_lc rfl scArrFault.nd (pi_range1 (by rfl) B.range (pa_cons (pe_callB call_len_seq (by rfl) B.len PySem.boot_len (pa_cons (pv 0) pa_nil)) pa_nil)) (blk_by (own := [("post", 4)]) (by kernel_rfl)) (fun _ _ _ _ _ => pg_name (i := 4) scArrFault.nd rfl (.inl rfl)) (fun _ _ _ _ _ => pts_nil)
        (fun _ _ _ _ _ => pe_c cO hr (pa_cons (pv 0) (pa_cons (pv 1) (pa_cons (pv 4) pa_nil))))) pa_nil))))))))), ?_⟩
    have lr := hA.ok.len
    have sz := hC.sz
    refine ⟨_, rfl, _, _, _, _, true, rfl, .ty _, .base (.tup hA.at_), kit_ty (by decide +kernel), _, rfl, ?_⟩
    refine ⟨_, rfl, a, _, rfl, .inr (SqT.of hA.at_), _, rfl, c, _, rfl, .inr (SqT.of hC.at_), rfl, _, rfl, ?_⟩
    rw [int_eq, rV_len, chV_len, lr, decide_eq_true rfl]
    -- person
    refine ⟨_, rfl, _, rfl, ⟨_, SqT.of hA.at_⟩, fun D hD => ?_⟩
    refine lc_it walk_tup (fun i H' => Same H H' ∧ H' D = some (.lst (noF i))) ⟨upd_same_of hD, upd_same⟩ (fun i H' hi ⟨s1, _⟩ => SqT.of (s1 _ _ hA.at_)) (fun i x H' H2 hi ⟨s1, e1⟩ y => ?_) (fun H1 ⟨s1, e1⟩ => ?_)
    · obtain ⟨rfl, ex⟩ := y
      rw [rV_len] at hi
      rw [rV_get hi] at ex
      cases ex
      have fin : ∀ acc, H2 D = some (.lst acc) → acc = noF i → ∃ acc, H2 D = some (.lst acc) ∧ acc.length < sizeLine ∧ Same H (upd H2 D (.lst (acc ++ [.bl false]))) ∧ upd H2 D (.lst (acc ++ [.bl false])) D = some (.lst (noF (i + 1))) := fun acc h1 h2 => by
        subst h2
        refine ⟨_, h1, ?_, fun b o e => by rw [upd_ne (ne_of_none e hD)]; exact s1 _ _ e, by rw [upd_same, noF_succ]⟩
        unfold noF; rw [List.length_replicate]; exact small1000 (by omega)
      refine ⟨rfl, _, rfl, rfl, ?_⟩
      cases er : r.getD i none with
      | none => exact ⟨_, rfl, fin _ e1 rfl⟩
      | some x =>
        have hx := hA.ok.pos x (Mv.getD_mem er)
        refine ⟨_, rfl, _, rfl, _, rfl, .inr ⟨x, rfl, _, rfl, ?_⟩⟩
        rw [decide_eq_true hx]
        exact fin _ e1 rfl
    · rw [rV_len] at e1
      refine ⟨_, D, _, rfl, e1, fun H2 s2 => ⟨_, rfl, rfl, _, rfl, ?_⟩⟩
      -- twice
      have s02 := s1.trans s2
      refine ⟨_, rfl, a, u, r, rfl, hA.same s02, by omega, fun H3 l s3 n3 e3 => ?_⟩
      refine ⟨_, l, _, rfl, e3, fun H4 s4 => ⟨_, rfl, rfl, _, rfl, ?_⟩⟩
      have s04 := (s02.trans s3).trans s4
      -- order
      refine ⟨_, rfl, c, _, rfl, .inr (SqT.of (s04 _ _ hC.at_)), _, rfl, ?_⟩
      rw [chV_len]
      refine ⟨by omega, by omega, fun D2 hD2 => ?_⟩
      rw [Int.toNat_natCast]
      refine lc_it walk0 (fun i H' => Same H4 H' ∧ H' D2 = some (.lst (noF i))) ⟨upd_same_of hD2, upd_same⟩ (fun _ _ _ _ => trivial) (fun i x H' H5 hi ⟨s5, e5⟩ y => ?_) (fun H5 ⟨s5, e5⟩ => ⟨_, D2, _, rfl, e5, fun H6 s6 => q _ ((s04.trans s5).trans s6)⟩)
      obtain ⟨rfl, rfl⟩ := y
      refine ⟨rfl, _, rfl, _, rfl, _, rfl, c, u, a, r, i, rfl, hC.same (s04.trans s5), hA.same (s04.trans s5), by omega, _, e5, ?_, fun b o e => by rw [upd_ne (ne_of_none e hD2)]; exact s5 _ _ e, by rw [upd_same, noF_succ]⟩
      unfold noF; rw [List.length_replicate]; exact small1000 (by omega)
theorem scReqArr : FnScope ["chart", "arrangement", "reason"] ["chart", "arrangement"] (defScope sReqArr) := ⟨rfl, rfl, rfl, by decide +kernel, rfl, by decide +kernel, by decide +kernel⟩
theorem c_req_arr (G : Gn K mg "require_arrangement" sReqArr ["chart", "arrangement"]) (cF : Cal P w K mg base 3 "arrangement_fault" spArr) : Cal P w K mg base 4 "require_arrangement" spArr := by
  refine G.cal scReqArr (fun vs H Q E h => ?_) (fun f cdv A outer s H vs Q E hr h => ?_)
  · obtain ⟨c, u, a, r, rfl, _⟩ := h; rfl
  · obtain ⟨c, u, a, r, rfl, hC, hA, q⟩ := h
    exact ⟨_, pss_cons (ps_set (i := 2) scReqArr.nd rfl (.inl rfl) (pe_c cF hr (pa_cons (pv 0) (pa_cons (pv 1) pa_nil)))) (pss_one (ps_if (pt_cmpR op_notN (pv 2) pe_non (nomark _)) pss_never pss_nil)),
      _, rfl, _, rfl, c, u, a, r, rfl, hC, hA, fun H' s1 => ⟨_, rfl, rfl, _, rfl, q _ s1⟩⟩
theorem scPostsOf : FnScope ["arrangement", "post", "person"] ["arrangement"] (defScope sPostsOf) := ⟨rfl, rfl, rfl, by decide +kernel, rfl, by decide +kernel, by decide +kernel⟩
theorem c_posts_of (G : Gn K mg "posts_of_people" sPostsOf ["arrangement"]) (B : Bt mg) : Cal P w K mg base 1 "posts_of_people" spPostsOf := by
  refine G.cal scPostsOf (fun vs H Q E h => ?_) (fun f cdv A outer s H vs Q E hr h => ?_)
  · obtain ⟨a, u, r, rfl, _⟩ := h; rfl
  · obtain ⟨a, u, r, rfl, hA, hu, q⟩ := h
    refine ⟨_, pss_one (ps_ret (pe_dc (g := gTup K 2 (gCons (gName 1) (gCons (gName 2) gNil))) rfl scPostsOf.nd (pi_ent (by rfl) B.enumerate (pa_cons (pv 0) pa_nil)) (blk_by (own := [("post", 1), ("person", 2)]) (by kernel_rfl))
      (fun _ _ _ _ _ => pg_tup rfl (pgs_cons (pg_name (i := 1) scPostsOf.nd rfl (.inl rfl)) (pgs_cons (pg_name (i := 2) scPostsOf.nd rfl (.inl rfl)) pgs_nil))) (fun _ _ _ _ _ => pts_one (pt_cmpR op_notN (pv 2) pe_non (nomark _))) (fun _ _ _ _ _ => pv 2) (fun _ _ _ _ _ => pv 1))), ?_⟩
    have lr := hA.ok.len
    refine ⟨_, rfl, a, _, rfl, SqT.of hA.at_, fun D hD => ?_⟩
    refine dc_it walk_ien (fun i H' => Same H H' ∧ ∃ kvs : List (Key × V), H' D = some (.dK kvs) ∧ kvs.length ≤ i ∧ ∀ j x, j < i → r.getD j none = some x → valV kvs (Sum.inl x) = some (.int (j : Nat))) ⟨upd_same_of hD, [], upd_same, Nat.le_refl _, fun j x hj => by omega⟩
      (fun i H' hi ⟨s1, _⟩ => SqT.of (s1 _ _ hA.at_)) (fun i x H' H2 hi ⟨s1, kvs, e1, e2, e3⟩ y => ?_) (fun H1 ⟨s1, kvs, e1, e2, e3⟩ => ?_)
    · obtain ⟨T, b, z, rfl, nT, rfl, ea, eb⟩ := y
      cases ea
      have eb : (rV r)[i]? = some z := eb
      rw [rV_len] at hi
      rw [rV_get hi] at eb
      cases eb
      have s2 := s1.trans (upd_same_of (o := .tup [.int (i : Nat), oV (r.getD i none)]) nT)
      have e1' : upd H' T (.tup [.int (i : Nat), oV (r.getD i none)]) D = some (.dK kvs) := by rw [upd_ne (ne_of_none e1 nT)]; exact e1
      refine ⟨T, _, rfl, SqT.of upd_same, rfl, _, _, rfl, _, _, rfl, rfl, rfl, _, rfl, rfl, _, rfl, ?_⟩
      cases er : r.getD i none with
      | none =>
        rw [er] at s2 e1'
        refine ⟨s2, kvs, e1', by omega, fun j x hj e => ?_⟩
        by_cases hji : j = i
        · rw [hji, er] at e; cases e
        · exact e3 j x (by omega) e
      | some x =>
        rw [er] at s2 e1'
        refine ⟨_, rfl, _, rfl, kvs, Sum.inl x, rfl, e1', small1000 (by omega), fun b o e => by rw [upd_ne (ne_of_none e hD)]; exact s2 _ _ e, _, upd_same, ?_, fun j y hj e => ?_⟩
        · have := putK_len kvs (Sum.inl x) (V.int (i : Nat)); omega
        · rw [valV_put]
          by_cases hji : j = i
          · subst hji
            rw [er] at e
            cases e
            rw [if_pos rfl]
          · have hne : ¬ (Sum.inl y : Key) = Sum.inl x := fun z => by
              cases z
              exact hji (hA.ok.inj j i x e er)
            rw [if_neg hne]
            exact e3 j y (by omega) e
    · rw [rV_len] at e3
      exact q H1 D s1 hD ⟨kvs, e1, fun j x e => e3 j x (by have := hA.ok.lt e; omega) e⟩
theorem scReqHolder : FnScope ["arrangement", "person"] ["arrangement", "person"] (defScope sReqHolder) := ⟨rfl, rfl, rfl, by decide +kernel, rfl, by decide +kernel, by decide +kernel⟩
theorem c_req_holder (G : Gn K mg "require_holder" sReqHolder ["arrangement", "person"]) (cP : Cal P w K mg base 2 "is_person" spPerson) : Cal P w K mg base 3 "require_holder" spReqHolder := by
  refine G.cal scReqHolder (fun vs H Q E h => ?_) (fun f cdv A outer s H vs Q E hr h => ?_)
  · obtain ⟨a, u, r, x, rfl, _⟩ := h; rfl
  · obtain ⟨a, u, r, x, rfl, hA, hx, q⟩ := h
    refine ⟨_, pss_one (ps_if (PW.pt (pw_or (pt_not (pt_val (pe_c cP hr (pa_cons (pv 1) pa_nil)))) (pw_or1 (pt_cmpR op_notIn_seq (pv 1) (pv 0) (by rfl))))) pss_never pss_nil), ?_⟩
    refine ⟨_, rfl, _, rfl, .inr ⟨x, rfl, _, rfl, ?_⟩⟩
    rw [decide_eq_true (hA.ok.pos x hx)]
    refine ⟨_, rfl, _, rfl, a, _, rfl, .inr (SqT.of hA.at_), rfl, all_flat r, _, rfl, ?_⟩
    rw [in_rV, decide_eq_true hx]
    exact q
theorem scReqPeople : FnScope ["arrangement", "people", "seen", "index", "person"] ["arrangement", "people"] (defScope sReqPeople) := ⟨rfl, rfl, rfl, by decide +kernel, rfl, by decide +kernel, by decide +kernel⟩
theorem c_req_people (G : Gn K mg "require_people" sReqPeople ["arrangement", "people"]) (B : Bt mg) (cP : Cal P w K mg base 2 "is_person" spPerson) : Cal P w K mg base 3 "require_people" spReqPeople := by
  refine G.cal scReqPeople (fun vs H Q E h => ?_) (fun f cdv A outer s H vs Q E hr h => ?_)
  · obtain ⟨a, u, r, l, xs, rfl, _⟩ := h; rfl
  · obtain ⟨a, u, r, l, xs, rfl, hA, hl, hm, hn, hz, q⟩ := h
    refine ⟨_, pss_cons (ps_if (pt_not (pt_val (pe_isi B (pv 1) B.list PyProof.Rows.boot_list))) pss_never pss_nil) (pss_cons (ps_set (i := 2) scReqPeople.nd rfl (.inl rfl) (pe_lst pa_nil))
      (pss_one (ps_for PassesOwn.never rfl (pi_enum (by rfl) B.enumerate (pa_cons (pv 1) pa_nil)) (pg_tup rfl (pgs_cons (pg_name (i := 3) scReqPeople.nd rfl (.inl rfl)) (pgs_cons (pg_name (i := 4) scReqPeople.nd rfl (.inl rfl)) pgs_nil)))
        (pss_cons (ps_if (PW.pt (pw_or (pt_not (pt_val (pe_c cP hr (pa_cons (pv 4) pa_nil)))) (pw_or (pt_cmpR op_in_seq (pv 4) (pv 2) (by rfl)) (pw_or1 (pt_cmpR op_notIn_seq (pv 4) (pv 0) (by rfl)))))) pss_never pss_nil)
          (pss_one (ps_expr (pe_bm PySem.F.plainAttrs_list PySem.F.slot_list_append PySem.F.type_list_append mt_append (pv 2) (pa_cons (pv 4) pa_nil)))))))), ?_⟩
    refine ⟨_, rfl, _, _, _, _, true, rfl, .ty _, .base (.lst hl), kit_ty (by decide +kernel), _, rfl, ?_⟩
    refine ⟨Nat.zero_le _, fun d hd => ?_⟩
    have s0 := upd_same_of (o := .lst []) hd
    refine ⟨_, rfl, l, _, rfl, SqL.of (s0 _ _ hl), ?_⟩
    refine for_it walk_enum (fun i σ H' => σ.length = 5 ∧ σ[0]? = some (some (.ref a)) ∧ σ[2]? = some (some (.ref d)) ∧ Same H H' ∧ H' d = some (.lst (iV (xs.take i)))) ⟨rfl, rfl, rfl, s0, upd_same⟩ (fun i σ H' hi ⟨_, _, _, s1, _⟩ => SqL.of (s1 _ _ hl)) (fun i x σ H' H2 hi ⟨hln, h0, h1, s1, e1⟩ y => ?_) (fun σ H' ⟨_, _, _, s1, _⟩ => q _ s1)
    obtain ⟨T, b, z, rfl, nT, rfl, ea, eb⟩ := y
    cases ea
    have eb : (iV xs)[i]? = some z := eb
    have hi : i < xs.length := by unfold iV at hi; rw [List.length_map] at hi; exact hi
    unfold iV at eb
    rw [List.getElem?_map, List.getElem?_eq_getElem hi] at eb
    cases eb
    match σ, hln, h0, h1 with
    | [v0, v1, v2, v3, v4], _, h0, h1 =>
      cases h0
      cases h1
      have hxm : xs[i] ∈ xs := List.getElem_mem hi
      have s2 := s1.trans (upd_same_of (o := .tup [.int (i : Nat), .int xs[i]]) nT)
      have e1' : upd H' T (.tup [.int (i : Nat), .int xs[i]]) d = some (.lst (iV (xs.take i))) := by rw [upd_ne (ne_of_none e1 nT)]; exact e1
      refine ⟨T, _, rfl, SqT.of upd_same, rfl, _, _, rfl, _, _, rfl, rfl, _, rfl, _, rfl, .inr ⟨xs[i], rfl, _, rfl, ?_⟩⟩
      rw [decide_eq_true (hA.ok.pos _ (hm _ hxm))]
      refine ⟨_, rfl, _, rfl, d, _, rfl, .inl (SqL.of e1'), rfl, all_flatI _, _, rfl, ?_⟩
      have n1 : xs[i] ∉ xs.take i := fun z => by
        obtain ⟨j, hj, e⟩ := List.mem_iff_getElem.mp z
        rw [List.getElem_take] at e
        rw [List.length_take] at hj
        have := (List.getElem_inj hn).mp e
        omega
      rw [in_iV, decide_eq_false n1]
      refine ⟨_, rfl, _, rfl, a, _, rfl, .inr (SqT.of (s2 _ _ hA.at_)), rfl, all_flat r, _, rfl, ?_⟩
      rw [in_rV, decide_eq_true (hm _ hxm)]
      refine ⟨_, rfl, .inl ⟨rfl, _, SqL.of e1'⟩, _, rfl, d, _, _, rfl, rfl, e1', ?_, rfl, rfl, rfl, fun b o e => by rw [upd_ne (ne_of_none e hd)]; exact s2 _ _ e, ?_⟩
      · unfold iV
        rw [List.length_map, List.length_take]
        exact small1000 (by omega)
      · rw [upd_same, List.take_succ, List.getElem?_eq_getElem hi]
        unfold iV
        rw [List.map_append]
        rfl
theorem scIsOpen : FnScope ["tree", "rows", "post"] ["tree", "rows", "post"] (defScope sIsOpen) := ⟨rfl, rfl, rfl, by decide +kernel, rfl, by decide +kernel, by decide +kernel⟩
theorem c_is_open (G : Gn K mg "is_open" sIsOpen ["tree", "rows", "post"]) (T : TTx K mg C) : Cal P w K mg base 1 "is_open" (spIsOpen C) := by
  refine G.cal scIsOpen (fun vs H Q E h => ?_) (fun f cdv A outer s H vs Q E hr h => ?_)
  · obtain ⟨t, u, a, r, k, rfl, _⟩ := h; rfl
  · obtain ⟨t, u, a, r, k, rfl, ⟨dx, c, bl, ls, g1, g2, _⟩, hA, hk, q⟩ := h
    refine ⟨_, pss_one (ps_ret (pe_and (pe_cmpR op_isN (pe_ix ix_tup (pv 1) (pv 2) (fun _ _ => rfl)) pe_non (nomark _)) (pe_one (pe_or (pe_cmpR op_eq (pv 2) pe_int (nomark _)) (pe_one (pe_cmpR op_notN (pe_ix ix_tup (pv 1) (pe_ix ix_tup (pe_fld (pv 0) rfl) (pv 2) (fun _ _ => rfl)) (fun _ _ => rfl)) pe_non (nomark _))))))), ?_⟩
    have lr := hA.ok.len
    refine ⟨_, rfl, _, rfl, a, _, _, oV (r.getD k none), rfl, rfl, SqT.of hA.at_, atI_nat (rV_get (by omega)), rfl, _, rfl, ?_⟩
    cases er : r.getD k none with
    | some x =>
      have e : Mv.isOpen u r k = false := decide_eq_false fun z => by rw [er] at z; cases z.1
      rw [e] at q
      exact q
    | none =>
      refine ⟨_, rfl, rfl, _, rfl, ?_⟩
      rw [int_eq]
      by_cases h0 : k = 0
      · rw [decide_eq_true (by omega : ((k : Nat) : Int) = 0)]
        have e : Mv.isOpen u r k = true := decide_eq_true ⟨er, .inl h0⟩
        rw [e] at q
        exact q
      · rw [decide_eq_false (by omega : ¬ ((k : Nat) : Int) = 0)]
        have lp := Mv.par_lt g2.v (k := k) (by omega) hk
        refine ⟨_, rfl, _, rfl, t, C, dx, _, V.ref c, rfl, g1, T.cl, T.nA, tf_above _ _, _, rfl, c, _, _, V.int (Mv.par u k : Nat), rfl, rfl, SqT.of g2.at_, atI_nat (chV_get (by omega) hk), a, _, _, oV (r.getD (Mv.par u k) none), rfl, rfl, SqT.of hA.at_, atI_nat (rV_get (by omega)), rfl, ?_⟩
        cases ep : r.getD (Mv.par u k) none with
        | none =>
          have e : Mv.isOpen u r k = false := decide_eq_false fun z => by
            rcases z.2 with z | z
            · exact h0 z
            · exact z ep
          rw [e] at q
          exact q
        | some y =>
          have e : Mv.isOpen u r k = true := decide_eq_true ⟨er, .inr (by rw [ep]; simp)⟩
          rw [e] at q
          exact q
end
end Pm


/-! Promises: moving up, leaving. -/
namespace Pm
open PySem PySem.Spec PyProof.Rows L2 Ru
abbrev sMoveUp : Stmt := top 27
abbrev sLeaveOne : Stmt := top 28
/-- rows at rl behind the base heap H0 -/
structure RowsAt (H0 H : Hp) (rl : Addr) (u : List Nat) (r : Mv.Rows) : Prop where
  same : Same H0 H
  new : H0 rl = none
  at_ : H rl = some (.lst (rV r))
  len : r.length = u.length + 1
theorem RowsAt.mono {H0 H H' : Hp} {rl : Addr} {u : List Nat} {r : Mv.Rows} (h : RowsAt H0 H rl u r) (s : Same H H') : RowsAt H0 H' rl u r := ⟨h.same.trans s, h.new, s _ _ h.at_, h.len⟩
theorem RowsAt.put {H0 H : Hp} {rl : Addr} {u : List Nat} {r r' : Mv.Rows} (h : RowsAt H0 H rl u r) (hl : r'.length = r.length) : RowsAt H0 (upd H rl (.lst (rV r'))) rl u r' :=
  ⟨fun b o e => by rw [upd_ne (ne_of_none e h.new)]; exact h.same _ _ e, h.new, upd_same, hl.trans h.len⟩
theorem ixN_nat {n k : Nat} (h : k < n) : ixN n (k : Int) = some k := by
  unfold ixN
  rw [if_pos (by omega), if_pos (by omega), Int.toNat_natCast]
theorem rV_set (r : Mv.Rows) (k : Nat) (x : Mv.OI) : (rV r).set k (oV x) = rV (r.set k x) := by unfold rV; rw [List.map_set]
def spMoveUp (C : Addr) : Sp := fun vs H Q _ => ∃ (H0 : Hp) (t rl : Addr) (u : List Nat) (r : Mv.Rows) (p : Nat), vs = [.ref t, .ref rl, .int p] ∧ TreeAt C H0 t u ∧ u.length ≤ 100 ∧ RowsAt H0 H rl u r ∧ p ≤ u.length ∧
  (Mv.best (Mv.cands u r p) = none → ∀ H', RowsAt H0 H' rl u r → (∀ b o, b ≠ rl → H b = some o → H' b = some o) → Q .non H') ∧
  ∀ x l, Mv.best (Mv.cands u r p) = some (x, l) → ∀ H', RowsAt H0 H' rl u ((r.set p (some x)).set l none) → (∀ b o, b ≠ rl → H b = some o → H' b = some o) → Q (.int (l : Nat)) H'
def candF (r : Mv.Rows) (k : Nat) : Option (Int × Nat) := (r.getD k none).map fun x => (x, k)
def pD (p : Int × Nat) : PyData := .tuple [.int p.1, .int (p.2 : Int)]
theorem dp_pairs {K : PySem.W.Frag} {H : Hp} : ∀ {ps : List (Addr × Int × Nat)}, PairsAt H ps → DpAll K H (ps.map fun p => V.ref p.1) (ps.map fun p => pD p.2)
  | [], _ => .nil
  | p :: ps, h => .cons (.tup (SqT.of (h p List.mem_cons_self)) (.cons (.int _) (.cons (.int _) .nil))) (dp_pairs fun q hq => h q (List.mem_cons_of_mem _ hq))
theorem shp_pairs : ∀ ps : List (Addr × Int × Nat), PyData.canLayAll0 (ps.map fun p => pD p.2) = true ∧ PyData.depthAll (ps.map fun p => pD p.2) ≤ 2
  | [] => ⟨by unfold List.map PyData.canLayAll0; rfl, by unfold List.map PyData.depthAll; decide⟩
  | p :: ps => by
    obtain ⟨h1, h2⟩ := shp_pairs ps
    rw [List.map_cons]
    unfold PyData.canLayAll0 PyData.depthAll
    rw [h1]
    refine ⟨by unfold pD PyData.canLay0 PyData.canLayAll0 PyData.canLayAll0 PyData.canLayAll0 PyData.canLay0; rfl, Nat.max_le.mpr ⟨?_, h2⟩⟩
    unfold pD PyData.depth PyData.depthAll PyData.depthAll PyData.depthAll PyData.depth
    decide
section
variable {P : Program} {w : World} {K : PySem.W.Frag} {mg : Str → Option Value} {base : Heap} {C : Addr}
theorem scMoveUp : FnScope ["tree", "rows", "post", "held", "person", "lower"] ["tree", "rows", "post"] (defScope sMoveUp) := ⟨rfl, rfl, rfl, by decide +kernel, rfl, by decide +kernel, by decide +kernel⟩
theorem c_move_up (G : Gn K mg "move_up" sMoveUp ["tree", "rows", "post"]) (B : Bt mg) (T : TTx K mg C) : Cal P w K mg base 1 "move_up" (spMoveUp C) := by
  refine G.cal scMoveUp (fun vs H Q E h => ?_) (fun f cdv A outer s H vs Q E hr h => ?_)
  · obtain ⟨H0, t, rl, u, r, p, rfl, _⟩ := h; rfl
  · obtain ⟨H0, t, rl, u, r, p, rfl, TA, hu, R, hp, q1, q2⟩ := h
    refine ⟨_, pss_cons (ps_setLc (i := 3) rfl scMoveUp.nd rfl rfl (sw_true rfl rfl rfl (by kernel_rfl)) (pi_list (pe_ix ix_list (pe_fld (pv 0) rfl) (pv 2) (fun _ _ => rfl))) (blk_by (own := [("lower", 5)]) (by kernel_rfl))
        (fun _ _ _ _ _ => pg_name (i := 5) scMoveUp.nd rfl (.inl rfl)) (fun _ _ _ _ _ => pts_one (pt_cmpR op_notN (pe_ix (r := rIxL K) ix_list (pv 1) (pv 5) (fun _ _ => rfl)) pe_non (nomark _))) (fun _ _ _ _ _ => pe_tup (pa_cons (pe_ix (r := rIxL K) ix_list (pv 1) (pv 5) (fun _ _ => rfl)) (pa_cons (pv 5) pa_nil))))
      (pss_cons (ps_if (pt_cmpR (op_eqD hr.units) (pv 3) (pe_lst pa_nil) (nomark _)) (pss_one (ps_ret pe_non)) pss_nil)
      (pss_cons (ps_asg (pe_callB (cr_minP rfl hr.units) (by rfl) B.min PyProof.Rows.boot_min (pa_cons (pv 3) pa_nil)) (pg_tup rfl (pgs_cons (pg_name (i := 4) scMoveUp.nd rfl (.inl rfl)) (pgs_cons (pg_name (i := 5) scMoveUp.nd rfl (.inl rfl)) pgs_nil))))
      (pss_cons (ps_asg (pe_tup (pa_cons (pv 4) (pa_cons pe_non pa_nil))) (pg_tup rfl (pgs_cons (pg_sub (pv 1) (pv 2) set_list) (pgs_cons (pg_sub (pv 1) (pv 5) set_list) pgs_nil))))
      (pss_one (ps_ret (pv 5)))))), ?_⟩
    obtain ⟨dx, c, bl, ls, g1, g2, g3, g4, g5⟩ := (TA.same R.same).ex
    have hpl : p < ls.length := by omega
    have gk := g5 p ls[p] (List.getElem?_eq_getElem hpl)
    have lr := R.len
    refine ⟨_, rfl, t, C, dx, _, V.ref bl, rfl, g1, T.cl, T.nB, tf_below _ _, _, rfl, bl, _, _, V.ref ls[p], rfl, rfl, SqL.of g3, atI_nat (by rw [List.getElem?_map, List.getElem?_eq_getElem hpl]; rfl), _, rfl, ⟨_, SqL.of gk⟩, fun D hD => ?_⟩
    have hDr : rl ≠ D := ne_of_none R.at_ hD
    have kl : ∀ i k, (Mv.kids u p)[i]? = some k → k < r.length := fun i k e => by have := (Mv.kids_gt g2.v (List.mem_of_getElem? e)).2; omega
    refine lc_it walk_list (fun i H' => Same H H' ∧ ∃ ps : List (Addr × Int × Nat), H' D = some (.lst (ps.map fun p => V.ref p.1)) ∧ PairsAt H' ps ∧ ps.map (·.2) = ((Mv.kids u p).take i).filterMap (candF r) ∧ ps.length ≤ i ∧ ∀ q ∈ ps, q.1 ≠ D) ⟨upd_same_of hD, [], upd_same, fun _ z => (nomatch z), rfl, Nat.le_refl _, fun _ z => (nomatch z)⟩
      (fun i H' hi ⟨s1, _⟩ => SqL.of (s1 _ _ gk)) (fun i x H' H2 hi ⟨s1, ps, e1, e2, e3, e4, e5⟩ y => ?_) (fun H1 ⟨s1, ps, e1, e2, e3, e4, e5⟩ => ?_)
    · obtain ⟨rfl, ex⟩ := y
      unfold nV at hi ex
      rw [List.length_map] at hi
      rw [List.getElem?_map, List.getElem?_eq_getElem hi] at ex
      cases ex
      have ek : (Mv.kids u p)[i]? = some (Mv.kids u p)[i] := List.getElem?_eq_getElem hi
      have tk : (Mv.kids u p).take (i + 1) = (Mv.kids u p).take i ++ [(Mv.kids u p)[i]] := by rw [List.take_succ, ek]; rfl
      have hk := kl _ _ ek
      generalize (Mv.kids u p)[i] = k at *
      have gr := s1 _ _ R.at_
      refine ⟨rfl, _, rfl, _, rfl, rl, _, _, oV (r.getD k none), rfl, rfl, SqL.of gr, atI_nat (rV_get hk), rfl, _, rfl, ?_⟩
      cases er : r.getD k none with
      | none =>
        refine ⟨s1, ps, e1, e2, ?_, by omega, e5⟩
        rw [tk, List.filterMap_append, e3]
        have : candF r k = none := by unfold candF; rw [er]; rfl
        simp [this]
      | some x =>
        refine ⟨_, rfl, _, rfl, rl, _, _, V.int x, rfl, rfl, SqL.of gr, atI_nat (by rw [rV_get hk, er]; rfl), _, rfl, (by show 2 ≤ sizeLine; decide), fun U nU => ?_⟩
        have nUD : D ≠ U := ne_of_none e1 nU
        refine ⟨_, by rw [upd_ne nUD]; exact e1, ?_, fun b o e => ?_, ps ++ [(U, x, k)], ?_, fun q hq => ?_, ?_, ?_, fun q hq => ?_⟩
        · rw [List.length_map]
          have := Mv.kids_gt g2.v (k := k) (List.mem_of_getElem? ek)
          have l2 : (Mv.kids u p).length ≤ u.length + 1 := by unfold Mv.kids; refine Nat.le_trans (List.length_filter_le _ _) ?_; rw [List.length_range]; exact Nat.le_refl _
          exact small1000 (by omega)
        · rw [upd_ne (ne_of_none e hD), upd_ne (ne_of_none (s1 _ _ e) nU)]; exact s1 _ _ e
        · rw [upd_same, List.map_append]; rfl
        · rcases List.mem_append.mp hq with z | z
          · rw [upd_ne (e5 q z), upd_ne (ne_of_none (e2 q z) nU)]; exact e2 q z
          · rw [List.mem_singleton.mp z, upd_ne nUD.symm, upd_same]
        · rw [tk, List.filterMap_append, List.map_append, e3]
          have : candF r k = some (x, k) := by unfold candF; rw [er]; rfl
          simp [this]
        · rw [List.length_append]; show ps.length + 1 ≤ i + 1; omega
        · rcases List.mem_append.mp hq with z | z
          · exact e5 q z
          · rw [List.mem_singleton.mp z]; exact nUD.symm
    · have hcand : Mv.cands u r p = ps.map (·.2) := by
        rw [e3]
        unfold nV
        rw [List.length_map, List.take_length]
        rfl
      refine ⟨_, rfl, Nat.zero_le _, fun d nd => ?_⟩
      have s2 := s1.trans (upd_same_of (o := .lst []) nd)
      have p2 : PairsAt (upd H1 d (.lst [])) ps := fun q hq => by rw [upd_ne (ne_of_none (e2 q hq) nd)]; exact e2 q hq
      have e1' : upd H1 d (.lst []) D = some (.lst (ps.map fun p => V.ref p.1)) := by rw [upd_ne (ne_of_none e1 nd)]; exact e1
      refine eqL_nil (SqL.of e1') (SqL.of upd_same) (dp_pairs p2) ⟨(shp_pairs ps).1, by have := (shp_pairs ps).2; omega⟩ ⟨_, rfl, ?_⟩
      generalize upd H1 d (.lst []) = H2 at *
      cases ps with
      | nil => exact q1 (by rw [hcand]; rfl) H2 (R.mono s2) fun b o _ e => s2 b o e
      | cons p0 ps =>
        refine ⟨_, rfl, D, p0, ps, rfl, SqL.of e1', p2, fun qq hq hqe => ?_⟩
        obtain ⟨U, x, l⟩ := qq
        have hb : Mv.best (Mv.cands u r p) = some (x, l) := by rw [hcand, List.map_cons]; exact congrArg some hqe.symm
        have hl := (Mv.kids_gt g2.v (Mv.mem_cands (Mv.best_mem hb)).1)
        refine ⟨U, _, rfl, SqT.of (p2 _ hq), rfl, _, _, rfl, _, _, rfl, rfl, ?_⟩
        refine ⟨_, rfl, (by show 2 ≤ sizeLine; decide), fun V' nV' => ?_⟩
        have s3 := s2.trans (upd_same_of (o := .tup [.int x, .non]) nV')
        have R3 := R.mono s3
        refine ⟨V', _, rfl, SqT.of upd_same, rfl, _, _, rfl, ⟨_, rfl, _, rfl, rl, _, _, p, rfl, rfl, R3.at_, ixN_nat (by rw [rV_len]; omega), ?_⟩⟩
        have es : (rV r).set p (.int x) = rV (r.set p (some x)) := rV_set r p (some x)
        rw [es]
        have R4 := R3.put (r' := r.set p (some x)) (by simp)
        refine ⟨_, _, rfl, ⟨_, rfl, _, rfl, rl, _, _, l, rfl, rfl, R4.at_, ixN_nat (k := l) (by rw [rV_len, List.length_set]; omega), ?_⟩⟩
        have es2 : (rV (r.set p (some x))).set l .non = rV ((r.set p (some x)).set l none) := rV_set _ l none
        rw [es2]
        have R5 := R4.put (r' := (r.set p (some x)).set l none) (by simp)
        exact ⟨rfl, _, rfl, q2 x l hb _ R5 fun b o hb e => by rw [upd_ne hb, upd_ne hb]; exact s3 b o e⟩
end
end Pm


/-! Promises: leaving. -/
namespace Pm
open PySem PySem.Spec PyProof.Rows L2 Ru
theorem run_nil {u : List Nat} {r : Mv.Rows} {p f : Nat} (h : Mv.best (Mv.cands u r p) = none) : Mv.run u (f + 1) r p = ([], r) := by unfold Mv.run; rw [h]
theorem run_cons {u : List Nat} {r : Mv.Rows} {p f : Nat} {x : Int} {l : Nat} (h : Mv.best (Mv.cands u r p) = some (x, l)) :
    Mv.run u (f + 1) r p = ((x, l, p) :: (Mv.run u f ((r.set p (some x)).set l none) l).1, (Mv.run u f ((r.set p (some x)).set l none) l).2) := by
  rw [Mv.run, h]
theorem eqV_ne {r : Mv.Rows} {x : Int} {m : Nat} {z : V} (hm : m < Mv.idx r x) (hz : (rV r)[m]? = some z) : eqV z (.int x) = false := by
  have hl : m < r.length := by
    have := (List.getElem?_eq_some_iff.mp hz).1
    rw [rV_len] at this
    exact this
  rw [rV_get hl] at hz
  cases hz
  cases e : r.getD m none with
  | none => rfl
  | some y =>
    show (y == x) = false
    rw [beq_eq_false_iff_ne]
    intro z
    rw [z] at e
    have := Mv.idx_le e
    omega
theorem idx_at {r : Mv.Rows} {x : Int} (hx : some x ∈ r) : (rV r)[Mv.idx r x]? = some (.int x) := by rw [rV_get (Mv.idx_lt hx), Mv.idx_get hx]; rfl
def spLeaveOne (C : Addr) : Sp := fun vs H Q _ => ∃ (H0 : Hp) (t rl : Addr) (u : List Nat) (r : Mv.Rows) (x : Int), vs = [.ref t, .ref rl, .int x] ∧ TreeAt C H0 t u ∧ u.length ≤ 100 ∧ RowsAt H0 H rl u r ∧ some x ∈ r ∧
  ∀ H' (p : Nat), RowsAt H0 H' rl u (Mv.leaveR u r x).2 → (∀ b o, b ≠ rl → H b = some o → H' b = some o) → Q (.int p) H'
theorem moveUp_mono {C : Addr} {vs : List V} {H : Hp} {Q Q' : VK} {E E' : XK} (h : ∀ v H', Q v H' → Q' v H') (z : spMoveUp C vs H Q E) : spMoveUp C vs H Q' E' := by
  obtain ⟨H0, t, rl, u, r, p, e, TA, hu, R, hp, q1, q2⟩ := z
  exact ⟨H0, t, rl, u, r, p, e, TA, hu, R, hp, fun hb H' R' k => h _ _ (q1 hb H' R' k), fun x l hb H' R' k => h _ _ (q2 x l hb H' R' k)⟩
section
variable {P : Program} {w : World} {K : PySem.W.Frag} {mg : Str → Option Value} {base : Heap} {C : Addr}
theorem scLeaveOne : FnScope ["tree", "rows", "person", "post", "lower"] ["tree", "rows", "person"] (defScope sLeaveOne) := ⟨rfl, rfl, rfl, by decide +kernel, rfl, by decide +kernel, by decide +kernel⟩
theorem c_leave_one (G : Gn K mg "leave_one" sLeaveOne ["tree", "rows", "person"]) (cM : Cal P w K mg base 1 "move_up" (spMoveUp C)) : Cal P w K mg base 2 "leave_one" (spLeaveOne C) := by
  refine G.cal scLeaveOne (fun vs H Q E h => ?_) (fun f cdv A outer s H vs Q E hr h => ?_)
  · obtain ⟨H0, t, rl, u, r, x, rfl, _⟩ := h; rfl
  · obtain ⟨H0, t, rl, u, r, x, rfl, TA, hu, R, hx, q⟩ := h
    refine ⟨_, pss_cons (ps_set (i := 3) scLeaveOne.nd rfl (.inl rfl) (pe_bm PySem.F.plainAttrs_list PySem.F.slot_list_index PySem.F.type_list_index mt_index (pv 1) (pa_cons (pv 2) pa_nil)))
      (pss_cons (ps_asg pe_non (pg_sub (pv 1) (pv 3) set_list))
      (pss_cons (ps_set (i := 4) scLeaveOne.nd rfl (.inl rfl) (pe_c cM hr (pa_cons (pv 0) (pa_cons (pv 1) (pa_cons (pv 3) pa_nil)))))
      (pss_cons (ps_while PassesOwn.never (pt_cmpR op_notN (pv 4) pe_non (nomark _)) (pss_cons (ps_set (i := 3) scLeaveOne.nd rfl (.inl rfl) (pv 4)) (pss_one (ps_set (i := 4) scLeaveOne.nd rfl (.inl rfl) (pe_c cM hr (pa_cons (pv 0) (pa_cons (pv 1) (pa_cons (pv 3) pa_nil))))))))
      (pss_one (ps_ret (pv 3)))))), ?_⟩
    have lr := R.len
    have vd : Mv.Vd u := let ⟨_, _, _, _, _, g2, _⟩ := TA.ex; g2.v
    have hi := Mv.idx_lt hx
    refine ⟨_, rfl, .inl ⟨rfl, _, SqL.of R.at_⟩, _, rfl, ?_⟩
    refine ⟨rl, rV r, .int x, Mv.idx r x, .int x, rfl, rfl, SqL.of R.at_, rfl, all_flat r, idx_at hx, beq_self_eq_true x, fun m z hm hz => eqV_ne hm hz, ?_⟩
    refine ⟨_, rfl, _, rfl, rl, _, _, _, rfl, rfl, R.at_, ixN_nat (by rw [rV_len]; exact hi), ?_⟩
    have es : (rV r).set (Mv.idx r x) .non = rV (r.set (Mv.idx r x) none) := rV_set r _ none
    rw [es]
    have R1 := R.put (r' := r.set (Mv.idx r x) none) (by simp)
    have k1 : ∀ b o, b ≠ rl → H b = some o → upd H rl (.lst (rV (r.set (Mv.idx r x) none))) b = some o := fun b o hb e => by rw [upd_ne hb]; exact e
    generalize upd H rl (.lst (rV (r.set (Mv.idx r x) none))) = H1 at *
    -- what the loop keeps
    let W : Nat → L2.St → Hp → Prop := fun m σ H' => σ.length = 5 ∧ σ[0]? = some (some (.ref t)) ∧ σ[1]? = some (some (.ref rl)) ∧ (∃ k : Nat, σ[3]? = some (some (.int k))) ∧ (∀ b o, b ≠ rl → H b = some o → H' b = some o) ∧
      ((σ[4]? = some (some .non) ∧ RowsAt H0 H' rl u (Mv.leaveR u r x).2) ∨
        ∃ (l f : Nat) (r1 : Mv.Rows), σ[4]? = some (some (.int l)) ∧ RowsAt H0 H' rl u r1 ∧ l ≤ u.length ∧ u.length ≤ f + l ∧ m = u.length + 1 - l ∧ (Mv.run u (f + 1) r1 l).2 = (Mv.leaveR u r x).2)
    -- a move
    have mv : ∀ (σ : L2.St) (H2 : Hp) (p f m : Nat) (r1 : Mv.Rows), σ.length = 5 → σ[0]? = some (some (.ref t)) → σ[1]? = some (some (.ref rl)) → σ[3]? = some (some (.int p)) → (∀ b o, b ≠ rl → H b = some o → H2 b = some o) → RowsAt H0 H2 rl u r1 → p ≤ u.length → u.length ≤ f + p → u.length + 1 - p ≤ m →
        (Mv.run u (f + 1) r1 p).2 = (Mv.leaveR u r x).2 → spMoveUp C [.ref t, .ref rl, .int p] H2 (fun v H3 => ∃ m', m' < m ∧ W m' (σ.set 4 (some v)) H3) E0 := fun σ H2 p f m r1 hl h0 h1 h3 k2 R2 hp hf hm hrun => by
      refine ⟨H0, t, rl, u, r1, p, rfl, TA, hu, R2, hp, fun hb H3 R3 k3 => ⟨0, by omega, ?_⟩, fun y l hb H3 R3 k3 => ?_⟩
      · rw [run_nil hb] at hrun
        have hrun : r1 = _ := hrun
        refine ⟨by rw [List.length_set]; exact hl, by rw [List.getElem?_set_ne (by decide)]; exact h0, by rw [List.getElem?_set_ne (by decide)]; exact h1, ⟨p, by rw [List.getElem?_set_ne (by decide)]; exact h3⟩, fun b o hb e => k3 b o hb (k2 b o hb e), .inl ⟨by rw [List.getElem?_set_self (by omega)], by rw [← hrun]; exact R3⟩⟩
      · have hl2 := Mv.kids_gt vd (Mv.mem_cands (Mv.best_mem hb)).1
        rw [run_cons hb] at hrun
        obtain ⟨f', rfl⟩ : ∃ f', f = f' + 1 := ⟨f - 1, by omega⟩
        exact ⟨u.length + 1 - l, by omega, by rw [List.length_set]; exact hl, by rw [List.getElem?_set_ne (by decide)]; exact h0, by rw [List.getElem?_set_ne (by decide)]; exact h1, ⟨p, by rw [List.getElem?_set_ne (by decide)]; exact h3⟩, fun b o hb e => k3 b o hb (k2 b o hb e), .inr ⟨l, f', _, by rw [List.getElem?_set_self (by omega)], R3, hl2.2, by omega, rfl, hrun⟩⟩
    refine ⟨_, rfl, _, rfl, _, rfl, ?_⟩
    have first := mv [some (.ref t), some (.ref rl), some (.int x), some (.int (Mv.idx r x : Nat)), none] H1 (Mv.idx r x) u.length (u.length + 2) _ rfl rfl rfl rfl k1 R1 (by omega) (by omega) (by omega) rfl
    dsimp only [tNil]
    refine moveUp_mono (fun v H2 z => ?_) first
    obtain ⟨m0, _, w0⟩ := z
    refine ⟨W, ⟨m0, w0⟩, fun m σ H3 wm => ?_⟩
    obtain ⟨hl, h0, h1, ⟨k, h3⟩, k3, hc⟩ := id wm
    match σ, hl, h0, h1, h3 with
    | [a0, a1, a2, a3, a4], _, h0, h1, h3 =>
      cases h0
      cases h1
      cases h3
      rcases hc with ⟨h4, Rf⟩ | ⟨l, f', r1, h4, Rl, hlu, hf, hm, hrun⟩
      · cases h4
        exact ⟨_, rfl, rfl, _, rfl, _, rfl, q H3 k Rf k3⟩
      · cases h4
        refine ⟨_, rfl, rfl, _, rfl, ?_⟩
        refine ⟨fun σ' H' => ∃ m', m' < m ∧ W m' σ' H', fun σ' H' z => z, ?_⟩
        refine ⟨_, rfl, _, rfl, _, rfl, _, rfl, ?_⟩
        exact mv [some (.ref t), some (.ref rl), a2, some (.int (l : Nat)), some (.int (l : Nat))] H3 l f' m r1 rfl rfl rfl rfl k3 Rl hlu hf (by omega) hrun
end
end Pm


/-! Promises: joining. -/
namespace Pm
open PySem PySem.Spec PyProof.Rows L2 Ru
abbrev sJoinOne : Stmt := top 29
abbrev sPostOf : Stmt := top 31
abbrev sOpenPosts : Stmt := top 32
abbrev sJoin : Stmt := top 35
theorem walk_izs {K : PySem.W.Frag} {a b : Addr} {xs ys : List V} {n : Nat} (h1 : xs.length = n) (h2 : ys.length = n) : Walk (Izs K a b) n (fun H => SqL K H a xs ∧ SqL K H b ys) (YPair (fun i => xs[i]?) (fun i => ys[i]?)) := by
  refine ⟨fun i _ hi q => ⟨xs, ys, xs[i], ys[i], q.1, q.2, List.getElem?_eq_getElem _, List.getElem?_eq_getElem _⟩, fun _ q => ⟨xs, ys, q.1, q.2, by omega, by omega⟩, fun i H v H' _ q y => ?_⟩
  obtain ⟨T, x, z, g1, g2, g3, g4, g5⟩ := y
  exact ⟨T, x, z, g1, g2, g3, g4 xs q.1, g5 ys q.2⟩
theorem cut_butlast (xs : List V) : cutV xs none (some (-1)) = xs.dropLast := by
  have e : HT.sIx xs.length xs.length (some (-1)) = ((-1 : Int) + (xs.length : Int)).toNat := by
    show (if (-1 : Int) < 0 then ((-1 : Int) + (xs.length : Int)).toNat else min (-1 : Int).toNat xs.length) = _
    rw [if_pos (by decide)]
  unfold cutV
  rw [e, show HT.sIx xs.length 0 none = 0 from rfl, List.drop_zero, List.dropLast_eq_take]
  congr 1
  omega
/-- the i-th change on the way -/
theorem lay_take (r : Mv.Rows) (ps : List Nat) (xs : List Int) (i : Nat) (h1 : i < ps.length) (h2 : i < xs.length) : Mv.lay r (ps.take (i + 1)) (xs.take (i + 1)) = (Mv.lay r (ps.take i) (xs.take i)).set ps[i] (some xs[i]) := by
  unfold Mv.lay
  rw [List.take_succ, List.take_succ, List.getElem?_eq_getElem h1, List.getElem?_eq_getElem h2]
  show ((ps.take i ++ [ps[i]]).zip (xs.take i ++ [xs[i]])).foldl _ r = _
  rw [List.zip_append (by rw [List.length_take, List.length_take]; omega), List.foldl_append]
  rfl
def spJoinOne (C : Addr) : Sp := fun vs H Q _ => ∃ (H0 : Hp) (t rl : Addr) (u : List Nat) (r : Mv.Rows) (x : Int) (p : Nat), vs = [.ref t, .ref rl, .int x, .int p] ∧ TreeAt C H0 t u ∧ RowsAt H0 H rl u r ∧ p ≤ u.length ∧ u.length ≤ 40 ∧
  (∀ q ∈ (Mv.path u p).dropLast, ∃ y, r.getD q none = some y) ∧ ∀ H', RowsAt H0 H' rl u (Mv.joinR u r x p) → Q .non H'
section
variable {P : Program} {w : World} {K : PySem.W.Frag} {mg : Str → Option Value} {base : Heap} {C : Addr}
theorem scJoinOne : FnScope ["tree", "rows", "person", "post", "path", "people", "upper", "holder"] ["tree", "rows", "person", "post"] (defScope sJoinOne) := ⟨rfl, rfl, rfl, by decide +kernel, rfl, by decide +kernel, by decide +kernel⟩
theorem c_join_one (G : Gn K mg "join_one" sJoinOne ["tree", "rows", "person", "post"]) (B : Bt mg) (Z : Tr P w K mg base C) : Cal P w K mg base 2 "join_one" (spJoinOne C) := by
  refine G.cal scJoinOne (fun vs H Q E h => ?_) (fun f cdv A outer s H vs Q E hr h => ?_)
  · obtain ⟨H0, t, rl, u, r, x, p, rfl, _⟩ := h; rfl
  · obtain ⟨H0, t, rl, u, r, x, p, rfl, TA, R, hp, hu, hov, q⟩ := h
    refine ⟨_, pss_cons (ps_set (i := 4) scJoinOne.nd rfl (.inl rfl) (pe_tpath Z hr (pv 0) (pv 3)))
      (pss_cons (ps_set (i := 5) scJoinOne.nd rfl (.inl rfl) (pe_callB cr_sorted (by rfl) B.sorted PyProof.Rows.boot_sorted (pa_cons (pe_op op_cat (pe_lc rfl scJoinOne.nd (pi_list (pe_slice sl_list (pv 4) po_none (po_some (pe_un un_neg pe_int)))) (blk_by (own := [("upper", 6)]) (by kernel_rfl))
          (fun _ _ _ _ _ => pg_name (i := 6) scJoinOne.nd rfl (.inl rfl)) (fun _ _ _ _ _ => pts_nil) (fun _ _ _ _ _ => pe_ix (r := rIxL K) ix_list (pv 1) (pv 6) (fun _ _ => rfl))) (pe_lst (pa_cons (pv 2) pa_nil))) pa_nil)))
      (pss_one (ps_for PassesOwn.never rfl (pi_zipS (by rfl) B.zip (pa_cons (pv 4) (pa_cons (pv 5) pa_nil)) (pk_cons pe_bl pk_nil)) (pg_tup rfl (pgs_cons (pg_name (i := 6) scJoinOne.nd rfl (.inl rfl)) (pgs_cons (pg_name (i := 7) scJoinOne.nd rfl (.inl rfl)) pgs_nil)))
        (pss_one (ps_asg (pv 7) (pg_sub (pv 1) (pv 6) set_list)))))), ?_⟩
    have lr := R.len
    have TA2 := TA.same R.same
    obtain ⟨dx, fs, g1, g2⟩ := tree_ins TA2 (m := "path")
    have vd : Mv.Vd u := let ⟨_, _, _, _, _, g2, _⟩ := TA.ex; g2.v
    have plen : (Mv.path u p).length ≤ u.length + 1 := by
      unfold Mv.path
      rw [List.length_reverse]
      have := Mv.up_len u p
      omega
    refine ⟨_, rfl, t, dx, fs, rfl, g1, g2, _, rfl, t, u, p, rfl, TA2, hp, fun H1 pl s1 n1 e1 => ?_⟩
    have R1 := R.mono s1
    refine ⟨_, rfl, _, rfl, _, rfl, pl, _, rfl, SqL.of e1, fun c1 nc1 => ⟨_, rfl, ⟨_, SqL.of upd_same⟩, fun D hD => ?_⟩⟩
    have ec : cutV (nV (Mv.path u p)) none (some (-1)) = nV (Mv.path u p).dropLast := by rw [cut_butlast]; unfold nV; rw [List.map_dropLast]
    rw [show (-(1 : Int)) = -1 from rfl, ec] at hD ⊢
    have sc1 := upd_same_of (o := .lst (nV (Mv.path u p).dropLast)) nc1
    have ecc : upd H1 c1 (.lst (nV (Mv.path u p).dropLast)) c1 = some (.lst (nV (Mv.path u p).dropLast)) := upd_same
    generalize upd H1 c1 (.lst (nV (Mv.path u p).dropLast)) = H2 at *
    have R2 := R1.mono sc1
    refine lc_it walk_list (fun i H' => Same H2 H' ∧ H' D = some (.lst (iV ((Mv.over u r p).take i)))) ⟨upd_same_of hD, upd_same⟩ (fun i H' hi ⟨s2, _⟩ => SqL.of (s2 _ _ ecc)) (fun i y H' H3 hi ⟨s2, e2⟩ yy => ?_) (fun H3 ⟨s2, e2⟩ => ?_)
    · obtain ⟨rfl, ey⟩ := yy
      unfold nV at hi ey
      rw [List.length_map] at hi
      rw [List.getElem?_map, List.getElem?_eq_getElem hi] at ey
      cases ey
      have hm : (Mv.path u p).dropLast[i] ∈ (Mv.path u p).dropLast := List.getElem_mem hi
      obtain ⟨y, hy⟩ := hov _ hm
      have hk : (Mv.path u p).dropLast[i] < r.length := by have := Mv.mem_path_le (List.dropLast_subset _ hm); omega
      refine ⟨rfl, _, rfl, _, rfl, rl, _, _, V.int y, rfl, rfl, SqL.of (s2 _ _ R2.at_), atI_nat (by rw [rV_get hk, hy]; rfl), _, e2, ?_, fun b o e => by rw [upd_ne (ne_of_none e hD)]; exact s2 _ _ e, ?_⟩
      · unfold iV Mv.over
        rw [List.length_map, List.length_take, List.length_map, List.length_dropLast]
        exact small1000 (by omega)
      · have ho : (Mv.over u r p)[i]? = some y := by unfold Mv.over; rw [List.getElem?_map, List.getElem?_eq_getElem hi]; show some ((r.getD _ none).getD 0) = _; rw [hy]; rfl
        rw [upd_same, List.take_succ, ho]
        unfold iV
        rw [List.map_append]
        rfl
    · have ol : (Mv.over u r p).length = (Mv.path u p).dropLast.length := by unfold Mv.over; rw [List.length_map]
      have e2 : H3 D = some (.lst (iV (Mv.over u r p))) := by
        rw [e2]
        unfold nV
        rw [List.length_map, ← ol, List.take_length]
      refine ⟨_, rfl, (by show 1 ≤ sizeLine; decide), fun d1 nd1 => ?_⟩
      have s3 := s2.trans (upd_same_of (o := .lst [.int x]) nd1)
      have e2' : upd H3 d1 (.lst [.int x]) D = some (.lst (iV (Mv.over u r p))) := by rw [upd_ne (ne_of_none e2 nd1)]; exact e2
      have e3 : upd H3 d1 (.lst [.int x]) d1 = some (.lst [.int x]) := upd_same
      generalize upd H3 d1 (.lst [.int x]) = H4 at *
      refine ⟨D, d1, _, _, rfl, rfl, e2', e3, ?_, fun d2 nd2 => ?_⟩
      · unfold iV
        rw [List.length_map, ol, List.length_dropLast]
        exact Nat.le_of_lt (small1000 (by show _ + 1 ≤ 1000; omega))
      · have s4 := s3.trans (upd_same_of (o := .lst (iV (Mv.over u r p) ++ [.int x])) nd2)
        have e4 : upd H4 d2 (.lst (iV (Mv.over u r p) ++ [.int x])) d2 = some (.lst ((Mv.over u r p ++ [x]).map V.int)) := by rw [upd_same, List.map_append]; rfl
        generalize upd H4 d2 (.lst (iV (Mv.over u r p) ++ [.int x])) = H5 at *
        refine ⟨d2, _, rfl, SqL.of e4, ?_, fun ns d3 pm pw nd3 => ?_⟩
        · rw [List.length_append, ol, List.length_dropLast, List.length_singleton]; omega
        · rw [Mv.srt_uniq pm pw]
          have s5 := s4.trans (upd_same_of (o := .lst ((Mv.srt (Mv.over u r p ++ [x])).map V.int)) nd3)
          have e5 : upd H5 d3 (.lst ((Mv.srt (Mv.over u r p ++ [x])).map V.int)) d3 = some (.lst ((Mv.srt (Mv.over u r p ++ [x])).map V.int)) := upd_same
          have n3 : H1 d3 = none := (sc1.trans s4).free nd3
          generalize upd H5 d3 (.lst ((Mv.srt (Mv.over u r p ++ [x])).map V.int)) = H6 at *
          have R6 := R2.mono s5
          have e6 : H6 pl = some (.lst (nV (Mv.path u p))) := s5 _ _ (sc1 _ _ e1)
          have hpr : pl ≠ rl := fun e => by rw [e] at n1; rw [R.at_] at n1; cases n1
          have h3r : d3 ≠ rl := fun e => by rw [e] at n3; rw [R1.at_] at n3; cases n3
          have pne : (Mv.path u p).length ≠ 0 := fun z => Mv.up_ne u p (List.reverse_eq_nil_iff.mp (List.length_eq_zero_iff.mp z))
          have ls : (Mv.srt (Mv.over u r p ++ [x])).length = (Mv.path u p).length := by
            rw [Mv.srt_len, List.length_append, ol, List.length_dropLast, List.length_singleton]
            omega
          refine ⟨_, rfl, _, rfl, pl, d3, _, _, rfl, SqL.of e6, SqL.of e5, ?_⟩
          refine for_it (walk_izs (n := (Mv.path u p).length) (by unfold nV; rw [List.length_map]) (by rw [List.length_map]; exact ls)) (fun i σ H' => σ.length = 8 ∧ σ[1]? = some (some (.ref rl)) ∧ (∀ b o, b ≠ rl → H6 b = some o → H' b = some o) ∧ RowsAt H0 H' rl u (Mv.lay r ((Mv.path u p).take i) ((Mv.srt (Mv.over u r p ++ [x])).take i)))
            ⟨rfl, rfl, fun _ _ _ e => e, R6⟩ (fun i σ H' hi ⟨_, _, k, _⟩ => ⟨SqL.of (k _ _ hpr e6), SqL.of (k _ _ h3r e5)⟩) (fun i y σ H' H7 hi ⟨hl, h1, k, Ri⟩ yy => ?_) (fun σ H' ⟨_, _, k, Ri⟩ => ?_)
          · obtain ⟨T, a, b, rfl, nT, rfl, ea, eb⟩ := yy
            have ea : (nV (Mv.path u p))[i]? = some a := ea
            have eb : ((Mv.srt (Mv.over u r p ++ [x])).map V.int)[i]? = some b := eb
            unfold nV at ea
            rw [List.getElem?_map, List.getElem?_eq_getElem hi] at ea
            rw [List.getElem?_map, List.getElem?_eq_getElem (by omega)] at eb
            cases ea
            cases eb
            have hk := Mv.mem_path_le (List.getElem_mem hi)
            have R7 := Ri.mono (upd_same_of (o := .tup [.int ((Mv.path u p)[i] : Nat), .int (Mv.srt (Mv.over u r p ++ [x]))[i]]) nT)
            match σ, hl, h1 with
            | [v0, v1, v2, v3, v4, v5, v6, v7], _, h1 =>
              cases h1
              refine ⟨T, _, rfl, SqT.of upd_same, rfl, _, _, rfl, _, _, rfl, rfl, ?_⟩
              refine ⟨_, rfl, _, rfl, _, rfl, rl, _, _, (Mv.path u p)[i], rfl, rfl, R7.at_, ixN_nat (by rw [rV_len, Mv.lay_len]; omega), rfl, rfl, fun b o hb e => ?_, ?_⟩
              · rw [upd_ne hb, upd_ne (ne_of_none (k b o hb e) nT)]; exact k b o hb e
              · have es : (rV (Mv.lay r ((Mv.path u p).take i) ((Mv.srt (Mv.over u r p ++ [x])).take i))).set (Mv.path u p)[i] (.int (Mv.srt (Mv.over u r p ++ [x]))[i]) = rV (Mv.lay r ((Mv.path u p).take (i + 1)) ((Mv.srt (Mv.over u r p ++ [x])).take (i + 1))) := by
                  rw [lay_take r _ _ i hi (by omega)]
                  exact rV_set _ _ (some _)
                rw [es]
                exact R7.put (by rw [Mv.lay_len, Mv.lay_len])
          · refine q H' ?_
            have e : Mv.joinR u r x p = Mv.lay r ((Mv.path u p).take (Mv.path u p).length) ((Mv.srt (Mv.over u r p ++ [x])).take (Mv.path u p).length) := by
              rw [List.take_length, List.take_of_length_le (by omega)]
              rfl
            rw [e]
            exact Ri
end
end Pm


/-! Promises: post_of, open_posts, join. -/
namespace Pm
open PySem PySem.Spec PyProof.Rows L2 Ru
def spPostOf : Sp := fun vs H Q _ => ∃ c u a r x, vs = [.ref c, .ref a, .int x] ∧ ChA H c u ∧ ArA H a u r ∧ some x ∈ r ∧ ∀ H', Same H H' → Q (.int (Mv.idx r x : Nat)) H'
def spOpenPosts : Sp := fun vs H Q _ => ∃ c u a r, vs = [.ref c, .ref a] ∧ ChA H c u ∧ ArA H a u r ∧ ∀ H' l, Same H H' → H l = none → H' l = some (.lst (nV (Mv.opens u r))) → Q (.ref l) H'
def spJoin : Sp := fun vs H Q _ => ∃ c u a r x, ∃ p : Nat, vs = [.ref c, .ref a, .int x, .int p] ∧ ChA H c u ∧ ArA H a u r ∧ 0 ≤ x ∧ some x ∉ r ∧ p ≤ u.length ∧ Mv.isOpen u r p = true ∧ ∀ H' l, Same H H' → H l = none → H' l = some (.tup (rV (Mv.joinR u r x p))) → Q (.ref l) H'
/-- the posts above an open one are held -/
theorem open_over {u : List Nat} {r : Mv.Rows} (v : Mv.Vd u) (A : Mv.ArrOk u r) {p : Nat} (hp : p ≤ u.length) (ho : Mv.isOpen u r p = true) : ∀ q ∈ (Mv.path u p).dropLast, ∃ y, r.getD q none = some y := by
  intro q hq
  obtain ⟨h1, h2⟩ := of_decide_eq_true ho
  by_cases h0 : p = 0
  · subst h0
    unfold Mv.path at hq
    rw [Mv.up_zero] at hq
    cases hq
  · unfold Mv.path at hq
    rw [Mv.up_succ v (by omega) hp, List.reverse_cons, List.dropLast_concat] at hq
    have hq := List.mem_reverse.mp hq
    cases e : r.getD (Mv.par u p) none with
    | none => exact absurd e (h2.resolve_left h0)
    | some z =>
      obtain ⟨y, hy, _⟩ := A.up v _ z e q hq
      exact ⟨y, hy⟩
section
variable {P : Program} {w : World} {K : PySem.W.Frag} {mg : Str → Option Value} {base : Heap} {C : Addr}
theorem scPostOf : FnScope ["chart", "arrangement", "person"] ["chart", "arrangement", "person"] (defScope sPostOf) := ⟨rfl, rfl, rfl, by decide +kernel, rfl, by decide +kernel, by decide +kernel⟩
theorem c_post_of (G : Gn K mg "post_of" sPostOf ["chart", "arrangement", "person"]) (c1 : Cal P w K mg base 3 "require_chart" spChart) (c2 : Cal P w K mg base 4 "require_arrangement" spArr) (cP : Cal P w K mg base 2 "is_person" spPerson) (cO : Cal P w K mg base 1 "posts_of_people" spPostsOf) :
    Cal P w K mg base 5 "post_of" spPostOf := by
  refine G.cal scPostOf (fun vs H Q E h => ?_) (fun f cdv A outer s H vs Q E hr h => ?_)
  · obtain ⟨c, u, a, r, x, rfl, _⟩ := h; rfl
  · obtain ⟨c, u, a, r, x, rfl, hC, hA, hx, q⟩ := h
    refine ⟨_, pss_cons (ps_expr (pe_c c1 hr (pa_cons (pv 0) pa_nil))) (pss_cons (ps_expr (pe_c c2 hr (pa_cons (pv 0) (pa_cons (pv 1) pa_nil)))) (pss_cons (ps_if (pt_not (pt_val (pe_c cP hr (pa_cons (pv 2) pa_nil)))) pss_never pss_nil)
      (pss_one (ps_ret (pe_dget1 (hu_of hr) (pe_c cO hr (pa_cons (pv 1) pa_nil)) (pv 2) ⟨rfl, rfl, rfl, rfl⟩))))), ?_⟩
    have sz := hC.sz
    refine ⟨_, rfl, c, u, rfl, hC, fun H1 s1 => ⟨_, rfl, _, rfl, c, u, a, r, rfl, hC.same s1, hA.same s1, fun H2 s2 => ?_⟩⟩
    have s02 := s1.trans s2
    refine ⟨_, rfl, _, rfl, .inr ⟨x, rfl, _, rfl, ?_⟩⟩
    rw [decide_eq_true (hA.ok.pos x hx)]
    refine ⟨_, rfl, a, u, r, rfl, hA.same s02, by omega, fun H3 d s3 n3 ⟨kvs, g1, g2⟩ => ?_⟩
    refine ⟨d, rfl, .inl ⟨kvs, Rd.of g1⟩, _, rfl, some (.int (Mv.idx r x : Nat)), .inl ⟨kvs, Sum.inl x, Rd.of g1, rfl, (g2 _ x (Mv.idx_get hx)).symm⟩, q H3 (s02.trans s3)⟩
theorem scOpenPosts : FnScope ["chart", "arrangement", "tree", "post"] ["chart", "arrangement"] (defScope sOpenPosts) := ⟨rfl, rfl, rfl, by decide +kernel, rfl, by decide +kernel, by decide +kernel⟩
theorem c_open_posts (G : Gn K mg "open_posts" sOpenPosts ["chart", "arrangement"]) (B : Bt mg) (Z : Tr P w K mg base C) (c1 : Cal P w K mg base 3 "require_chart" spChart) (c2 : Cal P w K mg base 4 "require_arrangement" spArr) (cO : Cal P w K mg base 1 "is_open" (spIsOpen C)) :
    Cal P w K mg base 5 "open_posts" spOpenPosts := by
  refine G.cal scOpenPosts (fun vs H Q E h => ?_) (fun f cdv A outer s H vs Q E hr h => ?_)
  · obtain ⟨c, u, a, r, rfl, _⟩ := h; rfl
  · obtain ⟨c, u, a, r, rfl, hC, hA, q⟩ := h
    refine ⟨_, pss_cons (ps_expr (pe_c c1 hr (pa_cons (pv 0) pa_nil))) (pss_cons (ps_expr (pe_c c2 hr (pa_cons (pv 0) (pa_cons (pv 1) pa_nil)))) (pss_cons (ps_set (i := 2) scOpenPosts.nd rfl (.inr rfl) (pe_tree 0 Z hr))
      (pss_one (ps_ret (pe_lc rfl scOpenPosts.nd (pi_range1 (by rfl) B.range (pa_cons (pe_callB call_len_seq (by rfl) B.len PySem.boot_len (pa_cons (pv 0) pa_nil)) pa_nil)) (blk_by (own := [("post", 3)]) (by kernel_rfl))
        (fun _ _ _ _ _ => pg_name (i := 3) scOpenPosts.nd rfl (.inl rfl)) (fun _ _ _ _ _ => pts_one (pt_val (pe_c cO hr (pa_cons (pv 2) (pa_cons (pv 1) (pa_cons (pv 3) pa_nil)))))) (fun _ _ _ _ _ => pv 3)))))), ?_⟩
    have sz := hC.sz
    refine ⟨_, rfl, c, u, rfl, hC, fun H1 s1 => ⟨_, rfl, _, rfl, c, u, a, r, rfl, hC.same s1, hA.same s1, fun H2 s2 => ?_⟩⟩
    have s02 := s1.trans s2
    refine ⟨c, u, rfl, hC.same s02, fun H3 t s3 n3 T3 => ?_⟩
    have s03 := s02.trans s3
    refine ⟨_, rfl, c, _, rfl, .inr (SqT.of (s03 _ _ hC.at_)), _, rfl, ?_⟩
    rw [chV_len]
    refine ⟨by omega, by omega, fun D hD => ?_⟩
    rw [Int.toNat_natCast]
    refine lc_it walk0 (fun i H' => Same H3 H' ∧ H' D = some (.lst (nV ((List.range i).filter (Mv.isOpen u r))))) ⟨upd_same_of hD, upd_same⟩ (fun _ _ _ _ => trivial) (fun i x H' H5 hi ⟨s4, e4⟩ y => ?_) (fun H' ⟨s4, e4⟩ => q H' D (s03.trans s4) (s03.free hD) e4)
    obtain ⟨rfl, rfl⟩ := y
    refine ⟨rfl, _, rfl, _, rfl, _, rfl, t, u, a, r, i, rfl, T3.same s4, hA.same (s03.trans s4), by omega, _, rfl, ?_⟩
    by_cases hb : Mv.isOpen u r i = true
    · rw [hb]
      refine ⟨_, rfl, _, e4, ?_, fun b o e => ?_, ?_⟩
      · refine small1000 ?_
        unfold nV
        rw [List.length_map]
        refine Nat.le_trans (List.length_filter_le _ _) ?_
        rw [List.length_range]
        omega
      · rw [upd_ne (ne_of_none e hD)]; exact s4 _ _ e
      · rw [upd_same, List.range_succ, List.filter_append, List.filter_cons, if_pos hb, nV_app]
        rfl
    · rw [Bool.not_eq_true] at hb
      rw [hb]
      refine ⟨s4, ?_⟩
      rw [List.range_succ, List.filter_append, List.filter_cons, if_neg (by rw [hb]; decide), List.filter_nil, List.append_nil]
      exact e4
theorem scJoin : FnScope ["chart", "arrangement", "person", "post", "tree", "rows"] ["chart", "arrangement", "person", "post"] (defScope sJoin) := ⟨rfl, rfl, rfl, by decide +kernel, rfl, by decide +kernel, by decide +kernel⟩
theorem c_join (G : Gn K mg "join" sJoin ["chart", "arrangement", "person", "post"]) (B : Bt mg) (Z : Tr P w K mg base C) (c1 : Cal P w K mg base 3 "require_chart" spChart) (c2 : Cal P w K mg base 4 "require_arrangement" spArr) (cP : Cal P w K mg base 2 "is_person" spPerson)
    (cW : Cal P w K mg base 1 "is_whole" spWhole) (cO : Cal P w K mg base 1 "is_open" (spIsOpen C)) (cJ : Cal P w K mg base 2 "join_one" (spJoinOne C)) : Cal P w K mg base 5 "join" spJoin := by
  refine G.cal scJoin (fun vs H Q E h => ?_) (fun f cdv A outer s H vs Q E hr h => ?_)
  · obtain ⟨c, u, a, r, x, p, rfl, _⟩ := h; rfl
  · obtain ⟨c, u, a, r, x, p, rfl, hC, hA, hx0, hx, hp, hop, q⟩ := h
    refine ⟨_, pss_cons (ps_expr (pe_c c1 hr (pa_cons (pv 0) pa_nil))) (pss_cons (ps_expr (pe_c c2 hr (pa_cons (pv 0) (pa_cons (pv 1) pa_nil))))
      (pss_cons (ps_if (PW.pt (pw_or (pt_not (pt_val (pe_c cP hr (pa_cons (pv 2) pa_nil)))) (pw_or1 (pt_cmpR op_in_seq (pv 2) (pv 1) (by rfl))))) pss_never pss_nil)
      (pss_cons (ps_set (i := 4) scJoin.nd rfl (.inl rfl) (pe_tree 0 Z hr))
      (pss_cons (ps_if (PW.pt (pw_or (pt_not (pt_val (pe_c cW hr (pa_cons (pv 3) pa_nil)))) (pw_or (pt_cmpR op_ge (pv 3) (pe_callB call_len_seq (by rfl) B.len PySem.boot_len (pa_cons (pv 0) pa_nil)) (nomark _)) (pw_or1 (pt_not (pt_val (pe_c cO hr (pa_cons (pv 4) (pa_cons (pv 1) (pa_cons (pv 3) pa_nil)))))))))) pss_never pss_nil)
      (pss_cons (ps_set (i := 5) scJoin.nd rfl (.inl rfl) (pe_callTy call_list_of (by rfl) B.list PyProof.Rows.boot_list (pa_cons (pv 1) pa_nil)))
      (pss_cons (ps_expr (pe_c cJ hr (pa_cons (pv 4) (pa_cons (pv 5) (pa_cons (pv 2) (pa_cons (pv 3) pa_nil))))))
      (pss_one (ps_ret (pe_callTy call_tuple_of (by rfl) B.tuple PyProof.Rows.boot_tuple (pa_cons (pv 5) pa_nil)))))))))), ?_⟩
    have sz := hC.sz
    refine ⟨_, rfl, c, u, rfl, hC, fun H1 s1 => ⟨_, rfl, _, rfl, c, u, a, r, rfl, hC.same s1, hA.same s1, fun H2 s2 => ?_⟩⟩
    have s02 := s1.trans s2
    refine ⟨_, rfl, _, rfl, .inr ⟨x, rfl, _, rfl, ?_⟩⟩
    rw [decide_eq_true hx0]
    refine ⟨_, rfl, _, rfl, a, _, rfl, .inr (SqT.of (s02 _ _ hA.at_)), rfl, all_flat r, _, rfl, ?_⟩
    rw [in_rV, decide_eq_false hx]
    refine ⟨c, u, rfl, hC.same s02, fun H3 t s3 n3 T3 => ?_⟩
    have s03 := s02.trans s3
    refine ⟨_, rfl, _, rfl, .inr ⟨_, rfl, _, rfl, ?_⟩⟩
    rw [decide_eq_true (by omega : (0 : Int) ≤ (p : Nat))]
    refine ⟨_, rfl, _, rfl, c, _, rfl, .inr (SqT.of (s03 _ _ hC.at_)), _, _, rfl, rfl, _, rfl, ?_⟩
    rw [chV_len, decide_eq_false (by omega : ¬ ((u.length + 1 : Nat) : Int) ≤ (p : Nat))]
    refine ⟨_, rfl, _, rfl, _, rfl, t, u, a, r, p, rfl, T3, hA.same s03, hp, _, rfl, ?_⟩
    rw [hop]
    refine ⟨_, rfl, a, _, rfl, .inr (SqT.of (s03 _ _ hA.at_)), fun l nl => ?_⟩
    have R : RowsAt H3 (upd H3 l (.lst (rV r))) l u r := ⟨upd_same_of nl, nl, upd_same, hA.ok.len⟩
    refine ⟨_, rfl, _, rfl, _, rfl, _, rfl, H3, t, l, u, r, x, p, rfl, T3, R, hp, by omega, open_over hC.v hA.ok hp hop, fun H4 R4 => ?_⟩
    refine ⟨_, rfl, l, _, rfl, .inl ⟨SqL.of R4.at_, fun d nd => ?_⟩⟩
    refine q _ d (fun b o e => ?_) (s03.free (R4.same.free nd)) upd_same
    rw [upd_ne (ne_of_none (R4.same _ _ (s03 _ _ e)) nd)]
    exact R4.same _ _ (s03 _ _ e)
end
end Pm


/-! Promises: reduced arrangements. -/
namespace Pm
open PySem PySem.Spec PyProof.Rows L2 Ru
abbrev sRedArr : Stmt := top 30
abbrev sReduced : Stmt := top 36
theorem filter_take_succ {α : Type} (P : α → Bool) (l : List α) (i : Nat) (h : i < l.length) : (l.take (i + 1)).filter P = (l.take i).filter P ++ (if P l[i] = true then [l[i]] else []) := by
  rw [List.take_succ, List.getElem?_eq_getElem h, List.filter_append]
  congr 1
  show List.filter P [l[i]] = _
  rw [List.filter_cons, List.filter_nil]
theorem foldl_take_succ {α β : Type} (f : β → α → β) (b : β) (l : List α) (i : Nat) (h : i < l.length) : (l.take (i + 1)).foldl f b = f ((l.take i).foldl f b) l[i] := by
  rw [List.take_succ, List.getElem?_eq_getElem h, List.foldl_append]
  rfl
def spRedArr (C : Addr) : Sp := fun vs H Q _ => ∃ t u a r l xs, vs = [.ref t, .ref a, .ref l] ∧ TreeAt C H t u ∧ u.length ≤ 40 ∧ ArA H a u r ∧ H l = some (.lst (iV xs)) ∧ xs.Nodup ∧ (∀ x ∈ xs, some x ∈ r) ∧ xs.length < 64 ∧
  ∀ H' p, Same H H' → H p = none → H' p = some (.tup (rV (Mv.redR u r xs))) → Q (.ref p) H'
def spReduced : Sp := fun vs H Q _ => ∃ c u a r l xs, vs = [.ref c, .ref a, .ref l] ∧ ChA H c u ∧ ArA H a u r ∧ H l = some (.lst (iV xs)) ∧ xs.Nodup ∧ (∀ x ∈ xs, some x ∈ r) ∧ xs.length < 64 ∧
  ∀ H' p, Same H H' → H p = none → H' p = some (.tup (rV (Mv.redR u r xs))) → Q (.ref p) H'
section
variable {P : Program} {w : World} {K : PySem.W.Frag} {mg : Str → Option Value} {base : Heap} {C : Addr}
theorem scRedArr : FnScope ["tree", "arrangement", "people", "posts", "rows", "person", "free", "post"] ["tree", "arrangement", "people"] (defScope sRedArr) := ⟨rfl, rfl, rfl, by decide +kernel, rfl, by decide +kernel, by decide +kernel⟩
theorem c_red_arr (G : Gn K mg "reduced_arrangement" sRedArr ["tree", "arrangement", "people"]) (B : Bt mg) (Z : Tr P w K mg base C) (cO : Cal P w K mg base 1 "posts_of_people" spPostsOf) : Cal P w K mg base 2 "reduced_arrangement" (spRedArr C) := by
  refine G.cal scRedArr (fun vs H Q E h => ?_) (fun f cdv A outer s H vs Q E hr h => ?_)
  · obtain ⟨t, u, a, r, l, xs, rfl, _⟩ := h; rfl
  · obtain ⟨t, u, a, r, l, xs, rfl, TA, hu, hA, hl, hn, hm, hz, q⟩ := h
    refine ⟨_, pss_cons (ps_set (i := 3) scRedArr.nd rfl (.inl rfl) (pe_c cO hr (pa_cons (pv 1) pa_nil)))
      (pss_cons (ps_set (i := 4) scRedArr.nd rfl (.inr rfl) (pe_lc rfl scRedArr.nd (pi_tup (pv 1)) (blk_by (own := [("person", 5)]) (by kernel_rfl)) (fun _ _ _ _ _ => pg_name (i := 5) scRedArr.nd rfl (.inl rfl)) (fun _ _ _ _ _ => pts_nil) (fun _ _ _ _ _ => pe_non)))
      (pss_cons (ps_for PassesOwn.never rfl (pi_list (pe_callB cr_sorted (by rfl) B.sorted PyProof.Rows.boot_sorted (pa_cons (pv 2) pa_nil))) (pg_name (i := 5) scRedArr.nd rfl (.inl rfl))
        (pss_cons (ps_setLc (i := 6) rfl scRedArr.nd rfl rfl (sw_true rfl rfl rfl (by kernel_rfl)) (pi_list (pe_tpath Z hr (pv 0) (pe_dget (hu_of hr) (pv 3) (pv 5) (fun _ _ => rfl)))) (blk_by (own := [("post", 7)]) (by kernel_rfl))
            (fun _ _ _ _ _ => pg_name (i := 7) scRedArr.nd rfl (.inl rfl)) (fun _ _ _ _ _ => pts_one (pt_cmpR op_isN (pe_ix (r := rIxL K) ix_list (pv 4) (pv 7) (fun _ _ => rfl)) pe_non (nomark _))) (fun _ _ _ _ _ => pv 7))
          (pss_one (ps_asg (pv 5) (pg_sub (pv 4) (pe_ix ix_list (pv 6) pe_int (fun _ _ => rfl)) set_list)))))
      (pss_one (ps_ret (pe_callTy call_tuple_of (by rfl) B.tuple PyProof.Rows.boot_tuple (pa_cons (pv 4) pa_nil)))))), ?_⟩
    have lr := hA.ok.len
    have vd : Mv.Vd u := let ⟨_, _, _, _, _, g2, _⟩ := TA.ex; g2.v
    refine ⟨_, rfl, a, u, r, rfl, hA, by omega, fun H1 d s1 n1 ⟨kvs, g1, g2⟩ => ?_⟩
    refine ⟨_, rfl, _, rfl, ⟨_, SqT.of (s1 _ _ hA.at_)⟩, fun D hD => ?_⟩
    refine lc_it walk_tup (fun i H' => Same H1 H' ∧ H' D = some (.lst (List.replicate i .non))) ⟨upd_same_of hD, upd_same⟩ (fun i H' hi ⟨s2, _⟩ => SqT.of (s2 _ _ (s1 _ _ hA.at_))) (fun i y H' H3 hi ⟨s2, e2⟩ yy => ?_) (fun H2 ⟨s2, e2⟩ => ?_)
    · obtain ⟨rfl, _⟩ := yy
      rw [rV_len] at hi
      refine ⟨rfl, _, e2, ?_, fun b o e => by rw [upd_ne (ne_of_none e hD)]; exact s2 _ _ e, by rw [upd_same, List.replicate_succ']⟩
      rw [List.length_replicate]; exact small1000 (by omega)
    · rw [rV_len] at e2
      have e2 : H2 D = some (.lst (rV (List.replicate r.length none))) := by
        rw [e2]
        unfold rV
        rw [List.map_replicate]
        rfl
      have s02 := s1.trans s2
      refine ⟨_, rfl, l, xs, rfl, SqL.of (s02 _ _ hl), hz, fun ns L pm pw nL => ?_⟩
      rw [Mv.srt_uniq pm pw]
      have s3 := upd_same_of (o := .lst ((Mv.srt xs).map V.int)) nL
      have eL : upd H2 L (.lst ((Mv.srt xs).map V.int)) L = some (.lst ((Mv.srt xs).map V.int)) := upd_same
      generalize upd H2 L (.lst ((Mv.srt xs).map V.int)) = H3 at *
      have eD := s3 _ _ e2
      have s03 := s02.trans s3
      have hLD : L ≠ D := (ne_of_none e2 nL).symm
      have nD : ∀ b o, H1 b = some o → b ≠ D := fun b o e => ne_of_none e hD
      refine ⟨L, rfl, ⟨_, SqL.of eL⟩, ?_⟩
      have slt := Mv.srt_lt hn
      refine for_it walk_list (fun i σ H' => σ.length = 8 ∧ σ[0]? = some (some (.ref t)) ∧ σ[3]? = some (some (.ref d)) ∧ σ[4]? = some (some (.ref D)) ∧ (∀ b o, b ≠ D → H3 b = some o → H' b = some o) ∧
          H' D = some (.lst (rV (((Mv.srt xs).take i).foldl (Mv.place u r) (List.replicate r.length none)))) ∧ Mv.Placed u r (((Mv.srt xs).take i).foldl (Mv.place u r) (List.replicate r.length none)) fun z => z ∈ (Mv.srt xs).take i)
        ⟨rfl, rfl, rfl, rfl, fun _ _ _ e => e, eD, Mv.Placed.none u r lr⟩ (fun i σ H' hi ⟨_, _, _, _, k, _⟩ => SqL.of (k _ _ hLD eL)) (fun i y σ H' H4 hi ⟨hln, h0, h3, h4, k, eR, Pl⟩ yy => ?_) (fun σ H' ⟨hln, h0, h3, h4, k, eR, Pl⟩ => ?_)
      · obtain ⟨rfl, ey⟩ := yy
        rw [List.length_map] at hi
        rw [List.getElem?_map, List.getElem?_eq_getElem hi] at ey
        cases ey
        have hxm : some (Mv.srt xs)[i] ∈ r := hm _ (Mv.mem_srt.mp (List.getElem_mem hi))
        have hb : ∀ z, z ∈ (Mv.srt xs).take i → z < (Mv.srt xs)[i] := fun z hz => by
          obtain ⟨j, hj, e⟩ := List.mem_iff_getElem.mp hz
          rw [List.getElem_take] at e
          rw [List.length_take] at hj
          rw [← e]
          exact List.pairwise_iff_getElem.mp slt j i (by omega) hi (by omega)
        obtain ⟨kp, lp, ef, hk1, hk2, hk3⟩ := Pl.free hb hA.ok vd hxm
        have st := Pl.step hb hA.ok vd hxm
        have tk := foldl_take_succ (Mv.place u r) (List.replicate r.length none) (Mv.srt xs) i hi
        have mem_tk : ∀ z, (z ∈ (Mv.srt xs).take i ∨ z = (Mv.srt xs)[i]) → z ∈ (Mv.srt xs).take (i + 1) := fun z hz => by
          rw [List.take_succ, List.getElem?_eq_getElem hi, List.mem_append]
          rcases hz with hz | hz
          · exact .inl hz
          · exact .inr (by rw [hz]; simp)
        generalize (Mv.srt xs)[i] = x at *
        generalize ((Mv.srt xs).take i).foldl (Mv.place u r) (List.replicate r.length none) = wr at *
        have hix := Mv.idx_lt hxm
        match σ, hln, h0, h3, h4 with
        | [v0, v1, v2, v3, v4, v5, v6, v7], _, h0, h3, h4 =>
          cases h0
          cases h3
          cases h4
          have T4 : TreeAt C H4 t u := by
            obtain ⟨dx, c, bl, ls, f1, f2, f3, f4, f5⟩ := (TA.same s1).ex
            have kk : ∀ b o, H1 b = some o → H4 b = some o := fun b o e => k b o (nD b o e) (s3 _ _ (s2 _ _ e))
            exact ⟨dx, c, bl, ls, kk _ _ f1, f2.same kk, kk _ _ f3, f4, fun j q e => kk _ _ (f5 j q e)⟩
          have gD : H4 d = some (.dK kvs) := k d _ (nD d _ g1) (s3 _ _ (s2 _ _ g1))
          obtain ⟨dx, fs, f1, f2⟩ := tree_ins T4 (m := "path")
          refine ⟨_, rfl, t, dx, fs, rfl, f1, f2, _, rfl, _, rfl, d, .int (Mv.idx r x : Nat), rfl, .inl ⟨kvs, Sum.inl x, Rd.of gD, rfl, (g2 _ x (Mv.idx_get hxm)).symm⟩, t, u, Mv.idx r x, rfl, T4, by omega, fun H5 pl s5 n5 e5 => ⟨pl, rfl, ⟨_, SqL.of e5⟩, fun D2 hD2 => ?_⟩⟩
          have pml : ∀ j (hj : j < (Mv.path u (Mv.idx r x)).length), (Mv.path u (Mv.idx r x))[j] < wr.length := fun j hj => by
            have := Mv.mem_path_le (List.getElem_mem hj)
            have := Pl.len
            omega
          refine lc_it walk_list (fun j H' => Same H5 H' ∧ H' D2 = some (.lst (nV (((Mv.path u (Mv.idx r x)).take j).filter fun k => decide (wr.getD k none = none))))) ⟨upd_same_of hD2, upd_same⟩ (fun j H' hj ⟨s6, _⟩ => SqL.of (s6 _ _ e5)) (fun j y H' H7 hj ⟨s6, e6⟩ yy => ?_) (fun H6 ⟨s6, e6⟩ => ?_)
          · obtain ⟨rfl, ey⟩ := yy
            unfold nV at hj ey
            rw [List.length_map] at hj
            rw [List.getElem?_map, List.getElem?_eq_getElem hj] at ey
            cases ey
            have gr := s6 _ _ (s5 _ _ eR)
            refine ⟨rfl, _, rfl, _, rfl, D, _, _, oV (wr.getD (Mv.path u (Mv.idx r x))[j] none), rfl, rfl, SqL.of gr, atI_nat (rV_get (pml j hj)), rfl, _, rfl, ?_⟩
            rw [filter_take_succ _ _ _ hj]
            cases er : wr.getD (Mv.path u (Mv.idx r x))[j] none with
            | none =>
              refine ⟨_, rfl, _, e6, ?_, fun b o e => by rw [upd_ne (ne_of_none e hD2)]; exact s6 _ _ e, by rw [upd_same, if_pos (decide_eq_true rfl), nV_app]; rfl⟩
              refine small1000 ?_
              unfold nV
              rw [List.length_map]
              refine Nat.le_trans (List.length_filter_le _ _) ?_
              rw [List.length_take]
              have := Mv.up_len u (Mv.idx r x)
              unfold Mv.path
              rw [List.length_reverse]
              omega
            | some z =>
              refine ⟨s6, ?_⟩
              rw [if_neg (by simp), List.append_nil]
              exact e6
          · have e6 : H6 D2 = some (.lst (nV (Mv.freeOf u r wr x))) := by
              rw [e6]
              unfold nV
              rw [List.length_map, List.take_length]
              rfl
            have s46 := s5.trans s6
            have eR6 := s46 _ _ eR
            have hDD : D ≠ D2 := ne_of_none (s5 _ _ eR) hD2
            have pe : Mv.place u r wr x = wr.set kp (some x) := by unfold Mv.place; rw [ef]; rfl
            refine ⟨_, rfl, _, rfl, _, rfl, D2, _, _, V.int (kp : Nat), rfl, rfl, SqL.of e6, atI_nat (j := 0) (by rw [ef]; rfl), D, _, _, kp, rfl, rfl, eR6, ixN_nat (by rw [rV_len]; have := Pl.len; omega), ?_⟩
            refine ⟨rfl, rfl, rfl, rfl, fun b o hbD e => ?_, ?_, ?_⟩
            · rw [upd_ne hbD]; exact s46 _ _ (k b o hbD e)
            · rw [upd_same, tk, pe]
              exact congrArg (fun z => some (HO.lst z)) (rV_set wr kp (some x))
            · rw [tk]
              exact st.weak fun z hz => mem_tk z hz
      · rw [List.length_map, List.take_length] at eR
        match σ, hln, h0, h3, h4 with
        | [v0, v1, v2, v3, v4, v5, v6, v7], _, h0, h3, h4 =>
          cases h4
          refine ⟨_, rfl, D, _, rfl, .inl ⟨SqL.of eR, fun p np => ?_⟩⟩
          have kk : Same H H' := fun b o e => k b o (nD b o (s1 _ _ e)) (s03 _ _ e)
          exact q _ p (fun b o e => by rw [upd_ne (ne_of_none (kk _ _ e) np)]; exact kk _ _ e) (kk.free np) upd_same
theorem scReduced : FnScope ["chart", "arrangement", "people"] ["chart", "arrangement", "people"] (defScope sReduced) := ⟨rfl, rfl, rfl, by decide +kernel, rfl, by decide +kernel, by decide +kernel⟩
theorem c_reduced (G : Gn K mg "reduced" sReduced ["chart", "arrangement", "people"]) (Z : Tr P w K mg base C) (c1 : Cal P w K mg base 3 "require_chart" spChart) (c2 : Cal P w K mg base 4 "require_arrangement" spArr) (c3 : Cal P w K mg base 3 "require_people" spReqPeople) (cR : Cal P w K mg base 2 "reduced_arrangement" (spRedArr C)) :
    Cal P w K mg base 5 "reduced" spReduced := by
  refine G.cal scReduced (fun vs H Q E h => ?_) (fun f cdv A outer s H vs Q E hr h => ?_)
  · obtain ⟨c, u, a, r, l, xs, rfl, _⟩ := h; rfl
  · obtain ⟨c, u, a, r, l, xs, rfl, hC, hA, hl, hn, hm, hz, q⟩ := h
    refine ⟨_, pss_cons (ps_expr (pe_c c1 hr (pa_cons (pv 0) pa_nil))) (pss_cons (ps_expr (pe_c c2 hr (pa_cons (pv 0) (pa_cons (pv 1) pa_nil)))) (pss_cons (ps_expr (pe_c c3 hr (pa_cons (pv 1) (pa_cons (pv 2) pa_nil))))
      (pss_one (ps_ret (pe_c cR hr (pa_cons (pe_tree 0 Z hr) (pa_cons (pv 1) (pa_cons (pv 2) pa_nil)))))))), ?_⟩
    have sz := hC.sz
    refine ⟨_, rfl, c, u, rfl, hC, fun H1 s1 => ⟨_, rfl, _, rfl, c, u, a, r, rfl, hC.same s1, hA.same s1, fun H2 s2 => ?_⟩⟩
    have s02 := s1.trans s2
    refine ⟨_, rfl, _, rfl, a, u, r, l, xs, rfl, hA.same s02, s02 _ _ hl, hm, hn, by omega, fun H3 s3 => ?_⟩
    have s03 := s02.trans s3
    refine ⟨c, u, rfl, hC.same s03, fun H4 t s4 n4 T4 => ?_⟩
    have s04 := s03.trans s4
    exact ⟨_, rfl, _, rfl, t, u, a, r, l, xs, rfl, T4, by omega, hA.same s04, s04 _ _ hl, hn, hm, hz, fun H5 p s5 n5 e5 => q H5 p (s04.trans s5) (s04.free n5) e5⟩
end
end Pm


/-! Promises: leave, career. -/
namespace Pm
open PySem PySem.Spec PyProof.Rows L2 Ru
abbrev sLeave : Stmt := top 33
abbrev sReqStanding : Stmt := top 38
abbrev sCareer : Stmt := top 39
/-- a def with a star, called by its name -/
structure CalR (P : Program) (w : World) (K : PySem.W.Frag) (mg : Str → Option Value) (base : Heap) (k : Nat) (x : Str) (sp : Sp) : Prop where
  ex : ∃ f : Addr, FnR P w K mg base CX0 k f sp ∧ mg x = some (.ref f) ∧ PySem.W.keepIn K (.ref f) = true
section
variable {X : Cx} {k j : Nat} {x : Str} {sp : Sp} {p pos : Pos} {e : Expr} {es : List Expr} {t : TA}
def tCallR (sp : Sp) (t : TA) : TE := fun σ H Q => t σ H fun vs H1 => sp vs H1 Q E0
theorem pe_cr (c : CalR X.prog X.w X.K X.mg X.base k x sp) (hr : Room j X.A) (ha : PA X (e :: es) t) (hk : k ≤ j := by decide) (hg : Gl X x := by rfl)
    (hdb : (x == ("__debug__" : Str)) = false := by decide) (he : starEach (e :: es) X.env = (false, eval e X.env) :: starEach es X.env := by rfl) (hpl : (backTo pos (starEach es X.env)).any (·.1) = false := by rfl) :
    PE X (.Call (.Name x p) (e :: es) [] pos) (tCallR sp t) := by
  obtain ⟨f, F, hm, kp⟩ := c.ex
  refine ⟨fun pins s σ H Q I h => ?_⟩
  refine wpAny_Call_Name_kw (ld_glob I hg hm ?_ hdb)
  refine PySem.W.callWith_K (h₀ := X.base) I.ok.mod.kin kp (thn (ha.run pos pins s σ H _ I h) fun us s1 ⟨vs, H1, I1, r, q⟩ => ⟨I1.kIn, ?_⟩) he hpl
  exact wpAny_call (run_fnR F (hr.mono hk) pass0 I1 r q)
end
def spLeaveB : Sp := fun vs H Q _ => ∃ c u a r t x, vs = [.ref c, .ref a, .ref t] ∧ ChA H c u ∧ ArA H a u r ∧ H t = some (.tup [.int x]) ∧ some x ∈ r ∧ ∀ H' p, Same H H' → H p = none → H' p = some (.tup (rV (Mv.leaveR u r x).2)) → Q (.ref p) H'
def spLeave : Sp := fun vs H Q E => ∃ c u a r x, vs = [.ref c, .ref a, .int x] ∧ ChA H c u ∧ ArA H a u r ∧ some x ∈ r ∧ ∀ H' p, Same H H' → H p = none → H' p = some (.tup (rV (Mv.leaveR u r x).2)) → Q (.ref p) H'
def spStanding : Sp := fun vs H Q _ => ∃ c u a r l xs x, vs = [.ref c, .ref a, .ref l, .int x] ∧ ChA H c u ∧ ArA H a u r ∧ H l = some (.lst (iV xs)) ∧ xs.Nodup ∧ (∀ y ∈ xs, some y ∈ r) ∧ xs.length ≤ 60 ∧ some x ∈ r ∧ x ∉ xs ∧ ∀ H', Same H H' → Q .non H'
def spCareer : Sp := fun vs H Q _ => ∃ c u a r l xs x, vs = [.ref c, .ref a, .ref l, .int x] ∧ ChA H c u ∧ ArA H a u r ∧ H l = some (.lst (iV xs)) ∧ xs.Nodup ∧ (∀ y ∈ xs, some y ∈ r) ∧ xs.length ≤ 60 ∧ some x ∈ r ∧ x ∉ xs ∧
  ∀ H' p, Same H H' → H p = none → H' p = some (.lst (nV (Mv.careerR u x r xs))) → Q (.ref p) H'
section
variable {P : Program} {w : World} {K : PySem.W.Frag} {mg : Str → Option Value} {base : Heap} {C : Addr}
theorem scLeave : FnScope ["chart", "arrangement", "people", "seen", "person", "tree", "rows"] ((["chart", "arrangement"] : List Str) ++ (["people"] : List Str)) (defScope sLeave) := ⟨rfl, rfl, rfl, by decide +kernel, rfl, by decide +kernel, by decide +kernel⟩
theorem c_leave {f : Addr} {fd : FuncData} (F : Fun K "leave" "leave" sLeave f fd) (hm : mg "leave" = some (.ref f)) (B : Bt mg) (Z : Tr P w K mg base C) (c1 : Cal P w K mg base 3 "require_chart" spChart) (c2 : Cal P w K mg base 4 "require_arrangement" spArr) (c3 : Cal P w K mg base 3 "require_holder" spReqHolder)
    (cL : Cal P w K mg base 2 "leave_one" (spLeaveOne C)) : CalR P w K mg base 5 "leave" spLeave := by
  obtain ⟨oc, od, kV, doc, pm, an, cdv, ct, osl, rfl, lk, hcd⟩ := F.ex
  have R := StX.fn_star (P := P) (w := w) (mg := mg) (base := base) (k := 4) (ps := ["chart", "arrangement"]) (pv := "people") (sp := spLeaveB) lk hcd scLeave StX.cxUp_none (fun us rest hl => match us, rest, hl with | [_, _], [], _ => rfl | [_, _], _ :: _, _ => rfl) fun A outer s H vs Q E hr h => by
    obtain ⟨c, u, a, r, t, x, rfl, hC, hA, ht, hx, q⟩ := h
    have key : ∃ t', PSs (cxOf CX0 P w K mg base ["chart", "arrangement", "people", "seen", "person", "tree", "rows"] "leave" (defScope sLeave) f cdv A outer s H E).nox (defBody sLeave) t' ∧ t' { nx := fun _ H' => Q .non H', rt := Q } (start ["chart", "arrangement", "people", "seen", "person", "tree", "rows"] [.ref c, .ref a, .ref t]) H := by
      refine ⟨_, pss_cons (ps_expr (pe_c c1 hr (pa_cons (pv 0) pa_nil))) (pss_cons (ps_expr (pe_c c2 hr (pa_cons (pv 0) (pa_cons (pv 1) pa_nil)))) (pss_cons (ps_set (i := 3) scLeave.nd rfl (.inl rfl) (pe_lst pa_nil))
        (pss_cons (ps_for PassesOwn.never rfl (pi_tup (pv 2)) (pg_name (i := 4) scLeave.nd rfl (.inl rfl)) (pss_cons (ps_expr (pe_c c3 hr (pa_cons (pv 1) (pa_cons (pv 4) pa_nil)))) (pss_cons (ps_if (pt_cmpR op_in_seq (pv 4) (pv 3) (by rfl)) pss_never pss_nil)
          (pss_one (ps_expr (pe_bm PySem.F.plainAttrs_list PySem.F.slot_list_append PySem.F.type_list_append mt_append (pv 3) (pa_cons (pv 4) pa_nil)))))))
        (pss_cons (ps_set (i := 5) scLeave.nd rfl (.inl rfl) (pe_tree 0 Z hr)) (pss_cons (ps_set (i := 6) scLeave.nd rfl (.inl rfl) (pe_callTy call_list_of (by rfl) B.list PyProof.Rows.boot_list (pa_cons (pv 1) pa_nil)))
        (pss_cons (ps_for PassesOwn.never rfl (pi_tup (pv 2)) (pg_name (i := 4) scLeave.nd rfl (.inl rfl)) (pss_one (ps_expr (pe_c cL hr (pa_cons (pv 5) (pa_cons (pv 6) (pa_cons (pv 4) pa_nil)))))))
        (pss_one (ps_ret (pe_callTy call_tuple_of (by rfl) B.tuple PyProof.Rows.boot_tuple (pa_cons (pv 6) pa_nil)))))))))), ?_⟩
      have sz := hC.sz
      refine ⟨_, rfl, c, u, rfl, hC, fun H1 s1 => ⟨_, rfl, _, rfl, c, u, a, r, rfl, hC.same s1, hA.same s1, fun H2 s2 => ?_⟩⟩
      have s02 := s1.trans s2
      refine ⟨Nat.zero_le _, fun d nd => ?_⟩
      have s3 := upd_same_of (o := .lst []) nd
      have ed : upd H2 d (.lst []) d = some (.lst []) := upd_same
      generalize upd H2 d (.lst []) = H3 at *
      have s03 := s02.trans s3
      have nd0 := s02.free nd
      refine ⟨_, rfl, t, rfl, ⟨_, SqT.of (s03 _ _ ht)⟩, ?_⟩
      refine for_it walk_tup (fun i σ H' => σ.length = 7 ∧ σ[0]? = some (some (.ref c)) ∧ σ[1]? = some (some (.ref a)) ∧ σ[2]? = some (some (.ref t)) ∧ σ[3]? = some (some (.ref d)) ∧ Same H H' ∧ (i = 0 → H' d = some (.lst []))) ⟨rfl, rfl, rfl, rfl, rfl, s03, fun _ => ed⟩ (fun i σ H' hi ⟨_, _, _, _, _, s4, _⟩ => SqT.of (s4 _ _ ht))
        (fun i y σ H' H4 hi ⟨hln, h0, h1, h2, h3, s4, e4⟩ yy => ?_) (fun σ H' ⟨hln, h0, h1, h2, h3, s4, _⟩ => ?_)
      · obtain ⟨rfl, ey⟩ := yy
        have hi0 : i = 0 := by have : i < 1 := hi; omega
        subst hi0
        cases ey
        match σ, hln, h0, h1, h2, h3 with
        | [v0, v1, v2, v3, v4, v5, v6], _, h0, h1, h2, h3 =>
          cases h0
          cases h1
          cases h2
          cases h3
          refine ⟨_, rfl, _, rfl, a, u, r, x, rfl, hA.same s4, hx, ?_⟩
          refine ⟨_, rfl, _, rfl, d, _, rfl, .inl (SqL.of (e4 rfl)), rfl, rfl, _, rfl, ?_⟩
          refine ⟨_, rfl, .inl ⟨rfl, _, SqL.of (e4 rfl)⟩, _, rfl, d, _, _, rfl, rfl, e4 rfl, small1000 (Nat.zero_le _), rfl, rfl, rfl, rfl, rfl, fun b o e => by rw [upd_ne (ne_of_none e nd0)]; exact s4 _ _ e, fun z => by omega⟩
      · match σ, hln, h0, h1, h2, h3 with
        | [v0, v1, v2, v3, v4, v5, v6], _, h0, h1, h2, h3 =>
          cases h0
          cases h1
          cases h2
          cases h3
          refine ⟨c, u, rfl, hC.same s4, fun H5 tr s5 n5 T5 => ?_⟩
          have s05 := s4.trans s5
          refine ⟨_, rfl, a, _, rfl, .inr (SqT.of (s05 _ _ hA.at_)), fun rl nl => ?_⟩
          have R6 : RowsAt H5 (upd H5 rl (.lst (rV r))) rl u r := ⟨upd_same_of nl, nl, upd_same, hA.ok.len⟩
          generalize upd H5 rl (.lst (rV r)) = H6 at *
          refine ⟨_, rfl, t, rfl, ⟨_, SqT.of (R6.same _ _ (s05 _ _ ht))⟩, ?_⟩
          refine for_it walk_tup (fun i σ H' => σ.length = 7 ∧ σ[5]? = some (some (.ref tr)) ∧ σ[6]? = some (some (.ref rl)) ∧ RowsAt H5 H' rl u (if i = 0 then r else (Mv.leaveR u r x).2)) ⟨rfl, rfl, rfl, R6⟩ (fun i σ H' hi ⟨_, _, _, R'⟩ => SqT.of (R'.same _ _ (s05 _ _ ht)))
            (fun i y σ H' H7 hi ⟨hln, h5, h6, R'⟩ yy => ?_) (fun σ H' ⟨hln, h5, h6, R'⟩ => ?_)
          · obtain ⟨rfl, ey⟩ := yy
            have hi0 : i = 0 := by have : i < 1 := hi; omega
            subst hi0
            cases ey
            match σ, hln, h5, h6 with
            | [w0, w1, w2, w3, w4, w5, w6], _, h5, h6 =>
              cases h5
              cases h6
              refine ⟨_, rfl, _, rfl, _, rfl, H5, tr, rl, u, r, x, rfl, T5, by omega, R', hx, fun H8 p R8 _ => ⟨rfl, rfl, rfl, R8⟩⟩
          · match σ, hln, h5, h6 with
            | [w0, w1, w2, w3, w4, w5, w6], _, h5, h6 =>
              cases h6
              have R' : RowsAt H5 H' rl u (Mv.leaveR u r x).2 := R'
              refine ⟨_, rfl, rl, _, rfl, .inl ⟨SqL.of R'.at_, fun p np => ?_⟩⟩
              have kk : Same H H' := s05.trans R'.same
              exact q _ p (fun b o e => by rw [upd_ne (ne_of_none (kk _ _ e) np)]; exact kk _ _ e) (kk.free np) upd_same
    obtain ⟨t', h1, h2⟩ := key
    exact ⟨t', h1.nox, h2⟩
  refine ⟨f, fun A outer s H us vs Q E hr e0 rv h => R A outer s H us vs Q E hr e0 rv ?_, hm, F.kp⟩
  obtain ⟨c, u, a, r, x, rfl, hC, hA, hx, q⟩ := h
  refine ⟨[.ref c, .ref a], [.int x], rfl, rfl, (by show 1 ≤ sizeLine; decide), fun p np => ?_⟩
  have s1 := upd_same_of (o := .tup [.int x]) np
  exact ⟨c, u, a, r, p, x, rfl, hC.same s1, hA.same s1, upd_same, hx, fun H' p' s2 n2 e2 => q H' p' (s1.trans s2) (s1.free n2) e2⟩
theorem scReqStanding : FnScope ["chart", "arrangement", "leavers", "person"] ["chart", "arrangement", "leavers", "person"] (defScope sReqStanding) := ⟨rfl, rfl, rfl, by decide +kernel, rfl, by decide +kernel, by decide +kernel⟩
theorem c_req_standing (G : Gn K mg "require_standing" sReqStanding ["chart", "arrangement", "leavers", "person"]) (c1 : Cal P w K mg base 3 "require_chart" spChart) (c2 : Cal P w K mg base 4 "require_arrangement" spArr) (c3 : Cal P w K mg base 3 "require_people" spReqPeople) (c4 : Cal P w K mg base 3 "require_holder" spReqHolder) :
    Cal P w K mg base 5 "require_standing" spStanding := by
  refine G.cal scReqStanding (fun vs H Q E h => ?_) (fun f cdv A outer s H vs Q E hr h => ?_)
  · obtain ⟨c, u, a, r, l, xs, x, rfl, _⟩ := h; rfl
  · obtain ⟨c, u, a, r, l, xs, x, rfl, hC, hA, hl, hn, hm, hz, hx, hxs, q⟩ := h
    refine ⟨_, pss_cons (ps_expr (pe_c c1 hr (pa_cons (pv 0) pa_nil))) (pss_cons (ps_expr (pe_c c2 hr (pa_cons (pv 0) (pa_cons (pv 1) pa_nil)))) (pss_cons (ps_expr (pe_c c3 hr (pa_cons (pv 1) (pa_cons (pv 2) pa_nil)))) (pss_cons (ps_expr (pe_c c4 hr (pa_cons (pv 1) (pa_cons (pv 3) pa_nil))))
      (pss_one (ps_if (pt_cmpR op_in_seq (pv 3) (pv 2) (by rfl)) pss_never pss_nil))))), ?_⟩
    refine ⟨_, rfl, c, u, rfl, hC, fun H1 s1 => ⟨_, rfl, _, rfl, c, u, a, r, rfl, hC.same s1, hA.same s1, fun H2 s2 => ?_⟩⟩
    have s02 := s1.trans s2
    refine ⟨_, rfl, _, rfl, a, u, r, l, xs, rfl, hA.same s02, s02 _ _ hl, hm, hn, by omega, fun H3 s3 => ?_⟩
    have s03 := s02.trans s3
    refine ⟨_, rfl, _, rfl, a, u, r, x, rfl, hA.same s03, hx, ?_⟩
    refine ⟨_, rfl, _, rfl, l, _, rfl, .inl (SqL.of (s03 _ _ hl)), rfl, all_flatI xs, _, rfl, ?_⟩
    rw [in_iV, decide_eq_false hxs]
    exact q H3 s03
/-- the rows behind the first leavers -/
def rowsTo (u : List Nat) (r : Mv.Rows) (xs : List Int) : Mv.Rows := xs.foldl (fun r l => (Mv.leaveR u r l).2) r
theorem career_app (u : List Nat) (x : Int) : ∀ (ls : List Int) (r : Mv.Rows) (l : Int), Mv.careerR u x r (ls ++ [l]) = Mv.careerR u x r ls ++ [Mv.idx (rowsTo u r (ls ++ [l])) x]
  | [], r, l => rfl
  | a :: ls, r, l => by
    show Mv.idx r x :: Mv.careerR u x (Mv.leaveR u r a).2 (ls ++ [l]) = Mv.idx r x :: (Mv.careerR u x (Mv.leaveR u r a).2 ls ++ _)
    rw [career_app u x ls (Mv.leaveR u r a).2 l]
    rfl
theorem rowsTo_len (u : List Nat) : ∀ (xs : List Int) (r : Mv.Rows), (rowsTo u r xs).length = r.length
  | [], r => rfl
  | a :: xs, r => (rowsTo_len u xs _).trans (Mv.leave_len u r a)
theorem rowsTo_mem {u : List Nat} (v : Mv.Vd u) : ∀ (xs : List Int) (r : Mv.Rows) (y : Int), r.length = u.length + 1 → xs.Nodup → (∀ z ∈ xs, some z ∈ r) → some y ∈ r → y ∉ xs → some y ∈ rowsTo u r xs
  | [], r, y, _, _, _, h, _ => h
  | a :: xs, r, y, hl, hn, hm, h, hy => by
    have hn2 := List.nodup_cons.mp hn
    have ha := hm a List.mem_cons_self
    refine rowsTo_mem v xs _ y ((Mv.leave_len u r a).trans hl) hn2.2 (fun z hz => Mv.leave_mem v hl ha (hm z (List.mem_cons_of_mem _ hz)) fun e => hn2.1 (by rw [← e]; exact hz)) (Mv.leave_mem v hl ha h fun e => hy (by rw [e]; exact List.mem_cons_self)) fun z => hy (List.mem_cons_of_mem _ z)
theorem career_len (u : List Nat) (x : Int) : ∀ (ls : List Int) (r : Mv.Rows), (Mv.careerR u x r ls).length = ls.length + 1
  | [], _ => rfl
  | a :: ls, r => by unfold Mv.careerR; rw [List.length_cons, career_len u x ls]; rfl
theorem scCareer : FnScope ["chart", "arrangement", "leavers", "person", "tree", "rows", "posts", "other"] ["chart", "arrangement", "leavers", "person"] (defScope sCareer) := ⟨rfl, rfl, rfl, by decide +kernel, rfl, by decide +kernel, by decide +kernel⟩
theorem c_career (G : Gn K mg "career" sCareer ["chart", "arrangement", "leavers", "person"]) (B : Bt mg) (Z : Tr P w K mg base C) (c1 : Cal P w K mg base 5 "require_standing" spStanding) (cL : Cal P w K mg base 2 "leave_one" (spLeaveOne C)) : Cal P w K mg base 6 "career" spCareer := by
  refine G.cal scCareer (fun vs H Q E h => ?_) (fun f cdv A outer s H vs Q E hr h => ?_)
  · obtain ⟨c, u, a, r, l, xs, x, rfl, _⟩ := h; rfl
  · obtain ⟨c, u, a, r, l, xs, x, rfl, hC, hA, hl, hn, hm, hz, hx, hxs, q⟩ := h
    refine ⟨_, pss_cons (ps_expr (pe_c c1 hr (pa_cons (pv 0) (pa_cons (pv 1) (pa_cons (pv 2) (pa_cons (pv 3) pa_nil)))))) (pss_cons (ps_set (i := 4) scCareer.nd rfl (.inl rfl) (pe_tree 0 Z hr)) (pss_cons (ps_set (i := 5) scCareer.nd rfl (.inl rfl) (pe_callTy call_list_of (by rfl) B.list PyProof.Rows.boot_list (pa_cons (pv 1) pa_nil)))
      (pss_cons (ps_set (i := 6) scCareer.nd rfl (.inl rfl) (pe_lst (pa_cons (pe_bm PySem.F.plainAttrs_list PySem.F.slot_list_index PySem.F.type_list_index mt_index (pv 5) (pa_cons (pv 3) pa_nil)) pa_nil)))
      (pss_cons (ps_for PassesOwn.never rfl (pi_list (pv 2)) (pg_name (i := 7) scCareer.nd rfl (.inl rfl)) (pss_cons (ps_expr (pe_c cL hr (pa_cons (pv 4) (pa_cons (pv 5) (pa_cons (pv 7) pa_nil)))))
        (pss_one (ps_expr (pe_bm PySem.F.plainAttrs_list PySem.F.slot_list_append PySem.F.type_list_append mt_append (pv 6) (pa_cons (pe_bm PySem.F.plainAttrs_list PySem.F.slot_list_index PySem.F.type_list_index mt_index (pv 5) (pa_cons (pv 3) pa_nil)) pa_nil))))))
      (pss_one (ps_ret (pv 6))))))), ?_⟩
    have sz := hC.sz
    have lr := hA.ok.len
    refine ⟨_, rfl, _, rfl, _, rfl, _, rfl, c, u, a, r, l, xs, x, rfl, hC, hA, hl, hn, hm, hz, hx, hxs, fun H1 s1 => ?_⟩
    refine ⟨c, u, rfl, hC.same s1, fun H2 t s2 n2 T2 => ?_⟩
    have s02 := s1.trans s2
    refine ⟨_, rfl, a, _, rfl, .inr (SqT.of (s02 _ _ hA.at_)), fun rl nl => ?_⟩
    have R3 : RowsAt H2 (upd H2 rl (.lst (rV r))) rl u r := ⟨upd_same_of nl, nl, upd_same, lr⟩
    generalize upd H2 rl (.lst (rV r)) = H3 at *
    refine ⟨_, rfl, .inl ⟨rfl, _, SqL.of R3.at_⟩, _, rfl, rl, rV r, .int x, Mv.idx r x, .int x, rfl, rfl, SqL.of R3.at_, rfl, all_flat r, idx_at hx, beq_self_eq_true x, fun m z hm hz => eqV_ne hm hz, ?_⟩
    refine ⟨(by show 1 ≤ sizeLine; decide), fun ps nps => ?_⟩
    have hrp : rl ≠ ps := ne_of_none R3.at_ nps
    have n2p : H2 ps = none := R3.same.free nps
    have R4 := R3.mono (upd_same_of (o := .lst [.int (Mv.idx r x : Nat)]) nps)
    have e4 : upd H3 ps (.lst [.int (Mv.idx r x : Nat)]) ps = some (.lst [.int (Mv.idx r x : Nat)]) := upd_same
    generalize upd H3 ps (.lst [.int (Mv.idx r x : Nat)]) = H4 at *
    have nl0 := s02.free nl
    have np0 := s02.free n2p
    have hlr : l ≠ rl := ne_of_none hl nl0
    refine ⟨_, rfl, l, rfl, ⟨_, SqL.of (R4.same _ _ (s02 _ _ hl))⟩, ?_⟩
    refine for_it walk_list (fun i σ H' => σ.length = 8 ∧ σ[3]? = some (some (.int x)) ∧ σ[4]? = some (some (.ref t)) ∧ σ[5]? = some (some (.ref rl)) ∧ σ[6]? = some (some (.ref ps)) ∧ RowsAt H2 H' rl u (rowsTo u r (xs.take i)) ∧ H' ps = some (.lst (nV (Mv.careerR u x r (xs.take i)))))
      ⟨rfl, rfl, rfl, rfl, rfl, R4, e4⟩ (fun i σ H' hi ⟨_, _, _, _, _, R', _⟩ => SqL.of (R'.same _ _ (s02 _ _ hl))) (fun i y σ H' H6 hi ⟨hln, h3, h4, h5, h6, R', ep⟩ yy => ?_) (fun σ H' ⟨hln, h3, h4, h5, h6, R', ep⟩ => ?_)
    · obtain ⟨rfl, ey⟩ := yy
      unfold iV at hi ey
      rw [List.length_map] at hi
      rw [List.getElem?_map, List.getElem?_eq_getElem hi] at ey
      cases ey
      have tk : xs.take (i + 1) = xs.take i ++ [xs[i]] := by rw [List.take_succ, List.getElem?_eq_getElem hi]; rfl
      have nt : (xs.take (i + 1)).Nodup := hn.sublist (List.take_sublist _ _)
      have sub : ∀ z ∈ xs.take (i + 1), z ∈ xs := fun z hz => List.take_subset _ _ hz
      rw [tk] at nt
      obtain ⟨nt1, _, nt3⟩ := List.nodup_append.mp nt
      have hxi : some xs[i] ∈ rowsTo u r (xs.take i) := rowsTo_mem hC.v _ r _ lr nt1 (fun z hz => hm z (List.take_subset _ _ hz)) (hm _ (List.getElem_mem hi)) fun z => nt3 _ z _ (List.mem_singleton.mpr rfl) rfl
      have hx2 : some x ∈ rowsTo u r (xs.take (i + 1)) := rowsTo_mem hC.v _ r _ lr (by rw [tk]; exact nt) (fun z hz => hm z (sub z hz)) hx fun z => hxs (sub x z)
      have rt : rowsTo u r (xs.take (i + 1)) = (Mv.leaveR u (rowsTo u r (xs.take i)) xs[i]).2 := by
        rw [tk]
        unfold rowsTo
        rw [List.foldl_append]
        rfl
      match σ, hln, h3, h4, h5, h6 with
      | [v0, v1, v2, v3, v4, v5, v6, v7], _, h3, h4, h5, h6 =>
        cases h3
        cases h4
        cases h5
        cases h6
        refine ⟨_, rfl, _, rfl, _, rfl, H2, t, rl, u, _, xs[i], rfl, T2, by omega, R', hxi, fun H7 p R7 k7 => ?_⟩
        rw [← rt] at R7
        have ep7 := k7 ps _ hrp.symm ep
        refine ⟨_, rfl, .inl ⟨rfl, _, SqL.of ep7⟩, _, rfl, .inl ⟨rfl, _, SqL.of R7.at_⟩, _, rfl, rl, _, .int x, Mv.idx (rowsTo u r (xs.take (i + 1))) x, .int x, rfl, rfl, SqL.of R7.at_, rfl, all_flat _, idx_at hx2, beq_self_eq_true x, fun m z hm hz => eqV_ne hm hz, ?_⟩
        refine ⟨ps, _, _, rfl, rfl, ep7, ?_, rfl, rfl, rfl, rfl, rfl, ⟨fun b o e => ?_, R7.new, ?_, R7.len⟩, ?_⟩
        · unfold nV
          rw [List.length_map, career_len, List.length_take]
          exact small1000 (by omega)
        · rw [upd_ne (ne_of_none e n2p)]; exact R7.same _ _ e
        · rw [upd_ne hrp]; exact R7.at_
        · rw [upd_same, tk, career_app, nV_app, ← tk]
          rfl
    · unfold iV at ep
      rw [List.length_map, List.take_length] at ep
      match σ, hln, h6 with
      | [v0, v1, v2, v3, v4, v5, v6, v7], _, h6 =>
        cases h6
        exact ⟨_, rfl, q H' ps (s02.trans R'.same) np0 ep⟩
end
end Pm


/-! Promises: chain, a generator. -/
namespace Pm
open PySem PySem.Spec PyProof.Rows L2 Ru GenW
abbrev sChain : Stmt := top 34
def nChain : List Str := ["chart", "arrangement", "person", "tree", "rows", "post", "lower"]
def trV (m : Int × Nat × Nat) : List V := [.int m.1, .int (m.2.1 : Nat), .int (m.2.2 : Nat)]
/-- where the walk stands: rest is to come -/
structure CSt (C : Addr) (Ht : Hp) (u : List Nat) (tr rl : Addr) (σ : L2.St) (H : Hp) (rest : List (Int × Nat × Nat)) : Prop where
  len : σ.length = 7
  s3 : σ[3]? = some (some (.ref tr))
  s4 : σ[4]? = some (some (.ref rl))
  at_ : ∃ (p : Nat) (r1 : Mv.Rows), σ[5]? = some (some (.int p)) ∧ RowsAt Ht H rl u r1 ∧ ((σ[6]? = some (some .non) ∧ rest = []) ∨
    ∃ (l f : Nat) (y : Int), σ[6]? = some (some (.int l)) ∧ r1.getD p none = some y ∧ l ≤ u.length ∧ p ≤ u.length ∧ u.length ≤ f + l ∧ rest = (y, l, p) :: (Mv.run u (f + 1) r1 l).1)
theorem move_chain {C : Addr} {Ht : Hp} {u : List Nat} {tr rl : Addr} {σ : L2.St} {H : Hp} {p f : Nat} {r1 : Mv.Rows} (hu : u.length ≤ 100) (TA : TreeAt C Ht tr u) (hl : σ.length = 7) (h3 : σ[3]? = some (some (.ref tr))) (h4 : σ[4]? = some (some (.ref rl))) (h5 : σ[5]? = some (some (.int p)))
    (R : RowsAt Ht H rl u r1) (hp : p ≤ u.length) (hf : u.length ≤ f + p) : spMoveUp C [.ref tr, .ref rl, .int p] H (fun v H' => CSt C Ht u tr rl (σ.set 6 (some v)) H' (Mv.run u (f + 1) r1 p).1 ∧ ∀ b o, b ≠ rl → H b = some o → H' b = some o) E0 := by
  have vd : Mv.Vd u := let ⟨_, _, _, _, _, g2, _⟩ := TA.ex; g2.v
  refine ⟨Ht, tr, rl, u, r1, p, rfl, TA, hu, R, hp, fun hb H' R' k => ⟨⟨by rw [List.length_set]; exact hl, by rw [List.getElem?_set_ne (by decide)]; exact h3, by rw [List.getElem?_set_ne (by decide)]; exact h4, p, r1, by rw [List.getElem?_set_ne (by decide)]; exact h5, R', .inl ⟨by rw [List.getElem?_set_self (by omega)], by rw [run_nil hb]⟩⟩, k⟩, fun x l hb H' R' k => ?_⟩
  have hl2 := Mv.kids_gt vd (Mv.mem_cands (Mv.best_mem hb)).1
  obtain ⟨f', rfl⟩ : ∃ f', f = f' + 1 := ⟨f - 1, by omega⟩
  have lr := R.len
  refine ⟨⟨by rw [List.length_set]; exact hl, by rw [List.getElem?_set_ne (by decide)]; exact h3, by rw [List.getElem?_set_ne (by decide)]; exact h4, p, _, by rw [List.getElem?_set_ne (by decide)]; exact h5, R', .inr ⟨l, f', x, by rw [List.getElem?_set_self (by omega)], ?_, hl2.2, hp, by omega, by rw [run_cons hb]⟩⟩, k⟩
  rw [List.getD_eq_getElem?_getD, List.getElem?_set_ne (by omega), List.getElem?_set_self (by omega)]
  rfl
/-- one item: the tuple, then the next move -/
theorem CSt.item {C : Addr} {Ht : Hp} {u : List Nat} {tr rl : Addr} {σ : L2.St} {H : Hp} {m : Int × Nat × Nat} {rest : List (Int × Nat × Nat)} (S : CSt C Ht u tr rl σ H (m :: rest)) :
    ∃ (p : Nat) (r1 : Mv.Rows) (l f : Nat) (y : Int), σ[5]? = some (some (.int p)) ∧ RowsAt Ht H rl u r1 ∧ σ[6]? = some (some (.int l)) ∧ r1.getD p none = some y ∧ l ≤ u.length ∧ p ≤ u.length ∧ u.length ≤ f + l ∧ m = (y, l, p) ∧ rest = (Mv.run u (f + 1) r1 l).1 := by
  obtain ⟨p, r1, h5, R, z | ⟨l, f, y, h6, hy, hl, hp, hf, e⟩⟩ := S.at_
  · cases z.2
  · cases e
    exact ⟨p, r1, l, f, y, h5, R, h6, hy, hl, hp, hf, rfl, rfl⟩
theorem CSt.nil {C : Addr} {Ht : Hp} {u : List Nat} {tr rl : Addr} {σ : L2.St} {H : Hp} (S : CSt C Ht u tr rl σ H []) : σ[6]? = some (some .non) := by
  obtain ⟨p, r1, h5, R, z | ⟨l, f, y, h6, hy, hl, hp, hf, e⟩⟩ := S.at_
  · exact z.1
  · cases e
theorem CSt.list {C : Addr} {Ht : Hp} {u : List Nat} {tr rl : Addr} {σ : L2.St} {H : Hp} {rest : List (Int × Nat × Nat)} (S : CSt C Ht u tr rl σ H rest) : Ht rl = none ∧ ∃ xs, H rl = some (.lst xs) := by
  obtain ⟨p, r1, h5, R, _⟩ := S.at_
  exact ⟨R.new, _, R.at_⟩
theorem CSt.mono {C : Addr} {Ht : Hp} {u : List Nat} {tr rl : Addr} {σ : L2.St} {H H' : Hp} {rest : List (Int × Nat × Nat)} (S : CSt C Ht u tr rl σ H rest) (h1 : Same Ht H') (h2 : ∀ o, H rl = some o → H' rl = some o) : CSt C Ht u tr rl σ H' rest := by
  obtain ⟨p, r1, h5, R, z⟩ := S.at_
  exact ⟨S.len, S.s3, S.s4, p, r1, h5, ⟨h1, R.new, h2 _ R.at_, R.len⟩, z⟩
theorem gss_app {X : Cx} {pre rest : List Stmt} {t : TS} {u : TGn} (h : PSs X pre t) (b : GSs X rest u) : GSs X (pre ++ rest) (fun D ys σ H => t { nx := fun σ' H' => u D ys σ' H', rt := fun _ _ => False } σ H) := by
  refine ⟨fun A S ip R n ys s₀ c fs K J gd lv s σ H D g hn k hI ht => ?_⟩
  obtain ⟨acc, cc, r, I⟩ := hI
  rw [execs_app_wrap]
  refine seg_wrap ?_
  rw [g.over]
  refine wpAny_mono (h.run _ s σ H _ I ht) (fun f s' hs => ?_) fun x s' hx => k.exc n s₀ x s' hx
  cases f with
  | next =>
    obtain ⟨σ', H', I', q⟩ := hs
    exact b.run A S ip R n ys s₀ c fs K J gd lv s' σ' H' D g hn k ⟨acc, cc, r, I'⟩ q
  | brk => obtain ⟨_, _, _, z⟩ := hs; exact z.elim
  | cont => obtain ⟨_, _, _, z⟩ := hs; exact z.elim
  | ret v => obtain ⟨_, _, _, _, _, z⟩ := hs; exact z.elim
def rLst (K : PySem.W.Frag) : List V → Hp → VK → Prop := fun xs H Q => ∃ p ys, xs = [.ref p] ∧ (SqL K H p ys ∨ SqT K H p ys) ∧ ∀ l, H l = none → Q (.ref l) (upd H l (.lst ys))
def tPre (K : PySem.W.Frag) (C : Addr) : TS := tSeq (tDrop (tCall spChart [] E0 (tCons (tVar 0) tNil))) (tSeq (tDrop (tCall spArr [] E0 (tCons (tVar 0) (tCons (tVar 1) tNil)))) (tSeq (tDrop (tCall spReqHolder [] E0 (tCons (tVar 1) (tCons (tVar 2) tNil))))
  (tSeq (tAsg (tTreeN C 0) (gName 3)) (tSeq (tAsg (tCB (rLst K) (tCons (tVar 1) tNil)) (gName 4)) (tSeq (tAsg (tBM K "list" (rIndex K) (tVar 4) (tCons (tVar 2) tNil)) (gName 5)) (tSeq (tAsg (tC .non) (gSub (tVar 4) (tVar 5) rSetL))
  (tAsg (tCall (spMoveUp C) [] E0 (tCons (tVar 3) (tCons (tVar 4) (tCons (tVar 5) tNil)))) (gName 6))))))))
def tPost (C : Addr) : TS := tSeq (tAsg (tVar 6) (gName 5)) (tAsg (tCall (spMoveUp C) [] E0 (tCons (tVar 3) (tCons (tVar 4) (tCons (tVar 5) tNil)))) (gName 6))
def tTst : TT := tTest (tOp (fun x y H Q => y = V.non ∧ Q (V.bl !decide (x = V.non)) H) (tVar 6) (tC V.non))
def tItm (K : PySem.W.Frag) : TE := tTup (tCons (tOp (rIxL K) (tVar 4) (tVar 5)) (tCons (tVar 6) (tCons (tVar 5) tNil)))
/-- up to the loop -/
theorem preC {K : PySem.W.Frag} {C : Addr} {H : Hp} {c a : Addr} {u : List Nat} {r : Mv.Rows} {x : Int} {D : Ends} (hC : ChA H c u) (hA : ArA H a u r) (hx : some x ∈ r)
    (q : ∀ Ht tr rl σ H', Same H H' → TreeAt C Ht tr u → CSt C Ht u tr rl σ H' (Mv.leaveR u r x).1 → H rl = none → (∀ b xs, H b = some (.lst xs) → Ht b = none) → D.nx σ H') : tPre K C D (start nChain [.ref c, .ref a, .int x]) H := by
  have sz := hC.sz
  have lr := hA.ok.len
  have hi := Mv.idx_lt hx
  refine ⟨_, rfl, c, u, rfl, hC, fun H1 s1 => ⟨_, rfl, _, rfl, c, u, a, r, rfl, hC.same s1, hA.same s1, fun H2 s2 => ?_⟩⟩
  have s02 := s1.trans s2
  refine ⟨_, rfl, _, rfl, a, u, r, x, rfl, hA.same s02, hx, ?_⟩
  refine ⟨c, u, rfl, hC.same s02, fun H3 tr s3 n3 ⟨Ht, TA, sT, nT⟩ => ?_⟩
  have s03 := s02.trans s3
  refine ⟨_, rfl, a, _, rfl, .inr (SqT.of (s03 _ _ hA.at_)), fun rl nl => ?_⟩
  have R4 : RowsAt Ht (upd H3 rl (.lst (rV r))) rl u r := ⟨sT.trans (upd_same_of nl), sT.free nl, upd_same, lr⟩
  have s34 : Same H3 (upd H3 rl (.lst (rV r))) := upd_same_of nl
  generalize upd H3 rl (.lst (rV r)) = H4 at *
  refine ⟨_, rfl, .inl ⟨rfl, _, SqL.of R4.at_⟩, _, rfl, rl, rV r, .int x, Mv.idx r x, .int x, rfl, rfl, SqL.of R4.at_, rfl, all_flat r, idx_at hx, beq_self_eq_true x, fun m z hm hz => eqV_ne hm hz, ?_⟩
  refine ⟨_, rfl, _, rfl, rl, _, _, _, rfl, rfl, R4.at_, ixN_nat (by rw [rV_len]; exact hi), ?_⟩
  have es : (rV r).set (Mv.idx r x) .non = rV (r.set (Mv.idx r x) none) := rV_set r _ none
  rw [es]
  have R5 := R4.put (r' := r.set (Mv.idx r x) none) (by simp)
  have k5 : ∀ b o, b ≠ rl → H4 b = some o → upd H4 rl (.lst (rV (r.set (Mv.idx r x) none))) b = some o := fun b o hb e => by rw [upd_ne hb]; exact e
  generalize upd H4 rl (.lst (rV (r.set (Mv.idx r x) none))) = H5 at *
  refine ⟨_, rfl, _, rfl, _, rfl, ?_⟩
  dsimp only [tNil]
  refine moveUp_mono (fun v H6 z => ?_) (move_chain (σ := [some (.ref c), some (.ref a), some (.int x), some (.ref tr), some (.ref rl), some (.int (Mv.idx r x : Nat)), none]) (f := u.length) (by omega) TA rfl rfl rfl rfl R5 (by omega) (by omega))
  have nl0 := s03.free nl
  refine q Ht tr rl _ H6 (fun b o e => z.2 b o (ne_of_none e nl0) (k5 b o (ne_of_none e nl0) (s34 _ _ (s03 _ _ e)))) TA z.1 nl0 fun b xs e => nT b xs (s02 _ _ e)
/-- the next move -/
theorem postC {C : Addr} {Ht H : Hp} {u : List Nat} {tr rl : Addr} {σ : L2.St} {m : Int × Nat × Nat} {rest : List (Int × Nat × Nat)} {D : Ends} (hu : u.length ≤ 100) (TA : TreeAt C Ht tr u) (S : CSt C Ht u tr rl σ H (m :: rest))
    (q : ∀ σ' H', CSt C Ht u tr rl σ' H' rest → (∀ b o, b ≠ rl → H b = some o → H' b = some o) → D.nx σ' H') : tPost C D σ H := by
  obtain ⟨p, r1, l, f, y, h5, R, h6, hy, hl, hp, hf, _, e⟩ := S.item
  have h3 := S.s3
  have h4 := S.s4
  match σ, S.len, h3, h4, h5, h6 with
  | [v0, v1, v2, v3, v4, v5, v6], _, h3, h4, h5, h6 =>
    cases h3
    cases h4
    cases h5
    cases h6
    refine ⟨_, rfl, _, rfl, _, rfl, _, rfl, ?_⟩
    dsimp only [tNil]
    refine moveUp_mono (fun v H6 z => ?_) (move_chain (σ := [v0, v1, v2, some (.ref tr), some (.ref rl), some (.int (l : Nat)), some (.int (l : Nat))]) hu TA rfl rfl rfl rfl R hl hf)
    rw [← e] at z
    exact q _ H6 z.1 z.2
/-- what is handed out -/
theorem itemC {K : PySem.W.Frag} {C : Addr} {Ht H : Hp} {u : List Nat} {tr rl : Addr} {σ : L2.St} {m : Int × Nat × Nat} {rest : List (Int × Nat × Nat)} {Q : VK} (S : CSt C Ht u tr rl σ H (m :: rest)) (q : ∀ T, H T = none → Q (.ref T) (upd H T (.tup (trV m)))) : tItm K σ H Q := by
  obtain ⟨p, r1, l, f, y, h5, R, h6, hy, hl, hp, hf, e, _⟩ := S.item
  have lr := R.len
  refine ⟨_, S.s4, _, h5, rl, _, _, V.int y, rfl, rfl, SqL.of R.at_, atI_nat (by rw [rV_get (by omega), hy]; rfl), _, h6, _, h5, (by show 3 ≤ sizeLine; decide), fun T hT => ?_⟩
  have := q T hT
  rw [e] at this
  exact this
theorem testC {C : Addr} {Ht H : Hp} {u : List Nat} {tr rl : Addr} {σ : L2.St} {rest : List (Int × Nat × Nat)} {Q : Bool → Hp → Prop} (S : CSt C Ht u tr rl σ H rest) (q : Q (decide (rest ≠ [])) H) : tTst σ H Q := by
  cases rest with
  | nil => exact ⟨_, S.nil, rfl, _, rfl, q⟩
  | cons m rest =>
    obtain ⟨p, r1, l, f, y, h5, R, h6, _⟩ := S.item
    exact ⟨_, h6, rfl, _, rfl, q⟩
def spChainI : List V → Hp → List (List V) → Prop := fun vs H items => ∃ c u a r x, vs = [.ref c, .ref a, .int x] ∧ ChA H c u ∧ ArA H a u r ∧ some x ∈ r ∧ items = (Mv.leaveR u r x).1.map trV
section
variable {X : Cx} {C : Addr}
def dChain (f : Addr) (cdv : Value) : GDef := ⟨nChain, "chain", defScope sChain, f, cdv, defBody sChain⟩
theorem chain_gpr {f : Addr} {cdv : Value} (hr : Room 7 X.A) (B : Bt X.mg) (Z : Tr X.prog X.w X.K X.mg X.base C) (c1 : Cal X.prog X.w X.K X.mg X.base 3 "require_chart" spChart) (c2 : Cal X.prog X.w X.K X.mg X.base 4 "require_arrangement" spArr) (c3 : Cal X.prog X.w X.K X.mg X.base 3 "require_holder" spReqHolder)
    (cM : Cal X.prog X.w X.K X.mg X.base 1 "move_up" (spMoveUp C)) : GPr X (dChain f cdv) spChainI := by
  intro n vs H items h Dl ok hDl hsp F0 pl H3 s3 hs W3 hL
  obtain ⟨c, u, a, r, x, rfl, hC, hA, hx, rfl⟩ := hsp
  have sz := hC.sz
  have hr5 : Room 5 (((dChain f cdv).at X n).A.deeper ((dChain f cdv).at X n).env) := hr.in1.deeper _
  have nd : nChain.Nodup := by decide +kernel
  refine bodyE (G := (dChain f cdv).at X n) (Dl := Dl) (Hc := H) (pre := (defBody sChain).take 8) (tq := tPre X.K C) (tc := tTst) (te := tItm X.K) (tp := tPost C) (σ0 := start nChain [.ref c, .ref a, .int x]) (H0 := H) (h0 := h) (items := (Mv.leaveR u r x).1.map trV)
    (W := fun Hw rest σ H' => ∃ Ht tr rl ms, rest = ms.map trV ∧ TreeAt C Ht tr u ∧ CSt C Ht u tr rl σ H' ms ∧ H rl = none ∧ rl ≠ Dl ∧ Ht Dl = none ∧ (∀ b o, b ≠ rl → Hw b = some o → H' b = some o) ∧ ∀ o, Hw rl = some o → ∃ xs, o = .lst xs) ok
    (fun sw Hw => pss_cons (X := ((dChain f cdv).at X n).X sw Hw) (ps_expr (pe_c c1 hr5 (pa_cons (pv 0) pa_nil))) (pss_cons (ps_expr (pe_c c2 hr5 (pa_cons (pv 0) (pa_cons (pv 1) pa_nil)))) (pss_cons (ps_expr (pe_c c3 hr5 (pa_cons (pv 1) (pa_cons (pv 2) pa_nil))))
      (pss_cons (ps_set (i := 3) nd rfl (.inl rfl) (pe_treeN 0 Z hr5)) (pss_cons (ps_set (i := 4) nd rfl (.inl rfl) (pe_callTy (r := rLst X.K) call_list_of (by rfl) B.list PyProof.Rows.boot_list (pa_cons (pv 1) pa_nil)))
      (pss_cons (ps_set (i := 5) nd rfl (.inl rfl) (pe_bm (r := rIndex X.K) PySem.F.plainAttrs_list PySem.F.slot_list_index PySem.F.type_list_index mt_index (pv 4) (pa_cons (pv 2) pa_nil)))
      (pss_cons (ps_asg pe_non (pg_sub (pv 4) (pv 5) set_list)) (pss_one (ps_set (i := 6) nd rfl (.inl rfl) (pe_c cM hr5 (pa_cons (pv 3) (pa_cons (pv 4) (pa_cons (pv 5) pa_nil)))))))))))))
    (fun sw Hw => pt_cmpR (X := ((dChain f cdv).at X n).X sw Hw) op_notN (pv 6) pe_non (nomark _)) (fun sw Hw => pe_tup (X := ((dChain f cdv).at X n).X sw Hw) (pa_cons (pe_ix (r := rIxL X.K) ix_list (pv 4) (pv 5) (fun _ _ => rfl)) (pa_cons (pv 6) (pa_cons (pv 5) pa_nil))))
    (fun sw Hw => pss_cons (X := ((dChain f cdv).at X n).X sw Hw) (ps_set (i := 5) nd rfl (.inl rfl) (pv 6)) (pss_one (ps_set (i := 6) nd rfl (.inl rfl) (pe_c cM hr5 (pa_cons (pv 3) (pa_cons (pv 4) (pa_cons (pv 5) pa_nil)))))))
    (fun Hw σ H' hw => ?_) (fun Hw y rr σ H' hw => ?_) (fun H4 hs4 => ?_) F0 hs W3 hL
  · obtain ⟨Ht, tr, rl, ms, em, TA, S, g1, g2, g3, g4, g5⟩ := hw
    have em : ms = [] := List.map_eq_nil_iff.mp em.symm
    subst em
    refine testC S ⟨rfl, fun b o e1 e2 => g4 b o (ne_of_none e1 g1) e2, fun o e => g4 Dl o g2.symm e, fun b o hno e => g4 b o (fun z => ?_) e⟩
    rw [z] at e
    obtain ⟨xs, ex⟩ := g5 o e
    exact hno xs ex
  · obtain ⟨Ht, tr, rl, ms, em, TA, S, g1, g2, g3, g4, g5⟩ := hw
    cases ms with
    | nil => cases em
    | cons m ms =>
      cases em
      refine testC S ⟨rfl, itemC S fun T hT => ⟨T, rfl, ?_, upd_same, ⟨fun b o e1 e2 => ?_, fun o e => ?_, fun b o hno e => ?_⟩, fun H4 hs4 => ?_⟩⟩
      · obtain ⟨_, xs, eL⟩ := S.list
        cases eT : Hw T with
        | none => rfl
        | some o =>
          have : T ≠ rl := fun z => by rw [z, eL] at hT; cases hT
          rw [g4 T o this eT] at hT
          cases hT
      · have := g4 b o (ne_of_none e1 g1) e2
        rw [upd_ne (ne_of_none this hT)]; exact this
      · have := g4 Dl o g2.symm e
        rw [upd_ne (ne_of_none this hT)]; exact this
      · have hb : b ≠ rl := fun z => by
          rw [z] at e
          obtain ⟨xs, ex⟩ := g5 o e
          exact hno xs ex
        have := g4 b o hb e
        rw [upd_ne (ne_of_none this hT)]; exact this
      · obtain ⟨nl, xs, eL⟩ := S.list
        obtain ⟨p, r1, h5, R, _⟩ := id S.at_
        have S4 : CSt C Ht u tr rl σ H4 (m :: ms) := S.mono (fun b o e => hs4.1 b o (ne_of_none e g3) (by rw [upd_ne (ne_of_none (R.same _ _ e) hT)]; exact R.same _ _ e)) fun o e => hs4.1 rl o g2 (by rw [upd_ne (ne_of_none e hT)]; exact e)
        refine postC (by omega) TA S4 fun σ' H5 S5 k5 => ⟨Ht, tr, rl, ms, rfl, TA, S5, g1, g2, g3, k5, fun o e => ?_⟩
        obtain ⟨_, ys, eL4⟩ := S4.list
        rw [eL4] at e
        cases e
        exact ⟨ys, rfl⟩
  · obtain ⟨xs, eD⟩ := hs4.2
    have same4 : ∀ b o, (∀ xs, o ≠ .lst xs) → H b = some o → H4 b = some o := fun b o hno e => hs4.1 b o (fun z => by
      rw [z] at e
      obtain ⟨ys, ey⟩ := hDl o e
      exact hno ys ey) e
    refine preC (K := X.K) (C := C) (u := u) (r := r) ⟨same4 c _ (fun _ z => nomatch z) hC.at_, hC.v, hC.sz⟩ ⟨same4 a _ (fun _ z => nomatch z) hA.at_, hA.ok⟩ hx fun Ht tr rl σ' H5 s5 TA S nl nT => ?_
    have nDl : rl ≠ Dl := fun z => by rw [z, eD] at nl; cases nl
    refine ⟨Ht, tr, rl, _, rfl, TA, S, ?_, nDl, nT Dl xs eD, fun b o _ e => s5 b o e, fun o e => by rw [nl] at e; cases e⟩
    cases e : H rl with
    | none => rfl
    | some o => rw [hs4.1 rl o nDl e] at nl; cases nl
end
end Pm


/-! Promises: list(chain(..)). -/
namespace Pm
open PySem PySem.Spec PyProof.Rows L2 Ru GenW
def Tri (H : Hp) (l : List (Addr × Int × Nat × Nat)) : Prop := ∀ q ∈ l, H q.1 = some (.tup (trV q.2))
def spChainG : SpG := fun vs H Q _ => ∃ c u a r x, vs = [.ref c, .ref a, .int x] ∧ ChA H c u ∧ ArA H a u r ∧ some x ∈ r ∧ ∀ H' l, Same H H' → Tri H' l → l.map (·.2) = (Mv.leaveR u r x).1 → Q (l.map fun q => V.ref q.1) H'
theorem run_moves (u : List Nat) : ∀ f r p, (Mv.run u f r p).1.length ≤ f
  | 0, r, p => Nat.le_refl _
  | f + 1, r, p => by
    unfold Mv.run
    cases Mv.best (Mv.cands u r p) with
    | none => exact Nat.zero_le _
    | some x => obtain ⟨x, l⟩ := x; show (_ :: (Mv.run u f _ l).1).length ≤ f + 1; rw [List.length_cons]; have := run_moves u f ((r.set p (some x)).set l none) l; omega
theorem scChain : GScope nChain ["chart", "arrangement", "person"] (defScope sChain) := ⟨rfl, rfl, rfl, by decide +kernel, rfl, by decide +kernel, by decide +kernel⟩
section
variable {P : Program} {w : World} {K : PySem.W.Frag} {mg : Str → Option Value} {base : Heap} {C : Addr}
theorem g_chain {f : Addr} {fd : FuncData} (F : Fun K "chain" "chain" sChain f fd) (B : Bt mg) (Z : Tr P w K mg base C) (c1 : Cal P w K mg base 3 "require_chart" spChart) (c2 : Cal P w K mg base 4 "require_arrangement" spArr) (c3 : Cal P w K mg base 3 "require_holder" spReqHolder)
    (cM : Cal P w K mg base 1 "move_up" (spMoveUp C)) : GFn P w K mg base 6 f fd ["chart", "arrangement", "person"] spChainG := by
  obtain ⟨oc, od, kV, doc, pm, an, cdv, ct, osl, rfl, lk, hcd⟩ := F.ex
  refine gfn_of (k := 5) (N := nChain) lk hcd scChain (fun vs H Q E h => ?_) fun A outer s H vs Q E pn hr h => ?_
  · obtain ⟨c, u, a, r, x, rfl, _⟩ := h; rfl
  obtain ⟨c, u, a, r, x, rfl, hC, hA, hx, q⟩ := h
  have sz := hC.sz
  have nd : nChain.Nodup := scChain.nd
  refine ⟨_, gss_app (pre := (defBody sChain).take 8) (t := tPre K C)
    (pss_cons (X := gcxOf P w K mg base nChain "chain" (defScope sChain) f cdv A outer s H E pn) (ps_expr (pe_c c1 hr (pa_cons (pv 0) pa_nil))) (pss_cons (ps_expr (pe_c c2 hr (pa_cons (pv 0) (pa_cons (pv 1) pa_nil)))) (pss_cons (ps_expr (pe_c c3 hr (pa_cons (pv 1) (pa_cons (pv 2) pa_nil))))
      (pss_cons (ps_set (i := 3) nd rfl (.inl rfl) (pe_treeN 0 Z hr)) (pss_cons (ps_set (i := 4) nd rfl (.inl rfl) (pe_callTy (r := rLst K) call_list_of (by rfl) B.list PyProof.Rows.boot_list (pa_cons (pv 1) pa_nil)))
      (pss_cons (ps_set (i := 5) nd rfl (.inl rfl) (pe_bm (r := rIndex K) PySem.F.plainAttrs_list PySem.F.slot_list_index PySem.F.type_list_index mt_index (pv 4) (pa_cons (pv 2) pa_nil)))
      (pss_cons (ps_asg pe_non (pg_sub (pv 4) (pv 5) set_list)) (pss_one (ps_set (i := 6) nd rfl (.inl rfl) (pe_c cM hr (pa_cons (pv 3) (pa_cons (pv 4) (pa_cons (pv 5) pa_nil)))))))))))))
    (gss_cons (gs_while (tc := tTst) owns_gcx (pt_cmpR op_notN (pv 6) pe_non (nomark _)) (gss_cons (gs_yield (te := tItm K) (pe_tup (pa_cons (pe_ix (r := rIxL K) ix_list (pv 4) (pv 5) (fun _ _ => rfl)) (pa_cons (pv 6) (pa_cons (pv 5) pa_nil)))))
      (gss_pss (t := tPost C) (pss_cons (ps_set (i := 5) nd rfl (.inl rfl) (pv 6)) (pss_one (ps_set (i := 6) nd rfl (.inl rfl) (pe_c cM hr (pa_cons (pv 3) (pa_cons (pv 4) (pa_cons (pv 5) pa_nil))))))))) ) gss_nil), ?_⟩
  refine preC (K := K) (C := C) hC hA hx fun Ht tr rl σ H1 s1 TA S nl _ => ?_
  have hb : (Mv.leaveR u r x).1.length ≤ u.length + 1 := run_moves u _ _ _
  generalize (Mv.leaveR u r x).1 = all at *
  refine ⟨fun m ys σ' H' => ∃ (l : List (Addr × Int × Nat × Nat)) (ms : List (Int × Nat × Nat)), ys = (l.map fun q => V.ref q.1) ∧ Tri H' l ∧ l.map (·.2) ++ ms = all ∧ CSt C Ht u tr rl σ' H' ms ∧ Same H H' ∧ m = ms.length, ⟨_, [], all, rfl, fun _ z => (nomatch z), rfl, S, s1, rfl⟩, ?_⟩
  rintro m ys σ' H' ⟨l, ms, rfl, T, e, S', s', rfl⟩
  cases ms with
  | nil =>
    rw [List.append_nil] at e
    exact testC S' (q H' l s' T e)
  | cons mv ms =>
    refine testC S' ?_
    refine ⟨fun ys σ2 H2 => ∃ (l : List (Addr × Int × Nat × Nat)), ys = (l.map fun q => V.ref q.1) ∧ Tri H2 l ∧ l.map (·.2) ++ ms = all ∧ CSt C Ht u tr rl σ2 H2 ms ∧ Same H H2, fun ys σ2 H2 ⟨l2, g1, g2, g3, g4, g5⟩ => ⟨ms.length, Nat.lt_succ_self _, l2, ms, g1, g2, g3, g4, g5, rfl⟩, ?_⟩
    refine ⟨?_, itemC S' fun U hU => ?_⟩
    · rw [List.length_map]
      have := congrArg List.length e
      rw [List.length_append, List.length_map] at this
      exact small1000 (by omega)
    · obtain ⟨n1, xs, eL⟩ := S'.list
      obtain ⟨p, r1, h5, R, _⟩ := id S'.at_
      have S2 : CSt C Ht u tr rl σ' (upd H' U (.tup (trV mv))) (mv :: ms) := S'.mono (R.same.trans (upd_same_of hU)) fun o eo => by rw [upd_ne (ne_of_none eo hU)]; exact eo
      have hur : U ≠ rl := fun z => by rw [z, eL] at hU; cases hU
      refine postC (by omega) TA S2 fun σ3 H3 S3 k3 => ⟨l ++ [(U, mv)], by rw [List.map_append]; rfl, fun qq hq => ?_, by rw [List.map_append, List.append_assoc]; exact e, S3, fun b o eo => ?_⟩
      · rcases List.mem_append.mp hq with z | z
        · have hne : qq.1 ≠ rl := fun y => by have := T qq z; rw [y, eL] at this; cases this
          exact k3 _ _ hne (by rw [upd_ne (ne_of_none (T qq z) hU)]; exact T qq z)
        · rw [List.mem_singleton.mp z]
          exact k3 _ _ hur upd_same
      · have := s' b o eo
        exact k3 b o (ne_of_none eo nl) (by rw [upd_ne (ne_of_none this hU)]; exact this)
end
end Pm


/-! Promises: the law's random numbers. -/
namespace Pm
open PySem PySem.Spec PyProof.Rows L2 Ru
abbrev sCell : Stmt := top 41
abbrev sHash : Stmt := top 42
abbrev sGenerator : Stmt := top 43
abbrev sRandom : Stmt := top 44
abbrev sShuffled : Stmt := top 45
/-- a source of random numbers, good for n more -/
def GenAt (H : Hp) (g : Addr) (n : Nat) : Prop := ∃ A B D : Int, H g = some (.lst [.int A, .int B, .int D]) ∧ 0 ≤ A ∧ 0 ≤ B ∧ B < 2 ^ 32 ∧ 0 ≤ D ∧ D + n ≤ 2 ^ 40
/-- all but g is kept -/
def KeepX (H : Hp) (g : Addr) (H' : Hp) : Prop := ∀ b o, b ≠ g → H b = some o → H' b = some o
theorem KeepX.trans {H H1 H2 : Hp} {g : Addr} (a : KeepX H g H1) (b : KeepX H1 g H2) : KeepX H g H2 := fun c o h e => b c o h (a c o h e)
theorem KeepX.refl (H : Hp) (g : Addr) : KeepX H g H := fun _ _ _ e => e
theorem KeepX.of {H H' : Hp} {g : Addr} (s : Same H H') : KeepX H g H' := fun b o _ e => s b o e
theorem KeepX.free {H H' : Hp} {g : Addr} (k : KeepX H g H') (hg : ∃ o, H' g = some o) {l : Addr} (h : H' l = none) : H l = none := by
  cases e : H l with
  | none => rfl
  | some o =>
    have : l ≠ g := fun z => by obtain ⟨o', q⟩ := hg; rw [z, q] at h; cases h
    rw [k l o this e] at h
    cases h
theorem GenAt.some {H : Hp} {g : Addr} {n : Nat} (h : GenAt H g n) : ∃ o, H g = some o := let ⟨_, _, _, e, _⟩ := h; ⟨_, e⟩
theorem GenAt.same {H H' : Hp} {g : Addr} {n : Nat} (h : GenAt H g n) (s : Same H H') : GenAt H' g n := let ⟨A, B, D, e, r⟩ := h; ⟨A, B, D, s _ _ e, r⟩
theorem GenAt.less {H : Hp} {g : Addr} {n m : Nat} (h : GenAt H g n) (hm : m ≤ n) : GenAt H g m := let ⟨A, B, D, e, a, b, c, d, f⟩ := h; ⟨A, B, D, e, a, b, c, d, by omega⟩
theorem iV_erase : ∀ (l : List Int) (r : Nat), (iV l).eraseIdx r = iV (l.eraseIdx r)
  | [], r => rfl
  | a :: l, 0 => rfl
  | a :: l, r + 1 => congrArg (V.int a :: ·) (iV_erase l r)
theorem erase_perm : ∀ (l : List Int) (r : Nat) (h : r < l.length), ([l[r]] ++ l.eraseIdx r).Perm l
  | [], r, h => absurd h (Nat.not_lt_zero _)
  | a :: l, 0, h => List.Perm.refl _
  | a :: l, r + 1, h => by
    have h' : r < l.length := by simpa using h
    have := erase_perm l r h'
    show (l[r] :: a :: l.eraseIdx r).Perm (a :: l)
    exact (List.Perm.swap _ _ _).trans (this.cons a)
def rLen (K : PySem.W.Frag) : List V → Hp → VK → Prop := fun xs H Q => ∃ a ys, xs = [.ref a] ∧ (SqL K H a ys ∨ SqT K H a ys) ∧ Q (.int (ys.length : Nat)) H
def spCell (K : PySem.W.Frag) : Sp := fun vs H Q _ => ∃ a ns, ∃ i : Nat, vs = [.ref a, .int i] ∧ SqL K H a (iV ns) ∧ ∀ z : Int, Q (.int z) H
def spHash : Sp := fun vs H Q _ => ∃ s i : Int, vs = [.int s, .int i] ∧ 0 ≤ s ∧ s < 2 ^ 32 ∧ 0 ≤ i ∧ i < 2 ^ 60 ∧ ∀ z : Int, 0 ≤ z → z < 2 ^ 32 → Q (.int z) H
def spGenerator (K : PySem.W.Frag) : Sp := fun vs H Q _ => ∃ a ns, ∃ i : Nat, vs = [.ref a, .int i] ∧ SqL K H a (iV ns) ∧ i ≤ 100 ∧ ∀ H' g, Same H H' → H g = none → GenAt H' g 100000 → Q (.ref g) H'
def spRandom : Sp := fun vs H Q _ => ∃ g, ∃ b n : Nat, vs = [.ref g, .int b] ∧ 1 ≤ b ∧ b ≤ 1000 ∧ GenAt H g (n + 1) ∧ ∀ H' (r : Nat), KeepX H g H' → GenAt H' g n → r < b → Q (.int r) H'
def spShuffled : Sp := fun vs H Q _ => ∃ g l xs, ∃ n : Nat, vs = [.ref g, .ref l] ∧ H l = some (.lst (iV xs)) ∧ xs.length ≤ 60 ∧ l ≠ g ∧ GenAt H g (n + xs.length) ∧ ∀ H' p ys, KeepX H g H' → GenAt H' g n → H p = none → H' p = some (.lst (iV ys)) → ys.Perm xs → Q (.ref p) H'
theorem bits_small {b : Nat} (hb : b ≤ 1000) : Builtin.Int.intBits (b : Int) ≤ 10 := by
  unfold Builtin.Int.intBits
  split
  · omega
  · rename_i h
    have hb0 : b ≠ 0 := fun z => h (by rw [z]; rfl)
    have : (b : Int).natAbs.log2 < 10 := by
      rw [Int.natAbs_natCast]
      exact (Nat.log2_lt hb0).mpr (by omega)
    omega
theorem cpow_a : CPowL 10 18 := ⟨by decide, by decide +kernel⟩
theorem cpow_b : CPowL 10 60 := ⟨by decide, by decide +kernel⟩
theorem pos_big : (0 : Int) < (10 ^ (60 : Int).toNat) ^ (10 : Int).toNat := by decide +kernel
section
variable {P : Program} {w : World} {K : PySem.W.Frag} {mg : Str → Option Value} {base : Heap} {C : Addr}
theorem scCell : FnScope ["_law_script", "_law_index"] ["_law_script", "_law_index"] (defScope sCell) := ⟨rfl, rfl, rfl, by decide +kernel, rfl, by decide +kernel, by decide +kernel⟩
theorem c_cell (G : Gn K mg "_law_cell" sCell ["_law_script", "_law_index"]) (B : Bt mg) : Cal P w K mg base 1 "_law_cell" (spCell K) := by
  refine G.cal scCell (fun vs H Q E h => ?_) (fun f cdv A outer s H vs Q E hr h => ?_)
  · obtain ⟨a, ns, i, rfl, _⟩ := h; rfl
  · obtain ⟨a, ns, i, rfl, hS, q⟩ := h
    refine ⟨_, pss_cons (ps_if (pt_cmpR op_lt (pv 1) (pe_callB call_len_seq (by rfl) B.len PySem.boot_len (pa_cons (pv 0) pa_nil)) (nomark _)) (pss_one (ps_ret (pe_ix ix_list (pv 0) (pv 1) (fun _ _ => rfl)))) pss_nil) (pss_one (ps_ret pe_int)), ?_⟩
    refine ⟨_, rfl, _, rfl, a, _, rfl, .inl hS, _, _, rfl, rfl, _, rfl, ?_⟩
    by_cases h : i < ns.length
    · rw [decide_eq_true (by unfold iV; rw [List.length_map]; omega : ((i : Nat) : Int) < ((iV ns).length : Nat))]
      exact ⟨_, rfl, _, rfl, a, _, _, V.int ns[i], rfl, rfl, hS, atI_nat (by unfold iV; rw [List.getElem?_map, List.getElem?_eq_getElem h]; rfl), q _⟩
    · rw [decide_eq_false (by unfold iV; rw [List.length_map]; omega : ¬ ((i : Nat) : Int) < ((iV ns).length : Nat))]
      exact q 0
theorem scHash : FnScope ["_law_seed", "_law_index", "_law_mixed"] ["_law_seed", "_law_index"] (defScope sHash) := ⟨rfl, rfl, rfl, by decide +kernel, rfl, by decide +kernel, by decide +kernel⟩
theorem c_hash (G : Gn K mg "_law_hash" sHash ["_law_seed", "_law_index"]) (B : Bt mg) : Cal P w K mg base 1 "_law_hash" spHash := by
  refine G.cal scHash (fun vs H Q E h => ?_) (fun f cdv A outer s H vs Q E hr h => ?_)
  · obtain ⟨s, i, rfl, _⟩ := h; rfl
  · obtain ⟨s, i, rfl, hs1, hs2, hi1, hi2, q⟩ := h
    refine ⟨_, pss_cons (ps_set (i := 2) scHash.nd rfl (.inl rfl) (pe_op op_mod (pe_callTy call_int1 (by rfl) B.int PyProof.Rows.boot_int (pa_cons (pe_op op_add (pe_op op_add (pe_op op_add (pe_op op_mul (pv 0) pe_int) (pe_op op_mul (pe_op op_mul pe_int (pv 1)) (pv 1))) (pv 1)) pe_int) pa_nil)) pe_int))
      (pss_cons (ps_set (i := 2) scHash.nd rfl (.inl rfl) (pe_op op_mod (pe_callTy call_int1 (by rfl) B.int PyProof.Rows.boot_int (pa_cons (pe_op op_add (pe_op op_mul (pv 2) (pv 2)) pe_int) pa_nil)) pe_int))
      (pss_one (ps_ret (pe_op op_mod (pe_callTy call_int1 (by rfl) B.int PyProof.Rows.boot_int (pa_cons (pe_op op_mul (pv 2) pe_int) pa_nil)) pe_int)))), ?_⟩
    refine ⟨_, rfl, _, _, rfl, rfl, .inr ⟨by decide, by decide⟩, _, rfl, _, _, rfl, rfl, .inl ⟨by decide, by decide⟩, _, rfl, _, _, rfl, rfl, .inr ⟨by omega, by omega⟩, _, _, rfl, rfl, _, rfl, _, _, rfl, rfl, _, _, rfl, rfl, .inl ⟨_, rfl, _, _, rfl, rfl, (by show (0 : Int) < 2147483647; decide), ?_⟩⟩
    generalize hm : (s * 1103515245 + 7919 * i * i + i + 1) % 2147483647 = m1
    have m1a : 0 ≤ m1 := by rw [← hm]; exact Int.emod_nonneg _ (by decide)
    have m1b : m1 < 2147483647 := by rw [← hm]; exact Int.emod_lt_of_pos _ (by decide)
    refine ⟨_, rfl, _, rfl, _, _, rfl, rfl, .inl ⟨by omega, by omega⟩, _, _, rfl, rfl, .inl ⟨_, rfl, _, _, rfl, rfl, (by show (0 : Int) < 2147483629; decide), ?_⟩⟩
    generalize hm2 : (m1 * m1 + 69621) % 2147483629 = m2
    refine ⟨_, rfl, _, _, rfl, rfl, .inr ⟨by decide, by decide⟩, .inl ⟨_, rfl, _, _, rfl, rfl, (by show (0 : Int) < 2147483587; decide), ?_⟩⟩
    refine q _ (Int.emod_nonneg _ (by decide)) ?_
    have := Int.emod_lt_of_pos (m2 * 48271) (b := 2147483587) (by decide)
    omega
theorem scGenerator : FnScope ["_law_script", "_law_index", "_law_seed"] ["_law_script", "_law_index"] (defScope sGenerator) := ⟨rfl, rfl, rfl, by decide +kernel, rfl, by decide +kernel, by decide +kernel⟩
theorem c_generator (G : Gn K mg "_law_generator" sGenerator ["_law_script", "_law_index"]) (B : Bt mg) (cC : Cal P w K mg base 1 "_law_cell" (spCell K)) : Cal P w K mg base 2 "_law_generator" (spGenerator K) := by
  refine G.cal scGenerator (fun vs H Q E h => ?_) (fun f cdv A outer s H vs Q E hr h => ?_)
  · obtain ⟨a, ns, i, rfl, _⟩ := h; rfl
  · obtain ⟨a, ns, i, rfl, hS, hi, q⟩ := h
    refine ⟨_, pss_cons (ps_set (i := 2) scGenerator.nd rfl (.inl rfl) (pe_c cC hr (pa_cons (pv 0) (pa_cons (pv 1) pa_nil))))
      (pss_one (ps_ret (pe_lst (pa_cons (pe_op op_mod (pe_callTy call_int1 (by rfl) B.int PyProof.Rows.boot_int (pa_cons (pe_callB (call_max2 rfl) (by rfl) B.max PyProof.Rows.boot_max (pa_cons (pe_op op_sub (pv 2) (pe_op op_powL pe_int pe_int)) (pa_cons pe_int pa_nil))) pa_nil)) (pe_op op_powL (pe_op op_powL pe_int pe_int) pe_int))
        (pa_cons (pe_op op_mod (pe_callTy call_int1 (by rfl) B.int PyProof.Rows.boot_int (pa_cons (pv 2) pa_nil)) pe_int) (pa_cons (pe_op op_mul pe_int (pv 1)) pa_nil)))))), ?_⟩
    refine ⟨_, rfl, _, rfl, a, ns, i, rfl, hS, fun z => ?_⟩
    refine ⟨_, rfl, _, _, rfl, rfl, cpow_a, _, _, rfl, rfl, _, _, rfl, .inl ⟨_, rfl, _, _, rfl, rfl, cpow_b, _, _, rfl, rfl, cpow_60, _, _, rfl, rfl, pos_big, ?_⟩⟩
    refine ⟨_, rfl, .inl ⟨_, rfl, _, _, rfl, rfl, (by show (0 : Int) < 2147483647; decide), _, rfl, _, _, rfl, rfl, .inl ⟨by decide, by decide⟩, (by show 3 ≤ sizeLine; decide), fun g ng => ?_⟩⟩
    refine q _ g (upd_same_of ng) ng ⟨_, _, _, upd_same, Int.emod_nonneg _ (Int.ne_of_gt pos_big), Int.emod_nonneg _ (by decide), ?_, by omega, by omega⟩
    have := Int.emod_lt_of_pos z (b := 2147483647) (by decide)
    omega
theorem scRandom : FnScope ["_law_generator_here", "_law_bound", "_law_drawn", "_law_part"] ["_law_generator_here", "_law_bound"] (defScope sRandom) := ⟨rfl, rfl, rfl, by decide +kernel, rfl, by decide +kernel, by decide +kernel⟩
theorem c_random (G : Gn K mg "_law_random" sRandom ["_law_generator_here", "_law_bound"]) (B : Bt mg) (cH : Cal P w K mg base 1 "_law_hash" spHash) : Cal P w K mg base 2 "_law_random" spRandom := by
  refine G.cal scRandom (fun vs H Q E h => ?_) (fun f cdv A outer s H vs Q E hr h => ?_)
  · obtain ⟨g, b, n, rfl, _⟩ := h; rfl
  · obtain ⟨g, b, n, rfl, hb1, hb2, ⟨A', B', D', hg, ha, hb, hb', hd, hn⟩, q⟩ := h
    refine ⟨_, pss_cons (ps_if (pt_cmpR op_gt (pe_ix ix_list (pv 0) pe_int (fun _ _ => rfl)) pe_int (nomark _))
        (pss_cons (ps_set (i := 2) scRandom.nd rfl (.inl rfl) (pe_op op_mod (pe_callTy call_int1 (by rfl) B.int PyProof.Rows.boot_int (pa_cons (pe_ix ix_list (pv 0) pe_int (fun _ _ => rfl)) pa_nil)) (pv 1)))
        (pss_cons (ps_asg (pe_op op_fdivN (pe_ix ix_list (pv 0) pe_int (fun _ _ => rfl)) (pv 1)) (pg_sub (pv 0) pe_int set_list)) (pss_one (ps_ret (pv 2))))) pss_nil)
      (pss_cons (ps_set (i := 2) scRandom.nd rfl (.inl rfl) pe_int)
      (pss_cons (ps_for PassesOwn.never rfl (pi_range1 (by rfl) B.range (pa_cons (pe_op op_add pe_int (pe_op op_fdivN (pe_bits (pv 1)) pe_int)) pa_nil)) (pg_name (i := 3) scRandom.nd rfl (.inl rfl))
        (pss_cons (ps_asg (pe_op op_add (pe_ix ix_list (pv 0) pe_int (fun _ _ => rfl)) pe_int) (pg_sub (pv 0) pe_int set_list))
          (pss_one (ps_set (i := 2) scRandom.nd rfl (.inl rfl) (pe_op op_add (pe_op op_mul (pv 2) pe_int) (pe_c cH hr (pa_cons (pe_ix ix_list (pv 0) pe_int (fun _ _ => rfl)) (pa_cons (pe_ix ix_list (pv 0) pe_int (fun _ _ => rfl)) pa_nil))))))))
      (pss_one (ps_ret (pe_op op_mod (pe_callTy call_int1 (by rfl) B.int PyProof.Rows.boot_int (pa_cons (pv 2) pa_nil)) (pv 1)))))), ?_⟩
    have bp : (0 : Int) < (b : Nat) := by omega
    refine ⟨_, rfl, g, _, _, V.int A', rfl, rfl, SqL.of hg, atI_nat (j := 0) rfl, _, _, rfl, rfl, _, rfl, ?_⟩
    by_cases h0 : 0 < A'
    · rw [decide_eq_true h0]
      refine ⟨_, rfl, g, _, _, V.int A', rfl, rfl, SqL.of hg, atI_nat (j := 0) rfl, .inl ⟨_, rfl, _, rfl, _, _, rfl, rfl, bp, ?_⟩⟩
      refine ⟨_, rfl, g, _, _, V.int A', rfl, rfl, SqL.of hg, atI_nat (j := 0) rfl, _, rfl, _, _, rfl, rfl, ⟨by omega, by omega⟩, _, rfl, g, _, _, 0, rfl, rfl, hg, rfl, _, rfl, ?_⟩
      have em := Int.emod_nonneg A' (b := (b : Nat)) (by omega)
      have el := Int.emod_lt_of_pos A' bp
      obtain ⟨k, hk⟩ := Int.eq_ofNat_of_zero_le em
      show Q (V.int (A' % (b : Nat))) _
      rw [hk]
      refine q _ k (fun b' o hb' e => by rw [upd_ne hb']; exact e) ⟨_, _, _, upd_same, ?_, hb, hb', hd, by omega⟩ (by omega)
      rw [Int.fdiv_eq_ediv_of_nonneg _ (by omega)]
      exact Int.ediv_nonneg ha (by omega)
    · rw [decide_eq_false h0]
      have bz : (Builtin.Int.intBits (b : Int) : Int).fdiv 30 = 0 := by
        have := bits_small hb2
        rw [Int.fdiv_eq_ediv_of_nonneg _ (by decide)]
        omega
      refine ⟨_, rfl, _, rfl, _, _, rfl, rfl, ⟨by decide, by decide⟩, _, _, rfl, rfl, _, rfl, ?_⟩
      rw [bz]
      refine ⟨by decide, by decide, ?_⟩
      refine for_it (n := 1) walk0 (fun i σ H' => σ.length = 4 ∧ σ[0]? = some (some (.ref g)) ∧ σ[1]? = some (some (.int b)) ∧ (∃ z : Int, σ[2]? = some (some (.int z))) ∧ KeepX H g H' ∧ GenAt H' g (n + 1 - i)) ⟨rfl, rfl, rfl, ⟨0, rfl⟩, KeepX.refl H g, A', B', D', hg, ha, hb, hb', hd, by omega⟩
        (fun _ _ _ _ _ => trivial) (fun i x σ H' H2 hi ⟨hl, e0, e1, ⟨z, e2⟩, k, A2, B2, D2, g2, a2, b2, b3, d2, n2⟩ y => ?_) (fun σ H' ⟨hl, e0, e1, ⟨z, e2⟩, k, G2⟩ => ?_)
      · obtain ⟨rfl, rfl⟩ := y
        have hi0 : i = 0 := by omega
        subst hi0
        match σ, hl, e0, e1, e2 with
        | [v0, v1, v2, v3], _, e0, e1, e2 =>
          cases e0
          cases e1
          cases e2
          refine ⟨_, rfl, g, _, _, V.int D2, rfl, rfl, SqL.of g2, atI_nat (j := 2) rfl, _, _, rfl, rfl, _, rfl, g, _, _, 2, rfl, rfl, g2, rfl, ?_⟩
          have g3 : upd H2 g (.lst ([V.int A2, V.int B2, V.int D2].set 2 (.int (D2 + 1)))) g = some (.lst [V.int A2, V.int B2, V.int (D2 + 1)]) := upd_same
          have k3 : KeepX H g (upd H2 g (.lst ([V.int A2, V.int B2, V.int D2].set 2 (.int (D2 + 1))))) := fun b' o hb' e => by rw [upd_ne hb']; exact k b' o hb' e
          generalize upd H2 g (.lst ([V.int A2, V.int B2, V.int D2].set 2 (.int (D2 + 1)))) = H3 at *
          refine ⟨_, rfl, _, _, rfl, rfl, .inr ⟨by decide, by decide⟩, _, rfl, g, _, _, V.int B2, rfl, rfl, SqL.of g3, atI_nat (j := 1) rfl, _, rfl, g, _, _, V.int (D2 + 1), rfl, rfl, SqL.of g3, atI_nat (j := 2) rfl, B2, D2 + 1, rfl, b2, b3, by omega, by omega, fun z' hz1 hz2 => ?_⟩
          exact ⟨_, _, rfl, rfl, rfl, rfl, rfl, ⟨_, rfl⟩, k3, A2, B2, D2 + 1, g3, a2, b2, b3, by omega, by omega⟩
      · match σ, hl, e0, e1, e2 with
        | [v0, v1, v2, v3], _, e0, e1, e2 =>
          cases e1
          cases e2
          refine ⟨_, rfl, .inl ⟨_, rfl, _, rfl, _, _, rfl, rfl, bp, ?_⟩⟩
          have em := Int.emod_nonneg z (b := (b : Nat)) (by omega)
          have el := Int.emod_lt_of_pos z bp
          obtain ⟨r, hr'⟩ := Int.eq_ofNat_of_zero_le em
          show Q (V.int (z % (b : Nat))) _
          rw [hr']
          exact q H' r k G2 (by omega)
theorem scShuffled : FnScope ["_law_generator_here", "_law_items", "_law_pool", "_law_item"] ["_law_generator_here", "_law_items"] (defScope sShuffled) := ⟨rfl, rfl, rfl, by decide +kernel, rfl, by decide +kernel, by decide +kernel⟩
theorem c_shuffled (G : Gn K mg "_law_shuffled" sShuffled ["_law_generator_here", "_law_items"]) (B : Bt mg) (cR : Cal P w K mg base 2 "_law_random" spRandom) : Cal P w K mg base 3 "_law_shuffled" spShuffled := by
  refine G.cal scShuffled (fun vs H Q E h => ?_) (fun f cdv A outer s H vs Q E hr h => ?_)
  · obtain ⟨g, l, xs, n, rfl, _⟩ := h; rfl
  · obtain ⟨g, l, xs, n, rfl, hl, hz, hlg, hg, q⟩ := h
    refine ⟨_, pss_cons (ps_set (i := 2) scShuffled.nd rfl (.inr rfl) (pe_callTy call_list_of (by rfl) B.list PyProof.Rows.boot_list (pa_cons (pv 1) pa_nil)))
      (pss_one (ps_ret (pe_lc (te := tBM K "list" rPopAt (tVar 2) (tCons (tCall spRandom [] E0 (tCons (tVar 0) (tCons (tCB (rLen K) (tCons (tVar 2) tNil)) tNil))) tNil)) rfl scShuffled.nd (pi_list (pv 1)) (blk_by (own := [("_law_item", 3)]) (by kernel_rfl)) (fun _ _ _ _ _ => pg_name (i := 3) scShuffled.nd rfl (.inl rfl)) (fun _ _ _ _ _ => pts_nil)
        (fun _ _ _ _ _ => pe_bm PySem.F.plainAttrs_list PySem.F.slot_list_pop PySem.F.type_list_pop mt_popAt (pv 2) (pa_cons (pe_c cR hr (pa_cons (pv 0) (pa_cons (pe_callB call_len_seq (by rfl) B.len PySem.boot_len (pa_cons (pv 2) pa_nil)) pa_nil))) pa_nil))))), ?_⟩
    refine ⟨_, rfl, l, _, rfl, .inl (SqL.of hl), fun pl np => ?_⟩
    have hpg : g ≠ pl := let ⟨_, e⟩ := hg.some; ne_of_none e np
    have hlp : l ≠ pl := ne_of_none hl np
    have s1 := upd_same_of (o := .lst (iV xs)) np
    have e1 : upd H pl (.lst (iV xs)) pl = some (.lst (iV xs)) := upd_same
    generalize upd H pl (.lst (iV xs)) = H1 at *
    refine ⟨_, rfl, l, rfl, ⟨_, SqL.of (s1 _ _ hl)⟩, fun D hD => ?_⟩
    have hDp : pl ≠ D := ne_of_none e1 hD
    have hDg : g ≠ D := let ⟨_, e⟩ := hg.some; ne_of_none (s1 _ _ e) hD
    have ld : l ≠ D := ne_of_none (s1 _ _ hl) hD
    refine lc_it walk_list (fun i H' => (∀ b o, b ≠ g → b ≠ pl → H1 b = some o → H' b = some o) ∧ GenAt H' g (n + (xs.length - i)) ∧ ∃ done rest, H' D = some (.lst (iV done)) ∧ H' pl = some (.lst (iV rest)) ∧ (done ++ rest).Perm xs ∧ done.length = i)
      ⟨fun b o _ _ e => by rw [upd_ne (ne_of_none e hD)]; exact e, (hg.same s1).same (upd_same_of hD) |>.less (by omega), [], xs, upd_same, by rw [upd_ne hDp]; exact e1, List.Perm.refl _, rfl⟩
      (fun i H' hi ⟨k, _⟩ => SqL.of (k _ _ hlg hlp (s1 _ _ hl))) (fun i y H' H2 hi ⟨k, G2, done, rest, d1, d2, d3, d4⟩ yy => ?_) (fun H' ⟨k, G2, done, rest, d1, d2, d3, d4⟩ => ?_)
    · obtain ⟨rfl, _⟩ := yy
      unfold iV at hi
      rw [List.length_map] at hi
      have hlen := d3.length_eq
      rw [List.length_append] at hlen
      refine ⟨rfl, _, rfl, .inl ⟨rfl, _, SqL.of d2⟩, _, rfl, _, rfl, pl, _, rfl, .inl (SqL.of d2), g, rest.length, n + (xs.length - (i + 1)), by unfold iV; rw [List.length_map]; rfl, by omega, by omega, G2.less (by omega), fun H3 r k3 G3 hr3 => ?_⟩
      have e3 := k3 pl _ hpg.symm d2
      have hrl : r < rest.length := hr3
      refine ⟨pl, _, _, r, .int rest[r], rfl, rfl, e3, by omega, by omega, (ixN_seq (ixN_nat (by unfold iV; rw [List.length_map]; exact hrl))).1, by unfold iV; rw [List.getElem?_map, List.getElem?_eq_getElem hrl]; rfl, ?_⟩
      refine ⟨iV done, by rw [upd_ne hDp.symm]; exact k3 D _ hDg.symm d1, ?_, ?_⟩
      · unfold iV; rw [List.length_map]; exact small1000 (by omega)
      · have hgp : upd (upd H3 pl (.lst ((iV rest).eraseIdx r))) D (.lst (iV done ++ [.int rest[r]])) g = H3 g := by rw [upd_ne hDg, upd_ne hpg]
        refine ⟨fun b o h1 h2 e => by rw [upd_ne (ne_of_none e hD), upd_ne h2]; exact k3 b o h1 (k b o h1 h2 e), ?_, done ++ [rest[r]], rest.eraseIdx r, by rw [upd_same]; unfold iV; rw [List.map_append]; rfl, by rw [upd_ne hDp, upd_same, iV_erase], ?_, by rw [List.length_append, d4]; rfl⟩
        · obtain ⟨a1, a2, a3, a4, a5⟩ := G3
          exact ⟨a1, a2, a3, by rw [hgp]; exact a4, a5⟩
        · refine List.Perm.trans ?_ d3
          rw [List.append_assoc]
          exact List.Perm.append_left _ (erase_perm rest r hrl)
    · unfold iV at d4
      rw [List.length_map] at d4
      have hlen := d3.length_eq
      rw [List.length_append] at hlen
      have r0 : rest = [] := List.length_eq_zero_iff.mp (by omega)
      rw [r0, List.append_nil] at d3
      have nD0 : H D = none := s1.free hD
      exact q H' D done (fun b o hb e => k b o hb (ne_of_none e np) (s1 _ _ e)) (G2.less (by omega)) nD0 d1 d3
end
end Pm


/-! Promises: the law's charts, names, rows. -/
namespace Pm
open PySem PySem.Spec PyProof.Rows L2 Ru
abbrev sRandChart : Stmt := top 46
abbrev sNames : Stmt := top 47
abbrev sLOpen : Stmt := top 48
abbrev sFilled : Stmt := top 49
abbrev sHeld : Stmt := top 50
abbrev sSome : Stmt := top 51
abbrev sTogether : Stmt := top 52
def spRandChart : Sp := fun vs H Q _ => ∃ g, ∃ n : Nat, vs = [.ref g, .int 6] ∧ GenAt H g (n + 20) ∧ ∀ H' p u, KeepX H g H' → GenAt H' g n → H p = none → ChA H' p u → u.length ≤ 5 → Q (.ref p) H'
def spNames : Sp := fun vs H Q _ => ∃ g, ∃ c n : Nat, vs = [.ref g, .int c] ∧ c ≤ 40 ∧ GenAt H g (n + (c + 2)) ∧ ∀ H' p ns, KeepX H g H' → GenAt H' g n → H p = none → H' p = some (.lst (iV ns)) → ns.length = c → ns.Pairwise (· < ·) → (∀ x ∈ ns, 0 ≤ x) → (∀ x, ns.head? = some x → x < 2 ^ 60) → Q (.ref p) H'
def spLOpen : Sp := fun vs H Q _ => ∃ c u rl r, vs = [.ref c, .ref rl] ∧ ChA H c u ∧ H rl = some (.lst (rV r)) ∧ r.length = u.length + 1 ∧ ∀ H' l, Same H H' → H l = none → H' l = some (.lst (nV (Mv.opens u r))) → Q (.ref l) H'
def spFilled : Sp := fun vs H Q _ => ∃ g c u l xs, ∃ n : Nat, vs = [.ref g, .ref c, .ref l] ∧ ChA H c u ∧ H l = some (.lst (iV xs)) ∧ xs.Pairwise (· < ·) ∧ (∀ x ∈ xs, 0 ≤ x) ∧ xs.length ≤ u.length + 1 ∧ l ≠ g ∧ c ≠ g ∧ GenAt H g (n + xs.length) ∧
  ∀ H' p r, KeepX H g H' → GenAt H' g n → H p = none → ArA H' p u r → (∀ x, some x ∈ r ↔ x ∈ xs) → Q (.ref p) H'
def spHeld : Sp := fun vs H Q _ => ∃ a r, vs = [.ref a] ∧ H a = some (.tup (rV r)) ∧ r.length ≤ 60 ∧ ∀ H' l, Same H H' → H l = none → H' l = some (.lst (iV (Mv.srt (Mv.heldL r)))) → Q (.ref l) H'
def spSome : Sp := fun vs H Q _ => ∃ g l xs, ∃ n : Nat, vs = [.ref g, .ref l] ∧ H l = some (.lst (iV xs)) ∧ xs.length ≤ 30 ∧ xs.Nodup ∧ l ≠ g ∧ GenAt H g (n + 2 * xs.length) ∧
  ∀ H' p ys, KeepX H g H' → GenAt H' g n → H p = none → H' p = some (.lst (iV ys)) → ys.Nodup → (∀ y ∈ ys, y ∈ xs) → ys.length ≤ xs.length → Q (.ref p) H'
def spTogether : Sp := fun vs H Q _ => ∃ a b u0 u1, vs = [.ref a, .ref b] ∧ ChA H a u0 ∧ ChA H b u1 ∧ u0.length ≤ 5 ∧ u1.length ≤ 5 ∧ ∀ H' p, Same H H' → H p = none → ChA H' p (Mv.tog u0 u1) → Q (.ref p) H'
section
variable {P : Program} {w : World} {K : PySem.W.Frag} {mg : Str → Option Value} {base : Heap} {C : Addr}
theorem scRandChart : FnScope ["_law_generator_here", "_law_most", "_law_size", "_law_kind", "_law_tree", "_law_place", "_law_upper"] ["_law_generator_here", "_law_most"] (defScope sRandChart) := ⟨rfl, rfl, rfl, by decide +kernel, rfl, by decide +kernel, by decide +kernel⟩
theorem c_rand_chart (G : Gn K mg "_law_random_chart" sRandChart ["_law_generator_here", "_law_most"]) (B : Bt mg) (cR : Cal P w K mg base 2 "_law_random" spRandom) : Cal P w K mg base 3 "_law_random_chart" spRandChart := by
  refine G.cal scRandChart (fun vs H Q E h => ?_) (fun f cdv A outer s H vs Q E hr h => ?_)
  · obtain ⟨g, n, rfl, _⟩ := h; rfl
  · obtain ⟨g, n, rfl, hg, q⟩ := h
    refine ⟨_, pss_cons (ps_set (i := 2) scRandChart.nd rfl (.inl rfl) (pe_op op_add pe_int (pe_c cR hr (pa_cons (pv 0) (pa_cons (pv 1) pa_nil)))))
      (pss_cons (ps_set (i := 3) scRandChart.nd rfl (.inl rfl) (pe_c cR hr (pa_cons (pv 0) (pa_cons pe_int pa_nil))))
      (pss_cons (ps_set (i := 4) scRandChart.nd rfl (.inl rfl) (pe_lst (pa_cons pe_non pa_nil)))
      (pss_cons (ps_for PassesOwn.never rfl (pi_range2 (by rfl) B.range (pa_cons pe_int (pa_cons (pv 2) pa_nil))) (pg_name (i := 5) scRandChart.nd rfl (.inl rfl))
        (pss_cons (ps_set (i := 6) scRandChart.nd rfl (.inl rfl) (pe_lst (pa_cons (pe_op op_sub (pv 5) pe_int) (pa_cons pe_int (pa_cons (pe_c cR hr (pa_cons (pv 0) (pa_cons (pv 5) pa_nil)))
            (pa_cons (pe_callB (call_max2 rfl) (by rfl) B.max PyProof.Rows.boot_max (pa_cons pe_int (pa_cons (pe_op op_sub (pe_op op_sub (pv 5) pe_int) (pe_c cR hr (pa_cons (pv 0) (pa_cons pe_int pa_nil)))) pa_nil))) (pa_cons (pe_op op_fdivN (pv 5) pe_int) pa_nil)))))))
          (pss_one (ps_expr (pe_bm PySem.F.plainAttrs_list PySem.F.slot_list_append PySem.F.type_list_append mt_append (pv 4) (pa_cons (pe_callB (call_min2 rfl) (by rfl) B.min PyProof.Rows.boot_min (pa_cons (pe_op op_sub (pv 5) pe_int) (pa_cons (pe_ix ix_list (pv 6) (pv 3) (fun _ _ => rfl)) pa_nil))) pa_nil))))))
      (pss_one (ps_ret (pe_callTy call_tuple_of (by rfl) B.tuple PyProof.Rows.boot_tuple (pa_cons (pv 4) pa_nil))))))), ?_⟩
    refine ⟨_, rfl, _, rfl, g, 6, n + 19, rfl, by decide, by decide, hg.less (by omega), fun H1 s1 k1 G1 hs1 => ?_⟩
    refine ⟨_, _, rfl, rfl, _, rfl, g, 5, n + 18, rfl, by decide, by decide, G1.less (by omega), fun H2 kd k2 G2 hkd => ?_⟩
    have k02 := k1.trans k2
    refine ⟨(by show 1 ≤ sizeLine; decide), fun tl ntl => ?_⟩
    have htg : tl ≠ g := let ⟨_, e⟩ := G2.some; (ne_of_none e ntl).symm
    have k3 := k02.trans (KeepX.of (upd_same_of (o := .lst [.non]) ntl))
    have G3 := G2.same (upd_same_of (o := .lst [.non]) ntl)
    have e3 : upd H2 tl (.lst [.non]) tl = some (.lst [.non]) := upd_same
    have ntl0 : H tl = none := k02.free G2.some ntl
    generalize upd H2 tl (.lst [.non]) = H3 at *
    refine ⟨_, rfl, 1, 1 + (s1 : Nat), rfl, by omega, ?_⟩
    have en : ((1 : Int) + (s1 : Nat) - 1).toNat = s1 := by omega
    rw [en]
    refine for_it walk_range (fun i σ H' => σ.length = 7 ∧ σ[0]? = some (some (.ref g)) ∧ σ[3]? = some (some (.int kd)) ∧ σ[4]? = some (some (.ref tl)) ∧ KeepX H g H' ∧ GenAt H' g (n + 18 - 2 * i) ∧ ∃ u : List Nat, u.length = i ∧ Mv.Vd u ∧ H' tl = some (.lst (chV u)))
      ⟨rfl, rfl, rfl, rfl, k3, G3, [], rfl, fun k hk => absurd hk (Nat.not_lt_zero _), e3⟩ (fun _ _ _ _ _ => trivial) (fun i x σ H' H4 hi ⟨hl, h0, h3, h4, k4, G4, u, hu, hv, eu⟩ y => ?_) (fun σ H' ⟨hl, h0, h3, h4, k4, G4, u, hu, hv, eu⟩ => ?_)
    · obtain ⟨rfl, rfl⟩ := y
      match σ, hl, h0, h3, h4 with
      | [v0, v1, v2, v3, v4, v5, v6], _, h0, h3, h4 =>
        cases h0
        cases h3
        cases h4
        have ei : (1 : Int) + (i : Nat) = ((i + 1 : Nat) : Int) := by omega
        have ex : (fun i : Nat => V.int (1 + (i : Nat))) i = V.int ((i + 1 : Nat) : Int) := congrArg V.int ei
        rw [ex]
        refine ⟨_, rfl, _, _, rfl, rfl, _, rfl, _, rfl, g, i + 1, n + 17 - 2 * i, rfl, by omega, by omega, G4.less (by omega), fun H5 r5 k5 G5 hr5 => ?_⟩
        refine ⟨_, rfl, _, _, rfl, rfl, _, rfl, g, 3, n + 16 - 2 * i, rfl, by decide, by decide, G5.less (by omega), fun H6 r6 k6 G6 hr6 => ?_⟩
        refine ⟨_, _, rfl, rfl, _, _, rfl, _, rfl, _, _, rfl, rfl, ⟨by decide, by decide⟩, (by show 5 ≤ sizeLine; decide), fun ul nul => ?_⟩
        have k46 := k5.trans k6
        have etl := k46 tl _ htg eu
        have hul : tl ≠ ul := ne_of_none etl nul
        have hgu : g ≠ ul := let ⟨_, e⟩ := G6.some; ne_of_none e nul
        generalize hL : ([V.int (((i + 1 : Nat) : Int) - 1), V.int 0, V.int (r5 : Nat), V.int (if ((i + 1 : Nat) : Int) - 1 - (r6 : Nat) > 0 then ((i + 1 : Nat) : Int) - 1 - (r6 : Nat) else 0), V.int (((i + 1 : Nat) : Int).fdiv 2)] : List V) = L
        have item : ∃ v : Int, 0 ≤ v ∧ L[kd]? = some (.int v) := by
          rw [← hL]
          have hf : (0 : Int) ≤ ((i + 1 : Nat) : Int).fdiv 2 := by rw [Int.fdiv_eq_ediv_of_nonneg _ (by decide)]; omega
          match kd, hkd with
          | 0, _ => exact ⟨_, by omega, rfl⟩
          | 1, _ => exact ⟨0, by omega, rfl⟩
          | 2, _ => exact ⟨_, by omega, rfl⟩
          | 3, _ => exact ⟨_, by split <;> omega, rfl⟩
          | 4, _ => exact ⟨_, hf, rfl⟩
          | k + 5, hk => omega
        obtain ⟨v, hv0, hvL⟩ := item
        have e7 : upd H6 ul (.lst L) ul = some (.lst L) := upd_same
        have etl7 : upd H6 ul (.lst L) tl = some (.lst (chV u)) := by rw [upd_ne hul]; exact etl
        have k7 := (k4.trans k46).trans (KeepX.of (upd_same_of (o := .lst L) nul))
        have G7 := G6.same (upd_same_of (o := .lst L) nul)
        generalize upd H6 ul (.lst L) = H7 at *
        refine ⟨_, rfl, .inl ⟨rfl, _, SqL.of etl7⟩, _, rfl, _, _, rfl, rfl, _, rfl, _, rfl, ul, _, _, V.int v, rfl, rfl, SqL.of e7, atI_nat hvL, _, _, rfl, tl, _, _, rfl, rfl, etl7, ?_, rfl, rfl, rfl, rfl, fun b o hb e => ?_, ?_, ?_⟩
        · rw [chV_len]; exact small1000 (by omega)
        · by_cases hbt : b = tl
          · rw [hbt, ntl0] at e; cases e
          · rw [upd_ne hbt]; exact k7 b o hb e
        · obtain ⟨a1, a2, a3, a4, a5⟩ := G7.less (m := n + 18 - 2 * (i + 1)) (by omega)
          exact ⟨a1, a2, a3, by rw [upd_ne htg.symm]; exact a4, a5⟩
        · have hm : ∃ j : Nat, (if v < ((i + 1 : Nat) : Int) - 1 then v else ((i + 1 : Nat) : Int) - 1) = (j : Int) ∧ j ≤ i := by
            split
            · exact ⟨v.toNat, by omega, by omega⟩
            · exact ⟨i, by omega, Nat.le_refl _⟩
          obtain ⟨j, ej, hj⟩ := hm
          refine ⟨u ++ [j], by rw [List.length_append, hu]; rfl, fun k hk => ?_, ?_⟩
          · rw [List.length_append, hu, List.length_singleton] at hk
            by_cases hki : k < u.length
            · rw [List.getD_eq_getElem?_getD, List.getElem?_append_left hki, ← List.getD_eq_getElem?_getD]; exact hv k hki
            · have : k = u.length := by omega
              subst this
              rw [List.getD_eq_getElem?_getD, List.getElem?_append_right (Nat.le_refl _), Nat.sub_self]
              show j ≤ u.length
              omega
          · rw [upd_same, ej]
            unfold chV
            rw [List.map_append]
            rfl
    · match σ, hl, h4 with
      | [v0, v1, v2, v3, v4, v5, v6], _, h4 =>
        cases h4
        refine ⟨_, rfl, tl, _, rfl, .inl ⟨SqL.of eu, fun p np => ?_⟩⟩
        have G5 := G4.same (upd_same_of (o := .tup (chV u)) np)
        exact q _ p u (fun b o hb e => by rw [upd_ne (ne_of_none (k4 b o hb e) np)]; exact k4 b o hb e) (G5.less (by omega)) (k4.free G4.some np) ⟨upd_same, hv, by omega⟩ (by omega)
end
end Pm


/-! Promises: the law's names, rows, held people. -/
namespace Pm
open PySem PySem.Spec PyProof.Rows L2 Ru
theorem cpow_c : CPowL 10 18 := cpow_a
theorem pw_snoc {l : List Int} {x : Int} (h : l.Pairwise (· < ·)) (hx : ∀ y ∈ l, y < x) : (l ++ [x]).Pairwise (· < ·) :=
  List.pairwise_append.mpr ⟨h, List.pairwise_singleton _ _, fun a ha b hb => by rw [List.mem_singleton.mp hb]; exact hx a ha⟩
section
variable {P : Program} {w : World} {K : PySem.W.Frag} {mg : Str → Option Value} {base : Heap} {C : Addr}
theorem scNames : FnScope ["_law_generator_here", "_law_count", "_law_kind", "_law_names_here", "_law_name", "_law_index"] ["_law_generator_here", "_law_count"] (defScope sNames) := ⟨rfl, rfl, rfl, by decide +kernel, rfl, by decide +kernel, by decide +kernel⟩
theorem c_names (G : Gn K mg "_law_names" sNames ["_law_generator_here", "_law_count"]) (B : Bt mg) (cR : Cal P w K mg base 2 "_law_random" spRandom) : Cal P w K mg base 3 "_law_names" spNames := by
  refine G.cal scNames (fun vs H Q E h => ?_) (fun f cdv A outer s H vs Q E hr h => ?_)
  · obtain ⟨g, c, n, rfl, _⟩ := h; rfl
  · obtain ⟨g, c, n, rfl, hc, hg, q⟩ := h
    refine ⟨_, pss_cons (ps_set (i := 2) scNames.nd rfl (.inl rfl) (pe_c cR hr (pa_cons (pv 0) (pa_cons pe_int pa_nil))))
      (pss_cons (ps_set (i := 3) scNames.nd rfl (.inl rfl) (pe_lst pa_nil))
      (pss_cons (ps_set (i := 4) scNames.nd rfl (.inl rfl) (pe_ix ix_list (pe_lst (pa_cons pe_int (pa_cons (pe_c cR hr (pa_cons (pv 0) (pa_cons pe_int pa_nil))) (pa_cons (pe_op op_sub (pe_op op_sub (pe_op op_powL pe_int pe_int) pe_int) (pe_op op_mul pe_int (pe_op op_add (pv 1) pe_int))) pa_nil)))) (pv 2) (fun _ _ => rfl)))
      (pss_cons (ps_for PassesOwn.never rfl (pi_range1 (by rfl) B.range (pa_cons (pv 1) pa_nil)) (pg_name (i := 5) scNames.nd rfl (.inl rfl))
        (pss_cons (ps_expr (pe_bm PySem.F.plainAttrs_list PySem.F.slot_list_append PySem.F.type_list_append mt_append (pv 3) (pa_cons (pv 4) pa_nil)))
          (pss_one (ps_set (i := 4) scNames.nd rfl (.inl rfl) (pe_op op_add (pe_op op_add (pv 4) pe_int) (pe_c cR hr (pa_cons (pv 0) (pa_cons (pe_ix ix_list (pe_lst (pa_cons pe_int (pa_cons pe_int (pa_cons pe_int pa_nil)))) (pv 2) (fun _ _ => rfl)) pa_nil))))))))
      (pss_one (ps_ret (pv 3)))))), ?_⟩
    refine ⟨_, rfl, g, 3, n + (c + 1), rfl, by decide, by decide, hg.less (by omega), fun H1 kd k1 G1 hkd => ?_⟩
    refine ⟨Nat.zero_le _, fun nl nnl => ?_⟩
    have hng : nl ≠ g := let ⟨_, e⟩ := G1.some; (ne_of_none e nnl).symm
    have nn0 := k1.free G1.some nnl
    have k2 := k1.trans (KeepX.of (upd_same_of (o := .lst []) nnl))
    have G2 := G1.same (upd_same_of (o := .lst []) nnl)
    have e2 : upd H1 nl (.lst []) nl = some (.lst []) := upd_same
    generalize upd H1 nl (.lst []) = H2 at *
    refine ⟨_, rfl, g, 9, n + c, rfl, by decide, by decide, G2.less (by omega), fun H3 r3 k3 G3 hr3 => ?_⟩
    refine ⟨_, _, rfl, rfl, cpow_a, _, _, rfl, rfl, _, rfl, _, _, rfl, rfl, _, _, rfl, rfl, .inl ⟨by decide, by decide⟩, _, _, rfl, rfl, (by show 3 ≤ sizeLine; decide), fun ul nul => ?_⟩
    generalize hL : ([V.int 0, V.int (r3 : Nat), V.int ((10 : Int) ^ (18 : Int).toNat - 1 - 1000 * ((c : Nat) + 1))] : List V) = L
    have item : ∃ v : Int, (0 ≤ v ∧ v < 2 ^ 60) ∧ L[kd]? = some (.int v) := by
      rw [← hL]
      have hp : (10 : Int) ^ (18 : Int).toNat = 1000000000000000000 := by decide +kernel
      match kd, hkd with
      | 0, _ => exact ⟨0, by omega, rfl⟩
      | 1, _ => exact ⟨_, by omega, rfl⟩
      | 2, _ => exact ⟨_, by rw [hp]; omega, rfl⟩
      | k + 3, hk => omega
    obtain ⟨v, ⟨hv0, hvb⟩, hvL⟩ := item
    have eul : upd H3 ul (.lst L) ul = some (.lst L) := upd_same
    have e3 := k3 nl _ hng e2
    have e4 : upd H3 ul (.lst L) nl = some (.lst []) := by rw [upd_ne (ne_of_none e3 nul)]; exact e3
    have k4 := (k2.trans k3).trans (KeepX.of (upd_same_of (o := .lst L) nul))
    have G4 := G3.same (upd_same_of (o := .lst L) nul)
    generalize upd H3 ul (.lst L) = H4 at *
    refine ⟨_, rfl, ul, _, _, V.int v, rfl, rfl, SqL.of eul, atI_nat hvL, _, rfl, _, rfl, by omega, by omega, ?_⟩
    rw [Int.toNat_natCast]
    refine for_it walk0 (fun i σ H' => σ.length = 6 ∧ σ[0]? = some (some (.ref g)) ∧ σ[2]? = some (some (.int kd)) ∧ σ[3]? = some (some (.ref nl)) ∧ KeepX H g H' ∧ GenAt H' g (n + (c - i)) ∧ ∃ (x : Int) (ns : List Int), σ[4]? = some (some (.int x)) ∧ 0 ≤ x ∧ H' nl = some (.lst (iV ns)) ∧ ns.length = i ∧ ns.Pairwise (· < ·) ∧ (∀ y ∈ ns, 0 ≤ y ∧ y < x) ∧ (ns = [] → x < 2 ^ 60) ∧ ∀ y, ns.head? = some y → y < 2 ^ 60)
      ⟨rfl, rfl, rfl, rfl, k4, G4.less (by omega), v, [], rfl, hv0, e4, rfl, .nil, fun _ z => (nomatch z), fun _ => hvb, fun _ z => nomatch z⟩ (fun _ _ _ _ _ => trivial) (fun i x σ H' H5 hi ⟨hl, h0, h2, h3, k5, G5, x0, ns, h4, hx0, ens, hns, hpw, hall, hfst, hhd⟩ y => ?_) (fun σ H' ⟨hl, h0, h2, h3, k5, G5, x0, ns, h4, hx0, ens, hns, hpw, hall, hfst, hhd⟩ => ?_)
    · obtain ⟨rfl, rfl⟩ := y
      match σ, hl, h0, h2, h3, h4 with
      | [v0, v1, v2, v3, v4, v5], _, h0, h2, h3, h4 =>
        cases h0
        cases h2
        cases h3
        cases h4
        refine ⟨_, rfl, .inl ⟨rfl, _, SqL.of ens⟩, _, rfl, nl, _, _, rfl, rfl, ens, by unfold iV; rw [List.length_map]; exact small1000 (by omega), ?_⟩
        have e6 : upd H5 nl (.lst (iV ns ++ [.int x0])) nl = some (.lst (iV (ns ++ [x0]))) := by rw [upd_same]; unfold iV; rw [List.map_append]; rfl
        have k6 : KeepX H g (upd H5 nl (.lst (iV ns ++ [.int x0]))) := fun b o hb e => by rw [upd_ne (ne_of_none e nn0)]; exact k5 b o hb e
        have G6 : GenAt (upd H5 nl (.lst (iV ns ++ [.int x0]))) g (n + (c - i)) := let ⟨a1, a2, a3, a4, a5⟩ := G5; ⟨a1, a2, a3, by rw [upd_ne hng.symm]; exact a4, a5⟩
        generalize upd H5 nl (.lst (iV ns ++ [.int x0])) = H6 at *
        refine ⟨_, rfl, _, _, rfl, rfl, _, rfl, (by show 3 ≤ sizeLine; decide), fun ul2 nul2 => ?_⟩
        have itb : ∃ b : Nat, 1 ≤ b ∧ b ≤ 1000 ∧ ([V.int 1, V.int 5, V.int 999] : List V)[kd]? = some (.int (b : Nat)) := by
          match kd, hkd with
          | 0, _ => exact ⟨1, by decide, by decide, rfl⟩
          | 1, _ => exact ⟨5, by decide, by decide, rfl⟩
          | 2, _ => exact ⟨999, by decide, by decide, rfl⟩
          | k + 3, hk => omega
        obtain ⟨b, hb1, hb2, hbL⟩ := itb
        have e7 : upd H6 ul2 (.lst [V.int 1, V.int 5, V.int 999]) nl = some (.lst (iV (ns ++ [x0]))) := by rw [upd_ne (ne_of_none e6 nul2)]; exact e6
        have eu2 : upd H6 ul2 (.lst [V.int 1, V.int 5, V.int 999]) ul2 = some (.lst [V.int 1, V.int 5, V.int 999]) := upd_same
        have k7 := k6.trans (KeepX.of (upd_same_of (o := .lst [V.int 1, V.int 5, V.int 999]) nul2))
        have G7 := G6.same (upd_same_of (o := .lst [V.int 1, V.int 5, V.int 999]) nul2)
        generalize upd H6 ul2 (.lst [V.int 1, V.int 5, V.int 999]) = H7 at *
        refine ⟨_, rfl, ul2, _, _, V.int (b : Nat), rfl, rfl, SqL.of eu2, atI_nat hbL, g, b, n + (c - (i + 1)), rfl, hb1, hb2, G7.less (by omega), fun H8 r8 k8 G8 hr8 => ?_⟩
        refine ⟨_, _, rfl, rfl, rfl, rfl, rfl, rfl, k7.trans k8, G8, x0 + 1 + (r8 : Nat), ns ++ [x0], rfl, by omega, k8 nl _ hng e7, by rw [List.length_append, hns]; rfl, pw_snoc hpw fun y hy => (hall y hy).2, fun y hy => ?_, fun z => absurd z (by simp), fun y hy => ?_⟩
        · rcases List.mem_append.mp hy with z | z
          · obtain ⟨z1, z2⟩ := hall y z
            exact ⟨z1, by omega⟩
          · rw [List.mem_singleton.mp z]
            exact ⟨hx0, by omega⟩
        · cases ns with
          | nil => cases hy; exact hfst rfl
          | cons z zs => exact hhd y hy
    · match σ, hl, h3 with
      | [v0, v1, v2, v3, v4, v5], _, h3 =>
        cases h3
        exact ⟨_, rfl, q H' nl ns k5 (G5.less (by omega)) nn0 ens hns hpw (fun y hy => (hall y hy).1) hhd⟩
theorem scLOpen : FnScope ["_law_tree", "_law_rows", "_law_found", "_law_place", "_law_upper"] ["_law_tree", "_law_rows"] (defScope sLOpen) := ⟨rfl, rfl, rfl, by decide +kernel, rfl, by decide +kernel, by decide +kernel⟩
theorem c_lopen (G : Gn K mg "_law_open" sLOpen ["_law_tree", "_law_rows"]) (B : Bt mg) : Cal P w K mg base 1 "_law_open" spLOpen := by
  refine G.cal scLOpen (fun vs H Q E h => ?_) (fun f cdv A outer s H vs Q E hr h => ?_)
  · obtain ⟨c, u, rl, r, rfl, _⟩ := h; rfl
  · obtain ⟨c, u, rl, r, rfl, hC, hR, lr, q⟩ := h
    refine ⟨_, pss_cons (ps_set (i := 2) scLOpen.nd rfl (.inl rfl) (pe_lst pa_nil))
      (pss_cons (ps_for PassesOwn.never rfl (pi_ent (by rfl) B.enumerate (pa_cons (pv 0) pa_nil)) (pg_tup rfl (pgs_cons (pg_name (i := 3) scLOpen.nd rfl (.inl rfl)) (pgs_cons (pg_name (i := 4) scLOpen.nd rfl (.inl rfl)) pgs_nil)))
        (pss_one (ps_if (PW.pt (pw_and (pt_cmpR op_isN (pe_ix ix_list (pv 1) (pv 3) (fun _ _ => rfl)) pe_non (nomark _)) (pw_and1 (PW.pt (pw_or (pt_cmpR op_isN (pv 4) pe_non (nomark _)) (pw_or1 (pt_cmpR op_notN (pe_ix ix_list (pv 1) (pv 4) (fun _ _ => rfl)) pe_non (nomark _))))))))
          (pss_one (ps_expr (pe_bm PySem.F.plainAttrs_list PySem.F.slot_list_append PySem.F.type_list_append mt_append (pv 2) (pa_cons (pv 3) pa_nil)))) pss_nil)))
      (pss_one (ps_ret (pv 2)))), ?_⟩
    have sz := hC.sz
    refine ⟨Nat.zero_le _, fun D hD => ?_⟩
    have s0 := upd_same_of (o := .lst []) hD
    have hrD : rl ≠ D := ne_of_none hR hD
    refine ⟨_, rfl, c, _, rfl, SqT.of (s0 _ _ hC.at_), ?_⟩
    refine for_it walk_ien (fun i σ H' => σ.length = 5 ∧ σ[1]? = some (some (.ref rl)) ∧ σ[2]? = some (some (.ref D)) ∧ Same H H' ∧ H' D = some (.lst (nV ((List.range i).filter (Mv.isOpen u r))))) ⟨rfl, rfl, rfl, s0, upd_same⟩ (fun i σ H' hi ⟨_, _, _, s1, _⟩ => SqT.of (s1 _ _ hC.at_)) (fun i x σ H' H2 hi ⟨hl, h1, h2, s1, e1⟩ y => ?_) (fun σ H' ⟨hl, h1, h2, s1, e1⟩ => ?_)
    · obtain ⟨T, a, b, rfl, nT, rfl, ea, eb⟩ := y
      cases ea
      have eb : (chV u)[i]? = some b := eb
      rw [chV_len] at hi
      match σ, hl, h1, h2 with
      | [v0, v1, v2, v3, v4], _, h1, h2 =>
        cases h1
        cases h2
        have s2 := s1.trans (upd_same_of (o := .tup [.int (i : Nat), b]) nT)
        have e2 : upd H' T (.tup [.int (i : Nat), b]) D = some (.lst (nV ((List.range i).filter (Mv.isOpen u r)))) := by rw [upd_ne (ne_of_none e1 nT)]; exact e1
        refine ⟨T, _, rfl, SqT.of upd_same, rfl, _, _, rfl, _, _, rfl, rfl, ?_⟩
        generalize upd H' T (.tup [.int (i : Nat), b]) = H3 at *
        have no : Mv.isOpen u r i = false → H3 D = some (.lst (nV ((List.range (i + 1)).filter (Mv.isOpen u r)))) := fun hb => by
          rw [List.range_succ, List.filter_append, List.filter_cons, if_neg (by rw [hb]; decide), List.filter_nil, List.append_nil]
          exact e2
        have len : (nV ((List.range i).filter (Mv.isOpen u r))).length < sizeLine := by
          refine small1000 ?_
          unfold nV
          rw [List.length_map]
          refine Nat.le_trans (List.length_filter_le _ _) ?_
          rw [List.length_range]
          omega
        have yes : Mv.isOpen u r i = true → upd H3 D (.lst (nV ((List.range i).filter (Mv.isOpen u r)) ++ [.int (i : Nat)])) D = some (.lst (nV ((List.range (i + 1)).filter (Mv.isOpen u r)))) := fun hb => by
          rw [upd_same, List.range_succ, List.filter_append, List.filter_cons, if_pos hb, nV_app]
          rfl
        have s3 : Same H (upd H3 D (.lst (nV ((List.range i).filter (Mv.isOpen u r)) ++ [.int (i : Nat)]))) := fun b o e => by rw [upd_ne (ne_of_none e hD)]; exact s2 _ _ e
        refine ⟨_, rfl, _, rfl, rl, _, _, oV (r.getD i none), rfl, rfl, SqL.of (s2 _ _ hR), atI_nat (rV_get (by omega)), rfl, _, rfl, ?_⟩
        cases er : r.getD i none with
        | some x => exact ⟨rfl, rfl, rfl, s2, no (decide_eq_false fun z => by rw [er] at z; cases z.1)⟩
        | none =>
          by_cases h0 : i = 0
          · subst h0
            rw [chV_zero] at eb
            cases eb
            refine ⟨_, rfl, rfl, _, rfl, ?_⟩
            exact ⟨_, rfl, .inl ⟨rfl, _, SqL.of e2⟩, _, rfl, D, _, _, rfl, rfl, e2, len, rfl, rfl, rfl, s3, yes (decide_eq_true ⟨er, .inl rfl⟩)⟩
          · rw [chV_get (by omega) (by omega)] at eb
            cases eb
            have lp := Mv.par_lt hC.v (k := i) (by omega) (by omega)
            refine ⟨_, rfl, rfl, _, rfl, _, rfl, _, rfl, rl, _, _, oV (r.getD (Mv.par u i) none), rfl, rfl, SqL.of (s2 _ _ hR), atI_nat (rV_get (by omega)), rfl, _, rfl, ?_⟩
            cases ep : r.getD (Mv.par u i) none with
            | none => exact ⟨rfl, rfl, rfl, s2, no (decide_eq_false fun z => by rcases z.2 with z | z; exact h0 z; exact z ep)⟩
            | some y => exact ⟨_, rfl, .inl ⟨rfl, _, SqL.of e2⟩, _, rfl, D, _, _, rfl, rfl, e2, len, rfl, rfl, rfl, s3, yes (decide_eq_true ⟨er, .inr (by rw [ep]; simp)⟩)⟩
    · match σ, hl, h2 with
      | [v0, v1, v2, v3, v4], _, h2 =>
        cases h2
        rw [chV_len] at e1
        exact ⟨_, rfl, q H' D s1 hD e1⟩
theorem scFilled : FnScope ["_law_generator_here", "_law_tree", "_law_names_here", "_law_rows", "_law_name", "_law_free"] ["_law_generator_here", "_law_tree", "_law_names_here"] (defScope sFilled) := ⟨rfl, rfl, rfl, by decide +kernel, rfl, by decide +kernel, by decide +kernel⟩
theorem c_filled (G : Gn K mg "_law_filled" sFilled ["_law_generator_here", "_law_tree", "_law_names_here"]) (B : Bt mg) (cR : Cal P w K mg base 2 "_law_random" spRandom) (cO : Cal P w K mg base 1 "_law_open" spLOpen) : Cal P w K mg base 3 "_law_filled" spFilled := by
  refine G.cal scFilled (fun vs H Q E h => ?_) (fun f cdv A outer s H vs Q E hr h => ?_)
  · obtain ⟨g, c, u, l, xs, n, rfl, _⟩ := h; rfl
  · obtain ⟨g, c, u, l, xs, n, rfl, hC, hl, hpw, hpos, hlen, hlg, hcg, hg, q⟩ := h
    refine ⟨_, pss_cons (ps_set (i := 3) scFilled.nd rfl (.inl rfl) (pe_op op_rep (pe_lst (pa_cons pe_non pa_nil)) (pe_callB call_len_seq (by rfl) B.len PySem.boot_len (pa_cons (pv 1) pa_nil))))
      (pss_cons (ps_for PassesOwn.never rfl (pi_list (pv 2)) (pg_name (i := 4) scFilled.nd rfl (.inl rfl))
        (pss_cons (ps_set (i := 5) scFilled.nd rfl (.inl rfl) (pe_c cO hr (pa_cons (pv 1) (pa_cons (pv 3) pa_nil))))
          (pss_one (ps_asg (pv 4) (pg_sub (pv 3) (pe_ix ix_list (pv 5) (pe_c cR hr (pa_cons (pv 0) (pa_cons (pe_callB call_len_seq (by rfl) B.len PySem.boot_len (pa_cons (pv 5) pa_nil)) pa_nil))) (fun _ _ => rfl)) set_list)))))
      (pss_one (ps_ret (pe_callTy call_tuple_of (by rfl) B.tuple PyProof.Rows.boot_tuple (pa_cons (pv 3) pa_nil))))), ?_⟩
    have sz := hC.sz
    refine ⟨(by show 1 ≤ sizeLine; decide), fun d nd => ?_⟩
    have s1 := upd_same_of (o := .lst [.non]) nd
    have e1 : upd H d (.lst [.non]) d = some (.lst [.non]) := upd_same
    generalize upd H d (.lst [.non]) = H1 at *
    refine ⟨_, rfl, c, _, rfl, .inr (SqT.of (s1 _ _ hC.at_)), d, _, [.non], rfl, rfl, e1, by omega, by rw [chV_len]; omega, ?_, fun rl nrl => ?_⟩
    · rw [chV_len, Int.toNat_natCast]
      exact Nat.le_of_lt (small1000 (by show 1 * (u.length + 1) ≤ 1000; omega))
    have er0 : (List.replicate ((chV u).length : Int).toNat [V.non]).flatten = rV (List.replicate (u.length + 1) none) := by
      rw [chV_len, Int.toNat_natCast]
      unfold rV
      rw [List.map_replicate]
      generalize u.length + 1 = m
      induction m with
      | zero => rfl
      | succ m ih => rw [List.replicate_succ, List.flatten_cons, ih]; rfl
    rw [er0]
    have s2 := s1.trans (upd_same_of (o := .lst (rV (List.replicate (u.length + 1) none))) nrl)
    have e2 : upd H1 rl (.lst (rV (List.replicate (u.length + 1) none))) rl = some (.lst (rV (List.replicate (u.length + 1) none))) := upd_same
    have nr0 := s1.free nrl
    generalize upd H1 rl (.lst (rV (List.replicate (u.length + 1) none))) = H2 at *
    have hrg : rl ≠ g := let ⟨_, e⟩ := hg.some; (ne_of_none e nr0).symm
    refine ⟨_, rfl, l, rfl, ⟨_, SqL.of (s2 _ _ hl)⟩, ?_⟩
    refine for_it walk_list (fun i σ H' => σ.length = 6 ∧ σ[0]? = some (some (.ref g)) ∧ σ[1]? = some (some (.ref c)) ∧ σ[3]? = some (some (.ref rl)) ∧ KeepX H g H' ∧ GenAt H' g (n + (xs.length - i)) ∧ ∃ r, H' rl = some (.lst (rV r)) ∧ Mv.ArrOk u r ∧ r.countP (·.isSome) = i ∧ ∀ x, some x ∈ r ↔ x ∈ xs.take i)
      ⟨rfl, rfl, rfl, rfl, KeepX.of s2, (hg.same s2).less (by omega), _, e2, Mv.arr_none u, by rw [List.countP_replicate]; rfl, fun x => ⟨fun h => (nomatch List.eq_of_mem_replicate h), fun h => (nomatch h)⟩⟩
      (fun i σ H' hi ⟨_, _, _, _, k, _⟩ => SqL.of (k _ _ hlg hl)) (fun i y σ H' H3 hi ⟨hln, h0, h1, h3, k, G3, r, er, A3, cn, mem⟩ yy => ?_) (fun σ H' ⟨hln, h0, h1, h3, k, G3, r, er, A3, cn, mem⟩ => ?_)
    · obtain ⟨rfl, ey⟩ := yy
      unfold iV at hi ey
      rw [List.length_map] at hi
      rw [List.getElem?_map, List.getElem?_eq_getElem hi] at ey
      cases ey
      have lr := A3.len
      have one := Mv.opens_ne hC.v lr (Mv.none_left (w := r) (by omega))
      match σ, hln, h0, h1, h3 with
      | [v0, v1, v2, v3, v4, v5], _, h0, h1, h3 =>
        cases h0
        cases h1
        cases h3
        refine ⟨_, rfl, _, rfl, c, u, rl, r, rfl, ⟨k _ _ hcg hC.at_, hC.v, hC.sz⟩, er, lr, fun H4 fl s4 n4 e4 => ?_⟩
        have ol : (Mv.opens u r).length ≤ u.length + 1 := by
          unfold Mv.opens
          refine Nat.le_trans (List.length_filter_le _ _) ?_
          rw [List.length_range]
          exact Nat.le_refl _
        have op : 1 ≤ (Mv.opens u r).length := List.length_pos_iff.mpr one
        refine ⟨_, rfl, _, rfl, _, rfl, _, rfl, _, rfl, fl, _, rfl, .inl (SqL.of e4), g, (Mv.opens u r).length, n + (xs.length - (i + 1)), by unfold nV; rw [List.length_map]; rfl, op, by omega, (G3.same s4).less (by omega), fun H5 k' k5 G5 hk' => ?_⟩
        have hfg : fl ≠ g := let ⟨_, e⟩ := G3.some; (ne_of_none e n4).symm
        have e5 := k5 fl _ hfg e4
        have er5 := k5 rl _ hrg (s4 _ _ er)
        have hmem : (Mv.opens u r)[k'] ∈ Mv.opens u r := List.getElem_mem hk'
        have hlt : ∀ z, some z ∈ r → z < xs[i] := fun z hz => by
          obtain ⟨j, hj, ej⟩ := List.mem_iff_getElem.mp ((mem z).mp hz)
          rw [List.getElem_take] at ej
          rw [List.length_take] at hj
          rw [← ej]
          exact List.pairwise_iff_getElem.mp hpw j i (by omega) hi (by omega)
        obtain ⟨A6, l6, n6⟩ := Mv.fill_step hC.v A3 hmem (hpos _ (List.getElem_mem hi)) hlt
        refine ⟨fl, _, _, V.int ((Mv.opens u r)[k'] : Nat), rfl, rfl, SqL.of e5, atI_nat (by unfold nV; rw [List.getElem?_map, List.getElem?_eq_getElem hk']; rfl), rl, _, _, (Mv.opens u r)[k'], rfl, rfl, er5, ixN_nat (by rw [rV_len]; exact l6), ?_⟩
        have es : (rV r).set (Mv.opens u r)[k'] (.int xs[i]) = rV (r.set (Mv.opens u r)[k'] (some xs[i])) := rV_set r _ (some _)
        rw [es]
        refine ⟨rfl, rfl, rfl, rfl, fun b o hb e => ?_, ?_, _, upd_same, A6, by rw [Mv.held_set l6 n6, cn], fun x => ?_⟩
        · rw [upd_ne (ne_of_none e nr0)]; exact k5 b o hb (s4 _ _ (k b o hb e))
        · obtain ⟨a1, a2, a3, a4, a5⟩ := G5
          exact ⟨a1, a2, a3, by rw [upd_ne hrg.symm]; exact a4, a5⟩
        · rw [List.take_succ, List.getElem?_eq_getElem hi, List.mem_append, ← mem x]
          constructor
          · intro hx
            rcases List.mem_or_eq_of_mem_set hx with z | z
            · exact .inl z
            · cases z
              exact .inr (by simp)
          · rintro (hx | hx)
            · have h1' := Mv.idx_lt hx
              have h2' := Mv.idx_get hx
              refine List.mem_of_getElem? (i := Mv.idx r x) ?_
              have hne : (Mv.opens u r)[k'] ≠ Mv.idx r x := fun z => by rw [z, h2'] at n6; cases n6
              rw [List.getElem?_set_ne hne, List.getElem?_eq_getElem h1']
              rw [List.getD_eq_getElem?_getD, List.getElem?_eq_getElem h1'] at h2'
              exact congrArg some h2'
            · have : x = xs[i] := by simpa using hx
              subst this
              exact List.mem_of_getElem? (i := (Mv.opens u r)[k']) (List.getElem?_set_self l6)
    · match σ, hln, h3 with
      | [v0, v1, v2, v3, v4, v5], _, h3 =>
        cases h3
        refine ⟨_, rfl, rl, _, rfl, .inl ⟨SqL.of er, fun p np => ?_⟩⟩
        have G4 := G3.same (upd_same_of (o := .tup (rV r)) np)
        refine q _ p r (fun b o hb e => by rw [upd_ne (ne_of_none (k b o hb e) np)]; exact k b o hb e) (G4.less (by omega)) (k.free G3.some np) ⟨upd_same, A3⟩ fun x => ?_
        have := mem x
        unfold iV at this
        rw [List.length_map, List.take_length] at this
        exact this
theorem scHeld : FnScope ["_law_rows", "_law_name"] ["_law_rows"] (defScope sHeld) := ⟨rfl, rfl, rfl, by decide +kernel, rfl, by decide +kernel, by decide +kernel⟩
theorem c_held (G : Gn K mg "_law_held" sHeld ["_law_rows"]) (B : Bt mg) : Cal P w K mg base 1 "_law_held" spHeld := by
  refine G.cal scHeld (fun vs H Q E h => ?_) (fun f cdv A outer s H vs Q E hr h => ?_)
  · obtain ⟨a, r, rfl, _⟩ := h; rfl
  · obtain ⟨a, r, rfl, ha, hz, q⟩ := h
    refine ⟨_, pss_one (ps_ret (pe_callB cr_sorted (by rfl) B.sorted PyProof.Rows.boot_sorted (pa_cons (pe_lc rfl scHeld.nd (pi_tup (pv 0)) (blk_by (own := [("_law_name", 1)]) (by kernel_rfl)) (fun _ _ _ _ _ => pg_name (i := 1) scHeld.nd rfl (.inl rfl)) (fun _ _ _ _ _ => pts_one (pt_cmpR op_notN (pv 1) pe_non (nomark _))) (fun _ _ _ _ _ => pv 1)) pa_nil))), ?_⟩
    refine ⟨_, rfl, a, rfl, ⟨_, SqT.of ha⟩, fun D hD => ?_⟩
    have bl : ∀ i, ((r.take i).filterMap id).length ≤ r.length := fun i => by
      refine Nat.le_trans (List.length_filterMap_le _ _) ?_
      rw [List.length_take]
      omega
    refine lc_it walk_tup (fun i H' => Same H H' ∧ H' D = some (.lst (iV ((r.take i).filterMap id)))) ⟨upd_same_of hD, upd_same⟩ (fun i H' hi ⟨s1, _⟩ => SqT.of (s1 _ _ ha)) (fun i y H' H3 hi ⟨s1, e1⟩ yy => ?_) (fun H1 ⟨s1, e1⟩ => ?_)
    · obtain ⟨rfl, ey⟩ := yy
      rw [rV_len] at hi
      rw [rV_get hi] at ey
      cases ey
      have tk : (r.take (i + 1)).filterMap id = (r.take i).filterMap id ++ (r.getD i none).toList := by
        rw [List.take_succ, List.getElem?_eq_getElem hi, List.filterMap_append, List.getD_eq_getElem?_getD, List.getElem?_eq_getElem hi]
        show _ ++ List.filterMap id [r[i]] = _
        cases r[i] <;> rfl
      refine ⟨rfl, _, rfl, rfl, _, rfl, ?_⟩
      rw [tk]
      cases er : r.getD i none with
      | none =>
        refine ⟨s1, ?_⟩
        show H3 D = some (.lst (iV ((r.take i).filterMap id ++ [])))
        rw [List.append_nil]
        exact e1
      | some x =>
        refine ⟨_, rfl, _, e1, ?_, fun b o e => by rw [upd_ne (ne_of_none e hD)]; exact s1 _ _ e, by rw [upd_same]; unfold iV; rw [List.map_append]; rfl⟩
        unfold iV
        rw [List.length_map]
        have := bl i
        exact small1000 (by omega)
    · rw [rV_len, List.take_length] at e1
      have := bl r.length
      rw [List.take_length] at this
      refine ⟨D, r.filterMap id, rfl, SqL.of e1, by omega, fun ns p pm pw np => ?_⟩
      rw [Mv.srt_uniq pm pw]
      exact q _ p (fun b o e => by rw [upd_ne (ne_of_none (s1 _ _ e) np)]; exact s1 _ _ e) (s1.free np) upd_same
end
end Pm


/-! Promises: some of the people; two charts together. -/
namespace Pm
open PySem PySem.Spec PyProof.Rows L2 Ru
section
variable {P : Program} {w : World} {K : PySem.W.Frag} {mg : Str → Option Value} {base : Heap} {C : Addr}
theorem scSome : FnScope ["_law_generator_here", "_law_names_here", "_law_name"] ["_law_generator_here", "_law_names_here"] (defScope sSome) := ⟨rfl, rfl, rfl, by decide +kernel, rfl, by decide +kernel, by decide +kernel⟩
theorem c_some (G : Gn K mg "_law_some" sSome ["_law_generator_here", "_law_names_here"]) (cR : Cal P w K mg base 2 "_law_random" spRandom) (cS : Cal P w K mg base 3 "_law_shuffled" spShuffled) : Cal P w K mg base 4 "_law_some" spSome := by
  refine G.cal scSome (fun vs H Q E h => ?_) (fun f cdv A outer s H vs Q E hr h => ?_)
  · obtain ⟨g, l, xs, n, rfl, _⟩ := h; rfl
  · obtain ⟨g, l, xs, n, rfl, hl, hz, hn, hlg, hg, q⟩ := h
    refine ⟨_, pss_one (ps_ret (pe_lc rfl scSome.nd (pi_list (pe_c cS hr (pa_cons (pv 0) (pa_cons (pv 1) pa_nil)))) (blk_by (own := [("_law_name", 2)]) (by kernel_rfl)) (fun _ _ _ _ _ => pg_name (i := 2) scSome.nd rfl (.inl rfl))
      (fun _ _ _ _ _ => pts_one (pt_cmpR op_eq (pe_c cR hr (pa_cons (pv 0) (pa_cons pe_int pa_nil))) pe_int (nomark _))) (fun _ _ _ _ _ => pv 2))), ?_⟩
    refine ⟨_, rfl, _, rfl, g, l, xs, n + xs.length, rfl, hl, by omega, hlg, hg.less (by omega), fun H1 p ys k1 G1 np ep pm => ?_⟩
    have yl := pm.length_eq
    have yn : ys.Nodup := pm.nodup_iff.mpr hn
    refine ⟨p, rfl, ⟨_, SqL.of ep⟩, fun D hD => ?_⟩
    have hgD : g ≠ D := let ⟨_, e⟩ := G1.some; ne_of_none e hD
    have hpD : p ≠ D := ne_of_none ep hD
    have hpg : p ≠ g := fun z => by obtain ⟨_, e⟩ := hg.some; rw [z, e] at np; cases np
    refine lc_it walk_list (fun i H' => KeepX H1 g H' ∧ GenAt H' g (n + (ys.length - i)) ∧ ∃ zs, H' D = some (.lst (iV zs)) ∧ zs.Nodup ∧ (∀ z ∈ zs, z ∈ ys.take i) ∧ zs.length ≤ i) ⟨KeepX.of (upd_same_of hD), (G1.same (upd_same_of hD)).less (by omega), [], upd_same, .nil, fun _ z => (nomatch z), Nat.le_refl _⟩
      (fun i H' hi ⟨k, _⟩ => SqL.of (k _ _ hpg ep)) (fun i y H' H2 hi ⟨k, G2, zs, e1, e2, e3, e4⟩ yy => ?_) (fun H' ⟨k, G2, zs, e1, e2, e3, e4⟩ => ?_)
    · obtain ⟨rfl, ey⟩ := yy
      unfold iV at hi ey
      rw [List.length_map] at hi
      rw [List.getElem?_map, List.getElem?_eq_getElem hi] at ey
      cases ey
      have tk : ys.take (i + 1) = ys.take i ++ [ys[i]] := by rw [List.take_succ, List.getElem?_eq_getElem hi]; rfl
      refine ⟨rfl, _, rfl, g, 2, n + (ys.length - (i + 1)), rfl, by decide, by decide, G2.less (by omega), fun H3 r k3 G3 hr3 => ?_⟩
      have k13 := k.trans k3
      have e1' := k3 D _ hgD.symm e1
      refine ⟨rfl, _, rfl, ?_⟩
      rw [int_eq]
      by_cases hr0 : r = 0
      · rw [decide_eq_true (by omega : ((r : Nat) : Int) = 0)]
        refine ⟨_, rfl, _, e1', by unfold iV; rw [List.length_map]; exact small1000 (by omega), fun b o hb e => by rw [upd_ne (ne_of_none e hD)]; exact k13 b o hb e, ?_, zs ++ [ys[i]], by rw [upd_same]; unfold iV; rw [List.map_append]; rfl, ?_, fun z hz => ?_, by rw [List.length_append]; show zs.length + 1 ≤ i + 1; omega⟩
        · obtain ⟨a1, a2, a3, a4, a5⟩ := G3
          exact ⟨a1, a2, a3, by rw [upd_ne hgD]; exact a4, a5⟩
        · refine List.nodup_append.mpr ⟨e2, List.nodup_cons.mpr ⟨by simp, .nil⟩, fun a ha b hb e => ?_⟩
          rw [List.mem_singleton.mp hb] at e
          have := e3 a ha
          rw [e] at this
          obtain ⟨j, hj, ej⟩ := List.mem_iff_getElem.mp this
          rw [List.getElem_take] at ej
          rw [List.length_take] at hj
          have := (List.getElem_inj yn).mp ej
          omega
        · rw [tk, List.mem_append]
          rcases List.mem_append.mp hz with z' | z'
          · exact .inl (e3 z z')
          · exact .inr z'
      · rw [decide_eq_false (by omega : ¬ ((r : Nat) : Int) = 0)]
        exact ⟨k13, G3, zs, e1', e2, fun z hz => by rw [tk, List.mem_append]; exact .inl (e3 z hz), by omega⟩
    · unfold iV at e3 e4
      rw [List.length_map] at e4
      rw [List.length_map, List.take_length] at e3
      exact q H' D zs (k1.trans k) (G2.less (by omega)) (k1.free G1.some hD) e1 e2 (fun y hy => pm.mem_iff.mp (e3 y hy)) (by omega)
theorem scTogether : FnScope ["_law_first", "_law_second", "_law_moved", "_law_part", "_law_start", "_law_upper"] ["_law_first", "_law_second"] (defScope sTogether) := ⟨rfl, rfl, rfl, by decide +kernel, rfl, by decide +kernel, by decide +kernel⟩
/-- a chart's posts, moved -/
def mvd (s : Nat) (u : List Nat) : List V := .int 0 :: u.map fun (k : Nat) => V.int ((k : Int) + (s : Int))
theorem mvd_len (s : Nat) (u : List Nat) : (mvd s u).length = u.length + 1 := by simp [mvd]
theorem mvd_get {s : Nat} {u : List Nat} {k : Nat} (h1 : 1 ≤ k) (h2 : k ≤ u.length) : (mvd s u)[k]? = some (.int ((Mv.par u k : Nat) + (s : Int))) := by
  obtain ⟨j, rfl⟩ : ∃ j, k = j + 1 := ⟨k - 1, by omega⟩
  unfold mvd Mv.par
  rw [List.getElem?_cons_succ, List.getElem?_map, Nat.add_sub_cancel, List.getElem?_eq_getElem (by omega), List.getD_eq_getElem?_getD, List.getElem?_eq_getElem (by omega)]
  rfl
theorem mvd_tog (u0 u1 : List Nat) : [V.non] ++ mvd 1 u0 ++ mvd (u0.length + 2) u1 = chV (Mv.tog u0 u1) := by
  unfold chV Mv.tog mvd
  rw [List.map_append, List.map_cons, List.map_cons, List.map_map, List.map_map]
  have e : ∀ (s : Nat) (l : List Nat), l.map (fun (k : Nat) => V.int ((k : Int) + (s : Int))) = l.map ((fun (k : Nat) => V.int (k : Int)) ∘ fun x => s + x) := fun s l => List.map_congr_left fun k _ => by
    show V.int ((k : Int) + (s : Int)) = V.int ((s + k : Nat) : Int)
    rw [show ((k : Int) + (s : Int)) = ((s + k : Nat) : Int) by omega]
  rw [e, e]
  rfl
theorem c_together (G : Gn K mg "_law_together" sTogether ["_law_first", "_law_second"]) (B : Bt mg) : Cal P w K mg base 1 "_law_together" spTogether := by
  refine G.cal scTogether (fun vs H Q E h => ?_) (fun f cdv A outer s H vs Q E hr h => ?_)
  · obtain ⟨a, b, u0, u1, rfl, _⟩ := h; rfl
  · obtain ⟨a, b, u0, u1, rfl, C0, C1, z0, z1, q⟩ := h
    refine ⟨_, pss_cons (ps_set (i := 2) scTogether.nd rfl (.inl rfl) (pe_lst (pa_cons pe_non pa_nil)))
      (pss_cons (ps_for PassesOwn.never rfl (pi_list (pe_lst (pa_cons (pv 0) (pa_cons (pv 1) pa_nil)))) (pg_name (i := 3) scTogether.nd rfl (.inl rfl))
        (pss_cons (ps_set (i := 4) scTogether.nd rfl (.inl rfl) (pe_callB call_len_seq (by rfl) B.len PySem.boot_len (pa_cons (pv 2) pa_nil)))
          (pss_one (ps_for PassesOwn.never rfl (pi_tup (pv 3)) (pg_name (i := 5) scTogether.nd rfl (.inl rfl))
            (pss_one (ps_expr (pe_bm PySem.F.plainAttrs_list PySem.F.slot_list_append PySem.F.type_list_append mt_append (pv 2) (pa_cons (pe_ifExp (pt_cmpR op_isN (pv 5) pe_non (nomark _)) pe_int (pe_op op_add (pv 5) (pv 4))) pa_nil))))))))
      (pss_one (ps_ret (pe_callTy call_tuple_of (by rfl) B.tuple PyProof.Rows.boot_tuple (pa_cons (pv 2) pa_nil))))), ?_⟩
    refine ⟨(by show 1 ≤ sizeLine; decide), fun ml nml => ?_⟩
    have s1 := upd_same_of (o := .lst [.non]) nml
    have e1 : upd H ml (.lst [.non]) ml = some (.lst [.non]) := upd_same
    generalize upd H ml (.lst [.non]) = H1 at *
    refine ⟨_, rfl, _, rfl, (by show 2 ≤ sizeLine; decide), fun pl npl => ?_⟩
    have s2 := s1.trans (upd_same_of (o := .lst [.ref a, .ref b]) npl)
    have e2 : upd H1 pl (.lst [.ref a, .ref b]) ml = some (.lst [.non]) := by rw [upd_ne (ne_of_none e1 npl)]; exact e1
    have e3 : upd H1 pl (.lst [.ref a, .ref b]) pl = some (.lst [.ref a, .ref b]) := upd_same
    have hml : pl ≠ ml := (ne_of_none e1 npl).symm
    generalize upd H1 pl (.lst [.ref a, .ref b]) = H2 at *
    refine ⟨pl, rfl, ⟨_, SqL.of e3⟩, ?_⟩
    -- one part
    have body : ∀ (i : Nat) (σ : L2.St) (H' : Hp) (c : Addr) (u : List Nat) (pre : List V) (st : Nat), σ.length = 6 → σ[2]? = some (some (.ref ml)) → (∀ b o, b ≠ ml → H2 b = some o → H' b = some o) → H2 c = some (.tup (chV u)) → u.length ≤ 5 → pre.length = st → pre.length ≤ 100 → H' ml = some (.lst pre) → σ[3]? = some (some (.ref c)) →
        ∀ (D : Ends), (∀ σ' H'', σ'.length = 6 → σ'[2]? = some (some (.ref ml)) → (∀ b o, b ≠ ml → H2 b = some o → H'' b = some o) → H'' ml = some (.lst (pre ++ mvd st u)) → D.nx σ' H'') →
        tFor (iTup K (tVar 3)) (gName 5) (tDrop (tBM K "list" rAppend (tVar 2) (tCons (tIf (tTest (tOp (fun x y H Q => y = V.non ∧ Q (V.bl (decide (x = V.non))) H) (tVar 5) (tC V.non))) (tC (.int 0)) (tOp (rI0 fun i j => .int (i + j)) (tVar 5) (tVar 4))) tNil))) D (σ.set 4 (some (.int (st : Nat)))) H' := fun i σ H' c u pre st hl h2 k hc hu hpre hpl hm h3 D fin => by
      have hcm : c ≠ ml := fun z => by rw [z, e2] at hc; cases hc
      match σ, hl, h2, h3 with
      | [v0, v1, v2, v3, v4, v5], _, h2, h3 =>
        cases h2
        cases h3
        refine ⟨_, rfl, c, rfl, ⟨_, SqT.of (k _ _ hcm hc)⟩, ?_⟩
        refine for_it walk_tup (fun j σ' H'' => σ'.length = 6 ∧ σ'[2]? = some (some (.ref ml)) ∧ σ'[4]? = some (some (.int (st : Nat))) ∧ (∀ b o, b ≠ ml → H2 b = some o → H'' b = some o) ∧ H'' ml = some (.lst (pre ++ (mvd st u).take j))) ⟨rfl, rfl, rfl, k, by rw [List.take_zero, List.append_nil]; exact hm⟩ (fun j σ' H'' hj ⟨_, _, _, k', _⟩ => SqT.of (k' _ _ hcm hc))
          (fun j x σ' H'' H3 hj ⟨hl', h2', h4', k', e'⟩ y => ?_) (fun σ' H'' ⟨hl', h2', _, k', e'⟩ => fin σ' H'' hl' h2' k' (by rw [chV_len, ← mvd_len st u, List.take_length] at e'; exact e'))
        obtain ⟨rfl, ey⟩ := y
        rw [chV_len] at hj
        have tk : ∀ v, (mvd st u)[j]? = some v → (mvd st u).take (j + 1) = (mvd st u).take j ++ [v] := fun v hv => by rw [List.take_succ, hv]; rfl
        have len : (pre ++ (mvd st u).take j).length < sizeLine := by
          rw [List.length_append, List.length_take]
          exact small1000 (by omega)
        match σ', hl', h2', h4' with
        | [w0, w1, w2, w3, w4, w5], _, h2', h4' =>
          cases h2'
          cases h4'
          refine ⟨_, rfl, .inl ⟨rfl, _, SqL.of e'⟩, _, rfl, rfl, _, rfl, ?_⟩
          by_cases hj0 : j = 0
          · subst hj0
            rw [chV_zero] at ey
            cases ey
            exact ⟨ml, _, _, rfl, rfl, e', len, rfl, rfl, rfl, fun b o hb e => by rw [upd_ne hb]; exact k' b o hb e, by rw [upd_same, tk (.int 0) rfl, List.append_assoc]⟩
          · rw [chV_get (by omega) (by omega)] at ey
            cases ey
            refine ⟨_, rfl, _, rfl, _, _, rfl, rfl, ml, _, _, rfl, rfl, e', len, rfl, rfl, rfl, fun b o hb e => by rw [upd_ne hb]; exact k' b o hb e, by rw [upd_same, tk _ (mvd_get (by omega) (by omega)), List.append_assoc]⟩
    refine for_it walk_list (fun i σ H' => σ.length = 6 ∧ σ[2]? = some (some (.ref ml)) ∧ (∀ b o, b ≠ ml → H2 b = some o → H' b = some o) ∧ H' ml = some (.lst (if i = 0 then [V.non] else if i = 1 then [V.non] ++ mvd 1 u0 else [V.non] ++ mvd 1 u0 ++ mvd (u0.length + 2) u1)))
      ⟨rfl, rfl, fun _ _ _ e => e, e2⟩ (fun i σ H' hi ⟨_, _, k, _⟩ => SqL.of (k _ _ hml e3)) (fun i x σ H' H3 hi ⟨hl, h2, k, em⟩ y => ?_) (fun σ H' ⟨hl, h2, k, em⟩ => ?_)
    · obtain ⟨rfl, ey⟩ := y
      have hi2 : i < 2 := hi
      have l1 : ([V.non] ++ mvd 1 u0).length = u0.length + 2 := by rw [List.length_append, mvd_len]; simp; omega
      match σ, hl, h2 with
      | [v0, v1, v2, v3, v4, v5], _, h2 =>
        cases h2
        refine ⟨_, rfl, ml, _, rfl, .inl (SqL.of em), ?_⟩
        by_cases h0 : i = 0
        · subst h0
          cases ey
          exact body 0 [v0, v1, some (.ref ml), some (.ref a), v4, v5] H3 a u0 [V.non] 1 rfl rfl k (s2 _ _ C0.at_) z0 rfl (by show 1 ≤ 100; decide) em rfl _ fun σ' H'' g1 g2 g3 g4 => ⟨g1, g2, g3, g4⟩
        · have h1 : i = 1 := by omega
          subst h1
          cases ey
          have em : H3 ml = some (.lst ([V.non] ++ mvd 1 u0)) := em
          have el : ((if (1 : Nat) = 0 then [V.non] else if (1 : Nat) = 1 then [V.non] ++ mvd 1 u0 else [V.non] ++ mvd 1 u0 ++ mvd (u0.length + 2) u1) : List V).length = u0.length + 2 := l1
          rw [el]
          exact body 1 [v0, v1, some (.ref ml), some (.ref b), v4, v5] H3 b u1 ([V.non] ++ mvd 1 u0) (u0.length + 2) rfl rfl k (s2 _ _ C1.at_) z1 l1 (by omega) em rfl _ fun σ' H'' g1 g2 g3 g4 => ⟨g1, g2, g3, g4⟩
    · have em : H' ml = some (.lst ([V.non] ++ mvd 1 u0 ++ mvd (u0.length + 2) u1)) := em
      rw [mvd_tog] at em
      match σ, hl, h2 with
      | [v0, v1, v2, v3, v4, v5], _, h2 =>
        cases h2
        refine ⟨_, rfl, ml, _, rfl, .inl ⟨SqL.of em, fun p np => ?_⟩⟩
        have kk : Same H H' := fun b o e => k b o (ne_of_none e nml) (s2 _ _ e)
        exact q _ p (fun b o e => by rw [upd_ne (ne_of_none (kk _ _ e) np)]; exact kk _ _ e) (kk.free np) ⟨upd_same, Mv.tog_vd C0.v C1.v, by rw [Mv.tog_len]; omega⟩
end
end Pm


/-! Promises: the charts agree. -/
namespace Pm
open PySem PySem.Spec PyProof.Rows L2 Ru
abbrev sChartsRight : Stmt := top 53
structure WD (H : Hp) (T pl sl p0 p1 : Addr) (u0 u1 : List Nat) : Prop where
  tT : ChA H T (Mv.tog u0 u1)
  c0 : ChA H p0 u0
  c1 : ChA H p1 u1
  parts : H pl = some (.lst [.ref p0, .ref p1])
  starts : H sl = some (.lst [.int ((1 : Nat) : Int), .int ((u0.length + 2 : Nat) : Int)])
  z0 : u0.length ≤ 5
  z1 : u1.length ≤ 5
theorem WD.same {H H' : Hp} {T pl sl p0 p1 : Addr} {u0 u1 : List Nat} (h : WD H T pl sl p0 p1 u0 u1) (s : Same H H') : WD H' T pl sl p0 p1 u0 u1 :=
  ⟨h.tT.same s, h.c0.same s, h.c1.same s, s _ _ h.parts, s _ _ h.starts, h.z0, h.z1⟩
theorem add_nat (k s : Nat) : ((k : Int) + (s : Int)) = ((s + k : Nat) : Int) := by omega
theorem two_nat (t : Addr) (k s : Nat) : ([V.ref t, V.int ((k : Int) + (s : Int))] ++ [] : List V) = [V.ref t, V.int ((s + k : Nat) : Int)] := by rw [add_nat]; rfl
theorem int_nat {Q : VK} {H : Hp} {x s : Nat} (q : Q (.int ((s + x : Nat) : Int)) H) : Q (.int ((x : Int) + (s : Int))) H := by rw [add_nat]; exact q
/-- what a comprehension over J asks when its new list is at D -/
def LcB (J : It) (g : TG) (tt : TT) (te : TE) (vs : List Nat)
    (σ : L2.St) (D : Addr) (H : Hp) (Qd : Hp → Prop) : Prop :=
  ∃ W : Nat → Nat → Hp → Prop, (∃ m, W 0 m (upd H D (.lst []))) ∧
    ∀ i m H, W i m H → (J.stop i H ∧ Qd H) ∨ (J.go i H ∧ ∃ Nx : Hp → Prop,
      (∀ H', Nx H' → ∃ m', m' < m ∧ W (i + 1) m' H') ∧
      ∀ x H', J.yld i H x H' → g x (wipe σ vs) H' fun σ2 H2 =>
        wipe σ2 vs = wipe σ vs ∧ tt σ2 H2 fun b H3 =>
          if b = true then te σ2 H3 fun y H4 =>
            ∃ acc, H4 D = some (.lst acc) ∧ acc.length < sizeLine ∧
              Nx (upd H4 D (.lst (acc ++ [y])))
          else Nx H3)
/-- [x + s for x in xs] -/
theorem lc_shift {K : PySem.W.Frag} {i s : Nat} {xs : List Nat} {H : Hp} {l : Addr} {σ : L2.St} {te : TE} {Qd : Addr → Hp → Prop} (hl : H l = some (.lst (nV xs))) (hz : xs.length ≤ 1000)
    (ht : ∀ (H' : Hp) (x : Nat) (Q' : VK), Same H H' → Q' (.int ((s + x : Nat) : Int)) H' → te ((wipe σ [i]).set i (some (.int (x : Nat)))) H' Q')
    (q : ∀ H' D, Same H H' → H D = none → H' D = some (.lst (nV (xs.map (s + ·)))) → Qd D H') : ∀ D, H D = none → LcB (Itl K l) (gName i) tYes te [i] σ D H (Qd D) := by
  intro D hD
  refine lc_it walk_list (fun j H' => Same H H' ∧ H' D = some (.lst (nV ((xs.take j).map (s + ·))))) ⟨upd_same_of hD, upd_same⟩ (fun j H' hj ⟨s1, _⟩ => SqL.of (s1 _ _ hl)) (fun j y H' H2 hj ⟨s1, e1⟩ yy => ?_) (fun H' ⟨s1, e1⟩ => ?_)
  · obtain ⟨rfl, ey⟩ := yy
    unfold nV at hj ey
    rw [List.length_map] at hj
    rw [List.getElem?_map, List.getElem?_eq_getElem hj] at ey
    cases ey
    refine ⟨?_, ht H2 _ _ s1 ⟨_, e1, ?_, fun b o e => by rw [upd_ne (ne_of_none e hD)]; exact s1 _ _ e, ?_⟩⟩
    · show ((wipe σ [i]).set i (some (.int (xs[j] : Nat)))).set i none = (wipe σ [i])
      unfold wipe wipe
      rw [List.set_set, List.set_set]
    · unfold nV
      rw [List.length_map, List.length_map, List.length_take]
      exact small1000 (by omega)
    · rw [upd_same, List.take_succ, List.getElem?_eq_getElem hj, List.map_append, nV_app]
      rfl
  · unfold nV at e1
    rw [List.length_map, List.take_length] at e1
    exact q H' D s1 hD e1
theorem path_len (u : List Nat) (p : Nat) : (Mv.path u p).length ≤ p + 1 := by unfold Mv.path; rw [List.length_reverse]; exact Mv.up_len u p
theorem downs_len (u : List Nat) (p : Nat) : (Mv.downs u p).length ≤ u.length + 1 := by
  unfold Mv.downs
  refine Nat.le_trans (List.length_filter_le _ _) ?_
  rw [List.length_range]
  exact Nat.le_refl _
def spChartsRight : Sp := fun vs H Q _ => ∃ T pl sl p0 p1 u0 u1, vs = [.ref T, .ref pl, .ref sl] ∧ WD H T pl sl p0 p1 u0 u1 ∧ ∀ H', Same H H' → Q (.bl true) H'
section
variable {P : Program} {w : World} {K : PySem.W.Frag} {mg : Str → Option Value} {base : Heap} {C : Addr}
theorem scChartsRight : FnScope ["_law_tree", "_law_parts", "_law_starts", "_law_part", "_law_start", "_law_place", "_law_upper", "_law_lower"] ["_law_tree", "_law_parts", "_law_starts"] (defScope sChartsRight) := ⟨rfl, rfl, rfl, by decide +kernel, rfl, by decide +kernel, by decide +kernel⟩
theorem rgV_nat (n : Nat) : rgV 0 (n : Int) = nV (List.range n) := by
  unfold rgV nV
  rw [show ((n : Int) - 0).toNat = n by omega]
  exact List.map_congr_left fun i _ => congrArg V.int (Int.zero_add _)
theorem c_charts_right (G : Gn K mg "_law_charts_right" sChartsRight ["_law_tree", "_law_parts", "_law_starts"]) (B : Bt mg) (cP : Cal P w K mg base 4 "path_to" spPathTo) (cB : Cal P w K mg base 4 "posts_below" spPostsBelow) : Cal P w K mg base 5 "_law_charts_right" spChartsRight := by
  refine G.cal scChartsRight (fun vs H Q E h => ?_) (fun f cdv A outer s H vs Q E hr h => ?_)
  · obtain ⟨T, pl, sl, p0, p1, u0, u1, rfl, _⟩ := h; rfl
  · obtain ⟨T, pl, sl, p0, p1, u0, u1, rfl, W, q⟩ := h
    refine ⟨_, pss_cons (ps_for PassesOwn.never rfl (pi_zip (by rfl) B.zip (pa_cons (pv 1) (pa_cons (pv 2) pa_nil))) (pg_tup rfl (pgs_cons (pg_name (i := 3) scChartsRight.nd rfl (.inl rfl)) (pgs_cons (pg_name (i := 4) scChartsRight.nd rfl (.inr rfl)) pgs_nil)))
        (pss_one (ps_for PassesOwn.never rfl (pi_range1 (by rfl) B.range (pa_cons (pe_callB call_len_seq (by rfl) B.len PySem.boot_len (pa_cons (pv 3) pa_nil)) pa_nil)) (pg_name (i := 5) scChartsRight.nd rfl (.inl rfl))
          (pss_cons (ps_if (pt_cmpR (op_neD hr.units) (pe_c cP hr (pa_cons (pv 0) (pa_cons (pe_op op_add (pv 5) (pv 4)) pa_nil))) (pe_op op_cat (pe_lst (pa_cons pe_int pa_nil))
              (pe_lc rfl scChartsRight.nd (pi_list (pe_c cP hr (pa_cons (pv 3) (pa_cons (pv 5) pa_nil)))) (blk_by (own := [("_law_upper", 6)]) (by kernel_rfl)) (fun _ _ _ _ _ => pg_name (i := 6) scChartsRight.nd rfl (.inl rfl)) (fun _ _ _ _ _ => pts_nil) (fun _ _ _ _ _ => pe_op op_add (pv 6) (pv 4)))) (nomark _)) (pss_one (ps_ret pe_bl)) pss_nil)
          (pss_one (ps_if (pt_cmpR (op_neD hr.units) (pe_c cB hr (pa_cons (pv 0) (pa_cons (pe_op op_add (pv 5) (pv 4)) pa_nil)))
              (pe_lc rfl scChartsRight.nd (pi_list (pe_c cB hr (pa_cons (pv 3) (pa_cons (pv 5) pa_nil)))) (blk_by (own := [("_law_lower", 7)]) (by kernel_rfl)) (fun _ _ _ _ _ => pg_name (i := 7) scChartsRight.nd rfl (.inl rfl)) (fun _ _ _ _ _ => pts_nil) (fun _ _ _ _ _ => pe_op op_add (pv 7) (pv 4))) (nomark _)) (pss_one (ps_ret pe_bl)) pss_nil))))))
      (pss_one (ps_ret (pe_cmpR (op_eqD hr.units) (pe_c cB hr (pa_cons (pv 0) (pa_cons pe_int pa_nil))) (pe_listRg rfl (by rfl) B.list (prg_1 (by rfl) B.range (pe_callB call_len_seq (by rfl) B.len PySem.boot_len (pa_cons (pv 0) pa_nil)))) (nomark _)))), ?_⟩
    refine ⟨_, rfl, _, rfl, pl, sl, _, _, rfl, SqL.of W.parts, SqL.of W.starts, ?_⟩
    refine for_it (walk_zip (n := 2) rfl) (fun i σ H' => σ.length = 8 ∧ σ[0]? = some (some (.ref T)) ∧ σ[1]? = some (some (.ref pl)) ∧ σ[2]? = some (some (.ref sl)) ∧ Same H H') ⟨rfl, rfl, rfl, rfl, Same.refl H⟩ (fun i σ H' hi ⟨_, _, _, _, s1⟩ => ⟨SqL.of (s1 _ _ W.parts), SqL.of (s1 _ _ W.starts)⟩)
      (fun i x σ H' H2 hi ⟨hl, h0, h1, h2, s1⟩ y => ?_) (fun σ H' ⟨hl, h0, h1, h2, s1⟩ => ?_)
    · obtain ⟨U, a, b, rfl, nU, rfl, ea, eb⟩ := y
      have ea : ([.ref p0, .ref p1] : List V)[i]? = some a := ea
      have eb : ([.int ((1 : Nat) : Int), .int ((u0.length + 2 : Nat) : Int)] : List V)[i]? = some b := eb
      have pick : ∃ p u s, a = .ref p ∧ b = .int ((s : Nat) : Int) ∧ Mv.Emb (Mv.tog u0 u1) u s ∧ ChA H p u ∧ u.length ≤ 5 := by
        match i, hi with
        | 0, _ =>
          cases ea
          cases eb
          exact ⟨p0, u0, 1, rfl, rfl, Mv.emb0 W.c0.v W.c1.v, W.c0, W.z0⟩
        | 1, _ =>
          cases ea
          cases eb
          exact ⟨p1, u1, u0.length + 2, rfl, rfl, Mv.emb1 W.c0.v W.c1.v, W.c1, W.z1⟩
      obtain ⟨p, u, st, rfl, rfl, Eb, hp, hu⟩ := pick
      have tl : (Mv.tog u0 u1).length ≤ 13 := W.tT.sz
      have hfit := Eb.fit
      have s2 := s1.trans (upd_same_of (o := .tup [.ref p, .int ((st : Nat) : Int)]) nU)
      match σ, hl, h0, h1, h2 with
      | [v0, v1, v2, v3, v4, v5, v6, v7], _, h0, h1, h2 =>
        cases h0
        cases h1
        cases h2
        refine ⟨U, _, rfl, SqT.of upd_same, rfl, _, _, rfl, _, _, rfl, rfl, ?_⟩
        generalize upd H' U (.tup [.ref p, .int ((st : Nat) : Int)]) = H3 at *
        refine ⟨_, rfl, p, _, rfl, .inr (SqT.of (s2 _ _ hp.at_)), _, rfl, ?_⟩
        rw [chV_len]
        refine ⟨by omega, by omega, ?_⟩
        rw [Int.toNat_natCast]
        refine for_it walk0 (fun k σ H' => σ.length = 8 ∧ σ[0]? = some (some (.ref T)) ∧ σ[1]? = some (some (.ref pl)) ∧ σ[2]? = some (some (.ref sl)) ∧ σ[3]? = some (some (.ref p)) ∧ σ[4]? = some (some (.int ((st : Nat) : Int))) ∧ Same H H') ⟨rfl, rfl, rfl, rfl, rfl, rfl, s2⟩ (fun _ _ _ _ _ => trivial)
          (fun k x σ H' H5 hk ⟨gl, g0, g1, g2, g3, g4, s4⟩ y => ?_) (fun σ H' ⟨gl, g0, g1, g2, _, _, s4⟩ => ⟨gl, g0, g1, g2, s4⟩)
        obtain ⟨rfl, rfl⟩ := y
        match σ, gl, g0, g1, g2, g3, g4 with
        | [w0, w1, w2, w3, w4, w5, w6, w7], _, g0, g1, g2, g3, g4 =>
          cases g0
          cases g1
          cases g2
          cases g3
          cases g4
          -- path_to
          refine ⟨_, rfl, _, rfl, _, rfl, _, _, rfl, rfl, T, Mv.tog u0 u1, st + k, two_nat T k st, W.tT.same s4, by omega, fun H6 l6 s6 n6 e6 => ?_⟩
          have s06 := s4.trans s6
          refine ⟨(by show 1 ≤ sizeLine; decide), fun d nd => ?_⟩
          have s7 := s06.trans (upd_same_of (o := .lst [.int 0]) nd)
          have e7 : upd H6 d (.lst [.int 0]) l6 = some (.lst (nV (Mv.path (Mv.tog u0 u1) (st + k)))) := by rw [upd_ne (ne_of_none e6 nd)]; exact e6
          have ed : upd H6 d (.lst [.int 0]) d = some (.lst [.int 0]) := upd_same
          generalize upd H6 d (.lst [.int 0]) = H7 at *
          refine ⟨_, rfl, _, rfl, p, u, k, rfl, hp.same s7, by omega, fun H8 l8 s8 n8 e8 => ⟨l8, rfl, ⟨_, SqL.of e8⟩, ?_⟩⟩
          refine lc_shift (i := 6) (s := st) e8 (by have := path_len u k; omega) (fun H' x Q' _ q' => ⟨_, rfl, _, rfl, _, _, rfl, rfl, int_nat q'⟩) fun H9 D s9 n9 e9 => ?_
          have s09 := (s7.trans s8).trans s9
          have ed9 := s9 _ _ (s8 _ _ ed)
          refine ⟨d, D, _, _, rfl, rfl, ed9, e9, ?_, fun c2 nc2 => ?_⟩
          · unfold nV
            rw [List.length_map, List.length_map]
            have := path_len u k
            exact Nat.le_of_lt (small1000 (by show 1 + _ ≤ 1000; omega))
          · have e10 : upd H9 c2 (.lst ([.int 0] ++ nV ((Mv.path u k).map (st + ·)))) c2 = some (.lst (nV (Mv.path (Mv.tog u0 u1) (st + k)))) := by
              rw [upd_same, Eb.path (by omega)]
              rfl
            have e7' : upd H9 c2 (.lst ([.int 0] ++ nV ((Mv.path u k).map (st + ·)))) l6 = some (.lst (nV (Mv.path (Mv.tog u0 u1) (st + k)))) := by
              have := s9 _ _ (s8 _ _ e7)
              rw [upd_ne (ne_of_none this nc2)]; exact this
            have s10 := s09.trans (upd_same_of (o := .lst ([.int 0] ++ nV ((Mv.path u k).map (st + ·)))) nc2)
            generalize upd H9 c2 (.lst ([.int 0] ++ nV ((Mv.path u k).map (st + ·)))) = H10 at *
            refine neL_of (SqL.of e7') (SqL.of e10) (flat_n _).dp (flat_n _).dp (flat_n _).shp ⟨false, rfl, ?_⟩
            -- posts_below
            refine ⟨_, rfl, _, rfl, _, rfl, _, _, rfl, rfl, T, Mv.tog u0 u1, st + k, two_nat T k st, W.tT.same s10, by omega, fun H11 l11 s11 n11 e11 => ?_⟩
            have s011 := s10.trans s11
            refine ⟨_, rfl, _, rfl, p, u, k, rfl, hp.same s011, by omega, fun H12 l12 s12 n12 e12 => ⟨l12, rfl, ⟨_, SqL.of e12⟩, ?_⟩⟩
            refine lc_shift (i := 7) (s := st) e12 (by have := downs_len u k; omega) (fun H' x Q' _ q' => ⟨_, rfl, _, rfl, _, _, rfl, rfl, int_nat q'⟩) fun H13 D2 s13 n13 e13 => ?_
            have e11' := s13 _ _ (s12 _ _ e11)
            rw [Eb.downs (by omega)] at e11'
            refine neL_of (SqL.of e11') (SqL.of e13) (flat_n _).dp (flat_n _).dp (flat_n _).shp ⟨false, rfl, ?_⟩
            exact ⟨rfl, rfl, rfl, rfl, rfl, rfl, (s011.trans s12).trans s13⟩
    · match σ, hl, h0, h1, h2 with
      | [v0, v1, v2, v3, v4, v5, v6, v7], _, h0, h1, h2 =>
        cases h0
        refine ⟨_, rfl, T, Mv.tog u0 u1, 0, rfl, W.tT.same s1, Nat.zero_le _, fun H2 l2 s2 n2 e2 => ?_⟩
        have s02 := s1.trans s2
        have tl : (Mv.tog u0 u1).length ≤ 13 := W.tT.sz
        refine ⟨_, rfl, T, _, rfl, .inr (SqT.of (s02 _ _ W.tT.at_)), _, rfl, ?_⟩
        rw [chV_len]
        refine ⟨RgOk.of_le (by omega) (by omega) (by omega) (by omega), fun d nd => ?_⟩
        rw [rgV_nat]
        have ed : upd H2 d (.lst (nV (List.range ((Mv.tog u0 u1).length + 1)))) d = some (.lst (nV (Mv.downs (Mv.tog u0 u1) 0))) := by rw [upd_same, Mv.downs_zero]
        have e2' : upd H2 d (.lst (nV (List.range ((Mv.tog u0 u1).length + 1)))) l2 = some (.lst (nV (Mv.downs (Mv.tog u0 u1) 0))) := by rw [upd_ne (ne_of_none e2 nd)]; exact e2
        exact eqL_of (SqL.of e2') (SqL.of ed) (flat_n _).dp (flat_n _).dp (flat_n _).shp (q _ (s02.trans (upd_same_of nd)))
end
end Pm


/-! Two branches as values: what the law's checks share. -/
namespace Pm
open PySem PySem.Spec PyProof.Rows L2 Ru GenW
structure WA (H : Hp) (ra bl a0 a1 : Addr) (u0 u1 : List Nat) (h : Int) (r0 r1 : Mv.Rows) : Prop where
  rows : H ra = some (.tup (rV (Mv.rws h r0 r1)))
  both : H bl = some (.lst [.ref a0, .ref a1])
  a0_ : H a0 = some (.tup (rV r0))
  a1_ : H a1 = some (.tup (rV r1))
  two : Mv.Two u0 u1 h r0 r1
  hb : h < 2 ^ 60
theorem WA.same {H H' : Hp} {ra bl a0 a1 : Addr} {u0 u1 : List Nat} {h : Int} {r0 r1 : Mv.Rows} (x : WA H ra bl a0 a1 u0 u1 h r0 r1) (s : Same H H') : WA H' ra bl a0 a1 u0 u1 h r0 r1 := ⟨s _ _ x.rows, s _ _ x.both, s _ _ x.a0_, s _ _ x.a1_, x.two, x.hb⟩
theorem WA.big {H : Hp} {ra bl a0 a1 : Addr} {u0 u1 : List Nat} {h : Int} {r0 r1 : Mv.Rows} (x : WA H ra bl a0 a1 u0 u1 h r0 r1) : ArA H ra (Mv.tog u0 u1) (Mv.rws h r0 r1) := ⟨x.rows, x.two.arr⟩
/-- the branch that is looked at -/
structure Br (H : Hp) (w : Nat) (u0 u1 : List Nat) (h : Int) (r0 r1 : Mv.Rows) (p0 p1 a0 a1 : Addr) (u : List Nat) (st : Nat) (r pre post ro : Mv.Rows) (p a o : Addr) : Prop where
  w2 : w < 2
  emb : Mv.Emb (Mv.tog u0 u1) u st
  cp : ChA H p u
  ar : ArA H a u r
  op : H o = some (.tup (rV ro))
  u5 : u.length ≤ 5
  ip : ([.ref p0, .ref p1] : List V)[w]? = some (.ref p)
  is : ([.int ((1 : Nat) : Int), .int ((u0.length + 2 : Nat) : Int)] : List V)[w]? = some (.int ((st : Nat) : Int))
  ia : ([.ref a0, .ref a1] : List V)[w]? = some (.ref a)
  io : ([.ref a0, .ref a1] : List V)[1 - w]? = some (.ref o)
  spl : Mv.rws h r0 r1 = pre ++ r ++ post
  pl : pre.length = st
  p0h : pre.getD 0 none = some h
  notin : ∀ y, some y ∈ r → some y ∉ pre
  res : ∀ x : Mv.Rows, rV [some h] ++ (if w = 0 then rV x else rV ro) ++ (if w = 0 then rV ro else rV x) = rV (pre ++ x ++ post)
  hlt : ∀ y, some y ∈ r → h < y
  ron : ro ≠ []
  rol : ro.length ≤ 6
  hlv : ∀ x, Mv.best (Mv.heads r0 r1) = some (x, w) → some x ∈ r ∧ ∃ rr, Mv.leaveR (Mv.tog u0 u1) (Mv.rws h r0 r1) h = ((x, st, 0) :: (Mv.leaveR u r x).1.map (Mv.sh3 st), rr) ∧
    rV [some x] ++ (if w = 0 then rV (Mv.leaveR u r x).2 else rV ro) ++ (if w = 0 then rV ro else rV (Mv.leaveR u r x).2) = rV rr
theorem br_of {H : Hp} {T pl sl p0 p1 ra bl a0 a1 : Addr} {u0 u1 : List Nat} {h : Int} {r0 r1 : Mv.Rows} (D : WD H T pl sl p0 p1 u0 u1) (A : WA H ra bl a0 a1 u0 u1 h r0 r1) {w : Nat} (hw : w < 2) :
    ∃ u st r pre post ro p a o, Br H w u0 u1 h r0 r1 p0 p1 a0 a1 u st r pre post ro p a o := by
  have l0 := A.two.a0.len
  have l1 := A.two.a1.len
  match w, hw with
  | 0, _ =>
    refine ⟨u0, 1, r0, [some h], r1, r1, p0, a0, a1, by decide, Mv.emb0 D.c0.v D.c1.v, D.c0, ⟨A.a0_, A.two.a0⟩, A.a1_, D.z0, rfl, rfl, rfl, rfl, Mv.rws0 h r0 r1, rfl, rfl, fun y hy hm => ?_, fun x => ?_, A.two.lt0, (fun z => by rw [z] at l1; cases l1), (by have := D.z1; omega), fun x e => ⟨?_, _, Mv.head_0 A.two e, ?_⟩⟩
    · cases List.mem_singleton.mp hm
      exact absurd (A.two.lt0 _ hy) (by omega)
    · unfold rV
      rw [List.map_append, List.map_append]
      rfl
    · rcases Mv.heads_mem (Mv.best_mem e) with ⟨_, z⟩ | ⟨z, _⟩
      · exact Mv.getD_mem z
      · omega
    · unfold rV
      simp
  | 1, _ =>
    refine ⟨u1, u0.length + 2, r1, some h :: r0, [], r0, p1, a1, a0, by decide, Mv.emb1 D.c0.v D.c1.v, D.c1, ⟨A.a1_, A.two.a1⟩, A.a0_, D.z1, rfl, rfl, rfl, rfl, Mv.rws1 h r0 r1, by rw [List.length_cons, l0], rfl, fun y hy hm => ?_, fun x => ?_, A.two.lt1, (fun z => by rw [z] at l0; cases l0), (by have := D.z0; omega), fun x e => ⟨?_, _, Mv.head_1 A.two e, ?_⟩⟩
    · rcases List.mem_cons.mp hm with z | z
      · cases z
        exact absurd (A.two.lt1 _ hy) (by omega)
      · exact A.two.dis y z hy
    · unfold rV
      rw [List.map_append, List.map_append, List.map_nil, List.append_nil]
      rfl
    · rcases Mv.heads_mem (Mv.best_mem e) with ⟨z, _⟩ | ⟨_, z⟩
      · omega
      · exact Mv.getD_mem z
    · unfold rV
      simp
theorem Br.same {H H' : Hp} {w : Nat} {u0 u1 : List Nat} {h : Int} {r0 r1 : Mv.Rows} {p0 p1 a0 a1 : Addr} {u : List Nat} {st : Nat} {r pre post ro : Mv.Rows} {p a o : Addr} (b : Br H w u0 u1 h r0 r1 p0 p1 a0 a1 u st r pre post ro p a o) (s : Same H H') : Br H' w u0 u1 h r0 r1 p0 p1 a0 a1 u st r pre post ro p a o :=
  ⟨b.w2, b.emb, b.cp.same s, b.ar.same s, s _ _ b.op, b.u5, b.ip, b.is, b.ia, b.io, b.spl, b.pl, b.p0h, b.notin, b.res, b.hlt, b.ron, b.rol, b.hlv⟩
/-! ### rows[:1] + c[0] + c[1] -/
theorem cut_one (x : V) (xs : List V) : cutV (x :: xs) none (some 1) = [x] := by
  have e : HT.sIx (x :: xs).length (x :: xs).length (some 1) = 1 := by
    show (if (1 : Int) < 0 then ((1 : Int) + ((x :: xs).length : Int)).toNat else min (1 : Int).toNat (x :: xs).length) = 1
    rw [if_neg (by decide), List.length_cons]
    show min 1 (xs.length + 1) = 1
    omega
  unfold cutV
  rw [e, show HT.sIx (x :: xs).length 0 none = 0 from rfl, List.drop_zero]
  rfl
theorem cat3 {K : PySem.W.Frag} {σ : L2.St} {H : Hp} {Q : VK} {i j : Nat} {ra cl x y : Addr} {h : Int} {r0 r1 : Mv.Rows} {xs ys : List V} (hi : σ[i]? = some (some (.ref ra))) (hj : σ[j]? = some (some (.ref cl))) (hr : H ra = some (.tup (rV (Mv.rws h r0 r1)))) (hl : (r0 ++ r1) ≠ [])
    (hc : H cl = some (.lst [.ref x, .ref y])) (hx : H x = some (.tup xs)) (hy : H y = some (.tup ys)) (nx : xs ≠ []) (ny : ys ≠ []) (lx : xs.length ≤ 100) (ly : ys.length ≤ 100) (q : ∀ H' z, Same H H' → H' z = some (.tup ([.int h] ++ xs ++ ys)) → Q (.ref z) H') :
    tOp (rCatA K) (tOp (rCatA K) (tSl (rSlA K) (tVar i) tNoPart (tPart (tC (.int 1)))) (tOp (rIxL K) (tVar j) (tC (.int 0)))) (tOp (rIxL K) (tVar j) (tC (.int 1))) σ H Q := by
  refine ⟨_, hi, _, rfl, ra, _, rfl, SqT.of hr, fun hw => ?_, fun hw p np => ?_⟩
  · exfalso
    obtain ⟨_, h2⟩ := hw
    have e : HT.sIx (rV (Mv.rws h r0 r1)).length (rV (Mv.rws h r0 r1)).length (some 1) = min 1 (rV (Mv.rws h r0 r1)).length := HT.sIx_nat _ _ 1
    rw [e] at h2
    have l : (rV (Mv.rws h r0 r1)).length = (r0 ++ r1).length + 1 := by unfold Mv.rws rV; rw [List.length_map, List.length_cons]
    have := List.length_pos_iff.mpr hl
    omega
  · have ec : cutV (rV (Mv.rws h r0 r1)) none (some 1) = [.int h] := cut_one _ _
    rw [ec]
    have s1 := upd_same_of (o := .tup [.int h]) np
    have e1 : upd H p (.tup [.int h]) p = some (.tup [.int h]) := upd_same
    generalize upd H p (.tup [.int h]) = H1 at *
    refine ⟨_, hj, cl, _, _, .ref x, rfl, rfl, SqL.of (s1 _ _ hc), atI_nat (j := 0) rfl, p, x, _, _, rfl, rfl, SqT.of e1, SqT.of (s1 _ _ hx), Nat.le_of_lt (small1000 (by show 1 + xs.length ≤ 1000; omega)), fun z => (nomatch z), fun _ z => absurd z nx, fun _ _ p2 np2 => ?_⟩
    have s2 := s1.trans (upd_same_of (o := .tup ([.int h] ++ xs)) np2)
    have e2 : upd H1 p2 (.tup ([.int h] ++ xs)) p2 = some (.tup ([.int h] ++ xs)) := upd_same
    generalize upd H1 p2 (.tup ([.int h] ++ xs)) = H2 at *
    refine ⟨_, hj, cl, _, _, .ref y, rfl, rfl, SqL.of (s2 _ _ hc), atI_nat (j := 1) rfl, p2, y, _, _, rfl, rfl, SqT.of e2, SqT.of (s2 _ _ hy), Nat.le_of_lt (small1000 (by rw [List.length_append]; show 1 + xs.length + ys.length ≤ 1000; omega)), fun z => (nomatch z), fun _ z => absurd z ny, fun _ _ p3 np3 => ?_⟩
    exact q _ p3 (s2.trans (upd_same_of np3)) upd_same
theorem cat3b {K : PySem.W.Frag} {σ : L2.St} {H : Hp} {Q : VK} {i j : Nat} {cl x y : Addr} {v : V} {xs ys : List V} (hi : σ[i]? = some (some v)) (hj : σ[j]? = some (some (.ref cl)))
    (hc : H cl = some (.lst [.ref x, .ref y])) (hx : H x = some (.tup xs)) (hy : H y = some (.tup ys)) (nx : xs ≠ []) (ny : ys ≠ []) (lx : xs.length ≤ 100) (ly : ys.length ≤ 100) (q : ∀ H' z, Same H H' → H' z = some (.tup ([v] ++ xs ++ ys)) → Q (.ref z) H') :
    tOp (rCatA K) (tOp (rCatA K) (tTup (tCons (tVar i) tNil)) (tOp (rIxL K) (tVar j) (tC (.int 0)))) (tOp (rIxL K) (tVar j) (tC (.int 1))) σ H Q := by
  refine ⟨_, hi, (by show 1 ≤ sizeLine; decide), fun p np => ?_⟩
  have s1 := upd_same_of (o := .tup [v]) np
  have e1 : upd H p (.tup [v]) p = some (.tup [v]) := upd_same
  generalize upd H p (.tup [v]) = H1 at *
  refine ⟨_, hj, cl, _, _, .ref x, rfl, rfl, SqL.of (s1 _ _ hc), atI_nat (j := 0) rfl, p, x, _, _, rfl, rfl, SqT.of e1, SqT.of (s1 _ _ hx), Nat.le_of_lt (small1000 (by show 1 + xs.length ≤ 1000; omega)), fun z => (nomatch z), fun _ z => absurd z nx, fun _ _ p2 np2 => ?_⟩
  have s2 := s1.trans (upd_same_of (o := .tup ([v] ++ xs)) np2)
  have e2 : upd H1 p2 (.tup ([v] ++ xs)) p2 = some (.tup ([v] ++ xs)) := upd_same
  generalize upd H1 p2 (.tup ([v] ++ xs)) = H2 at *
  refine ⟨_, hj, cl, _, _, .ref y, rfl, rfl, SqL.of (s2 _ _ hc), atI_nat (j := 1) rfl, p2, y, _, _, rfl, rfl, SqT.of e2, SqT.of (s2 _ _ hy), Nat.le_of_lt (small1000 (by rw [List.length_append]; show 1 + xs.length + ys.length ≤ 1000; omega)), fun z => (nomatch z), fun _ z => absurd z ny, fun _ _ p3 np3 => ?_⟩
  exact q _ p3 (s2.trans (upd_same_of np3)) upd_same
/-! ### moves as data -/
def triD (m : Int × Nat × Nat) : PyData := .tuple [.int m.1, .int (m.2.1 : Int), .int (m.2.2 : Int)]
theorem dp_tri {K : PySem.W.Frag} {H : Hp} : ∀ {l : List (Addr × Int × Nat × Nat)}, Tri H l → DpAll K H (l.map fun q => V.ref q.1) (l.map fun q => triD q.2)
  | [], _ => .nil
  | p :: ps, h => .cons (.tup (SqT.of (h p List.mem_cons_self)) (.cons (.int _) (.cons (.int _) (.cons (.int _) .nil)))) (dp_tri fun q hq => h q (List.mem_cons_of_mem _ hq))
theorem shp_tri : ∀ l : List (Addr × Int × Nat × Nat), PyData.canLayAll0 (l.map fun q => triD q.2) = true ∧ PyData.depthAll (l.map fun q => triD q.2) ≤ 2
  | [] => ⟨by unfold List.map PyData.canLayAll0; rfl, by unfold List.map PyData.depthAll; decide⟩
  | p :: ps => by
    obtain ⟨h1, h2⟩ := shp_tri ps
    rw [List.map_cons]
    unfold PyData.canLayAll0 PyData.depthAll
    rw [h1]
    refine ⟨by unfold triD PyData.canLay0 PyData.canLayAll0 PyData.canLayAll0 PyData.canLayAll0 PyData.canLayAll0 PyData.canLay0; rfl, Nat.max_le.mpr ⟨?_, h2⟩⟩
    unfold triD PyData.depth PyData.depthAll PyData.depthAll PyData.depthAll PyData.depthAll PyData.depth
    decide
theorem tri_data {l l' : List (Addr × Int × Nat × Nat)} (e : l.map (·.2) = l'.map (·.2)) : (l.map fun q => triD q.2) = l'.map fun q => triD q.2 := by
  have := congrArg (List.map triD) e
  rw [List.map_map, List.map_map] at this
  exact this
theorem tri_sh (s : Nat) (m : Int × Nat × Nat) : ([V.int m.1, V.int ((m.2.1 : Int) + (s : Int)), V.int ((m.2.2 : Int) + (s : Int))] : List V) = trV (Mv.sh3 s m) := by
  unfold trV Mv.sh3
  rw [add_nat, add_nat]
theorem nc_by {names : List (Str × NameKind)} (h : names.all (fun y => decide (y.2 ≠ .cell)) = true) : ∀ y ∈ names, y.2 ≠ .cell := fun y hy => of_decide_eq_true (List.all_eq_true.mp h y hy)
theorem chain_nc : ∀ y ∈ (defScope sChain).names, y.2 ≠ .cell ∧ y.2 ≠ .free := by decide +kernel
theorem passE {X : Cx} : Passes (CX X.prog X.w) X E0 := fun _ _ _ _ _ _ _ ⟨_, _, _, _, _, _, _, _, _, _, _, _, z⟩ => z.elim
theorem nostopE {K : PySem.W.Frag} : NoStop K E0 := fun _ _ _ z => z.elim
end Pm


/-! Promises: a branch alone. -/
namespace Pm
open PySem PySem.Spec PyProof.Rows L2 Ru GenW
abbrev sBranchRight : Stmt := top 54
def nBranch : List Str := ["_law_tree", "_law_parts", "_law_rows", "_law_both", "_law_starts", "_law_which", "_law_part", "_law_start", "_law_other", "_law_name", "_law_changed", "_law_moves", "_law_held_here", "_law_between", "_law_newcomer", "_law_place", "_law_mover", "_law_old", "_law_new"]
def spBranch : Sp := fun vs H Q _ => ∃ T pl sl p0 p1 ra bl a0 a1 u0 u1 h r0 r1, ∃ w : Nat, vs = [.ref T, .ref pl, .ref ra, .ref bl, .ref sl, .int w] ∧ WD H T pl sl p0 p1 u0 u1 ∧ WA H ra bl a0 a1 u0 u1 h r0 r1 ∧ w < 2 ∧ ∀ H', Same H H' → Q (.bl true) H'
structure BrS (σ : L2.St) (T pl ra bl sl p o : Addr) (w st : Nat) : Prop where
  len : σ.length = 19
  e0 : σ[0]? = some (some (.ref T))
  e1 : σ[1]? = some (some (.ref pl))
  e2 : σ[2]? = some (some (.ref ra))
  e3 : σ[3]? = some (some (.ref bl))
  e4 : σ[4]? = some (some (.ref sl))
  e5 : σ[5]? = some (some (.int w))
  e6 : σ[6]? = some (some (.ref p))
  e7 : σ[7]? = some (some (.int ((st : Nat) : Int)))
  e8 : σ[8]? = some (some (.ref o))
theorem BrS.set {σ : L2.St} {T pl ra bl sl p o : Addr} {w st : Nat} (S : BrS σ T pl ra bl sl p o w st) (i : Nat) (v : Option V) (hi : 9 ≤ i) : BrS (σ.set i v) T pl ra bl sl p o w st :=
  ⟨by rw [List.length_set]; exact S.len, by rw [List.getElem?_set_ne (by omega)]; exact S.e0, by rw [List.getElem?_set_ne (by omega)]; exact S.e1, by rw [List.getElem?_set_ne (by omega)]; exact S.e2, by rw [List.getElem?_set_ne (by omega)]; exact S.e3,
    by rw [List.getElem?_set_ne (by omega)]; exact S.e4, by rw [List.getElem?_set_ne (by omega)]; exact S.e5, by rw [List.getElem?_set_ne (by omega)]; exact S.e6, by rw [List.getElem?_set_ne (by omega)]; exact S.e7, by rw [List.getElem?_set_ne (by omega)]; exact S.e8⟩
theorem BrS.put {σ : L2.St} {T pl ra bl sl p o : Addr} {w st : Nat} (S : BrS σ T pl ra bl sl p o w st) {i : Nat} (v : Option V) (hi : i < 19) : (σ.set i v)[i]? = some v := List.getElem?_set_self (by rw [S.len]; exact hi)
theorem stepV (w : Nat) (hw : w < 2) : (1 : Int) - 2 * (w : Int) = if decide (w = 0) = true then 1 else -1 := by
  match w, hw with
  | 0, _ => rfl
  | 1, _ => rfl
theorem stepL (w : Nat) (hw : w < 2) (x y : V) : (if decide (w = 0) = true then [x, y] else [x, y].reverse) = [if w = 0 then x else y, if w = 0 then y else x] := by
  match w, hw with
  | 0, _ => rfl
  | 1, _ => rfl
theorem stepLA (w : Nat) (hw : w < 2) (x y : Addr) : (if decide (w = 0) = true then [V.ref x, V.ref y] else [V.ref x, V.ref y].reverse) = [V.ref (if w = 0 then x else y), V.ref (if w = 0 then y else x)] := by
  match w, hw with
  | 0, _ => rfl
  | 1, _ => rfl
theorem br_x {H : Hp} {w : Nat} {z o : Addr} {xs ys : List V} (hz : H z = some (.tup xs)) (ho : H o = some (.tup ys)) : H (if w = 0 then z else o) = some (.tup (if w = 0 then xs else ys)) := by split <;> assumption
theorem br_y {H : Hp} {w : Nat} {z o : Addr} {xs ys : List V} (hz : H z = some (.tup xs)) (ho : H o = some (.tup ys)) : H (if w = 0 then o else z) = some (.tup (if w = 0 then ys else xs)) := by split <;> assumption
theorem four_nat (t a : Addr) (x : Int) (k s : Nat) : ([V.ref t, V.ref a, V.int x, V.int ((k : Int) + (s : Int))] ++ [] : List V) = [V.ref t, V.ref a, V.int x, V.int ((s + k : Nat) : Int)] := by rw [add_nat]; rfl
theorem rws_mem {hd : Int} {r0 r1 pre r post : Mv.Rows} (e : Mv.rws hd r0 r1 = pre ++ r ++ post) {x : Int} (h : some x ∈ r) : some x ∈ Mv.rws hd r0 r1 := by rw [e]; simp [h]
theorem rV_ne {r : Mv.Rows} (h : r ≠ []) : rV r ≠ [] := fun z => h (List.map_eq_nil_iff.mp z)
section
variable {P : Program} {w : World} {K : PySem.W.Frag} {mg : Str → Option Value} {base : Heap} {C : Addr}
theorem scBranch : FnScope nBranch ["_law_tree", "_law_parts", "_law_rows", "_law_both", "_law_starts", "_law_which"] (defScope sBranchRight) := ⟨rfl, rfl, rfl, by decide +kernel, rfl, by decide +kernel, by decide +kernel⟩
theorem c_branch (G : Gn K mg "_law_branch_right" sBranchRight ["_law_tree", "_law_parts", "_law_rows", "_law_both", "_law_starts", "_law_which"]) (B : Bt mg) (Z : Tr P w K mg base C) (cHd : Cal P w K mg base 1 "_law_held" spHeld) (cLv : CalR P w K mg base 5 "leave" spLeave)
    (Gc : Gn K mg "chain" sChain ["chart", "arrangement", "person"]) (q1 : Cal P w K mg base 3 "require_chart" spChart) (q2 : Cal P w K mg base 4 "require_arrangement" spArr) (q3 : Cal P w K mg base 3 "require_holder" spReqHolder) (q4 : Cal P w K mg base 1 "move_up" (spMoveUp C))
    (cPO : Cal P w K mg base 5 "post_of" spPostOf) (cOP : Cal P w K mg base 5 "open_posts" spOpenPosts) (cJ : Cal P w K mg base 5 "join" spJoin) : Cal P w K mg base 10 "_law_branch_right" spBranch := by
  obtain ⟨fc, fdc, Fc, hmc, bc⟩ := Gc.ex
  have GF := g_chain Fc B Z q1 q2 q3 q4
  obtain ⟨occ, odc, kVc, docc, pmc, anc, cdvc, ctc, oslc, rfl, lkc, hcdc⟩ := Fc.ex
  refine G.cal scBranch (fun vs H Q E h => ?_) (fun f cdv A outer s H vs Q E hr h => ?_)
  · obtain ⟨T, pl, sl, p0, p1, ra, bl, a0, a1, u0, u1, h, r0, r1, w', rfl, _⟩ := h; rfl
  · obtain ⟨T, pl, sl, p0, p1, ra, bl, a0, a1, u0, u1, hd, r0, r1, w', rfl, WDa, WAa, hw, q⟩ := h
    have nd := scBranch.nd
    refine ⟨_, pss_cons (ps_asg (pe_tup (pa_cons (pe_ix ix_list (pv 1) (pv 5) (fun _ _ => rfl)) (pa_cons (pe_ix ix_list (pv 4) (pv 5) (fun _ _ => rfl)) (pa_cons (pe_ix ix_list (pv 3) (pe_op op_sub pe_int (pv 5)) (fun _ _ => rfl)) pa_nil))))
        (pg_tup rfl (pgs_cons (pg_name (i := 6) nd rfl (.inl rfl)) (pgs_cons (pg_name (i := 7) nd rfl (.inr rfl)) (pgs_cons (pg_name (i := 8) nd rfl (.inl rfl)) pgs_nil)))))
      (pss_cons (ps_for PassesOwn.never rfl (pi_list (pe_c cHd hr (pa_cons (pe_ix ix_list (pv 3) (pv 5) (fun _ _ => rfl)) pa_nil))) (pg_name (i := 9) nd rfl (.inl rfl))
        (pss_cons (ps_set (i := 10) nd rfl (.inl rfl) (pe_step (pe_lst (pa_cons (pe_cr cLv hr (pa_cons (pv 6) (pa_cons (pe_ix ix_list (pv 3) (pv 5) (fun _ _ => rfl)) (pa_cons (pv 9) pa_nil)))) (pa_cons (pv 8) pa_nil))) (pe_op op_sub pe_int (pe_op op_mul pe_int (pv 5)))))
        (pss_cons (ps_if (pt_cmpR (op_neD hr.units) (pe_cr cLv hr (pa_cons (pv 0) (pa_cons (pv 2) (pa_cons (pv 9) pa_nil)))) (pe_op op_catA (pe_op op_catA (pe_slice sl_tupA (pv 2) po_none (po_some pe_int)) (pe_ix ix_list (pv 10) pe_int (fun _ _ => rfl))) (pe_ix ix_list (pv 10) pe_int (fun _ _ => rfl))) (nomark _)) (pss_one (ps_ret pe_bl)) pss_nil)
        (pss_cons (ps_setLcG (k := 9) (i := 11) (sp := spChainI) (g := gTup K 3 (gCons (gName 16) (gCons (gName 17) (gCons (gName 18) gNil)))) rfl hr nd rfl rfl (sw_true rfl rfl rfl (by kernel_rfl))
            (pbn_call (N := nChain) lkc hcdc scChain chain_nc hr (by rfl) hmc Fc.kp bc (fun σ H R ⟨v1, e1, v2, e2, v3, e3, p, xs, i, v, x1, x2, x3, x4, v5, e5, z⟩ => ⟨v1, e1, v2, e2, v3, e3, p, xs, i, v, x1, x2, x3, x4, v5, e5, rfl, z⟩) (pa_cons (pv 6) (pa_cons (pe_ix ix_list (pv 3) (pv 5) (fun _ _ => rfl)) (pa_cons (pv 9) pa_nil))))
            (chain_gpr (hr.mono (by decide)) B Z q1 q2 q3 q4) (blk_by (own := [("_law_mover", 16), ("_law_old", 17), ("_law_new", 18)]) (by kernel_rfl)) (nc_by (by kernel_rfl))
            (fun _ _ _ _ _ => pgg_tup rfl (pgsg_cons (pgg_name (i := 16) nd rfl rfl) (pgsg_cons (pgg_name (i := 17) nd rfl rfl) (pgsg_cons (pgg_name (i := 18) nd rfl rfl) pgsg_nil))))
            (fun _ _ _ _ _ => peg_tup (pag_cons (peg_var (i := 16) rfl (.inl rfl)) (pag_cons (peg_add (peg_var (i := 17) rfl (.inl rfl)) (peg_var (i := 7) rfl (.inr (.inl rfl)))) (pag_cons (peg_add (peg_var (i := 18) rfl (.inl rfl)) (peg_var (i := 7) rfl (.inr (.inl rfl)))) pag_nil)))))
        (pss_cons (ps_if (pt_cmpR (op_neD hr.units) (pe_listG (pgen_call GF (hr.mono (by decide)) (by rfl) hmc Fc.kp bc .nil (pa_cons (pv 0) (pa_cons (pv 2) (pa_cons (pv 9) pa_nil)))) passE nostopE (hr.mono (by decide)) (by rfl) B.list PyProof.Rows.boot_list) (pv 11) (nomark _)) (pss_one (ps_ret pe_bl)) pss_nil)
        (pss_one (ps_if (pt_cmpR op_ne (pe_c cPO hr (pa_cons (pv 0) (pa_cons (pv 2) (pa_cons (pv 9) pa_nil)))) (pe_op op_add (pe_c cPO hr (pa_cons (pv 6) (pa_cons (pe_ix ix_list (pv 3) (pv 5) (fun _ _ => rfl)) (pa_cons (pv 9) pa_nil)))) (pv 7)) (nomark _)) (pss_one (ps_ret pe_bl)) pss_nil)))))))
      (pss_cons (ps_set (i := 12) nd rfl (.inr rfl) (pe_c cHd hr (pa_cons (pv 2) pa_nil)))
      (pss_cons (ps_setLc (i := 13) rfl nd rfl rfl (sw_true rfl rfl rfl (by kernel_rfl)) (pi_range2 (by rfl) B.range (pa_cons (pe_op op_add (pe_ix ix_tup (pv 2) pe_int (fun _ _ => rfl)) pe_int) (pa_cons (pe_op op_add (pe_op op_add (pe_ix ix_tup (pv 2) pe_int (fun _ _ => rfl)) (pe_callB call_len_seq (by rfl) B.len PySem.boot_len (pa_cons (pv 12) pa_nil))) pe_int) pa_nil))) (blk_by (own := [("_law_name", 9)]) (by kernel_rfl))
          (fun _ _ _ _ _ => pg_name (i := 9) nd rfl (.inl rfl)) (fun _ _ _ _ _ => pts_one (pt_cmpR (r := rIn K true) op_notIn_seq (pv 9) (pv 12) (by rfl))) (fun _ _ _ _ _ => pv 9))
      (pss_cons (ps_for PassesOwn.never rfl (pi_list (pe_lst (pa_cons (pe_op op_add (pe_callB (cr_max rfl) (by rfl) B.max PyProof.Rows.boot_max (pa_cons (pv 12) pa_nil)) pe_int) (pa_cons (pe_ix ix_list (pv 13) pe_int (fun _ _ => rfl)) pa_nil)))) (pg_name (i := 14) nd rfl (.inl rfl))
        (pss_one (ps_for PassesOwn.never rfl (pi_list (pe_c cOP hr (pa_cons (pv 6) (pa_cons (pe_ix ix_list (pv 3) (pv 5) (fun _ _ => rfl)) pa_nil)))) (pg_name (i := 15) nd rfl (.inl rfl))
          (pss_cons (ps_set (i := 10) nd rfl (.inl rfl) (pe_step (pe_lst (pa_cons (pe_c cJ hr (pa_cons (pv 6) (pa_cons (pe_ix ix_list (pv 3) (pv 5) (fun _ _ => rfl)) (pa_cons (pv 14) (pa_cons (pv 15) pa_nil))))) (pa_cons (pv 8) pa_nil))) (pe_op op_sub pe_int (pe_op op_mul pe_int (pv 5)))))
          (pss_one (ps_if (pt_cmpR (op_neD hr.units) (pe_c cJ hr (pa_cons (pv 0) (pa_cons (pv 2) (pa_cons (pv 14) (pa_cons (pe_op op_add (pv 15) (pv 7)) pa_nil))))) (pe_op op_catA (pe_op op_catA (pe_slice sl_tupA (pv 2) po_none (po_some pe_int)) (pe_ix ix_list (pv 10) pe_int (fun _ _ => rfl))) (pe_ix ix_list (pv 10) pe_int (fun _ _ => rfl))) (nomark _)) (pss_one (ps_ret pe_bl)) pss_nil))))))
      (pss_one (ps_ret pe_bl)))))), ?_⟩
    obtain ⟨u, st, r, pre, post, ro, p, a, o, b⟩ := br_of WDa WAa hw
    have eio : atI ([.ref a0, .ref a1] : List V) ((1 : Int) - (w' : Nat)) = some (.ref o) := by
      rw [show ((1 : Int) - (w' : Nat)) = ((1 - w' : Nat) : Int) by omega]
      exact atI_nat b.io
    refine ⟨_, rfl, _, rfl, pl, _, _, .ref p, rfl, rfl, SqL.of WDa.parts, atI_nat b.ip, _, rfl, _, rfl, sl, _, _, .int ((st : Nat) : Int), rfl, rfl, SqL.of WDa.starts, atI_nat b.is, _, rfl, _, rfl, _, _, rfl, rfl, bl, _, _, .ref o, rfl, rfl, SqL.of WAa.both, eio, (by show 3 ≤ sizeLine; decide), fun U nU => ?_⟩
    refine ⟨U, _, rfl, SqT.of upd_same, rfl, _, _, rfl, _, _, rfl, _, _, rfl, rfl, ?_⟩
    have s1 := upd_same_of (o := .tup [.ref p, .int ((st : Nat) : Int), .ref o]) nU
    generalize upd H U (.tup [.ref p, .int ((st : Nat) : Int), .ref o]) = H1 at *
    have lr := b.ar.ok.len
    have u5 := b.u5
    have l0 := WAa.two.a0.len
    have l1 := WAa.two.a1.len
    have z0 := WDa.z0
    have z1 := WDa.z1
    have tl : (Mv.tog u0 u1).length ≤ 13 := WDa.tT.sz
    have rne : (r0 ++ r1) ≠ [] := fun z => by have : r0.length + r1.length = 0 := (List.length_append ..).symm.trans (congrArg List.length z); omega
    have rrne : ∀ x : Mv.Rows, x.length = r.length → rV x ≠ [] := fun x hx => rV_ne fun z => by have h2 := congrArg List.length z; rw [hx, lr] at h2; cases h2
    have lro := b.rol
    refine ⟨_, rfl, _, rfl, bl, _, _, .ref a, rfl, rfl, SqL.of (s1 _ _ WAa.both), atI_nat b.ia, a, r, rfl, s1 _ _ b.ar.at_, by omega, fun H2 l2 s2 n2 e2 => ⟨l2, rfl, ⟨_, SqL.of e2⟩, ?_⟩⟩
    have s02 := s1.trans s2
    replace WDa := WDa.same s02
    replace WAa := WAa.same s02
    replace b := b.same s02
    refine for_it walk_list (fun i σ H' => BrS σ T pl ra bl sl p o w' st ∧ Same H2 H') ⟨⟨rfl, rfl, rfl, rfl, rfl, rfl, rfl, rfl, rfl, rfl⟩, Same.refl _⟩ (fun i σ H' hi ⟨_, s3⟩ => SqL.of (s3 _ _ e2)) (fun i x σ H' H3 hi ⟨S, s3⟩ y => ?_) (fun σ H' ⟨S, s3⟩ => ?_)
    · obtain ⟨rfl, ex⟩ := y
      unfold iV at hi ex
      rw [List.length_map] at hi
      rw [List.getElem?_map, List.getElem?_eq_getElem hi] at ex
      cases ex
      have hm : some (Mv.srt (Mv.heldL r))[i] ∈ r := Mv.mem_heldL.mp (Mv.mem_srt.mp (List.getElem_mem hi))
      generalize (Mv.srt (Mv.heldL r))[i] = nm at *
      have hmT := rws_mem b.spl hm
      have lv : Mv.leaveR (Mv.tog u0 u1) (Mv.rws hd r0 r1) nm = ((Mv.leaveR u r nm).1.map (Mv.sh3 st), pre ++ (Mv.leaveR u r nm).2 ++ post) := by rw [b.spl]; exact b.emb.leave b.pl lr (b.notin nm hm) hm
      have ll : (Mv.leaveR u r nm).2.length = r.length := Mv.leave_len u r nm
      have s03 := s3
      obtain ⟨Sl_, h0, h1, h2, h3, h4, h5, h6, h7, h8⟩ := S
      match σ, Sl_, h0, h1, h2, h3, h4, h5, h6, h7, h8 with
      | [v0, v1, v2, v3, v4, v5, v6, v7, v8, v9, v10, v11, v12, v13, v14, v15, v16, v17, v18], _, h0, h1, h2, h3, h4, h5, h6, h7, h8 =>
        cases h0; cases h1; cases h2; cases h3; cases h4; cases h5; cases h6; cases h7; cases h8
        -- the rows behind
        refine ⟨_, rfl, _, rfl, _, rfl, bl, _, _, .ref a, rfl, rfl, SqL.of (s03 _ _ WAa.both), atI_nat b.ia, _, rfl, p, u, a, r, nm, rfl, b.cp.same s03, b.ar.same s03, hm, fun H4 z s4 n4 e4 => ?_⟩
        have s04 := s03.trans s4
        refine ⟨_, rfl, (by show 2 ≤ sizeLine; decide), fun cl ncl => ⟨_, rfl, _, _, rfl, rfl, .inl ⟨by decide, by decide⟩, _, _, rfl, rfl, _, rfl, cl, _, decide (w' = 0), rfl, SqL.of upd_same, congrArg some (stepV w' hw), fun ch nch => ?_⟩⟩
        rw [stepLA w' hw]
        have s5 := upd_same_of (o := .lst [.ref z, .ref o]) ncl
        have s6 := s04.trans (s5.trans (upd_same_of (o := .lst [V.ref (if w' = 0 then z else o), V.ref (if w' = 0 then o else z)]) nch))
        have ez : upd (upd H4 cl (.lst [.ref z, .ref o])) ch (.lst [V.ref (if w' = 0 then z else o), V.ref (if w' = 0 then o else z)]) z = some (.tup (rV (Mv.leaveR u r nm).2)) := (s5.trans (upd_same_of nch)) _ _ e4
        have ec : upd (upd H4 cl (.lst [.ref z, .ref o])) ch (.lst [V.ref (if w' = 0 then z else o), V.ref (if w' = 0 then o else z)]) ch = some (.lst [V.ref (if w' = 0 then z else o), V.ref (if w' = 0 then o else z)]) := upd_same
        generalize upd (upd H4 cl (.lst [.ref z, .ref o])) ch (.lst [V.ref (if w' = 0 then z else o), V.ref (if w' = 0 then o else z)]) = H5 at *
        have A5 := WAa.same s6
        refine ⟨_, rfl, _, rfl, _, rfl, T, Mv.tog u0 u1, ra, Mv.rws hd r0 r1, nm, rfl, WDa.tT.same s6, A5.big, hmT, fun H6 z6 s7 n6 e6 => ?_⟩
        have s07 := s6.trans s7
        refine cat3 (i := 2) (j := 10) rfl rfl (s07 _ _ WAa.rows) rne (s7 _ _ ec) (br_x (s7 _ _ ez) (s07 _ _ b.op)) (br_y (s7 _ _ ez) (s07 _ _ b.op)) ?_ ?_ ?_ ?_ fun H7 z7 s8 e7 => ?_
        · split
          · exact rrne _ ll
          · exact rV_ne b.ron
        · split
          · exact rV_ne b.ron
          · exact rrne _ ll
        · split <;> rw [rV_len] <;> omega
        · split <;> rw [rV_len] <;> omega
        have e6' : H7 z6 = some (.tup (rV (pre ++ (Mv.leaveR u r nm).2 ++ post))) := by rw [s8 _ _ e6, lv]
        have e7' : H7 z7 = some (.tup (rV (pre ++ (Mv.leaveR u r nm).2 ++ post))) := by rw [e7, ← b.res]; rfl
        refine neT_of (SqT.of e6') (SqT.of e7') (flat_r _).dp (flat_r _).dp (flat_r _).shp ⟨false, rfl, ?_⟩
        have s08 := s07.trans s8
        -- the moves
        refine ⟨_, rfl, _, rfl, _, rfl, bl, _, _, .ref a, rfl, rfl, SqL.of (s08 _ _ WAa.both), atI_nat b.ia, _, rfl, (Mv.leaveR u r nm).1.map trV, ⟨p, u, a, r, nm, rfl, b.cp.same s08, b.ar.same s08, hm, rfl⟩, fun L nL => ?_⟩
        have ml := run_moves u (u.length + 1) (r.set (Mv.idx r nm) none) (Mv.idx r nm)
        have ml : (Mv.leaveR u r nm).1.length ≤ u.length + 1 := ml
        refine ⟨fun j H' => (∀ b o, b ≠ L → H7 b = some o → H' b = some o) ∧ ∃ l : List (Addr × Int × Nat × Nat), H' L = some (.lst (l.map fun q => V.ref q.1)) ∧ Tri H' l ∧ l.map (·.2) = ((Mv.leaveR u r nm).1.take j).map (Mv.sh3 st) ∧ ∀ q ∈ l, q.1 ≠ L,
          ⟨fun b o hb e => by rw [upd_ne hb]; exact e, [], upd_same, fun _ z => (nomatch z), rfl, fun _ z => nomatch z⟩, fun j x H' Hr Tt hx ⟨k, l, g1, g2, g3, g4⟩ Rr hT0 hT1 => ?_, fun H' Hr ⟨k, l, g1, g2, g3, g4⟩ Rr => ?_⟩
        · rw [List.getElem?_map] at hx
          have hj : j < (Mv.leaveR u r nm).1.length := by
            cases Nat.lt_or_ge j (Mv.leaveR u r nm).1.length with
            | inl z => exact z
            | inr z => rw [List.getElem?_eq_none z] at hx; cases hx
          rw [List.getElem?_eq_getElem hj] at hx
          cases hx
          have lL : l.length = j := by
            have := congrArg List.length g3
            rw [List.length_map, List.length_map, List.length_take] at this
            omega
          have tk : ((Mv.leaveR u r nm).1.take (j + 1)).map (Mv.sh3 st) = ((Mv.leaveR u r nm).1.take j).map (Mv.sh3 st) ++ [Mv.sh3 st (Mv.leaveR u r nm).1[j]] := by rw [List.take_succ, List.getElem?_eq_getElem hj, List.map_append]; rfl
          generalize (Mv.leaveR u r nm).1[j] = m at *
          have gL := Rr.2.1 _ g1
          refine ⟨Tt, _, rfl, SqT.of hT1, rfl, _, _, rfl, _, _, rfl, _, _, rfl, rfl, rfl, ?_⟩
          refine ⟨_, rfl, _, rfl, _, rfl, _, _, rfl, rfl, _, rfl, _, rfl, _, _, rfl, rfl, (by show 3 ≤ sizeLine; decide), fun U2 nU2 => ?_⟩
          have eL : upd Hr U2 (.tup [.int m.1, .int ((m.2.1 : Int) + (st : Int)), .int ((m.2.2 : Int) + (st : Int))]) L = some (.lst (l.map fun q => V.ref q.1)) := by rw [upd_ne (ne_of_none gL nU2)]; exact gL
          have nUL : U2 ≠ L := fun z => by rw [z, gL] at nU2; cases nU2
          refine ⟨_, eL, by rw [List.length_map]; exact small1000 (by omega), ⟨fun b o hb e => ?_, l ++ [(U2, Mv.sh3 st m)], by rw [upd_same, List.map_append]; rfl, fun qq hq => ?_, by rw [List.map_append, g3, tk]; rfl, fun qq hq => ?_⟩, fun b o hb e => by rw [upd_ne (ne_of_none e nU2)]; exact e, _, eL⟩
          · have := Rr.1 b o e (k b o hb e)
            rw [upd_ne hb, upd_ne (ne_of_none this nU2)]; exact this
          · rcases List.mem_append.mp hq with z | z
            · have := Rr.2.2 qq.1 (.tup (trV qq.2)) (fun xs z => nomatch z) (g2 qq z)
              rw [upd_ne (g4 qq z), upd_ne (ne_of_none this nU2)]; exact this
            · rw [List.mem_singleton.mp z, upd_ne nUL, upd_same, tri_sh]
          · rcases List.mem_append.mp hq with z | z
            · exact g4 qq z
            · rw [List.mem_singleton.mp z]; exact nUL
        · rw [List.length_map, List.take_length] at g3
          have kr : Same H7 Hr := fun b o e => Rr.1 b o e (k b o (ne_of_none e nL) e)
          have gL := Rr.2.1 _ g1
          have gT : Tri Hr l := fun qq hq => Rr.2.2 qq.1 (.tup (trV qq.2)) (fun xs z => nomatch z) (g2 qq hq)
          have s09 := s08.trans kr
          have A9 := WAa.same s09
          refine ⟨_, rfl, _, rfl, _, rfl, T, Mv.tog u0 u1, ra, Mv.rws hd r0 r1, nm, rfl, WDa.tT.same s09, A9.big, hmT, fun H8 l8 s10 t8 e8 d nd => ?_⟩
          rw [lv] at e8
          have s11 := s10.trans (upd_same_of (o := .lst (l8.map fun q => V.ref q.1)) nd)
          have ed : upd H8 d (.lst (l8.map fun q => V.ref q.1)) d = some (.lst (l8.map fun q => V.ref q.1)) := upd_same
          have t8' : Tri (upd H8 d (.lst (l8.map fun q => V.ref q.1))) l8 := fun qq hq => (upd_same_of nd) _ _ (t8 qq hq)
          generalize upd H8 d (.lst (l8.map fun q => V.ref q.1)) = H9 at *
          have gT9 : Tri H9 l := fun qq hq => s11 _ _ (gT qq hq)
          have ds : (l8.map fun q => triD q.2) = l.map fun q => triD q.2 := tri_data (e8.trans g3.symm)
          have dp9 := dp_tri (K := K) gT9
          rw [← ds] at dp9
          refine ⟨_, rfl, neL_of (SqL.of ed) (SqL.of (s11 _ _ gL)) (dp_tri t8') dp9 ⟨(shp_tri l8).1, by have := (shp_tri l8).2; omega⟩ ⟨false, rfl, ?_⟩⟩
          have s12 := s09.trans s11
          -- the post
          refine ⟨_, rfl, _, rfl, _, rfl, T, Mv.tog u0 u1, ra, Mv.rws hd r0 r1, nm, rfl, WDa.tT.same s12, (WAa.same s12).big, hmT, fun H10 s13 => ?_⟩
          have s013 := s12.trans s13
          refine ⟨_, rfl, _, rfl, _, rfl, bl, _, _, .ref a, rfl, rfl, SqL.of (s013 _ _ WAa.both), atI_nat b.ia, _, rfl, p, u, a, r, nm, rfl, b.cp.same s013, b.ar.same s013, hm, fun H11 s14 => ?_⟩
          refine ⟨_, rfl, _, _, rfl, rfl, rfl, _, rfl, ?_⟩
          have ei : Mv.idx (Mv.rws hd r0 r1) nm = st + Mv.idx r nm := by rw [b.spl, Mv.idx_mid (b.notin nm hm) hm, b.pl]
          rw [int_eq, ei, decide_eq_true (by omega : ((st + Mv.idx r nm : Nat) : Int) = (Mv.idx r nm : Nat) + ((st : Nat) : Int))]
          refine ⟨⟨rfl, rfl, rfl, rfl, rfl, rfl, rfl, rfl, rfl, rfl⟩, ?_⟩
          exact s013.trans s14
    · have hlh : (Mv.srt (Mv.heldL (Mv.rws hd r0 r1))).length ≤ 20 := by
        rw [Mv.srt_len]
        unfold Mv.heldL
        refine Nat.le_trans (List.length_filterMap_le _ _) ?_
        unfold Mv.rws
        rw [List.length_cons, List.length_append]
        omega
      have hmem : ∀ x, x ∈ Mv.srt (Mv.heldL (Mv.rws hd r0 r1)) ↔ some x ∈ Mv.rws hd r0 r1 := fun x => Mv.mem_srt.trans Mv.mem_heldL
      have hhd : hd ∈ Mv.srt (Mv.heldL (Mv.rws hd r0 r1)) := (hmem hd).mpr (by unfold Mv.rws; exact List.mem_cons_self)
      have hbd := WAa.hb
      have hpos := WAa.two.pos
      obtain ⟨Sl_, h0, h1, h2, h3, h4, h5, h6, h7, h8⟩ := S
      match σ, Sl_, h0, h1, h2, h3, h4, h5, h6, h7, h8 with
      | [v0, v1, v2, v3, v4, v5, v6, v7, v8, v9, v10, v11, v12, v13, v14, v15, v16, v17, v18], _, h0, h1, h2, h3, h4, h5, h6, h7, h8 =>
        cases h0; cases h1; cases h2; cases h3; cases h4; cases h5; cases h6; cases h7; cases h8
        refine ⟨_, rfl, ra, Mv.rws hd r0 r1, rfl, s3 _ _ WAa.rows, (by unfold Mv.rws; rw [List.length_cons, List.length_append]; omega), fun H4 hl s4 n4 e4 => ?_⟩
        have s04 := s3.trans s4
        generalize Mv.srt (Mv.heldL (Mv.rws hd r0 r1)) = held at *
        refine ⟨_, rfl, ra, _, _, .int hd, rfl, rfl, SqT.of (s04 _ _ WAa.rows), atI_nat (j := 0) rfl, _, _, rfl, rfl, _, rfl, ra, _, _, .int hd, rfl, rfl, SqT.of (s04 _ _ WAa.rows), atI_nat (j := 0) rfl, _, rfl, hl, _, rfl, .inl (SqL.of e4), _, _, rfl, rfl, _, _, rfl, rfl, _, _, rfl, ?_⟩
        have il : (iV held).length = held.length := by unfold iV; rw [List.length_map]
        rw [il]
        refine ⟨⟨by omega, by omega, by omega, by omega⟩, fun D hD => ?_⟩
        have en : (hd + ((held.length : Nat) : Int) + 2 - (hd + 1)).toNat = held.length + 1 := by omega
        rw [en]
        refine lc_it walk_range (fun i H' => Same H4 H' ∧ H' D = some (.lst (iV (((List.range i).map fun (k : Nat) => hd + 1 + (k : Int)).filter fun x => decide (x ∉ held))))) ⟨upd_same_of hD, upd_same⟩ (fun _ _ _ _ => trivial) (fun i x H' H6 hi ⟨s5, e5⟩ y => ?_) (fun H5 ⟨s5, e5⟩ => ?_)
        · obtain ⟨rfl, rfl⟩ := y
          have tk : ((List.range (i + 1)).map fun (k : Nat) => hd + 1 + (k : Int)).filter (fun x => decide (x ∉ held)) = ((List.range i).map fun (k : Nat) => hd + 1 + (k : Int)).filter (fun x => decide (x ∉ held)) ++ (if hd + 1 + (i : Int) ∈ held then [] else [hd + 1 + (i : Int)]) := by
            rw [List.range_succ, List.map_append, List.filter_append]
            congr 1
            show List.filter _ [hd + 1 + (i : Int)] = _
            by_cases hb : hd + 1 + (i : Int) ∈ held
            · rw [if_pos hb, List.filter_cons, if_neg (by simpa using hb)]; rfl
            · rw [if_neg hb, List.filter_cons, if_pos (by simpa using hb)]; rfl
          refine ⟨rfl, _, rfl, _, rfl, hl, _, rfl, .inl (SqL.of (s5 _ _ e4)), rfl, all_flatI held, _, rfl, ?_⟩
          rw [in_iV, tk]
          by_cases hb : hd + 1 + (i : Int) ∈ held
          · rw [decide_eq_true hb, if_pos hb, List.append_nil]
            exact ⟨s5, e5⟩
          · rw [decide_eq_false hb, if_neg hb]
            refine ⟨_, rfl, _, e5, ?_, fun b' o' e => by rw [upd_ne (ne_of_none e hD)]; exact s5 _ _ e, by rw [upd_same]; unfold iV; rw [List.map_append]; rfl⟩
            unfold iV
            rw [List.length_map]
            refine small1000 (Nat.le_trans (List.length_filter_le _ _) ?_)
            rw [List.length_map, List.length_range]
            omega
        · have hbt : ∃ b0 bs, ((List.range (held.length + 1)).map fun (k : Nat) => hd + 1 + (k : Int)).filter (fun x => decide (x ∉ held)) = b0 :: bs ∧ hd < b0 ∧ b0 ∉ held := by
            obtain ⟨x, hx1, hx2, hx3⟩ := Mv.gap hd held hhd
            have xm : x ∈ ((List.range (held.length + 1)).map fun (k : Nat) => hd + 1 + (k : Int)).filter (fun x => decide (x ∉ held)) := by
              refine List.mem_filter.mpr ⟨List.mem_map.mpr ⟨(x - hd - 1).toNat, List.mem_range.mpr (by omega), by omega⟩, by simpa using hx3⟩
            cases e : ((List.range (held.length + 1)).map fun (k : Nat) => hd + 1 + (k : Int)).filter (fun x => decide (x ∉ held)) with
            | nil => rw [e] at xm; cases xm
            | cons b0 bs =>
              have bm : b0 ∈ ((List.range (held.length + 1)).map fun (k : Nat) => hd + 1 + (k : Int)).filter (fun x => decide (x ∉ held)) := by rw [e]; exact List.mem_cons_self
              obtain ⟨q1', q2'⟩ := List.mem_filter.mp bm
              obtain ⟨k, _, rfl⟩ := List.mem_map.mp q1'
              exact ⟨_, bs, rfl, by omega, by simpa using q2'⟩
          obtain ⟨b0, bs, eb0, hb0, nb0⟩ := hbt
          rw [eb0] at e5
          have s05 := s04.trans s5
          refine ⟨_, rfl, hl, held, rfl, SqL.of (s5 _ _ e4), List.length_pos_of_mem hhd, fun m hm hmax => ?_⟩
          refine ⟨_, _, rfl, rfl, _, rfl, D, _, _, .int b0, rfl, rfl, SqL.of e5, atI_nat (j := 0) rfl, (by show 2 ≤ sizeLine; decide), fun nl nnl => ⟨nl, rfl, ⟨_, SqL.of upd_same⟩, ?_⟩⟩
          have s06 := s05.trans (upd_same_of (o := .lst [.int (m + 1), .int b0]) nnl)
          have enl : upd H5 nl (.lst [.int (m + 1), .int b0]) nl = some (.lst [.int (m + 1), .int b0]) := upd_same
          generalize upd H5 nl (.lst [.int (m + 1), .int b0]) = H6 at *
          refine for_it walk_list (fun i σ H' => BrS σ T pl ra bl sl p o w' st ∧ Same H6 H') ⟨⟨rfl, rfl, rfl, rfl, rfl, rfl, rfl, rfl, rfl, rfl⟩, Same.refl _⟩ (fun i σ H' hi ⟨_, s7⟩ => SqL.of (s7 _ _ enl)) (fun i x σ H' H7 hi ⟨S, s7⟩ y => ?_) (fun σ H' ⟨S, s7⟩ => q H' (s02.trans (s06.trans s7)))
          obtain ⟨rfl, ex⟩ := y
          have pick : ∃ nc, x = .int nc ∧ hd < nc ∧ nc ∉ held := by
            have hi2 : i < 2 := hi
            match i, hi2 with
            | 0, _ =>
              cases ex
              exact ⟨m + 1, rfl, by have := hmax hd hhd; omega, fun z => by have := hmax _ z; omega⟩
            | 1, _ =>
              cases ex
              exact ⟨b0, rfl, hb0, nb0⟩
          obtain ⟨nc, rfl, hnc, nnc⟩ := pick
          have nncT : some nc ∉ Mv.rws hd r0 r1 := fun z => nnc ((hmem nc).mpr z)
          have nncr : some nc ∉ r := fun z => nncT (rws_mem b.spl z)
          have s07 := s06.trans s7
          obtain ⟨Sl2, h0, h1, h2, h3, h4, h5, h6, h7, h8⟩ := S
          match σ, Sl2, h0, h1, h2, h3, h4, h5, h6, h7, h8 with
          | [v0, v1, v2, v3, v4, v5, v6, v7, v8, v9, v10, v11, v12, v13, v14, v15, v16, v17, v18], _, h0, h1, h2, h3, h4, h5, h6, h7, h8 =>
            cases h0; cases h1; cases h2; cases h3; cases h4; cases h5; cases h6; cases h7; cases h8
            refine ⟨_, rfl, _, rfl, _, rfl, bl, _, _, .ref a, rfl, rfl, SqL.of (s07 _ _ WAa.both), atI_nat b.ia, p, u, a, r, rfl, b.cp.same s07, b.ar.same s07, fun H8 ol s8 n8 e8 => ⟨ol, rfl, ⟨_, SqL.of e8⟩, ?_⟩⟩
            have s08 := s07.trans s8
            refine for_it walk_list (fun j σ H' => BrS σ T pl ra bl sl p o w' st ∧ σ[14]? = some (some (.int nc)) ∧ Same H8 H') ⟨⟨rfl, rfl, rfl, rfl, rfl, rfl, rfl, rfl, rfl, rfl⟩, rfl, Same.refl _⟩ (fun j σ H' hj ⟨_, _, s9⟩ => SqL.of (s9 _ _ e8)) (fun j x σ H' H9 hj ⟨S, h14, s9⟩ y => ?_) (fun σ H' ⟨S, _, s9⟩ => ⟨S, (s7.trans s8).trans s9⟩)
            obtain ⟨rfl, ex⟩ := y
            unfold nV at hj ex
            rw [List.length_map] at hj
            rw [List.getElem?_map, List.getElem?_eq_getElem hj] at ex
            cases ex
            obtain ⟨km, ko⟩ := List.mem_filter.mp (List.getElem_mem hj : (Mv.opens u r)[j] ∈ Mv.opens u r)
            have km := List.mem_range.mp km
            generalize (Mv.opens u r)[j] = k at *
            have s09 := s08.trans s9
            obtain ⟨Sl3, h0, h1, h2, h3, h4, h5, h6, h7, h8⟩ := S
            match σ, Sl3, h0, h1, h2, h3, h4, h5, h6, h7, h8, h14 with
            | [v0, v1, v2, v3, v4, v5, v6, v7, v8, v9, v10, v11, v12, v13, v14, v15, v16, v17, v18], _, h0, h1, h2, h3, h4, h5, h6, h7, h8, h14 =>
              cases h0; cases h1; cases h2; cases h3; cases h4; cases h5; cases h6; cases h7; cases h8; cases h14
              have jl : (Mv.joinR u r nc k).length = r.length := Mv.lay_len _ _ _
              have jT : Mv.joinR (Mv.tog u0 u1) (Mv.rws hd r0 r1) nc (st + k) = pre ++ Mv.joinR u r nc k ++ post := by
                rw [b.spl]
                refine b.emb.join b.pl lr (by omega) b.p0h (by omega) fun y hy => ?_
                unfold Mv.over at hy
                obtain ⟨qq, hq, rfl⟩ := List.mem_map.mp hy
                obtain ⟨y', ey⟩ := open_over b.cp.v b.ar.ok (by omega) ko qq hq
                rw [ey]
                exact Int.le_of_lt (b.hlt y' (Mv.getD_mem ey))
              have oT : Mv.isOpen (Mv.tog u0 u1) (Mv.rws hd r0 r1) (st + k) = true := by
                rw [b.spl, b.emb.isOpen b.pl lr (by rw [b.p0h]; simp) (by omega)]
                exact ko
              have hfit := b.emb.fit
              refine ⟨_, rfl, _, rfl, _, rfl, bl, _, _, .ref a, rfl, rfl, SqL.of (s09 _ _ WAa.both), atI_nat b.ia, _, rfl, _, rfl, p, u, a, r, nc, k, rfl, b.cp.same s09, b.ar.same s09, by omega, nncr, by omega, ko, fun H10 z s10 n10 e10 => ?_⟩
              have s010 := s09.trans s10
              refine ⟨_, rfl, (by show 2 ≤ sizeLine; decide), fun cl ncl => ⟨_, rfl, _, _, rfl, rfl, .inl ⟨by decide, by decide⟩, _, _, rfl, rfl, _, rfl, cl, _, decide (w' = 0), rfl, SqL.of upd_same, congrArg some (stepV w' hw), fun ch nch => ?_⟩⟩
              rw [stepLA w' hw]
              have s11 := upd_same_of (o := .lst [.ref z, .ref o]) ncl
              have s12 := s11.trans (upd_same_of (o := .lst [V.ref (if w' = 0 then z else o), V.ref (if w' = 0 then o else z)]) nch)
              have ez : upd (upd H10 cl (.lst [.ref z, .ref o])) ch (.lst [V.ref (if w' = 0 then z else o), V.ref (if w' = 0 then o else z)]) z = some (.tup (rV (Mv.joinR u r nc k))) := s12 _ _ e10
              have ec : upd (upd H10 cl (.lst [.ref z, .ref o])) ch (.lst [V.ref (if w' = 0 then z else o), V.ref (if w' = 0 then o else z)]) ch = some (.lst [V.ref (if w' = 0 then z else o), V.ref (if w' = 0 then o else z)]) := upd_same
              generalize upd (upd H10 cl (.lst [.ref z, .ref o])) ch (.lst [V.ref (if w' = 0 then z else o), V.ref (if w' = 0 then o else z)]) = H11 at *
              have s011 := s010.trans s12
              refine ⟨_, rfl, _, rfl, _, rfl, _, rfl, _, rfl, _, _, rfl, rfl, T, Mv.tog u0 u1, ra, Mv.rws hd r0 r1, nc, st + k, four_nat T ra nc k st, WDa.tT.same s011, (WAa.same s011).big, by omega, nncT, by omega, oT, fun H12 z6 s13 n13 e13 => ?_⟩
              have s012 := s011.trans s13
              refine cat3 (i := 2) (j := 10) rfl rfl (s012 _ _ WAa.rows) rne (s13 _ _ ec) (br_x (s13 _ _ ez) (s012 _ _ b.op)) (br_y (s13 _ _ ez) (s012 _ _ b.op)) ?_ ?_ ?_ ?_ fun H13 z7 s14 e14 => ?_
              · split
                · exact rrne _ jl
                · exact rV_ne b.ron
              · split
                · exact rV_ne b.ron
                · exact rrne _ jl
              · split <;> rw [rV_len] <;> omega
              · split <;> rw [rV_len] <;> omega
              have e13' : H13 z6 = some (.tup (rV (pre ++ Mv.joinR u r nc k ++ post))) := by rw [s14 _ _ e13, jT]
              have e14' : H13 z7 = some (.tup (rV (pre ++ Mv.joinR u r nc k ++ post))) := by rw [e14, ← b.res]; rfl
              refine neT_of (SqT.of e13') (SqT.of e14') (flat_r _).dp (flat_r _).dp (flat_r _).shp ⟨false, rfl, ?_⟩
              exact ⟨⟨rfl, rfl, rfl, rfl, rfl, rfl, rfl, rfl, rfl, rfl⟩, rfl, (((s9.trans s10).trans s12).trans s13).trans s14⟩
end
end Pm


/-! Promises: the head leaves. -/
namespace Pm
open PySem PySem.Spec PyProof.Rows L2 Ru GenW
abbrev sHeadRight : Stmt := top 55
def nHead : List Str := ["_law_tree", "_law_parts", "_law_rows", "_law_both", "_law_starts", "_law_heads", "_law_after", "_law_name", "_law_which", "_law_changed", "_law_start", "_law_moves", "_law_mover", "_law_old", "_law_new", "_law_held_here"]
def spHead : Sp := fun vs H Q _ => ∃ T pl sl p0 p1 ra bl a0 a1 u0 u1 h r0 r1, vs = [.ref T, .ref pl, .ref ra, .ref bl, .ref sl] ∧ WD H T pl sl p0 p1 u0 u1 ∧ WA H ra bl a0 a1 u0 u1 h r0 r1 ∧ ∀ H', Same H H' → Q (.bl true) H'
def hdN (r0 r1 : Mv.Rows) : Nat → List (Int × Nat)
  | 0 => []
  | 1 => ((r0.getD 0 none).map fun x => (x, 0)).toList
  | _ => Mv.heads r0 r1
/-- the moves, laid at L -/
def MvL (L : Addr) (H0 H' : Hp) (ms : List (Int × Nat × Nat)) : Prop := (∀ b o, b ≠ L → H0 b = some o → H' b = some o) ∧ ∃ l : List (Addr × Int × Nat × Nat), H' L = some (.lst (l.map fun q => V.ref q.1)) ∧ Tri H' l ∧ l.map (·.2) = ms ∧ ∀ q ∈ l, q.1 ≠ L
theorem MvL.push {K : PySem.W.Frag} {L : Addr} {H0 H1 H' Hr : Hp} {ms : List (Int × Nat × Nat)} {st : Nat} {m : Int × Nat × Nat} (M : MvL L H0 H' ms) (hs : ∀ b o, H0 b = some o → b ≠ L → H1 b = some o) (Rr : Rl L H1 H' Hr) {U2 : Addr} (nU2 : Hr U2 = none) (hz : ms.length ≤ 900) :
    ∃ xs, upd Hr U2 (.tup [.int m.1, .int ((m.2.1 : Int) + (st : Int)), .int ((m.2.2 : Int) + (st : Int))]) L = some (.lst xs) ∧ xs.length < sizeLine ∧
      MvL L H0 (upd (upd Hr U2 (.tup [.int m.1, .int ((m.2.1 : Int) + (st : Int)), .int ((m.2.2 : Int) + (st : Int))])) L (.lst (xs ++ [.ref U2]))) (ms ++ [Mv.sh3 st m]) ∧
      Sl L Hr (upd (upd Hr U2 (.tup [.int m.1, .int ((m.2.1 : Int) + (st : Int)), .int ((m.2.2 : Int) + (st : Int))])) L (.lst (xs ++ [.ref U2]))) := by
  obtain ⟨k, l, g1, g2, g3, g4⟩ := M
  have lL : l.length = ms.length := by rw [← g3, List.length_map]
  have gL := Rr.2.1 _ g1
  have eL : upd Hr U2 (.tup [.int m.1, .int ((m.2.1 : Int) + (st : Int)), .int ((m.2.2 : Int) + (st : Int))]) L = some (.lst (l.map fun q => V.ref q.1)) := by rw [upd_ne (ne_of_none gL nU2)]; exact gL
  have nUL : U2 ≠ L := fun z => by rw [z, gL] at nU2; cases nU2
  refine ⟨_, eL, by rw [List.length_map]; exact small1000 (by omega), ⟨fun b o hb e => ?_, l ++ [(U2, Mv.sh3 st m)], by rw [upd_same, List.map_append]; rfl, fun qq hq => ?_, by rw [List.map_append, g3]; rfl, fun qq hq => ?_⟩, fun b o hb e => by rw [upd_ne hb, upd_ne (ne_of_none e nU2)]; exact e, _, upd_same⟩
  · have := Rr.1 b o (hs b o e hb) (k b o hb e)
    rw [upd_ne hb, upd_ne (ne_of_none this nU2)]; exact this
  · rcases List.mem_append.mp hq with z | z
    · have := Rr.2.2 qq.1 (.tup (trV qq.2)) (fun xs z => nomatch z) (g2 qq z)
      rw [upd_ne (g4 qq z), upd_ne (ne_of_none this nU2)]; exact this
    · rw [List.mem_singleton.mp z, upd_ne nUL, upd_same, tri_sh]
  · rcases List.mem_append.mp hq with z | z
    · exact g4 qq z
    · rw [List.mem_singleton.mp z]; exact nUL
section
variable {P : Program} {w : World} {K : PySem.W.Frag} {mg : Str → Option Value} {base : Heap} {C : Addr}
theorem scHead : FnScope nHead ["_law_tree", "_law_parts", "_law_rows", "_law_both", "_law_starts"] (defScope sHeadRight) := ⟨rfl, rfl, rfl, by decide +kernel, rfl, by decide +kernel, by decide +kernel⟩
theorem c_head (G : Gn K mg "_law_head_right" sHeadRight ["_law_tree", "_law_parts", "_law_rows", "_law_both", "_law_starts"]) (B : Bt mg) (Z : Tr P w K mg base C) (cLv : CalR P w K mg base 5 "leave" spLeave)
    (Gc : Gn K mg "chain" sChain ["chart", "arrangement", "person"]) (q1 : Cal P w K mg base 3 "require_chart" spChart) (q2 : Cal P w K mg base 4 "require_arrangement" spArr) (q3 : Cal P w K mg base 3 "require_holder" spReqHolder) (q4 : Cal P w K mg base 1 "move_up" (spMoveUp C)) : Cal P w K mg base 10 "_law_head_right" spHead := by
  obtain ⟨fc, fdc, Fc, hmc, bc⟩ := Gc.ex
  have GF := g_chain Fc B Z q1 q2 q3 q4
  obtain ⟨occ, odc, kVc, docc, pmc, anc, cdvc, ctc, oslc, rfl, lkc, hcdc⟩ := Fc.ex
  refine G.cal scHead (fun vs H Q E h => ?_) (fun f cdv A outer s H vs Q E hr h => ?_)
  · obtain ⟨T, pl, sl, p0, p1, ra, bl, a0, a1, u0, u1, h, r0, r1, rfl, _⟩ := h; rfl
  · obtain ⟨T, pl, sl, p0, p1, ra, bl, a0, a1, u0, u1, hd, r0, r1, rfl, WDa, WAa, q⟩ := h
    have nd := scHead.nd
    refine ⟨_, pss_cons (ps_setLc (i := 5) (g := gTup K 2 (gCons (gName 8) (gCons (gName 15) gNil))) rfl nd rfl rfl (sw_true rfl rfl rfl (by kernel_rfl)) (pi_enum (by rfl) B.enumerate (pa_cons (pv 3) pa_nil)) (blk_by (own := [("_law_which", 8), ("_law_held_here", 15)]) (by kernel_rfl))
          (fun _ _ _ _ _ => pg_tup rfl (pgs_cons (pg_name (i := 8) nd rfl (.inl rfl)) (pgs_cons (pg_name (i := 15) nd rfl (.inl rfl)) pgs_nil))) (fun _ _ _ _ _ => pts_one (pt_cmpR op_notN (pe_ix (r := rIxT K) ix_tup (pv 15) pe_int (fun _ _ => rfl)) pe_non (nomark _))) (fun _ _ _ _ _ => pe_tup (pa_cons (pe_ix (r := rIxT K) ix_tup (pv 15) pe_int (fun _ _ => rfl)) (pa_cons (pv 8) pa_nil))))
      (pss_cons (ps_set (i := 6) nd rfl (.inl rfl) (pe_cr cLv hr (pa_cons (pv 0) (pa_cons (pv 2) (pa_cons (pe_ix ix_tup (pv 2) pe_int (fun _ _ => rfl)) pa_nil)))))
      (pss_cons (ps_if (pt_cmpR (op_eqD hr.units) (pv 5) (pe_lst pa_nil) (nomark _)) (pss_one (ps_ret (pe_cmpR (op_eqD hr.units) (pv 6) (pe_op op_repT (pe_tup (pa_cons pe_non pa_nil)) (pe_callB call_len_seq (by rfl) B.len PySem.boot_len (pa_cons (pv 0) pa_nil))) (nomark _)))) pss_nil)
      (pss_cons (ps_asg (pe_callB (cr_minP rfl hr.units) (by rfl) B.min PyProof.Rows.boot_min (pa_cons (pv 5) pa_nil)) (pg_tup rfl (pgs_cons (pg_name (i := 7) nd rfl (.inl rfl)) (pgs_cons (pg_name (i := 8) nd rfl (.inl rfl)) pgs_nil))))
      (pss_cons (ps_set (i := 9) nd rfl (.inl rfl) (pe_step (pe_lst (pa_cons (pe_cr cLv hr (pa_cons (pe_ix ix_list (pv 1) (pv 8) (fun _ _ => rfl)) (pa_cons (pe_ix ix_list (pv 3) (pv 8) (fun _ _ => rfl)) (pa_cons (pv 7) pa_nil)))) (pa_cons (pe_ix ix_list (pv 3) (pe_op op_sub pe_int (pv 8)) (fun _ _ => rfl)) pa_nil))) (pe_op op_sub pe_int (pe_op op_mul pe_int (pv 8)))))
      (pss_cons (ps_if (pt_cmpR (op_neD hr.units) (pv 6) (pe_op op_catA (pe_op op_catA (pe_tup (pa_cons (pv 7) pa_nil)) (pe_ix ix_list (pv 9) pe_int (fun _ _ => rfl))) (pe_ix ix_list (pv 9) pe_int (fun _ _ => rfl))) (nomark _)) (pss_one (ps_ret pe_bl)) pss_nil)
      (pss_cons (ps_set (i := 10) nd rfl (.inl rfl) (pe_ix ix_list (pv 4) (pv 8) (fun _ _ => rfl)))
      (pss_cons (ps_set (i := 11) nd rfl (.inl rfl) (pe_lst (pa_cons (pe_tup (pa_cons (pv 7) (pa_cons (pv 10) (pa_cons pe_int pa_nil)))) pa_nil)))
      (pss_cons (ps_forG (k := 9) (sp := spChainI) (gt := gTup K 3 (gCons (gName 12) (gCons (gName 13) (gCons (gName 14) gNil)))) PassesOwn.never rfl hr
          (pbn_call (N := nChain) lkc hcdc scChain chain_nc hr (by rfl) hmc Fc.kp bc (fun σ H R ⟨v1, e1, v2, e2, p, xs, i, v, x1, x2, x3, x4, v3, e3, v4, e4, p', xs', i', v', y1, y2, y3, y4, v5, e5, z⟩ => ⟨v1, e1, v2, e2, p, xs, i, v, x1, x2, x3, x4, v3, e3, v4, e4, p', xs', i', v', y1, y2, y3, y4, v5, e5, rfl, z⟩)
            (pa_cons (pe_ix ix_list (pv 1) (pv 8) (fun _ _ => rfl)) (pa_cons (pe_ix ix_list (pv 3) (pv 8) (fun _ _ => rfl)) (pa_cons (pv 7) pa_nil))))
          (pgg_tup rfl (pgsg_cons (pgg_name (i := 12) nd rfl rfl) (pgsg_cons (pgg_name (i := 13) nd rfl rfl) (pgsg_cons (pgg_name (i := 14) nd rfl rfl) pgsg_nil))))
          (psg_expr (peg_append (peg_var (i := 11) rfl (.inl rfl)) (peg_tup (pag_cons (peg_var (i := 12) rfl (.inl rfl)) (pag_cons (peg_add (peg_var (i := 13) rfl (.inl rfl)) (peg_var (i := 10) rfl (.inl rfl))) (pag_cons (peg_add (peg_var (i := 14) rfl (.inl rfl)) (peg_var (i := 10) rfl (.inl rfl))) pag_nil))))))
          (chain_gpr (hr.mono (by decide)) B Z q1 q2 q3 q4))
      (pss_one (ps_ret (pe_cmpR (op_eqD hr.units) (pe_listG (pgen_call GF (hr.mono (by decide)) (by rfl) hmc Fc.kp bc .nil (pa_cons (pv 0) (pa_cons (pv 2) (pa_cons (pe_ix ix_tup (pv 2) pe_int (fun _ _ => rfl)) pa_nil)))) passE nostopE (hr.mono (by decide)) (by rfl) B.list PyProof.Rows.boot_list) (pv 11) (nomark _)))))))))))), ?_⟩
    have l0 := WAa.two.a0.len
    have l1 := WAa.two.a1.len
    have z0 := WDa.z0
    have z1 := WDa.z1
    have tl : (Mv.tog u0 u1).length ≤ 13 := WDa.tT.sz
    have hdm : some hd ∈ Mv.rws hd r0 r1 := by unfold Mv.rws; exact List.mem_cons_self
    refine ⟨_, rfl, bl, _, rfl, SqL.of WAa.both, fun D hD => ?_⟩
    refine lc_it walk_enum (fun i H' => Same H H' ∧ ∃ ps : List (Addr × Int × Nat), H' D = some (.lst (ps.map fun p => V.ref p.1)) ∧ PairsAt H' ps ∧ ps.map (·.2) = hdN r0 r1 i ∧ ps.length ≤ i ∧ ∀ q ∈ ps, q.1 ≠ D) ⟨upd_same_of hD, [], upd_same, fun _ z => (nomatch z), rfl, Nat.le_refl _, fun _ z => (nomatch z)⟩
      (fun i H' hi ⟨s1, _⟩ => SqL.of (s1 _ _ WAa.both)) (fun i x H' H2 hi ⟨s1, ps, e1, e2, e3, e4, e5⟩ y => ?_) (fun H1 ⟨s1, ps, e1, e2, e3, e4, e5⟩ => ?_)
    · obtain ⟨U, xa, xb, rfl, nU, rfl, ea, eb⟩ := y
      cases ea
      have pick : ∃ a r, xb = .ref a ∧ H a = some (.tup (rV r)) ∧ 0 < r.length ∧ hdN r0 r1 (i + 1) = hdN r0 r1 i ++ ((r.getD 0 none).map fun x => (x, i)).toList := by
        have hi2 : i < 2 := hi
        match i, hi2 with
        | 0, _ => cases eb; exact ⟨a0, r0, rfl, WAa.a0_, by omega, rfl⟩
        | 1, _ => cases eb; exact ⟨a1, r1, rfl, WAa.a1_, by omega, rfl⟩
      obtain ⟨a, r, rfl, ga, hl, hN⟩ := pick
      have s2 := s1.trans (upd_same_of (o := .tup [.int (i : Nat), .ref a]) nU)
      have nUD : D ≠ U := ne_of_none e1 nU
      have k1 : upd H' U (.tup [.int (i : Nat), .ref a]) D = some (.lst (ps.map fun p => V.ref p.1)) := by rw [upd_ne nUD]; exact e1
      have k2 : PairsAt (upd H' U (.tup [.int (i : Nat), .ref a])) ps := fun q hq => by rw [upd_ne (ne_of_none (e2 q hq) nU)]; exact e2 q hq
      refine ⟨U, _, rfl, SqT.of upd_same, rfl, _, _, rfl, _, _, rfl, rfl, rfl, ?_⟩
      generalize upd H' U (.tup [.int (i : Nat), .ref a]) = H3 at *
      have gr := s2 _ _ ga
      refine ⟨_, rfl, a, _, _, oV (r.getD 0 none), rfl, rfl, SqT.of gr, atI_nat (j := 0) (rV_get hl), rfl, _, rfl, ?_⟩
      cases er : r.getD 0 none with
      | none =>
        refine ⟨s2, ps, k1, k2, ?_, by omega, e5⟩
        rw [hN, er, e3]
        simp
      | some x =>
        refine ⟨_, rfl, a, _, _, V.int x, rfl, rfl, SqT.of gr, atI_nat (j := 0) (by rw [rV_get hl, er]; rfl), _, rfl, (by show 2 ≤ sizeLine; decide), fun U2 nU2 => ?_⟩
        have nUD2 : D ≠ U2 := ne_of_none k1 nU2
        refine ⟨_, by rw [upd_ne nUD2]; exact k1, ?_, fun b o e => ?_, ps ++ [(U2, x, i)], ?_, fun q hq => ?_, ?_, ?_, fun q hq => ?_⟩
        · rw [List.length_map]
          have hi2 : i < 2 := hi
          exact small1000 (by omega)
        · rw [upd_ne (ne_of_none e hD), upd_ne (ne_of_none (s2 _ _ e) nU2)]; exact s2 _ _ e
        · rw [upd_same, List.map_append]; rfl
        · rcases List.mem_append.mp hq with z | z
          · rw [upd_ne (e5 q z), upd_ne (ne_of_none (k2 q z) nU2)]; exact k2 q z
          · rw [List.mem_singleton.mp z, upd_ne nUD2.symm, upd_same]
        · rw [hN, er, List.map_append, e3]
          rfl
        · rw [List.length_append]; show ps.length + 1 ≤ i + 1; omega
        · rcases List.mem_append.mp hq with z | z
          · exact e5 q z
          · rw [List.mem_singleton.mp z]; exact nUD2.symm
    · have hcand : ps.map (·.2) = Mv.heads r0 r1 := e3
      refine ⟨_, rfl, _, rfl, _, rfl, ra, _, _, .int hd, rfl, rfl, SqT.of (s1 _ _ WAa.rows), atI_nat (j := 0) rfl, T, Mv.tog u0 u1, ra, Mv.rws hd r0 r1, hd, rfl, WDa.tT.same s1, (WAa.same s1).big, hdm, fun H2 z s2 n2 ez => ?_⟩
      refine ⟨_, rfl, Nat.zero_le _, fun d nd => ?_⟩
      have s02 := (s1.trans s2).trans (upd_same_of (o := .lst []) nd)
      have p2 : PairsAt (upd H2 d (.lst [])) ps := fun q hq => by rw [upd_ne (ne_of_none (s2 _ _ (e2 q hq)) nd)]; exact s2 _ _ (e2 q hq)
      have e1' : upd H2 d (.lst []) D = some (.lst (ps.map fun p => V.ref p.1)) := by rw [upd_ne (ne_of_none (s2 _ _ e1) nd)]; exact s2 _ _ e1
      have ez' : upd H2 d (.lst []) z = some (.tup (rV (Mv.leaveR (Mv.tog u0 u1) (Mv.rws hd r0 r1) hd).2)) := by rw [upd_ne (ne_of_none ez nd)]; exact ez
      refine eqL_nil (SqL.of e1') (SqL.of upd_same) (dp_pairs p2) ⟨(shp_pairs ps).1, by have := (shp_pairs ps).2; omega⟩ ⟨_, rfl, ?_⟩
      generalize upd H2 d (.lst []) = H3 at *
      cases ps with
      | nil =>
        have hn := Mv.head_none WAa.two hcand.symm
        rw [hn] at ez'
        refine ⟨_, rfl, (by show 1 ≤ sizeLine; decide), fun p np => ⟨_, rfl, T, chV (Mv.tog u0 u1), rfl, .inr (SqT.of ?_), p, _, [.non], rfl, rfl, SqT.of upd_same, (fun z => nomatch z), ?_, ?_, (by decide), fun p2 np2 => ?_⟩⟩
        · have := (WDa.tT.same s02).at_
          rw [upd_ne (ne_of_none this np)]; exact this
        · rw [chV_len, Mv.tog_len]; omega
        · rw [chV_len]; omega
        · have s3 := s02.trans ((upd_same_of (o := .tup [.non]) np).trans (upd_same_of (o := .tup (List.replicate (((chV (Mv.tog u0 u1)).length : Nat) : Int).toNat [V.non]).flatten) np2))
          have ez3 := ((upd_same_of (o := .tup [.non]) np).trans (upd_same_of (o := .tup (List.replicate (((chV (Mv.tog u0 u1)).length : Nat) : Int).toNat [V.non]).flatten) np2)) _ _ ez'
          have er : (List.replicate (((chV (Mv.tog u0 u1)).length : Nat) : Int).toNat [V.non]).flatten = rV (List.replicate ((Mv.tog u0 u1).length + 1) none) := by
            rw [Int.toNat_natCast, chV_len]
            unfold rV
            rw [List.map_replicate]
            generalize (Mv.tog u0 u1).length + 1 = n
            induction n with
            | zero => rfl
            | succ n ih => rw [List.replicate_succ, List.flatten_cons, ih, List.replicate_succ]; rfl
          rw [er] at ez3 s3 ⊢
          exact eqT_of (SqT.of ez3) (SqT.of upd_same) (flat_r _).dp (flat_r _).dp (flat_r _).shp (q _ s3)
      | cons pr ps =>
        refine ⟨_, rfl, D, pr, ps, rfl, SqL.of e1', p2, fun qq hq hqe => ?_⟩
        obtain ⟨U, x, l⟩ := qq
        have hb : Mv.best (Mv.heads r0 r1) = some (x, l) := by rw [← hcand, List.map_cons]; exact congrArg some hqe.symm
        have hl : l < 2 := by
          rcases Mv.heads_mem (Mv.best_mem hb) with ⟨z, _⟩ | ⟨z, _⟩ <;> omega
        refine ⟨U, _, rfl, SqT.of (p2 _ hq), rfl, _, _, rfl, _, _, rfl, rfl, ?_⟩
        replace WDa := WDa.same s02
        replace WAa := WAa.same s02
        obtain ⟨u, st, r, pre, post, ro, p, a, o, b⟩ := br_of WDa WAa hl
        obtain ⟨hm, rr, elv, err⟩ := b.hlv x hb
        have lr := b.ar.ok.len
        have u5 := b.u5
        have lro := b.rol
        have ll : (Mv.leaveR u r x).2.length = r.length := Mv.leave_len u r x
        have eio : atI ([.ref a0, .ref a1] : List V) ((1 : Int) - (l : Nat)) = some (.ref o) := by
          rw [show ((1 : Int) - (l : Nat)) = ((1 - l : Nat) : Int) by omega]
          exact atI_nat b.io
        rw [elv] at ez'
        refine ⟨_, rfl, _, rfl, pl, _, _, .ref p, rfl, rfl, SqL.of WDa.parts, atI_nat b.ip, _, rfl, _, rfl, bl, _, _, .ref a, rfl, rfl, SqL.of WAa.both, atI_nat b.ia, _, rfl, p, u, a, r, x, rfl, b.cp, b.ar, hm, fun H4 y s4 n4 e4 => ?_⟩
        refine ⟨_, rfl, _, rfl, _, _, rfl, rfl, bl, _, _, .ref o, rfl, rfl, SqL.of (s4 _ _ WAa.both), eio, (by show 2 ≤ sizeLine; decide), fun cl ncl => ⟨_, rfl, _, _, rfl, rfl, .inl ⟨by decide, by decide⟩, _, _, rfl, rfl, _, rfl, cl, _, decide (l = 0), rfl, SqL.of upd_same, congrArg some (stepV l hl), fun ch nch => ?_⟩⟩
        rw [stepLA l hl]
        have s5 := upd_same_of (o := .lst [.ref y, .ref o]) ncl
        have s6 := s4.trans (s5.trans (upd_same_of (o := .lst [V.ref (if l = 0 then y else o), V.ref (if l = 0 then o else y)]) nch))
        have ey : upd (upd H4 cl (.lst [.ref y, .ref o])) ch (.lst [V.ref (if l = 0 then y else o), V.ref (if l = 0 then o else y)]) y = some (.tup (rV (Mv.leaveR u r x).2)) := (s5.trans (upd_same_of nch)) _ _ e4
        have ec : upd (upd H4 cl (.lst [.ref y, .ref o])) ch (.lst [V.ref (if l = 0 then y else o), V.ref (if l = 0 then o else y)]) ch = some (.lst [V.ref (if l = 0 then y else o), V.ref (if l = 0 then o else y)]) := upd_same
        generalize upd (upd H4 cl (.lst [.ref y, .ref o])) ch (.lst [V.ref (if l = 0 then y else o), V.ref (if l = 0 then o else y)]) = H5 at *
        refine ⟨_, rfl, ?_⟩
        have rrne : rV (Mv.leaveR u r x).2 ≠ [] := rV_ne fun z => by have h2 := congrArg List.length z; rw [ll, lr] at h2; cases h2
        refine cat3b (i := 7) (j := 9) rfl rfl ec (br_x ey (s6 _ _ b.op)) (br_y ey (s6 _ _ b.op)) ?_ ?_ ?_ ?_ fun H7 z7 s7 e7 => ?_
        · split
          · exact rrne
          · exact rV_ne b.ron
        · split
          · exact rV_ne b.ron
          · exact rrne
        · split <;> rw [rV_len] <;> omega
        · split <;> rw [rV_len] <;> omega
        have e7' : H7 z7 = some (.tup (rV rr)) := by rw [e7, ← err]; rfl
        have s07 := s6.trans s7
        refine neT_of (SqT.of (s07 _ _ ez')) (SqT.of e7') (flat_r _).dp (flat_r _).dp (flat_r _).shp ⟨false, rfl, ?_⟩
        refine ⟨_, rfl, _, rfl, sl, _, _, .int ((st : Nat) : Int), rfl, rfl, SqL.of (s07 _ _ WDa.starts), atI_nat b.is, ?_⟩
        refine ⟨_, rfl, _, rfl, (by show 3 ≤ sizeLine; decide), fun U3 nU3 => ⟨(by show 1 ≤ sizeLine; decide), fun L nL => ?_⟩⟩
        have s8 := s07.trans (upd_same_of (o := .tup [.int x, .int ((st : Nat) : Int), .int 0]) nU3)
        have eU : upd H7 U3 (.tup [.int x, .int ((st : Nat) : Int), .int 0]) U3 = some (.tup (trV (x, st, 0))) := upd_same
        generalize upd H7 U3 (.tup [.int x, .int ((st : Nat) : Int), .int 0]) = H8 at *
        have nUL : U3 ≠ L := ne_of_none eU nL
        have s9 := s8.trans (upd_same_of (o := .lst [.ref U3]) nL)
        have hs9 : Same H8 (upd H8 L (.lst [.ref U3])) := upd_same_of nL
        have M0 : MvL L H8 (upd H8 L (.lst [.ref U3])) [(x, st, 0)] := ⟨fun b' o' _ e => hs9 _ _ e, [(U3, x, st, 0)], upd_same, fun qq hq => by rw [List.mem_singleton.mp hq]; exact hs9 _ _ eU, rfl, fun qq hq => by rw [List.mem_singleton.mp hq]; exact nUL⟩
        have eL9 : upd H8 L (.lst [.ref U3]) L = some (.lst [.ref U3]) := upd_same
        generalize upd H8 L (.lst [.ref U3]) = H9 at *
        have ml : (Mv.leaveR u r x).1.length ≤ u.length + 1 := run_moves u (u.length + 1) (r.set (Mv.idx r x) none) (Mv.idx r x)
        refine ⟨_, rfl, _, rfl, pl, _, _, .ref p, rfl, rfl, SqL.of (s9 _ _ WDa.parts), atI_nat b.ip, _, rfl, _, rfl, bl, _, _, .ref a, rfl, rfl, SqL.of (s9 _ _ WAa.both), atI_nat b.ia, _, rfl, (Mv.leaveR u r x).1.map trV, L,
          fun j σ H' => (σ.length = 16 ∧ σ[0]? = some (some (.ref T)) ∧ σ[2]? = some (some (.ref ra)) ∧ σ[10]? = some (some (.int ((st : Nat) : Int))) ∧ σ[11]? = some (some (.ref L))) ∧ MvL L H8 H' ((x, st, 0) :: ((Mv.leaveR u r x).1.take j).map (Mv.sh3 st)),
          ⟨p, u, a, r, x, rfl, b.cp.same s9, b.ar.same s9, hm, rfl⟩, ⟨_, eL9⟩, ⟨⟨rfl, rfl, rfl, rfl, rfl⟩, M0⟩, fun j xx σ H' Hr Tt hx ⟨⟨g0, g1, g2, g3, g4⟩, M⟩ Rr hT0 hT1 => ?_, fun σ H' Hr ⟨⟨g0, g1, g2, g3, g4⟩, M⟩ Rr => ?_⟩
        · rw [List.getElem?_map] at hx
          have hj : j < (Mv.leaveR u r x).1.length := by
            cases Nat.lt_or_ge j (Mv.leaveR u r x).1.length with
            | inl z => exact z
            | inr z => rw [List.getElem?_eq_none z] at hx; cases hx
          rw [List.getElem?_eq_getElem hj] at hx
          cases hx
          have tk : (x, st, 0) :: ((Mv.leaveR u r x).1.take (j + 1)).map (Mv.sh3 st) = ((x, st, 0) :: ((Mv.leaveR u r x).1.take j).map (Mv.sh3 st)) ++ [Mv.sh3 st (Mv.leaveR u r x).1[j]] := by rw [List.take_succ, List.getElem?_eq_getElem hj, List.map_append]; rfl
          have lz : ((x, st, 0) :: ((Mv.leaveR u r x).1.take j).map (Mv.sh3 st)).length ≤ 900 := by rw [List.length_cons, List.length_map, List.length_take]; omega
          generalize (Mv.leaveR u r x).1[j] = m at *
          match σ, g0, g1, g2, g3, g4 with
          | [v0, v1, v2, v3, v4, v5, v6, v7, v8, v9, v10, v11, v12, v13, v14, v15], _, g1, g2, g3, g4 =>
            cases g1; cases g2; cases g3; cases g4
            refine ⟨Tt, _, rfl, SqT.of hT1, rfl, _, _, rfl, _, _, rfl, _, _, rfl, rfl, ?_⟩
            have gL := Rr.2.1 _ M.2.choose_spec.1
            refine ⟨_, rfl, .inl ⟨rfl, _, SqL.of gL⟩, _, rfl, _, rfl, _, rfl, _, _, rfl, rfl, _, rfl, _, rfl, _, _, rfl, rfl, (by show 3 ≤ sizeLine; decide), fun U2 nU2 => ?_⟩
            obtain ⟨xs, e1, e2, e3, e4⟩ := M.push (K := K) (st := st) (m := m) (fun b' o' e hb => hs9 _ _ e) Rr nU2 lz
            rw [← tk] at e3
            exact ⟨L, xs, .ref U2, rfl, rfl, e1, e2, ⟨⟨rfl, rfl, rfl, rfl, rfl⟩, e3⟩, e4⟩
        · rw [List.length_map, List.take_length] at M
          obtain ⟨k, lM, g5, g6, g7, g8⟩ := M
          have kr : Same H8 Hr := fun b o e => Rr.1 b o (hs9 _ _ e) (k b o (ne_of_none e nL) e)
          have gL := Rr.2.1 _ g5
          have gT : Tri Hr lM := fun qq hq => Rr.2.2 qq.1 (.tup (trV qq.2)) (fun xs z => nomatch z) (g6 qq hq)
          have s10 := s8.trans kr
          match σ, g0, g1, g2, g3, g4 with
          | [v0, v1, v2, v3, v4, v5, v6, v7, v8, v9, v10, v11, v12, v13, v14, v15], _, g1, g2, g3, g4 =>
            cases g1; cases g2; cases g3; cases g4
            refine ⟨_, rfl, _, rfl, _, rfl, ra, _, _, .int hd, rfl, rfl, SqT.of (s10 _ _ WAa.rows), atI_nat (j := 0) rfl, T, Mv.tog u0 u1, ra, Mv.rws hd r0 r1, hd, rfl, WDa.tT.same s10, (WAa.same s10).big, hdm, fun H11 l8 s11 t8 e8 d2 nd2 => ?_⟩
            rw [elv] at e8
            have s12 := s11.trans (upd_same_of (o := .lst (l8.map fun q => V.ref q.1)) nd2)
            have ed : upd H11 d2 (.lst (l8.map fun q => V.ref q.1)) d2 = some (.lst (l8.map fun q => V.ref q.1)) := upd_same
            have t8' : Tri (upd H11 d2 (.lst (l8.map fun q => V.ref q.1))) l8 := fun qq hq => (upd_same_of nd2) _ _ (t8 qq hq)
            generalize upd H11 d2 (.lst (l8.map fun q => V.ref q.1)) = H12 at *
            have gT9 : Tri H12 lM := fun qq hq => s12 _ _ (gT qq hq)
            have ds : (l8.map fun q => triD q.2) = lM.map fun q => triD q.2 := tri_data (e8.trans g7.symm)
            have dp9 := dp_tri (K := K) gT9
            rw [← ds] at dp9
            refine ⟨_, rfl, eqL_of (SqL.of ed) (SqL.of (s12 _ _ gL)) (dp_tri t8') dp9 ⟨(shp_tri l8).1, by have := (shp_tri l8).2; omega⟩ (q _ ((s02.trans s10).trans s12))⟩
end
end Pm


/-! Promises: lists of people. -/
namespace Mv
theorem held_nodup : ∀ {r : Rows}, (∀ (i j : Nat) (x : Int), r.getD i none = some x → r.getD j none = some x → i = j) → (heldL r).Nodup
  | [], _ => .nil
  | none :: r, h => by
    have := held_nodup (r := r) fun i j x h1 h2 => by
      have := h (i + 1) (j + 1) x h1 h2
      omega
    exact this
  | some a :: r, h => by
    have t := held_nodup (r := r) fun i j x h1 h2 => by
      have := h (i + 1) (j + 1) x h1 h2
      omega
    refine List.nodup_cons.mpr ⟨fun hm => ?_, t⟩
    obtain ⟨k, hk, e⟩ := List.getElem_of_mem (mem_heldL.mp hm)
    have := h 0 (k + 1) a rfl (by rw [List.getD_cons_succ, List.getD_eq_getElem?_getD, List.getElem?_eq_getElem hk, e]; rfl)
    omega
theorem place_len (u : List Nat) (r w : Rows) (x : Int) : (place u r w x).length = w.length := by unfold place; rw [List.length_set]
theorem red_len (u : List Nat) (r : Rows) (xs : List Int) : (redR u r xs).length = r.length := by
  unfold redR
  have : ∀ (l : List Int) (w : Rows), (l.foldl (place u r) w).length = w.length := fun l => by
    induction l with
    | nil => intro w; rfl
    | cons a l ih => intro w; rw [List.foldl_cons, ih, place_len]
  rw [this, List.length_replicate]
theorem held_len (r : Rows) : (heldL r).length ≤ r.length := List.length_filterMap_le _ _
theorem career_head (u : List Nat) (x : Int) (r : Rows) (l : List Int) : ∃ t, careerR u x r l = idx r x :: t := by
  cases l with
  | nil => exact ⟨_, rfl⟩
  | cons a l => exact ⟨_, rfl⟩
end Mv
namespace Pm
open PySem PySem.Spec PyProof.Rows L2 Ru GenW
abbrev sListsRight : Stmt := top 56
def nLists : List Str := ["_law_generator_here", "_law_tree", "_law_parts", "_law_rows", "_law_both", "_law_starts", "_law_some_here", "_law_expected", "_law_name", "_law_leaving", "_law_free", "_law_part", "_law_other", "_law_place"]
theorem KeepX.get {H H' : Hp} {g b : Addr} {n : Nat} {o : HO} (k : KeepX H g H') (G : GenAt H g n) (e : H b = some o) (ho : ∀ A B D : Int, o ≠ .lst [.int A, .int B, .int D]) : H' b = some o := k b o (fun z => by
  obtain ⟨A, B, D, eg, _⟩ := G
  rw [z, eg] at e
  cases e
  exact ho A B D rfl) e
theorem WD.keep {H H' : Hp} {g : Addr} {n : Nat} {T pl sl p0 p1 : Addr} {u0 u1 : List Nat} (h : WD H T pl sl p0 p1 u0 u1) (k : KeepX H g H') (G : GenAt H g n) : WD H' T pl sl p0 p1 u0 u1 :=
  ⟨⟨k.get G h.tT.at_ (fun _ _ _ z => nomatch z), h.tT.v, h.tT.sz⟩, ⟨k.get G h.c0.at_ (fun _ _ _ z => nomatch z), h.c0.v, h.c0.sz⟩, ⟨k.get G h.c1.at_ (fun _ _ _ z => nomatch z), h.c1.v, h.c1.sz⟩,
    k.get G h.parts (fun _ _ _ z => nomatch z), k.get G h.starts (fun _ _ _ z => by injection z with z; injection z with _ z; injection z with _ z; cases z), h.z0, h.z1⟩
theorem WA.keep {H H' : Hp} {g : Addr} {n : Nat} {ra bl a0 a1 : Addr} {u0 u1 : List Nat} {h : Int} {r0 r1 : Mv.Rows} (x : WA H ra bl a0 a1 u0 u1 h r0 r1) (k : KeepX H g H') (G : GenAt H g n) : WA H' ra bl a0 a1 u0 u1 h r0 r1 :=
  ⟨k.get G x.rows (fun _ _ _ z => nomatch z), k.get G x.both (fun _ _ _ z => nomatch z), k.get G x.a0_ (fun _ _ _ z => nomatch z), k.get G x.a1_ (fun _ _ _ z => nomatch z), x.two, x.hb⟩
def SomeOk (r : Mv.Rows) (xs : List Int) : Prop := xs.Nodup ∧ (∀ x ∈ xs, some x ∈ r) ∧ xs.length ≤ 6
def rOf (r0 r1 : Mv.Rows) (j : Nat) : Mv.Rows := if j = 0 then r0 else r1
def spLists : Sp := fun vs H Q _ => ∃ g T pl sl p0 p1 ra bl a0 a1 u0 u1 h r0 r1, ∃ n : Nat, vs = [.ref g, .ref T, .ref pl, .ref ra, .ref bl, .ref sl] ∧ WD H T pl sl p0 p1 u0 u1 ∧ WA H ra bl a0 a1 u0 u1 h r0 r1 ∧ GenAt H g (n + 24) ∧ ∀ H', KeepX H g H' → GenAt H' g n → Q (.bl true) H'
theorem cat2 {K : PySem.W.Frag} {σ : L2.St} {H : Hp} {Q : VK} {i j : Nat} {ra e : Addr} {h : Int} {r0 r1 : Mv.Rows} {xs : List V} (hi : σ[i]? = some (some (.ref ra))) (hj : σ[j]? = some (some (.ref e))) (hr : H ra = some (.tup (rV (Mv.rws h r0 r1)))) (hl : (r0 ++ r1) ≠ [])
    (he : H e = some (.tup xs)) (nx : xs ≠ []) (lx : xs.length ≤ 100) (q : ∀ H' z, Same H H' → H' z = some (.tup ([.int h] ++ xs)) → Q (.ref z) H') :
    tOp (rCatA K) (tSl (rSlA K) (tVar i) tNoPart (tPart (tC (.int 1)))) (tVar j) σ H Q := by
  refine ⟨_, hi, _, rfl, ra, _, rfl, SqT.of hr, fun hw => ?_, fun hw p np => ?_⟩
  · exfalso
    obtain ⟨_, h2⟩ := hw
    have e : HT.sIx (rV (Mv.rws h r0 r1)).length (rV (Mv.rws h r0 r1)).length (some 1) = min 1 (rV (Mv.rws h r0 r1)).length := HT.sIx_nat _ _ 1
    rw [e] at h2
    have l : (rV (Mv.rws h r0 r1)).length = (r0 ++ r1).length + 1 := by unfold Mv.rws rV; rw [List.length_map, List.length_cons]
    have := List.length_pos_iff.mpr hl
    omega
  · have ec : cutV (rV (Mv.rws h r0 r1)) none (some 1) = [.int h] := cut_one _ _
    rw [ec]
    have s1 := upd_same_of (o := .tup [.int h]) np
    have e1 : upd H p (.tup [.int h]) p = some (.tup [.int h]) := upd_same
    generalize upd H p (.tup [.int h]) = H1 at *
    refine ⟨_, hj, p, e, _, _, rfl, rfl, SqT.of e1, SqT.of (s1 _ _ he), Nat.le_of_lt (small1000 (by show 1 + xs.length ≤ 1000; omega)), fun z => (nomatch z), fun _ z => absurd z nx, fun _ _ p3 np3 => ?_⟩
    exact q _ p3 (s1.trans (upd_same_of np3)) upd_same
theorem cut_two (l : List Int) : cutV (iV l) none (some 2) = iV (l.take 2) := by
  unfold cutV
  have e : HT.sIx (iV l).length (iV l).length (some 2) = min 2 (iV l).length := HT.sIx_nat _ _ 2
  rw [e, show HT.sIx (iV l).length 0 none = 0 from rfl, List.drop_zero]
  unfold iV
  rw [List.map_take, List.length_map]
  by_cases h : l.length ≤ 2
  · rw [Nat.min_eq_right h, List.take_of_length_le (by simp), List.take_of_length_le (by simpa using h)]
  · rw [Nat.min_eq_left (by omega)]
theorem iV_app (a b : List Int) : iV (a ++ b) = iV a ++ iV b := by unfold iV; rw [List.map_append]
theorem rep_one (n : Nat) (v : V) : (List.replicate n [v]).flatten = List.replicate n v := by
  induction n with
  | zero => rfl
  | succ n ih => rw [List.replicate_succ, List.flatten_cons, ih, List.replicate_succ]; rfl
structure LsS (σ : L2.St) (T pl ra bl sl D : Addr) : Prop where
  len : σ.length = 14
  e1 : σ[1]? = some (some (.ref T))
  e2 : σ[2]? = some (some (.ref pl))
  e3 : σ[3]? = some (some (.ref ra))
  e4 : σ[4]? = some (some (.ref bl))
  e5 : σ[5]? = some (some (.ref sl))
  e6 : σ[6]? = some (some (.ref D))
section
variable {P : Program} {w : World} {K : PySem.W.Frag} {mg : Str → Option Value} {base : Heap} {C : Addr}
theorem scLists : FnScope nLists ["_law_generator_here", "_law_tree", "_law_parts", "_law_rows", "_law_both", "_law_starts"] (defScope sListsRight) := ⟨rfl, rfl, rfl, by decide +kernel, rfl, by decide +kernel, by decide +kernel⟩
theorem c_lists (G : Gn K mg "_law_lists_right" sListsRight ["_law_generator_here", "_law_tree", "_law_parts", "_law_rows", "_law_both", "_law_starts"]) (B : Bt mg) (cHd : Cal P w K mg base 1 "_law_held" spHeld) (cSm : Cal P w K mg base 4 "_law_some" spSome) (cRd : Cal P w K mg base 5 "reduced" spReduced)
    (cCa : Cal P w K mg base 6 "career" spCareer) (cOP : Cal P w K mg base 5 "open_posts" spOpenPosts) : Cal P w K mg base 7 "_law_lists_right" spLists := by
  refine G.cal scLists (fun vs H Q E h => ?_) (fun f cdv A outer s H vs Q E hr h => ?_)
  · obtain ⟨g, T, pl, sl, p0, p1, ra, bl, a0, a1, u0, u1, h, r0, r1, n, rfl, _⟩ := h; rfl
  · obtain ⟨g, T, pl, sl, p0, p1, ra, bl, a0, a1, u0, u1, hd, r0, r1, n, rfl, WDa, WAa, G0, q⟩ := h
    have nd := scLists.nd
    refine ⟨_, pss_cons (ps_set (i := 6) nd rfl (.inr rfl) (pe_lc rfl nd (pi_list (pv 4)) (blk_by (own := [("_law_part", 11)]) (by kernel_rfl)) (fun _ _ _ _ _ => pg_name (i := 11) nd rfl (.inl rfl)) (fun _ _ _ _ _ => pts_nil) (fun _ _ _ _ _ => pe_c cSm hr (pa_cons (pv 0) (pa_cons (pe_c cHd hr (pa_cons (pv 11) pa_nil)) pa_nil)))))
      (pss_cons (ps_set (i := 7) nd rfl (.inl rfl) (pe_op op_catA (pe_c cRd hr (pa_cons (pe_ix ix_list (pv 2) pe_int (fun _ _ => rfl)) (pa_cons (pe_ix ix_list (pv 4) pe_int (fun _ _ => rfl)) (pa_cons (pe_ix ix_list (pv 6) pe_int (fun _ _ => rfl)) pa_nil)))) (pe_c cRd hr (pa_cons (pe_ix ix_list (pv 2) pe_int (fun _ _ => rfl)) (pa_cons (pe_ix ix_list (pv 4) pe_int (fun _ _ => rfl)) (pa_cons (pe_ix ix_list (pv 6) pe_int (fun _ _ => rfl)) pa_nil))))))
      (pss_cons (ps_if (pt_cmpR (op_neD hr.units) (pe_c cRd hr (pa_cons (pv 1) (pa_cons (pv 3) (pa_cons (pe_op op_cat (pe_op op_cat (pe_ix ix_list (pv 6) pe_int (fun _ _ => rfl)) (pe_ix ix_list (pv 6) pe_int (fun _ _ => rfl))) (pe_lst (pa_cons (pe_ix ix_tup (pv 3) pe_int (fun _ _ => rfl)) pa_nil))) pa_nil)))) (pe_op op_catA (pe_slice sl_tupA (pv 3) po_none (po_some pe_int)) (pv 7)) (nomark _)) (pss_one (ps_ret pe_bl)) pss_nil)
      (pss_cons (ps_for PassesOwn.never rfl (pi_list (pe_slice sl_list (pe_ix ix_list (pv 6) pe_int (fun _ _ => rfl)) po_none (po_some pe_int))) (pg_name (i := 8) nd rfl (.inl rfl))
        (pss_cons (ps_setLc (i := 9) rfl nd rfl rfl (sw_true rfl rfl rfl (by kernel_rfl)) (pi_list (pe_c cHd hr (pa_cons (pe_ix ix_list (pv 4) pe_int (fun _ _ => rfl)) pa_nil))) (blk_by (own := [("_law_other", 12)]) (by kernel_rfl))
            (fun _ _ _ _ _ => pg_name (i := 12) nd rfl (.inl rfl)) (fun _ _ _ _ _ => pts_one (pt_cmpR (r := rIn K true) op_notIn_seq (pv 12) (pe_ix (r := rIxL K) ix_list (pv 6) pe_int (fun _ _ => rfl)) (by rfl))) (fun _ _ _ _ _ => pv 12))
        (pss_cons (ps_setLc (i := 7) rfl nd rfl rfl (sw_true rfl rfl rfl (by kernel_rfl)) (pi_list (pe_c cCa hr (pa_cons (pe_ix ix_list (pv 2) pe_int (fun _ _ => rfl)) (pa_cons (pe_ix ix_list (pv 4) pe_int (fun _ _ => rfl)) (pa_cons (pv 9) (pa_cons (pv 8) pa_nil)))))) (blk_by (own := [("_law_place", 13)]) (by kernel_rfl))
            (fun _ _ _ _ _ => pg_name (i := 13) nd rfl (.inl rfl)) (fun _ _ _ _ _ => pts_nil) (fun _ _ _ _ _ => pe_op op_add (pv 13) pe_int))
        (pss_cons (ps_if (pt_cmpR (op_neD hr.units) (pe_c cCa hr (pa_cons (pv 1) (pa_cons (pv 3) (pa_cons (pv 9) (pa_cons (pv 8) pa_nil))))) (pv 7) (nomark _)) (pss_one (ps_ret pe_bl)) pss_nil)
        (pss_one (ps_if (pt_cmpR (op_neD hr.units) (pe_c cCa hr (pa_cons (pv 1) (pa_cons (pv 3) (pa_cons (pe_ix ix_list (pv 6) pe_int (fun _ _ => rfl)) (pa_cons (pv 8) pa_nil))))) (pe_op op_rep (pe_slice sl_list (pv 7) po_none (po_some pe_int)) (pe_op op_add (pe_callB call_len_seq (by rfl) B.len PySem.boot_len (pa_cons (pe_ix ix_list (pv 6) pe_int (fun _ _ => rfl)) pa_nil)) pe_int)) (nomark _)) (pss_one (ps_ret pe_bl)) pss_nil))))))
      (pss_cons (ps_setLc (i := 10) rfl nd rfl rfl (sw_true rfl rfl rfl (by kernel_rfl)) (pi_list (pe_c cOP hr (pa_cons (pe_ix ix_list (pv 2) pe_int (fun _ _ => rfl)) (pa_cons (pe_ix ix_list (pv 4) pe_int (fun _ _ => rfl)) pa_nil)))) (blk_by (own := [("_law_place", 13)]) (by kernel_rfl))
            (fun _ _ _ _ _ => pg_name (i := 13) nd rfl (.inl rfl)) (fun _ _ _ _ _ => pts_nil) (fun _ _ _ _ _ => pe_op op_add (pv 13) pe_int))
      (pss_one (ps_ret (pe_cmpR (op_eqD hr.units) (pe_c cOP hr (pa_cons (pv 1) (pa_cons (pv 3) pa_nil))) (pe_op op_cat (pv 10) (pe_lc rfl nd (pi_list (pe_c cOP hr (pa_cons (pe_ix ix_list (pv 2) pe_int (fun _ _ => rfl)) (pa_cons (pe_ix ix_list (pv 4) pe_int (fun _ _ => rfl)) pa_nil)))) (blk_by (own := [("_law_place", 13)]) (by kernel_rfl))
            (fun _ _ _ _ _ => pg_name (i := 13) nd rfl (.inl rfl)) (fun _ _ _ _ _ => pts_nil) (fun _ _ _ _ _ => pe_op op_add (pv 13) (pe_ix (r := rIxL K) ix_list (pv 5) pe_int (fun _ _ => rfl))))) (nomark _)))))))), ?_⟩
    have l0 := WAa.two.a0.len
    have l1 := WAa.two.a1.len
    have z0 := WDa.z0
    have z1 := WDa.z1
    have tl : (Mv.tog u0 u1).length ≤ 13 := WDa.tT.sz
    have rne : (r0 ++ r1) ≠ [] := fun z => by have : r0.length + r1.length = 0 := (List.length_append ..).symm.trans (congrArg List.length z); omega
    refine ⟨_, rfl, bl, rfl, ⟨_, SqL.of WAa.both⟩, fun D hD => ?_⟩
    have hgD : g ≠ D := let ⟨_, e⟩ := G0.some; ne_of_none e hD
    refine lc_it walk_list (fun i H' => KeepX H g H' ∧ GenAt H' g (n + 12 * (2 - i)) ∧ ∃ qs : List (Addr × List Int), qs.length = i ∧ H' D = some (.lst (qs.map fun q => V.ref q.1)) ∧ ∀ j q, qs[j]? = some q → SomeOk (rOf r0 r1 j) q.2 ∧ H' q.1 = some (.lst (iV q.2)) ∧ q.1 ≠ D ∧ q.1 ≠ g)
      ⟨KeepX.of (upd_same_of hD), (G0.same (upd_same_of hD)).less (by omega), [], rfl, upd_same, fun j q z => nomatch z⟩
      (fun i H' hi ⟨k, _⟩ => SqL.of (k.get G0 WAa.both (fun _ _ _ z => nomatch z))) (fun i x H' H2 hi ⟨k, G1, qs, e1, e2, e3⟩ yy => ?_) (fun H1 ⟨k, G1, qs, e1, e2, e3⟩ => ?_)
    · obtain ⟨rfl, ex⟩ := yy
      have hi2 : i < 2 := hi
      have pick : ∃ a, x = .ref a ∧ H a = some (.tup (rV (rOf r0 r1 i))) ∧ (rOf r0 r1 i).length ≤ 6 ∧ (Mv.heldL (rOf r0 r1 i)).Nodup := by
        match i, hi2 with
        | 0, _ => cases ex; exact ⟨a0, rfl, WAa.a0_, by show r0.length ≤ 6; omega, Mv.held_nodup WAa.two.a0.inj⟩
        | 1, _ => cases ex; exact ⟨a1, rfl, WAa.a1_, by show r1.length ≤ 6; omega, Mv.held_nodup WAa.two.a1.inj⟩
      obtain ⟨a, rfl, ga, hl, hN⟩ := pick
      have hln := Mv.held_len (rOf r0 r1 i)
      have hsl := Mv.srt_len (Mv.heldL (rOf r0 r1 i))
      refine ⟨rfl, _, rfl, _, rfl, a, rOf r0 r1 i, rfl, k.get G0 ga (fun _ _ _ z => nomatch z), by omega, fun H3 hl3 s3 n3 h3 => ?_⟩
      have hlg : hl3 ≠ g := fun z => by obtain ⟨_, e⟩ := G1.some; rw [z, e] at n3; cases n3
      refine ⟨g, hl3, Mv.srt (Mv.heldL (rOf r0 r1 i)), n + 12 * (2 - (i + 1)), rfl, h3, by omega, (Mv.srt_perm _).nodup_iff.mpr hN, hlg, (G1.same s3).less (by omega), fun H4 p ys k4 G4 n4 h4 y1 y2 y3 => ?_⟩
      have e4 : H4 D = some (.lst (qs.map fun q => V.ref q.1)) := k4 _ _ hgD.symm (s3 _ _ e2)
      have hpD : p ≠ D := fun z => by rw [z, s3 _ _ e2] at n4; cases n4
      have hpg : p ≠ g := fun z => by obtain ⟨_, e⟩ := (G1.same s3).some; rw [z, e] at n4; cases n4
      refine ⟨_, e4, by rw [List.length_map]; exact small1000 (by omega), fun b o hb e => ?_, ?_, qs ++ [(p, ys)], by rw [List.length_append, e1]; rfl, by rw [upd_same, List.map_append]; rfl, fun j qq hj => ?_⟩
      · rw [upd_ne (ne_of_none e hD)]
        exact k4 _ _ hb (s3 _ _ (k _ _ hb e))
      · obtain ⟨A', B', D', ge, gr⟩ := G4
        exact ⟨A', B', D', by rw [upd_ne hgD]; exact ge, gr⟩
      · by_cases hjl : j < qs.length
        · rw [List.getElem?_append_left hjl] at hj
          obtain ⟨f1, f2, f3, f4⟩ := e3 j qq hj
          exact ⟨f1, by rw [upd_ne f3]; exact k4 _ _ f4 (s3 _ _ f2), f3, f4⟩
        · rw [List.getElem?_append_right (by omega)] at hj
          have : j - qs.length = 0 := by
            rcases Nat.eq_zero_or_pos (j - qs.length) with z | z
            · exact z
            · rw [List.getElem?_eq_none (show [(p, ys)].length ≤ j - qs.length from z)] at hj; cases hj
          rw [this] at hj
          cases hj
          have : j = i := by omega
          subst this
          exact ⟨⟨y1, fun x hx => Mv.mem_heldL.mp (Mv.mem_srt.mp (y2 x hx)), Nat.le_trans y3 (by rw [hsl]; omega)⟩, by rw [upd_ne hpD]; exact h4, hpD, hpg⟩
    · have e1 : qs.length = 2 := e1
      match qs, e1 with
      | [(c0, s0), (c1, s1)], _ =>
        obtain ⟨⟨n0, m0, k0⟩, f0, _, _⟩ := e3 0 _ rfl
        obtain ⟨⟨n1, m1, k1⟩, f1, _, _⟩ := e3 1 _ rfl
        have m0 : ∀ x ∈ s0, some x ∈ r0 := m0
        have m1 : ∀ x ∈ s1, some x ∈ r1 := m1
        have n0 : s0.Nodup := n0
        have n1 : s1.Nodup := n1
        have k0 : s0.length ≤ 6 := k0
        have k1 : s1.length ≤ 6 := k1
        have f0 : H1 c0 = some (.lst (iV s0)) := f0
        have f1 : H1 c1 = some (.lst (iV s1)) := f1
        have e2 : H1 D = some (.lst [.ref c0, .ref c1]) := e2
        have G1 : GenAt H1 g n := G1.less (by omega)
        replace WDa := WDa.keep k G0
        replace WAa := WAa.keep k G0
        replace q : ∀ H', Same H1 H' → Q (.bl true) H' := fun H' s => q H' (k.trans (KeepX.of s)) (G1.same s)
        clear G0 G1 hD hgD e3
        have d01 : ∀ x ∈ s1, x ∉ s0 := fun x h1 h2 => WAa.two.dis x (m0 x h2) (m1 x h1)
        -- the expected rows
        refine ⟨_, rfl, pl, _, _, .ref p0, rfl, rfl, SqL.of WDa.parts, atI_nat (j := 0) rfl, _, rfl, bl, _, _, .ref a0, rfl, rfl, SqL.of WAa.both, atI_nat (j := 0) rfl, _, rfl, D, _, _, .ref c0, rfl, rfl, SqL.of e2, atI_nat (j := 0) rfl, p0, u0, a0, r0, c0, s0, rfl, WDa.c0, ⟨WAa.a0_, WAa.two.a0⟩, f0, n0, m0, by omega, fun H2 x s2 nx ex => ?_⟩
        refine ⟨_, rfl, pl, _, _, .ref p1, rfl, rfl, SqL.of (s2 _ _ WDa.parts), atI_nat (j := 1) rfl, _, rfl, bl, _, _, .ref a1, rfl, rfl, SqL.of (s2 _ _ WAa.both), atI_nat (j := 1) rfl, _, rfl, D, _, _, .ref c1, rfl, rfl, SqL.of (s2 _ _ e2), atI_nat (j := 1) rfl, p1, u1, a1, r1, c1, s1, rfl, WDa.c1.same s2, ⟨s2 _ _ WAa.a1_, WAa.two.a1⟩, s2 _ _ f1, n1, m1, by omega, fun H3 y s3 ny ey => ?_⟩
        have rl0 := Mv.red_len u0 r0 s0
        have rl1 := Mv.red_len u1 r1 s1
        have ne0 : rV (Mv.redR u0 r0 s0) ≠ [] := rV_ne fun z => by rw [z] at rl0; rw [← rl0] at l0; cases l0
        have ne1 : rV (Mv.redR u1 r1 s1) ≠ [] := rV_ne fun z => by rw [z] at rl1; rw [← rl1] at l1; cases l1
        refine ⟨x, y, _, _, rfl, rfl, SqT.of (s3 _ _ ex), SqT.of ey, Nat.le_of_lt (small1000 (by rw [rV_len, rV_len]; omega)), fun z => absurd z ne0, fun _ z => absurd z ne1, fun _ _ ep nep => ?_⟩
        have s13 := (s2.trans s3).trans (upd_same_of (o := .tup (rV (Mv.redR u0 r0 s0) ++ rV (Mv.redR u1 r1 s1))) nep)
        have eep : upd H3 ep (.tup (rV (Mv.redR u0 r0 s0) ++ rV (Mv.redR u1 r1 s1))) ep = some (.tup (rV (Mv.redR u0 r0 s0) ++ rV (Mv.redR u1 r1 s1))) := upd_same
        generalize upd H3 ep (.tup (rV (Mv.redR u0 r0 s0) ++ rV (Mv.redR u1 r1 s1))) = H4 at *
        replace WDa := WDa.same s13
        replace WAa := WAa.same s13
        replace f0 := s13 _ _ f0
        replace f1 := s13 _ _ f1
        replace e2 := s13 _ _ e2
        replace q : ∀ H', Same H4 H' → Q (.bl true) H' := fun H' s => q H' (s13.trans s)
        clear k s2 s3 s13 ex ey nx ny nep
        -- reduced
        refine ⟨_, rfl, _, rfl, _, rfl, D, _, _, .ref c1, rfl, rfl, SqL.of e2, atI_nat (j := 1) rfl, _, rfl, D, _, _, .ref c0, rfl, rfl, SqL.of e2, atI_nat (j := 0) rfl, c1, c0, _, _, rfl, rfl, f1, f0, Nat.le_of_lt (small1000 (by unfold iV; rw [List.length_map, List.length_map]; omega)), fun b1 nb1 => ?_⟩
        have t1 := upd_same_of (o := .lst (iV s1 ++ iV s0)) nb1
        have eb1 : upd H4 b1 (.lst (iV s1 ++ iV s0)) b1 = some (.lst (iV s1 ++ iV s0)) := upd_same
        generalize upd H4 b1 (.lst (iV s1 ++ iV s0)) = H5 at *
        refine ⟨_, rfl, ra, _, _, .int hd, rfl, rfl, SqT.of (t1 _ _ WAa.rows), atI_nat (j := 0) rfl, (by show 1 ≤ sizeLine; decide), fun b2 nb2 => ⟨b1, b2, _, _, rfl, rfl, (upd_same_of nb2) _ _ eb1, upd_same, Nat.le_of_lt (small1000 (by unfold iV; rw [List.length_append, List.length_map, List.length_map]; show _ + 1 ≤ 1000; omega)), fun b3 nb3 => ?_⟩⟩
        have t2 := (t1.trans (upd_same_of (o := .lst [.int hd]) nb2)).trans (upd_same_of (o := .lst (iV s1 ++ iV s0 ++ [.int hd])) nb3)
        have eb3 : upd (upd H5 b2 (.lst [.int hd])) b3 (.lst (iV s1 ++ iV s0 ++ [.int hd])) b3 = some (.lst (iV (s1 ++ s0 ++ [hd]))) := by rw [upd_same, iV_app, iV_app]; rfl
        generalize upd (upd H5 b2 (.lst [.int hd])) b3 (.lst (iV s1 ++ iV s0 ++ [.int hd])) = H6 at *
        have hds0 : hd ∉ s0 := fun z => by have := WAa.two.lt0 _ (m0 _ z); omega
        have hds1 : hd ∉ s1 := fun z => by have := WAa.two.lt1 _ (m1 _ z); omega
        refine ⟨T, Mv.tog u0 u1, ra, Mv.rws hd r0 r1, b3, s1 ++ s0 ++ [hd], rfl, WDa.tT.same t2, (WAa.same t2).big, eb3, ?_, fun x hx => ?_, by rw [List.length_append, List.length_append]; show _ + 1 < 64; omega, fun H7 z s7 nz ez => ?_⟩
        · refine List.nodup_append.mpr ⟨List.nodup_append.mpr ⟨n1, n0, fun a ha b hb e => d01 a ha (e ▸ hb)⟩, List.nodup_cons.mpr ⟨(fun z => nomatch z), .nil⟩, fun a ha b hb e => ?_⟩
          rw [List.mem_singleton.mp hb] at e
          rcases List.mem_append.mp ha with z | z
          · exact hds1 (e ▸ z)
          · exact hds0 (e ▸ z)
        · unfold Mv.rws
          rcases List.mem_append.mp hx with z | z
          · rcases List.mem_append.mp z with z | z
            · exact List.mem_cons_of_mem _ (List.mem_append_right _ (m1 x z))
            · exact List.mem_cons_of_mem _ (List.mem_append_left _ (m0 x z))
          · rw [List.mem_singleton.mp z]; exact List.mem_cons_self
        have t7 := t2.trans s7
        refine cat2 (i := 3) (j := 7) rfl rfl (t7 _ _ WAa.rows) rne (t7 _ _ eep) (fun z => ne0 (List.append_eq_nil_iff.mp z).1) (by rw [List.length_append, rV_len, rV_len]; omega) fun H8 y s8 ey => ?_
        have ez8 : H8 z = some (.tup (rV (Mv.rws hd (Mv.redR u0 r0 s0) (Mv.redR u1 r1 s1)))) := by rw [← Mv.reduced_two WAa.two n0 n1 m0 m1]; exact s8 _ _ ez
        have ey8 : H8 y = some (.tup (rV (Mv.rws hd (Mv.redR u0 r0 s0) (Mv.redR u1 r1 s1)))) := by rw [ey]; unfold rV Mv.rws; rw [List.map_cons, List.map_append]; rfl
        refine neT_of (SqT.of ez8) (SqT.of ey8) (flat_r _).dp (flat_r _).dp (flat_r _).shp ⟨false, rfl, ?_⟩
        have t8 := t7.trans s8
        replace WDa := WDa.same t8
        replace WAa := WAa.same t8
        replace f0 := t8 _ _ f0
        replace f1 := t8 _ _ f1
        replace e2 := t8 _ _ e2
        replace q : ∀ H', Same H8 H' → Q (.bl true) H' := fun H' s => q H' (t8.trans s)
        clear t1 t2 s7 t7 s8 t8 ez ey ez8 ey8 eb1 eb3 nb1 nz eep
        -- careers
        refine ⟨_, rfl, D, _, _, .ref c0, rfl, rfl, SqL.of e2, atI_nat (j := 0) rfl, _, rfl, c0, _, rfl, SqL.of f0, fun tl2 ntl => ?_⟩
        rw [cut_two]
        refine ⟨tl2, rfl, ⟨_, SqL.of upd_same⟩, ?_⟩
        have t1 := upd_same_of (o := .lst (iV (s0.take 2))) ntl
        have etl : upd H8 tl2 (.lst (iV (s0.take 2))) tl2 = some (.lst (iV (s0.take 2))) := upd_same
        generalize upd H8 tl2 (.lst (iV (s0.take 2))) = H9 at *
        replace WDa := WDa.same t1
        replace WAa := WAa.same t1
        replace f0 := t1 _ _ f0
        replace f1 := t1 _ _ f1
        replace e2 := t1 _ _ e2
        replace q : ∀ H', Same H9 H' → Q (.bl true) H' := fun H' s => q H' (t1.trans s)
        clear t1 ntl
        refine for_it walk_list (fun i σ H' => LsS σ T pl ra bl sl D ∧ Same H9 H') ⟨⟨rfl, rfl, rfl, rfl, rfl, rfl, rfl⟩, Same.refl _⟩ (fun i σ H' hi ⟨_, sm⟩ => SqL.of (sm _ _ etl)) (fun i x σ H' H10 hi ⟨S, sm⟩ yy => ?_) (fun σ H' ⟨S, sm⟩ => ?_)
        · obtain ⟨rfl, ex⟩ := yy
          unfold iV at hi ex
          rw [List.length_map] at hi
          rw [List.getElem?_map, List.getElem?_eq_getElem hi] at ex
          cases ex
          have hm0 : (s0.take 2)[i] ∈ s0 := List.mem_of_mem_take (List.getElem_mem hi)
          generalize (s0.take 2)[i] = nm at *
          have hmr := m0 nm hm0
          replace WDa := WDa.same sm
          replace WAa := WAa.same sm
          replace f0 := sm _ _ f0
          replace f1 := sm _ _ f1
          replace e2 := sm _ _ e2
          obtain ⟨Sl_, h1, h2, h3, h4, h5, h6⟩ := S
          match σ, Sl_, h1, h2, h3, h4, h5, h6 with
          | [v0, v1, v2, v3, v4, v5, v6, v7, v8, v9, v10, v11, v12, v13], _, h1, h2, h3, h4, h5, h6 =>
            cases h1; cases h2; cases h3; cases h4; cases h5; cases h6
            refine ⟨_, rfl, bl, _, _, .ref a0, rfl, rfl, SqL.of WAa.both, atI_nat (j := 0) rfl, a0, r0, rfl, WAa.a0_, by omega, fun H11 hl s2 n2 e3 => ⟨hl, rfl, ⟨_, SqL.of e3⟩, fun D2 hD2 => ?_⟩⟩
            have hm : ∀ x, x ∈ Mv.srt (Mv.heldL r0) → some x ∈ r0 := fun x h => Mv.mem_heldL.mp (Mv.mem_srt.mp h)
            have hN : (Mv.srt (Mv.heldL r0)).Nodup := (Mv.srt_perm _).nodup_iff.mpr (Mv.held_nodup WAa.two.a0.inj)
            have hZ : (Mv.srt (Mv.heldL r0)).length ≤ 6 := by have := Mv.held_len r0; rw [Mv.srt_len]; omega
            generalize Mv.srt (Mv.heldL r0) = hs at *
            refine lc_it walk_list (fun j H' => Same H11 H' ∧ H' D2 = some (.lst (iV ((hs.take j).filter fun x => decide (x ∉ s0))))) ⟨upd_same_of hD2, upd_same⟩ (fun j H' hj ⟨s3, _⟩ => SqL.of (s3 _ _ e3)) (fun j x H' H12 hj ⟨s3, e4⟩ yy => ?_) (fun H12 ⟨s3, e4⟩ => ?_)
            · obtain ⟨rfl, ey⟩ := yy
              unfold iV at hj ey
              rw [List.length_map] at hj
              rw [List.getElem?_map, List.getElem?_eq_getElem hj] at ey
              cases ey
              have tk : (hs.take (j + 1)).filter (fun x => decide (x ∉ s0)) = (hs.take j).filter (fun x => decide (x ∉ s0)) ++ (if hs[j] ∈ s0 then [] else [hs[j]]) := by
                rw [List.take_succ, List.getElem?_eq_getElem hj, List.filter_append]
                congr 1
                show List.filter _ [hs[j]] = _
                by_cases hb : hs[j] ∈ s0
                · rw [if_pos hb, List.filter_cons, if_neg (by simpa using hb)]; rfl
                · rw [if_neg hb, List.filter_cons, if_pos (by simpa using hb)]; rfl
              have s4 := s2.trans s3
              refine ⟨rfl, _, rfl, _, rfl, D, _, _, .ref c0, rfl, rfl, SqL.of (s4 _ _ e2), atI_nat (j := 0) rfl, c0, _, rfl, .inl (SqL.of (s4 _ _ f0)), rfl, all_flatI s0, _, rfl, ?_⟩
              rw [in_iV, tk]
              by_cases hb : hs[j] ∈ s0
              · rw [decide_eq_true hb, if_pos hb, List.append_nil]
                exact ⟨s3, e4⟩
              · rw [decide_eq_false hb, if_neg hb]
                refine ⟨_, rfl, _, e4, ?_, fun b' o' e => by rw [upd_ne (ne_of_none e hD2)]; exact s3 _ _ e, by rw [upd_same]; unfold iV; rw [List.map_append]; rfl⟩
                unfold iV
                rw [List.length_map]
                refine small1000 (Nat.le_trans (List.length_filter_le _ _) ?_)
                rw [List.length_take]
                omega
            · unfold iV at e4
              rw [List.length_map, List.take_length] at e4
              have e4 : H12 D2 = some (.lst (iV (hs.filter fun x => decide (x ∉ s0)))) := e4
              have nlv : (hs.filter fun x => decide (x ∉ s0)).Nodup := hN.filter _
              have mlv : ∀ y ∈ hs.filter (fun x => decide (x ∉ s0)), some y ∈ r0 := fun y hy => hm y (List.mem_filter.mp hy).1
              have hnlv : nm ∉ hs.filter (fun x => decide (x ∉ s0)) := fun z => by have := (List.mem_filter.mp z).2; simp at this; exact this hm0
              have llv : (hs.filter fun x => decide (x ∉ s0)).length ≤ 6 := Nat.le_trans (List.length_filter_le _ _) hZ
              generalize hs.filter (fun x => decide (x ∉ s0)) = lv at *
              have t1 := s2.trans s3
              replace WDa := WDa.same t1
              replace WAa := WAa.same t1
              replace f0 := t1 _ _ f0
              replace f1 := t1 _ _ f1
              replace e2 := t1 _ _ e2
              replace sm := sm.trans t1
              refine ⟨_, rfl, pl, _, _, .ref p0, rfl, rfl, SqL.of WDa.parts, atI_nat (j := 0) rfl, _, rfl, bl, _, _, .ref a0, rfl, rfl, SqL.of WAa.both, atI_nat (j := 0) rfl, _, rfl, _, rfl, p0, u0, a0, r0, D2, lv, nm, rfl, WDa.c0, ⟨WAa.a0_, WAa.two.a0⟩, e4, nlv, mlv, by omega, hmr, hnlv, fun H13 cl s4 n4 e5 => ⟨cl, rfl, ⟨_, SqL.of e5⟩, ?_⟩⟩
              refine lc_shift (i := 13) (s := 1) e5 (by rw [career_len]; omega) (fun H' x Q' _ q' => ⟨_, rfl, _, _, rfl, rfl, int_nat q'⟩) fun H14 D3 s5 n5 e6 => ?_
              have t2 := s4.trans s5
              replace WDa := WDa.same t2
              replace WAa := WAa.same t2
              replace f1 := t2 _ _ f1
              replace e2 := t2 _ _ e2
              replace e4 := t2 _ _ e4
              replace sm := sm.trans t2
              have mT : ∀ y, some y ∈ r0 → some y ∈ Mv.rws hd r0 r1 := fun y hy => by rw [Mv.rws0]; simp [hy]
              have mT1 : ∀ y, some y ∈ r1 → some y ∈ Mv.rws hd r0 r1 := fun y hy => by rw [Mv.rws0]; simp [hy]
              have npre : ∀ y, some y ∈ r0 → some y ∉ ([some hd] : Mv.Rows) := fun y hy z => by
                cases List.mem_singleton.mp z
                have := WAa.two.lt0 _ hy
                omega
              refine ⟨_, rfl, _, rfl, _, rfl, _, rfl, T, Mv.tog u0 u1, ra, Mv.rws hd r0 r1, D2, lv, nm, rfl, WDa.tT, WAa.big, e4, nlv, fun y hy => mT y (mlv y hy), by omega, mT nm hmr, hnlv, fun H15 z s6 n6 e7 => ⟨_, rfl, ?_⟩⟩
              have ec : Mv.careerR (Mv.tog u0 u1) nm (Mv.rws hd r0 r1) lv = (Mv.careerR u0 nm r0 lv).map (1 + ·) :=
                (Mv.emb0 WAa.two.v0 WAa.two.v1).career (pre := [some hd]) (post := r1) rfl (npre nm hmr) lv r0 l0 hmr nlv hnlv fun y hy => ⟨mlv y hy, npre y (mlv y hy)⟩
              rw [ec] at e7
              refine neL_of (SqL.of e7) (SqL.of (s6 _ _ e6)) (flat_n _).dp (flat_n _).dp (flat_n _).shp ⟨false, rfl, ?_⟩
              replace WDa := WDa.same s6
              replace WAa := WAa.same s6
              replace f1 := s6 _ _ f1
              replace e2 := s6 _ _ e2
              replace e6 := s6 _ _ e6
              replace sm := sm.trans s6
              have nm1 : nm ∉ s1 := fun z => d01 nm z hm0
              refine ⟨_, rfl, _, rfl, _, rfl, D, _, _, .ref c1, rfl, rfl, SqL.of e2, atI_nat (j := 1) rfl, _, rfl, T, Mv.tog u0 u1, ra, Mv.rws hd r0 r1, c1, s1, nm, rfl, WDa.tT, WAa.big, f1, n1, fun y hy => mT1 y (m1 y hy), by omega, mT nm hmr, nm1, fun H16 z2 s7 n7 e8 => ?_⟩
              have hpre : some nm ∈ (some hd :: r0 : Mv.Rows) := List.mem_cons_of_mem _ hmr
              have npre1 : ∀ y, some y ∈ r1 → some y ∉ (some hd :: r0 : Mv.Rows) := fun y hy z => by
                rcases List.mem_cons.mp z with z | z
                · cases z
                  have := WAa.two.lt1 _ hy
                  omega
                · exact WAa.two.dis y z hy
              have eo := (Mv.emb1 WAa.two.v0 WAa.two.v1).career_out (pre := some hd :: r0) (post := []) (by rw [List.length_cons, l0]) hpre _ r1 l1 n1 fun y hy => ⟨m1 y hy, npre1 y (m1 y hy)⟩
              rw [← Mv.rws1] at eo
              have ei : Mv.idx (some hd :: r0) nm = 1 + Mv.idx r0 nm := by
                have := Mv.idx_mid (pre := [some hd]) (r := r0) (post := []) (npre nm hmr) hmr
                rw [List.append_nil] at this
                exact this
              rw [eo, ei] at e8
              obtain ⟨tcl, htc⟩ := Mv.career_head u0 nm r0 lv
              rw [htc] at e6
              have s017 := s7
              refine ⟨_, rfl, _, rfl, D3, _, rfl, SqL.of (s7 _ _ e6), fun b1 nb1 => ?_⟩
              have hcut : cutV (nV ((Mv.idx r0 nm :: tcl).map (1 + ·))) none (some 1) = [.int ((1 + Mv.idx r0 nm : Nat) : Int)] := cut_one _ _
              rw [hcut]
              have s8 := s7.trans (upd_same_of (o := .lst [.int ((1 + Mv.idx r0 nm : Nat) : Int)]) nb1)
              have e9 := (upd_same_of (o := .lst [.int ((1 + Mv.idx r0 nm : Nat) : Int)]) nb1) _ _ e8
              have eb1 : upd H16 b1 (.lst [.int ((1 + Mv.idx r0 nm : Nat) : Int)]) b1 = some (.lst [.int ((1 + Mv.idx r0 nm : Nat) : Int)]) := upd_same
              generalize upd H16 b1 (.lst [.int ((1 + Mv.idx r0 nm : Nat) : Int)]) = H17 at *
              refine ⟨_, rfl, D, _, _, .ref c1, rfl, rfl, SqL.of (s8 _ _ e2), atI_nat (j := 1) rfl, c1, _, rfl, .inl (SqL.of (s8 _ _ f1)), _, _, rfl, rfl, b1, _, _, rfl, rfl, eb1, ?_, ?_, ?_, fun b2 nb2 => ?_⟩
              · omega
              · unfold iV; rw [List.length_map]; omega
              · refine Nat.le_of_lt (small1000 ?_)
                unfold iV; rw [List.length_map]
                show 1 * _ ≤ 1000
                omega
              · have er : (List.replicate ((((iV s1).length : Nat) : Int) + 1).toNat [V.int ((1 + Mv.idx r0 nm : Nat) : Int)]).flatten = nV (List.replicate (s1.length + 1) (1 + Mv.idx r0 nm)) := by
                  rw [rep_one]
                  unfold nV iV
                  rw [List.map_replicate, List.length_map]
                  congr 1
                rw [er]
                have s9 := s8.trans (upd_same_of (o := .lst (nV (List.replicate (s1.length + 1) (1 + Mv.idx r0 nm)))) nb2)
                have e10 := (upd_same_of (o := .lst (nV (List.replicate (s1.length + 1) (1 + Mv.idx r0 nm)))) nb2) _ _ e9
                refine neL_of (SqL.of e10) (SqL.of upd_same) (flat_n _).dp (flat_n _).dp (flat_n _).shp ⟨false, rfl, ?_⟩
                exact ⟨⟨rfl, rfl, rfl, rfl, rfl, rfl, rfl⟩, sm.trans s9⟩
        · replace WDa := WDa.same sm
          replace WAa := WAa.same sm
          replace q : ∀ H'', Same H' H'' → Q (.bl true) H'' := fun H'' s => q H'' (sm.trans s)
          have ol : ∀ (u : List Nat) (r : Mv.Rows), (Mv.opens u r).length ≤ u.length + 1 := fun u r => by
            unfold Mv.opens
            refine Nat.le_trans (List.length_filter_le _ _) ?_
            rw [List.length_range]
            exact Nat.le_refl _
          have ol0 := ol u0 r0
          have ol1 := ol u1 r1
          obtain ⟨Sl_, h1, h2, h3, h4, h5, h6⟩ := S
          match σ, Sl_, h1, h2, h3, h4, h5, h6 with
          | [v0, v1, v2, v3, v4, v5, v6, v7, v8, v9, v10, v11, v12, v13], _, h1, h2, h3, h4, h5, h6 =>
            cases h1; cases h2; cases h3; cases h4; cases h5; cases h6
            refine ⟨_, rfl, pl, _, _, .ref p0, rfl, rfl, SqL.of WDa.parts, atI_nat (j := 0) rfl, _, rfl, bl, _, _, .ref a0, rfl, rfl, SqL.of WAa.both, atI_nat (j := 0) rfl, p0, u0, a0, r0, rfl, WDa.c0, ⟨WAa.a0_, WAa.two.a0⟩, fun H11 l2 s2 n2 g2 => ⟨l2, rfl, ⟨_, SqL.of g2⟩, ?_⟩⟩
            refine lc_shift (i := 13) (s := 1) g2 (by omega) (fun H' x Q' _ q' => ⟨_, rfl, _, _, rfl, rfl, int_nat q'⟩) fun H12 D2 s3 n3 g3 => ?_
            have t2 := s2.trans s3
            replace WDa := WDa.same t2
            replace WAa := WAa.same t2
            replace q : ∀ H', Same H12 H' → Q (.bl true) H' := fun H' s => q H' (t2.trans s)
            refine ⟨_, rfl, _, rfl, T, Mv.tog u0 u1, ra, Mv.rws hd r0 r1, rfl, WDa.tT, WAa.big, fun H13 l4 s4 n4 g4 => ?_⟩
            rw [Mv.opens_tog WAa.two] at g4
            replace WDa := WDa.same s4
            replace WAa := WAa.same s4
            refine ⟨_, rfl, _, rfl, pl, _, _, .ref p1, rfl, rfl, SqL.of WDa.parts, atI_nat (j := 1) rfl, _, rfl, bl, _, _, .ref a1, rfl, rfl, SqL.of WAa.both, atI_nat (j := 1) rfl, p1, u1, a1, r1, rfl, WDa.c1, ⟨WAa.a1_, WAa.two.a1⟩, fun H14 l5 s5 n5 g5 => ⟨l5, rfl, ⟨_, SqL.of g5⟩, ?_⟩⟩
            have st5 := s5 _ _ WDa.starts
            refine lc_shift (i := 13) (s := u0.length + 2) g5 (by omega) (fun H' x Q' ss q' => ⟨_, rfl, _, rfl, sl, _, _, .int ((u0.length + 2 : Nat) : Int), rfl, rfl, SqL.of (ss _ _ st5), atI_nat (j := 1) rfl, _, _, rfl, rfl, int_nat q'⟩) fun H15 D3 s6 n6 g6 => ?_
            have t3 := s5.trans s6
            refine ⟨D2, D3, _, _, rfl, rfl, t3 _ _ (s4 _ _ g3), g6, ?_, fun c nc => ?_⟩
            · refine Nat.le_of_lt (small1000 ?_)
              unfold nV
              rw [List.length_map, List.length_map, List.length_map, List.length_map]
              omega
            · rw [← nV_app]
              have g4' := (t3.trans (upd_same_of (o := .lst (nV ((Mv.opens u0 r0).map (1 + ·) ++ (Mv.opens u1 r1).map (u0.length + 2 + ·)))) nc)) _ _ g4
              exact eqL_of (SqL.of g4') (SqL.of upd_same) (flat_n _).dp (flat_n _).dp (flat_n _).shp (q _ ((s4.trans t3).trans (upd_same_of nc)))
end
end Pm


/-! Promises: the law. -/
namespace Pm
open PySem PySem.Spec PyProof.Rows L2 Ru GenW
abbrev sLaw : Stmt := top 57
def nLaw : List Str := ["_law_script", "_law_index", "_law_generator_here", "_law_parts", "_law_names_here", "_law_shuffled_here", "_law_counts", "_law_first", "_law_second", "_law_both", "_law_tree", "_law_starts", "_law_rows", "_law_which", "_law_part"]
def spLaw (K : PySem.W.Frag) : Sp := fun vs H Q _ => ∃ a, ∃ ns : List Int, vs = [.ref a] ∧ SqL K H a (ns.map V.int) ∧ ns.length ≤ 63 ∧ ∀ H', Q (.bl true) H'
theorem cut_to (xs : List V) (n : Nat) : cutV xs none (some (n : Int)) = xs.take n := by
  unfold cutV
  have e : HT.sIx xs.length xs.length (some (n : Int)) = min n xs.length := HT.sIx_nat _ _ n
  rw [e, show HT.sIx xs.length 0 none = 0 from rfl, List.drop_zero, Nat.sub_zero]
  by_cases h : xs.length ≤ n
  · rw [Nat.min_eq_right h, List.take_of_length_le (Nat.le_refl _), List.take_of_length_le h]
  · rw [Nat.min_eq_left (by omega)]
theorem cut_from (xs : List V) (n : Nat) : cutV xs (some (n : Int)) none = xs.drop n := by
  unfold cutV
  have e : HT.sIx xs.length 0 (some (n : Int)) = min n xs.length := HT.sIx_nat _ _ n
  rw [e, show HT.sIx xs.length xs.length none = xs.length from rfl]
  by_cases h : xs.length ≤ n
  · rw [Nat.min_eq_right h, List.drop_of_length_le (Nat.le_refl _), List.drop_of_length_le h]; simp
  · rw [Nat.min_eq_left (by omega), List.take_of_length_le (by rw [List.length_drop]; omega)]
theorem cut_toI (xs : List Int) (n : Nat) : cutV (iV xs) none (some (n : Int)) = iV (xs.take n) := by rw [cut_to]; unfold iV; rw [List.map_take]
theorem cut_fromI (xs : List Int) (n : Nat) : cutV (iV xs) (some (n : Int)) none = iV (xs.drop n) := by rw [cut_from]; unfold iV; rw [List.map_drop]
theorem GenAt.ne {H : Hp} {g b : Addr} {n : Nat} {xs : List V} (G : GenAt H g n) (e : H b = Option.some (.tup xs)) : b ≠ g := fun z => by
  obtain ⟨A, B, D, eg, _⟩ := G
  rw [z, eg] at e
  cases e
theorem ChA.keep {H H' : Hp} {g c : Addr} {n : Nat} {u : List Nat} (h : ChA H c u) (k : KeepX H g H') (G : GenAt H g n) : ChA H' c u := ⟨k.get G h.at_ (fun _ _ _ z => nomatch z), h.v, h.sz⟩
theorem ArA.keep {H H' : Hp} {g c : Addr} {n : Nat} {u : List Nat} {r : Mv.Rows} (h : ArA H c u r) (k : KeepX H g H') (G : GenAt H g n) : ArA H' c u r := ⟨k.get G h.at_ (fun _ _ _ z => nomatch z), h.ok⟩
theorem srt_str {l : List Int} (h : l.Nodup) : (Mv.srt l).Pairwise (· < ·) := Mv.srt_lt h
/-- what the names are, cut in two -/
structure Cut (h : Int) (f0 f1 : List Int) : Prop where
  pos : 0 ≤ h
  p0 : f0.Pairwise (· < ·)
  p1 : f1.Pairwise (· < ·)
  lt0 : ∀ x ∈ f0, h < x
  lt1 : ∀ x ∈ f1, h < x
  dis : ∀ x ∈ f0, x ∉ f1
theorem cut_mk {h : Int} {t ys : List Int} (pw : (h :: t).Pairwise (· < ·)) (h0 : 0 ≤ h) (pm : ys.Perm t) (m a b : Nat) : Cut h (Mv.srt ((ys.take m).take a)) (Mv.srt ((ys.drop m).take b)) := by
  obtain ⟨p1, p2⟩ := List.pairwise_cons.mp pw
  have nt : t.Nodup := p2.imp fun {x y} (hxy : x < y) => by omega
  have ny : ys.Nodup := pm.nodup_iff.mpr nt
  have hb : ∀ x ∈ ys, h < x := fun x hx => p1 x (pm.mem_iff.mp hx)
  have m0 : ∀ x ∈ Mv.srt ((ys.take m).take a), x ∈ ys.take m := fun x hx => List.mem_of_mem_take (Mv.mem_srt.mp hx)
  have m1 : ∀ x ∈ Mv.srt ((ys.drop m).take b), x ∈ ys.drop m := fun x hx => List.mem_of_mem_take (Mv.mem_srt.mp hx)
  have nn : (ys.take m ++ ys.drop m).Nodup := by rw [List.take_append_drop]; exact ny
  obtain ⟨n0, n1, nd⟩ := List.nodup_append.mp nn
  refine ⟨h0, srt_str (n0.sublist (List.take_sublist _ _)), srt_str (n1.sublist (List.take_sublist _ _)), fun x hx => hb x (List.mem_of_mem_take (m0 x hx)), fun x hx => hb x (List.mem_of_mem_drop (m1 x hx)), fun x hx hx' => nd x (m0 x hx) x (m1 x hx') rfl⟩
theorem two_mk {h : Int} {f0 f1 : List Int} {u0 u1 : List Nat} {r0 r1 : Mv.Rows} (c : Cut h f0 f1) (v0 : Mv.Vd u0) (v1 : Mv.Vd u1) (a0 : Mv.ArrOk u0 r0) (a1 : Mv.ArrOk u1 r1) (e0 : ∀ x, some x ∈ r0 ↔ x ∈ f0) (e1 : ∀ x, some x ∈ r1 ↔ x ∈ f1) : Mv.Two u0 u1 h r0 r1 :=
  ⟨v0, v1, a0, a1, c.pos, fun x hx => c.lt0 x ((e0 x).mp hx), fun x hx => c.lt1 x ((e1 x).mp hx), fun x hx hx' => c.dis x ((e0 x).mp hx) ((e1 x).mp hx')⟩
section
variable {P : Program} {w : World} {K : PySem.W.Frag} {mg : Str → Option Value} {base : Heap} {C : Addr}
theorem scLaw : FnScope nLaw ["_law_script"] (defScope sLaw) := ⟨rfl, rfl, rfl, by decide +kernel, rfl, by decide +kernel, by decide +kernel⟩
theorem ok_law {f : Addr} {fd : FuncData} (F : Fun K "law" "law" sLaw f fd) (B : Bt mg) (cG : Cal P w K mg base 2 "_law_generator" (spGenerator K)) (cRC : Cal P w K mg base 3 "_law_random_chart" spRandChart) (cN : Cal P w K mg base 3 "_law_names" spNames) (cS : Cal P w K mg base 3 "_law_shuffled" spShuffled)
    (cR : Cal P w K mg base 2 "_law_random" spRandom) (cF : Cal P w K mg base 3 "_law_filled" spFilled) (cT : Cal P w K mg base 1 "_law_together" spTogether) (cB : Cal P w K mg base 10 "_law_branch_right" spBranch) (cC : Cal P w K mg base 5 "_law_charts_right" spChartsRight) (cH : Cal P w K mg base 10 "_law_head_right" spHead)
    (cL : Cal P w K mg base 7 "_law_lists_right" spLists) : FnOk P w K mg base CX0 12 f fd ["_law_script"] (spLaw K) := by
  refine F.ok scLaw (fun vs H Q E h => ?_) (fun cdv A outer s H vs Q E hr h => ?_)
  · obtain ⟨a, ns, rfl, _⟩ := h; rfl
  · obtain ⟨a, ns, rfl, hS, hlen, q⟩ := h
    have nd := scLaw.nd
    refine ⟨_, pss_cons (ps_for PassesOwn.never rfl (pi_range1 (by rfl) B.range (pa_cons pe_int pa_nil)) (pg_name (i := 1) nd rfl (.inl rfl))
      (pss_cons (ps_set (i := 2) nd rfl (.inr rfl) (pe_c cG hr (pa_cons (pv 0) (pa_cons (pv 1) pa_nil))))
      (pss_cons (ps_set (i := 3) nd rfl (.inl rfl) (pe_lst (pa_cons (pe_c cRC hr (pa_cons (pv 2) (pa_cons pe_int pa_nil))) (pa_cons (pe_c cRC hr (pa_cons (pv 2) (pa_cons pe_int pa_nil))) pa_nil))))
      (pss_cons (ps_set (i := 4) nd rfl (.inl rfl) (pe_c cN hr (pa_cons (pv 2) (pa_cons (pe_op op_add (pe_op op_add (pe_callB call_len_seq (by rfl) B.len PySem.boot_len (pa_cons (pe_ix ix_list (pv 3) pe_int (fun _ _ => rfl)) pa_nil)) (pe_callB call_len_seq (by rfl) B.len PySem.boot_len (pa_cons (pe_ix ix_list (pv 3) pe_int (fun _ _ => rfl)) pa_nil))) pe_int) pa_nil))))
      (pss_cons (ps_set (i := 5) nd rfl (.inl rfl) (pe_c cS hr (pa_cons (pv 2) (pa_cons (pe_slice sl_list (pv 4) (po_some pe_int) po_none) pa_nil))))
      (pss_cons (ps_setLc (i := 6) rfl nd rfl rfl (sw_true rfl rfl rfl (by kernel_rfl)) (pi_list (pv 3)) (blk_by (own := [("_law_part", 14)]) (by kernel_rfl)) (fun _ _ _ _ _ => pg_name (i := 14) nd rfl (.inl rfl)) (fun _ _ _ _ _ => pts_nil)
          (fun _ _ _ _ _ => pe_c cR hr (pa_cons (pv 2) (pa_cons (pe_op op_add (pe_callB (r := rLen K) call_len_seq (by rfl) B.len PySem.boot_len (pa_cons (pv 14) pa_nil)) pe_int) pa_nil))))
      (pss_cons (ps_set (i := 7) nd rfl (.inl rfl) (pe_callB cr_sorted (by rfl) B.sorted PyProof.Rows.boot_sorted (pa_cons (pe_slice sl_list (pe_slice sl_list (pv 5) po_none (po_some (pe_callB call_len_seq (by rfl) B.len PySem.boot_len (pa_cons (pe_ix ix_list (pv 3) pe_int (fun _ _ => rfl)) pa_nil)))) po_none (po_some (pe_ix ix_list (pv 6) pe_int (fun _ _ => rfl)))) pa_nil)))
      (pss_cons (ps_set (i := 8) nd rfl (.inl rfl) (pe_callB cr_sorted (by rfl) B.sorted PyProof.Rows.boot_sorted (pa_cons (pe_slice sl_list (pe_slice sl_list (pv 5) (po_some (pe_callB call_len_seq (by rfl) B.len PySem.boot_len (pa_cons (pe_ix ix_list (pv 3) pe_int (fun _ _ => rfl)) pa_nil))) po_none) po_none (po_some (pe_ix ix_list (pv 6) pe_int (fun _ _ => rfl)))) pa_nil)))
      (pss_cons (ps_set (i := 9) nd rfl (.inl rfl) (pe_lst (pa_cons (pe_c cF hr (pa_cons (pv 2) (pa_cons (pe_ix ix_list (pv 3) pe_int (fun _ _ => rfl)) (pa_cons (pv 7) pa_nil)))) (pa_cons (pe_c cF hr (pa_cons (pv 2) (pa_cons (pe_ix ix_list (pv 3) pe_int (fun _ _ => rfl)) (pa_cons (pv 8) pa_nil)))) pa_nil))))
      (pss_cons (ps_par (i := 10) (j := 11) rfl nd rfl rfl (by decide) rfl rfl (pa_cons (pe_c cT hr (pa_cons (pe_ix ix_list (pv 3) pe_int (fun _ _ => rfl)) (pa_cons (pe_ix ix_list (pv 3) pe_int (fun _ _ => rfl)) pa_nil))) (pa_cons (pe_lst (pa_cons pe_int (pa_cons (pe_op op_add pe_int (pe_callB call_len_seq (by rfl) B.len PySem.boot_len (pa_cons (pe_ix ix_list (pv 3) pe_int (fun _ _ => rfl)) pa_nil))) pa_nil))) pa_nil)) (by rfl))
      (pss_cons (ps_set (i := 12) nd rfl (.inl rfl) (pe_op op_catA (pe_op op_catA (pe_tup (pa_cons (pe_ix ix_list (pv 4) pe_int (fun _ _ => rfl)) pa_nil)) (pe_ix ix_list (pv 9) pe_int (fun _ _ => rfl))) (pe_ix ix_list (pv 9) pe_int (fun _ _ => rfl))))
      (pss_cons (ps_for PassesOwn.never rfl (pi_range1 (by rfl) B.range (pa_cons pe_int pa_nil)) (pg_name (i := 13) nd rfl (.inl rfl))
        (pss_one (ps_if (pt_not (pt_val (pe_c cB hr (pa_cons (pv 10) (pa_cons (pv 3) (pa_cons (pv 12) (pa_cons (pv 9) (pa_cons (pv 11) (pa_cons (pv 13) pa_nil))))))))) (pss_one (ps_ret pe_bl)) pss_nil)))
      (pss_cons (ps_if (PW.pt (pw_or (pt_not (pt_val (pe_c cC hr (pa_cons (pv 10) (pa_cons (pv 3) (pa_cons (pv 11) pa_nil)))))) (pw_or1 (pt_not (pt_val (pe_c cH hr (pa_cons (pv 10) (pa_cons (pv 3) (pa_cons (pv 12) (pa_cons (pv 9) (pa_cons (pv 11) pa_nil))))))))))) (pss_one (ps_ret pe_bl)) pss_nil)
      (pss_one (ps_if (pt_not (pt_val (pe_c cL hr (pa_cons (pv 2) (pa_cons (pv 10) (pa_cons (pv 3) (pa_cons (pv 12) (pa_cons (pv 9) (pa_cons (pv 11) pa_nil))))))))) (pss_one (ps_ret pe_bl)) pss_nil)))))))))))))))
      (pss_one (ps_ret pe_bl)), ?_⟩
    refine ⟨_, rfl, by decide, by decide, ?_⟩
    refine for_it walk0 (fun i σ H' => σ.length = 15 ∧ σ[0]? = some (some (.ref a)) ∧ Same H H') ⟨rfl, rfl, Same.refl H⟩ (fun _ _ _ _ _ => trivial) (fun i x σ H' H1 hi ⟨hl, h0, s1⟩ y => ?_) (fun σ H' _ => q H')
    obtain ⟨rfl, rfl⟩ := y
    have hi3 : i < 3 := hi
    match σ, hl, h0 with
    | [v0, v1, v2, v3, v4, v5, v6, v7, v8, v9, v10, v11, v12, v13, v14], _, h0 =>
      cases h0
      refine ⟨_, rfl, _, rfl, a, ns, i, rfl, s1.seq hS, by omega, fun H2 g s2 ng G2 => ?_⟩
      have hB : Same H H2 := s1.trans s2
      have hgn : H g = none := s1.free ng
      clear s1 s2 ng
      -- the charts
      refine ⟨_, rfl, g, 99980, rfl, G2.less (by omega), fun H3 p0 u0 k3 G3 n3 c0 z0 => ?_⟩
      refine ⟨_, rfl, g, 99960, rfl, G3.less (by omega), fun H4 p1 u1 k4 G4 n4 c1 z1 => ⟨(by show 2 ≤ sizeLine; decide), fun pl npl => ?_⟩⟩
      have kx : KeepX H2 g H4 := k3.trans k4
      replace c0 := c0.keep k4 G3
      have s4 := upd_same_of (o := .lst [.ref p0, .ref p1]) npl
      have epl : upd H4 pl (.lst [.ref p0, .ref p1]) pl = some (.lst [.ref p0, .ref p1]) := upd_same
      replace c0 := c0.same s4
      replace c1 := c1.same s4
      replace G4 := G4.same s4
      replace kx := kx.trans (KeepX.of s4)
      generalize upd H4 pl (.lst [.ref p0, .ref p1]) = H5 at *
      clear k3 k4 n3 n4 s4 npl G3
      -- the names
      refine ⟨_, rfl, _, rfl, pl, _, _, .ref p0, rfl, rfl, SqL.of epl, atI_nat (j := 0) rfl, p0, _, rfl, .inr (SqT.of c0.at_), _, rfl, pl, _, _, .ref p1, rfl, rfl, SqL.of epl, atI_nat (j := 1) rfl, p1, _, rfl, .inr (SqT.of c1.at_), _, _, rfl, rfl, _, _, rfl, rfl, g, u0.length + u1.length + 3, 99940, ?_, by omega, G4.less (by omega), fun H6 nl ns2 k6 G6 n6 enl el epw epos ehd => ?_⟩
      · rw [chV_len, chV_len]
        show ([V.ref g, V.int (((u0.length + 1 : Nat) : Int) + ((u1.length + 1 : Nat) : Int) + 1)] : List V) = _
        rw [show (((u0.length + 1 : Nat) : Int) + ((u1.length + 1 : Nat) : Int) + 1) = ((u0.length + u1.length + 3 : Nat) : Int) by omega]
      match ns2, el with
      | hd :: tn, el =>
        have el : tn.length = u0.length + u1.length + 2 := by rw [List.length_cons] at el; omega
        have hd0 := epos hd List.mem_cons_self
        have hdb := ehd hd rfl
        replace epl := k6.get G4 epl (fun _ _ _ z => nomatch z)
        replace c0 := c0.keep k6 G4
        replace c1 := c1.keep k6 G4
        replace kx := kx.trans k6
        -- shuffled
        refine ⟨_, rfl, _, rfl, _, rfl, nl, _, rfl, SqL.of enl, fun t1 nt1 => ?_⟩
        rw [show cutV (iV (hd :: tn)) (some 1) none = iV tn from cut_fromI (hd :: tn) 1]
        have s7 := upd_same_of (o := .lst (iV tn)) nt1
        have et1 : upd H6 t1 (.lst (iV tn)) t1 = some (.lst (iV tn)) := upd_same
        have nt1g : t1 ≠ g := fun z => by obtain ⟨_, e⟩ := G6.some; rw [z, e] at nt1; cases nt1
        replace epl := s7 _ _ epl
        replace c0 := c0.same s7
        replace c1 := c1.same s7
        replace G6 := G6.same s7
        replace enl := s7 _ _ enl
        replace kx := kx.trans (KeepX.of s7)
        have nlg : nl ≠ g := fun z => by obtain ⟨_, e⟩ := G4.some; rw [z, e] at n6; cases n6
        generalize upd H6 t1 (.lst (iV tn)) = H7 at *
        clear s7 nt1
        refine ⟨g, t1, tn, 99900, rfl, et1, by omega, nt1g, G6.less (by omega), fun H8 sh ys k8 G8 n8 esh pm => ?_⟩
        have shg : sh ≠ g := fun z => by obtain ⟨_, e⟩ := G6.some; rw [z, e] at n8; cases n8
        replace epl := k8.get G6 epl (fun _ _ _ z => nomatch z)
        replace c0 := c0.keep k8 G6
        replace c1 := c1.keep k8 G6
        replace enl := k8 _ _ nlg enl
        replace kx := kx.trans k8
        have yl : ys.length = u0.length + u1.length + 2 := by rw [pm.length_eq]; exact el
        clear k8 k6 n8 n6 G6 G4 et1
        -- counts
        refine ⟨_, rfl, pl, rfl, ⟨_, SqL.of epl⟩, fun D hD => ?_⟩
        have hgD : g ≠ D := let ⟨_, e⟩ := G8.some; ne_of_none e hD
        refine lc_it walk_list (fun i H' => KeepX H8 g H' ∧ GenAt H' g (99800 + (2 - i)) ∧ ∃ cs : List Nat, cs.length = i ∧ H' D = some (.lst (nV cs)) ∧ ∀ j c, cs[j]? = some c → c ≤ (if j = 0 then u0 else u1).length + 1)
          ⟨KeepX.of (upd_same_of hD), (G8.same (upd_same_of hD)).less (by omega), [], rfl, upd_same, fun j q z => nomatch z⟩
          (fun i H' hi ⟨k, _⟩ => SqL.of (k.get G8 epl (fun _ _ _ z => nomatch z))) (fun i x H' H9 hi ⟨k, G9, cs, e1, e2, e3⟩ yy => ?_) (fun H9 ⟨k, G9, cs, e1, e2, e3⟩ => ?_)
        · obtain ⟨rfl, ex⟩ := yy
          have hi2 : i < 2 := hi
          have pick : ∃ p, x = .ref p ∧ H8 p = some (.tup (chV (if i = 0 then u0 else u1))) ∧ (if i = 0 then u0 else u1).length ≤ 5 := by
            match i, hi2 with
            | 0, _ => cases ex; exact ⟨p0, rfl, c0.at_, z0⟩
            | 1, _ => cases ex; exact ⟨p1, rfl, c1.at_, z1⟩
          obtain ⟨p, rfl, ep, lp⟩ := pick
          generalize hu : (if i = 0 then u0 else u1) = u at *
          refine ⟨rfl, _, rfl, _, rfl, p, _, rfl, .inr (SqT.of (k.get G8 ep (fun _ _ _ z => nomatch z))), _, _, rfl, rfl, g, u.length + 2, 99800 + (2 - (i + 1)), ?_, by omega, by omega, G9.less (by omega), fun H10 c k10 G10 lc => ?_⟩
          · rw [chV_len]
            show ([V.ref g, V.int (((u.length + 1 : Nat) : Int) + 1)] : List V) = _
            rw [show (((u.length + 1 : Nat) : Int) + 1) = ((u.length + 2 : Nat) : Int) by omega]
          · refine ⟨_, k10 _ _ hgD.symm e2, by unfold nV; rw [List.length_map]; exact small1000 (by omega), fun b o hb e => ?_, ?_, cs ++ [c], by rw [List.length_append, e1]; rfl, by rw [upd_same, nV_app]; rfl, fun j c' hj => ?_⟩
            · rw [upd_ne (ne_of_none e hD)]
              exact k10 _ _ hb (k _ _ hb e)
            · obtain ⟨A', B', D', ge, gr⟩ := G10
              exact ⟨A', B', D', by rw [upd_ne hgD]; exact ge, gr⟩
            · by_cases hjl : j < cs.length
              · rw [List.getElem?_append_left hjl] at hj
                exact e3 j c' hj
              · rw [List.getElem?_append_right (by omega)] at hj
                have : j - cs.length = 0 := by
                  rcases Nat.eq_zero_or_pos (j - cs.length) with z | z
                  · exact z
                  · rw [List.getElem?_eq_none (show [c].length ≤ j - cs.length from z)] at hj; cases hj
                rw [this] at hj
                cases hj
                have : j = i := by omega
                subst this
                rw [hu]
                omega
        · have e1 : cs.length = 2 := e1
          match cs, e1 with
          | [n0, n1], _ =>
            have hn0 : n0 ≤ u0.length + 1 := e3 0 n0 rfl
            have hn1 : n1 ≤ u1.length + 1 := e3 1 n1 rfl
            have eD : H9 D = some (.lst [.int (n0 : Nat), .int (n1 : Nat)]) := e2
            have G9 : GenAt H9 g 99800 := G9.less (by omega)
            replace epl := k.get G8 epl (fun _ _ _ z => nomatch z)
            replace c0 := c0.keep k G8
            replace c1 := c1.keep k G8
            replace enl := k _ _ nlg enl
            replace esh := k _ _ shg esh
            replace kx := kx.trans k
            have hDg := hgD.symm
            clear e3 k G8 hD hgD e2
            have cc := cut_mk epw hd0 pm (u0.length + 1) n0 n1
            have bnd0 : (Mv.srt ((ys.take (u0.length + 1)).take n0)).length ≤ u0.length + 1 := by rw [Mv.srt_len, List.length_take]; omega
            have bnd1 : (Mv.srt ((ys.drop (u0.length + 1)).take n1)).length ≤ u1.length + 1 := by rw [Mv.srt_len, List.length_take]; omega
            -- the first
            refine ⟨_, rfl, _, rfl, pl, _, _, .ref p0, rfl, rfl, SqL.of epl, atI_nat (j := 0) rfl, p0, _, rfl, .inr (SqT.of c0.at_), _, rfl, sh, _, rfl, SqL.of esh, fun t2 nt2 => ?_⟩
            rw [chV_len, cut_toI]
            refine ⟨_, rfl, D, _, _, .int (n0 : Nat), rfl, rfl, SqL.of ((upd_same_of nt2) _ _ eD), atI_nat (j := 0) rfl, _, rfl, t2, _, rfl, SqL.of upd_same, fun t3 nt3 => ?_⟩
            rw [cut_toI]
            refine ⟨t3, (ys.take (u0.length + 1)).take n0, rfl, SqL.of upd_same, by rw [← Mv.srt_len]; omega, fun fs fl0 pmf pwf nfl => ?_⟩
            rw [Mv.srt_uniq pmf pwf]
            generalize hf0 : Mv.srt ((ys.take (u0.length + 1)).take n0) = f0 at *
            have sA := ((upd_same_of (o := .lst (iV (ys.take (u0.length + 1)))) nt2).trans (upd_same_of (o := .lst (iV ((ys.take (u0.length + 1)).take n0))) nt3)).trans (upd_same_of (o := .lst (f0.map V.int)) nfl)
            have efl0 : upd (upd (upd H9 t2 (.lst (iV (ys.take (u0.length + 1))))) t3 (.lst (iV ((ys.take (u0.length + 1)).take n0)))) fl0 (.lst (f0.map V.int)) fl0 = some (.lst (iV f0)) := upd_same
            have g0 : fl0 ≠ g := fun z => by
              obtain ⟨_, e⟩ := (G9.same ((upd_same_of (o := .lst (iV (ys.take (u0.length + 1)))) nt2).trans (upd_same_of (o := .lst (iV ((ys.take (u0.length + 1)).take n0))) nt3))).some
              rw [z, e] at nfl
              cases nfl
            generalize upd (upd (upd H9 t2 (.lst (iV (ys.take (u0.length + 1))))) t3 (.lst (iV ((ys.take (u0.length + 1)).take n0)))) fl0 (.lst (f0.map V.int)) = H10 at *
            replace epl := sA _ _ epl
            replace c0 := c0.same sA
            replace c1 := c1.same sA
            replace enl := sA _ _ enl
            replace esh := sA _ _ esh
            replace eD := sA _ _ eD
            replace G9 := G9.same sA
            replace kx := kx.trans (KeepX.of sA)
            clear sA nt2 nt3 nfl pmf pwf
            -- the second
            refine ⟨_, rfl, _, rfl, pl, _, _, .ref p0, rfl, rfl, SqL.of epl, atI_nat (j := 0) rfl, p0, _, rfl, .inr (SqT.of c0.at_), _, rfl, sh, _, rfl, SqL.of esh, fun t2 nt2 => ?_⟩
            rw [chV_len, cut_fromI]
            refine ⟨_, rfl, D, _, _, .int (n1 : Nat), rfl, rfl, SqL.of ((upd_same_of nt2) _ _ eD), atI_nat (j := 1) rfl, _, rfl, t2, _, rfl, SqL.of upd_same, fun t3 nt3 => ?_⟩
            rw [cut_toI]
            refine ⟨t3, (ys.drop (u0.length + 1)).take n1, rfl, SqL.of upd_same, by rw [← Mv.srt_len]; omega, fun fs fl1 pmf pwf nfl => ?_⟩
            rw [Mv.srt_uniq pmf pwf]
            generalize hf1 : Mv.srt ((ys.drop (u0.length + 1)).take n1) = f1 at *
            have sA := ((upd_same_of (o := .lst (iV (ys.drop (u0.length + 1)))) nt2).trans (upd_same_of (o := .lst (iV ((ys.drop (u0.length + 1)).take n1))) nt3)).trans (upd_same_of (o := .lst (f1.map V.int)) nfl)
            have efl1 : upd (upd (upd H10 t2 (.lst (iV (ys.drop (u0.length + 1))))) t3 (.lst (iV ((ys.drop (u0.length + 1)).take n1)))) fl1 (.lst (f1.map V.int)) fl1 = some (.lst (iV f1)) := upd_same
            have g1 : fl1 ≠ g := fun z => by
              obtain ⟨_, e⟩ := (G9.same ((upd_same_of (o := .lst (iV (ys.drop (u0.length + 1)))) nt2).trans (upd_same_of (o := .lst (iV ((ys.drop (u0.length + 1)).take n1))) nt3))).some
              rw [z, e] at nfl
              cases nfl
            generalize upd (upd (upd H10 t2 (.lst (iV (ys.drop (u0.length + 1))))) t3 (.lst (iV ((ys.drop (u0.length + 1)).take n1)))) fl1 (.lst (f1.map V.int)) = H11 at *
            replace epl := sA _ _ epl
            replace c0 := c0.same sA
            replace c1 := c1.same sA
            replace enl := sA _ _ enl
            replace efl0 := sA _ _ efl0
            replace G9 := G9.same sA
            replace kx := kx.trans (KeepX.of sA)
            clear sA nt2 nt3 nfl pmf pwf eD esh
            -- filled
            refine ⟨_, rfl, _, rfl, pl, _, _, .ref p0, rfl, rfl, SqL.of epl, atI_nat (j := 0) rfl, _, rfl, g, p0, u0, fl0, f0, 99700, rfl, c0, efl0, cc.p0, fun x hx => by have := cc.lt0 x hx; have := cc.pos; omega, bnd0, g0, G9.ne c0.at_, G9.less (by omega), fun H12 a0 r0 k12 G12 n12 ar0 me0 => ?_⟩
            replace epl := k12.get G9 epl (fun _ _ _ z => nomatch z)
            replace c0 := c0.keep k12 G9
            replace c1 := c1.keep k12 G9
            replace enl := k12 _ _ nlg enl
            replace efl1 := k12 _ _ g1 efl1
            replace kx := kx.trans k12
            refine ⟨_, rfl, _, rfl, pl, _, _, .ref p1, rfl, rfl, SqL.of epl, atI_nat (j := 1) rfl, _, rfl, g, p1, u1, fl1, f1, 99600, rfl, c1, efl1, cc.p1, fun x hx => by have := cc.lt1 x hx; have := cc.pos; omega, bnd1, g1, G12.ne c1.at_, G12.less (by omega), fun H13 a1 r1 k13 G13 n13 ar1 me1 => ⟨(by show 2 ≤ sizeLine; decide), fun bl nbl => ?_⟩⟩
            replace epl := k13.get G12 epl (fun _ _ _ z => nomatch z)
            replace c0 := c0.keep k13 G12
            replace c1 := c1.keep k13 G12
            replace enl := k13 _ _ nlg enl
            replace ar0 := ar0.keep k13 G12
            replace kx := kx.trans k13
            have sA := upd_same_of (o := .lst [.ref a0, .ref a1]) nbl
            have ebl : upd H13 bl (.lst [.ref a0, .ref a1]) bl = some (.lst [.ref a0, .ref a1]) := upd_same
            generalize upd H13 bl (.lst [.ref a0, .ref a1]) = H14 at *
            replace epl := sA _ _ epl
            replace c0 := c0.same sA
            replace c1 := c1.same sA
            replace enl := sA _ _ enl
            replace ar0 := ar0.same sA
            replace ar1 := ar1.same sA
            replace G13 := G13.same sA
            replace kx := kx.trans (KeepX.of sA)
            have two := two_mk cc c0.v c1.v ar0.ok ar1.ok me0 me1
            clear sA nbl k12 k13 G9 G12 n12 n13 efl0 efl1
            -- together, starts
            refine ⟨_, rfl, pl, _, _, .ref p0, rfl, rfl, SqL.of epl, atI_nat (j := 0) rfl, _, rfl, pl, _, _, .ref p1, rfl, rfl, SqL.of epl, atI_nat (j := 1) rfl, p0, p1, u0, u1, rfl, c0, c1, z0, z1, fun H15 T s15 n15 cT' => ?_⟩
            replace epl := s15 _ _ epl
            replace c0 := c0.same s15
            replace c1 := c1.same s15
            replace enl := s15 _ _ enl
            replace ebl := s15 _ _ ebl
            replace ar0 := ar0.same s15
            replace ar1 := ar1.same s15
            replace G13 := G13.same s15
            replace kx := kx.trans (KeepX.of s15)
            refine ⟨_, rfl, pl, _, _, .ref p0, rfl, rfl, SqL.of epl, atI_nat (j := 0) rfl, p0, _, rfl, .inr (SqT.of c0.at_), _, _, rfl, rfl, (by show 2 ≤ sizeLine; decide), fun sl nsl => ⟨_, _, rfl, ?_⟩⟩
            rw [chV_len]
            have es : ([V.int 1, V.int (1 + ((u0.length + 1 : Nat) : Int))] : List V) = [.int ((1 : Nat) : Int), .int ((u0.length + 2 : Nat) : Int)] := by rw [show (1 + ((u0.length + 1 : Nat) : Int)) = ((u0.length + 2 : Nat) : Int) by omega]; rfl
            have sA := upd_same_of (o := .lst [.int ((1 : Nat) : Int), .int ((u0.length + 2 : Nat) : Int)]) nsl
            have esl : upd H15 sl (.lst [.int ((1 : Nat) : Int), .int ((u0.length + 2 : Nat) : Int)]) sl = some (.lst [.int ((1 : Nat) : Int), .int ((u0.length + 2 : Nat) : Int)]) := upd_same
            rw [show upd H15 sl (.lst [V.int 1, (fun i j => V.int (i + j)) 1 ((u0.length + 1 : Nat) : Int)]) = upd H15 sl (.lst [.int ((1 : Nat) : Int), .int ((u0.length + 2 : Nat) : Int)]) from congrArg (fun z => upd H15 sl (.lst z)) es]
            generalize upd H15 sl (.lst [.int ((1 : Nat) : Int), .int ((u0.length + 2 : Nat) : Int)]) = H16 at *
            have WDa : WD H16 T pl sl p0 p1 u0 u1 := ⟨cT'.same sA, c0.same sA, c1.same sA, sA _ _ epl, esl, z0, z1⟩
            replace enl := sA _ _ enl
            replace ebl := sA _ _ ebl
            replace ar0 := ar0.same sA
            replace ar1 := ar1.same sA
            replace G13 := G13.same sA
            replace kx := kx.trans (KeepX.of sA)
            clear sA nsl es esl s15 n15 cT' epl c0 c1
            -- rows
            have ne0 : rV r0 ≠ [] := rV_ne fun z => by have := ar0.ok.len; rw [z] at this; cases this
            have ne1 : rV r1 ≠ [] := rV_ne fun z => by have := ar1.ok.len; rw [z] at this; cases this
            have lr0 := ar0.ok.len
            have lr1 := ar1.ok.len
            refine ⟨_, rfl, nl, _, _, .int hd, rfl, rfl, SqL.of enl, atI_nat (j := 0) rfl, (by show 1 ≤ sizeLine; decide), fun b1 nb1 => ?_⟩
            have t1 := upd_same_of (o := .tup [.int hd]) nb1
            have eb1 : upd H16 b1 (.tup [.int hd]) b1 = some (.tup [.int hd]) := upd_same
            generalize upd H16 b1 (.tup [.int hd]) = H17 at *
            refine ⟨_, rfl, bl, _, _, .ref a0, rfl, rfl, SqL.of (t1 _ _ ebl), atI_nat (j := 0) rfl, b1, a0, _, _, rfl, rfl, SqT.of eb1, SqT.of (t1 _ _ ar0.at_), Nat.le_of_lt (small1000 (by rw [rV_len]; show 1 + _ ≤ 1000; omega)), fun z => (nomatch z), fun _ z => absurd z ne0, fun _ _ b2 nb2 => ?_⟩
            have t2 := t1.trans (upd_same_of (o := .tup ([.int hd] ++ rV r0)) nb2)
            have eb2 : upd H17 b2 (.tup ([.int hd] ++ rV r0)) b2 = some (.tup ([.int hd] ++ rV r0)) := upd_same
            generalize upd H17 b2 (.tup ([.int hd] ++ rV r0)) = H18 at *
            refine ⟨_, rfl, bl, _, _, .ref a1, rfl, rfl, SqL.of (t2 _ _ ebl), atI_nat (j := 1) rfl, b2, a1, _, _, rfl, rfl, SqT.of eb2, SqT.of (t2 _ _ ar1.at_), Nat.le_of_lt (small1000 (by rw [List.length_append, rV_len, rV_len]; show 1 + _ + _ ≤ 1000; omega)), fun z => (nomatch z), fun _ z => absurd z ne1, fun _ _ ra nra => ?_⟩
            have t3 := t2.trans (upd_same_of (o := .tup ([.int hd] ++ rV r0 ++ rV r1)) nra)
            have era : upd H18 ra (.tup ([.int hd] ++ rV r0 ++ rV r1)) ra = some (.tup (rV (Mv.rws hd r0 r1))) := by rw [upd_same, Mv.rws0]; unfold rV; rw [List.map_append, List.map_append]; rfl
            generalize upd H18 ra (.tup ([.int hd] ++ rV r0 ++ rV r1)) = H19 at *
            have WAa : WA H19 ra bl a0 a1 u0 u1 hd r0 r1 := ⟨era, t3 _ _ ebl, t3 _ _ ar0.at_, t3 _ _ ar1.at_, two, hdb⟩
            replace WDa := WDa.same t3
            replace G13 := G13.same t3
            replace kx := kx.trans (KeepX.of t3)
            clear t1 t2 t3 eb1 eb2 nra nb1 era ebl enl ar0 ar1
            -- the checks
            refine ⟨_, rfl, by decide, by decide, ?_⟩
            refine for_it walk0 (fun i σ H' => (σ.length = 15 ∧ σ[0]? = some (some (.ref a)) ∧ σ[2]? = some (some (.ref g)) ∧ σ[3]? = some (some (.ref pl)) ∧ σ[9]? = some (some (.ref bl)) ∧ σ[10]? = some (some (.ref T)) ∧ σ[11]? = some (some (.ref sl)) ∧ σ[12]? = some (some (.ref ra))) ∧ Same H19 H') ⟨⟨rfl, rfl, rfl, rfl, rfl, rfl, rfl, rfl⟩, Same.refl _⟩ (fun _ _ _ _ _ => trivial)
              (fun i x σ H' H20 hi ⟨⟨hl, h0, h2, h3, h9, h10, h11, h12⟩, s1⟩ y => ?_) (fun σ H' ⟨⟨hl, h0, h2, h3, h9, h10, h11, h12⟩, s1⟩ => ?_)
            · obtain ⟨rfl, rfl⟩ := y
              match σ, hl, h0, h2, h3, h9, h10, h11, h12 with
              | [v0, v1, v2, v3, v4, v5, v6, v7, v8, v9, v10, v11, v12, v13, v14], _, h0, h2, h3, h9, h10, h11, h12 =>
                cases h0; cases h2; cases h3; cases h9; cases h10; cases h11; cases h12
                refine ⟨_, rfl, _, rfl, _, rfl, _, rfl, _, rfl, _, rfl, T, pl, sl, p0, p1, ra, bl, a0, a1, u0, u1, hd, r0, r1, i, rfl, WDa.same s1, WAa.same s1, hi, fun H21 s21 => ⟨_, rfl, ?_⟩⟩
                exact ⟨⟨rfl, rfl, rfl, rfl, rfl, rfl, rfl, rfl⟩, s1.trans s21⟩
            · match σ, hl, h0, h2, h3, h9, h10, h11, h12 with
              | [v0, v1, v2, v3, v4, v5, v6, v7, v8, v9, v10, v11, v12, v13, v14], _, h0, h2, h3, h9, h10, h11, h12 =>
                cases h0; cases h2; cases h3; cases h9; cases h10; cases h11; cases h12
                refine ⟨_, rfl, _, rfl, _, rfl, T, pl, sl, p0, p1, u0, u1, rfl, WDa.same s1, fun H21 s21 => ⟨_, rfl, ?_⟩⟩
                have s2 := s1.trans s21
                refine ⟨_, rfl, _, rfl, _, rfl, _, rfl, _, rfl, T, pl, sl, p0, p1, ra, bl, a0, a1, u0, u1, hd, r0, r1, rfl, WDa.same s2, WAa.same s2, fun H22 s22 => ⟨_, rfl, ?_⟩⟩
                have s3 := s2.trans s22
                refine ⟨_, rfl, _, rfl, _, rfl, _, rfl, _, rfl, _, rfl, g, T, pl, sl, p0, p1, ra, bl, a0, a1, u0, u1, hd, r0, r1, 1000, rfl, WDa.same s3, WAa.same s3, (G13.same s3).less (by omega), fun H23 k23 _ => ⟨_, rfl, ?_⟩⟩
                refine ⟨rfl, rfl, fun b o e => ?_⟩
                have bg : b ≠ g := fun z => by rw [z, hgn] at e; cases e
                exact k23 b o bg (s3 _ _ (kx b o bg (hB b o e)))
end
end Pm


/-! What the top has written. -/
namespace Pm
open PySem PySem.Spec PyProof.Rows L2 Ru GenW
theorem all_mk {l : PySem.W.OpenLaw} {w : World} {K : PySem.W.Frag} {h : Heap} {mg : Str → Option Value} {fa C f1 f2 f3 f4 f5 f6 f7 f8 f9 f10 f11 f12 f13 f14 f15 f16 f17 f18 f19 f20 f21 f22 f23 f24 f25 f26 f27 f28 f29 f30 f31 f32 f33 f34 f35 f36 f37 f38 f39 f40 f41 f42 f43 f44 f45 fm1 fm2 fm3 : Addr} (X : K.In h) (G : h.Ns mainGlobals mg) (hfa : mg "law" = some (.ref fa))
    {od1 an1 od2 an2 od3 an3 od4 an4 od5 an5 od6 an6 od7 an7 od8 an8 od9 an9 od10 an10 od11 an11 od12 an12 od13 an13 od14 an14 od15 an15 od16 an16 od17 an17 od18 an18 od19 an19 od20 an20 od21 an21 od22 an22 od23 an23 od24 an24 od25 an25 od26 an26 od27 an27 od28 an28 od29 an29 od30 an30 od31 an31 od32 an32 od33 an33 od34 an34 od35 an35 od36 an36 od37 an37 od38 an38 od39 an39 od40 an40 od41 an41 od42 an42 od43 an43 od44 an44 od45 an45 odm1 anm1 odm2 anm2 odm3 anm3 : Option Addr} {sl1 sl2 sl3 sl4 sl5 sl6 sl7 sl8 sl9 sl10 sl11 sl12 sl13 sl14 sl15 sl16 sl17 sl18 sl19 sl20 sl21 sl22 sl23 sl24 sl25 sl26 sl27 sl28 sl29 sl30 sl31 sl32 sl33 sl34 sl35 sl36 sl37 sl38 sl39 sl40 sl41 sl42 sl43 sl44 sl45 slm1 slm2 slm3 : Array (Option Value)} {oc1 kV1 dc1 pm1 cd1 ct1 oc2 kV2 dc2 pm2 cd2 ct2 oc3 kV3 dc3 pm3 cd3 ct3 oc4 kV4 dc4 pm4 cd4 ct4 oc5 kV5 dc5 pm5 cd5 ct5 oc6 kV6 dc6 pm6 cd6 ct6 oc7 kV7 dc7 pm7 cd7 ct7 oc8 kV8 dc8 pm8 cd8 ct8 oc9 kV9 dc9 pm9 cd9 ct9 oc10 kV10 dc10 pm10 cd10 ct10 oc11 kV11 dc11 pm11 cd11 ct11 oc12 kV12 dc12 pm12 cd12 ct12 oc13 kV13 dc13 pm13 cd13 ct13 oc14 kV14 dc14 pm14 cd14 ct14 oc15 kV15 dc15 pm15 cd15 ct15 oc16 kV16 dc16 pm16 cd16 ct16 oc17 kV17 dc17 pm17 cd17 ct17 oc18 kV18 dc18 pm18 cd18 ct18 oc19 kV19 dc19 pm19 cd19 ct19 oc20 kV20 dc20 pm20 cd20 ct20 oc21 kV21 dc21 pm21 cd21 ct21 oc22 kV22 dc22 pm22 cd22 ct22 oc23 kV23 dc23 pm23 cd23 ct23 oc24 kV24 dc24 pm24 cd24 ct24 oc25 kV25 dc25 pm25 cd25 ct25 oc26 kV26 dc26 pm26 cd26 ct26 oc27 kV27 dc27 pm27 cd27 ct27 oc28 kV28 dc28 pm28 cd28 ct28 oc29 kV29 dc29 pm29 cd29 ct29 oc30 kV30 dc30 pm30 cd30 ct30 oc31 kV31 dc31 pm31 cd31 ct31 oc32 kV32 dc32 pm32 cd32 ct32 oc33 kV33 dc33 pm33 cd33 ct33 oc34 kV34 dc34 pm34 cd34 ct34 oc35 kV35 dc35 pm35 cd35 ct35 oc36 kV36 dc36 pm36 cd36 ct36 oc37 kV37 dc37 pm37 cd37 ct37 oc38 kV38 dc38 pm38 cd38 ct38 oc39 kV39 dc39 pm39 cd39 ct39 oc40 kV40 dc40 pm40 cd40 ct40 oc41 kV41 dc41 pm41 cd41 ct41 oc42 kV42 dc42 pm42 cd42 ct42 oc43 kV43 dc43 pm43 cd43 ct43 oc44 kV44 dc44 pm44 cd44 ct44 oc45 kV45 dc45 pm45 cd45 ct45 ocm1 kVm1 dcm1 pmm1 cdm1 ctm1 ocm2 kVm2 dcm2 pmm2 cdm2 ctm2 ocm3 kVm3 dcm3 pmm3 cdm3 ctm3 : Value}
    (aC : PySem.W.nsIn K mainGlobals "Tree" = some (some (.ref C)))
    (am1 : PySem.W.findIn K (.ref C) "__init__" = some (some (.ref fm1))) (im1 : PySem.W.isFn K (.ref fm1) = true) (lm1 : K.lookup fm1 = some ⟨ocm1, odm1, .func (PySem.W.fnOf "__init__" "Tree.__init__" (defArgs sTInit) (defBody sTInit) (defScope sTInit) .none kVm1 dcm1 pmm1 anm1 cdm1 ctm1), slm1⟩) (cm1 : PySem.W.codeIn K cdm1 "Tree.__init__" = true) (km1 : PySem.W.keepIn K (.ref fm1) = true)
    (am2 : PySem.W.findIn K (.ref C) "path" = some (some (.ref fm2))) (im2 : PySem.W.isFn K (.ref fm2) = true) (lm2 : K.lookup fm2 = some ⟨ocm2, odm2, .func (PySem.W.fnOf "path" "Tree.path" (defArgs sTPath) (defBody sTPath) (defScope sTPath) .none kVm2 dcm2 pmm2 anm2 cdm2 ctm2), slm2⟩) (cm2 : PySem.W.codeIn K cdm2 "Tree.path" = true) (km2 : PySem.W.keepIn K (.ref fm2) = true)
    (am3 : PySem.W.findIn K (.ref C) "is_below" = some (some (.ref fm3))) (im3 : PySem.W.isFn K (.ref fm3) = true) (lm3 : K.lookup fm3 = some ⟨ocm3, odm3, .func (PySem.W.fnOf "is_below" "Tree.is_below" (defArgs sTBelow) (defBody sTBelow) (defScope sTBelow) .none kVm3 dcm3 pmm3 anm3 cdm3 ctm3), slm3⟩) (cm3 : PySem.W.codeIn K cdm3 "Tree.is_below" = true) (km3 : PySem.W.keepIn K (.ref fm3) = true)
    (a1 : PySem.W.nsIn K mainGlobals "is_whole" = some (some (.ref f1))) (l1 : K.lookup f1 = some ⟨oc1, od1, .func (PySem.W.fnOf "is_whole" "is_whole" (defArgs sWhole) (defBody sWhole) (defScope sWhole) .none kV1 dc1 pm1 an1 cd1 ct1), sl1⟩) (c1 : PySem.W.codeIn K cd1 "is_whole" = true) (k1 : PySem.W.keepIn K (.ref f1) = true)
    (a2 : PySem.W.nsIn K mainGlobals "is_person" = some (some (.ref f2))) (l2 : K.lookup f2 = some ⟨oc2, od2, .func (PySem.W.fnOf "is_person" "is_person" (defArgs sPerson) (defBody sPerson) (defScope sPerson) .none kV2 dc2 pm2 an2 cd2 ct2), sl2⟩) (c2 : PySem.W.codeIn K cd2 "is_person" = true) (k2 : PySem.W.keepIn K (.ref f2) = true)
    (a3 : PySem.W.nsIn K mainGlobals "chart_fault" = some (some (.ref f3))) (l3 : K.lookup f3 = some ⟨oc3, od3, .func (PySem.W.fnOf "chart_fault" "chart_fault" (defArgs sChartFault) (defBody sChartFault) (defScope sChartFault) .none kV3 dc3 pm3 an3 cd3 ct3), sl3⟩) (c3 : PySem.W.codeIn K cd3 "chart_fault" = true) (k3 : PySem.W.keepIn K (.ref f3) = true)
    (a4 : PySem.W.nsIn K mainGlobals "require_chart" = some (some (.ref f4))) (l4 : K.lookup f4 = some ⟨oc4, od4, .func (PySem.W.fnOf "require_chart" "require_chart" (defArgs sReqChart) (defBody sReqChart) (defScope sReqChart) .none kV4 dc4 pm4 an4 cd4 ct4), sl4⟩) (c4 : PySem.W.codeIn K cd4 "require_chart" = true) (k4 : PySem.W.keepIn K (.ref f4) = true)
    (a5 : PySem.W.nsIn K mainGlobals "require_post" = some (some (.ref f5))) (l5 : K.lookup f5 = some ⟨oc5, od5, .func (PySem.W.fnOf "require_post" "require_post" (defArgs sReqPost) (defBody sReqPost) (defScope sReqPost) .none kV5 dc5 pm5 an5 cd5 ct5), sl5⟩) (c5 : PySem.W.codeIn K cd5 "require_post" = true) (k5 : PySem.W.keepIn K (.ref f5) = true)
    (a6 : PySem.W.nsIn K mainGlobals "path_to" = some (some (.ref f6))) (l6 : K.lookup f6 = some ⟨oc6, od6, .func (PySem.W.fnOf "path_to" "path_to" (defArgs sPathTo) (defBody sPathTo) (defScope sPathTo) .none kV6 dc6 pm6 an6 cd6 ct6), sl6⟩) (c6 : PySem.W.codeIn K cd6 "path_to" = true) (k6 : PySem.W.keepIn K (.ref f6) = true)
    (a7 : PySem.W.nsIn K mainGlobals "posts_below" = some (some (.ref f7))) (l7 : K.lookup f7 = some ⟨oc7, od7, .func (PySem.W.fnOf "posts_below" "posts_below" (defArgs sPostsBelow) (defBody sPostsBelow) (defScope sPostsBelow) .none kV7 dc7 pm7 an7 cd7 ct7), sl7⟩) (c7 : PySem.W.codeIn K cd7 "posts_below" = true) (k7 : PySem.W.keepIn K (.ref f7) = true)
    (a8 : PySem.W.nsIn K mainGlobals "first_fault" = some (some (.ref f8))) (l8 : K.lookup f8 = some ⟨oc8, od8, .func (PySem.W.fnOf "first_fault" "first_fault" (defArgs sFirstFault) (defBody sFirstFault) (defScope sFirstFault) .none kV8 dc8 pm8 an8 cd8 ct8), sl8⟩) (c8 : PySem.W.codeIn K cd8 "first_fault" = true) (k8 : PySem.W.keepIn K (.ref f8) = true)
    (a9 : PySem.W.nsIn K mainGlobals "repeats" = some (some (.ref f9))) (l9 : K.lookup f9 = some ⟨oc9, od9, .func (PySem.W.fnOf "repeats" "repeats" (defArgs sRepeats) (defBody sRepeats) (defScope sRepeats) .none kV9 dc9 pm9 an9 cd9 ct9), sl9⟩) (c9 : PySem.W.codeIn K cd9 "repeats" = true) (k9 : PySem.W.keepIn K (.ref f9) = true)
    (a10 : PySem.W.nsIn K mainGlobals "is_out_of_order" = some (some (.ref f10))) (l10 : K.lookup f10 = some ⟨oc10, od10, .func (PySem.W.fnOf "is_out_of_order" "is_out_of_order" (defArgs sOutOfOrder) (defBody sOutOfOrder) (defScope sOutOfOrder) .none kV10 dc10 pm10 an10 cd10 ct10), sl10⟩) (c10 : PySem.W.codeIn K cd10 "is_out_of_order" = true) (k10 : PySem.W.keepIn K (.ref f10) = true)
    (a11 : PySem.W.nsIn K mainGlobals "arrangement_fault" = some (some (.ref f11))) (l11 : K.lookup f11 = some ⟨oc11, od11, .func (PySem.W.fnOf "arrangement_fault" "arrangement_fault" (defArgs sArrFault) (defBody sArrFault) (defScope sArrFault) .none kV11 dc11 pm11 an11 cd11 ct11), sl11⟩) (c11 : PySem.W.codeIn K cd11 "arrangement_fault" = true) (k11 : PySem.W.keepIn K (.ref f11) = true)
    (a12 : PySem.W.nsIn K mainGlobals "require_arrangement" = some (some (.ref f12))) (l12 : K.lookup f12 = some ⟨oc12, od12, .func (PySem.W.fnOf "require_arrangement" "require_arrangement" (defArgs sReqArr) (defBody sReqArr) (defScope sReqArr) .none kV12 dc12 pm12 an12 cd12 ct12), sl12⟩) (c12 : PySem.W.codeIn K cd12 "require_arrangement" = true) (k12 : PySem.W.keepIn K (.ref f12) = true)
    (a13 : PySem.W.nsIn K mainGlobals "posts_of_people" = some (some (.ref f13))) (l13 : K.lookup f13 = some ⟨oc13, od13, .func (PySem.W.fnOf "posts_of_people" "posts_of_people" (defArgs sPostsOf) (defBody sPostsOf) (defScope sPostsOf) .none kV13 dc13 pm13 an13 cd13 ct13), sl13⟩) (c13 : PySem.W.codeIn K cd13 "posts_of_people" = true) (k13 : PySem.W.keepIn K (.ref f13) = true)
    (a14 : PySem.W.nsIn K mainGlobals "require_holder" = some (some (.ref f14))) (l14 : K.lookup f14 = some ⟨oc14, od14, .func (PySem.W.fnOf "require_holder" "require_holder" (defArgs sReqHolder) (defBody sReqHolder) (defScope sReqHolder) .none kV14 dc14 pm14 an14 cd14 ct14), sl14⟩) (c14 : PySem.W.codeIn K cd14 "require_holder" = true) (k14 : PySem.W.keepIn K (.ref f14) = true)
    (a15 : PySem.W.nsIn K mainGlobals "require_people" = some (some (.ref f15))) (l15 : K.lookup f15 = some ⟨oc15, od15, .func (PySem.W.fnOf "require_people" "require_people" (defArgs sReqPeople) (defBody sReqPeople) (defScope sReqPeople) .none kV15 dc15 pm15 an15 cd15 ct15), sl15⟩) (c15 : PySem.W.codeIn K cd15 "require_people" = true) (k15 : PySem.W.keepIn K (.ref f15) = true)
    (a16 : PySem.W.nsIn K mainGlobals "is_open" = some (some (.ref f16))) (l16 : K.lookup f16 = some ⟨oc16, od16, .func (PySem.W.fnOf "is_open" "is_open" (defArgs sIsOpen) (defBody sIsOpen) (defScope sIsOpen) .none kV16 dc16 pm16 an16 cd16 ct16), sl16⟩) (c16 : PySem.W.codeIn K cd16 "is_open" = true) (k16 : PySem.W.keepIn K (.ref f16) = true)
    (a17 : PySem.W.nsIn K mainGlobals "move_up" = some (some (.ref f17))) (l17 : K.lookup f17 = some ⟨oc17, od17, .func (PySem.W.fnOf "move_up" "move_up" (defArgs sMoveUp) (defBody sMoveUp) (defScope sMoveUp) .none kV17 dc17 pm17 an17 cd17 ct17), sl17⟩) (c17 : PySem.W.codeIn K cd17 "move_up" = true) (k17 : PySem.W.keepIn K (.ref f17) = true)
    (a18 : PySem.W.nsIn K mainGlobals "leave_one" = some (some (.ref f18))) (l18 : K.lookup f18 = some ⟨oc18, od18, .func (PySem.W.fnOf "leave_one" "leave_one" (defArgs sLeaveOne) (defBody sLeaveOne) (defScope sLeaveOne) .none kV18 dc18 pm18 an18 cd18 ct18), sl18⟩) (c18 : PySem.W.codeIn K cd18 "leave_one" = true) (k18 : PySem.W.keepIn K (.ref f18) = true)
    (a19 : PySem.W.nsIn K mainGlobals "join_one" = some (some (.ref f19))) (l19 : K.lookup f19 = some ⟨oc19, od19, .func (PySem.W.fnOf "join_one" "join_one" (defArgs sJoinOne) (defBody sJoinOne) (defScope sJoinOne) .none kV19 dc19 pm19 an19 cd19 ct19), sl19⟩) (c19 : PySem.W.codeIn K cd19 "join_one" = true) (k19 : PySem.W.keepIn K (.ref f19) = true)
    (a20 : PySem.W.nsIn K mainGlobals "post_of" = some (some (.ref f20))) (l20 : K.lookup f20 = some ⟨oc20, od20, .func (PySem.W.fnOf "post_of" "post_of" (defArgs sPostOf) (defBody sPostOf) (defScope sPostOf) .none kV20 dc20 pm20 an20 cd20 ct20), sl20⟩) (c20 : PySem.W.codeIn K cd20 "post_of" = true) (k20 : PySem.W.keepIn K (.ref f20) = true)
    (a21 : PySem.W.nsIn K mainGlobals "open_posts" = some (some (.ref f21))) (l21 : K.lookup f21 = some ⟨oc21, od21, .func (PySem.W.fnOf "open_posts" "open_posts" (defArgs sOpenPosts) (defBody sOpenPosts) (defScope sOpenPosts) .none kV21 dc21 pm21 an21 cd21 ct21), sl21⟩) (c21 : PySem.W.codeIn K cd21 "open_posts" = true) (k21 : PySem.W.keepIn K (.ref f21) = true)
    (a22 : PySem.W.nsIn K mainGlobals "join" = some (some (.ref f22))) (l22 : K.lookup f22 = some ⟨oc22, od22, .func (PySem.W.fnOf "join" "join" (defArgs sJoin) (defBody sJoin) (defScope sJoin) .none kV22 dc22 pm22 an22 cd22 ct22), sl22⟩) (c22 : PySem.W.codeIn K cd22 "join" = true) (k22 : PySem.W.keepIn K (.ref f22) = true)
    (a23 : PySem.W.nsIn K mainGlobals "reduced_arrangement" = some (some (.ref f23))) (l23 : K.lookup f23 = some ⟨oc23, od23, .func (PySem.W.fnOf "reduced_arrangement" "reduced_arrangement" (defArgs sRedArr) (defBody sRedArr) (defScope sRedArr) .none kV23 dc23 pm23 an23 cd23 ct23), sl23⟩) (c23 : PySem.W.codeIn K cd23 "reduced_arrangement" = true) (k23 : PySem.W.keepIn K (.ref f23) = true)
    (a24 : PySem.W.nsIn K mainGlobals "reduced" = some (some (.ref f24))) (l24 : K.lookup f24 = some ⟨oc24, od24, .func (PySem.W.fnOf "reduced" "reduced" (defArgs sReduced) (defBody sReduced) (defScope sReduced) .none kV24 dc24 pm24 an24 cd24 ct24), sl24⟩) (c24 : PySem.W.codeIn K cd24 "reduced" = true) (k24 : PySem.W.keepIn K (.ref f24) = true)
    (a25 : PySem.W.nsIn K mainGlobals "leave" = some (some (.ref f25))) (l25 : K.lookup f25 = some ⟨oc25, od25, .func (PySem.W.fnOf "leave" "leave" (defArgs sLeave) (defBody sLeave) (defScope sLeave) .none kV25 dc25 pm25 an25 cd25 ct25), sl25⟩) (c25 : PySem.W.codeIn K cd25 "leave" = true) (k25 : PySem.W.keepIn K (.ref f25) = true)
    (a26 : PySem.W.nsIn K mainGlobals "require_standing" = some (some (.ref f26))) (l26 : K.lookup f26 = some ⟨oc26, od26, .func (PySem.W.fnOf "require_standing" "require_standing" (defArgs sReqStanding) (defBody sReqStanding) (defScope sReqStanding) .none kV26 dc26 pm26 an26 cd26 ct26), sl26⟩) (c26 : PySem.W.codeIn K cd26 "require_standing" = true) (k26 : PySem.W.keepIn K (.ref f26) = true)
    (a27 : PySem.W.nsIn K mainGlobals "career" = some (some (.ref f27))) (l27 : K.lookup f27 = some ⟨oc27, od27, .func (PySem.W.fnOf "career" "career" (defArgs sCareer) (defBody sCareer) (defScope sCareer) .none kV27 dc27 pm27 an27 cd27 ct27), sl27⟩) (c27 : PySem.W.codeIn K cd27 "career" = true) (k27 : PySem.W.keepIn K (.ref f27) = true)
    (a28 : PySem.W.nsIn K mainGlobals "chain" = some (some (.ref f28))) (l28 : K.lookup f28 = some ⟨oc28, od28, .func (PySem.W.fnOf "chain" "chain" (defArgs sChain) (defBody sChain) (defScope sChain) .none kV28 dc28 pm28 an28 cd28 ct28), sl28⟩) (c28 : PySem.W.codeIn K cd28 "chain" = true) (k28 : PySem.W.keepIn K (.ref f28) = true)
    (a29 : PySem.W.nsIn K mainGlobals "_law_cell" = some (some (.ref f29))) (l29 : K.lookup f29 = some ⟨oc29, od29, .func (PySem.W.fnOf "_law_cell" "_law_cell" (defArgs sCell) (defBody sCell) (defScope sCell) .none kV29 dc29 pm29 an29 cd29 ct29), sl29⟩) (c29 : PySem.W.codeIn K cd29 "_law_cell" = true) (k29 : PySem.W.keepIn K (.ref f29) = true)
    (a30 : PySem.W.nsIn K mainGlobals "_law_hash" = some (some (.ref f30))) (l30 : K.lookup f30 = some ⟨oc30, od30, .func (PySem.W.fnOf "_law_hash" "_law_hash" (defArgs sHash) (defBody sHash) (defScope sHash) .none kV30 dc30 pm30 an30 cd30 ct30), sl30⟩) (c30 : PySem.W.codeIn K cd30 "_law_hash" = true) (k30 : PySem.W.keepIn K (.ref f30) = true)
    (a31 : PySem.W.nsIn K mainGlobals "_law_generator" = some (some (.ref f31))) (l31 : K.lookup f31 = some ⟨oc31, od31, .func (PySem.W.fnOf "_law_generator" "_law_generator" (defArgs sGenerator) (defBody sGenerator) (defScope sGenerator) .none kV31 dc31 pm31 an31 cd31 ct31), sl31⟩) (c31 : PySem.W.codeIn K cd31 "_law_generator" = true) (k31 : PySem.W.keepIn K (.ref f31) = true)
    (a32 : PySem.W.nsIn K mainGlobals "_law_random" = some (some (.ref f32))) (l32 : K.lookup f32 = some ⟨oc32, od32, .func (PySem.W.fnOf "_law_random" "_law_random" (defArgs sRandom) (defBody sRandom) (defScope sRandom) .none kV32 dc32 pm32 an32 cd32 ct32), sl32⟩) (c32 : PySem.W.codeIn K cd32 "_law_random" = true) (k32 : PySem.W.keepIn K (.ref f32) = true)
    (a33 : PySem.W.nsIn K mainGlobals "_law_shuffled" = some (some (.ref f33))) (l33 : K.lookup f33 = some ⟨oc33, od33, .func (PySem.W.fnOf "_law_shuffled" "_law_shuffled" (defArgs sShuffled) (defBody sShuffled) (defScope sShuffled) .none kV33 dc33 pm33 an33 cd33 ct33), sl33⟩) (c33 : PySem.W.codeIn K cd33 "_law_shuffled" = true) (k33 : PySem.W.keepIn K (.ref f33) = true)
    (a34 : PySem.W.nsIn K mainGlobals "_law_random_chart" = some (some (.ref f34))) (l34 : K.lookup f34 = some ⟨oc34, od34, .func (PySem.W.fnOf "_law_random_chart" "_law_random_chart" (defArgs sRandChart) (defBody sRandChart) (defScope sRandChart) .none kV34 dc34 pm34 an34 cd34 ct34), sl34⟩) (c34 : PySem.W.codeIn K cd34 "_law_random_chart" = true) (k34 : PySem.W.keepIn K (.ref f34) = true)
    (a35 : PySem.W.nsIn K mainGlobals "_law_names" = some (some (.ref f35))) (l35 : K.lookup f35 = some ⟨oc35, od35, .func (PySem.W.fnOf "_law_names" "_law_names" (defArgs sNames) (defBody sNames) (defScope sNames) .none kV35 dc35 pm35 an35 cd35 ct35), sl35⟩) (c35 : PySem.W.codeIn K cd35 "_law_names" = true) (k35 : PySem.W.keepIn K (.ref f35) = true)
    (a36 : PySem.W.nsIn K mainGlobals "_law_open" = some (some (.ref f36))) (l36 : K.lookup f36 = some ⟨oc36, od36, .func (PySem.W.fnOf "_law_open" "_law_open" (defArgs sLOpen) (defBody sLOpen) (defScope sLOpen) .none kV36 dc36 pm36 an36 cd36 ct36), sl36⟩) (c36 : PySem.W.codeIn K cd36 "_law_open" = true) (k36 : PySem.W.keepIn K (.ref f36) = true)
    (a37 : PySem.W.nsIn K mainGlobals "_law_filled" = some (some (.ref f37))) (l37 : K.lookup f37 = some ⟨oc37, od37, .func (PySem.W.fnOf "_law_filled" "_law_filled" (defArgs sFilled) (defBody sFilled) (defScope sFilled) .none kV37 dc37 pm37 an37 cd37 ct37), sl37⟩) (c37 : PySem.W.codeIn K cd37 "_law_filled" = true) (k37 : PySem.W.keepIn K (.ref f37) = true)
    (a38 : PySem.W.nsIn K mainGlobals "_law_held" = some (some (.ref f38))) (l38 : K.lookup f38 = some ⟨oc38, od38, .func (PySem.W.fnOf "_law_held" "_law_held" (defArgs sHeld) (defBody sHeld) (defScope sHeld) .none kV38 dc38 pm38 an38 cd38 ct38), sl38⟩) (c38 : PySem.W.codeIn K cd38 "_law_held" = true) (k38 : PySem.W.keepIn K (.ref f38) = true)
    (a39 : PySem.W.nsIn K mainGlobals "_law_some" = some (some (.ref f39))) (l39 : K.lookup f39 = some ⟨oc39, od39, .func (PySem.W.fnOf "_law_some" "_law_some" (defArgs sSome) (defBody sSome) (defScope sSome) .none kV39 dc39 pm39 an39 cd39 ct39), sl39⟩) (c39 : PySem.W.codeIn K cd39 "_law_some" = true) (k39 : PySem.W.keepIn K (.ref f39) = true)
    (a40 : PySem.W.nsIn K mainGlobals "_law_together" = some (some (.ref f40))) (l40 : K.lookup f40 = some ⟨oc40, od40, .func (PySem.W.fnOf "_law_together" "_law_together" (defArgs sTogether) (defBody sTogether) (defScope sTogether) .none kV40 dc40 pm40 an40 cd40 ct40), sl40⟩) (c40 : PySem.W.codeIn K cd40 "_law_together" = true) (k40 : PySem.W.keepIn K (.ref f40) = true)
    (a41 : PySem.W.nsIn K mainGlobals "_law_charts_right" = some (some (.ref f41))) (l41 : K.lookup f41 = some ⟨oc41, od41, .func (PySem.W.fnOf "_law_charts_right" "_law_charts_right" (defArgs sChartsRight) (defBody sChartsRight) (defScope sChartsRight) .none kV41 dc41 pm41 an41 cd41 ct41), sl41⟩) (c41 : PySem.W.codeIn K cd41 "_law_charts_right" = true) (k41 : PySem.W.keepIn K (.ref f41) = true)
    (a42 : PySem.W.nsIn K mainGlobals "_law_branch_right" = some (some (.ref f42))) (l42 : K.lookup f42 = some ⟨oc42, od42, .func (PySem.W.fnOf "_law_branch_right" "_law_branch_right" (defArgs sBranchRight) (defBody sBranchRight) (defScope sBranchRight) .none kV42 dc42 pm42 an42 cd42 ct42), sl42⟩) (c42 : PySem.W.codeIn K cd42 "_law_branch_right" = true) (k42 : PySem.W.keepIn K (.ref f42) = true)
    (a43 : PySem.W.nsIn K mainGlobals "_law_head_right" = some (some (.ref f43))) (l43 : K.lookup f43 = some ⟨oc43, od43, .func (PySem.W.fnOf "_law_head_right" "_law_head_right" (defArgs sHeadRight) (defBody sHeadRight) (defScope sHeadRight) .none kV43 dc43 pm43 an43 cd43 ct43), sl43⟩) (c43 : PySem.W.codeIn K cd43 "_law_head_right" = true) (k43 : PySem.W.keepIn K (.ref f43) = true)
    (a44 : PySem.W.nsIn K mainGlobals "_law_lists_right" = some (some (.ref f44))) (l44 : K.lookup f44 = some ⟨oc44, od44, .func (PySem.W.fnOf "_law_lists_right" "_law_lists_right" (defArgs sListsRight) (defBody sListsRight) (defScope sListsRight) .none kV44 dc44 pm44 an44 cd44 ct44), sl44⟩) (c44 : PySem.W.codeIn K cd44 "_law_lists_right" = true) (k44 : PySem.W.keepIn K (.ref f44) = true)
    (a45 : PySem.W.nsIn K mainGlobals "law" = some (some (.ref f45))) (l45 : K.lookup f45 = some ⟨oc45, od45, .func (PySem.W.fnOf "law" "law" (defArgs sLaw) (defBody sLaw) (defScope sLaw) .none kV45 dc45 pm45 an45 cd45 ct45), sl45⟩) (c45 : PySem.W.codeIn K cd45 "law" = true) (k45 : PySem.W.keepIn K (.ref f45) = true)
    (pg : PySem.W.plainGet K C Str.empty = true) (hd : PySem.W.hasDictIn K C = true) (po : PySem.W.plainOver K C = true) (sa : PySem.W.findIn K (.ref C) "__setattr__" = some (some (.builtin "object.__setattr__"))) (mk : PySem.W.makesIn K C = true) (kc : PySem.W.keepIn K (.ref C) = true)
    (nA : PySem.W.findIn K (.ref C) "above" = some none) (nB : PySem.W.findIn K (.ref C) "below" = some none)
    (z0 : PySem.W.nsIn K mainGlobals "isinstance" = some none) (z1 : PySem.W.nsIn K mainGlobals "int" = some none) (z2 : PySem.W.nsIn K mainGlobals "bool" = some none) (z3 : PySem.W.nsIn K mainGlobals "tuple" = some none) (z4 : PySem.W.nsIn K mainGlobals "list" = some none) (z5 : PySem.W.nsIn K mainGlobals "range" = some none) (z6 : PySem.W.nsIn K mainGlobals "enumerate" = some none) (z7 : PySem.W.nsIn K mainGlobals "zip" = some none) (z8 : PySem.W.nsIn K mainGlobals "min" = some none) (z9 : PySem.W.nsIn K mainGlobals "max" = some none) (z10 : PySem.W.nsIn K mainGlobals "sorted" = some none) (z11 : PySem.W.nsIn K mainGlobals "len" = some none) :
    ∃ fd : FuncData, (∀ (s : Shared) (v : Value), BindsTo s fd ⟨[v], []⟩ [("_law_script", v)]) ∧ ∀ base : Heap, K.In base → base.Ns mainGlobals mg → FnOk l.prog w K mg base CX0 12 fa fd ["_law_script"] (spLaw K) := by
  have e := hfa.symm.trans (PySem.W.mg_of X G a45)
  cases e
  have T : TTx K mg C := ⟨⟨pg, hd, po, sa⟩, nA, nB, PySem.W.mg_of X G aC⟩
  have B : Bt mg := ⟨PySem.W.mg_none_of X G z0, PySem.W.mg_none_of X G z1, PySem.W.mg_none_of X G z2, PySem.W.mg_none_of X G z3, PySem.W.mg_none_of X G z4, PySem.W.mg_none_of X G z5, PySem.W.mg_none_of X G z6, PySem.W.mg_none_of X G z7, PySem.W.mg_none_of X G z8, PySem.W.mg_none_of X G z9, PySem.W.mg_none_of X G z10, PySem.W.mg_none_of X G z11⟩
  have Fm1 := fun_mk (st := sTInit) lm1 cm1 km1
  have bm1 := Fm1.binds (ps := ["self", "chart"]) fun _ _ _ _ _ _ us hl => match us, hl with | [_, _], _ => rfl
  have Fm2 := fun_mk (st := sTPath) lm2 cm2 km2
  have bm2 := Fm2.binds (ps := ["self", "post"]) fun _ _ _ _ _ _ us hl => match us, hl with | [_, _], _ => rfl
  have Fm3 := fun_mk (st := sTBelow) lm3 cm3 km3
  have bm3 := Fm3.binds (ps := ["self", "post", "top"]) fun _ _ _ _ _ _ us hl => match us, hl with | [_, _, _], _ => rfl
  have F1 := fun_mk (st := sWhole) l1 c1 k1
  have G1 : Gn K mg "is_whole" sWhole ["value"] := ⟨_, _, F1, PySem.W.mg_of X G a1, F1.binds (ps := ["value"]) fun _ _ _ _ _ _ us hl => match us, hl with | [_], _ => rfl⟩
  have F2 := fun_mk (st := sPerson) l2 c2 k2
  have G2 : Gn K mg "is_person" sPerson ["value"] := ⟨_, _, F2, PySem.W.mg_of X G a2, F2.binds (ps := ["value"]) fun _ _ _ _ _ _ us hl => match us, hl with | [_], _ => rfl⟩
  have F3 := fun_mk (st := sChartFault) l3 c3 k3
  have G3 : Gn K mg "chart_fault" sChartFault ["value"] := ⟨_, _, F3, PySem.W.mg_of X G a3, F3.binds (ps := ["value"]) fun _ _ _ _ _ _ us hl => match us, hl with | [_], _ => rfl⟩
  have F4 := fun_mk (st := sReqChart) l4 c4 k4
  have G4 : Gn K mg "require_chart" sReqChart ["chart"] := ⟨_, _, F4, PySem.W.mg_of X G a4, F4.binds (ps := ["chart"]) fun _ _ _ _ _ _ us hl => match us, hl with | [_], _ => rfl⟩
  have F5 := fun_mk (st := sReqPost) l5 c5 k5
  have G5 : Gn K mg "require_post" sReqPost ["chart", "post"] := ⟨_, _, F5, PySem.W.mg_of X G a5, F5.binds (ps := ["chart", "post"]) fun _ _ _ _ _ _ us hl => match us, hl with | [_, _], _ => rfl⟩
  have F6 := fun_mk (st := sPathTo) l6 c6 k6
  have G6 : Gn K mg "path_to" sPathTo ["chart", "post"] := ⟨_, _, F6, PySem.W.mg_of X G a6, F6.binds (ps := ["chart", "post"]) fun _ _ _ _ _ _ us hl => match us, hl with | [_, _], _ => rfl⟩
  have F7 := fun_mk (st := sPostsBelow) l7 c7 k7
  have G7 : Gn K mg "posts_below" sPostsBelow ["chart", "post"] := ⟨_, _, F7, PySem.W.mg_of X G a7, F7.binds (ps := ["chart", "post"]) fun _ _ _ _ _ _ us hl => match us, hl with | [_, _], _ => rfl⟩
  have F8 := fun_mk (st := sFirstFault) l8 c8 k8
  have G8 : Gn K mg "first_fault" sFirstFault ["word", "faults"] := ⟨_, _, F8, PySem.W.mg_of X G a8, F8.binds (ps := ["word", "faults"]) fun _ _ _ _ _ _ us hl => match us, hl with | [_, _], _ => rfl⟩
  have F9 := fun_mk (st := sRepeats) l9 c9 k9
  have G9 : Gn K mg "repeats" sRepeats ["items"] := ⟨_, _, F9, PySem.W.mg_of X G a9, F9.binds (ps := ["items"]) fun _ _ _ _ _ _ us hl => match us, hl with | [_], _ => rfl⟩
  have F10 := fun_mk (st := sOutOfOrder) l10 c10 k10
  have G10 : Gn K mg "is_out_of_order" sOutOfOrder ["chart", "value", "post"] := ⟨_, _, F10, PySem.W.mg_of X G a10, F10.binds (ps := ["chart", "value", "post"]) fun _ _ _ _ _ _ us hl => match us, hl with | [_, _, _], _ => rfl⟩
  have F11 := fun_mk (st := sArrFault) l11 c11 k11
  have G11 : Gn K mg "arrangement_fault" sArrFault ["chart", "value"] := ⟨_, _, F11, PySem.W.mg_of X G a11, F11.binds (ps := ["chart", "value"]) fun _ _ _ _ _ _ us hl => match us, hl with | [_, _], _ => rfl⟩
  have F12 := fun_mk (st := sReqArr) l12 c12 k12
  have G12 : Gn K mg "require_arrangement" sReqArr ["chart", "arrangement"] := ⟨_, _, F12, PySem.W.mg_of X G a12, F12.binds (ps := ["chart", "arrangement"]) fun _ _ _ _ _ _ us hl => match us, hl with | [_, _], _ => rfl⟩
  have F13 := fun_mk (st := sPostsOf) l13 c13 k13
  have G13 : Gn K mg "posts_of_people" sPostsOf ["arrangement"] := ⟨_, _, F13, PySem.W.mg_of X G a13, F13.binds (ps := ["arrangement"]) fun _ _ _ _ _ _ us hl => match us, hl with | [_], _ => rfl⟩
  have F14 := fun_mk (st := sReqHolder) l14 c14 k14
  have G14 : Gn K mg "require_holder" sReqHolder ["arrangement", "person"] := ⟨_, _, F14, PySem.W.mg_of X G a14, F14.binds (ps := ["arrangement", "person"]) fun _ _ _ _ _ _ us hl => match us, hl with | [_, _], _ => rfl⟩
  have F15 := fun_mk (st := sReqPeople) l15 c15 k15
  have G15 : Gn K mg "require_people" sReqPeople ["arrangement", "people"] := ⟨_, _, F15, PySem.W.mg_of X G a15, F15.binds (ps := ["arrangement", "people"]) fun _ _ _ _ _ _ us hl => match us, hl with | [_, _], _ => rfl⟩
  have F16 := fun_mk (st := sIsOpen) l16 c16 k16
  have G16 : Gn K mg "is_open" sIsOpen ["tree", "rows", "post"] := ⟨_, _, F16, PySem.W.mg_of X G a16, F16.binds (ps := ["tree", "rows", "post"]) fun _ _ _ _ _ _ us hl => match us, hl with | [_, _, _], _ => rfl⟩
  have F17 := fun_mk (st := sMoveUp) l17 c17 k17
  have G17 : Gn K mg "move_up" sMoveUp ["tree", "rows", "post"] := ⟨_, _, F17, PySem.W.mg_of X G a17, F17.binds (ps := ["tree", "rows", "post"]) fun _ _ _ _ _ _ us hl => match us, hl with | [_, _, _], _ => rfl⟩
  have F18 := fun_mk (st := sLeaveOne) l18 c18 k18
  have G18 : Gn K mg "leave_one" sLeaveOne ["tree", "rows", "person"] := ⟨_, _, F18, PySem.W.mg_of X G a18, F18.binds (ps := ["tree", "rows", "person"]) fun _ _ _ _ _ _ us hl => match us, hl with | [_, _, _], _ => rfl⟩
  have F19 := fun_mk (st := sJoinOne) l19 c19 k19
  have G19 : Gn K mg "join_one" sJoinOne ["tree", "rows", "person", "post"] := ⟨_, _, F19, PySem.W.mg_of X G a19, F19.binds (ps := ["tree", "rows", "person", "post"]) fun _ _ _ _ _ _ us hl => match us, hl with | [_, _, _, _], _ => rfl⟩
  have F20 := fun_mk (st := sPostOf) l20 c20 k20
  have G20 : Gn K mg "post_of" sPostOf ["chart", "arrangement", "person"] := ⟨_, _, F20, PySem.W.mg_of X G a20, F20.binds (ps := ["chart", "arrangement", "person"]) fun _ _ _ _ _ _ us hl => match us, hl with | [_, _, _], _ => rfl⟩
  have F21 := fun_mk (st := sOpenPosts) l21 c21 k21
  have G21 : Gn K mg "open_posts" sOpenPosts ["chart", "arrangement"] := ⟨_, _, F21, PySem.W.mg_of X G a21, F21.binds (ps := ["chart", "arrangement"]) fun _ _ _ _ _ _ us hl => match us, hl with | [_, _], _ => rfl⟩
  have F22 := fun_mk (st := sJoin) l22 c22 k22
  have G22 : Gn K mg "join" sJoin ["chart", "arrangement", "person", "post"] := ⟨_, _, F22, PySem.W.mg_of X G a22, F22.binds (ps := ["chart", "arrangement", "person", "post"]) fun _ _ _ _ _ _ us hl => match us, hl with | [_, _, _, _], _ => rfl⟩
  have F23 := fun_mk (st := sRedArr) l23 c23 k23
  have G23 : Gn K mg "reduced_arrangement" sRedArr ["tree", "arrangement", "people"] := ⟨_, _, F23, PySem.W.mg_of X G a23, F23.binds (ps := ["tree", "arrangement", "people"]) fun _ _ _ _ _ _ us hl => match us, hl with | [_, _, _], _ => rfl⟩
  have F24 := fun_mk (st := sReduced) l24 c24 k24
  have G24 : Gn K mg "reduced" sReduced ["chart", "arrangement", "people"] := ⟨_, _, F24, PySem.W.mg_of X G a24, F24.binds (ps := ["chart", "arrangement", "people"]) fun _ _ _ _ _ _ us hl => match us, hl with | [_, _, _], _ => rfl⟩
  have F25 := fun_mk (st := sLeave) l25 c25 k25
  have F26 := fun_mk (st := sReqStanding) l26 c26 k26
  have G26 : Gn K mg "require_standing" sReqStanding ["chart", "arrangement", "leavers", "person"] := ⟨_, _, F26, PySem.W.mg_of X G a26, F26.binds (ps := ["chart", "arrangement", "leavers", "person"]) fun _ _ _ _ _ _ us hl => match us, hl with | [_, _, _, _], _ => rfl⟩
  have F27 := fun_mk (st := sCareer) l27 c27 k27
  have G27 : Gn K mg "career" sCareer ["chart", "arrangement", "leavers", "person"] := ⟨_, _, F27, PySem.W.mg_of X G a27, F27.binds (ps := ["chart", "arrangement", "leavers", "person"]) fun _ _ _ _ _ _ us hl => match us, hl with | [_, _, _, _], _ => rfl⟩
  have F28 := fun_mk (st := sChain) l28 c28 k28
  have G28 : Gn K mg "chain" sChain ["chart", "arrangement", "person"] := ⟨_, _, F28, PySem.W.mg_of X G a28, F28.binds (ps := ["chart", "arrangement", "person"]) fun _ _ _ _ _ _ us hl => match us, hl with | [_, _, _], _ => rfl⟩
  have F29 := fun_mk (st := sCell) l29 c29 k29
  have G29 : Gn K mg "_law_cell" sCell ["_law_script", "_law_index"] := ⟨_, _, F29, PySem.W.mg_of X G a29, F29.binds (ps := ["_law_script", "_law_index"]) fun _ _ _ _ _ _ us hl => match us, hl with | [_, _], _ => rfl⟩
  have F30 := fun_mk (st := sHash) l30 c30 k30
  have G30 : Gn K mg "_law_hash" sHash ["_law_seed", "_law_index"] := ⟨_, _, F30, PySem.W.mg_of X G a30, F30.binds (ps := ["_law_seed", "_law_index"]) fun _ _ _ _ _ _ us hl => match us, hl with | [_, _], _ => rfl⟩
  have F31 := fun_mk (st := sGenerator) l31 c31 k31
  have G31 : Gn K mg "_law_generator" sGenerator ["_law_script", "_law_index"] := ⟨_, _, F31, PySem.W.mg_of X G a31, F31.binds (ps := ["_law_script", "_law_index"]) fun _ _ _ _ _ _ us hl => match us, hl with | [_, _], _ => rfl⟩
  have F32 := fun_mk (st := sRandom) l32 c32 k32
  have G32 : Gn K mg "_law_random" sRandom ["_law_generator_here", "_law_bound"] := ⟨_, _, F32, PySem.W.mg_of X G a32, F32.binds (ps := ["_law_generator_here", "_law_bound"]) fun _ _ _ _ _ _ us hl => match us, hl with | [_, _], _ => rfl⟩
  have F33 := fun_mk (st := sShuffled) l33 c33 k33
  have G33 : Gn K mg "_law_shuffled" sShuffled ["_law_generator_here", "_law_items"] := ⟨_, _, F33, PySem.W.mg_of X G a33, F33.binds (ps := ["_law_generator_here", "_law_items"]) fun _ _ _ _ _ _ us hl => match us, hl with | [_, _], _ => rfl⟩
  have F34 := fun_mk (st := sRandChart) l34 c34 k34
  have G34 : Gn K mg "_law_random_chart" sRandChart ["_law_generator_here", "_law_most"] := ⟨_, _, F34, PySem.W.mg_of X G a34, F34.binds (ps := ["_law_generator_here", "_law_most"]) fun _ _ _ _ _ _ us hl => match us, hl with | [_, _], _ => rfl⟩
  have F35 := fun_mk (st := sNames) l35 c35 k35
  have G35 : Gn K mg "_law_names" sNames ["_law_generator_here", "_law_count"] := ⟨_, _, F35, PySem.W.mg_of X G a35, F35.binds (ps := ["_law_generator_here", "_law_count"]) fun _ _ _ _ _ _ us hl => match us, hl with | [_, _], _ => rfl⟩
  have F36 := fun_mk (st := sLOpen) l36 c36 k36
  have G36 : Gn K mg "_law_open" sLOpen ["_law_tree", "_law_rows"] := ⟨_, _, F36, PySem.W.mg_of X G a36, F36.binds (ps := ["_law_tree", "_law_rows"]) fun _ _ _ _ _ _ us hl => match us, hl with | [_, _], _ => rfl⟩
  have F37 := fun_mk (st := sFilled) l37 c37 k37
  have G37 : Gn K mg "_law_filled" sFilled ["_law_generator_here", "_law_tree", "_law_names_here"] := ⟨_, _, F37, PySem.W.mg_of X G a37, F37.binds (ps := ["_law_generator_here", "_law_tree", "_law_names_here"]) fun _ _ _ _ _ _ us hl => match us, hl with | [_, _, _], _ => rfl⟩
  have F38 := fun_mk (st := sHeld) l38 c38 k38
  have G38 : Gn K mg "_law_held" sHeld ["_law_rows"] := ⟨_, _, F38, PySem.W.mg_of X G a38, F38.binds (ps := ["_law_rows"]) fun _ _ _ _ _ _ us hl => match us, hl with | [_], _ => rfl⟩
  have F39 := fun_mk (st := sSome) l39 c39 k39
  have G39 : Gn K mg "_law_some" sSome ["_law_generator_here", "_law_names_here"] := ⟨_, _, F39, PySem.W.mg_of X G a39, F39.binds (ps := ["_law_generator_here", "_law_names_here"]) fun _ _ _ _ _ _ us hl => match us, hl with | [_, _], _ => rfl⟩
  have F40 := fun_mk (st := sTogether) l40 c40 k40
  have G40 : Gn K mg "_law_together" sTogether ["_law_first", "_law_second"] := ⟨_, _, F40, PySem.W.mg_of X G a40, F40.binds (ps := ["_law_first", "_law_second"]) fun _ _ _ _ _ _ us hl => match us, hl with | [_, _], _ => rfl⟩
  have F41 := fun_mk (st := sChartsRight) l41 c41 k41
  have G41 : Gn K mg "_law_charts_right" sChartsRight ["_law_tree", "_law_parts", "_law_starts"] := ⟨_, _, F41, PySem.W.mg_of X G a41, F41.binds (ps := ["_law_tree", "_law_parts", "_law_starts"]) fun _ _ _ _ _ _ us hl => match us, hl with | [_, _, _], _ => rfl⟩
  have F42 := fun_mk (st := sBranchRight) l42 c42 k42
  have G42 : Gn K mg "_law_branch_right" sBranchRight ["_law_tree", "_law_parts", "_law_rows", "_law_both", "_law_starts", "_law_which"] := ⟨_, _, F42, PySem.W.mg_of X G a42, F42.binds (ps := ["_law_tree", "_law_parts", "_law_rows", "_law_both", "_law_starts", "_law_which"]) fun _ _ _ _ _ _ us hl => match us, hl with | [_, _, _, _, _, _], _ => rfl⟩
  have F43 := fun_mk (st := sHeadRight) l43 c43 k43
  have G43 : Gn K mg "_law_head_right" sHeadRight ["_law_tree", "_law_parts", "_law_rows", "_law_both", "_law_starts"] := ⟨_, _, F43, PySem.W.mg_of X G a43, F43.binds (ps := ["_law_tree", "_law_parts", "_law_rows", "_law_both", "_law_starts"]) fun _ _ _ _ _ _ us hl => match us, hl with | [_, _, _, _, _], _ => rfl⟩
  have F44 := fun_mk (st := sListsRight) l44 c44 k44
  have G44 : Gn K mg "_law_lists_right" sListsRight ["_law_generator_here", "_law_tree", "_law_parts", "_law_rows", "_law_both", "_law_starts"] := ⟨_, _, F44, PySem.W.mg_of X G a44, F44.binds (ps := ["_law_generator_here", "_law_tree", "_law_parts", "_law_rows", "_law_both", "_law_starts"]) fun _ _ _ _ _ _ us hl => match us, hl with | [_, _, _, _, _, _], _ => rfl⟩
  have F45 := fun_mk (st := sLaw) l45 c45 k45
  refine ⟨PySem.W.fnOf "law" "law" (defArgs sLaw) (defBody sLaw) (defScope sLaw) .none kV45 dc45 pm45 an45 cd45 ct45, fun s v => .of_eq rfl, fun base _ _ => ?_⟩
  have Mi := c_tinit (P := l.prog) (w := w) (base := base) Fm1 T B
  have Mp := c_tpath (P := l.prog) (w := w) (base := base) Fm2 T
  have Mb := c_tbelow (P := l.prog) (w := w) (base := base) Fm3 T
  have Z : Tr l.prog w K mg base C := ⟨T, ⟨_, _, ⟨mk, am1, im1, kc⟩, Mi, bm1⟩, ⟨_, _, ⟨am2, im2, km2⟩, Mp, bm2⟩, ⟨_, _, ⟨am3, im3, km3⟩, Mb, bm3⟩⟩
  have cWhole := c_whole (P := l.prog) (w := w) (base := base) G1 B
  have cPerson := c_person (P := l.prog) (w := w) (base := base) G2 cWhole
  have cChartFault := c_chart_fault (P := l.prog) (w := w) (base := base) G3 B cWhole
  have cReqChart := c_req_chart (P := l.prog) (w := w) (base := base) G4 cChartFault
  have cReqPost := c_req_post (P := l.prog) (w := w) (base := base) G5 B cWhole
  have cPathTo := c_path_to (P := l.prog) (w := w) (base := base) G6 Z cReqChart cReqPost
  have cBelow := c_posts_below (P := l.prog) (w := w) (base := base) G7 B Z cReqChart cReqPost
  have cFirst := c_first_fault (P := l.prog) (w := w) (base := base) G8 B
  have cRep := c_repeats (P := l.prog) (w := w) (base := base) G9 B
  have cOut := c_out_of_order (P := l.prog) (w := w) (base := base) G10
  have cArrF := c_arr_fault (P := l.prog) (w := w) (base := base) G11 B cPerson cFirst cRep cOut
  have cReqArr := c_req_arr (P := l.prog) (w := w) (base := base) G12 cArrF
  have cPostsOf := c_posts_of (P := l.prog) (w := w) (base := base) G13 B
  have cReqHold := c_req_holder (P := l.prog) (w := w) (base := base) G14 cPerson
  have cReqPeop := c_req_people (P := l.prog) (w := w) (base := base) G15 B cPerson
  have cIsOpen := c_is_open (P := l.prog) (w := w) (base := base) G16 T
  have cMove := c_move_up (P := l.prog) (w := w) (base := base) G17 B T
  have cLeaveOne := c_leave_one (P := l.prog) (w := w) (base := base) G18 cMove
  have cJoinOne := c_join_one (P := l.prog) (w := w) (base := base) G19 B Z
  have cPostOf := c_post_of (P := l.prog) (w := w) (base := base) G20 cReqChart cReqArr cPerson cPostsOf
  have cOpenPosts := c_open_posts (P := l.prog) (w := w) (base := base) G21 B Z cReqChart cReqArr cIsOpen
  have cJoin := c_join (P := l.prog) (w := w) (base := base) G22 B Z cReqChart cReqArr cPerson cWhole cIsOpen cJoinOne
  have cRedArr := c_red_arr (P := l.prog) (w := w) (base := base) G23 B Z cPostsOf
  have cReduced := c_reduced (P := l.prog) (w := w) (base := base) G24 Z cReqChart cReqArr cReqPeop cRedArr
  have cLeave := c_leave (P := l.prog) (w := w) (base := base) F25 (PySem.W.mg_of X G a25) B Z cReqChart cReqArr cReqHold cLeaveOne
  have cStand := c_req_standing (P := l.prog) (w := w) (base := base) G26 cReqChart cReqArr cReqPeop cReqHold
  have cCareer := c_career (P := l.prog) (w := w) (base := base) G27 B Z cStand cLeaveOne
  have cCell := c_cell (P := l.prog) (w := w) (base := base) G29 B
  have cHash := c_hash (P := l.prog) (w := w) (base := base) G30 B
  have cGen := c_generator (P := l.prog) (w := w) (base := base) G31 B cCell
  have cRandom := c_random (P := l.prog) (w := w) (base := base) G32 B cHash
  have cShuf := c_shuffled (P := l.prog) (w := w) (base := base) G33 B cRandom
  have cRChart := c_rand_chart (P := l.prog) (w := w) (base := base) G34 B cRandom
  have cNames := c_names (P := l.prog) (w := w) (base := base) G35 B cRandom
  have cLOpen := c_lopen (P := l.prog) (w := w) (base := base) G36 B
  have cFilled := c_filled (P := l.prog) (w := w) (base := base) G37 B cRandom cLOpen
  have cHeld := c_held (P := l.prog) (w := w) (base := base) G38 B
  have cSome := c_some (P := l.prog) (w := w) (base := base) G39 cRandom cShuf
  have cTog := c_together (P := l.prog) (w := w) (base := base) G40 B
  have cCharts := c_charts_right (P := l.prog) (w := w) (base := base) G41 B cPathTo cBelow
  have cBranch := c_branch (P := l.prog) (w := w) (base := base) G42 B Z cHeld cLeave G28 cReqChart cReqArr cReqHold cMove cPostOf cOpenPosts cJoin
  have cHead := c_head (P := l.prog) (w := w) (base := base) G43 B Z cLeave G28 cReqChart cReqArr cReqHold cMove
  have cLists := c_lists (P := l.prog) (w := w) (base := base) G44 B cHeld cSome cReduced cCareer cOpenPosts
  exact ok_law F45 B cGen cRChart cNames cShuf cRandom cFilled cTog cBranch cCharts cHead cLists

theorem walk {l : PySem.W.OpenLaw} {q : Program} {loose : List Str} {XP : (Str → Option Value) → Heap → Prop} {YP : World → Heap → Prop} {d : DefRec} {K : Params → PySem.W.Frag} (hn : l.most = some 63) (hdf : d.params.defaults = [])
    (hY : ∀ (w : World) (h : Heap), YP w h → (K w.params).In h)
    (F : ∀ (w : World) (mg : Str → Option Value) (fa : Addr) (h : Heap), (K w.params).In h → h.Ns mainGlobals mg → mg d.name = some (.ref fa) →
      ∃ fd : FuncData, (∀ (s : Shared) (u : Value), BindsTo s fd ⟨[u], []⟩ [("_law_script", u)]) ∧ ∀ base : Heap, (K w.params).In base → base.Ns mainGlobals mg → FnOk l.prog w (K w.params) mg base CX0 12 fa fd ["_law_script"] (spLaw (K w.params))) :
    PySem.W.WalkO q loose XP YP l.row.toRowW d [] (fun f vs => PySem.call f vs) :=
  L2.walk_of (n := 63) (k := 12) (x := "_law_script") (CX := fun _ => CX0) (sp := fun w => spLaw (K w.params)) hn (by decide) hdf ⟨rfl, by decide, by decide⟩ hY F (fun _ _ a ns hl _ hS => ⟨a, ns, rfl, hS, hl, fun _ => rfl⟩) fun _ _ _ _ _ z => z
end Pm


open PySem PySem.W PyProof.Rows in
set_option maxRecDepth 100000 in
set_option maxHeartbeats 0 in
theorem PySem.Challenge.cw_movingup_k84_whole_branches_apart_holds : PySem.Challenge.rw_movingup_k84_whole_branches_apart.Holds := by
  w_on; o_law; k_head; (case hw => w_witness2)
  k_fill
  refine Pm.walk (l := PySem.Challenge.rw_movingup_k84_whole_branches_apart) rfl rfl (fun w h Y => PySem.W.kIn_of Y) ?F
  case F =>
    intro w mg fa h KX G hmg
    refine' Pm.all_mk KX G hmg ?aC ?am1 ?im1 ?lm1 ?cm1 ?km1 ?am2 ?im2 ?lm2 ?cm2 ?km2 ?am3 ?im3 ?lm3 ?cm3 ?km3 ?a1 ?l1 ?c1 ?k1 ?a2 ?l2 ?c2 ?k2 ?a3 ?l3 ?c3 ?k3 ?a4 ?l4 ?c4 ?k4 ?a5 ?l5 ?c5 ?k5 ?a6 ?l6 ?c6 ?k6 ?a7 ?l7 ?c7 ?k7 ?a8 ?l8 ?c8 ?k8 ?a9 ?l9 ?c9 ?k9 ?a10 ?l10 ?c10 ?k10 ?a11 ?l11 ?c11 ?k11 ?a12 ?l12 ?c12 ?k12 ?a13 ?l13 ?c13 ?k13 ?a14 ?l14 ?c14 ?k14 ?a15 ?l15 ?c15 ?k15 ?a16 ?l16 ?c16 ?k16 ?a17 ?l17 ?c17 ?k17 ?a18 ?l18 ?c18 ?k18 ?a19 ?l19 ?c19 ?k19 ?a20 ?l20 ?c20 ?k20 ?a21 ?l21 ?c21 ?k21 ?a22 ?l22 ?c22 ?k22 ?a23 ?l23 ?c23 ?k23 ?a24 ?l24 ?c24 ?k24 ?a25 ?l25 ?c25 ?k25 ?a26 ?l26 ?c26 ?k26 ?a27 ?l27 ?c27 ?k27 ?a28 ?l28 ?c28 ?k28 ?a29 ?l29 ?c29 ?k29 ?a30 ?l30 ?c30 ?k30 ?a31 ?l31 ?c31 ?k31 ?a32 ?l32 ?c32 ?k32 ?a33 ?l33 ?c33 ?k33 ?a34 ?l34 ?c34 ?k34 ?a35 ?l35 ?c35 ?k35 ?a36 ?l36 ?c36 ?k36 ?a37 ?l37 ?c37 ?k37 ?a38 ?l38 ?c38 ?k38 ?a39 ?l39 ?c39 ?k39 ?a40 ?l40 ?c40 ?k40 ?a41 ?l41 ?c41 ?k41 ?a42 ?l42 ?c42 ?k42 ?a43 ?l43 ?c43 ?k43 ?a44 ?l44 ?c44 ?k44 ?a45 ?l45 ?c45 ?k45 ?pg ?hd ?po ?sa ?mk ?kc ?nA ?nB ?z0 ?z1 ?z2 ?z3 ?z4 ?z5 ?z6 ?z7 ?z8 ?z9 ?z10 ?z11
    (case aC => k_is)
    (case am1 => k_is)
    (case im1 => k_is)
    (case lm1 => k_is)
    (case cm1 => k_is)
    (case km1 => k_is)
    (case am2 => k_is)
    (case im2 => k_is)
    (case lm2 => k_is)
    (case cm2 => k_is)
    (case km2 => k_is)
    (case am3 => k_is)
    (case im3 => k_is)
    (case lm3 => k_is)
    (case cm3 => k_is)
    (case km3 => k_is)
    (case a1 => k_is)
    (case l1 => k_is)
    (case c1 => k_is)
    (case k1 => k_is)
    (case a2 => k_is)
    (case l2 => k_is)
    (case c2 => k_is)
    (case k2 => k_is)
    (case a3 => k_is)
    (case l3 => k_is)
    (case c3 => k_is)
    (case k3 => k_is)
    (case a4 => k_is)
    (case l4 => k_is)
    (case c4 => k_is)
    (case k4 => k_is)
    (case a5 => k_is)
    (case l5 => k_is)
    (case c5 => k_is)
    (case k5 => k_is)
    (case a6 => k_is)
    (case l6 => k_is)
    (case c6 => k_is)
    (case k6 => k_is)
    (case a7 => k_is)
    (case l7 => k_is)
    (case c7 => k_is)
    (case k7 => k_is)
    (case a8 => k_is)
    (case l8 => k_is)
    (case c8 => k_is)
    (case k8 => k_is)
    (case a9 => k_is)
    (case l9 => k_is)
    (case c9 => k_is)
    (case k9 => k_is)
    (case a10 => k_is)
    (case l10 => k_is)
    (case c10 => k_is)
    (case k10 => k_is)
    (case a11 => k_is)
    (case l11 => k_is)
    (case c11 => k_is)
    (case k11 => k_is)
    (case a12 => k_is)
    (case l12 => k_is)
    (case c12 => k_is)
    (case k12 => k_is)
    (case a13 => k_is)
    (case l13 => k_is)
    (case c13 => k_is)
    (case k13 => k_is)
    (case a14 => k_is)
    (case l14 => k_is)
    (case c14 => k_is)
    (case k14 => k_is)
    (case a15 => k_is)
    (case l15 => k_is)
    (case c15 => k_is)
    (case k15 => k_is)
    (case a16 => k_is)
    (case l16 => k_is)
    (case c16 => k_is)
    (case k16 => k_is)
    (case a17 => k_is)
    (case l17 => k_is)
    (case c17 => k_is)
    (case k17 => k_is)
    (case a18 => k_is)
    (case l18 => k_is)
    (case c18 => k_is)
    (case k18 => k_is)
    (case a19 => k_is)
    (case l19 => k_is)
    (case c19 => k_is)
    (case k19 => k_is)
    (case a20 => k_is)
    (case l20 => k_is)
    (case c20 => k_is)
    (case k20 => k_is)
    (case a21 => k_is)
    (case l21 => k_is)
    (case c21 => k_is)
    (case k21 => k_is)
    (case a22 => k_is)
    (case l22 => k_is)
    (case c22 => k_is)
    (case k22 => k_is)
    (case a23 => k_is)
    (case l23 => k_is)
    (case c23 => k_is)
    (case k23 => k_is)
    (case a24 => k_is)
    (case l24 => k_is)
    (case c24 => k_is)
    (case k24 => k_is)
    (case a25 => k_is)
    (case l25 => k_is)
    (case c25 => k_is)
    (case k25 => k_is)
    (case a26 => k_is)
    (case l26 => k_is)
    (case c26 => k_is)
    (case k26 => k_is)
    (case a27 => k_is)
    (case l27 => k_is)
    (case c27 => k_is)
    (case k27 => k_is)
    (case a28 => k_is)
    (case l28 => k_is)
    (case c28 => k_is)
    (case k28 => k_is)
    (case a29 => k_is)
    (case l29 => k_is)
    (case c29 => k_is)
    (case k29 => k_is)
    (case a30 => k_is)
    (case l30 => k_is)
    (case c30 => k_is)
    (case k30 => k_is)
    (case a31 => k_is)
    (case l31 => k_is)
    (case c31 => k_is)
    (case k31 => k_is)
    (case a32 => k_is)
    (case l32 => k_is)
    (case c32 => k_is)
    (case k32 => k_is)
    (case a33 => k_is)
    (case l33 => k_is)
    (case c33 => k_is)
    (case k33 => k_is)
    (case a34 => k_is)
    (case l34 => k_is)
    (case c34 => k_is)
    (case k34 => k_is)
    (case a35 => k_is)
    (case l35 => k_is)
    (case c35 => k_is)
    (case k35 => k_is)
    (case a36 => k_is)
    (case l36 => k_is)
    (case c36 => k_is)
    (case k36 => k_is)
    (case a37 => k_is)
    (case l37 => k_is)
    (case c37 => k_is)
    (case k37 => k_is)
    (case a38 => k_is)
    (case l38 => k_is)
    (case c38 => k_is)
    (case k38 => k_is)
    (case a39 => k_is)
    (case l39 => k_is)
    (case c39 => k_is)
    (case k39 => k_is)
    (case a40 => k_is)
    (case l40 => k_is)
    (case c40 => k_is)
    (case k40 => k_is)
    (case a41 => k_is)
    (case l41 => k_is)
    (case c41 => k_is)
    (case k41 => k_is)
    (case a42 => k_is)
    (case l42 => k_is)
    (case c42 => k_is)
    (case k42 => k_is)
    (case a43 => k_is)
    (case l43 => k_is)
    (case c43 => k_is)
    (case k43 => k_is)
    (case a44 => k_is)
    (case l44 => k_is)
    (case c44 => k_is)
    (case k44 => k_is)
    (case a45 => k_is)
    (case l45 => k_is)
    (case c45 => k_is)
    (case k45 => k_is)
    (case pg => k_is)
    (case hd => k_is)
    (case po => k_is)
    (case sa => k_is)
    (case mk => k_is)
    (case kc => k_is)
    (case nA => k_is)
    (case nB => k_is)
    (case z0 => k_is)
    (case z1 => k_is)
    (case z2 => k_is)
    (case z3 => k_is)
    (case z4 => k_is)
    (case z5 => k_is)
    (case z6 => k_is)
    (case z7 => k_is)
    (case z8 => k_is)
    (case z9 => k_is)
    (case z10 => k_is)
    (case z11 => k_is)
#print axioms PySem.Challenge.cw_movingup_k84_whole_branches_apart_holds

