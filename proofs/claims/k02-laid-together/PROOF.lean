import PyProof.Rows.All
import Wide.All
import OpenK.AllK
import Wide.FinOn
import KE.SortKeyHeap
import HandS.ForMost
import HandS.ForExc
import HandS.More
import HandS.IsInst
import HandS.Style
import HandS.TupAny
import HandS.DictComp
import HandS.StrMore
import HandS.SortKw
import HandS.OwnEq
import PyProof.InstNe
import KE.DataEq
import HandS.Walk
import KE.KDictPairs
import HandS.ExcOwn
import HandS.TryOnly
import HandS.WordsExc
import KE.DataMinKey
import KE.LtData
import HandS.TupSets
import HandS.ExcIs
import HandS.ExcCtx
import PyProof.StrLaws
import PySem.Challenge.RW_frontparts_k02_whole_bags_laid_together
set_option Elab.async false
set_option maxRecDepth 100000
set_option maxHeartbeats 4000000
set_option linter.all false
/-! Bags as lists of words with numbers: the mirror of the dicts, and its algebra. -/
namespace Fp
open PySem

abbrev Bg := List (Str × Int)
def getS (s : Bg) (w : Str) : Option Int := (s.find? fun kv => decide (kv.1 = w)).map (·.2)
def cf (s : Bg) (w : Str) : Int := (getS s w).getD 0
def putS (s : Bg) (w : Str) (n : Int) : Bg := if (s.any fun kv => decide (kv.1 = w)) = true then s.map (fun kv => if kv.1 = w then (kv.1, n) else kv) else s ++ [(w, n)]
def dropS (s : Bg) (w : Str) : Bg := s.filter fun kv => decide (kv.1 ≠ w)
def addTo (p : Int) (s : Bg) (w : Str) (n : Int) : Bg :=
  if (cf s w + n) % p = 0 then dropS s w else putS s w ((cf s w + n) % p)
def plusS (p : Int) (s t : Bg) (f : Int) : Bg := t.foldl (fun acc kv => addTo p acc kv.1 (f * kv.2)) s
def prodRow (p : Int) (acc : Bg) (a : Str × Int) (t : Bg) : Bg := t.foldl (fun acc b => addTo p acc (a.1 ++ b.1) (a.2 * b.2)) acc
def prodS (p : Int) (s t : Bg) : Bg := s.foldl (fun acc a => prodRow p acc a t) []
def keys (s : Bg) : List Str := s.map (·.1)

structure Good (p : Int) (s : Bg) : Prop where
  nd : (keys s).Nodup
  lo : ∀ kv ∈ s, 0 < kv.2
  hi : ∀ kv ∈ s, kv.2 < p

theorem getS_nil (w : Str) : getS [] w = none := rfl
theorem getS_pos {q : Str × Int} {r : Bg} {w : Str} (e : q.1 = w) : getS (q :: r) w = some q.2 := by simp [getS, List.find?_cons, e]
theorem getS_neg {q : Str × Int} {r : Bg} {w : Str} (e : ¬ q.1 = w) : getS (q :: r) w = getS r w := by simp [getS, List.find?_cons, e]
theorem cf_nil (w : Str) : cf [] w = 0 := rfl
theorem cf_pos {q : Str × Int} {r : Bg} {w : Str} (e : q.1 = w) : cf (q :: r) w = q.2 := by unfold cf; rw [getS_pos e]; rfl
theorem cf_neg {q : Str × Int} {r : Bg} {w : Str} (e : ¬ q.1 = w) : cf (q :: r) w = cf r w := by unfold cf; rw [getS_neg e]
theorem getS_any (w : Str) : ∀ s : Bg, (s.any fun kv => decide (kv.1 = w)) = (getS s w).isSome
  | [] => rfl
  | q :: r => by
    rw [List.any_cons]
    by_cases e : q.1 = w
    · simp only [getS_pos e, decide_eq_true e, Bool.true_or, Option.isSome_some]
    · rw [getS_neg e, decide_eq_false e, Bool.false_or]; exact getS_any w r
theorem getS_mem {w : Str} {n : Int} : ∀ {s : Bg}, getS s w = some n → (w, n) ∈ s
  | q :: r, h => by
    by_cases e : q.1 = w
    · rw [getS_pos e] at h
      cases h
      subst e
      exact List.mem_cons_self
    · rw [getS_neg e] at h
      exact List.mem_cons_of_mem _ (getS_mem h)
theorem getS_of_mem {w : Str} {n : Int} : ∀ {s : Bg}, (keys s).Nodup → (w, n) ∈ s → getS s w = some n
  | q :: r, hn, h => by
    have hn' := List.nodup_cons.mp (show (q.1 :: keys r).Nodup from hn)
    rcases List.mem_cons.mp h with e | h
    · subst e
      exact getS_pos rfl
    · have ne : ¬ q.1 = w := fun e => hn'.1 (e ▸ List.mem_map.mpr ⟨_, h, rfl⟩)
      rw [getS_neg ne]
      exact getS_of_mem hn'.2 h
theorem getS_none {w : Str} : ∀ {s : Bg}, getS s w = none ↔ w ∉ keys s
  | [] => by simp [getS, keys]
  | q :: r => by
    by_cases e : q.1 = w
    · rw [getS_pos e]
      constructor
      · intro h; cases h
      · intro h; exact absurd (by rw [← e]; exact List.mem_cons_self) h
    · rw [getS_neg e]
      have ih := getS_none (w := w) (s := r)
      rw [ih]
      unfold keys
      rw [List.map_cons, List.mem_cons]
      constructor
      · intro h z
        rcases z with z | z
        · exact e z.symm
        · exact h z
      · intro h z
        exact h (.inr z)
theorem mem_keys {w : Str} {s : Bg} : w ∈ keys s ↔ ∃ n, (w, n) ∈ s := by
  unfold keys
  rw [List.mem_map]
  constructor
  · rintro ⟨⟨u, n⟩, h, rfl⟩
    exact ⟨n, h⟩
  · rintro ⟨n, h⟩
    exact ⟨_, h, rfl⟩

theorem getS_map (w u : Str) (n : Int) : ∀ s : Bg, getS (s.map fun kv => if kv.1 = w then (kv.1, n) else kv) u = (getS s u).map fun x => if u = w then n else x
  | [] => rfl
  | q :: r => by
    have ih := getS_map w u n r
    rw [List.map_cons]
    by_cases h : q.1 = w
    · rw [if_pos h]
      by_cases h2 : q.1 = u
      · rw [getS_pos (q := (q.1, n)) h2, getS_pos h2]
        have e : u = w := h2 ▸ h
        simp [e]
      · rw [getS_neg (q := (q.1, n)) h2, getS_neg h2, ih]
    · rw [if_neg h]
      by_cases h2 : q.1 = u
      · rw [getS_pos h2, getS_pos h2]
        have e : ¬ u = w := fun z => h (h2.trans z)
        simp [e]
      · rw [getS_neg h2, getS_neg h2, ih]
theorem getS_snoc (w u : Str) (n : Int) : ∀ s : Bg, getS s w = none → getS (s ++ [(w, n)]) u = if u = w then some n else getS s u
  | [], _ => by
    by_cases e : w = u
    · rw [if_pos e.symm]; exact getS_pos (q := (w, n)) e
    · rw [if_neg (fun z => e z.symm)]; exact getS_neg (q := (w, n)) e
  | q :: r, hn => by
    rw [List.cons_append]
    by_cases h : q.1 = w
    · rw [getS_pos h] at hn; cases hn
    · rw [getS_neg h] at hn
      by_cases h2 : q.1 = u
      · rw [getS_pos h2, getS_pos h2, if_neg (fun z => h (h2.trans z))]
      · rw [getS_neg h2, getS_neg h2]
        exact getS_snoc w u n r hn
theorem getS_put (s : Bg) (w u : Str) (n : Int) : getS (putS s w n) u = if u = w then some n else getS s u := by
  unfold putS
  by_cases a : (s.any fun kv => decide (kv.1 = w)) = true
  · rw [if_pos a, getS_map]
    rw [getS_any] at a
    by_cases e : u = w
    · obtain ⟨x, hx⟩ := Option.isSome_iff_exists.mp a
      subst e
      rw [hx]
      simp
    · simp [e]
  · rw [if_neg a]
    rw [getS_any] at a
    exact getS_snoc w u n s (by cases h : getS s w with | none => rfl | some x => rw [h] at a; exact absurd rfl a)
theorem getS_drop (w u : Str) : ∀ s : Bg, getS (dropS s w) u = if u = w then none else getS s u
  | [] => by
    show getS [] u = _
    rw [getS_nil]
    split <;> rfl
  | q :: r => by
    have ih := getS_drop w u r
    unfold dropS at ih ⊢
    rw [List.filter_cons]
    by_cases h : q.1 = w
    · rw [if_neg (by simp [h])]
      rw [ih]
      by_cases e : u = w
      · rw [if_pos e, if_pos e]
      · rw [if_neg e, if_neg e, getS_neg (fun z => e (z.symm.trans h))]
    · rw [if_pos (by simp [h])]
      by_cases h2 : q.1 = u
      · rw [getS_pos h2, getS_pos h2, if_neg (fun z => h (h2.trans z))]
      · rw [getS_neg h2, getS_neg h2, ih]
theorem cf_put (s : Bg) (w u : Str) (n : Int) : cf (putS s w n) u = if u = w then n else cf s u := by
  unfold cf
  rw [getS_put]
  split <;> rfl
theorem cf_drop (s : Bg) (w u : Str) : cf (dropS s w) u = if u = w then 0 else cf s u := by
  unfold cf
  rw [getS_drop]
  split <;> rfl
theorem cf_addTo (p : Int) (s : Bg) (w u : Str) (n : Int) : cf (addTo p s w n) u = if u = w then (cf s w + n) % p else cf s u := by
  unfold addTo
  split
  · rename_i h
    rw [cf_drop, h]
  · rw [cf_put]

theorem keys_drop (s : Bg) (w : Str) : keys (dropS s w) = (keys s).filter fun u => decide (u ≠ w) := by
  unfold keys dropS
  induction s with
  | nil => rfl
  | cons q r ih =>
    rw [List.filter_cons, List.map_cons, List.filter_cons]
    by_cases h : q.1 = w
    · rw [if_neg (by simp [h]), if_neg (by simp [h])]
      exact ih
    · rw [if_pos (by simp [h]), if_pos (by simp [h]), List.map_cons, ih]
theorem keys_map_put (s : Bg) (w : Str) (n : Int) : keys (s.map fun kv => if kv.1 = w then (kv.1, n) else kv) = keys s := by
  unfold keys
  rw [List.map_map]
  refine List.map_congr_left fun q _ => ?_
  show (if q.1 = w then (q.1, n) else q).1 = q.1
  split <;> rfl
theorem keys_put (s : Bg) (w : Str) (n : Int) : keys (putS s w n) = if w ∈ keys s then keys s else keys s ++ [w] := by
  unfold putS
  rw [getS_any]
  by_cases h : w ∈ keys s
  · rw [if_pos h, if_pos (by cases e : getS s w with | none => exact absurd h (getS_none.mp e) | some x => rfl)]
    exact keys_map_put s w n
  · rw [if_neg h, if_neg (by rw [getS_none.mpr h]; simp)]
    unfold keys
    rw [List.map_append]
    rfl
theorem len_put (s : Bg) (w : Str) (n : Int) : (putS s w n).length ≤ s.length + 1 := by
  have e : (keys (putS s w n)).length ≤ (keys s).length + 1 := by
    rw [keys_put]
    split
    · omega
    · rw [List.length_append]; simp
  unfold keys at e
  rw [List.length_map, List.length_map] at e
  exact e
theorem len_drop (s : Bg) (w : Str) : (dropS s w).length ≤ s.length := List.length_filter_le _ _
theorem len_addTo (p : Int) (s : Bg) (w : Str) (n : Int) : (addTo p s w n).length ≤ s.length + 1 := by
  unfold addTo
  split
  · exact Nat.le_trans (len_drop s w) (Nat.le_succ _)
  · exact len_put _ _ _
theorem mem_keys_addTo {p : Int} {s : Bg} {w u : Str} {n : Int} (h : u ∈ keys (addTo p s w n)) : u ∈ keys s ∨ u = w := by
  unfold addTo at h
  split at h
  · rw [keys_drop] at h
    exact .inl (List.mem_filter.mp h).1
  · rw [keys_put] at h
    split at h
    · exact .inl h
    · rcases List.mem_append.mp h with h | h
      · exact .inl h
      · exact .inr (by simpa using h)

theorem nodup_put {s : Bg} {w : Str} {n : Int} (h : (keys s).Nodup) : (keys (putS s w n)).Nodup := by
  rw [keys_put]
  split
  · exact h
  · rename_i hn
    refine List.nodup_append.mpr ⟨h, by simp, ?_⟩
    intro a ha b hb
    have e : b = w := by simpa using hb
    subst e
    rintro rfl
    exact hn ha
theorem mem_put {s : Bg} {w : Str} {n : Int} {kv : Str × Int} (h : kv ∈ putS s w n) : kv ∈ s ∨ kv = (w, n) := by
  unfold putS at h
  split at h
  · obtain ⟨q, hq, e⟩ := List.mem_map.mp h
    split at e
    · rename_i hw
      exact .inr (by rw [← e, hw])
    · exact .inl (e ▸ hq)
  · rcases List.mem_append.mp h with h | h
    · exact .inl h
    · exact .inr (by simpa using h)

section
variable {p : Int} {s t u : Bg}
theorem Good.nil : Good p [] := ⟨List.nodup_nil, (fun _ h => nomatch h), (fun _ h => nomatch h)⟩
theorem Good.put {w : Str} {n : Int} (g : Good p s) (h0 : 0 < n) (h1 : n < p) : Good p (putS s w n) :=
  ⟨nodup_put g.nd, fun kv h => by
    rcases mem_put h with h | h
    · exact g.lo kv h
    · rw [h]; exact h0, fun kv h => by
    rcases mem_put h with h | h
    · exact g.hi kv h
    · rw [h]; exact h1⟩
theorem Good.drop {w : Str} (g : Good p s) : Good p (dropS s w) :=
  ⟨by rw [keys_drop]; exact g.nd.filter _, fun kv h => g.lo kv (List.mem_filter.mp h).1, fun kv h => g.hi kv (List.mem_filter.mp h).1⟩
theorem Good.addTo {w : Str} {n : Int} (hp : 0 < p) (g : Good p s) : Good p (addTo p s w n) := by
  unfold Fp.addTo
  split
  · exact g.drop
  · rename_i h
    have h1 := Int.emod_nonneg (cf s w + n) (Int.ne_of_gt hp)
    have h2 := Int.emod_lt_of_pos (cf s w + n) hp
    exact g.put (by omega) h2
theorem Good.plus {f : Int} (hp : 0 < p) (g : Good p s) (t : Bg) : Good p (plusS p s t f) := by
  unfold plusS
  induction t generalizing s with
  | nil => exact g
  | cons q r ih => exact ih (g.addTo hp)
theorem Good.row {a : Str × Int} (hp : 0 < p) (g : Good p s) (t : Bg) : Good p (prodRow p s a t) := by
  unfold prodRow
  induction t generalizing s with
  | nil => exact g
  | cons q r ih => exact ih (g.addTo hp)
theorem Good.prod (hp : 0 < p) (s t : Bg) : Good p (prodS p s t) := by
  unfold prodS
  have key : ∀ (s acc : Bg), Good p acc → Good p (s.foldl (fun acc a => prodRow p acc a t) acc) := by
    intro s
    induction s with
    | nil => intro acc g; exact g
    | cons q r ih => intro acc g; exact ih _ (g.row hp t)
  exact key s [] Good.nil

theorem cf_nonneg (g : Good p s) (w : Str) : 0 ≤ cf s w := by
  unfold cf
  cases e : getS s w with
  | none => exact Int.le_refl 0
  | some n => exact Int.le_of_lt (g.lo _ (getS_mem e))
theorem cf_lt (hp : 0 < p) (g : Good p s) (w : Str) : cf s w < p := by
  unfold cf
  cases e : getS s w with
  | none => exact hp
  | some n => exact g.hi _ (getS_mem e)
theorem cf_mod (hp : 0 < p) (g : Good p s) (w : Str) : cf s w % p = cf s w := Int.emod_eq_of_lt (cf_nonneg g w) (cf_lt hp g w)
theorem cf_ne (g : Good p s) {w : Str} : w ∈ keys s ↔ cf s w ≠ 0 := by
  constructor
  · intro h
    obtain ⟨n, hn⟩ := mem_keys.mp h
    have e := getS_of_mem g.nd hn
    have := g.lo _ hn
    unfold cf
    rw [e]
    show n ≠ 0
    have h0 : 0 < n := this
    omega
  · intro h
    apply Classical.byContradiction
    intro hn
    apply h
    unfold cf
    rw [getS_none.mpr hn]
    rfl
end

/-! ### sums over lists -/
def sumL {α : Type} (l : List α) (f : α → Int) : Int := (l.map f).sum
section
variable {α β : Type}
theorem sumL_nil (f : α → Int) : sumL [] f = 0 := rfl
theorem sumL_cons (a : α) (l : List α) (f : α → Int) : sumL (a :: l) f = f a + sumL l f := by unfold sumL; rw [List.map_cons, List.sum_cons]
theorem sumL_append (l m : List α) (f : α → Int) : sumL (l ++ m) f = sumL l f + sumL m f := by unfold sumL; rw [List.map_append, List.sum_append]
theorem sumL_map (l : List β) (g : β → α) (f : α → Int) : sumL (l.map g) f = sumL l fun b => f (g b) := by unfold sumL; rw [List.map_map]; rfl
theorem sumL_congr {l : List α} {f g : α → Int} (h : ∀ a ∈ l, f a = g a) : sumL l f = sumL l g := by unfold sumL; rw [List.map_congr_left h]
theorem sumL_zero {l : List α} {f : α → Int} (h : ∀ a ∈ l, f a = 0) : sumL l f = 0 := by
  induction l with
  | nil => rfl
  | cons a l ih => rw [sumL_cons, h a List.mem_cons_self, ih fun b hb => h b (List.mem_cons_of_mem _ hb)]; rfl
theorem sumL_add (l : List α) (f g : α → Int) : sumL l (fun a => f a + g a) = sumL l f + sumL l g := by
  induction l with
  | nil => rfl
  | cons a l ih => rw [sumL_cons, sumL_cons, sumL_cons, ih]; omega
theorem sumL_mul (l : List α) (c : Int) (f : α → Int) : sumL l (fun a => c * f a) = c * sumL l f := by
  induction l with
  | nil => rw [sumL_nil, sumL_nil, Int.mul_zero]
  | cons a l ih => rw [sumL_cons, sumL_cons, ih, Int.mul_add]
theorem sumL_mulr (l : List α) (c : Int) (f : α → Int) : sumL l (fun a => f a * c) = sumL l f * c := by
  induction l with
  | nil => rw [sumL_nil, sumL_nil, Int.zero_mul]
  | cons a l ih => rw [sumL_cons, sumL_cons, ih, Int.add_mul]
theorem sumL_swap (l : List α) (m : List β) (f : α → β → Int) : sumL l (fun a => sumL m fun b => f a b) = sumL m fun b => sumL l fun a => f a b := by
  induction l with
  | nil => rw [sumL_nil]; exact (sumL_zero fun b _ => rfl).symm
  | cons a l ih =>
    rw [sumL_cons, ih, ← sumL_add]
    exact sumL_congr fun b _ => (sumL_cons a l fun a => f a b).symm
theorem sumL_perm {l m : List α} (h : l.Perm m) (f : α → Int) : sumL l f = sumL m f := by
  induction h with
  | nil => rfl
  | cons a _ ih => rw [sumL_cons, sumL_cons, ih]
  | swap a b l => rw [sumL_cons, sumL_cons, sumL_cons, sumL_cons]; omega
  | trans _ _ i1 i2 => exact i1.trans i2
end
theorem emod_emod_add (a b p : Int) : (a % p + b) % p = (a + b) % p := by rw [Int.emod_add_emod]

/-! ### what an operation makes of the numbers -/
section
variable {p : Int} {s t u : Bg}
/-- the number at w of t, by all its entries -/
theorem sum_ind (hn : (keys t).Nodup) (w : Str) : sumL t (fun kv => if kv.1 = w then kv.2 else 0) = cf t w := by
  induction t with
  | nil => rfl
  | cons q r ih =>
    have hn' := List.nodup_cons.mp (show (q.1 :: keys r).Nodup from hn)
    rw [sumL_cons, ih hn'.2]
    by_cases e : q.1 = w
    · rw [if_pos e, cf_pos e]
      have : cf r w = 0 := by
        unfold cf
        rw [getS_none.mpr (e ▸ hn'.1)]
        rfl
      omega
    · rw [if_neg e, cf_neg e]; omega
theorem cf_fold (hp : 0 < p) {α : Type} (k : α → Str) (v : α → Int) (w : Str) : ∀ (l : List α) (s : Bg), Good p s →
    cf (l.foldl (fun acc a => addTo p acc (k a) (v a)) s) w = (cf s w + sumL l fun a => if k a = w then v a else 0) % p
  | [], s, g => by
    show cf s w = _
    rw [sumL_nil, Int.add_zero, cf_mod hp g]
  | a :: l, s, g => by
    rw [List.foldl_cons, cf_fold hp k v w l _ (g.addTo hp), cf_addTo, sumL_cons]
    by_cases e : k a = w
    · subst e
      rw [if_pos rfl, if_pos rfl, emod_emod_add, Int.add_assoc]
    · rw [if_neg (fun z => e z.symm), if_neg e, Int.zero_add]
theorem cf_plus (hp : 0 < p) (g : Good p s) (hn : (keys t).Nodup) (f : Int) (w : Str) : cf (plusS p s t f) w = (cf s w + f * cf t w) % p := by
  unfold plusS
  rw [cf_fold hp (fun kv : Str × Int => kv.1) (fun kv => f * kv.2) w t s g, ← sum_ind hn w, ← sumL_mul]
  congr 2
  refine sumL_congr fun kv _ => ?_
  split
  · rfl
  · rw [Int.mul_zero]
/-- all products that come to w -/
def cvS (s t : Bg) (w : Str) : Int := sumL s fun a => sumL t fun b => if a.1 ++ b.1 = w then a.2 * b.2 else 0
theorem cf_row (hp : 0 < p) (g : Good p s) (a : Str × Int) (w : Str) : cf (prodRow p s a t) w = (cf s w + sumL t fun b => if a.1 ++ b.1 = w then a.2 * b.2 else 0) % p := by
  unfold prodRow
  exact cf_fold hp (fun b : Str × Int => a.1 ++ b.1) (fun b => a.2 * b.2) w t s g
theorem cf_prod (hp : 0 < p) (s t : Bg) (w : Str) : cf (prodS p s t) w = cvS s t w % p := by
  unfold prodS cvS
  have key : ∀ (s acc : Bg), Good p acc → cf (s.foldl (fun acc a => prodRow p acc a t) acc) w = (cf acc w + sumL s fun a => sumL t fun b => if a.1 ++ b.1 = w then a.2 * b.2 else 0) % p := by
    intro s
    induction s with
    | nil => intro acc g; show cf acc w = _; rw [sumL_nil, Int.add_zero, cf_mod hp g]
    | cons q r ih =>
      intro acc g
      rw [List.foldl_cons, ih _ (g.row hp t), cf_row hp g, sumL_cons, emod_emod_add, Int.add_assoc]
  rw [key s [] Good.nil, cf_nil, Int.zero_add]

/-! ### sizes -/
theorem len_fold {α : Type} (k : α → Str) (v : α → Int) : ∀ (l : List α) (s : Bg), (l.foldl (fun acc a => addTo p acc (k a) (v a)) s).length ≤ s.length + l.length
  | [], s => Nat.le_refl _
  | a :: l, s => by
    rw [List.foldl_cons, List.length_cons]
    have h1 := len_fold k v l (addTo p s (k a) (v a))
    have h2 := len_addTo p s (k a) (v a)
    omega
theorem len_plus (f : Int) : (plusS p s t f).length ≤ s.length + t.length := len_fold (fun kv : Str × Int => kv.1) (fun kv => f * kv.2) t s
theorem len_row (a : Str × Int) : (prodRow p s a t).length ≤ s.length + t.length := len_fold (fun b : Str × Int => a.1 ++ b.1) (fun b => a.2 * b.2) t s
theorem len_prod : (prodS p s t).length ≤ s.length * t.length := by
  unfold prodS
  have key : ∀ (s acc : Bg), (s.foldl (fun acc a => prodRow p acc a t) acc).length ≤ acc.length + s.length * t.length := by
    intro s
    induction s with
    | nil => intro acc; show acc.length ≤ _; simp
    | cons q r ih =>
      intro acc
      rw [List.foldl_cons, List.length_cons, Nat.add_mul, Nat.one_mul]
      have h1 := ih (prodRow p acc q t)
      have h2 := len_row (p := p) (s := acc) (t := t) q
      omega
  have := key s []
  simpa using this
theorem keys_fold {α : Type} (k : α → Str) (v : α → Int) {w : Str} : ∀ (l : List α) (s : Bg), w ∈ keys (l.foldl (fun acc a => addTo p acc (k a) (v a)) s) → w ∈ keys s ∨ ∃ a ∈ l, w = k a
  | [], s, h => .inl h
  | a :: l, s, h => by
    rw [List.foldl_cons] at h
    rcases keys_fold k v l _ h with h | ⟨b, hb, e⟩
    · rcases mem_keys_addTo h with h | h
      · exact .inl h
      · exact .inr ⟨a, List.mem_cons_self, h⟩
    · exact .inr ⟨b, List.mem_cons_of_mem _ hb, e⟩
theorem keys_plus {f : Int} {w : Str} (h : w ∈ keys (plusS p s t f)) : w ∈ keys s ∨ w ∈ keys t := by
  rcases keys_fold (fun kv : Str × Int => kv.1) (fun kv => f * kv.2) t s h with h | ⟨a, ha, e⟩
  · exact .inl h
  · exact .inr (e ▸ List.mem_map.mpr ⟨a, ha, rfl⟩)
theorem keys_prod {w : Str} (h : w ∈ keys (prodS p s t)) : ∃ a ∈ keys s, ∃ b ∈ keys t, w = a ++ b := by
  unfold prodS at h
  have key : ∀ (s acc : Bg), w ∈ keys (s.foldl (fun acc a => prodRow p acc a t) acc) → w ∈ keys acc ∨ ∃ a ∈ keys s, ∃ b ∈ keys t, w = a ++ b := by
    intro s
    induction s with
    | nil => intro acc h; exact .inl h
    | cons q r ih =>
      intro acc h
      rw [List.foldl_cons] at h
      rcases ih _ h with h | ⟨a, ha, b, hb, e⟩
      · rcases keys_fold (fun b : Str × Int => q.1 ++ b.1) (fun b => q.2 * b.2) t acc h with h | ⟨b, hb, e⟩
        · exact .inl h
        · exact .inr ⟨q.1, List.mem_cons_self, b.1, List.mem_map.mpr ⟨b, hb, rfl⟩, e⟩
      · exact .inr ⟨a, List.mem_cons_of_mem _ ha, b, hb, e⟩
  rcases key s [] h with h | h
  · exact nomatch h
  · exact h
end
end Fp

/-! The order of words, the tuple of the words of a bag, and products as sums over partings. -/
namespace Fp
open PySem PySem.W

/-- what ahead_key tells -/
def keyD (w : Str) : PyData := .tuple [.int (-(w.length : Int)), .str w]
def leW : Str → Str → Bool := dataLe false keyD
theorem leW_eq (a b : Str) : leW a b = decide (b.length < a.length ∨ (a.length = b.length ∧ a.cps.toList ≤ b.cps.toList)) := by
  show (!dataLt (keyD b) (keyD a)) = _
  unfold keyD
  rw [dataLt_pair (by simp [alike]) (by simp [alike]), dataLt_int, dataLt_str]
  simp only [PyData.eqv, beq_iff_eq]
  by_cases h1 : (-(b.length : Int)) = -(a.length : Int)
  · rw [if_pos h1]
    have e : a.length = b.length := by omega
    by_cases h2 : b = a
    · subst h2
      simp
    · rw [if_neg h2, not_lt_str]
      have : ¬ b.length < a.length := by omega
      simp [e]
  · rw [if_neg h1]
    by_cases h3 : b.length < a.length
    · have : ¬ (-(b.length : Int)) < -(a.length : Int) := by omega
      simp [h3]
      omega
    · have : (-(b.length : Int)) < -(a.length : Int) := by omega
      simp [this, h3]
      omega
theorem leW_total : TotalLe leW := by
  unfold leW dataLe
  exact sortLe_total _ _ _
theorem str_ext {a b : Str} (h : a.cps.toList = b.cps.toList) : a = b := by
  have hc : a.cps = b.cps := Array.toList_inj.mp h
  cases a
  cases b
  cases hc
  rfl
theorem leW_anti {a b : Str} (h1 : leW a b = true) (h2 : leW b a = true) : a = b := by
  rw [leW_eq] at h1 h2
  have k1 := of_decide_eq_true h1
  have k2 := of_decide_eq_true h2
  have l1 : a.cps.toList ≤ b.cps.toList := by
    rcases k1 with k1 | k1
    · rcases k2 with k2 | k2 <;> omega
    · exact k1.2
  have l2 : b.cps.toList ≤ a.cps.toList := by
    rcases k2 with k2 | k2
    · rcases k1 with k1 | k1 <;> omega
    · exact k2.2
  exact str_ext (List.le_antisymm l1 l2)
/-- the words, each ahead of the next one -/
def ordW (ws : List Str) : List Str := ws.mergeSort leW
theorem ordW_perm (ws : List Str) : (ordW ws).Perm ws := List.mergeSort_perm _ _
theorem ordW_sorted (ws : List Str) : (ordW ws).Pairwise (fun a b => leW a b = true) := sort_pairwise leW_total ws
theorem ordW_congr {ws us : List Str} (h : ws.Perm us) : ordW ws = ordW us := by
  have hp : (ordW ws).Perm (ordW us) := ((ordW_perm ws).trans h).trans (ordW_perm us).symm
  exact List.Perm.eq_of_pairwise (le := fun a b => leW a b = true) (fun a b _ _ h1 h2 => leW_anti h1 h2) (ordW_sorted ws) (ordW_sorted us) hp
theorem ordW_len (ws : List Str) : (ordW ws).length = ws.length := (ordW_perm ws).length_eq
/-- the words of a bag with their numbers, in order -/
def wordsS (s : Bg) : Bg := (ordW (keys s)).map fun w => (w, cf s w)
theorem wordsS_len (s : Bg) : (wordsS s).length = s.length := by
  unfold wordsS
  rw [List.length_map, ordW_len]
  unfold keys
  rw [List.length_map]
/-- two bags with the same numbers have the same words -/
theorem keys_perm {p : Int} {s t : Bg} (gs : Good p s) (gt : Good p t) (h : ∀ w, cf s w = cf t w) : (keys s).Perm (keys t) := by
  refine (List.perm_ext_iff_of_nodup gs.nd gt.nd).mpr fun w => ?_
  rw [cf_ne gs, cf_ne gt, h w]
theorem wordsS_congr {p : Int} {s t : Bg} (gs : Good p s) (gt : Good p t) (h : ∀ w, cf s w = cf t w) : wordsS s = wordsS t := by
  unfold wordsS
  rw [ordW_congr (keys_perm gs gt h)]
  exact List.map_congr_left fun w _ => by rw [h w]
theorem wordsS_keys (s : Bg) : keys (wordsS s) = ordW (keys s) := by
  unfold wordsS keys
  rw [List.map_map]
  exact List.map_id' _
theorem wordsS_nodup {s : Bg} (h : (keys s).Nodup) : (keys (wordsS s)).Nodup := by
  rw [wordsS_keys]
  exact (ordW_perm _).nodup_iff.mpr h
theorem mem_wordsS {s : Bg} {w : Str} {n : Int} : (w, n) ∈ wordsS s ↔ w ∈ keys s ∧ n = cf s w := by
  unfold wordsS
  rw [List.mem_map]
  constructor
  · rintro ⟨u, hu, e⟩
    cases e
    exact ⟨(ordW_perm _).mem_iff.mp hu, rfl⟩
  · rintro ⟨h, rfl⟩
    exact ⟨w, (ordW_perm _).mem_iff.mpr h, rfl⟩
theorem cf_of_mem {s : Bg} {w : Str} {n : Int} (h : (keys s).Nodup) (m : (w, n) ∈ s) : cf s w = n := by
  unfold cf
  rw [getS_of_mem h m]
  rfl
theorem cf_not_mem {s : Bg} {w : Str} (h : w ∉ keys s) : cf s w = 0 := by
  unfold cf
  rw [getS_none.mpr h]
  rfl
theorem cf_wordsS {s : Bg} (h : (keys s).Nodup) (w : Str) : cf (wordsS s) w = cf s w := by
  by_cases hw : w ∈ keys s
  · exact cf_of_mem (wordsS_nodup h) (mem_wordsS.mpr ⟨hw, rfl⟩)
  · rw [cf_not_mem hw, cf_not_mem]
    rw [wordsS_keys]
    exact fun z => hw ((ordW_perm _).mem_iff.mp z)
theorem cf_congr_words {s t : Bg} (hs : (keys s).Nodup) (ht : (keys t).Nodup) (h : wordsS s = wordsS t) (w : Str) : cf s w = cf t w := by
  rw [← cf_wordsS hs, ← cf_wordsS ht, h]

/-! ### partings -/
/-- all ways to part a word in two -/
def parts : List Nat → List (List Nat × List Nat)
  | [] => [([], [])]
  | c :: v => ([], c :: v) :: (parts v).map fun q => (c :: q.1, q.2)
/-- F G at v -/
def conv (F G : List Nat → Int) (v : List Nat) : Int := sumL (parts v) fun q => F q.1 * G q.2
theorem conv_cons (F G : List Nat → Int) (c : Nat) (v : List Nat) : conv F G (c :: v) = F [] * G (c :: v) + conv (fun x => F (c :: x)) G v := by
  unfold conv
  rw [parts, sumL_cons, sumL_map]
theorem conv_nil (F G : List Nat → Int) : conv F G [] = F [] * G [] := by
  unfold conv
  rw [parts, sumL_cons, sumL_nil, Int.add_zero]
theorem conv_addl (F F' G : List Nat → Int) (v : List Nat) : conv (fun x => F x + F' x) G v = conv F G v + conv F' G v := by
  unfold conv
  rw [← sumL_add]
  exact sumL_congr fun q _ => Int.add_mul _ _ _
theorem conv_addr (F G G' : List Nat → Int) (v : List Nat) : conv F (fun x => G x + G' x) v = conv F G v + conv F G' v := by
  unfold conv
  rw [← sumL_add]
  exact sumL_congr fun q _ => Int.mul_add _ _ _
theorem conv_mull (c : Int) (F G : List Nat → Int) (v : List Nat) : conv (fun x => c * F x) G v = c * conv F G v := by
  unfold conv
  rw [← sumL_mul]
  exact sumL_congr fun q _ => Int.mul_assoc _ _ _
theorem conv_mulr (c : Int) (F G : List Nat → Int) (v : List Nat) : conv F (fun x => c * G x) v = c * conv F G v := by
  unfold conv
  rw [← sumL_mul]
  exact sumL_congr fun q _ => by rw [← Int.mul_assoc, Int.mul_comm (F q.1) c, Int.mul_assoc]
theorem conv_assoc (F G K : List Nat → Int) : ∀ v, conv (conv F G) K v = conv F (conv G K) v := by
  intro v
  induction v generalizing F with
  | nil => rw [conv_nil, conv_nil, conv_nil, conv_nil, Int.mul_assoc]
  | cons c v ih =>
    rw [conv_cons, conv_cons (F := F)]
    have e : (fun x => conv F G (c :: x)) = fun x => F [] * G (c :: x) + conv (fun y => F (c :: y)) G x := funext fun x => conv_cons F G c x
    rw [e, conv_addl, conv_mull, ih, conv_nil, conv_cons (F := G), Int.mul_add, Int.mul_assoc, Int.add_assoc]
theorem conv_congr {F F' G G' : List Nat → Int} (h1 : ∀ x, F x = F' x) (h2 : ∀ x, G x = G' x) (v : List Nat) : conv F G v = conv F' G' v := by
  rw [funext h1, funext h2]
theorem sumL_mod {α : Type} (p : Int) {l : List α} {f g : α → Int} (h : ∀ a ∈ l, f a % p = g a % p) : sumL l f % p = sumL l g % p := by
  induction l with
  | nil => rfl
  | cons a l ih =>
    rw [sumL_cons, sumL_cons, Int.add_emod, h a List.mem_cons_self, ih fun b hb => h b (List.mem_cons_of_mem _ hb), ← Int.add_emod]
theorem conv_mod {p : Int} {F F' G G' : List Nat → Int} (h1 : ∀ x, F x % p = F' x % p) (h2 : ∀ x, G x % p = G' x % p) (v : List Nat) : conv F G v % p = conv F' G' v % p := by
  refine sumL_mod p fun q _ => ?_
  rw [Int.mul_emod, h1, h2, ← Int.mul_emod]
def ofL (l : List Nat) : Str := ⟨l.toArray⟩
theorem ofL_toList (w : Str) : ofL w.cps.toList = w := by
  unfold ofL
  rw [Array.toArray_toList]
theorem toList_ofL (l : List Nat) : (ofL l).cps.toList = l := rfl
theorem ofL_inj {a b : List Nat} : ofL a = ofL b ↔ a = b := by
  constructor
  · intro h
    have := congrArg (fun w : Str => w.cps.toList) h
    exact this
  · rintro rfl
    rfl
theorem app_toList (a b : Str) : (a ++ b).cps.toList = a.cps.toList ++ b.cps.toList := by
  show (a.cps ++ b.cps).toList = _
  rw [Array.toList_append]
theorem ofL_app (a b : List Nat) : ofL (a ++ b) = ofL a ++ ofL b := str_ext (by rw [app_toList]; rfl)
theorem app_assoc (a b c : Str) : a ++ b ++ c = a ++ (b ++ c) := str_ext (by rw [app_toList, app_toList, app_toList, app_toList, List.append_assoc])
theorem app_empty (a : Str) : a ++ Str.empty = a := str_ext (by rw [app_toList]; exact List.append_nil _)
theorem empty_app (a : Str) : Str.empty ++ a = a := str_ext (by rw [app_toList]; rfl)
theorem len_app (a b : Str) : (a ++ b).length = a.length + b.length := by
  show (a.cps ++ b.cps).size = _
  rw [Array.size_append]
  rfl
/-- the number of a word told as a list -/
def cl (s : Bg) (l : List Nat) : Int := cf s (ofL l)
/-- one pair of words comes to v at just one parting -/
theorem parts_one (a b : List Nat) (x : Int) : ∀ v, sumL (parts v) (fun q => if a = q.1 ∧ b = q.2 then x else 0) = if a ++ b = v then x else 0 := by
  intro v
  induction v generalizing a with
  | nil =>
    rw [parts, sumL_cons, sumL_nil, Int.add_zero]
    cases a with
    | nil => simp
    | cons c r => simp
  | cons c v ih =>
    rw [parts, sumL_cons, sumL_map]
    cases a with
    | nil =>
      have z : sumL (parts v) (fun q => if ([] : List Nat) = c :: q.1 ∧ b = q.2 then x else 0) = 0 := sumL_zero fun q _ => by simp
      rw [z]
      simp
    | cons d r =>
      by_cases e : d = c
      · subst e
        have z : sumL (parts v) (fun q => if d :: r = d :: q.1 ∧ b = q.2 then x else 0) = sumL (parts v) fun q => if r = q.1 ∧ b = q.2 then x else 0 := sumL_congr fun q _ => by simp
        rw [z, ih]
        simp
      · have z : sumL (parts v) (fun q => if d :: r = c :: q.1 ∧ b = q.2 then x else 0) = 0 := sumL_zero fun q _ => by simp [e]
        rw [z]
        simp [e]
theorem cl_sum {s : Bg} (hn : (keys s).Nodup) (l : List Nat) : cl s l = sumL s fun kv => if kv.1.cps.toList = l then kv.2 else 0 := by
  unfold cl
  rw [← sum_ind hn]
  refine sumL_congr fun kv _ => ?_
  have : kv.1 = ofL l ↔ kv.1.cps.toList = l := by
    constructor
    · intro h; rw [h]; rfl
    · intro h; exact str_ext h
  simp only [this]
/-- products by partings -/
theorem cvS_conv {s t : Bg} (hs : (keys s).Nodup) (ht : (keys t).Nodup) (w : Str) : cvS s t w = conv (cl s) (cl t) w.cps.toList := by
  unfold conv cvS
  have e : ∀ q ∈ parts w.cps.toList, cl s q.1 * cl t q.2 = sumL s fun a => sumL t fun b => if a.1.cps.toList = q.1 ∧ b.1.cps.toList = q.2 then a.2 * b.2 else 0 := by
    intro q _
    rw [cl_sum hs, cl_sum ht, ← sumL_mulr]
    refine sumL_congr fun a _ => ?_
    rw [← sumL_mul]
    refine sumL_congr fun b _ => ?_
    by_cases h1 : a.1.cps.toList = q.1 <;> by_cases h2 : b.1.cps.toList = q.2 <;> simp [h1, h2]
  rw [sumL_congr e, sumL_swap (parts w.cps.toList) s]
  refine sumL_congr fun a _ => ?_
  rw [sumL_swap (parts w.cps.toList) t]
  refine sumL_congr fun b _ => ?_
  rw [parts_one]
  have : a.1 ++ b.1 = w ↔ a.1.cps.toList ++ b.1.cps.toList = w.cps.toList := by
    rw [← app_toList]
    constructor
    · intro h; rw [h]
    · intro h; exact str_ext h
  simp only [this]
theorem cl_prod {p : Int} (hp : 0 < p) {s t : Bg} (hs : (keys s).Nodup) (ht : (keys t).Nodup) (l : List Nat) : cl (prodS p s t) l = conv (cl s) (cl t) l % p := by
  unfold cl
  rw [cf_prod hp, cvS_conv hs ht]
  rfl
theorem cl_plus {p : Int} (hp : 0 < p) {s t : Bg} (hs : Good p s) (ht : (keys t).Nodup) (f : Int) (l : List Nat) : cl (plusS p s t f) l = (cl s l + f * cl t l) % p := cf_plus hp hs ht f _
theorem cl_mod {p : Int} (hp : 0 < p) {s : Bg} (hs : Good p s) (l : List Nat) : cl s l % p = cl s l := cf_mod hp hs _
theorem words_cl {p : Int} {s t : Bg} (gs : Good p s) (gt : Good p t) (h : ∀ l, cl s l = cl t l) : wordsS s = wordsS t :=
  wordsS_congr gs gt fun w => by
    have := h w.cps.toList
    unfold cl at this
    rw [ofL_toList] at this
    exact this
/-- put behind one another in either order of doing -/
theorem prod_assoc {p : Int} (hp : 0 < p) {s t u : Bg} (gs : Good p s) (gt : Good p t) (gu : Good p u) : wordsS (prodS p (prodS p s t) u) = wordsS (prodS p s (prodS p t u)) := by
  have g1 := Good.prod hp s t
  have g2 := Good.prod hp t u
  refine words_cl (Good.prod hp _ _) (Good.prod hp _ _) fun l => ?_
  rw [cl_prod hp g1.nd gu.nd, cl_prod hp gs.nd g2.nd]
  have e1 : conv (cl (prodS p s t)) (cl u) l % p = conv (conv (cl s) (cl t)) (cl u) l % p := conv_mod (fun x => by rw [cl_prod hp gs.nd gt.nd, Int.emod_emod]) (fun _ => rfl) l
  have e2 : conv (cl s) (cl (prodS p t u)) l % p = conv (cl s) (conv (cl t) (cl u)) l % p := conv_mod (fun _ => rfl) (fun x => by rw [cl_prod hp gt.nd gu.nd, Int.emod_emod]) l
  rw [e1, e2, conv_assoc]
end Fp

/-! Rules of our own over the hand layer: defs by name, steps of a reading. -/
namespace Fp
open PySem L2

/-! ### a def of the module, called by its name -/
structure DefOk (P : Program) (w : World) (K : PySem.W.Frag) (mg : Str → Option Value) (base : Heap) (CX : CXT) (k : Nat) (nm : Str) (ps : List Str) (sp : Sp) : Prop where
  ex : ∃ f fd, mg nm = some (.ref f) ∧ PySem.W.keepIn K (.ref f) = true ∧ Binds K fd ps [] ∧ FnOk P w K mg base CX k f fd ps sp
section
variable {X : Cx} {CX : CXT} {k : Nat} {ps : List Str} {sp : Sp} {E : XK} {x : Str} {p pos apos : Pos} {e o : Expr} {es : List Expr} {t : TA} {ta : TE}
theorem pe_callD (D : DefOk X.prog X.w X.K X.mg X.base CX k x ps sp) (hr : Room k X.A) (hg : Gl X x) (hx : Passes CX X E) (ha : PA X (e :: es) t)
    (hdb : (x == ("__debug__" : Str)) = false := by decide) (he : starEach (e :: es) X.env = (false, eval e X.env) :: starEach es X.env := by rfl) (hpl : (backTo pos (starEach es X.env)).any (·.1) = false := by rfl) :
    PE X (.Call (.Name x p) (e :: es) [] pos) (tCall sp [] E t) := by
  obtain ⟨f, fd, hm, hk, hb, F⟩ := D.ex
  exact pe_call F hr hg hm hk hb .nil hx ha hdb he hpl
theorem pe_callD0 (D : DefOk X.prog X.w X.K X.mg X.base CX k x ps sp) (hr : Room k X.A) (hg : Gl X x) (hx : Passes CX X E)
    (hdb : (x == ("__debug__" : Str)) = false := by decide) : PE X (.Call (.Name x p) [] [] pos) (tCall sp [] E tNil) := by
  obtain ⟨f, fd, hm, hk, hb, F⟩ := D.ex
  exact pe_call0 F hr hg hm hk hb .nil hx hdb
/-- C(..) -/
structure MkOk (P : Program) (w : World) (K : PySem.W.Frag) (mg : Str → Option Value) (base : Heap) (CX : CXT) (k : Nat) (nm : Str) (C : Addr) (ps : List Str) (sp : Sp) : Prop where
  ex : ∃ f fd, Mk K C f ∧ mg nm = some (.ref C) ∧ Binds K fd ps [] ∧ FnOk P w K mg base CX k f fd ps sp
theorem pe_mkD {C : Addr} (D : MkOk X.prog X.w X.K X.mg X.base CX k x C ps sp) (hr : Room (k + 1) X.A) (hg : Gl X x) (hx : Passes CX X E) (ha : PA X (e :: es) t)
    (hdb : (x == ("__debug__" : Str)) = false := by decide) (he : starEach (e :: es) X.env = (false, eval e X.env) :: starEach es X.env := by rfl) (hpl : (backTo pos (starEach es X.env)).any (·.1) = false := by rfl) :
    PE X (.Call (.Name x p) (e :: es) [] pos) (tMake C sp [] E t) := by
  obtain ⟨f, fd, M, hm, hb, F⟩ := D.ex
  exact pe_make M F hr hg hm hb .nil hx ha hdb he hpl
/-- o.m(..) -/
structure MtOk (P : Program) (w : World) (K : PySem.W.Frag) (mg : Str → Option Value) (base : Heap) (CX : CXT) (k : Nat) (C : Addr) (m : Str) (ps : List Str) (sp : Sp) : Prop where
  ex : ∃ f fd, Cls K C ∧ Meth K C m f ∧ Binds K fd ps [] ∧ FnOk P w K mg base CX k f fd ps sp
theorem pe_mtD {pl : Sem Bool} {C : Addr} {m : Str} (D : MtOk X.prog X.w X.K X.mg X.base CX k C m ps sp) (hr : Room k X.A) (hx : Passes CX X E) (he : PE X o ta) (ha : PA X (e :: es) t)
    (hst : starEach (e :: es) X.env = (false, eval e X.env) :: starEach es X.env := by rfl) (hpl : (backTo pos (starEach es X.env)).any (·.1) = false := by rfl)
    (ht : eval (.Call (.Attribute o m apos) (e :: es) [] pos) X.env = (do
      let ov ← eval o X.env
      standAt apos.atName
      let (f, first) ← holding [ov] (getMethod ov m pl)
      callWith pos f first (backTo pos (starEach (e :: es) X.env)) (backToKw pos (keywordEach [] X.env))) := by rfl) :
    PE X (.Call (.Attribute o m apos) (e :: es) [] pos) (tMeth C m sp [] E ta t) := by
  obtain ⟨f, fd, c, hm, hb, F⟩ := D.ex
  exact pe_meth he c hm F hr hb .nil hx ha hst hpl ht
/-- a callee that may raise, called where it does not -/
theorem passX0 {P : Program} {w : World} {X : Cx} : Passes (L2.CX P w) X E0 := fun _ _ _ _ _ _ _ h => by
  obtain ⟨_, _, _, _, _, _, _, _, _, _, _, _, q⟩ := h
  exact q.elim

/-! ### a loop over a dict that may be locked already -/
def tLockR (t : TS) : TS := fun D σ H => tLock t D σ H ∨ t D σ H
theorem ps_lockR {st : Stmt} {t : TS} (h : PS X st t) : PS X st (tLockR t) := ⟨fun pins s σ H D I q => q.elim ((ps_lock h).run pins s σ H D I) (h.run pins s σ H D I)⟩
def tLockRE (t : TE) : TE := fun σ H Q => tLockE t σ H Q ∨ t σ H Q
theorem pe_lockR {t : TE} (h : PE X e t) : PE X e (tLockRE t) := ⟨fun pins s σ H Q I q => q.elim ((pe_lock h).run pins s σ H Q I) (h.run pins s σ H Q I)⟩

/-! ### displays of dicts -/
end
/-- len of a list, a tuple, a text, a dict -/
def rLenA (K : PySem.W.Frag) : List V → Hp → VK → Prop := fun xs H Q => (∃ x n, xs = [x] ∧ LenV K x H n ∧ Q (.int n) H) ∨ (∃ a kvs, xs = [V.ref a] ∧ H a = some (.dK kvs) ∧ Q (.int kvs.length) H)
theorem call_lenA {X : Cx} : CallR X (.builtin "len") (rLenA X.K) := CallR.or call_len call_lenD

/-! ### what stands -/
def Ex (H H' : Hp) : Prop := ∀ a o, H a = some o → H' a = some o
theorem Ex.refl (H : Hp) : Ex H H := fun _ _ h => h
theorem Ex.trans {H H1 H2 : Hp} (a : Ex H H1) (b : Ex H1 H2) : Ex H H2 := fun x o h => b x o (a x o h)
theorem Ex.new {H : Hp} {p : Addr} {o : HO} (h : H p = none) : Ex H (upd H p o) := fun a u e => by
  rw [upd_ne (ne_of_none e h)]
  exact e
theorem Ex.free {H H' : Hp} (e : Ex H H') {p : Addr} (h : H' p = none) : H p = none := by
  cases q : H p with
  | none => rfl
  | some o => rw [e p o q] at h; cases h
/-- a new object may change -/
theorem Ex.mut {H H' : Hp} {p : Addr} {o : HO} (e : Ex H H') (h : H p = none) : Ex H (upd H' p o) := fun a u q => by
  rw [upd_ne (ne_of_none q h)]
  exact e a u q
theorem Ex.rd {H H' : Hp} {a : Addr} {u : HO} (e : Ex H H') (h : Rd H a u) : Rd H' a u := by
  rcases h with h | ⟨o, h⟩
  · exact .inl (e a _ h)
  · exact .inr ⟨o, e a _ h⟩
theorem Ex.sql {K : PySem.W.Frag} {H H' : Hp} {a : Addr} {xs : List V} (e : Ex H H') (h : SqL K H a xs) : SqL K H' a xs := h.elim (fun h => .inl (e.rd h)) .inr
theorem Ex.sqt {K : PySem.W.Frag} {H H' : Hp} {a : Addr} {xs : List V} (e : Ex H H') (h : SqT K H a xs) : SqT K H' a xs := h.elim (fun h => .inl (e.rd h)) .inr

/-! ### steps of a reading -/
/-- what a list comprehension over J asks -/
def LcG (J : It) (g : TG) (tt : TT) (te : TE) (vs : List Nat) (σ : St) (H1 : Hp) (Q : VK) : Prop := ∀ D, H1 D = none → ∃ W : Nat → Nat → Hp → Prop, (∃ m, W 0 m (upd H1 D (.lst []))) ∧ ∀ i m H, W i m H →
      (J.stop i H ∧ Q (.ref D) H) ∨ (J.go i H ∧ ∃ Nx : Hp → Prop, (∀ H', Nx H' → ∃ m', m' < m ∧ W (i + 1) m' H') ∧ ∀ x H', J.yld i H x H' → g x (wipe σ vs) H' fun σ2 H2 => wipe σ2 vs = wipe σ vs ∧ tt σ2 H2 fun b H3 =>
        if b = true then te σ2 H3 fun y H4 => ∃ acc, H4 D = some (.lst acc) ∧ acc.length < sizeLine ∧ Nx (upd H4 D (.lst (acc ++ [y]))) else Nx H3)
/-- what a loop over J asks -/
def ForG (J : It) (g : TG) (t : TS) (D : Ends) (σ : St) (H1 : Hp) : Prop := ∃ W : Nat → Nat → St → Hp → Prop, (∃ m, W 0 m σ H1) ∧ ∀ i m σ H, W i m σ H →
  (J.stop i H ∧ D.nx σ H) ∨ (J.go i H ∧ ∃ N : St → Hp → Prop, (∀ σ' H', N σ' H' → ∃ m', m' < m ∧ W (i + 1) m' σ' H') ∧ ∀ x H', J.yld i H x H' → g x σ H' fun σ2 H2 => t { D with nx := N, ct := N, bk := D.nx } σ2 H2)
section
variable {σ : St} {H H1 : Hp} {Q : VK} {D : Ends} {i : Nat} {v x y : V} {ta tb te tc : TE} {K : PySem.W.Frag} {tt tu : TT} {t u : TS} {QB : Bool → Hp → Prop}
theorem g_seq (h : t { D with nx := u D } σ H) : tSeq t u D σ H := h
theorem g_next (h : D.nx σ H) : tNext D σ H := h
theorem g_asg {g : TG} (h : te σ H fun x H1 => g x σ H1 D.nx) : tAsg te g D σ H := h
theorem g_name {QS : St → Hp → Prop} (h : QS (σ.set i (some v)) H) : gName i v σ H QS := h
theorem g_ret (h : te σ H D.rt) : tRet te D σ H := h
theorem g_retN (h : D.rt .non H) : tRetN D σ H := h
theorem g_drop (h : te σ H fun _ H1 => D.nx σ H1) : tDrop te D σ H := h
theorem g_ifs {c : TT} (h : c σ H fun b H1 => if b = true then t D σ H1 else u D σ H1) : tIfS c t u D σ H := h
theorem g_var (e : σ[i]? = some (some v)) (h : Q v H) : tVar i σ H Q := ⟨v, e, h⟩
theorem g_c (h : Q v H) : tC v σ H Q := h
theorem g_op {r : R2} (h : ta σ H fun x H1 => tb σ H1 fun y H2 => r x y H2 Q) : tOp r ta tb σ H Q := h
theorem g_un {r : V → Hp → VK → Prop} (h : ta σ H fun x H1 => r x H1 Q) : tUn r ta σ H Q := h
theorem g_I0 {g : Int → Int → V} {a b : Int} (h : Q (g a b) H) : rI0 g (.int a) (.int b) H Q := ⟨a, b, rfl, rfl, h⟩
theorem g_I {C : Int → Int → Prop} {g : Int → Int → V} {a b : Int} (c : C a b) (h : Q (g a b) H) : rI C g (.int a) (.int b) H Q := ⟨a, b, rfl, rfl, c, h⟩
theorem g_U {g : Int → V} {a : Int} (h : Q (g a) H) : rU g (.int a) H Q := ⟨a, rfl, h⟩
theorem g_eq (s : scal x y = true) (h : Q (.bl (decide (x = y))) H) : rEq x y H Q := ⟨s, h⟩
theorem g_ne (s : scal x y = true) (h : Q (.bl (!decide (x = y))) H) : rNe x y H Q := ⟨s, h⟩
theorem g_test (h : te σ H fun x H' => ∃ k, x = .bl k ∧ QB k H') : tTest te σ H QB := h
theorem g_tB (h : te σ H fun x H' => ∃ k, x = .bl k ∧ QB k H') : tB te σ H QB := h
theorem g_bl {b : Bool} {R : Bool → Prop} (h : R b) : ∃ k, (V.bl b) = .bl k ∧ R k := ⟨b, rfl, h⟩
theorem g_and (h : tt σ H fun c H1 => if c = true then tu σ H1 QB else QB false H1) : tAnd tt tu σ H QB := h
theorem g_or (h : tt σ H fun c H1 => if c = true then QB true H1 else tu σ H1 QB) : tOr tt tu σ H QB := h
theorem g_not (h : tt σ H fun c H1 => QB (!c) H1) : tNot tt σ H QB := h
theorem g_andV (h : ta σ H fun x H1 => ∃ c, x = .bl c ∧ if c = true then tb σ H1 Q else Q (.bl false) H1) : tAndV ta tb σ H Q := h
theorem g_orV (h : ta σ H fun x H1 => ∃ c, x = .bl c ∧ if c = true then Q (.bl true) H1 else tb σ H1 Q) : tOrV ta tb σ H Q := h
theorem g_notV (h : ta σ H fun x H1 => ∃ c, x = .bl c ∧ Q (.bl (!c)) H1) : tNotV ta σ H Q := h
theorem g_if (h : tt σ H fun c H1 => if c = true then ta σ H1 Q else tb σ H1 Q) : tIf tt ta tb σ H Q := h
theorem g_nil {QA : List V → Hp → Prop} (h : QA [] H) : tNil σ H QA := h
theorem g_cons {tr : TA} {QA : List V → Hp → Prop} (h : ta σ H fun x H1 => tr σ H1 fun xs H2 => QA (x :: xs) H2) : tCons ta tr σ H QA := h
theorem g_cb {r : List V → Hp → VK → Prop} {tA : TA} (h : tA σ H fun vs H1 => r vs H1 Q) : tCB r tA σ H Q := h
theorem g_call {sp : Sp} {E : XK} {tA : TA} (h : tA σ H fun vs H1 => sp (vs ++ []) H1 Q E) : tCall sp [] E tA σ H Q := h
theorem g_ite {b : Bool} {A B : Prop} (h1 : b = true → A) (h2 : b = false → B) : if b = true then A else B := by
  cases b with
  | true => rw [if_pos rfl]; exact h1 rfl
  | false => rw [if_neg Bool.false_ne_true]; exact h2 rfl
theorem g_ift {b : Bool} {A B : Prop} (hb : b = true) (h : A) : if b = true then A else B := by rw [if_pos hb]; exact h
theorem g_iff {b : Bool} {A B : Prop} (hb : b = false) (h : B) : if b = true then A else B := by rw [hb, if_neg Bool.false_ne_true]; exact h
theorem g_itT {A B : Prop} (h : A) : if true = true then A else B := by rw [if_pos rfl]; exact h
theorem g_itF {A B : Prop} (h : B) : if false = true then A else B := by rw [if_neg Bool.false_ne_true]; exact h
theorem g_lc {wi : TI} {g : TG} {te : TE} {vs : List Nat} (h : wi σ H fun J H1 => LcG J g tt te vs σ H1 Q) : tLc wi g tt te vs σ H Q := h
theorem g_yes (h : QB true H) : tYes σ H QB := h
theorem g_iStr {R : It → Hp → Prop} (h : te σ H fun v H1 => ∃ x, v = .str x ∧ R (Its x) H1) : iStr te σ H R := h
theorem g_exs {z : Str} {R : Str → Prop} (h : R z) : ∃ x, (V.str z) = .str x ∧ R x := ⟨z, rfl, h⟩
theorem g_lst {tA : TA} (h : tA σ H fun xs H1 => xs.length ≤ sizeLine ∧ ∀ p, H1 p = none → Q (.ref p) (upd H1 p (.lst xs))) : tLst tA σ H Q := h
theorem g_tup {tA : TA} (h : tA σ H fun xs H1 => xs.length ≤ sizeLine ∧ ∀ p, H1 p = none → Q (.ref p) (upd H1 p (.tup xs))) : tTup tA σ H Q := h
end
end Fp

/-! sorted by the key (-len(word), word). -/
namespace Fp
open PySem L2 PySem.W
section
variable {X : L2.Cx} {wn nm qual : Str} {st : PySem.Stmt} {f : Addr} {fd : FuncData} {pins : List (Addr × Obj)} {σ : St} {H : Hp} {s : Shared} {p1 p2 p3 p4 p5 p6 p7 : Pos} 
theorem ahead_call {kk : _} (F : Fun X.K nm qual st f fd) (S : FnScope [wn] [wn] (defScope st))
    (hbody : defBody st = [.Return (some (.Tuple [.UnaryOp .USub (.Call (.Name "len" p1) [.Name wn p2] [] p3) p4, .Name wn p5] kk p6)) p7])
    (hwn : (defScope st).names.lookup wn = some .local) (hlen : (defScope st).names.lookup ("len" : Str) = some .globalImplicit) (hwd : (wn == ("__debug__" : Str)) = false) (bn : Binds X.K fd [wn] []) (bl : X.mg "len" = none) (I : Inv X pins σ H s) {A' : Around} (hr : Room 1 A')
    (x : Str) (t : Tok) (hx : x.length ≤ sizeLine) (h : Heap) (tk : Nat) (keep : ∀ b o, s.heap.get? b = some o → h.get? b = some o) :
    wpAny (model X.prog X.w) A' (call (.ref f) [.str x t]) (KeyPure (keyD x) { s with heap := h, toks := tk }) (fun _ _ => False) { s with heap := h, toks := tk } := by
  obtain ⟨oc, od, kV, doc, pm, an, cdv, ct, osl, rfl, lk, hcd⟩ := F.ex
  have KX : X.K.In h := I.kIn.keeps keep
  have lim : h.NoLimit := I.nolimit.keeps keep
  have hb := bn { s with heap := h, toks := tk } [.str x t] KX rfl
  refine wpAny_call (codeAny_call_function hr.depth (KX _ _ lk) rfl S.co S.gen rfl (PySem.W.codeRec_of KX hcd) (hb _ _ _ _ ?_))
  have hkind : ∀ y ∈ [wn].zip ([Value.str x t] ++ []), (defScope st).names.lookup y.1 = some .local ∨ ((defScope st).names.lookup y.1 = some .cell ∧ ((cellsFrom (h.objs.size + 1) (defScope st).names []).lookup y.1).isSome = true) := fun y hy => by
    have e : y = (wn, Value.str x t) := by simpa using hy
    rw [e]
    exact .inl hwn
  refine wpAny_newFunctionEnv_cells S.kind hkind fun env he s1 xx => ?_
  obtain ⟨h1, tk1, rfl, hk1⟩ := xx.done
  have hns := xx.toInCall.ns
  refine ⟨lim.keeps hk1, codeAny_func ?_⟩
  have henv : env.scope = defScope st ∧ env.globals = mainGlobals ∧ env.builtins = builtinsNs := by rw [he]; exact ⟨rfl, rfl, rfl⟩
  obtain ⟨e1, e2, e3⟩ := henv
  have kw : env.kindOf wn = some .local := by unfold Env.kindOf; rw [e1]; exact hwn
  have kl : env.kindOf "len" = some .globalImplicit := by unfold Env.kindOf; rw [e1]; exact hlen
  have mw : bindL env.kindOf ([wn].zip ([Value.str x t] ++ [])) (fun _ => none) wn = some (.str x t) := by
    show bindL env.kindOf [(wn, Value.str x t)] (fun _ => none) wn = _
    unfold bindL
    simp [bindL, kw]
  have keep1 : ∀ b o, s.heap.get? b = some o → h1.get? b = some o := fun b o q => hk1 b o (keep b o q)
  obtain ⟨mb, b1, b2⟩ := I.mod.blt
  rw [hbody]
  refine wpAny_execs_cons (wpAny_Return_some (wpAny_Tuple_spliced ?_))
  refine Calls.spliced_cons (PyProof.Rows.UnaryOp_ (wpAny_Call_Name_kw (Calls.Name_function_global (by rw [e1]; exact S.kind) kl (Calls.loadGlobal_builtin (by rw [e2]; exact I.mod.glob.keeps fun b o q => keep1 b o (I.bk b o q)) bl
    (by rw [e3]; exact b1.keeps fun b o q => keep1 b o (I.bk b o q)) ((b2 ("len" : Str) (by decide)).trans PySem.boot_len) ?_))))
  refine PyProof.Rows.callWith_builtin1 (Calls.spliced_cons (wpAny_Name (wpAny_loadName_local (by rw [e1]; exact S.kind) kw hns mw (Calls.spliced_nil ?_)) hwd))
  have hn := L2.line63
  refine PyProof.Rows.len_str (by omega) (PyProof.Rows.neg_int ?_)
  refine Calls.spliced_cons (wpAny_Name (wpAny_loadName_local (by rw [e1]; exact S.kind) kw hns mw (Calls.spliced_nil ⟨by show 2 ≤ sizeLine; decide, ?_⟩)) hwd)
  refine ⟨_, _, rfl, fun b o q => Heap.get?_push_of_some _ (hk1 b o q), ?_⟩
  exact .tuple (o := { cls := .type "tuple", data := .seq #[.int (-(x.length : Int)) _, .str x t] }) (Heap.get?_push_size _ rfl) rfl rfl (.cons (.int _ _) (.cons (.str _ _) .nil))
end
end Fp

namespace Fp
open PySem L2 PySem.W
section
variable {X : L2.Cx} {wn nm qual : Str} {st : PySem.Stmt} {f : Addr} {fd : FuncData} {p1 p2 p3 p4 p5 p6 p7 : Pos}
theorem keyD_alike (b b' : Str) : alike (keyD b) (keyD b') = true := by simp [keyD, alike, alikeAll]
theorem keyD_depth (b : Str) : (keyD b).depth ≤ 1 := by simp [keyD, PyData.depth, PyData.depthAll]
theorem each_strs {ws : List Str} {its : List Value} (r : Vals (ws.map V.str) its) : EachIs (fun v x => ∃ t, v = Value.str x t) its ws := by
  induction ws generalizing its with
  | nil => cases r; exact .nil
  | cons w ws ih =>
    cases r with
    | cons r1 r2 => exact .cons r1 (ih r2)
theorem vals_each {ws : List Str} {its : List Value} (r : EachIs (fun v x => ∃ t, v = Value.str x t) its ws) : Vals (ws.map V.str) its := by
  induction r with
  | nil => exact .nil
  | cons h _ ih => exact .cons h ih
/-- what sorted(xs, key=f) asks, f telling (-len(word), word) -/
def rSortedKey (K : PySem.W.Frag) (f : Addr) : List V → List V → Hp → VK → Prop := fun vs zs H Q => ∃ (a : Addr) (ws : List Str), vs = [V.ref a] ∧ zs = [V.ref f] ∧ SqL K H a (ws.map V.str) ∧ (∀ w ∈ ws, w.length ≤ sizeLine) ∧
  ∀ p, H p = none → Q (.ref p) (upd H p (.lst ((ordW ws).map V.str)))
theorem cr_sortedKey {kk : _} (F : Fun X.K nm qual st f fd) (S : FnScope [wn] [wn] (defScope st))
    (hbody : defBody st = [.Return (some (.Tuple [.UnaryOp .USub (.Call (.Name "len" p1) [.Name wn p2] [] p3) p4, .Name wn p5] kk p6)) p7])
    (hwn : (defScope st).names.lookup wn = some .local) (hlen : (defScope st).names.lookup ("len" : Str) = some .globalImplicit) (hwd : (wn == ("__debug__" : Str)) = false) (bn : L2.Binds X.K fd [wn] []) (bl : X.mg "len" = none) (hr : Room 3 X.A) :
    CallRK X (.builtin "sorted") [Str.ofString "key"] (rSortedKey X.K f) := by
  intro pins s σ H vs zs us ws Q I r rz h
  obtain ⟨a, xs, rfl, rfl, hs, hx, q⟩ := h
  obtain rfl := Vals.ref1 r
  obtain ⟨w1, rfl, e1⟩ := vals1 rz
  obtain rfl : w1 = Value.ref f := e1
  obtain ⟨its, rv, hl, hz⟩ := I.list hs
  rw [List.length_map] at hz
  refine PySem.W.sorted_key_data (R := fun v x => ∃ t, v = Value.str x t) (bs := xs) (b := false) keyD hl.isList (each_strs rv) (AllAlike.of keyD_alike) (Sortable.tuples fun b => ⟨_, _, rfl⟩) hz (fun x _ => ?_) (PyProof.Rows.ksk_s1 _ _) (fun x => PyProof.Rows.ksk_l1 _ _) (fun x => PyProof.Rows.ksk_t1 f x) (fun v x hv hm h tk kk => ?_) (fun out c h' tk keep _ hget hlen ho => ?_)
  · have := hr.un
    have := keyD_depth x
    omega
  · obtain ⟨t, rfl⟩ := hv
    exact ahead_call F S hbody hwn hlen hwd bn bl I hr.in1.in1 x t (hx x hm) h tk kk
  · have hl2 : ((ordW xs).map V.str).length ≤ sizeLine := by rw [List.length_map, ordW_len]; exact hz
    exact ⟨.ref _, upd H (s.heap.objs.size + 1) (.lst ((ordW xs).map V.str)), I.laid (t' := tk) keep (Nat.le_succ _) ⟨hl2, out, c, vals_each ho, hget⟩, rfl, q _ (I.hok.fresh (Nat.le_succ _))⟩
/-- sorted of a list of pairs (-len(word), word) -/
def rSortedW (K : PySem.W.Frag) : List V → Hp → VK → Prop := fun vs H Q => ∃ (a : Addr) (bs : List (Addr × Str)), vs = [V.ref a] ∧ SqL K H a (bs.map fun b => V.ref b.1) ∧ (∀ b ∈ bs, SqT K H b.1 [.int (-(b.2.length : Int)), .str b.2]) ∧
  ∀ (bs' : List (Addr × Str)) p, bs'.map (·.2) = ordW (bs.map (·.2)) → (∀ b ∈ bs', b ∈ bs) → H p = none → Q (.ref p) (upd H p (.lst (bs'.map fun b => V.ref b.1)))
theorem each_refs {bs : List (Addr × Str)} {its : List Value} (r : Vals (bs.map fun b => V.ref b.1) its) : EachIs (fun v b => v = Value.ref b.1) its bs := by
  induction bs generalizing its with
  | nil => cases r; exact .nil
  | cons w ws ih =>
    cases r with
    | cons r1 r2 => exact .cons r1 (ih r2)
theorem refs_each {bs : List (Addr × Str)} {its : List Value} (r : EachIs (fun v b => v = Value.ref b.1) its bs) : Vals (bs.map fun b => V.ref b.1) its := by
  induction r with
  | nil => exact .nil
  | cons h _ ih => exact .cons h ih
theorem eachIs_imp {α : Type} {R R' : Value → α → Prop} {vs : List Value} {bs : List α} (r : EachIs R vs bs) (h : ∀ v b, b ∈ bs → R v b → R' v b) : EachIs R' vs bs := by
  induction r with
  | nil => exact .nil
  | cons h1 _ ih => exact .cons (h _ _ List.mem_cons_self h1) (ih fun v b hb => h v b (List.mem_cons_of_mem _ hb))
theorem cr_sortedW (hu : X.A.units + 64 < cLine) : CallR X (.builtin "sorted") (rSortedW X.K) := by
  intro pins s σ H vs us Q I r h
  obtain ⟨a, bs, rfl, hs, hx, q⟩ := h
  obtain rfl := Vals.ref1 r
  obtain ⟨its, rv, hl, hz⟩ := I.list hs
  rw [List.length_map] at hz
  have ep := each_refs rv
  have er : EachIs (fun v (b : Addr × Str) => ∃ as, Reads s.heap v (keyD b.2) as) its bs := eachIs_imp ep fun v b hb hv => by
    subst hv
    obtain ⟨us2, r2, ⟨o, ho, hc, n, hd⟩, _⟩ := I.tuple (hx b hb)
    obtain ⟨u1, u2, rfl, ⟨t1, rfl⟩, ⟨t2, rfl⟩⟩ := vals2 r2
    exact ⟨_, .tuple ho hc hd (.cons (.int _ _) (.cons (.str _ _) .nil))⟩
  refine PySem.W.sorted_data (R := fun v b => v = Value.ref b.1) (bs := bs) (enc := fun b => keyD b.2) hl.isList ep er (AllAlike.of fun b b' => keyD_alike b.2 b'.2) (Sortable.tuples fun b => ⟨_, _, rfl⟩) hz (fun b _ => ?_) (fun out hlen ho => ?_)
  · have := keyD_depth b.2
    omega
  · have e1 : (bs.mergeSort (dataLe false fun b => keyD b.2)).map (·.2) = ordW (bs.map (·.2)) := sort_maps (s := leW) (fun b : Addr × Str => b.2) fun _ _ _ _ => rfl
    have hl2 : ((bs.mergeSort (dataLe false fun b => keyD b.2)).map fun b => V.ref b.1).length ≤ sizeLine := by rw [List.length_map, (List.mergeSort_perm _ _).length_eq]; exact hz
    obtain ⟨ep2, he'⟩ := PyProof.Rows.sortedAll_at s.heap its (List.toArray out)
    exact ⟨.ref _, upd H (s.heap.objs.size + 1) (.lst ((bs.mergeSort (dataLe false fun b => keyD b.2)).map fun b => V.ref b.1)), I.laid (t' := s.toks) (fun _ _ => PyProof.Rows.sortedAll_old) (Nat.le_succ _) ⟨hl2, out, ep2, refs_each ho, he'⟩, rfl, q _ _ e1 (fun b hb => (List.mergeSort_perm _ _).mem_iff.mp hb) (I.hok.fresh (Nat.le_succ _))⟩
end
end Fp

/-! == and != of instances with the text's own __eq__, whatever stands on the right. -/
namespace Fp
open PySem PySem.W
section
variable {prog : Program} {w : World} {A : Around} {E : Value → Shared → Prop} {s : Shared} {K : Frag} {x C f : Addr} {ox : Obj} {od : Option Obj} {name : Str} {b tb : Value}
theorem ifBoundB {M : Model} {args : List Value} {id : String} {Q : Option Value → Shared → Prop} (X : K.In s.heap) (I : InstAt s.heap x ox C od) (hs : findIn K (.ref C) name = some (some (.builtin id)))
    (hb : ∀ self, bindSpecial (.builtin id) self = pure (.builtin id, [self]))
    (h : wpAny M A (call (.builtin id) (.ref x :: args)) (fun v => Q (some v)) E s) : wpAny M A (callSpecialIfBound? (.ref x) name args) Q E s := by
  simp only [callSpecialIfBound?, bindSpecialIfBound?]
  refine wpAny_holding (wpAny_bind (wpAny_bind (wpAny_bind (I.type.here ((looks_findIn X hs).here ?_)))))
  simp only [hb]
  refine wpAny_bind (wpAny_askSetting (wpAny_ite ?_))
  have fin : wpAny M A (call (.builtin id) ([.ref x] ++ args) >>= fun v => pure (some v)) Q E s := wpAny_bind (wpAny_mono h (fun v s' h' => wpAny_pure h') fun _ _ h' => h')
  split
  · exact wpAny_bind (wpAny_pure (wpAny_pure fin))
  · exact wpAny_tryCatch (wpAny_bind (wpAny_pure (wpAny_pure fin)))
theorem ne_body (hu : A.units < cLine) (X : K.In s.heap) (I : InstAt s.heap x ox C od) (hs : findIn K (.ref C) "__eq__" = some (some (.ref f))) (hf : isFn K (.ref f) = true) {Q : PySem.Fin → Shared → Prop}
    (hcall : wpAny (model prog w) A (call (.ref f) [.ref x, b]) (fun v s' => ∃ c, v = .bool c ∧ Q (.done (.ret (.bool (!c)))) s') E s) :
    wpAny (model prog w) A (Builtin.«object.__ne__» ⟨[.ref x, b], []⟩) Q E s := by
  obtain ⟨h, g, d, t, os⟩ := s
  unfold Builtin.«object.__ne__»
  repeat (first
    | with_reducible refine wpAny_cRoomFor hu ?_
    | (refine wpAny_bind (m := callSpecialIfBound? (.ref x) (Str.ofString "__eq__") [b])
        (ifBound_K X I hs hf (wpAny_mono hcall (fun r s' hr => by
          obtain ⟨c, rfl, hq⟩ := hr
          repeat (first | exact hq | exact wpAny_pure hq | exact wpAny_truthy_bool hq | (refine wpAny_bind (m := truthy (.bool _)) (wpAny_truthy_bool ?_)) | wp_step)) fun _ _ e => e)))
    | wp_step)
theorem try_eq (X : K.In s.heap) (I : InstAt s.heap x ox C od) (hs : findIn K (.ref C) "__eq__" = some (some (.ref f))) (hf : isFn K (.ref f) = true) {Q : Value → Shared → Prop}
    (hcall : wpAny (model prog w) A (call (.ref f) [.ref x, b]) (fun v s' => ∃ c, v = .bool c ∧ Q (.bool c) s') E s) :
    wpAny (model prog w) A (tryCompare (.ref x) "__eq__" b) (fun r s' => ∃ v, r = some v ∧ Q v s') E s := by
  unfold tryCompare
  refine wpAny_bind (ifBound_K X I hs hf (wpAny_mono hcall (fun v s' hv => ?_) fun _ _ e => e))
  obtain ⟨c, rfl, hq⟩ := hv
  exact wpAny_pure ⟨_, rfl, hq⟩
theorem try_ne (hu : A.units + 1 < cLine) (X : K.In s.heap) (I : InstAt s.heap x ox C od) (hs : findIn K (.ref C) "__eq__" = some (some (.ref f))) (hf : isFn K (.ref f) = true)
    (hn : findIn K (.ref C) "__ne__" = some (some (.builtin "object.__ne__"))) (hm : mroIn K C (.type "object") = some true) {Q : Value → Shared → Prop}
    (hcall : wpAny (model prog w) A.in1 (call (.ref f) [.ref x, b]) (fun v s' => ∃ c, v = .bool c ∧ Q (.bool (!c)) s') E s) :
    wpAny (model prog w) A (tryCompare (.ref x) "__ne__" b) (fun r s' => ∃ v, r = some v ∧ Q v s') E s := by
  unfold tryCompare
  have hinst : Looks (model prog w) s.heap (isInstance (.ref x) (.type "object")) true := I.type.andThen (looks_mroIn X hm)
  refine wpAny_bind (ifBoundB X I hn F.cmp_object.ne.bind (wpAny_call (codeAny_call_builtin F.cmp_object.ne.plain F.cmpEntry_ne
    (check_slot F.cmpKind_ne F.cmpSplit_ne hinst (F.cmpArgs_ne _ _) (ne_body (A := A.in1) hu X I hs hf (wpAny_mono hcall (fun v s' hv => ?_) fun _ _ e => e))))))
  obtain ⟨c, rfl, hq⟩ := hv
  first | exact ⟨c, rfl, wpAny_pure ⟨_, rfl, hq⟩⟩ | exact ⟨c, rfl, _, rfl, wpAny_pure ⟨_, rfl, hq⟩⟩
theorem rich_x {op : CmpOp} {L : Addr} {Q : Value → Shared → Prop} (hu : A.units < cLine) (X : K.In s.heap) (I : InstAt s.heap x ox C od) (hb : Looks (model prog w) s.heap (typeOf b) tb) (hn : notFirst K C tb = true)
    (one : wpAny (model prog w) A (tryCompare (.ref x) (cmpInfo op).2.1 b) (fun r s' => ∃ v, r = some v ∧ Q v s') E s) : wpAny (model prog w) A (richCompare op (.ref x) b) Q E s := by
  unfold richCompare
  simp only [oneThing_ref]
  refine wpAny_holding (wpAny_bind (wpAny_cRoomFor hu ?_))
  refine wpAny_bind (I.type.here (wpAny_bind (hb.here ?_)))
  split
  · rename_i q
    have e : subIn K tb (.ref C) = some false := by
      rcases Bool.or_eq_true_iff.mp hn with e | e
      · rw [beq_iff_eq.mp e] at q; simp at q
      · exact beq_iff_eq.mp e
    refine wpAny_bind ((looks_subIn X e).here ?_)
    simp only [Bool.false_eq_true, if_false]
    refine wpAny_bind (wpAny_mono one (fun r s' z => ?_) fun _ _ e => e)
    obtain ⟨v, rfl, hq⟩ := z
    exact wpAny_pure hq
  · refine wpAny_bind (wpAny_pure ?_)
    simp only [Bool.false_eq_true, if_false]
    refine wpAny_bind (wpAny_mono one (fun r s' z => ?_) fun _ _ e => e)
    obtain ⟨v, rfl, hq⟩ := z
    exact wpAny_pure hq
theorem rich_refl {op : CmpOp} {Dd : Addr} {Q : Value → Shared → Prop} (hu : A.units < cLine) (X : K.In s.heap) (I : InstAt s.heap x ox C od) (hb : Looks (model prog w) s.heap (typeOf b) (.ref Dd)) (hne : Dd ≠ C) (hs : subIn K (.ref Dd) (.ref C) = some true)
    (one : wpAny (model prog w) A (tryCompare b (cmpInfo op).2.2 (.ref x)) (fun r s' => ∃ v, r = some v ∧ Q v s') E s) : wpAny (model prog w) A (richCompare op (.ref x) b) Q E s := by
  unfold richCompare
  simp only [oneThing_ref]
  refine wpAny_holding (wpAny_bind (wpAny_cRoomFor hu ?_))
  refine wpAny_bind (I.type.here (wpAny_bind (hb.here ?_)))
  have q : (Value.ref C != Value.ref Dd) = true := by simp; exact fun z => hne z.symm
  rw [if_pos q]
  refine wpAny_bind ((looks_subIn X hs).here ?_)
  simp only [if_true]
  refine wpAny_bind (wpAny_mono one (fun r s' z => ?_) fun _ _ e => e)
  obtain ⟨v, rfl, hq⟩ := z
  repeat (first | exact hq | exact wpAny_pure hq | wp_step)
end
section
open L2
variable {X : L2.Cx} {n : Nat} {f : Addr} {fd : FuncData} {ps : List Str} {sp : L2.Sp} {CX : L2.CXT}
/-- the own def, called by the interpreter -/
theorem run_fnA {A : Around} {pins : List (Addr × Obj)} {σ : L2.St} {H : Hp} {s : Shared} {Q : VK} {us : List Value} {vs : List V} {E : XK} (sb : L2.Sub X n A) (Fo : L2.FnOk X.prog X.w X.K X.mg X.base CX n f fd ps sp) (hb : L2.Binds X.K fd ps []) (hx : L2.Passes CX X E)
    (I : Inv X pins σ H s) (r : Vals vs us) (h : sp vs H Q E) : wpAny (model X.prog X.w) A (call (.ref f) us) (EP X pins σ Q) X.xe s := by
  have hl := Fo.len _ _ _ _ h
  have e0 : Env0 X.prog X.w X.K X.mg X.base A X.stack s H := by
    have e := I.env0
    exact ⟨by rw [sb.fr]; exact e.frames, e.mod, e.bs, e.bsz, e.funs, e.frf, e.hok, e.bare⟩
  have hlu : us.length = ps.length := by rw [← r.length]; exact hl
  refine wpAny_call (codeAny_mono (Fo.run A X.stack s H ⟨us, []⟩ us vs Q E sb.room e0 (by
    have := hb s us I.kIn (by simpa using hlu)
    simpa using this) r h) fun r s' hq => ?_)
  cases r with
  | error e => exact hx pins σ H s e s' I hq
  | ok fl =>
    cases fl with
    | ret u => exact I.after hq
    | next => exact False.elim hq
    | brk => exact False.elim hq
    | cont => exact False.elim hq
/-- what the classes with the own == have -/
structure EqCls (K : Frag) (f : Addr) (Cs : Addr → Prop) : Prop where
  eq : ∀ C, Cs C → findIn K (.ref C) "__eq__" = some (some (.ref f))
  ne : ∀ C, Cs C → findIn K (.ref C) "__ne__" = some (some (.builtin "object.__ne__"))
  ob : ∀ C, Cs C → mroIn K C (.type "object") = some true
  fn : isFn K (.ref f) = true
/-- x == y (neg: !=), x an instance -/
def rBagEq (K : Frag) (sp : L2.Sp) (Cs : Addr → Prop) (neg : Bool) : R2 := fun x y H Q =>
  (∃ a C dx fs t, x = .ref a ∧ H a = some (.ins C dx fs) ∧ Cs C ∧ TyX K H y t ∧ notFirst K C t = true ∧ sp [x, y] H (fun v H' => ∃ c, v = .bl c ∧ Q (.bl (if neg = true then !c else c)) H') E0) ∨
  (∃ a b C D dx fs dy gs, x = .ref a ∧ y = .ref b ∧ H a = some (.ins C dx fs) ∧ H b = some (.ins D dy gs) ∧ Cs C ∧ Cs D ∧ D ≠ C ∧ subIn K (.ref D) (.ref C) = some true ∧
    sp [y, x] H (fun v H' => ∃ c, v = .bl c ∧ Q (.bl (if neg = true then !c else c)) H') E0)
theorem op_eqBag {Cs : Addr → Prop} (Fo : L2.FnOk X.prog X.w X.K X.mg X.base CX n f fd ps sp) (ec : EqCls X.K f Cs) (hb : L2.Binds X.K fd ps []) (hx : L2.Passes CX X E0) (hr : Room (n + 1) X.A) : OpR X (compareOp .Eq) (rBagEq X.K sp Cs false) := by
  intro pins s σ H x y v u Q I rx ry h
  show wpAny (model X.prog X.w) X.A (richCompare .Eq v u) (EP X pins σ Q) X.xe s
  have back : ∀ (x y : V) (a : Addr) (v u : Value), RelV x v → RelV y u → sp [x, y] H (fun v H' => ∃ c, v = .bl c ∧ Q (.bl (if false = true then !c else c)) H') E0 →
      wpAny (model X.prog X.w) X.A (call (.ref f) [v, u]) (fun v s' => ∃ c, v = .bool c ∧ EP X pins σ Q (.bool c) s') X.xe s := fun x y a v u rx ry h =>
    wpAny_mono (run_fnA (A := X.A) ⟨hr.mono (Nat.le_succ _), rfl⟩ Fo hb hx I (.cons rx (.cons ry .nil)) h) (fun v s' ⟨z, H', I', rz, c, ez, q⟩ => by
      subst ez
      cases rz
      rw [if_neg Bool.false_ne_true] at q
      exact ⟨c, rfl, .bl _, H', I', rfl, q⟩) fun _ _ e => e
  rcases h with ⟨a, C, dx, fs, t, rfl, ha, hc, ty, hn, h⟩ | ⟨a, b, C, D, dx, fs, dy, gs, rfl, rfl, ha, hb', hc, hd, hne, hsub, h⟩
  · cases rx
    obtain ⟨mA, J, _⟩ := ins_get I.hok ha
    obtain ⟨od, J, _⟩ := J.look
    obtain ⟨P, Z, p, _⟩ := kit_of I ry ty
    exact rich_x (L := a) hr.units0 I.kIn J (Z.ty _ _ I.kIn p) hn (try_eq I.kIn J (ec.eq C hc) ec.fn (back (.ref a) y a _ _ rfl ry h))
  · cases rx
    cases ry
    obtain ⟨mA, J, _⟩ := ins_get I.hok ha
    obtain ⟨od, J, _⟩ := J.look
    obtain ⟨mB, J', _⟩ := ins_get I.hok hb'
    obtain ⟨od', J', _⟩ := J'.look
    exact rich_refl hr.units0 I.kIn J J'.type hne hsub (try_eq I.kIn J' (ec.eq D hd) ec.fn (back (.ref b) (.ref a) a _ _ rfl rfl h))
theorem op_neBag {Cs : Addr → Prop} (Fo : L2.FnOk X.prog X.w X.K X.mg X.base CX n f fd ps sp) (ec : EqCls X.K f Cs) (hb : L2.Binds X.K fd ps []) (hx : L2.Passes CX X E0) (hr : Room (n + 1) X.A) : OpR X (compareOp .NotEq) (rBagEq X.K sp Cs true) := by
  intro pins s σ H x y v u Q I rx ry h
  show wpAny (model X.prog X.w) X.A (richCompare .NotEq v u) (EP X pins σ Q) X.xe s
  have back : ∀ (x y : V) (a : Addr) (v u : Value), RelV x v → RelV y u → sp [x, y] H (fun v H' => ∃ c, v = .bl c ∧ Q (.bl (if true = true then !c else c)) H') E0 →
      wpAny (model X.prog X.w) X.A.in1 (call (.ref f) [v, u]) (fun v s' => ∃ c, v = .bool c ∧ EP X pins σ Q (.bool (!c)) s') X.xe s := fun x y a v u rx ry h =>
    wpAny_mono (run_fnA (A := X.A.in1) ⟨hr.in1, rfl⟩ Fo hb hx I (.cons rx (.cons ry .nil)) h) (fun v s' ⟨z, H', I', rz, c, ez, q⟩ => by
      subst ez
      cases rz
      rw [if_pos rfl] at q
      exact ⟨c, rfl, .bl _, H', I', rfl, q⟩) fun _ _ e => e
  have hu1 : X.A.units + 1 < cLine := hu_of hr
  rcases h with ⟨a, C, dx, fs, t, rfl, ha, hc, ty, hn, h⟩ | ⟨a, b, C, D, dx, fs, dy, gs, rfl, rfl, ha, hb', hc, hd, hne, hsub, h⟩
  · cases rx
    obtain ⟨mA, J, _⟩ := ins_get I.hok ha
    obtain ⟨od, J, _⟩ := J.look
    obtain ⟨P, Z, p, _⟩ := kit_of I ry ty
    exact rich_x (L := a) hr.units0 I.kIn J (Z.ty _ _ I.kIn p) hn (try_ne hu1 I.kIn J (ec.eq C hc) ec.fn (ec.ne C hc) (ec.ob C hc) (back (.ref a) y a _ _ rfl ry h))
  · cases rx
    cases ry
    obtain ⟨mA, J, _⟩ := ins_get I.hok ha
    obtain ⟨od, J, _⟩ := J.look
    obtain ⟨mB, J', _⟩ := ins_get I.hok hb'
    obtain ⟨od', J', _⟩ := J'.look
    exact rich_refl hr.units0 I.kIn J J'.type hne hsub (try_ne hu1 I.kIn J' (ec.eq D hd) ec.fn (ec.ne D hd) (ec.ob D hd) (back (.ref b) (.ref a) a _ _ rfl rfl h))
end
end Fp

/-! How bags stand in the heap. -/
namespace Fp
open PySem L2

/-! ### == of data, whatever its texts -/
def rEqP (K : PySem.W.Frag) (neg : Bool) : R2 := fun x y H Q => ∃ d e, Dp K H x d ∧ Dp K H y e ∧ d.plain = true ∧ e.plain = true ∧ d.depth ≤ 60 ∧ Q (.bl (if neg = true then !PyData.eqv d e else PyData.eqv d e)) H
theorem op_eqP {X : Cx} (hu : X.A.units + 64 < cLine) : OpR X (compareOp .Eq) (rEqP X.K false) := by
  intro pins s σ H x y v u Q I rx ry h
  obtain ⟨d, e, hd, he, sd, se, hz, q⟩ := h
  obtain ⟨as, r1⟩ := Dp.reads I d x v hd rx
  obtain ⟨bs, r2⟩ := Dp.reads I e y u he ry
  rw [if_neg Bool.false_ne_true] at q
  exact SeqAt.eq_plain r1 r2 sd se (by omega) ⟨.bl _, H, I, rfl, q⟩
theorem op_neP {X : Cx} (hu : X.A.units + 64 < cLine) : OpR X (compareOp .NotEq) (rEqP X.K true) := by
  intro pins s σ H x y v u Q I rx ry h
  obtain ⟨d, e, hd, he, sd, se, hz, q⟩ := h
  obtain ⟨as, r1⟩ := Dp.reads I d x v hd rx
  obtain ⟨bs, r2⟩ := Dp.reads I e y u he ry
  rw [if_pos rfl] at q
  exact SeqAt.ne_plain r1 r2 sd se (by omega) ⟨.bl _, H, I, rfl, q⟩

/-! ### dicts of words -/
def toK (s : Bg) : List (Key × V) := s.map fun kv => ((Sum.inr kv.1 : Key), V.int kv.2)
theorem toK_nil : toK [] = [] := rfl
theorem toK_cons (q : Str × Int) (s : Bg) : toK (q :: s) = ((Sum.inr q.1 : Key), V.int q.2) :: toK s := rfl
theorem toK_len (s : Bg) : (toK s).length = s.length := by unfold toK; rw [List.length_map]
theorem valV_toK (w : Str) : ∀ s : Bg, valV (toK s) (Sum.inr w : Key) = (getS s w).map V.int
  | [] => rfl
  | q :: r => by
    rw [toK_cons]
    by_cases e : q.1 = w
    · rw [getS_pos e, valV_pos (p := ((Sum.inr q.1 : Key), V.int q.2)) (by rw [e])]
      rfl
    · rw [getS_neg e, valV_neg (p := ((Sum.inr q.1 : Key), V.int q.2)) (fun z => e (Sum.inr.inj z))]
      exact valV_toK w r
theorem getD_toK (s : Bg) (w : Str) : (valV (toK s) (Sum.inr w : Key)).getD (.int 0) = .int (cf s w) := by
  rw [valV_toK]
  unfold cf
  cases getS s w <;> rfl
theorem putK_toK (s : Bg) (w : Str) (n : Int) : putK (toK s) (Sum.inr w : Key) (.int n) = toK (putS s w n) := by
  unfold putK putS
  have e1 : ((toK s).any fun kv => decide (kv.1 = (Sum.inr w : Key))) = s.any fun kv => decide (kv.1 = w) := by
    unfold toK
    rw [List.any_map]
    congr 1
    funext kv
    simp
  rw [e1]
  split
  · unfold toK
    rw [List.map_map, List.map_map]
    refine List.map_congr_left fun kv _ => ?_
    simp only [Function.comp]
    by_cases h : kv.1 = w
    · simp [h]
    · simp [h]
  · unfold toK
    rw [List.map_append]
    rfl
theorem dropK_toK (s : Bg) (w : Str) : dropK (toK s) (Sum.inr w : Key) = toK (dropS s w) := by
  unfold dropK dropS toK
  rw [List.filter_map]
  congr 1
  refine List.filter_congr fun kv _ => ?_
  simp
theorem toK_keys (s : Bg) : (toK s).map (fun kv => kV kv.1) = (keys s).map V.str := by
  unfold toK keys
  rw [List.map_map, List.map_map]
  rfl
theorem toK_get {s : Bg} {i : Nat} {kv : Key × V} (h : (toK s)[i]? = some kv) : ∃ w n, s[i]? = some (w, n) ∧ kv = (Sum.inr w, .int n) := by
  unfold toK at h
  rw [List.getElem?_map] at h
  cases e : s[i]? with
  | none => rw [e] at h; cases h
  | some q => rw [e] at h; exact ⟨q.1, q.2, rfl, (Option.some.inj h).symm⟩
theorem toK_inj {s t : Bg} (h : toK s = toK t) : s = t := by
  unfold toK at h
  exact List.map_inj_right (f := fun kv : Str × Int => ((Sum.inr kv.1 : Key), V.int kv.2)) (fun a b e => by
    obtain ⟨a1, a2⟩ := a
    obtain ⟨b1, b2⟩ := b
    simp at e
    rw [e.1, e.2]) |>.mp h

/-! ### the tuple of pairs -/
structure WordsAt (H : Hp) (t : Addr) (l : Bg) : Prop where
  ex : ∃ (qs : List Addr) (o : Obj), H t = some (.frz o (.tup (qs.map V.ref))) ∧ o.dict = none ∧ Paired (fun q kv => H q = some (.tup [.str kv.1, .int kv.2])) qs l
theorem WordsAt.ex' {H H' : Hp} {t : Addr} {l : Bg} (e : Ex H H') (h : WordsAt H t l) : WordsAt H' t l := by
  obtain ⟨qs, o, h1, hd, h2⟩ := h.ex
  exact ⟨qs, o, e _ _ h1, hd, Paired.mapP h2 fun _ _ z => e _ _ z⟩
def pairD (kv : Str × Int) : PyData := .tuple [.str kv.1, .int kv.2]
def wordsD (l : Bg) : PyData := .tuple (l.map pairD)
theorem dpAll_words {K : PySem.W.Frag} {H : Hp} {qs : List Addr} {l : Bg} (h : Paired (fun q kv => H q = some (.tup [.str kv.1, .int kv.2])) qs l) : DpAll K H (qs.map V.ref) (l.map pairD) := by
  induction h with
  | nil => exact .nil
  | cons h1 _ ih => exact .cons (.tup (SqT.of h1) (.cons (.str _) (.cons (.int _) .nil))) ih
theorem WordsAt.dp {K : PySem.W.Frag} {H : Hp} {t : Addr} {l : Bg} (h : WordsAt H t l) : Dp K H (.ref t) (wordsD l) := by
  obtain ⟨qs, o, h1, _, h2⟩ := h.ex
  exact .tup (.inl (.inr ⟨o, h1⟩)) (dpAll_words h2)
theorem plainAll_words (l : Bg) : PyData.plainAll (l.map pairD) = true := by
  induction l with
  | nil => rfl
  | cons q r ih => rw [List.map_cons, PyData.plainAll, ih]; simp [pairD, PyData.plain, PyData.plainAll]
theorem plain_words (l : Bg) : (wordsD l).plain = true := by
  show PyData.plainAll (l.map pairD) = true
  exact plainAll_words l
theorem depthAll_words (l : Bg) : PyData.depthAll (l.map pairD) ≤ 1 := by
  induction l with
  | nil => simp [PyData.depthAll]
  | cons q r ih =>
    rw [List.map_cons, PyData.depthAll]
    have : (pairD q).depth = 1 := by simp [pairD, PyData.depth, PyData.depthAll]
    omega
theorem depth_words (l : Bg) : (wordsD l).depth ≤ 60 := by
  have := depthAll_words l
  simp only [wordsD, PyData.depth]
  omega
theorem eqv_pair (a b : Str × Int) : PyData.eqv (pairD a) (pairD b) = decide (a = b) := by
  obtain ⟨a1, a2⟩ := a
  obtain ⟨b1, b2⟩ := b
  simp only [pairD, PyData.eqv, PyData.eqvAll, Bool.and_true]
  rw [Bool.eq_iff_iff]
  simp
theorem eqvAll_words : ∀ l m : Bg, PyData.eqvAll (l.map pairD) (m.map pairD) = decide (l = m)
  | [], [] => by simp [PyData.eqvAll]
  | [], b :: m => by simp [PyData.eqvAll]
  | a :: l, [] => by simp [PyData.eqvAll]
  | a :: l, b :: m => by
    rw [List.map_cons, List.map_cons, PyData.eqvAll, eqv_pair, eqvAll_words l m]
    rw [Bool.eq_iff_iff]
    simp
theorem eqv_words (l m : Bg) : PyData.eqv (wordsD l) (wordsD m) = decide (l = m) := by
  show PyData.eqvAll (l.map pairD) (m.map pairD) = _
  exact eqvAll_words l m

/-! ### bags -/
theorem k_sc : ¬ (("clock" : Str) = "sparse") := by decide +kernel
theorem k_kc : ¬ (("clock" : Str) = "kept") := by decide +kernel
theorem k_wc : ¬ (("clock" : Str) = "words") := by decide +kernel
theorem k_ks : ¬ (("sparse" : Str) = "kept") := by decide +kernel
theorem k_ws : ¬ (("sparse" : Str) = "words") := by decide +kernel
theorem k_wk : ¬ (("kept" : Str) = "words") := by decide +kernel
def bagF (p : Int) (d k t : Addr) : List (Str × V) := [("clock", .int p), ("sparse", .ref d), ("kept", .ref k), ("words", .ref t)]
theorem bagF_made (p : Int) (d k t : Addr) : putF "words" (.ref t) (putF "kept" (.ref k) (putF "sparse" (.ref d) (putF "clock" (.int p) []))) = bagF p d k t := by
  unfold bagF
  have e1 : putF ("clock" : Str) (V.int p) [] = [(("clock" : Str), V.int p)] := rfl
  have e2 : putF ("sparse" : Str) (V.ref d) [(("clock" : Str), V.int p)] = [(("clock" : Str), V.int p), ("sparse", .ref d)] := by
    show (if ("clock" : Str) = "sparse" then _ else (("clock" : Str), V.int p) :: putF "sparse" (V.ref d) []) = _
    rw [if_neg k_sc]; rfl
  have e3 : putF ("kept" : Str) (V.ref k) [(("clock" : Str), V.int p), ("sparse", .ref d)] = [(("clock" : Str), V.int p), ("sparse", .ref d), ("kept", .ref k)] := by
    show (if ("clock" : Str) = "kept" then _ else (("clock" : Str), V.int p) :: (if ("sparse" : Str) = "kept" then _ else (("sparse" : Str), V.ref d) :: putF "kept" (V.ref k) [])) = _
    rw [if_neg k_kc, if_neg k_ks]; rfl
  rw [e1, e2, e3]
  show (if ("clock" : Str) = "words" then _ else (("clock" : Str), V.int p) :: (if ("sparse" : Str) = "words" then _ else (("sparse" : Str), V.ref d) :: (if ("kept" : Str) = "words" then _ else (("kept" : Str), V.ref k) :: putF "words" (V.ref t) []))) = _
  rw [if_neg k_wc, if_neg k_ws, if_neg k_wk]; rfl
theorem lk_cons {f g : Str} {v : V} {r : List (Str × V)} (h : ¬ f = g) : ((g, v) :: r).lookup f = r.lookup f := by
  rw [List.lookup_cons]
  have : (f == g) = false := by simp [h]
  rw [this]
theorem lk_pos {f : Str} {v : V} {r : List (Str × V)} : ((f, v) :: r).lookup f = some v := by
  rw [List.lookup_cons]
  simp
theorem bagF_clock (p : Int) (d k t : Addr) : (bagF p d k t).lookup ("clock" : Str) = some (.int p) := lk_pos
theorem bagF_sparse (p : Int) (d k t : Addr) : (bagF p d k t).lookup ("sparse" : Str) = some (.ref d) := by
  unfold bagF
  rw [lk_cons (fun z => k_sc z.symm), lk_pos]
theorem bagF_kept (p : Int) (d k t : Addr) : (bagF p d k t).lookup ("kept" : Str) = some (.ref k) := by
  unfold bagF
  rw [lk_cons (fun z => k_kc z.symm), lk_cons (fun z => k_ks z.symm), lk_pos]
theorem bagF_words (p : Int) (d k t : Addr) : (bagF p d k t).lookup ("words" : Str) = some (.ref t) := by
  unfold bagF
  rw [lk_cons (fun z => k_wc z.symm), lk_cons (fun z => k_ws z.symm), lk_cons (fun z => k_wk z.symm), lk_pos]
/-- a bag by the clock p with the words s stands at a; Cs: the classes of bags -/
structure BagAt (Cs : Addr → Prop) (H : Hp) (a : Addr) (p : Int) (s : Bg) : Prop where
  ex : ∃ C dx d k t, Cs C ∧ H a = some (.ins C dx (bagF p d k t)) ∧ H d = some (.dK (toK s)) ∧ WordsAt H t (wordsS s)
theorem BagAt.ex' {Cs : Addr → Prop} {H H' : Hp} {a : Addr} {p : Int} {s : Bg} (e : Ex H H') (h : BagAt Cs H a p s) : BagAt Cs H' a p s := by
  obtain ⟨C, dx, d, k, t, h0, h1, h2, h3⟩ := h.ex
  exact ⟨C, dx, d, k, t, h0, e _ _ h1, e _ _ h2, h3.ex' e⟩
end Fp

/-! Loops and comprehensions in short. -/
namespace Fp
open PySem L2

/-! ### what stands but one object -/
def ExB (f : Addr) (H H' : Hp) : Prop := ∀ a o, a ≠ f → H a = some o → H' a = some o
theorem ExB.refl (f : Addr) (H : Hp) : ExB f H H := fun _ _ _ h => h
theorem ExB.trans {f : Addr} {H H1 H2 : Hp} (a : ExB f H H1) (b : ExB f H1 H2) : ExB f H H2 := fun x o n h => b x o n (a x o n h)
theorem Ex.exb {f : Addr} {H H' : Hp} (e : Ex H H') : ExB f H H' := fun a o _ h => e a o h
theorem ExB.ex {f : Addr} {H0 H H' : Hp} (e : Ex H0 H) (b : ExB f H H') (h : H0 f = none) : Ex H0 H' := fun a o q => b a o (ne_of_none q h) (e a o q)
theorem ExB.ex0 {f : Addr} {H H' : Hp} (b : ExB f H H') (h : H f = none) : Ex H H' := fun a o q => b a o (ne_of_none q h) q
theorem ExB.upd {f : Addr} {H H' : Hp} {o : HO} (b : ExB f H H') : ExB f H (upd H' f o) := fun a u n q => by rw [upd_ne n]; exact b a u n q
theorem ExB.new {f : Addr} {H H' : Hp} {p : Addr} {o : HO} (b : ExB f H H') (h : H' p = none) : ExB f H (L2.upd H' p o) := fun a u n q => by
  have := b a u n q
  rw [upd_ne (ne_of_none this h)]
  exact this
theorem ExB.rd {f : Addr} {H H' : Hp} {a : Addr} {u : HO} (e : ExB f H H') (n : a ≠ f) (h : Rd H a u) : Rd H' a u := by
  rcases h with h | ⟨o, h⟩
  · exact .inl (e a _ n h)
  · exact .inr ⟨o, e a _ n h⟩
theorem ExB.sql {K : PySem.W.Frag} {f : Addr} {H H' : Hp} {a : Addr} {xs : List V} (e : ExB f H H') (n : a ≠ f) (h : SqL K H a xs) : SqL K H' a xs := h.elim (fun h => .inl (e.rd n h)) .inr
theorem rd_ne {H : Hp} {a b : Addr} {u o : HO} (h : Rd H a u) (hb : H b = some o) (h1 : u ≠ o) (h2 : ∀ x, o ≠ .frz x u) : a ≠ b := by
  rintro rfl
  rcases h with h | ⟨x, h⟩
  · rw [h] at hb; exact h1 (Option.some.inj hb)
  · rw [h] at hb; exact h2 x (Option.some.inj hb).symm

/-! ### a comprehension that only makes objects -/
section
variable {J : It} {n : Nat} {G : Hp → Prop} {Y : Nat → Hp → V → Hp → Prop}
theorem lc_pure (w : Walk J n G Y) {j : Nat} {te : TE} {vs : List Nat} {σ : St} {H1 : Hp} {Q : VK} (ys : List V) (hl : ys.length = n) (hn : n ≤ sizeLine) (hG : ∀ H, Ex H1 H → G H)
    (hw : ∀ x, wipe ((wipe σ vs).set j x) vs = wipe σ vs)
    (hs : ∀ i x y H H' (K : VK), i < n → Ex H1 H → Y i H x H' → ys[i]? = some y → (∀ H4, Ex H H4 → K y H4) → te ((wipe σ vs).set j (some x)) H' K)
    (hd : ∀ D H', H1 D = none → Ex H1 H' → H' D = some (.lst ys) → Q (.ref D) H') :
    LcG J (gName j) tYes te vs σ H1 Q := by
  intro D hD
  refine lc_it w (fun i H => Ex H1 H ∧ H D = some (.lst (ys.take i))) ⟨Ex.new hD, upd_same⟩ (fun i H _ p => hG H p.1) ?_ (fun H p => ?_)
  · rintro i x H H' hi ⟨e, hacc⟩ hy
    have hi' : i < ys.length := by omega
    obtain ⟨y, hyi⟩ : ∃ y, ys[i]? = some y := ⟨ys[i], by simp [hi']⟩
    refine ⟨hw _, ?_⟩
    unfold tYes
    dsimp only
    rw [if_pos rfl]
    refine hs i x y H H' _ hi e hy hyi fun H4 e4 => ⟨ys.take i, e4 _ _ hacc, by rw [List.length_take]; omega, ?_, ?_⟩
    · exact Ex.mut (e.trans e4) hD
    · rw [upd_same, List.take_add_one, hyi]
      rfl
  · obtain ⟨e, h⟩ := p
    rw [← hl, List.take_length] at h
    exact hd D H hD e h
end

/-! ### a loop over a dict -/
/-- while the dict at d is walked, f's object turns -/
structure LoopEx (d f : Addr) (s : Bg) (H H' : Hp) : Prop where
  keep : ∀ a o, a ≠ f → a ≠ d → H a = some o → H' a = some o
  self : Rd H' d (.dK (toK s))
theorem LoopEx.rd {d f : Addr} {s : Bg} {H H' : Hp} (l : LoopEx d f s H H') (hd : Rd H d (.dK (toK s))) {b : Addr} {t : Bg} (h : Rd H b (.dK (toK t))) (n : b ≠ f) : Rd H' b (.dK (toK t)) := by
  by_cases e : b = d
  · subst e
    have : toK t = toK s := by
      rcases h with h | ⟨o, h⟩ <;> rcases hd with hd | ⟨o', hd⟩
      · exact HO.dK.inj (Option.some.inj (h.symm.trans hd))
      · exact absurd (Option.some.inj (h.symm.trans hd)) (by simp)
      · exact absurd (Option.some.inj (h.symm.trans hd)) (by simp)
      · have := Option.some.inj (h.symm.trans hd)
        injection this with _ e2
        exact HO.dK.inj e2
    rw [this]
    exact l.self
  · rcases h with h | ⟨o, h⟩
    · exact .inl (l.keep b _ n e h)
    · exact .inr ⟨o, l.keep b _ n e h⟩
theorem LoopEx.exb {d f : Addr} {s : Bg} {H H' H'' : Hp} (l : LoopEx d f s H H') (n : d ≠ f) (b : ExB f H' H'') : LoopEx d f s H H'' := ⟨fun a o h1 h2 q => b a o h1 (l.keep a o h1 h2 q), b.rd n l.self⟩
theorem for_keys {σ : St} {H : Hp} {D : Ends} {d f : Addr} {s : Bg} {o0 : HO} {te : TE} {j : Nat} {tb : TS} (hd : Rd H d (.dK (toK s))) (hf : H f = some o0) (hne : d ≠ f)
    (he : ∀ (H' : Hp) (Q : VK), LoopEx d f s H H' → Q (.ref d) H' → te σ H' Q)
    (I : Nat → St → HO → Prop) (h0 : I 0 σ o0)
    (hs : ∀ i w n σ' H' o (E : Ends), s[i]? = some (w, n) → I i σ' o → LoopEx d f s H H' → H' f = some o → (∀ v H1, ExB f H' H1 → (∀ H2, ExB f H H2 → H2 f = H1 f → D.rt v H2) → E.rt v H1) →
      (∀ σ'' H'' o', I (i + 1) σ'' o' → ExB f H' H'' → H'' f = some o' → E.nx σ'' H'') → tb E (σ'.set j (some (.str w))) H')
    (hend : ∀ σ' H' o, I s.length σ' o → ExB f H H' → H' f = some o → D.nx σ' H') : tLockR (tFor (iKeys te) (gName j) tb) D σ H := by
  -- the loop itself, over a heap in which d is locked
  have core : ∀ (Hl : Hp) (od : Obj) (E : Ends), Hl d = some (.frz od (.dK (toK s))) → (∀ a o, a ≠ d → (H a = some o ↔ Hl a = some o)) →
      (∀ σ' H' o, I s.length σ' o → ExB f Hl H' → H' f = some o → E.nx σ' H') → (∀ v H', ExB f Hl H' → (∀ H2, ExB f H H2 → H2 f = H' f → D.rt v H2) → E.rt v H') → tFor (iKeys te) (gName j) tb E σ Hl := by
    intro Hl od E hl hsame hE hrt
    have l0 : LoopEx d f s H Hl := ⟨fun a o _ h2 q => (hsame a o h2).mp q, .inr ⟨od, hl⟩⟩
    refine he Hl _ l0 ⟨d, od, rfl, .inl ⟨toK s, hl, ?_⟩⟩
    refine for_it walk_keys (fun i σ' H' => ∃ o, I i σ' o ∧ ExB f Hl H' ∧ H' f = some o) ⟨o0, h0, ExB.refl f Hl, (hsame f o0 (Ne.symm hne)).mp hf⟩ (fun i σ' H' _ p => ?_) ?_ (fun σ' H' p => ?_)
    · obtain ⟨o, _, e, _⟩ := p
      exact e d _ hne hl
    · rintro i x σ' H' H1 hi ⟨o, hI, e, hfo⟩ ⟨rfl, k, v, hk, rfl⟩
      obtain ⟨w, n, hw, ekv⟩ := toK_get hk
      cases ekv
      have le : LoopEx d f s H H1 := ⟨fun a o h1 h2 q => e a o h1 ((hsame a o h2).mp q), .inr ⟨od, e d _ hne hl⟩⟩
      exact hs i w n σ' H1 o _ hw hI le hfo (fun v H2 e2 hq => hrt v H2 (e.trans e2) hq) fun σ'' H'' o' hI' e' hf' => ⟨o', hI', e.trans e', hf'⟩
    · obtain ⟨o, hI, e, hfo⟩ := p
      rw [toK_len] at hI
      exact hE σ' H' o hI e hfo
  rcases hd with hd | ⟨od, hd⟩
  · refine .inl ⟨d, _, hd, trivial, fun od => ?_⟩
    have back : ∀ H', ExB f (upd H d (.frz od (.dK (toK s)))) H' → H' d = some (.frz od (.dK (toK s))) ∧ ExB f H (upd H' d (.dK (toK s))) := fun H' e => by
      refine ⟨e d _ hne upd_same, fun a o h1 q => ?_⟩
      by_cases ha : a = d
      · subst ha
        rw [hd] at q
        cases q
        exact upd_same
      · rw [upd_ne ha]
        exact e a o h1 (by rw [upd_ne ha]; exact q)
    refine core _ od _ upd_same (fun a o ha => by rw [upd_ne ha]) (fun σ' H' o hI e hfo => ?_) (fun v H' e hq => ?_)
    · obtain ⟨b1, b2⟩ := back H' e
      exact ⟨b1, hend σ' _ o hI b2 (by rw [upd_ne (Ne.symm hne)]; exact hfo)⟩
    · obtain ⟨b1, b2⟩ := back H' e
      exact ⟨b1, hq _ b2 (by rw [upd_ne (Ne.symm hne)])⟩
  · exact .inr (core H od D hd (fun a o _ => Iff.rfl) hend fun v H' e hq => hq H' e rfl)
end Fp

/-! More steps of a reading. -/
namespace Fp
open PySem L2
theorem ps_never {X : Cx} {st : Stmt} : PS X st (fun _ _ _ => False) := ⟨fun pins s σ H D I h => h.elim⟩
section
variable {σ : St} {H H1 : Hp} {Q : VK} {D : Ends} {i : Nat} {v x y : V} {ta tb te tc td ty : TE} {K : PySem.W.Frag} {tt tu : TT} {t u : TS} {QB : Bool → Hp → Prop} {tA : TA}
theorem g_chain {r r' : R2} (h : ta σ H fun x H1 => tb σ H1 fun y H2 => r x y H2 fun z H3 => ∃ k, z = .bl k ∧ (if k = true then tc σ H3 fun w' H4 => r' y w' H4 Q else Q (.bl false) H3)) : tChain r r' ta tb tc σ H Q := h
theorem g_dget (h : td σ H fun x H1 => ty σ H1 fun y H2 => ∃ a v, x = .ref a ∧ DGet H2 a y (some v) ∧ Q v H2) : tDGet td ty σ H Q := h
theorem g_dput {tv : TE} (h : tv σ H fun v H1 => td σ H1 fun x H2 => ty σ H2 fun y H3 => ∃ a H4, x = .ref a ∧ DPut H3 a y v H4 ∧ D.nx σ H4) : sDPut td ty tv D σ H := h
theorem g_dget2 {tx : TE} (h : td σ H fun x H1 => ∃ a, x = .ref a ∧ IsD H1 a ∧ ty σ H1 fun y H2 => tx σ H2 fun z H3 => ∃ o, DGet H3 a y o ∧ Q (o.getD z) H3) : tDGet2 td ty tx σ H Q := h
theorem g_dpop2 {tx : TE} (h : td σ H fun x H1 => ∃ a, x = .ref a ∧ IsD H1 a ∧ ty σ H1 fun y H2 => tx σ H2 fun z H3 => ∃ kvs k, H3 a = some (.dK kvs) ∧ y = kV k ∧
  (∀ v, valV kvs k = some v → Q v (upd H3 a (.dK (dropK kvs k)))) ∧ (valV kvs k = none → Q z H3)) : tDPop2 td ty tx σ H Q := h
theorem g_fld {f : Str} (h : ta σ H fun x H1 => ∃ a C dx fs v, x = .ref a ∧ H1 a = some (.ins C dx fs) ∧ Cls K C ∧ NoAttr K C f ∧ fs.lookup f = some v ∧ Q v H1) : tFld K ta f σ H Q := h
theorem g_sfld {tv : TE} {f : Str} (h : tv σ H fun y H1 => ta σ H1 fun x H2 => ∃ a C dx fs, x = .ref a ∧ H2 a = some (.ins C dx fs) ∧ Cls K C ∧ NoAttr K C f ∧ fs.length < 1000 ∧
  D.nx σ (upd H2 a (.ins C dx (putF f y fs)))) : sFld K ta tv f D σ H := h
theorem g_make {C : Addr} {sp : Sp} {E : XK} (h : tA σ H fun vs H1 => ∀ x dx, H1 x = none → H1 dx = none → dx ≠ x →
  sp (.ref x :: (vs ++ [])) (upd (upd H1 dx (.own x)) x (.ins C dx [])) (fun v H2 => v = .non ∧ Q (.ref x) H2) E) : tMake C sp [] E tA σ H Q := h
theorem g_meth {C : Addr} {m : Str} {sp : Sp} {E : XK} (h : ta σ H fun x H1 => ∃ a dx fs, x = .ref a ∧ H1 a = some (.ins C dx fs) ∧ fs.lookup m = none ∧
  tA σ H1 fun vs H2 => sp (x :: (vs ++ [])) H2 Q E) : tMeth C m sp [] E ta tA σ H Q := h
theorem g_bm {T : String} {r : V → List V → Hp → VK → Prop} (h : ta σ H fun x H1 => tyV K T x H1 ∧ tA σ H1 fun xs H2 => r x xs H2 Q) : tBM K T r ta tA σ H Q := h
theorem g_m1 {r : V → List V → Hp → VK → Prop} (h : ta σ H fun x H1 => (∃ a, x = .str a) ∧ te σ H1 fun y H2 => r x [y] H2 Q) : tM1 r ta te σ H Q := h
theorem g_itNT {A B : Prop} (h : B) : if (!true) = true then A else B := g_iff rfl h
theorem g_itNF {A B : Prop} (h : A) : if (!false) = true then A else B := g_ift rfl h
theorem g_revL (h : te σ H fun x H1 => ∃ a xs, x = .ref a ∧ SqL K H1 a xs ∧ ∀ p, H1 p = none → Q (.ref p) (upd H1 p (.lst xs.reverse))) : tRevL K te σ H Q := h
theorem g_kw {r : List V → List V → Hp → VK → Prop} {tk : TA} (h : tA σ H fun vs H1 => tk σ H1 fun zs H2 => r vs zs H2 Q) : tCKw r tA tk σ H Q := h
theorem g_gsub {to ti : TE} {s : TSet} {QS : St → Hp → Prop} (h : to σ H fun o H1 => ti σ H1 fun i H2 => s o i v H2 fun H3 => QS σ H3) : gSub to ti s v σ H QS := h
theorem g_for {wi : TI} {g : TG} (h : wi σ H fun J H1 => ForG J g t D σ H1) : tFor wi g t D σ H := h
theorem g_iList {R : It → Hp → Prop} (h : te σ H fun x H1 => ∃ a, x = .ref a ∧ (∃ xs, SqL K H1 a xs) ∧ R (Itl K a) H1) : iList K te σ H R := h
theorem g_iTup {R : It → Hp → Prop} (h : te σ H fun x H1 => ∃ a, x = .ref a ∧ (∃ xs, SqT K H1 a xs) ∧ R (Itt K a) H1) : iTup K te σ H R := h
theorem g_iRng1 {R : It → Hp → Prop} (h : tA σ H fun vs H1 => ∃ j : Int, vs = [.int j] ∧ -(2 ^ 62) ≤ j ∧ j < 2 ^ 62 ∧ R (Itr 0 j.toNat) H1) : iRng1 tA σ H R := h
theorem g_iRng2 {R : It → Hp → Prop} (h : tA σ H fun vs H1 => ∃ i j : Int, vs = [.int i, .int j] ∧ (-(2 ^ 62) ≤ i ∧ i < 2 ^ 62 ∧ -(2 ^ 62) ≤ j ∧ j < 2 ^ 62) ∧ R (Itr i (j - i).toNat) H1) : iRng2 tA σ H R := h
theorem g_sl {r : V → Option Int → Option Int → Hp → VK → Prop} {tl th : TO} (h : te σ H fun x H1 => tl σ H1 fun l H2 => th σ H2 fun u H3 => r x l u H3 Q) : tSl r te tl th σ H Q := h
theorem g_part {QO : Option Int → Hp → Prop} (h : te σ H fun x H1 => ∃ i, x = .int i ∧ QO (some i) H1) : tPart te σ H QO := h
theorem g_noPart {QO : Option Int → Hp → Prop} (h : QO none H) : tNoPart σ H QO := h
theorem g_exi {z : Int} {R : Int → Prop} (h : R z) : ∃ i, (V.int z) = .int i ∧ R i := ⟨z, rfl, h⟩
theorem g_exr {z : Addr} {R : Addr → Prop} (h : R z) : ∃ i, (V.ref z) = .ref i ∧ R i := ⟨z, rfl, h⟩
theorem g_exb {z : Bool} {R : Bool → Prop} (h : R z) : ∃ i, (V.bl z) = .bl i ∧ R i := ⟨z, rfl, h⟩
theorem g_dnew (h : ∀ p, H p = none → Q (.ref p) (upd H p (.dK []))) : tDNewK σ H Q := h
theorem g_disp {trs : List (TE × TE)} (h : ∀ p, H p = none → tPairs trs σ (upd H p (.dK [])) fun ps H2 => H2 p = some (.dK []) ∧ ∃ kvs : List (Key × V), ps = kvs.map (fun kv => (kV kv.1, kv.2)) ∧ kvs.length ≤ 15 ∧ Q (.ref p) (upd H2 p (.dK (mergeK [] kvs)))) : tDisp trs σ H Q := h
theorem g_prs0 {R : List (V × V) → Hp → Prop} (h : R [] H) : tPairs [] σ H R := h
theorem g_prs {tk tv : TE} {r : List (TE × TE)} {R : List (V × V) → Hp → Prop} (h : tk σ H fun x H1 => tv σ H1 fun y H2 => tPairs r σ H2 fun ps H3 => R ((x, y) :: ps) H3) : tPairs ((tk, tv) :: r) σ H R := h
theorem g_cut {R : St → Hp → Prop} (h1 : ∀ N : St → Hp → Prop, (∀ σ' H', R σ' H' → N σ' H') → t { D with nx := N } σ H) (h2 : ∀ σ' H', R σ' H' → u D σ' H') : tSeq t u D σ H := h1 (u D) h2
theorem g_nxt (h : D.nx σ H) : tNext D σ H := h
/-! the readings of things -/
theorem g_int {i : Int} (h : Q (.int i) H) : (∃ j, [V.int i] = [.int j] ∧ Q (.int j) H) ∨ ∃ k, [V.int i] = [.bl k] ∧ Q (.int (if k then 1 else 0)) H := .inl ⟨i, rfl, h⟩
theorem g_ixl {p : Addr} {xs : List V} {k : Int} (hs : SqL K H p xs) (ha : atI xs k = some v) (h : Q v H) : rIxL K (.ref p) (.int k) H Q := ⟨p, xs, k, v, rfl, rfl, hs, ha, h⟩
theorem g_ixt {p : Addr} {xs : List V} {k : Int} (hs : SqT K H p xs) (ha : atI xs k = some v) (h : Q v H) : rIxT K (.ref p) (.int k) H Q := ⟨p, xs, k, v, rfl, rfl, hs, ha, h⟩
theorem g_ixs {z : Str} {k : Int} {c : Nat} (hz : z.length ≤ sizeLine) (ha : atI z.cps.toList k = some c) (h : Q (.str ⟨#[c]⟩) H) : rIxS (.str z) (.int k) H Q := ⟨z, k, c, rfl, rfl, hz, ha, h⟩
theorem g_setl {p : Addr} {xs : List V} {k : Int} {j : Nat} {R : Hp → Prop} (hs : H p = some (.lst xs)) (ha : ixN xs.length k = some j) (h : R (upd H p (.lst (xs.set j v)))) : rSetL (.ref p) (.int k) v H R := ⟨p, xs, k, j, rfl, rfl, hs, ha, h⟩
theorem g_dg {a : Addr} {s : Bg} {w : Str} {n : Int} {R : V → Prop} (hd : Rd H a (.dK (toK s))) (hw : getS s w = some n) (h : R (.int n)) : ∃ b v, V.ref a = .ref b ∧ DGet H b (.str w) (some v) ∧ R v :=
  ⟨a, .int n, rfl, .inl ⟨toK s, .inr w, hd, rfl, by rw [valV_toK, hw]; rfl⟩, h⟩
theorem g_dp {a : Addr} {s : Bg} {w : Str} {n : Int} {R : Hp → Prop} (hd : H a = some (.dK (toK s))) (hl : s.length < sizeLine) (h : R (upd H a (.dK (toK (putS s w n))))) : ∃ b H4, V.ref a = .ref b ∧ DPut H b (.str w) (.int n) H4 ∧ R H4 :=
  ⟨a, _, rfl, DPut.k (k := (Sum.inr w : Key)) hd (by rw [toK_len]; exact hl), by rw [putK_toK]; exact h⟩
theorem atI_get {α : Type} {xs : List α} {k : Int} {v : α} (h0 : 0 ≤ k) (h : xs[k.toNat]? = some v) : atI xs k = some v := by
  have hlt : k.toNat < xs.length := by
    rcases Nat.lt_or_ge k.toNat xs.length with q | q
    · exact q
    · rw [List.getElem?_eq_none q] at h; cases h
  unfold atI ixN
  rw [if_pos h0, if_pos (by omega)]
  exact h
/-- a text of at most so many signs -/
theorem line5 {n : Nat} (h : n ≤ 10000000) : n ≤ sizeLine := Nat.le_trans h (by decide)
theorem mem_fr {s : Bg} {w : Str} {n : Int} {i : Nat} (h : s[i]? = some (w, n)) : (w, n) ∈ s := List.mem_of_getElem? h
theorem getS_at {s : Bg} {w : Str} {n : Int} {i : Nat} (hn : (keys s).Nodup) (h : s[i]? = some (w, n)) : getS s w = some n := getS_of_mem hn (mem_fr h)
end
end Fp

/-! Comprehensions that make things. -/
namespace Fp
open PySem L2

/-! ### what stays while lists grow and dicts are unlocked: tuples -/
def TupS (H H' : Hp) : Prop := ∀ a xs, H a = some (.tup xs) → H' a = some (.tup xs)
theorem TupS.trans {H H1 H2 : Hp} (a : TupS H H1) (b : TupS H1 H2) : TupS H H2 := fun x o h => b x o (a x o h)
theorem Ex.tups {H H' : Hp} (e : Ex H H') : TupS H H' := fun a xs h => e a _ h
theorem TupS.upd {H : Hp} {a : Addr} {o u : HO} (h : H a = some u) (hu : ∀ xs, u ≠ .tup xs) : TupS H (upd H a o) := fun b xs q => by
  rw [upd_ne (fun e => by subst e; rw [h] at q; exact hu xs (Option.some.inj q))]
  exact q
theorem TupS.new {H : Hp} {a : Addr} {o : HO} (h : H a = none) : TupS H (L2.upd H a o) := (Ex.new h).tups

/-! ### Paired -/
section
variable {α β : Type} {F : α → β → Prop}
theorem paired_eq {xs : List V} {es : List V} (h : Paired (fun x e => x = e) xs es) : xs = es := by
  induction h with
  | nil => rfl
  | cons h1 _ ih => rw [h1, ih]
theorem paired_map {G : β → α} {xs : List α} {es : List β} (h : Paired (fun x e => x = G e) xs es) : xs = es.map G := by
  induction h with
  | nil => rfl
  | cons h1 _ ih => rw [h1, ih]; rfl
theorem paired_refs {P : Addr → β → Prop} {xs : List V} {es : List β} (h : Paired (fun x e => ∃ a, x = V.ref a ∧ P a e) xs es) : ∃ as : List Addr, xs = as.map V.ref ∧ Paired P as es := by
  induction h with
  | nil => exact ⟨[], rfl, .nil⟩
  | cons h1 _ ih =>
    obtain ⟨a, rfl, ha⟩ := h1
    obtain ⟨as, rfl, hs⟩ := ih
    exact ⟨a :: as, rfl, .cons ha hs⟩
theorem paired_get {xs : List α} {es : List β} (h : Paired F xs es) : ∀ {i : Nat} {x : α}, xs[i]? = some x → ∃ e, es[i]? = some e ∧ F x e := by
  induction h with
  | nil => intro i x e; simp at e
  | cons h1 _ ih =>
    intro i x e
    cases i with
    | zero => exact ⟨_, rfl, by have := Option.some.inj e; subst this; exact h1⟩
    | succ i => exact ih e
theorem paired_mapr {γ : Type} {g : β → γ} {G : α → γ → Prop} {xs : List α} {es : List β} (h : Paired F xs es) (hg : ∀ a b, F a b → G a (g b)) : Paired G xs (es.map g) := by
  induction h with
  | nil => exact .nil
  | cons h1 _ ih => exact .cons (hg _ _ h1) ih
end
section
variable {J : It} {n : Nat} {G : Hp → Prop} {Y : Nat → Hp → V → Hp → Prop} {α : Type}
/-- a comprehension whose elements stand to es as R says -/
theorem lc_rel (w : Walk J n G Y) {j : Nat} {te : TE} {vs : List Nat} {σ : St} {H1 : Hp} {Q : VK} (es : List α) (hl : es.length = n) (hn : n ≤ sizeLine) (hG : ∀ H, Ex H1 H → G H)
    (R : α → V → Hp → Prop) (hR : ∀ e y H H', TupS H H' → R e y H → R e y H') (hw : ∀ x, wipe ((wipe σ vs).set j x) vs = wipe σ vs)
    (hs : ∀ i x e H H' (K : VK), i < n → Ex H1 H → Y i H x H' → es[i]? = some e → (∀ y H4, Ex H H4 → R e y H4 → K y H4) → te ((wipe σ vs).set j (some x)) H' K)
    (hd : ∀ D H' ys, H1 D = none → Ex H1 H' → H' D = some (.lst ys) → Paired (fun y e => R e y H') ys es → Q (.ref D) H') :
    LcG J (gName j) tYes te vs σ H1 Q := by
  intro D hD
  refine lc_it w (fun i H => Ex H1 H ∧ ∃ ys, H D = some (.lst ys) ∧ Paired (fun y e => R e y H) ys (es.take i)) ⟨Ex.new hD, [], upd_same, .nil⟩ (fun i H _ p => hG H p.1) ?_ (fun H p => ?_)
  · rintro i x H H' hi ⟨e, ys, hacc, hp⟩ hy
    have hi' : i < es.length := by omega
    obtain ⟨y, hyi⟩ : ∃ y, es[i]? = some y := ⟨es[i], by simp [hi']⟩
    refine ⟨hw _, ?_⟩
    unfold tYes
    dsimp only
    rw [if_pos rfl]
    have hlen : ys.length = i := by rw [hp.length, List.length_take]; omega
    refine hs i x y H H' _ hi e hy hyi fun z H4 e4 rz => ⟨ys, e4 _ _ hacc, by omega, ?_, ys ++ [z], upd_same, ?_⟩
    · exact Ex.mut (e.trans e4) hD
    · have tu : TupS H4 (upd H4 D (.lst (ys ++ [z]))) := TupS.upd (e4 _ _ hacc) (fun _ => by simp)
      rw [List.take_add_one, hyi]
      exact Paired.snoc (Paired.mapP hp fun a b q => hR _ _ _ _ (e4.tups.trans tu) q) (hR _ _ _ _ tu rz)
  · obtain ⟨e, ys, h, hp⟩ := p
    rw [← hl, List.take_length] at hp
    exact hd D H ys hD e h hp
end
/-- while the dict at d is walked -/
structure LkEx (d : Addr) (s : Bg) (H H' : Hp) : Prop where
  keep : ∀ a o, a ≠ d → H a = some o → H' a = some o
  self : Rd H' d (.dK (toK s))
theorem LkEx.rd {d : Addr} {s : Bg} {H H' : Hp} (l : LkEx d s H H') (hd : Rd H d (.dK (toK s))) {b : Addr} {t : Bg} (h : Rd H b (.dK (toK t))) : Rd H' b (.dK (toK t)) := by
  by_cases e : b = d
  · subst e
    have : toK t = toK s := by
      rcases h with h | ⟨o, h⟩ <;> rcases hd with hd | ⟨o', hd⟩
      · exact HO.dK.inj (Option.some.inj (h.symm.trans hd))
      · exact absurd (Option.some.inj (h.symm.trans hd)) (by simp)
      · exact absurd (Option.some.inj (h.symm.trans hd)) (by simp)
      · have := Option.some.inj (h.symm.trans hd)
        injection this with _ e2
        exact HO.dK.inj e2
    rw [this]
    exact l.self
  · rcases h with h | ⟨o, h⟩
    · exact .inl (l.keep b _ e h)
    · exact .inr ⟨o, l.keep b _ e h⟩
theorem LkEx.ex {d : Addr} {s : Bg} {H H' H'' : Hp} (l : LkEx d s H H') (e : Ex H' H'') : LkEx d s H H'' := ⟨fun a o n h => e _ _ (l.keep a o n h), e.rd l.self⟩
/-- a comprehension over a dict's keys -/
theorem lcd_rel {σ : St} {H : Hp} {Q : VK} {d : Addr} {s : Bg} {te0 te : TE} {j : Nat} {vs : List Nat} (hd : Rd H d (.dK (toK s))) (hz : s.length ≤ sizeLine)
    (he : ∀ (H' : Hp) (Q : VK), LkEx d s H H' → Q (.ref d) H' → te0 σ H' Q)
    (R : Str × Int → V → Hp → Prop) (hR : ∀ e y H H', TupS H H' → R e y H → R e y H') (hw : ∀ x, wipe ((wipe σ vs).set j x) vs = wipe σ vs)
    (hs : ∀ (i : Nat) (w : Str) (n : Int) (H' : Hp) (K : VK), s[i]? = some (w, n) → LkEx d s H H' → (∀ y H4, Ex H' H4 → R (w, n) y H4 → K y H4) → te ((wipe σ vs).set j (some (.str w))) H' K)
    (hend : ∀ D H' ys, H D = none → Ex H H' → H' D = some (.lst ys) → Paired (fun y e => R e y H') ys s → Q (.ref D) H') : tLockRE (tLc (iKeys te0) (gName j) tYes te vs) σ H Q := by
  have core : ∀ (Hl : Hp) (od : Obj) (Q' : VK), Hl d = some (.frz od (.dK (toK s))) → (∀ a o, a ≠ d → (H a = some o ↔ Hl a = some o)) → (∀ a, Hl a = none → H a = none) →
      (∀ D H' ys, H D = none → Ex Hl H' → H' D = some (.lst ys) → Paired (fun y e => R e y H') ys s → Q' (.ref D) H') → tLc (iKeys te0) (gName j) tYes te vs σ Hl Q' := by
    intro Hl od Q' hl hsame hnone hE
    have l0 : LkEx d s H Hl := ⟨fun a o h2 q => (hsame a o h2).mp q, .inr ⟨od, hl⟩⟩
    refine he Hl _ l0 ⟨d, od, rfl, .inl ⟨toK s, hl, ?_⟩⟩
    show LcG _ _ _ _ _ _ _ _
    refine lc_rel walk_keys s (toK_len s).symm (by rw [toK_len]; exact hz) (fun H' e => e _ _ hl) R hR hw ?_ (fun D H' ys hD => hE D H' ys (hnone D hD))
    rintro i x e H2 H3 K hi e2 ⟨rfl, k, v, hk, rfl⟩ hei hK
    obtain ⟨w, n, hw', ekv⟩ := toK_get hk
    cases ekv
    rw [hw'] at hei
    obtain rfl := (Option.some.inj hei).symm
    exact hs i w n H3 K hw' (l0.ex e2) hK
  rcases hd with hd | ⟨od, hd⟩
  · refine .inl ⟨d, _, hd, trivial, fun od => ?_⟩
    refine core _ od _ upd_same (fun a o ha => by rw [upd_ne ha]) (fun a ha => ?_) (fun D H' ys hD e hl hp => ?_)
    · by_cases q : a = d
      · subst q; rw [upd_same] at ha; cases ha
      · rw [upd_ne q] at ha; exact ha
    · have hdl : H' d = some (.frz od (.dK (toK s))) := e _ _ upd_same
      have hne : D ≠ d := fun q => by subst q; rw [hd] at hD; cases hD
      refine ⟨hdl, hend D _ ys hD (fun a o q => ?_) (by rw [upd_ne hne]; exact hl) (Paired.mapP hp fun a b q => hR _ _ _ _ (TupS.upd hdl fun _ => by simp) q)⟩
      by_cases ha : a = d
      · subst ha
        rw [hd] at q
        cases q
        exact upd_same
      · rw [upd_ne ha]
        exact e a o (by rw [upd_ne ha]; exact q)
  · exact .inr (core H od Q hd (fun a o _ => Iff.rfl) (fun _ h => h) hend)
/-- a comprehension that turns f's object meanwhile -/
theorem lc_mut {J : It} {n : Nat} {G : Hp → Prop} {Y : Nat → Hp → V → Hp → Prop} (w : Walk J n G Y) {f : Addr} {o0 : HO} {j : Nat} {te : TE} {vs : List Nat} {σ : St} {H1 : Hp} {Q : VK} (hf : H1 f = some o0) (hn : n ≤ sizeLine) (I : Hp → Prop) (h0 : I H1)
    (hI : ∀ H D o, H1 D = none → I H → I (upd H D o)) (hG : ∀ H, ExB f H1 H → I H → G H) (P : V → Prop) (hw : ∀ x, wipe ((wipe σ vs).set j x) vs = wipe σ vs)
    (hs : ∀ i x H H' (K : VK), i < n → ExB f H1 H → I H → Y i H x H' → (∀ y H4, ExB f H H4 → I H4 → P y → K y H4) → te ((wipe σ vs).set j (some x)) H' K)
    (hd : ∀ D H' ys, H1 D = none → ExB f H1 H' → I H' → H' D = some (.lst ys) → ys.length = n → (∀ y ∈ ys, P y) → Q (.ref D) H') :
    LcG J (gName j) tYes te vs σ H1 Q := by
  intro D hD
  have hDf : D ≠ f := Ne.symm (ne_of_none hf hD)
  refine lc_it w (fun i H => ExB f H1 H ∧ I H ∧ ∃ ys, H D = some (.lst ys) ∧ ys.length = i ∧ ∀ y ∈ ys, P y) ⟨(Ex.new hD).exb, hI _ _ _ hD h0, [], upd_same, rfl, fun _ h => nomatch h⟩ (fun i H _ p => hG H p.1 p.2.1) ?_ (fun H p => ?_)
  · rintro i x H H' hi ⟨e, hi1, ys, hacc, hl, hp⟩ hy
    refine ⟨hw _, ?_⟩
    unfold tYes
    dsimp only
    rw [if_pos rfl]
    refine hs i x H H' _ hi e hi1 hy fun z H4 e4 i4 pz => ⟨ys, e4 _ _ hDf hacc, by omega, ?_, hI _ _ _ hD i4, ys ++ [z], upd_same, by rw [List.length_append, hl]; rfl, fun y hy => ?_⟩
    · exact fun a o hne q => by rw [upd_ne (ne_of_none q hD)]; exact e4 a o hne (e a o hne q)
    · rcases List.mem_append.mp hy with h | h
      · exact hp y h
      · rw [List.mem_singleton.mp h]; exact pz
  · obtain ⟨e, hi, ys, h, hl, hp⟩ := p
    exact hd D H ys hD e hi h hl hp
end Fp

/-! Displays of dicts and lists of them; how big a dict is. -/
namespace Fp
open PySem L2
theorem forG {J : It} {n : Nat} {G : Hp → Prop} {Y : Nat → Hp → V → Hp → Prop} (w : Walk J n G Y) {g : TG} {tb : TS} {D : Ends} {σ : St} {H : Hp} (Pv : Nat → St → Hp → Prop) (h0 : Pv 0 σ H) (hG : ∀ i σ H, i ≤ n → Pv i σ H → G H)
    (hs : ∀ i x σ H H', i < n → Pv i σ H → Y i H x H' → g x σ H' fun σ2 H2 => tb { D with nx := Pv (i + 1), ct := Pv (i + 1), bk := D.nx } σ2 H2) (hd : ∀ σ H, Pv n σ H → D.nx σ H) : ForG J g tb D σ H := for_it w Pv h0 hG hs hd
theorem mergeK_app (a : List (Key × V)) : ∀ b : List (Key × V), ((a ++ b).map (·.1)).Nodup → mergeK a b = a ++ b
  | [], _ => (List.append_nil a).symm
  | q :: r, h => by
    show mergeK (putK a q.1 q.2) r = a ++ q :: r
    have hn : valV a q.1 = none := by
      cases e : valV a q.1 with
      | none => rfl
      | some x =>
        unfold valV at e
        cases f : a.find? fun kv => decide (kv.1 = q.1) with
        | none => rw [f] at e; cases e
        | some y =>
          have h1 := List.mem_of_find?_eq_some f
          have h2 := List.find?_some f
          rw [List.map_append, List.nodup_append] at h
          exact absurd (of_decide_eq_true h2) (h.2.2 y.1 (List.mem_map.mpr ⟨y, h1, rfl⟩) q.1 (by simp))
    rw [putK_new q.2 hn, mergeK_app (a ++ [(q.1, q.2)]) r (by rw [List.append_assoc]; exact h), List.append_assoc]
    rfl
theorem mergeK_toK {s : Bg} (h : (keys s).Nodup) : mergeK [] (toK s) = toK s := by
  refine (mergeK_app [] (toK s) ?_)
  rw [List.nil_append]
  unfold toK
  rw [List.map_map]
  have e : ((fun x : Key × V => x.1) ∘ fun kv : Str × Int => ((Sum.inr kv.1 : Key), V.int kv.2)) = (Sum.inr : Str → Key) ∘ (·.1) := rfl
  rw [e, ← List.map_map]
  exact List.Pairwise.map _ (fun a b q e => q (Sum.inr.inj e)) h
/-- a display tells the new dict s -/
def DispOk (te : TE) (σ : St) (s : Bg) : Prop := ∀ (H : Hp) (Q : VK), (∀ p H', Ex H H' → H p = none → H' p = some (.dK (toK s)) → Q (.ref p) H') → te σ H Q
def PureT (te : TE) (σ : St) (v : V) : Prop := ∀ (H : Hp) (Q : VK), Q v H → te σ H Q
theorem pure_c {v : V} {σ : St} : PureT (tC v) σ v := fun _ _ q => q
theorem pure_v {v : V} {σ : St} {i : Nat} (h : σ[i]? = some (some v)) : PureT (tVar i) σ v := fun _ _ q => ⟨v, h, q⟩
def PairsOk : List (TE × TE) → St → Bg → Prop
  | [], _, [] => True
  | t :: r, σ, q :: s => PureT t.1 σ (.str q.1) ∧ PureT t.2 σ (.int q.2) ∧ PairsOk r σ s
  | _, _, _ => False
theorem pairs_ok {σ : St} : ∀ {trs : List (TE × TE)} {s : Bg} {H : Hp} {R : List (V × V) → Hp → Prop}, PairsOk trs σ s → R ((toK s).map fun kv => (kV kv.1, kv.2)) H → tPairs trs σ H R
  | [], [], _, _, _, h => h
  | [], _ :: _, _, _, ok, _ => ok.elim
  | _ :: _, [], _, _, ok, _ => ok.elim
  | (tk, tv) :: r, q :: s, H, R, ok, h => ok.1 H _ (ok.2.1 H _ (pairs_ok (R := fun ps H => R ((V.str q.1, V.int q.2) :: ps) H) ok.2.2 h))
theorem disp_ok {trs : List (TE × TE)} {σ : St} {s : Bg} (ok : PairsOk trs σ s) (hn : (keys s).Nodup) (hl : s.length ≤ 15) : DispOk (tDisp trs) σ s := fun H Q q p hp => by
  refine pairs_ok ok ⟨upd_same, toK s, rfl, by rw [toK_len]; exact hl, ?_⟩
  rw [mergeK_toK hn]
  exact q p _ (Ex.mut (Ex.new hp) hp) hp upd_same
def ArgsOk (tA : TA) (σ : St) (ss : List Bg) : Prop := ∀ (H : Hp) (QA : List V → Hp → Prop), (∀ (ps : List Addr) H', Ex H H' → Paired (fun p s => H p = none ∧ H' p = some (.dK (toK s))) ps ss → QA (ps.map V.ref) H') → tA σ H QA
theorem args_nil {σ : St} : ArgsOk tNil σ [] := fun H QA q => q [] H (Ex.refl H) .nil
theorem args_cons {σ : St} {te : TE} {tA : TA} {s : Bg} {ss : List Bg} (h : DispOk te σ s) (h2 : ArgsOk tA σ ss) : ArgsOk (tCons te tA) σ (s :: ss) := fun H QA q =>
  h H _ fun p H1 e1 hp0 hp => h2 H1 _ fun ps H2 e2 hps => q (p :: ps) H2 (e1.trans e2) (.cons ⟨hp0, e2 _ _ hp⟩ (Paired.mapP hps fun _ _ z => ⟨e1.free z.1, z.2⟩))
theorem paired_app {α β : Type} {F : α → β → Prop} {a : List α} {b : List β} {c : List α} {d : List β} (h : Paired F a b) (h2 : Paired F c d) : Paired F (a ++ c) (b ++ d) := by
  induction h with
  | nil => exact h2
  | cons q _ ih => exact .cons q ih
theorem paired_nth {α β : Type} {F : α → β → Prop} {a : List α} {b : List β} (h : Paired F a b) : ∀ {i : Nat}, i < b.length → ∃ x y, a[i]? = some x ∧ y ∈ b ∧ F x y := by
  induction h with
  | nil => intro i hi; exact absurd hi (Nat.not_lt_zero _)
  | @cons x y _ _ q _ ih =>
    intro i hi
    cases i with
    | zero => exact ⟨x, y, rfl, List.mem_cons_self, q⟩
    | succ i =>
      obtain ⟨x', y', h1, h2, h3⟩ := ih (i := i) (by rw [List.length_cons] at hi; omega)
      exact ⟨x', y', h1, List.mem_cons_of_mem _ h2, h3⟩
end Fp

/-! tuple(list), its object known; dict(that tuple of pairs). -/
namespace Fp
open PySem L2 PyProof.Rows
section
variable {X : Cx}
/-- tuple(list): a tuple without a dict -/
def rTupleZ (K : PySem.W.Frag) : List V → Hp → VK → Prop := fun xs H Q => ∃ p ys, xs = [V.ref p] ∧ SqL K H p ys ∧ ∀ l (o : Obj), H l = none → o.dict = none → Q (.ref l) (upd H l (.frz o (.tup ys)))
theorem call_tupleZ : CallR X (.type "tuple") (rTupleZ X.K) := by
  intro pins s σ H xs us Q I r h
  obtain ⟨p, ys, rfl, hq, q⟩ := h
  obtain ⟨u, rfl, rx⟩ := vals1 r
  cases rx
  obtain ⟨its, r', pl, hz⟩ := I.list hq
  have hlen := r'.length
  refine PySem.call_tuple_list pl.isList (fun h' kp => ?_) (by simp only [List.size_toArray] <;> omega)
  have I1 : Inv X pins σ H { s with heap := h' } := I.kept (t' := s.toks) kp
  have I2 : Inv X pins σ (upd H h'.objs.size (.frz { cls := .type "tuple", data := .seq its.toArray } (.tup ys))) { s with heap := h'.push { cls := .type "tuple", data := .seq its.toArray } } :=
    I1.laid (t' := s.toks) (fun b o e => Heap.get?_push_of_some _ e) (Nat.le_refl _) (show ObjOk X.prog X.w _ _ _ (.frz _ (.tup ys)) from ⟨Heap.get?_push_size _ rfl, hz, its, r', IsTup.new _ _⟩)
  exact ⟨.ref h'.objs.size, _, I2, rfl, q _ _ (I1.hok.fresh (Nat.le_refl _)) rfl⟩
theorem pairs_ofV {pins : List (Addr × Obj)} {σ : L2.St} {H : Hp} {s : Shared} (I : Inv X pins σ H s) : ∀ {ps : List Addr} {kvs : List (Key × V)}, Paired (fun p kv => SqT X.K H p [kV kv.1, kv.2]) ps kvs →
    ∃ (prs : List (Key × Value)) (ws : List (Value × Value)), KV kvs prs ∧ prs.length = ps.length ∧ ws.length = ps.length ∧ ∀ (j : Nat) (k v : Value), ws[j]? = some (k, v) → ∃ (b : Addr) (key : Key), ps[j]? = some b ∧ IsTup s.heap b #[k, v] ∧ prs[j]? = some (key, v) ∧ (mixKind X.prog X.w).is key k = true
  | _, _, .nil => ⟨[], [], .nil, rfl, rfl, fun j k v e => by simp at e⟩
  | _, _, .cons (a := p) (b := kv) h t => by
    obtain ⟨prs, ws, r, hl, hl2, hp⟩ := pairs_ofV I t
    obtain ⟨its, rv, ht, _⟩ := I.tuple h
    obtain ⟨u, y, ei, ru, ry⟩ := vals2 rv
    subst ei
    refine ⟨(kv.1, y) :: prs, (u, y) :: ws, .cons ⟨rfl, ry⟩ r, by rw [List.length_cons, List.length_cons, hl], by rw [List.length_cons, List.length_cons, hl2], fun j k v e => ?_⟩
    cases j with
    | zero =>
      have e' : (u, y) = (k, v) := Option.some.inj e
      cases e'
      exact ⟨p, kv.1, rfl, ht, rfl, kV_is (P := X.prog) (w := X.w) ru⟩
    | succ j =>
      obtain ⟨b, key, e1, e2, e3, e4⟩ := hp j k v (by simpa using e)
      exact ⟨b, key, by simpa using e1, e2, by simpa using e3, e4⟩
def rDictT (K : PySem.W.Frag) : List V → Hp → VK → Prop := fun xs H Q => ∃ (a : Addr) (o : Obj) (ps : List Addr) (kvs : List (Key × V)), xs = [.ref a] ∧ H a = some (.frz o (.tup (ps.map V.ref))) ∧ o.dict = none ∧ Paired (fun p kv => SqT K H p [kV kv.1, kv.2]) ps kvs ∧
    ∀ p, H p = none → Q (.ref p) (upd H p (.dK (mergeK [] kvs)))
theorem call_dictT (hcalm : X.calm = true) : CallR X (.type "dict") (rDictT X.K) := by
  intro pins s σ H xs us Q I r q
  obtain ⟨a, o, ps, kvs, ex, ha, hod, hp, q⟩ := q
  subst ex
  obtain ⟨u, eu, rx⟩ := vals1 r
  subst eu
  cases rx
  obtain ⟨hg, hz, its, rv, o', ho', hc, n, hdat⟩ := (show ObjOk X.prog X.w H s.heap a (.frz o (.tup (ps.map V.ref))) from I.hok a _ ha)
  rw [hg] at ho'
  cases ho'
  have ei := refs_at rv
  subst ei
  rw [List.length_map] at hz
  obtain ⟨prs, ws, rel, hl, hl2, hpr⟩ := pairs_ofV I hp
  have ok : PlainSeq "tuple" s.heap a (ps.map Value.ref).toArray ∧ PairItems s.heap (ps.map Value.ref).toArray (fun j => ps.getD j 0) ws := by
    refine ⟨⟨o, n, hg, hc, hod, hdat⟩, by simp [hl2], fun j k v e => ?_⟩
    obtain ⟨b, key, e1, e2, e3, e4⟩ := hpr j k v e
    refine ⟨by simp [e1, List.getD], .inl ?_⟩
    have : ps.getD j 0 = b := by simp [List.getD, e1]
    show s.heap.IsTuple (ps.getD j 0) #[k, v]
    rw [this]
    obtain ⟨ob, h1, h2, n2, h3⟩ := e2
    exact ⟨ob, h1, h2, n2, h3⟩
  refine call_dict_pairs (knd := mixKind X.prog X.w) (kvs := prs) (PairArg.tuple a (ps.map Value.ref).toArray (fun j => ps.getD j 0) ws) (I.ok.hd hcalm) ok ⟨by rw [hl, hl2], fun i key v e => ?_⟩ (by rw [hl2]; exact hz) fun h' tk hd' k => ?_
  · obtain ⟨b, key', e1, e2, e3, e4⟩ := hpr i key v e
    exact ⟨key', e3, e4⟩
  · have hm : (s.heap.objs.size == sysModules) = false := beq_eq_false_iff_ne.mpr (Nat.ne_of_gt I.big)
    have hlen : (mergeK [] kvs).length ≤ sizeLine := by
      refine Nat.le_trans (length_mergeK kvs []) ?_
      rw [List.length_nil, Nat.zero_add, rel.length, hl]
      exact hz
    exact ⟨.ref s.heap.objs.size, upd H s.heap.objs.size (.dK (mergeK [] kvs)), I.laid (t' := tk) (fun b u e => k b u (fun h => nomatch h) e) (Nat.le_refl _) (show ObjOk X.prog X.w _ _ _ (.dK (mergeK [] kvs)) from ⟨hlen, hm, merged [] prs, KV.merge rel .nil, hd'⟩), rfl, q _ (I.hok.fresh (Nat.le_refl _))⟩
end
end Fp

/-! Own errors without a message. -/
namespace Fp
open PySem L2 PyProof.Rows
section
variable {X : Cx} {C : Addr} {bmB : List Value} {B newId initId : String}
/-- X() -/
theorem pmk_own0 {x : Str} {p pos : Pos} (F : ExcBaseFacts B newId initId bmB) (q : PySem.W.excIn X.K C bmB newId = true) (gC : X.mg x = some (.ref C)) (kC : PySem.W.keepIn X.K (.ref C) = true) (r : Raises X (.ref C)) (hg : Gl X x)
    (hdb : (x == ("__debug__" : Str)) = false := by decide) : PMk X (.Call (.Name x p) [] [] pos) (fun _ H Q => Q (.ref C) none H) := by
  intro pins s σ H Q I h
  refine wpAny_Call_Name_kw (ld_glob I hg gC ?_ hdb)
  refine PySem.W.callWith_K0 I.kIn kC ?_
  show wpAny _ _ (call (.ref C) []) _ _ _
  obtain ⟨bm, N, nm, qn, bs, hdct, sn, sub, ab, col, dd, k0, k1, k2, k3, k5, mN, hC, hN, hni, T⟩ := exc_obj I.kIn q
  refine wpAny_call_exc_subT F T hC hN hni (fun h' e hm => ?_) (Nat.zero_le _)
  exact mk_of I hm r h (I.hok.gone hm.new)
/-- an own error's class: the facts -/
structure ErrC (K : PySem.W.Frag) (mg : Str → Option Value) (nm : Str) (C : Addr) : Prop where
  g : mg nm = some (.ref C)
  q : PySem.W.excIn K C [.type "ValueError", .type "Exception", .type "BaseException", .type "object"] "ValueError.__new__" = true
  k : PySem.W.keepIn K (.ref C) = true
  b : PySem.W.subIn K (.ref C) (.type "BaseException") = some true
  t : PySem.W.typeIn K (.ref C) = some (.type "type")
theorem ps_err {W : WX} {x : Str} {p pos pos' : Pos} (hc : X.calm = true) (tk : Takes X W) (D : ErrC X.K X.mg x C) (hg : Gl X x) (hdb : (x == ("__debug__" : Str)) = false := by decide) :
    PS X (.Raise (some (.Call (.Name x p) [] [] pos)) none pos') (fun _ σ H => W (.ref C) none σ H) :=
  L2.ps_raise hc tk (pmk_own0 PySem.F.excBase_ValueError D.q D.g D.k (raises_own D.b D.t) hg hdb)
/-- a def that raises: called where the error is let out or caught -/
theorem pe_callDX {W : WX} {k : Nat} {ps : List Str} {sp : Sp} {x : Str} {p pos : Pos} {e : Expr} {es : List Expr} {t : TA} (D : DefOk X.prog X.w X.K X.mg X.base (L2.CX X.prog X.w) k x ps sp) (hr : Room k X.A) (hg : Gl X x) (tk : Takes X W) (ha : PA X (e :: es) t)
    (hdb : (x == ("__debug__" : Str)) = false := by decide) (he : starEach (e :: es) X.env = (false, eval e X.env) :: starEach es X.env := by rfl) (hpl : (backTo pos (starEach es X.env)).any (·.1) = false := by rfl) :
    PE X (.Call (.Name x p) (e :: es) [] pos) (tCallS sp (WE W) t) := by
  obtain ⟨f, fd, hm, hk, hb, F⟩ := D.ex
  exact pe_callS F hr hg hm hk hb (fun σ => passAt tk σ) ha hdb he hpl
theorem g_callS {sp : Sp} {E : L2.St → XK} {tA : TA} {σ : L2.St} {H : Hp} {Q : VK} (h : tA σ H fun vs H1 => sp vs H1 Q (E σ)) : tCallS sp E tA σ H Q := h
/-- a list or a tuple -/
def iSeq (K : PySem.W.Frag) (te : TE) : TI := fun σ H R => iList K te σ H R ∨ iTup K te σ H R
theorem pi_seq {tg l : Expr} {tl : TE} (hl : PE X l tl) : PI X tg l (iSeq X.K tl) := ⟨fun pins s σ H R I q => q.elim ((pi_list hl).run pins s σ H R I) ((pi_tup hl).run pins s σ H R I)⟩
theorem pi_seqK {K : PySem.W.Frag} (hK : X.K = K) {tg l : Expr} {tl : TE} (hl : PE X l tl) : PI X tg l (iSeq K tl) := hK ▸ pi_seq hl
theorem pe_fldK {K : PySem.W.Frag} (hK : X.K = K) {e : Expr} {f : Str} {pos : Pos} {ta : TE} (he : PE X e ta) (hb : attributeBase e f X.env (eval e X.env) = eval e X.env) : PE X (.Attribute e f pos) (tFld K ta f) := hK ▸ pe_fld he hb
end
end Fp

namespace Fp
open PySem L2
def top (i : Nat) : Stmt := PySem.Challenge.pw_frontparts_k02_whole_bags_laid_together.main.body.getD i (.Pass ⟨0, 0, 0, 0⟩)
abbrev s_BadBag_init : Stmt := inClass (top 2) 0
abbrev N_BadBag_init : List Str := ["self", "part"]
theorem st_BadBag_init : ∀ v0 v1 : V, start N_BadBag_init [v0, v1] = [some v0, some v1] := fun _ _ => rfl
abbrev s_is_integer : Stmt := top 11
abbrev N_is_integer : List Str := ["thing"]
theorem st_is_integer : ∀ v0 : V, start N_is_integer [v0] = [some v0] := fun _ => rfl
theorem sc_is_integer : FnScope N_is_integer ["thing"] (defScope s_is_integer) := ⟨rfl, rfl, rfl, by decide +kernel, rfl, by decide +kernel, by decide +kernel⟩
abbrev s_is_within : Stmt := top 12
abbrev N_is_within : List Str := ["thing", "least", "most"]
theorem st_is_within : ∀ v0 v1 v2 : V, start N_is_within [v0, v1, v2] = [some v0, some v1, some v2] := fun _ _ _ => rfl
theorem sc_is_within : FnScope N_is_within ["thing", "least", "most"] (defScope s_is_within) := ⟨rfl, rfl, rfl, by decide +kernel, rfl, by decide +kernel, by decide +kernel⟩
abbrev s_is_listed : Stmt := top 13
abbrev N_is_listed : List Str := ["thing"]
theorem st_is_listed : ∀ v0 : V, start N_is_listed [v0] = [some v0] := fun _ => rfl
theorem sc_is_listed : FnScope N_is_listed ["thing"] (defScope s_is_listed) := ⟨rfl, rfl, rfl, by decide +kernel, rfl, by decide +kernel, by decide +kernel⟩
abbrev s_is_clock : Stmt := top 14
abbrev N_is_clock : List Str := ["thing"]
theorem st_is_clock : ∀ v0 : V, start N_is_clock [v0] = [some v0] := fun _ => rfl
theorem sc_is_clock : FnScope N_is_clock ["thing"] (defScope s_is_clock) := ⟨rfl, rfl, rfl, by decide +kernel, rfl, by decide +kernel, by decide +kernel⟩
abbrev s_is_word : Stmt := top 15
abbrev N_is_word : List Str := ["thing", "letter"]
theorem st_is_word : ∀ v0 : V, start N_is_word [v0] = [some v0, none] := fun _ => rfl
theorem sc_is_word : FnScope N_is_word ["thing"] (defScope s_is_word) := ⟨rfl, rfl, rfl, by decide +kernel, rfl, by decide +kernel, by decide +kernel⟩
abbrev s_is_short_word : Stmt := top 16
abbrev N_is_short_word : List Str := ["thing"]
theorem st_is_short_word : ∀ v0 : V, start N_is_short_word [v0] = [some v0] := fun _ => rfl
theorem sc_is_short_word : FnScope N_is_short_word ["thing"] (defScope s_is_short_word) := ⟨rfl, rfl, rfl, by decide +kernel, rfl, by decide +kernel, by decide +kernel⟩
abbrev s_ahead_key : Stmt := top 18
abbrev N_ahead_key : List Str := ["word"]
theorem st_ahead_key : ∀ v0 : V, start N_ahead_key [v0] = [some v0] := fun _ => rfl
theorem sc_ahead_key : FnScope N_ahead_key ["word"] (defScope s_ahead_key) := ⟨rfl, rfl, rfl, by decide +kernel, rfl, by decide +kernel, by decide +kernel⟩
abbrev s_words_in_order : Stmt := top 19
abbrev N_words_in_order : List Str := ["sparse"]
theorem st_words_in_order : ∀ v0 : V, start N_words_in_order [v0] = [some v0] := fun _ => rfl
theorem sc_words_in_order : FnScope N_words_in_order ["sparse"] (defScope s_words_in_order) := ⟨rfl, rfl, rfl, by decide +kernel, rfl, by decide +kernel, by decide +kernel⟩
abbrev s_size : Stmt := top 20
abbrev N_size : List Str := ["sparse", "word"]
theorem st_size : ∀ v0 : V, start N_size [v0] = [some v0, none] := fun _ => rfl
theorem sc_size : FnScope N_size ["sparse"] (defScope s_size) := ⟨rfl, rfl, rfl, by decide +kernel, rfl, by decide +kernel, by decide +kernel⟩
abbrev s_put_to : Stmt := top 21
abbrev N_put_to : List Str := ["clock", "sparse", "word", "number", "total"]
theorem st_put_to : ∀ v0 v1 v2 v3 : V, start N_put_to [v0, v1, v2, v3] = [some v0, some v1, some v2, some v3, none] := fun _ _ _ _ => rfl
theorem sc_put_to : FnScope N_put_to ["clock", "sparse", "word", "number"] (defScope s_put_to) := ⟨rfl, rfl, rfl, by decide +kernel, rfl, by decide +kernel, by decide +kernel⟩
abbrev s_added : Stmt := top 22
abbrev N_added : List Str := ["clock", "one", "other", "factor", "found", "word"]
theorem st_added : ∀ v0 v1 v2 v3 : V, start N_added [v0, v1, v2, v3] = [some v0, some v1, some v2, some v3, none, none] := fun _ _ _ _ => rfl
theorem sc_added : FnScope N_added ["clock", "one", "other", "factor"] (defScope s_added) := ⟨rfl, rfl, rfl, by decide +kernel, rfl, by decide +kernel, by decide +kernel⟩
abbrev s_scaled : Stmt := top 23
abbrev N_scaled : List Str := ["clock", "sparse", "factor"]
theorem st_scaled : ∀ v0 v1 v2 : V, start N_scaled [v0, v1, v2] = [some v0, some v1, some v2] := fun _ _ _ => rfl
theorem sc_scaled : FnScope N_scaled ["clock", "sparse", "factor"] (defScope s_scaled) := ⟨rfl, rfl, rfl, by decide +kernel, rfl, by decide +kernel, by decide +kernel⟩
abbrev s_are_words : Stmt := top 25
abbrev N_are_words : List Str := ["clock", "thing", "word"]
theorem st_are_words : ∀ v0 v1 : V, start N_are_words [v0, v1] = [some v0, some v1, none] := fun _ _ => rfl
theorem sc_are_words : FnScope N_are_words ["clock", "thing"] (defScope s_are_words) := ⟨rfl, rfl, rfl, by decide +kernel, rfl, by decide +kernel, by decide +kernel⟩
abbrev s_Bag_init : Stmt := inClass (top 26) 0
abbrev N_Bag_init : List Str := ["self", "clock", "words"]
theorem st_Bag_init : ∀ v0 v1 v2 : V, start N_Bag_init [v0, v1, v2] = [some v0, some v1, some v2] := fun _ _ _ => rfl
theorem sc_Bag_init : FnScope N_Bag_init ["self", "clock", "words"] (defScope s_Bag_init) := ⟨rfl, rfl, rfl, by decide +kernel, rfl, by decide +kernel, by decide +kernel⟩
abbrev s_Bag_keep : Stmt := inClass (top 26) 1
abbrev N_Bag_keep : List Str := ["self", "clock", "sparse", "word"]
theorem st_Bag_keep : ∀ v0 v1 v2 : V, start N_Bag_keep [v0, v1, v2] = [some v0, some v1, some v2, none] := fun _ _ _ => rfl
theorem sc_Bag_keep : FnScope N_Bag_keep ["self", "clock", "sparse"] (defScope s_Bag_keep) := ⟨rfl, rfl, rfl, by decide +kernel, rfl, by decide +kernel, by decide +kernel⟩
abbrev s_Bag_eq : Stmt := inClass (top 26) 2
abbrev N_Bag_eq : List Str := ["self", "other"]
theorem st_Bag_eq : ∀ v0 v1 : V, start N_Bag_eq [v0, v1] = [some v0, some v1] := fun _ _ => rfl
theorem sc_Bag_eq : FnScope N_Bag_eq ["self", "other"] (defScope s_Bag_eq) := ⟨rfl, rfl, rfl, by decide +kernel, rfl, by decide +kernel, by decide +kernel⟩
abbrev s_RawBag_init : Stmt := inClass (top 27) 0
abbrev N_RawBag_init : List Str := ["self", "clock", "sparse"]
theorem st_RawBag_init : ∀ v0 v1 v2 : V, start N_RawBag_init [v0, v1, v2] = [some v0, some v1, some v2] := fun _ _ _ => rfl
theorem sc_RawBag_init : FnScope N_RawBag_init ["self", "clock", "sparse"] (defScope s_RawBag_init) := ⟨rfl, rfl, rfl, by decide +kernel, rfl, by decide +kernel, by decide +kernel⟩
abbrev s_raw : Stmt := top 28
abbrev N_raw : List Str := ["clock", "sparse"]
theorem st_raw : ∀ v0 v1 : V, start N_raw [v0, v1] = [some v0, some v1] := fun _ _ => rfl
theorem sc_raw : FnScope N_raw ["clock", "sparse"] (defScope s_raw) := ⟨rfl, rfl, rfl, by decide +kernel, rfl, by decide +kernel, by decide +kernel⟩
abbrev s_bag_key : Stmt := top 29
abbrev N_bag_key : List Str := ["bag"]
theorem st_bag_key : ∀ v0 : V, start N_bag_key [v0] = [some v0] := fun _ => rfl
theorem sc_bag_key : FnScope N_bag_key ["bag"] (defScope s_bag_key) := ⟨rfl, rfl, rfl, by decide +kernel, rfl, by decide +kernel, by decide +kernel⟩
abbrev s_check_clocks : Stmt := top 30
abbrev N_check_clocks : List Str := ["one", "other"]
theorem st_check_clocks : ∀ v0 v1 : V, start N_check_clocks [v0, v1] = [some v0, some v1] := fun _ _ => rfl
theorem sc_check_clocks : FnScope N_check_clocks ["one", "other"] (defScope s_check_clocks) := ⟨rfl, rfl, rfl, by decide +kernel, rfl, by decide +kernel, by decide +kernel⟩
abbrev s_together : Stmt := top 31
abbrev N_together : List Str := ["one", "other"]
theorem st_together : ∀ v0 v1 : V, start N_together [v0, v1] = [some v0, some v1] := fun _ _ => rfl
theorem sc_together : FnScope N_together ["one", "other"] (defScope s_together) := ⟨rfl, rfl, rfl, by decide +kernel, rfl, by decide +kernel, by decide +kernel⟩
abbrev s_less : Stmt := top 32
abbrev N_less : List Str := ["one", "other"]
theorem st_less : ∀ v0 v1 : V, start N_less [v0, v1] = [some v0, some v1] := fun _ _ => rfl
theorem sc_less : FnScope N_less ["one", "other"] (defScope s_less) := ⟨rfl, rfl, rfl, by decide +kernel, rfl, by decide +kernel, by decide +kernel⟩
abbrev s_times : Stmt := top 33
abbrev N_times : List Str := ["bag", "number"]
theorem st_times : ∀ v0 v1 : V, start N_times [v0, v1] = [some v0, some v1] := fun _ _ => rfl
theorem sc_times : FnScope N_times ["bag", "number"] (defScope s_times) := ⟨rfl, rfl, rfl, by decide +kernel, rfl, by decide +kernel, by decide +kernel⟩
abbrev s_check_bags : Stmt := top 34
abbrev N_check_bags : List Str := ["thing", "bag"]
theorem st_check_bags : ∀ v0 : V, start N_check_bags [v0] = [some v0, none] := fun _ => rfl
theorem sc_check_bags : FnScope N_check_bags ["thing"] (defScope s_check_bags) := ⟨rfl, rfl, rfl, by decide +kernel, rfl, by decide +kernel, by decide +kernel⟩
abbrev s_all_together : Stmt := top 35
abbrev N_all_together : List Str := ["bags", "found", "bag"]
theorem st_all_together : ∀ v0 : V, start N_all_together [v0] = [some v0, none, none] := fun _ => rfl
theorem sc_all_together : FnScope N_all_together ["bags"] (defScope s_all_together) := ⟨rfl, rfl, rfl, by decide +kernel, rfl, by decide +kernel, by decide +kernel⟩
abbrev s_in_order : Stmt := top 36
abbrev N_in_order : List Str := ["bags", "found", "bag"]
theorem st_in_order : ∀ v0 : V, start N_in_order [v0] = [some v0, none, none] := fun _ => rfl
theorem sc_in_order : FnScope N_in_order ["bags"] (defScope s_in_order) := ⟨rfl, rfl, rfl, by decide +kernel, rfl, by decide +kernel, by decide +kernel⟩
abbrev s_law_hand : Stmt := top 38
abbrev N_law_hand : List Str := ["_law_script", "_law_cells", "_law_cell"]
theorem st_law_hand : ∀ v0 : V, start N_law_hand [v0] = [some v0, none, none] := fun _ => rfl
theorem sc_law_hand : FnScope N_law_hand ["_law_script"] (defScope s_law_hand) := ⟨rfl, rfl, rfl, by decide +kernel, rfl, by decide +kernel, by decide +kernel⟩
abbrev s_law_draw : Stmt := top 39
abbrev N_law_draw : List Str := ["_law_hand_here", "_law_many", "_law_cell", "_law_digit", "_law_number"]
theorem st_law_draw : ∀ v0 v1 : V, start N_law_draw [v0, v1] = [some v0, some v1, none, none, none] := fun _ _ => rfl
theorem sc_law_draw : FnScope N_law_draw ["_law_hand_here", "_law_many"] (defScope s_law_draw) := ⟨rfl, rfl, rfl, by decide +kernel, rfl, by decide +kernel, by decide +kernel⟩
abbrev s_law_put : Stmt := top 40
abbrev N_law_put : List Str := ["_law_clock_here", "_law_bag", "_law_word_here", "_law_number", "_law_total"]
theorem st_law_put : ∀ v0 v1 v2 v3 : V, start N_law_put [v0, v1, v2, v3] = [some v0, some v1, some v2, some v3, none] := fun _ _ _ _ => rfl
theorem sc_law_put : FnScope N_law_put ["_law_clock_here", "_law_bag", "_law_word_here", "_law_number"] (defScope s_law_put) := ⟨rfl, rfl, rfl, by decide +kernel, rfl, by decide +kernel, by decide +kernel⟩
abbrev s_law_plus : Stmt := top 41
abbrev N_law_plus : List Str := ["_law_clock_here", "_law_one", "_law_other", "_law_factor", "_law_found", "_law_word_here"]
theorem st_law_plus : ∀ v0 v1 v2 v3 : V, start N_law_plus [v0, v1, v2, v3] = [some v0, some v1, some v2, some v3, none, none] := fun _ _ _ _ => rfl
theorem sc_law_plus : FnScope N_law_plus ["_law_clock_here", "_law_one", "_law_other", "_law_factor"] (defScope s_law_plus) := ⟨rfl, rfl, rfl, by decide +kernel, rfl, by decide +kernel, by decide +kernel⟩
abbrev s_law_product : Stmt := top 42
abbrev N_law_product : List Str := ["_law_clock_here", "_law_one", "_law_other", "_law_found", "_law_front", "_law_back"]
theorem st_law_product : ∀ v0 v1 v2 : V, start N_law_product [v0, v1, v2] = [some v0, some v1, some v2, none, none, none] := fun _ _ _ => rfl
theorem sc_law_product : FnScope N_law_product ["_law_clock_here", "_law_one", "_law_other"] (defScope s_law_product) := ⟨rfl, rfl, rfl, by decide +kernel, rfl, by decide +kernel, by decide +kernel⟩
abbrev s_law_order : Stmt := top 43
abbrev N_law_order : List Str := ["_law_bag", "_law_pair", "_law_word_here"]
theorem st_law_order : ∀ v0 : V, start N_law_order [v0] = [some v0, none, none] := fun _ => rfl
theorem sc_law_order : FnScope N_law_order ["_law_bag"] (defScope s_law_order) := ⟨rfl, rfl, rfl, by decide +kernel, rfl, by decide +kernel, by decide +kernel⟩
abbrev s_law_words : Stmt := top 44
abbrev N_law_words : List Str := ["_law_bag", "_law_word_here"]
theorem st_law_words : ∀ v0 : V, start N_law_words [v0] = [some v0, none] := fun _ => rfl
theorem sc_law_words : FnScope N_law_words ["_law_bag"] (defScope s_law_words) := ⟨rfl, rfl, rfl, by decide +kernel, rfl, by decide +kernel, by decide +kernel⟩
abbrev s_law_plain : Stmt := top 45
abbrev N_law_plain : List Str := ["_law_clock_here", "_law_bag", "_law_lead", "_law_number"]
theorem st_law_plain : ∀ v0 v1 : V, start N_law_plain [v0, v1] = [some v0, some v1, none, none] := fun _ _ => rfl
theorem sc_law_plain : FnScope N_law_plain ["_law_clock_here", "_law_bag"] (defScope s_law_plain) := ⟨rfl, rfl, rfl, by decide +kernel, rfl, by decide +kernel, by decide +kernel⟩
abbrev s_law_is : Stmt := top 46
abbrev N_law_is : List Str := ["_law_told", "_law_clock_here", "_law_bag"]
theorem st_law_is : ∀ v0 v1 v2 : V, start N_law_is [v0, v1, v2] = [some v0, some v1, some v2] := fun _ _ _ => rfl
theorem sc_law_is : FnScope N_law_is ["_law_told", "_law_clock_here", "_law_bag"] (defScope s_law_is) := ⟨rfl, rfl, rfl, by decide +kernel, rfl, by decide +kernel, by decide +kernel⟩
abbrev s_law_clock : Stmt := top 47
abbrev N_law_clock : List Str := ["_law_hand_here"]
theorem st_law_clock : ∀ v0 : V, start N_law_clock [v0] = [some v0] := fun _ => rfl
theorem sc_law_clock : FnScope N_law_clock ["_law_hand_here"] (defScope s_law_clock) := ⟨rfl, rfl, rfl, by decide +kernel, rfl, by decide +kernel, by decide +kernel⟩
abbrev s_law_word : Stmt := top 48
abbrev N_law_word : List Str := ["_law_hand_here", "_law_letters", "_law_most", "_law_turn"]
theorem st_law_word : ∀ v0 v1 v2 : V, start N_law_word [v0, v1, v2] = [some v0, some v1, some v2, none] := fun _ _ _ => rfl
theorem sc_law_word : FnScope N_law_word ["_law_hand_here", "_law_letters", "_law_most"] (defScope s_law_word) := ⟨rfl, rfl, rfl, by decide +kernel, rfl, by decide +kernel, by decide +kernel⟩
abbrev s_law_lot : Stmt := top 49
abbrev N_law_lot : List Str := ["_law_hand_here", "_law_clock_here", "_law_letters", "_law_most", "_law_many", "_law_found", "_law_turn"]
theorem st_law_lot : ∀ v0 v1 v2 v3 v4 : V, start N_law_lot [v0, v1, v2, v3, v4] = [some v0, some v1, some v2, some v3, some v4, none, none] := fun _ _ _ _ _ => rfl
theorem sc_law_lot : FnScope N_law_lot ["_law_hand_here", "_law_clock_here", "_law_letters", "_law_most", "_law_many"] (defScope s_law_lot) := ⟨rfl, rfl, rfl, by decide +kernel, rfl, by decide +kernel, by decide +kernel⟩
abbrev s_law_small : Stmt := top 50
abbrev N_law_small : List Str := ["_law_hand_here", "_law_clock_here", "_law_number", "_law_some_here"]
theorem st_law_small : ∀ v0 v1 : V, start N_law_small [v0, v1] = [some v0, some v1, none, none] := fun _ _ => rfl
theorem sc_law_small : FnScope N_law_small ["_law_hand_here", "_law_clock_here"] (defScope s_law_small) := ⟨rfl, rfl, rfl, by decide +kernel, rfl, by decide +kernel, by decide +kernel⟩
abbrev s_law_woven : Stmt := top 51
abbrev N_law_woven : List Str := ["_law_hand_here", "_law_clock_here", "_law_most", "_law_found", "_law_turn", "_law_one", "_law_other", "_law_longer", "_law_word_here"]
theorem st_law_woven : ∀ v0 v1 v2 : V, start N_law_woven [v0, v1, v2] = [some v0, some v1, some v2, none, none, none, none, none, none] := fun _ _ _ => rfl
theorem sc_law_woven : FnScope N_law_woven ["_law_hand_here", "_law_clock_here", "_law_most"] (defScope s_law_woven) := ⟨rfl, rfl, rfl, by decide +kernel, rfl, by decide +kernel, by decide +kernel⟩
abbrev s_law_some : Stmt := top 52
abbrev N_law_some : List Str := ["_law_hand_here", "_law_clock_here", "_law_kind"]
theorem st_law_some : ∀ v0 v1 : V, start N_law_some [v0, v1] = [some v0, some v1, none] := fun _ _ => rfl
theorem sc_law_some : FnScope N_law_some ["_law_hand_here", "_law_clock_here"] (defScope s_law_some) := ⟨rfl, rfl, rfl, by decide +kernel, rfl, by decide +kernel, by decide +kernel⟩
abbrev s_law_unlike : Stmt := top 53
abbrev N_law_unlike : List Str := ["_law_kind", "_law_one", "_law_other", "_law_told"]
theorem st_law_unlike : ∀ v0 v1 v2 : V, start N_law_unlike [v0, v1, v2] = [some v0, some v1, some v2, none] := fun _ _ _ => rfl
theorem sc_law_unlike : FnScope N_law_unlike ["_law_kind", "_law_one", "_law_other"] (defScope s_law_unlike) := ⟨rfl, rfl, rfl, by decide +kernel, rfl, by decide +kernel, by decide +kernel⟩
abbrev s_law_key : Stmt := top 54
abbrev N_law_key : List Str := ["_law_words_here", "_law_word_here"]
theorem st_law_key : ∀ v0 : V, start N_law_key [v0] = [some v0, none] := fun _ => rfl
theorem sc_law_key : FnScope N_law_key ["_law_words_here"] (defScope s_law_key) := ⟨rfl, rfl, rfl, by decide +kernel, rfl, by decide +kernel, by decide +kernel⟩
abbrev s_law_all_right : Stmt := top 55
abbrev N_law_all_right : List Str := ["_law_hand_here", "_law_clock_here", "_law_rows", "_law_some_here", "_law_turn", "_law_bags", "_law_words_here", "_law_due", "_law_kind", "_law_told", "_law_order_here", "_law_key_here", "_law_bag"]
theorem st_law_all_right : ∀ v0 v1 v2 : V, start N_law_all_right [v0, v1, v2] = [some v0, some v1, some v2, none, none, none, none, none, none, none, none, none, none] := fun _ _ _ => rfl
theorem sc_law_all_right : FnScope N_law_all_right ["_law_hand_here", "_law_clock_here", "_law_rows"] (defScope s_law_all_right) := ⟨rfl, rfl, rfl, by decide +kernel, rfl, by decide +kernel, by decide +kernel⟩
abbrev s_law : Stmt := top 56
abbrev N_law : List Str := ["_law_script", "_law_hand_here", "_law_clock_here", "_law_rows", "_law_turn", "_law_bags", "_law_words_here", "_law_number", "_law_other", "_law_odd", "_law_bag"]
theorem st_law : ∀ v0 : V, start N_law [v0] = [some v0, none, none, none, none, none, none, none, none, none, none] := fun _ => rfl
theorem sc_law : FnScope N_law ["_law_script"] (defScope s_law) := ⟨rfl, rfl, rfl, by decide +kernel, rfl, by decide +kernel, by decide +kernel⟩
local macro_rules | `(tactic| walk_at "hp") => `(tactic| first | assumption | rfl)
local macro_rules | `(tactic| walk_at "cond") => `(tactic| first | assumption | decide | omega | (unfold CMul; omega) | (refine ⟨?_, ?_⟩ <;> omega) | (unfold CDiv; omega) | (unfold CPow; omega))
local macro_rules | `(tactic| walk_at "g1") => `(tactic| first
  | with_reducible first
    | refine g_seq ?_ | refine g_asg ?_ | refine g_name ?_ | refine g_ret ?_ | refine g_retN ?_ | refine g_drop ?_ | refine g_ifs ?_
    | refine g_c ?_ | refine g_op ?_ | refine g_un ?_ | refine g_I0 ?_ | refine g_U ?_
    | refine g_test ?_ | refine g_tB ?_ | refine g_bl ?_ | refine g_and ?_ | refine g_or ?_ | refine g_not ?_
    | refine g_andV ?_ | refine g_orV ?_ | refine g_notV ?_ | refine g_if ?_ | refine g_nil ?_ | refine g_cons ?_ | refine g_cb ?_ | refine g_call ?_
    | refine g_lst ?_ | refine g_tup ?_ | refine g_itT ?_ | refine g_itF ?_ | refine g_itNT ?_ | refine g_itNF ?_ | refine g_lc ?_ | refine g_iStr ?_ | refine g_yes ?_ | refine g_exs ?_
    | refine g_chain ?_ | refine g_dget ?_ | refine g_dput ?_ | refine g_dget2 ?_ | refine g_dpop2 ?_ | refine g_fld ?_ | refine g_sfld ?_ | refine g_make ?_ | refine g_meth ?_
    | refine g_bm ?_ | refine g_kw ?_ | refine g_callS ?_ | refine g_revL ?_ | refine g_m1 ?_ | refine g_gsub ?_ | refine g_for ?_ | refine g_iList ?_ | refine g_iTup ?_ | refine g_iRng1 ?_ | refine g_iRng2 ?_ | refine g_sl ?_ | refine g_part ?_ | refine g_noPart ?_
    | refine g_exi ?_ | refine g_exr ?_ | refine g_dnew ?_ | refine g_disp ?_ | refine g_prs0 ?_ | refine g_prs ?_ | refine g_nxt ?_
  | ((with_reducible refine g_var (v := ?vv) ?gv ?_); (case gv => exact rfl))
  | ((with_reducible refine g_I ?gc ?_); (case gc => walk_at "cond"))
  | ((with_reducible refine g_eq ?ge ?_); (case ge => exact rfl))
  | ((with_reducible refine g_ne ?ge ?_); (case ge => exact rfl))
  | (refine g_ixl (SqL.of (by first | assumption | exact upd_same)) rfl ?_)
  | (refine g_setl (by first | assumption | exact upd_same) rfl ?_)
  | ((with_reducible show (∃ i, [V.int _] = [V.int i] ∧ _) ∨ _); refine Or.inl ⟨_, rfl, ?_⟩)
  | ((with_reducible show ∃ i, [V.int _] = [V.int i] ∧ _); refine ⟨_, rfl, ?_⟩)
  | dsimp only)
local macro_rules | `(tactic| walk_at "go") => `(tactic| repeat (walk_at "g1"))

/-! ### what stands in the module -/
structure Blt (mg : Str → Option Value) : Prop where
  b_isinstance : mg "isinstance" = none
  b_int : mg "int" = none
  b_bool : mg "bool" = none
  b_str : mg "str" = none
  b_dict : mg "dict" = none
  b_list : mg "list" = none
  b_tuple : mg "tuple" = none
  b_len : mg "len" = none
  b_abs : mg "abs" = none
  b_all : mg "all" = none
  b_any : mg "any" = none
  b_max : mg "max" = none
  b_min : mg "min" = none
  b_range : mg "range" = none
  b_sorted : mg "sorted" = none
structure Txt (K : PySem.W.Frag) (mg : Str → Option Value) (C_Bag : Addr) (Cs : Addr → Prop) : Prop extends Blt mg where
  g_LETTERS : ∃ t, mg "LETTERS" = some (.str "xyz" t)
  g_MOST_LETTERS : ∃ t, mg "MOST_LETTERS" = some (.int 12 t)
  g_MOST_WORDS : ∃ t, mg "MOST_WORDS" = some (.int 300 t)
  g_CLOCKS : ∃ a, mg "CLOCKS" = some (.ref a) ∧ SqT K (fun _ => none) a [.int 2, .int 3, .int 5, .int 7]
  c_Bag : mg "Bag" = some (.ref C_Bag)
  cls : ∀ C, Cs C → Cls K C
  n_clock : ∀ C, Cs C → NoAttr K C "clock"
  n_sparse : ∀ C, Cs C → NoAttr K C "sparse"
  n_kept : ∀ C, Cs C → NoAttr K C "kept"
  n_words : ∀ C, Cs C → NoAttr K C "words"
  c_class : ∀ C, Cs C → PySem.W.findIn K (.ref C) "__class__" = some (some (.builtin "object.__class__"))
  c_get : PySem.W.specialIn K (.builtin "object.__class__") "__get__" = some (some (.builtin "getset_descriptor.__get__"))
  c_takes : PySem.W.takesIn K (.builtin "object.__class__") = some true
  c_obj : ∀ C, Cs C → PySem.W.mroIn K C (.type "object") = some true
  c_isB : ∀ C, Cs C → PySem.W.kitOne K (.ref C) (.ref C_Bag) = some true
  c_base : Cs C_Bag
  c_pl : ∀ C, Cs C → ∀ t ∈ (["NoneType", "bool", "int", "str", "list", "tuple", "dict"] : List String), PySem.W.notFirst K C (.type t) = true
  c_two : ∀ C D, Cs C → Cs D → PySem.W.notFirst K C (.ref D) = true ∨ (D ≠ C ∧ PySem.W.subIn K (.ref D) (.ref C) = some true)
  c_nb : ∀ t ∈ (["NoneType", "bool", "int", "str", "list", "tuple", "dict"] : List String), PySem.W.kitOne K (.type t) (.ref C_Bag) = some false
section
variable {P : Program} {w : World} {K : PySem.W.Frag} {mg : Str → Option Value} {base : Heap} {C_Bag : Addr} {Cs : Addr → Prop}
theorem g_isi {x : V} {n : String} {t : Value} {b : Bool} {H : Hp} {Q : VK} (ht : TyX K H x t) (hk : PySem.W.kitOne K t (.type n) = some b) (h : Q (.bl b) H) : rIsi K [x, .ty n] H Q := ⟨x, .ty n, t, _, b, rfl, .ty n, ht, hk, h⟩
theorem g_isC {x : V} {C : Addr} {t : Value} {b : Bool} {H : Hp} {Q : VK} (ht : TyX K H x t) (hk : PySem.W.kitOne K t (.ref C) = some b) (h : Q (.bl b) H) : rIsi K [x, .ref C] H Q := ⟨x, .ref C, t, _, b, rfl, .own C, ht, hk, h⟩
/-- the type of a bag -/
theorem bag_ty (T : Txt K mg C_Bag Cs) {H : Hp} {a C dx : Addr} {fs : List (Str × V)} (hc : Cs C) (h : H a = some (.ins C dx fs)) : TyX K H (.ref a) (.ref C) :=
  .base (.ins h (T.cls C hc) (T.c_class C hc) T.c_get T.c_takes (T.c_obj C hc))
/-! ### what things are -/
/-- an integer, or no integer -/
def IntIs (K : PySem.W.Frag) (H : Hp) (x : V) (b : Bool) : Prop := (∃ i, x = .int i ∧ b = true) ∨ (∃ c, x = .bl c ∧ b = false) ∨ (∃ t, TyX K H x t ∧ PySem.W.kitOne K t (.type "int") = some false ∧ b = false)
def WithinIs (K : PySem.W.Frag) (H : Hp) (x : V) (lo hi : Int) (b : Bool) : Prop := (∃ i, x = .int i ∧ b = (decide (lo ≤ i) && decide (i ≤ hi))) ∨ (IntIs K H x false ∧ b = false)
def ClockIs (K : PySem.W.Frag) (H : Hp) (x : V) (b : Bool) : Prop := (∃ i, x = .int i ∧ b = decide (i = 2 ∨ i = 3 ∨ i = 5 ∨ i = 7)) ∨ (IntIs K H x false ∧ b = false)
def isW (w : Str) : Bool := w.cps.toList.all fun c => decide (c ∈ ("xyz" : Str).cps.toList)
def WordIs (K : PySem.W.Frag) (H : Hp) (x : V) (b : Bool) : Prop := (∃ w : Str, x = .str w ∧ w.length ≤ 10000000 ∧ b = isW w) ∨ (∃ t, TyX K H x t ∧ PySem.W.kitOne K t (.type "str") = some false ∧ b = false)
def isSW (w : Str) : Bool := isW w && decide (w.length ≤ 12)
def ShortIs (K : PySem.W.Frag) (H : Hp) (x : V) (b : Bool) : Prop := (∃ w : Str, x = .str w ∧ w.length ≤ 10000000 ∧ b = isSW w) ∨ (∃ t, TyX K H x t ∧ PySem.W.kitOne K t (.type "str") = some false ∧ b = false)
def sp_is_integer (K : PySem.W.Frag) : Sp := fun vs H Q _ => ∃ x b, vs = [x] ∧ IntIs K H x b ∧ Q (.bl b) H
def sp_is_within (K : PySem.W.Frag) : Sp := fun vs H Q _ => ∃ x lo hi b, vs = [x, .int lo, .int hi] ∧ WithinIs K H x lo hi b ∧ Q (.bl b) H
def sp_is_clock (K : PySem.W.Frag) : Sp := fun vs H Q _ => ∃ x b, vs = [x] ∧ ClockIs K H x b ∧ Q (.bl b) H
def sp_is_word (K : PySem.W.Frag) : Sp := fun vs H Q _ => ∃ x b, vs = [x] ∧ WordIs K H x b ∧ ∀ H', Ex H H' → Q (.bl b) H'
def sp_is_short_word (K : PySem.W.Frag) : Sp := fun vs H Q _ => ∃ x b, vs = [x] ∧ ShortIs K H x b ∧ ∀ H', Ex H H' → Q (.bl b) H'
/-! ### checks -/
theorem ok_is_integer {f : Addr} {fd : FuncData} (F : Fun K "is_integer" "is_integer" s_is_integer f fd) (T : Txt K mg C_Bag Cs) : FnOk P w K mg base CX0 1 f fd ["thing"] (sp_is_integer K) := by
  refine F.ok sc_is_integer (fun vs H Q E h => ?_) (fun cdv A outer s H vs Q E hr h => ?_)
  · obtain ⟨x, b, rfl, _⟩ := h
    rfl
  · obtain ⟨x, b, rfl, hi, k⟩ := h
    have hu := hu_of hr; have hu64 := L2.Room.units hr; refine ⟨_, (pss_one (ps_ret (pe_and (pe_callB (r := rIsi K) call_isi (by rfl) T.b_isinstance (by decide +kernel) (pa_cons (pv 0) (pa_cons (pe_bltn (v := .ty "int") rfl T.b_int (by decide +kernel) rfl) pa_nil))) (pe_one (pe_not (pe_callB (r := rIsi K) call_isi (by rfl) T.b_isinstance (by decide +kernel) (pa_cons (pv 0) (pa_cons (pe_bltn (v := .ty "bool") rfl T.b_bool (by decide +kernel) rfl) pa_nil)))))))), ?_⟩; rw [st_is_integer]; (try dsimp only [cxOf]); walk_at "go"
    rcases hi with ⟨i, rfl, rfl⟩ | ⟨c, rfl, rfl⟩ | ⟨t, ht, hk, rfl⟩
    · refine g_isi (n := "int") (t := .type "int") (b := true) (.base (.int i)) (kit_ty (by decide +kernel)) ?_
      walk_at "go"
      refine g_isi (n := "bool") (t := .type "int") (b := false) (.base (.int i)) (kit_ty (by decide +kernel)) ?_
      walk_at "go"
      exact k
    · refine g_isi (n := "int") (t := .type "bool") (b := true) (.base (.bl c)) (kit_ty (by decide +kernel)) ?_
      walk_at "go"
      refine g_isi (n := "bool") (t := .type "bool") (b := true) (.base (.bl c)) (kit_ty (by decide +kernel)) ?_
      walk_at "go"
      exact k
    · refine g_isi (b := false) ht hk ?_
      walk_at "go"
      exact k
theorem ok_is_within {f : Addr} {fd : FuncData} (F : Fun K "is_within" "is_within" s_is_within f fd) (T : Txt K mg C_Bag Cs) (D_is_integer : DefOk P w K mg base CX0 1 "is_integer" ["thing"] (sp_is_integer K)) : FnOk P w K mg base CX0 2 f fd ["thing", "least", "most"] (sp_is_within K) := by
  refine F.ok sc_is_within (fun vs H Q E h => ?_) (fun cdv A outer s H vs Q E hr h => ?_)
  · obtain ⟨x, lo, hi, b, rfl, _⟩ := h
    rfl
  · obtain ⟨x, lo, hi, b, rfl, hi', k⟩ := h
    have hu := hu_of hr; have hu64 := L2.Room.units hr; refine ⟨_, (pss_one (ps_ret (pe_and (pe_callD D_is_integer (hr.mono (by decide)) rfl pass0 (pa_cons (pv 0) pa_nil)) (pe_one (pe_chain op_le op_le (pv 1) (pv 0) (pv 2)))))), ?_⟩; rw [st_is_within]; (try dsimp only [cxOf]); walk_at "go"
    rcases hi' with ⟨i, rfl, rfl⟩ | ⟨hi', rfl⟩
    · refine ⟨_, true, rfl, .inl ⟨i, rfl, rfl⟩, ?_⟩
      walk_at "go"
      by_cases h1 : lo ≤ i
      · rw [decide_eq_true h1] at k ⊢
        walk_at "go"
        exact k
      · rw [decide_eq_false h1] at k ⊢
        walk_at "go"
        exact k
    · refine ⟨_, false, rfl, hi', ?_⟩
      walk_at "go"
      exact k
theorem inV_clocks (i : Int) : inV (.int i) [.int 2, .int 3, .int 5, .int 7] = decide (i = 2 ∨ i = 3 ∨ i = 5 ∨ i = 7) := by
  rw [Bool.eq_iff_iff]
  simp [inV, eqV]
  omega
theorem ok_is_clock {f : Addr} {fd : FuncData} (F : Fun K "is_clock" "is_clock" s_is_clock f fd) (T : Txt K mg C_Bag Cs) (D_is_integer : DefOk P w K mg base CX0 1 "is_integer" ["thing"] (sp_is_integer K)) : FnOk P w K mg base CX0 2 f fd ["thing"] (sp_is_clock K) := by
  refine F.ok sc_is_clock (fun vs H Q E h => ?_) (fun cdv A outer s H vs Q E hr h => ?_)
  · obtain ⟨x, b, rfl, _⟩ := h
    rfl
  · obtain ⟨x, b, rfl, hi', k⟩ := h
    obtain ⟨a_CLOCKS, T_CLOCKS, hC⟩ := T.g_CLOCKS
    have hu := hu_of hr; have hu64 := L2.Room.units hr; refine ⟨_, (pss_one (ps_ret (pe_and (pe_callD D_is_integer (hr.mono (by decide)) rfl pass0 (pa_cons (pv 0) pa_nil)) (pe_one (pe_cmpR op_in_seq (pv 0) (pe_glob (v := .ref a_CLOCKS) rfl T_CLOCKS rfl) (by rfl)))))), ?_⟩; rw [st_is_clock]; (try dsimp only [cxOf]); walk_at "go"
    rcases hi' with ⟨i, rfl, rfl⟩ | ⟨hi', rfl⟩
    · refine ⟨_, true, rfl, .inl ⟨i, rfl, rfl⟩, ?_⟩
      walk_at "go"
      have hC' : SqT K H a_CLOCKS [.int 2, .int 3, .int 5, .int 7] := hC.elim (fun h => h.elim (fun h => nomatch h) fun ⟨_, h⟩ => nomatch h) .inr
      refine ⟨a_CLOCKS, _, rfl, .inr hC', rfl, rfl, ?_⟩
      rw [if_neg Bool.false_ne_true, inV_clocks]
      exact k
    · refine ⟨_, false, rfl, hi', ?_⟩
      walk_at "go"
      exact k
theorem ok_is_word {f : Addr} {fd : FuncData} (F : Fun K "is_word" "is_word" s_is_word f fd) (T : Txt K mg C_Bag Cs) : FnOk P w K mg base CX0 1 f fd ["thing"] (sp_is_word K) := by
  refine F.ok sc_is_word (fun vs H Q E h => ?_) (fun cdv A outer s H vs Q E hr h => ?_)
  · obtain ⟨x, b, rfl, _⟩ := h
    rfl
  · obtain ⟨x, b, rfl, hi', k⟩ := h
    obtain ⟨tL, T_LETTERS⟩ := T.g_LETTERS
    have hu := hu_of hr; have hu64 := L2.Room.units hr; refine ⟨_, (pss_one (ps_ret (pe_and (pe_callB (r := rIsi K) call_isi (by rfl) T.b_isinstance (by decide +kernel) (pa_cons (pv 0) (pa_cons (pe_bltn (v := .ty "str") rfl T.b_str (by decide +kernel) rfl) pa_nil))) (pe_one (pe_callB (r := rAll K) (cr_all rfl) (by rfl) T.b_all (by decide +kernel) (pa_cons (pe_lc (own := [("letter", 1)]) (g := (gName 1)) (tt := tYes) rfl sc_is_word.nd (pi_str (pv 0)) (blkOk_by (N := N_is_word) (sc := defScope s_is_word) (by decide +kernel)) (fun _ _ _ _ _ => (pg_name (i := 1) sc_is_word.nd rfl (by first | exact Or.inl rfl | exact Or.inr rfl))) (fun _ _ _ _ _ => pts_nil) (fun _ _ _ _ _ => (pe_cmpR op_in_sign (pv 1) (pe_glob (v := .str "xyz") rfl T_LETTERS ⟨_, rfl⟩) (by rfl)))) pa_nil)))))), ?_⟩; rw [st_is_word]; (try dsimp only [cxOf]); walk_at "go"
    rcases hi' with ⟨z, rfl, hz, rfl⟩ | ⟨t, ht, hk, rfl⟩
    · refine g_isi (n := "str") (t := .type "str") (b := true) (.base (.str z)) (kit_ty (by decide +kernel)) ?_
      walk_at "go"
      have hsz : z.cps.size ≤ sizeLine := Nat.le_trans hz (by decide)
      refine lc_pure (j := 1) walk_str (z.cps.toList.map fun c => V.bl (decide (c ∈ ("xyz" : Str).cps.toList))) (by simp) hsz (fun _ _ => trivial) (fun _ => rfl) ?_ ?_
      · rintro i x y H1 H2 Kc hi e ⟨rfl, c, hc, rfl⟩ hy hk
        walk_at "go"
        have hy' : y = V.bl (decide (c ∈ ("xyz" : Str).cps.toList)) := by
          rw [List.getElem?_map, Array.getElem?_toList, hc] at hy
          exact (Option.some.inj hy).symm
        subst hy'
        exact ⟨c, _, rfl, rfl, hk _ (Ex.refl _)⟩
      · intro D H' hD e hl
        walk_at "go"
        refine ⟨D, z.cps.toList.map fun c => decide (c ∈ ("xyz" : Str).cps.toList), rfl, SqL.of (by rw [List.map_map]; exact hl), ?_⟩
        have e2 : ((z.cps.toList.map fun c => decide (c ∈ ("xyz" : Str).cps.toList)).all id) = isW z := by
          unfold isW
          rw [List.all_map]
          rfl
        rw [e2]
        exact k _ e
    · refine g_isi (b := false) ht hk ?_
      walk_at "go"
      exact k _ (Ex.refl _)
theorem ok_is_short_word {f : Addr} {fd : FuncData} (F : Fun K "is_short_word" "is_short_word" s_is_short_word f fd) (T : Txt K mg C_Bag Cs) (D_is_word : DefOk P w K mg base CX0 1 "is_word" ["thing"] (sp_is_word K)) : FnOk P w K mg base CX0 2 f fd ["thing"] (sp_is_short_word K) := by
  refine F.ok sc_is_short_word (fun vs H Q E h => ?_) (fun cdv A outer s H vs Q E hr h => ?_)
  · obtain ⟨x, b, rfl, _⟩ := h
    rfl
  · obtain ⟨x, b, rfl, hi', k⟩ := h
    obtain ⟨tL, T_MOST_LETTERS⟩ := T.g_MOST_LETTERS
    have hu := hu_of hr; have hu64 := L2.Room.units hr; refine ⟨_, (pss_one (ps_ret (pe_and (pe_callD D_is_word (hr.mono (by decide)) rfl pass0 (pa_cons (pv 0) pa_nil)) (pe_one (pe_cmpR op_le (pe_callB call_len_str (by rfl) T.b_len (by decide +kernel) (pa_cons (pv 0) pa_nil)) (pe_glob (v := .int 12) rfl T_MOST_LETTERS ⟨_, rfl⟩) (nomark _)))))), ?_⟩; rw [st_is_short_word]; (try dsimp only [cxOf]); walk_at "go"
    rcases hi' with ⟨z, rfl, hz, rfl⟩ | ⟨t, ht, hk, rfl⟩
    · refine ⟨_, _, rfl, .inl ⟨z, rfl, hz, rfl⟩, fun H' e => ?_⟩
      walk_at "go"
      have k' := k H' e
      unfold isSW at k'
      cases hb : isW z
      · rw [hb] at k'
        walk_at "go"
        exact k'
      · rw [hb] at k'
        walk_at "go"
        refine ⟨z, rfl, Nat.le_trans hz (by decide), ?_⟩
        walk_at "go"
        have e3 : decide ((z.length : Int) ≤ 12) = decide (z.length ≤ 12) := by
          rw [Bool.eq_iff_iff]; simp; omega
        rw [e3]
        exact k'
    · refine ⟨_, _, rfl, .inr ⟨t, ht, hk, rfl⟩, fun H' e => ?_⟩
      walk_at "go"
      exact k _ e
end

end Fp

namespace Fp
open PySem L2
section
variable {P : Program} {w : World} {K : PySem.W.Frag} {mg : Str → Option Value} {base : Heap} {C_Bag : Addr} {Cs : Addr → Prop}
local macro_rules | `(tactic| walk_at "hp") => `(tactic| first | assumption | rfl)
local macro_rules | `(tactic| walk_at "cond") => `(tactic| first | assumption | decide | omega | (unfold CMul; omega) | (refine ⟨?_, ?_⟩ <;> omega) | (unfold CDiv; omega) | (unfold CPow; omega))
local macro_rules | `(tactic| walk_at "g1") => `(tactic| first
  | with_reducible first
    | refine g_seq ?_ | refine g_asg ?_ | refine g_name ?_ | refine g_ret ?_ | refine g_retN ?_ | refine g_drop ?_ | refine g_ifs ?_
    | refine g_c ?_ | refine g_op ?_ | refine g_un ?_ | refine g_I0 ?_ | refine g_U ?_
    | refine g_test ?_ | refine g_tB ?_ | refine g_bl ?_ | refine g_and ?_ | refine g_or ?_ | refine g_not ?_
    | refine g_andV ?_ | refine g_orV ?_ | refine g_notV ?_ | refine g_if ?_ | refine g_nil ?_ | refine g_cons ?_ | refine g_cb ?_ | refine g_call ?_
    | refine g_lst ?_ | refine g_tup ?_ | refine g_itT ?_ | refine g_itF ?_ | refine g_itNT ?_ | refine g_itNF ?_ | refine g_lc ?_ | refine g_iStr ?_ | refine g_yes ?_ | refine g_exs ?_
    | refine g_chain ?_ | refine g_dget ?_ | refine g_dput ?_ | refine g_dget2 ?_ | refine g_dpop2 ?_ | refine g_fld ?_ | refine g_sfld ?_ | refine g_make ?_ | refine g_meth ?_
    | refine g_bm ?_ | refine g_kw ?_ | refine g_callS ?_ | refine g_revL ?_ | refine g_m1 ?_ | refine g_gsub ?_ | refine g_for ?_ | refine g_iList ?_ | refine g_iTup ?_ | refine g_iRng1 ?_ | refine g_iRng2 ?_ | refine g_sl ?_ | refine g_part ?_ | refine g_noPart ?_
    | refine g_exi ?_ | refine g_exr ?_ | refine g_dnew ?_ | refine g_disp ?_ | refine g_prs0 ?_ | refine g_prs ?_ | refine g_nxt ?_
  | ((with_reducible refine g_var (v := ?vv) ?gv ?_); (case gv => exact rfl))
  | ((with_reducible refine g_I ?gc ?_); (case gc => walk_at "cond"))
  | ((with_reducible refine g_eq ?ge ?_); (case ge => exact rfl))
  | ((with_reducible refine g_ne ?ge ?_); (case ge => exact rfl))
  | (refine g_ixl (SqL.of (by first | assumption | exact upd_same)) rfl ?_)
  | (refine g_setl (by first | assumption | exact upd_same) rfl ?_)
  | ((with_reducible show (∃ i, [V.int _] = [V.int i] ∧ _) ∨ _); refine Or.inl ⟨_, rfl, ?_⟩)
  | ((with_reducible show ∃ i, [V.int _] = [V.int i] ∧ _); refine ⟨_, rfl, ?_⟩)
  | dsimp only)
local macro_rules | `(tactic| walk_at "go") => `(tactic| repeat (walk_at "g1"))

/-! ### the law's hand -/
structure HandAt (H : Hp) (h c : Addr) : Prop where
  ex : ∃ (i b m n : Int), H h = some (.lst [.ref c, .int i, .int b, .int m, .int n]) ∧ 0 ≤ i
  cs : ∃ cs : List Int, H c = some (.lst (cs.map V.int))
  ne : c ≠ h
theorem HandAt.ex' {H H' : Hp} {h c : Addr} (e : Ex H H') (x : HandAt H h c) : HandAt H' h c := by
  obtain ⟨⟨i, b, m, n, h1, h2⟩, ⟨cs, h3⟩, h4⟩ := x
  exact ⟨⟨i, b, m, n, e _ _ h1, h2⟩, ⟨cs, e _ _ h3⟩, h4⟩
theorem HandAt.kind {H : Hp} {h c : Addr} (x : HandAt H h c) : ∃ xs, H h = some (.lst xs) := by
  obtain ⟨⟨i, b, m, n, h1, h2⟩, _⟩ := x
  exact ⟨_, h1⟩
theorem HandAt.upd {H : Hp} {h c d : Addr} {o : HO} (x : HandAt H h c) (hd : d ≠ h) (hc : d ≠ c) : HandAt (upd H d o) h c := by
  obtain ⟨⟨i, b, m, n, h1, h2⟩, ⟨cs, h3⟩, h4⟩ := x
  exact ⟨⟨i, b, m, n, by rw [upd_ne (Ne.symm hd)]; exact h1, h2⟩, ⟨cs, by rw [upd_ne (Ne.symm hc)]; exact h3⟩, h4⟩
/-- but f's object all stands, and f is neither of the hand's -/
theorem HandAt.exb {H H' : Hp} {h c f : Addr} (e : ExB f H H') (x : HandAt H h c) (hf : f ≠ h) (hc : f ≠ c) : HandAt H' h c := by
  obtain ⟨⟨i, b, m, n, h1, h2⟩, ⟨cs, h3⟩, h4⟩ := x
  exact ⟨⟨i, b, m, n, e _ _ (Ne.symm hf) h1, h2⟩, ⟨cs, e _ _ (Ne.symm hc) h3⟩, h4⟩
theorem HandAt.new {H : Hp} {h c p : Addr} (x : HandAt H h c) (hp : H p = none) : p ≠ h ∧ p ≠ c := by
  obtain ⟨⟨i, b, m, n, h1, h2⟩, ⟨cs, h3⟩, h4⟩ := x
  exact ⟨Ne.symm (ne_of_none h1 hp), Ne.symm (ne_of_none h3 hp)⟩
def sp_law_hand (K : PySem.W.Frag) : Sp := fun vs H Q _ => ∃ (a : Addr) (ns : List Int), vs = [.ref a] ∧ SqL K H a (ns.map V.int) ∧ ∀ h c H', Ex H H' → H h = none → HandAt H' h c → Q (.ref h) H'
def sp_law_draw : Sp := fun vs H Q _ => ∃ (h c : Addr) (m : Int), vs = [.ref h, .int m] ∧ HandAt H h c ∧ 0 < m ∧ m ≤ 1000000 ∧ ∀ v H', 0 ≤ v → v < m → ExB h H H' → HandAt H' h c → Q (.int v) H'
theorem cutV_int (ns : List Int) (lo hi : Option Int) : ∃ ms : List Int, cutV (ns.map V.int) lo hi = ms.map V.int := by
  unfold cutV
  exact ⟨(ns.drop _).take _, by rw [List.map_take, List.map_drop]⟩
theorem ok_law_hand {f : Addr} {fd : FuncData} (F : Fun K "_law_hand" "_law_hand" s_law_hand f fd) (T : Txt K mg C_Bag Cs) : FnOk P w K mg base CX0 1 f fd ["_law_script"] (sp_law_hand K) := by
  refine F.ok sc_law_hand (fun vs H Q E h => ?_) (fun cdv A outer s H vs Q E hr h => ?_)
  · obtain ⟨a, ns, rfl, _⟩ := h
    rfl
  · obtain ⟨a, ns, rfl, hs, k⟩ := h
    have hu := hu_of hr; have hu64 := L2.Room.units hr; refine ⟨_, (pss_cons (ps_setLc (i := 1) (own := [("_law_cell", 2)]) (g := (gName 2)) (tt := tYes) rfl sc_law_hand.nd rfl rfl rfl (pi_list (pe_slice sl_list (pv 0) po_none (po_some pe_int))) (blkOk_by (N := N_law_hand) (sc := defScope s_law_hand) (by decide +kernel)) (fun _ _ _ _ _ => (pg_name (i := 2) sc_law_hand.nd rfl (by first | exact Or.inl rfl | exact Or.inr rfl))) (fun _ _ _ _ _ => pts_nil) (fun _ _ _ _ _ => (pe_callB call_abs (by rfl) T.b_abs (by decide +kernel) (pa_cons (pe_callTy call_int1 (by rfl) T.b_int (by decide +kernel) (pa_cons (pv 2) pa_nil)) pa_nil)))) (pss_one (ps_ret (pe_lst (pa_cons (pv 1) (pa_cons pe_int (pa_cons pe_int (pa_cons (pe_op op_add pe_int (pe_callB call_len_seq (by rfl) T.b_len (by decide +kernel) (pa_cons (pv 1) pa_nil))) (pa_cons pe_int pa_nil))))))))), ?_⟩; rw [st_law_hand]; (try dsimp only [cxOf]); walk_at "go"
    obtain ⟨ms, hms⟩ := cutV_int ns none (some 63)
    refine ⟨_, _, rfl, hs, fun p hp => ?_⟩
    rw [hms]
    walk_at "go"
    refine ⟨⟨_, SqL.of upd_same⟩, ?_⟩
    have e0 : Ex H (upd H p (.lst (ms.map V.int))) := Ex.new hp
    have hz : ms.length ≤ 63 := by
      have : (cutV (ns.map V.int) none (some 63)).length = ms.length := by rw [hms, List.length_map]
      rw [← this]
      unfold cutV
      rw [List.length_take]
      have : HT.sIx (ns.map V.int).length (ns.map V.int).length (some 63) ≤ 63 := by
        unfold HT.sIx
        simp
        omega
      omega
    refine lc_pure (j := 2) walk_list (ms.map fun i => V.int (if i < 0 then -i else i)) (by simp) (by rw [List.length_map]; exact Nat.le_trans hz (by decide)) (fun H' e => SqL.of (e _ _ upd_same)) (fun _ => rfl) ?_ ?_
    · rintro i x y H1 H2 Kc hi e ⟨rfl, hx⟩ hy hk
      rw [List.getElem?_map] at hx hy
      cases hm : ms[i]? with
      | none => rw [hm] at hx; cases hx
      | some z =>
        rw [hm] at hx hy
        obtain rfl := (Option.some.inj hx).symm
        obtain rfl := (Option.some.inj hy).symm
        walk_at "go"
        exact hk _ (Ex.refl _)
    · intro D H' hD e hl
      walk_at "go"
      have hl' : H' D = some (.lst ((ms.map fun i => if i < 0 then -i else i).map V.int)) := by rw [hl, List.map_map]; rfl
      refine ⟨_, _, rfl, .inl (SqL.of hl), ?_⟩
      walk_at "go"
      refine ⟨Nat.le_of_ble_eq_true rfl, fun q hq => ?_⟩
      have hn : D ≠ q := ne_of_none hl' hq
      exact k _ _ _ ((e0.trans e).trans (Ex.new hq)) ((e0.trans e).free hq) ⟨⟨0, 0, _, 0, upd_same, Int.le_refl _⟩, ⟨_, by rw [upd_ne hn]; exact hl'⟩, hn⟩
theorem ok_law_draw {f : Addr} {fd : FuncData} (F : Fun K "_law_draw" "_law_draw" s_law_draw f fd) (T : Txt K mg C_Bag Cs) : FnOk P w K mg base CX0 1 f fd ["_law_hand_here", "_law_many"] sp_law_draw := by
  refine F.ok sc_law_draw (fun vs H Q E h => ?_) (fun cdv A outer s H vs Q E hr h => ?_)
  · obtain ⟨a, c, m, rfl, _⟩ := h
    rfl
  · obtain ⟨h, c, m, rfl, hh, hm0, hm1, k⟩ := h
    obtain ⟨⟨i, b, mm, n, h1, h4⟩, ⟨cs, h2⟩, h3⟩ := hh
    have hu := hu_of hr; have hu64 := L2.Room.units hr; refine ⟨_, (pss_cons (ps_if (PW.pt (pw_and (pt_cmpR op_eq (pe_ix (r := rIxL K) ix_list (pv 0) pe_int (fun _ _ => rfl)) pe_int (nomark _)) (pw_and1 (pt_cmpR op_lt (pe_ix (r := rIxL K) ix_list (pv 0) pe_int (fun _ _ => rfl)) (pe_callB call_len_seq (by rfl) T.b_len (by decide +kernel) (pa_cons (pe_ix (r := rIxL K) ix_list (pv 0) pe_int (fun _ _ => rfl)) pa_nil)) (nomark _))))) (pss_cons (ps_set (i := 2) sc_law_draw.nd rfl (by first | exact Or.inl rfl | exact Or.inr rfl) (pe_ix (r := rIxL K) ix_list (pe_ix (r := rIxL K) ix_list (pv 0) pe_int (fun _ _ => rfl)) (pe_ix (r := rIxL K) ix_list (pv 0) pe_int (fun _ _ => rfl)) (fun _ _ => rfl))) (pss_cons (ps_asg (pe_op op_add (pe_ix (r := rIxL K) ix_list (pv 0) pe_int (fun _ _ => rfl)) pe_int) (pg_sub (pv 0) pe_int set_list)) (pss_cons (ps_asg (pe_op op_mod (pe_callTy call_int1 (by rfl) T.b_int (by decide +kernel) (pa_cons (pe_op op_add (pe_op op_add (pe_op op_mul (pe_ix (r := rIxL K) ix_list (pv 0) pe_int (fun _ _ => rfl)) pe_int) (pv 2)) pe_int) pa_nil)) pe_int) (pg_sub (pv 0) pe_int set_list)) (pss_one (ps_if (pt_cmpR op_ge (pv 2) (pe_op op_pow pe_int pe_int) (nomark _)) (pss_one (ps_asg (pv 2) (pg_sub (pv 0) pe_int set_list))) pss_nil))))) pss_nil) (pss_cons (ps_if (pt_cmpR op_gt (pe_ix (r := rIxL K) ix_list (pv 0) pe_int (fun _ _ => rfl)) pe_int (nomark _)) (pss_cons (ps_set (i := 3) sc_law_draw.nd rfl (by first | exact Or.inl rfl | exact Or.inr rfl) (pe_op op_mod (pe_callTy call_int1 (by rfl) T.b_int (by decide +kernel) (pa_cons (pe_ix (r := rIxL K) ix_list (pv 0) pe_int (fun _ _ => rfl)) pa_nil)) (pv 1))) (pss_cons (ps_asg (pe_op op_fdiv (pe_ix (r := rIxL K) ix_list (pv 0) pe_int (fun _ _ => rfl)) (pv 1)) (pg_sub (pv 0) pe_int set_list)) (pss_one (ps_ret (pv 3))))) pss_nil) (pss_cons (ps_asg (pe_op op_add (pe_ix (r := rIxL K) ix_list (pv 0) pe_int (fun _ _ => rfl)) pe_int) (pg_sub (pv 0) pe_int set_list)) (pss_cons (ps_set (i := 4) sc_law_draw.nd rfl (by first | exact Or.inl rfl | exact Or.inr rfl) (pe_op op_mod (pe_callTy call_int1 (by rfl) T.b_int (by decide +kernel) (pa_cons (pe_op op_mul (pe_callTy call_int1 (by rfl) T.b_int (by decide +kernel) (pa_cons (pe_op op_add (pe_ix (r := rIxL K) ix_list (pv 0) pe_int (fun _ _ => rfl)) (pe_op op_mul pe_int (pe_ix (r := rIxL K) ix_list (pv 0) pe_int (fun _ _ => rfl)))) pa_nil)) pe_int) pa_nil)) pe_int)) (pss_cons (ps_set (i := 4) sc_law_draw.nd rfl (by first | exact Or.inl rfl | exact Or.inr rfl) (pe_op op_mod (pe_callTy call_int1 (by rfl) T.b_int (by decide +kernel) (pa_cons (pe_op op_mul (pv 4) (pe_op op_add (pe_op op_fdiv (pv 4) pe_int) pe_int)) pa_nil)) pe_int)) (pss_cons (ps_set (i := 4) sc_law_draw.nd rfl (by first | exact Or.inl rfl | exact Or.inr rfl) (pe_op op_mod (pe_callTy call_int1 (by rfl) T.b_int (by decide +kernel) (pa_cons (pe_op op_mul (pv 4) (pe_op op_add (pe_op op_fdiv (pv 4) pe_int) pe_int)) pa_nil)) pe_int)) (pss_one (ps_ret (pe_op op_mod (pe_callTy call_int1 (by rfl) T.b_int (by decide +kernel) (pa_cons (pe_op op_fdiv (pv 4) pe_int) pa_nil)) (pv 1)))))))))), ?_⟩; rw [st_law_draw]; (try dsimp only [cxOf])
    refine g_cut (R := fun σ' H' => ∃ x i b mm n, σ' = [some (.ref h), some (.int m), x, none, none] ∧ H' h = some (.lst [.ref c, .int i, .int b, .int mm, .int n]) ∧ H' c = some (.lst (cs.map V.int)) ∧ 0 ≤ i ∧ ExB h H H') (fun N hN => ?_) ?_
    · walk_at "go"
      have hsame : N [some (.ref h), some (.int m), none, none, none] H := hN _ _ ⟨none, i, b, mm, n, rfl, h1, h2, h4, ExB.refl _ _⟩
      by_cases hb : V.int b = V.int 0
      · rw [decide_eq_true hb]
        walk_at "go"
        refine ⟨c, cs.map V.int, rfl, .inl (SqL.of h2), ?_⟩
        walk_at "go"
        by_cases hi : i < ((cs.map V.int).length : Int)
        · rw [decide_eq_true hi]
          walk_at "go"
          have hi' : i.toNat < cs.length := by rw [List.length_map] at hi; omega
          refine g_ixl (SqL.of h2) (atI_get h4 (by rw [List.getElem?_map, List.getElem?_eq_getElem hi']; rfl)) ?_
          walk_at "go"
          have ew : ExB h H (upd (upd H h (HO.lst [V.ref c, V.int (i + 1), V.int b, V.int mm, V.int n])) h (.lst [V.ref c, V.int (i + 1), V.int b, V.int ((mm * 69621 + cs[i.toNat] + 11) % 2147483629), V.int n])) := ((ExB.refl h H).upd).upd
          refine g_ite (fun _ => ?_) fun _ => ?_
          · walk_at "go"
            refine hN _ _ ⟨some (.int cs[i.toNat]), i + 1, _, _, n, rfl, upd_same, ?_, by omega, ew.upd⟩
            rw [upd_ne h3, upd_ne h3, upd_ne h3]
            exact h2
          · walk_at "go"
            refine hN _ _ ⟨some (.int cs[i.toNat]), i + 1, b, _, n, rfl, upd_same, ?_, by omega, ew⟩
            rw [upd_ne h3, upd_ne h3]
            exact h2
        · rw [decide_eq_false hi]
          walk_at "go"
          exact hsame
      · rw [decide_eq_false hb]
        walk_at "go"
        exact hsame
    · rintro σ' H' ⟨x, i, b, mm, n, rfl, h1, h2, h4, e⟩
      walk_at "go"
      by_cases hb : 0 < b
      · rw [decide_eq_true hb]
        walk_at "go"
        exact k _ _ (Int.emod_nonneg _ (by omega)) (Int.emod_lt_of_pos _ hm0) e.upd ⟨⟨i, _, mm, n, upd_same, h4⟩, ⟨cs, by rw [upd_ne h3]; exact h2⟩, h3⟩
      · rw [decide_eq_false hb]
        walk_at "go"
        exact k _ _ (Int.emod_nonneg _ (by omega)) (Int.emod_lt_of_pos _ hm0) e.upd ⟨⟨i, b, mm, _, upd_same, h4⟩, ⟨cs, by rw [upd_ne h3]; exact h2⟩, h3⟩
/-! ### the law's sums and products -/
def sp_law_put : Sp := fun vs H Q _ => ∃ (p : Int) (d : Addr) (s : Bg) (z : Str) (n : Int), vs = [.int p, .ref d, .str z, .int n] ∧ H d = some (.dK (toK s)) ∧ s.length < 10000000 ∧ 0 < p ∧
  Q .non (upd H d (.dK (toK (addTo p s z n))))
theorem ok_law_put {f : Addr} {fd : FuncData} (F : Fun K "_law_put" "_law_put" s_law_put f fd) (T : Txt K mg C_Bag Cs) : FnOk P w K mg base CX0 1 f fd ["_law_clock_here", "_law_bag", "_law_word_here", "_law_number"] sp_law_put := by
  refine F.ok sc_law_put (fun vs H Q E h => ?_) (fun cdv A outer s H vs Q E hr h => ?_)
  · obtain ⟨p, d, s, z, n, rfl, _⟩ := h
    rfl
  · obtain ⟨p, d, s, z, n, rfl, hd, hl, hp, k⟩ := h
    have hu := hu_of hr; have hu64 := L2.Room.units hr; refine ⟨_, (pss_cons (ps_set (i := 4) sc_law_put.nd rfl (by first | exact Or.inl rfl | exact Or.inr rfl) (pe_op op_mod (pe_callTy call_int1 (by rfl) T.b_int (by decide +kernel) (pa_cons (pe_op op_add (pe_dget2 hu (pv 1) (pv 2) pe_int ⟨rfl, rfl, rfl, rfl⟩) (pv 3)) pa_nil)) (pv 0))) (pss_one (ps_if (pt_cmpR op_eq (pv 4) pe_int (nomark _)) (pss_one (ps_expr (pe_dpop2 (pv 1) (pv 2) pe_int ⟨rfl, rfl, rfl, rfl⟩))) (pss_one (ps_dput hu (pv 1) (pv 2) (pv 4) rfl))))), ?_⟩; rw [st_law_put]; (try dsimp only [cxOf]); walk_at "go"
    refine ⟨.inl ⟨_, .inl hd⟩, ?_⟩
    walk_at "go"
    refine ⟨_, .inl ⟨toK s, .inr z, .inl hd, rfl, rfl⟩, ?_⟩
    rw [getD_toK]
    walk_at "go"
    by_cases hz : (cf s z + n) % p = 0
    · rw [decide_eq_true (by rw [hz])]
      walk_at "go"
      refine ⟨.inl ⟨_, .inl hd⟩, ?_⟩
      walk_at "go"
      have hk : Q .non (upd H d (.dK (dropK (toK s) (Sum.inr z : Key)))) := by
        rw [dropK_toK]
        unfold addTo at k
        rw [if_pos hz] at k
        exact k
      refine ⟨toK s, .inr z, hd, rfl, fun v _ => hk, fun hn => ?_⟩
      have he : upd H d (.dK (dropK (toK s) (Sum.inr z : Key))) = H := by
        have e2 : dropK (toK s) (Sum.inr z : Key) = toK s := by
          rw [dropK_toK]
          unfold dropS
          rw [valV_toK] at hn
          have hn' : getS s z = none := by cases q : getS s z with | none => rfl | some x => rw [q] at hn; cases hn
          rw [List.filter_eq_self.mpr]
          intro kv hkv
          refine decide_eq_true fun e => getS_none.mp hn' ?_
          rw [← e]
          exact mem_keys.mpr ⟨kv.2, hkv⟩
        rw [e2]
        funext a
        by_cases ha : a = d
        · subst ha; rw [upd_same, hd]
        · rw [upd_ne ha]
      rw [he] at hk
      exact hk
    · rw [decide_eq_false (fun e => hz (V.int.inj e))]
      walk_at "go"
      refine g_dp hd (Nat.lt_trans hl (by decide)) ?_
      unfold addTo at k
      rw [if_neg hz] at k
      exact k
def sp_law_plus : Sp := fun vs H Q _ => ∃ (p : Int) (a b : Addr) (s t : Bg) (f : Int), vs = [.int p, .ref a, .ref b, .int f] ∧ Rd H a (.dK (toK s)) ∧ Rd H b (.dK (toK t)) ∧ (keys t).Nodup ∧ s.length + t.length < 10000000 ∧ 0 < p ∧ (-1000000 < f ∧ f < 1000000) ∧
  ∀ d H', Ex H H' → H d = none → H' d = some (.dK (toK (plusS p s t f))) → Q (.ref d) H'
theorem foldl_take {α β : Type} (g : β → α → β) (l : List α) (i : Nat) (a : α) (x : β) (h : l[i]? = some a) : (l.take (i + 1)).foldl g x = g ((l.take i).foldl g x) a := by
  rw [List.take_add_one, h, List.foldl_append]
  rfl
theorem ok_law_plus {f : Addr} {fd : FuncData} (F : Fun K "_law_plus" "_law_plus" s_law_plus f fd) (T : Txt K mg C_Bag Cs) (D_law_put : DefOk P w K mg base CX0 1 "_law_put" ["_law_clock_here", "_law_bag", "_law_word_here", "_law_number"] sp_law_put) : FnOk P w K mg base CX0 2 f fd ["_law_clock_here", "_law_one", "_law_other", "_law_factor"] sp_law_plus := by
  refine F.ok sc_law_plus (fun vs H Q E h => ?_) (fun cdv A outer s H vs Q E hr h => ?_)
  · obtain ⟨p, a, b, s, t, f, rfl, _⟩ := h
    rfl
  · obtain ⟨p, a, b, s, t, f, rfl, ha, hb, hn, hl, hp, hf, k⟩ := h
    have hu := hu_of hr; have hu64 := L2.Room.units hr; refine ⟨_, (pss_cons (ps_set (i := 4) sc_law_plus.nd rfl (by first | exact Or.inl rfl | exact Or.inr rfl) (pe_callTy call_dictD (by rfl) T.b_dict (by decide +kernel) (pa_cons (pv 1) pa_nil))) (pss_cons (ps_lockR (ps_for PassesOwn.never rfl (pi_keys (pv 2)) (pg_name (i := 5) sc_law_plus.nd rfl (by first | exact Or.inl rfl | exact Or.inr rfl)) (pss_one (ps_expr (pe_callD D_law_put (hr.mono (by decide)) rfl pass0 (pa_cons (pv 0) (pa_cons (pv 4) (pa_cons (pv 5) (pa_cons (pe_op op_mul (pv 3) (pe_dget hu (pv 2) (pv 5) (fun _ _ => rfl))) pa_nil))))))))) (pss_one (ps_ret (pv 4))))), ?_⟩; rw [st_law_plus]; (try dsimp only [cxOf]); walk_at "go"
    refine ⟨a, toK s, rfl, ha, fun d hd => ?_⟩
    walk_at "go"
    have hbd : b ≠ d := fun e => by subst e; rcases hb with h | ⟨o, h⟩ <;> rw [hd] at h <;> cases h
    have hb' : Rd (upd H d (.dK (toK s))) b (.dK (toK t)) := (Ex.new hd).rd hb
    refine for_keys hb' upd_same hbd (fun H' Q' _ q => ⟨_, rfl, q⟩) (fun i σ' o => (∃ x, σ' = [some (.int p), some (.ref a), some (.ref b), some (.int f), some (.ref d), x]) ∧ o = .dK (toK (plusS p s (t.take i) f))) ⟨⟨none, rfl⟩, rfl⟩ ?_ ?_
    · rintro i z n σ' H' o E hi ⟨⟨x, rfl⟩, rfl⟩ le hfo _ hE
      walk_at "go"
      refine g_dg le.self (getS_at hn hi) ?_
      walk_at "go"
      refine ⟨p, d, _, z, f * n, rfl, hfo, ?_, hp, ?_⟩
      · have h1 := len_plus (p := p) (s := s) (t := t.take i) f
        have h2 := List.length_take_le i t
        have h3 : (t.take i).length ≤ t.length := by rw [List.length_take]; omega
        omega
      · refine hE _ _ _ ⟨⟨_, rfl⟩, rfl⟩ ((ExB.refl d _).upd) ?_
        rw [upd_same]
        unfold plusS
        rw [foldl_take _ _ _ _ _ hi]
    · rintro σ' H' o ⟨⟨x, rfl⟩, rfl⟩ e ho
      walk_at "go"
      rw [List.take_length] at ho
      exact k d H' (fun a' o' h' => e a' o' (ne_of_none h' hd) (Ex.new hd a' o' h')) hd ho
def sp_law_product : Sp := fun vs H Q _ => ∃ (p : Int) (a b : Addr) (s t : Bg), vs = [.int p, .ref a, .ref b] ∧ Rd H a (.dK (toK s)) ∧ Rd H b (.dK (toK t)) ∧ (keys s).Nodup ∧ (keys t).Nodup ∧ s.length * t.length < 10000000 ∧ 0 < p ∧ Good 1000000 s ∧
  (∀ u ∈ keys s, u.length ≤ 5000000) ∧ (∀ u ∈ keys t, u.length ≤ 5000000) ∧ ∀ d H', Ex H H' → H d = none → H' d = some (.dK (toK (prodS p s t))) → Q (.ref d) H'
theorem ok_law_product {f : Addr} {fd : FuncData} (F : Fun K "_law_product" "_law_product" s_law_product f fd) (T : Txt K mg C_Bag Cs) (D_law_put : DefOk P w K mg base CX0 1 "_law_put" ["_law_clock_here", "_law_bag", "_law_word_here", "_law_number"] sp_law_put) : FnOk P w K mg base CX0 2 f fd ["_law_clock_here", "_law_one", "_law_other"] sp_law_product := by
  refine F.ok sc_law_product (fun vs H Q E h => ?_) (fun cdv A outer s H vs Q E hr h => ?_)
  · obtain ⟨p, a, b, s, t, rfl, _⟩ := h
    rfl
  · obtain ⟨p, a, b, s, t, rfl, ha, hb, hns, hnt, hl, hp, hg, hsl, htl, k⟩ := h
    have hu := hu_of hr; have hu64 := L2.Room.units hr; refine ⟨_, (pss_cons (ps_set (i := 3) sc_law_product.nd rfl (by first | exact Or.inl rfl | exact Or.inr rfl) pe_dnewK) (pss_cons (ps_lockR (ps_for PassesOwn.never rfl (pi_keys (pv 1)) (pg_name (i := 4) sc_law_product.nd rfl (by first | exact Or.inl rfl | exact Or.inr rfl)) (pss_one (ps_lockR (ps_for PassesOwn.never rfl (pi_keys (pv 2)) (pg_name (i := 5) sc_law_product.nd rfl (by first | exact Or.inl rfl | exact Or.inr rfl)) (pss_one (ps_expr (pe_callD D_law_put (hr.mono (by decide)) rfl pass0 (pa_cons (pv 0) (pa_cons (pv 3) (pa_cons (pe_op op_add_str (pv 4) (pv 5)) (pa_cons (pe_op op_mul (pe_dget hu (pv 1) (pv 4) (fun _ _ => rfl)) (pe_dget hu (pv 2) (pv 5) (fun _ _ => rfl))) pa_nil)))))))))))) (pss_one (ps_ret (pv 3))))), ?_⟩; rw [st_law_product]; (try dsimp only [cxOf]); walk_at "go"
    intro d hd
    walk_at "go"
    have had : a ≠ d := fun e => by subst e; rcases ha with h | ⟨o, h⟩ <;> rw [hd] at h <;> cases h
    have hbd : b ≠ d := fun e => by subst e; rcases hb with h | ⟨o, h⟩ <;> rw [hd] at h <;> cases h
    have ha' : Rd (upd H d (.dK (toK []))) a (.dK (toK s)) := (Ex.new hd).rd ha
    have hb' : Rd (upd H d (.dK (toK []))) b (.dK (toK t)) := (Ex.new hd).rd hb
    have hlen : ∀ i j, i < s.length → (prodS p (s.take i) t).length + (t.take j).length < 10000000 := fun i j hi => by
      have h1 := len_prod (p := p) (s := s.take i) (t := t)
      have h2 : (s.take i).length = i := by rw [List.length_take]; omega
      have h3 : (t.take j).length ≤ t.length := by rw [List.length_take]; omega
      rw [h2] at h1
      have h4 : (i + 1) * t.length ≤ s.length * t.length := Nat.mul_le_mul_right _ hi
      rw [Nat.succ_mul] at h4
      omega
    refine for_keys (o0 := .dK (toK [])) ha' upd_same had (fun H' Q' _ q => ⟨_, rfl, q⟩) (fun i σ' o => (∃ x y, σ' = [some (.int p), some (.ref a), some (.ref b), some (.ref d), x, y]) ∧ o = .dK (toK (prodS p (s.take i) t))) ⟨⟨none, none, rfl⟩, rfl⟩ ?_ ?_
    · rintro i z n σ' H' o E hi ⟨⟨x, y, rfl⟩, rfl⟩ le hfo _ hE
      have hil : i < s.length := by
        rcases Nat.lt_or_ge i s.length with h | h
        · exact h
        · rw [List.getElem?_eq_none h] at hi; cases hi
      have hb2 : Rd H' b (.dK (toK t)) := le.rd ha' hb' hbd
      refine for_keys hb2 hfo hbd (fun H' Q' _ q => ⟨_, rfl, q⟩) (fun j σ' o => (∃ y, σ' = [some (.int p), some (.ref a), some (.ref b), some (.ref d), some (.str z), y]) ∧ o = .dK (toK (prodRow p (prodS p (s.take i) t) (z, n) (t.take j)))) ⟨⟨y, rfl⟩, rfl⟩ ?_ ?_
      · rintro j u m σ' H2 o E2 hj ⟨⟨y, rfl⟩, rfl⟩ le2 hfo2 _ hE2
        have ha3 : Rd H2 a (.dK (toK s)) := le2.rd hb2 le.self had
        walk_at "go"
        have hz := hsl z (mem_keys.mpr ⟨n, mem_fr hi⟩)
        have hu' := htl u (mem_keys.mpr ⟨m, mem_fr hj⟩)
        refine ⟨z, u, rfl, rfl, line5 (by omega), ?_⟩
        walk_at "go"
        refine g_dg ha3 (getS_at hns hi) ?_
        walk_at "go"
        refine g_dg le2.self (getS_at hnt hj) ?_
        have c1 := hg.lo _ (mem_fr hi)
        have c2 := hg.hi _ (mem_fr hi)
        dsimp only at c1 c2
        walk_at "go"
        refine ⟨p, d, _, z ++ u, n * m, rfl, hfo2, ?_, hp, ?_⟩
        · have h1 := len_row (p := p) (s := prodS p (s.take i) t) (t := t.take j) (z, n)
          have h2 := hlen i j hil
          omega
        · refine hE2 _ _ _ ⟨⟨_, rfl⟩, rfl⟩ ((ExB.refl d _).upd) ?_
          rw [upd_same]
          unfold prodRow
          rw [foldl_take _ _ _ _ _ hj]
      · rintro σ' H2 o ⟨⟨y, rfl⟩, rfl⟩ e2 ho
        refine hE _ _ _ ⟨⟨_, _, rfl⟩, rfl⟩ e2 ?_
        rw [ho, List.take_length]
        unfold prodS
        rw [foldl_take _ _ _ _ _ hi]
    · rintro σ' H' o ⟨⟨x, y, rfl⟩, rfl⟩ e ho
      walk_at "go"
      rw [List.take_length] at ho
      exact k d H' (fun a' o' h' => e a' o' (ne_of_none h' hd) (Ex.new hd a' o' h')) hd ho

end
end Fp

namespace Fp
open PySem L2
section
variable {P : Program} {w : World} {K : PySem.W.Frag} {mg : Str → Option Value} {base : Heap} {C_Bag : Addr} {Cs : Addr → Prop}
local macro_rules | `(tactic| walk_at "hp") => `(tactic| first | assumption | rfl)
local macro_rules | `(tactic| walk_at "cond") => `(tactic| first | assumption | decide | omega | (unfold CMul; omega) | (refine ⟨?_, ?_⟩ <;> omega) | (unfold CDiv; omega) | (unfold CPow; omega))
local macro_rules | `(tactic| walk_at "g1") => `(tactic| first
  | with_reducible first
    | refine g_seq ?_ | refine g_asg ?_ | refine g_name ?_ | refine g_ret ?_ | refine g_retN ?_ | refine g_drop ?_ | refine g_ifs ?_
    | refine g_c ?_ | refine g_op ?_ | refine g_un ?_ | refine g_I0 ?_ | refine g_U ?_
    | refine g_test ?_ | refine g_tB ?_ | refine g_bl ?_ | refine g_and ?_ | refine g_or ?_ | refine g_not ?_
    | refine g_andV ?_ | refine g_orV ?_ | refine g_notV ?_ | refine g_if ?_ | refine g_nil ?_ | refine g_cons ?_ | refine g_cb ?_ | refine g_call ?_
    | refine g_lst ?_ | refine g_tup ?_ | refine g_itT ?_ | refine g_itF ?_ | refine g_itNT ?_ | refine g_itNF ?_ | refine g_lc ?_ | refine g_iStr ?_ | refine g_yes ?_ | refine g_exs ?_
    | refine g_chain ?_ | refine g_dget ?_ | refine g_dput ?_ | refine g_dget2 ?_ | refine g_dpop2 ?_ | refine g_fld ?_ | refine g_sfld ?_ | refine g_make ?_ | refine g_meth ?_
    | refine g_bm ?_ | refine g_kw ?_ | refine g_callS ?_ | refine g_revL ?_ | refine g_m1 ?_ | refine g_gsub ?_ | refine g_for ?_ | refine g_iList ?_ | refine g_iTup ?_ | refine g_iRng1 ?_ | refine g_iRng2 ?_ | refine g_sl ?_ | refine g_part ?_ | refine g_noPart ?_
    | refine g_exi ?_ | refine g_exr ?_ | refine g_dnew ?_ | refine g_disp ?_ | refine g_prs0 ?_ | refine g_prs ?_ | refine g_nxt ?_
  | ((with_reducible refine g_var (v := ?vv) ?gv ?_); (case gv => exact rfl))
  | ((with_reducible refine g_I ?gc ?_); (case gc => walk_at "cond"))
  | ((with_reducible refine g_eq ?ge ?_); (case ge => exact rfl))
  | ((with_reducible refine g_ne ?ge ?_); (case ge => exact rfl))
  | (refine g_ixl (SqL.of (by first | assumption | exact upd_same)) rfl ?_)
  | (refine g_setl (by first | assumption | exact upd_same) rfl ?_)
  | ((with_reducible show (∃ i, [V.int _] = [V.int i] ∧ _) ∨ _); refine Or.inl ⟨_, rfl, ?_⟩)
  | ((with_reducible show ∃ i, [V.int _] = [V.int i] ∧ _); refine ⟨_, rfl, ?_⟩)
  | dsimp only)
local macro_rules | `(tactic| walk_at "go") => `(tactic| repeat (walk_at "g1"))

/-! ### words in order -/
def sp_law_order : Sp := fun vs H Q _ => ∃ (d : Addr) (s : Bg), vs = [.ref d] ∧ Rd H d (.dK (toK s)) ∧ s.length ≤ 10000000 ∧ (∀ u ∈ keys s, u.length ≤ 10000000) ∧
  ∀ l H', Ex H H' → H l = none → H' l = some (.lst ((ordW (keys s)).map V.str)) → Q (.ref l) H'
def sp_law_words : Sp := fun vs H Q _ => ∃ (d : Addr) (s : Bg), vs = [.ref d] ∧ Rd H d (.dK (toK s)) ∧ s.length ≤ 10000000 ∧ (∀ u ∈ keys s, u.length ≤ 10000000) ∧ (keys s).Nodup ∧
  ∀ t H', Ex H H' → H t = none → WordsAt H' t (wordsS s) → Q (.ref t) H'
theorem bs_of {H : Hp} {as : List Addr} {es : Bg} (h : Paired (fun a (e : Str × Int) => H a = some (.tup [.int (-(e.1.length : Int)), .str e.1])) as es) :
    ∃ bs : List (Addr × Str), as.map V.ref = bs.map (fun b => V.ref b.1) ∧ bs.map (·.2) = keys es ∧ ∀ b ∈ bs, H b.1 = some (.tup [.int (-(b.2.length : Int)), .str b.2]) := by
  induction h with
  | nil => exact ⟨[], rfl, rfl, fun _ h => nomatch h⟩
  | @cons a e as es h1 _ ih =>
    obtain ⟨bs, h2, h3, h4⟩ := ih
    refine ⟨(a, e.1) :: bs, by rw [List.map_cons, List.map_cons, h2], by rw [List.map_cons, h3]; rfl, fun b hb => ?_⟩
    rcases List.mem_cons.mp hb with rfl | hb
    · exact h1
    · exact h4 b hb
theorem ok_law_order {f : Addr} {fd : FuncData} (F : Fun K "_law_order" "_law_order" s_law_order f fd) (T : Txt K mg C_Bag Cs) : FnOk P w K mg base CX0 1 f fd ["_law_bag"] sp_law_order := by
  refine F.ok sc_law_order (fun vs H Q E h => ?_) (fun cdv A outer s H vs Q E hr h => ?_)
  · obtain ⟨d, s, rfl, _⟩ := h
    rfl
  · obtain ⟨d, s, rfl, hd, hz, hw, k⟩ := h
    have hu := hu_of hr; have hu64 := L2.Room.units hr; refine ⟨_, (pss_one (ps_ret (pe_lc (own := [("_law_pair", 1)]) (g := (gName 1)) (tt := tYes) rfl sc_law_order.nd (pi_list (pe_callB (cr_sortedW hu64) (by rfl) T.b_sorted (by decide +kernel) (pa_cons (pe_lockR (pe_lc (own := [("_law_word_here", 2)]) (g := (gName 2)) (tt := tYes) rfl sc_law_order.nd (pi_keys (pv 0)) (blkOk_by (N := N_law_order) (sc := defScope s_law_order) (by decide +kernel)) (fun _ _ _ _ _ => (pg_name (i := 2) sc_law_order.nd rfl (by first | exact Or.inl rfl | exact Or.inr rfl))) (fun _ _ _ _ _ => pts_nil) (fun _ _ _ _ _ => (pe_tup (pa_cons (pe_un un_neg (pe_callB call_len_str (by rfl) T.b_len (by decide +kernel) (pa_cons (pv 2) pa_nil))) (pa_cons (pv 2) pa_nil)))))) pa_nil))) (blkOk_by (N := N_law_order) (sc := defScope s_law_order) (by decide +kernel)) (fun _ _ _ _ _ => (pg_name (i := 1) sc_law_order.nd rfl (by first | exact Or.inl rfl | exact Or.inr rfl))) (fun _ _ _ _ _ => pts_nil) (fun _ _ _ _ _ => (pe_ix (r := rIxT K) ix_tup (pv 1) pe_int (fun _ _ => rfl)))))), ?_⟩; rw [st_law_order]; (try dsimp only [cxOf]); walk_at "go"
    refine lcd_rel hd (line5 hz) (fun H' Q' _ q => ⟨_, rfl, q⟩) (fun e y H => ∃ a, y = V.ref a ∧ H a = some (.tup [.int (-(e.1.length : Int)), .str e.1])) (fun e y H H' t ⟨a, h1, h2⟩ => ⟨a, h1, t _ _ h2⟩) (fun _ => rfl) ?_ ?_
    · intro i z n H1 Kc hi le hk
      walk_at "go"
      refine ⟨z, rfl, line5 (hw z (mem_keys.mpr ⟨n, mem_fr hi⟩)), ?_⟩
      walk_at "go"
      exact ⟨Nat.le_of_ble_eq_true rfl, fun q hq => hk _ _ (Ex.new hq) ⟨q, rfl, upd_same⟩⟩
    · intro D H1 ys hD e hl hp
      obtain ⟨as, rfl, hp'⟩ := paired_refs hp
      obtain ⟨bs, hb1, hb2, hb3⟩ := bs_of hp'
      walk_at "go"
      refine ⟨D, bs, rfl, SqL.of (by rw [← hb1]; exact hl), fun b hb => SqT.of (hb3 b hb), fun bs' p hbs hin hp => ?_⟩
      walk_at "go"
      refine ⟨⟨_, SqL.of upd_same⟩, ?_⟩
      have hlen : bs'.length = s.length := by
        have h1 : (bs'.map (·.2)).length = bs'.length := List.length_map _
        rw [← h1, hbs, ordW_len, hb2]
        unfold keys
        rw [List.length_map]
      have e1 : Ex H (upd H1 p (.lst (bs'.map fun b => V.ref b.1))) := e.trans (Ex.new hp)
      refine lc_pure (j := 1) walk_list ((ordW (keys s)).map V.str) (by rw [List.length_map, List.length_map, ← hb2, ← hbs, List.length_map]) (by rw [List.length_map, hlen]; exact line5 hz) (fun H' e => SqL.of (e _ _ upd_same)) (fun _ => rfl) ?_ ?_
      · rintro i x y H2 H3 Kc hi e2 ⟨rfl, hx⟩ hy hk
        rw [List.getElem?_map] at hx hy
        rw [← hb2, ← hbs, List.getElem?_map] at hy
        cases hm : bs'[i]? with
        | none => rw [hm] at hx; cases hx
        | some b =>
          rw [hm] at hx hy
          obtain rfl := (Option.some.inj hx).symm
          obtain rfl := (Option.some.inj hy).symm
          have hb := hb3 b (hin b (List.mem_of_getElem? hm))
          walk_at "go"
          refine g_ixt (SqT.of (e2 _ _ (Ex.new hp _ _ hb))) rfl ?_
          exact hk _ (Ex.refl _)
      · intro D2 H2 hD2 e2 hl2
        walk_at "go"
        exact k _ _ (e1.trans e2) (e1.free hD2) hl2
theorem pairs_at {s : Bg} {ws : List Str} {H : Hp} {as : List Addr} (h : Paired (fun a z => H a = some (.tup [.str z, .int (cf s z)])) as ws) : Paired (fun a (kv : Str × Int) => H a = some (.tup [.str kv.1, .int kv.2])) as (ws.map fun z => (z, cf s z)) :=
  paired_mapr h fun _ _ q => q
theorem getS_cf {s : Bg} {z : Str} (h : z ∈ keys s) : getS s z = some (cf s z) := by
  unfold cf
  cases q : getS s z with
  | none => exact absurd h (getS_none.mp q)
  | some n => rfl
theorem ok_law_words {f : Addr} {fd : FuncData} (F : Fun K "_law_words" "_law_words" s_law_words f fd) (T : Txt K mg C_Bag Cs) (D_law_order : DefOk P w K mg base CX0 1 "_law_order" ["_law_bag"] sp_law_order) : FnOk P w K mg base CX0 2 f fd ["_law_bag"] sp_law_words := by
  refine F.ok sc_law_words (fun vs H Q E h => ?_) (fun cdv A outer s H vs Q E hr h => ?_)
  · obtain ⟨d, s, rfl, _⟩ := h
    rfl
  · obtain ⟨d, s, rfl, hd, hz, hw, hn, k⟩ := h
    have hu := hu_of hr; have hu64 := L2.Room.units hr; refine ⟨_, (pss_one (ps_ret (pe_callTy (r := rTupleZ K) call_tupleZ (by rfl) T.b_tuple (by decide +kernel) (pa_cons (pe_lc (own := [("_law_word_here", 1)]) (g := (gName 1)) (tt := tYes) rfl sc_law_words.nd (pi_list (pe_callD D_law_order (hr.mono (by decide)) rfl pass0 (pa_cons (pv 0) pa_nil))) (blkOk_by (N := N_law_words) (sc := defScope s_law_words) (by decide +kernel)) (fun _ _ _ _ _ => (pg_name (i := 1) sc_law_words.nd rfl (by first | exact Or.inl rfl | exact Or.inr rfl))) (fun _ _ _ _ _ => pts_nil) (fun _ _ _ _ _ => (pe_tup (pa_cons (pv 1) (pa_cons (pe_dget hu (pv 0) (pv 1) (fun _ _ => rfl)) pa_nil))))) pa_nil)))), ?_⟩; rw [st_law_words]; (try dsimp only [cxOf]); walk_at "go"
    refine ⟨d, s, rfl, hd, hz, hw, fun l H1 e1 hl1 hl => ?_⟩
    walk_at "go"
    refine ⟨⟨_, SqL.of hl⟩, ?_⟩
    have hlen : (ordW (keys s)).length = s.length := by rw [ordW_len]; unfold keys; rw [List.length_map]
    refine lc_rel (j := 1) walk_list (ordW (keys s)) (by rw [List.length_map]) (by rw [List.length_map, hlen]; exact line5 hz) (fun H' e => SqL.of (e _ _ hl)) (fun z y H => ∃ a, y = V.ref a ∧ H a = some (.tup [.str z, .int (cf s z)])) (fun e y H H' t ⟨a, h1, h2⟩ => ⟨a, h1, t _ _ h2⟩) (fun _ => rfl) ?_ ?_
    · rintro i x z H2 H3 Kc hi e2 ⟨rfl, hx⟩ hz2 hk
      rw [List.getElem?_map, hz2] at hx
      obtain rfl := (Option.some.inj hx).symm
      walk_at "go"
      refine g_dg ((e1.trans e2).rd hd) (getS_cf ((ordW_perm _).mem_iff.mp (List.mem_of_getElem? hz2))) ?_
      walk_at "go"
      exact ⟨Nat.le_of_ble_eq_true rfl, fun q hq => hk _ _ (Ex.new hq) ⟨q, rfl, upd_same⟩⟩
    · intro D H2 ys hD e2 hlD hp
      obtain ⟨as, rfl, hp'⟩ := paired_refs hp
      walk_at "go"
      refine ⟨D, _, rfl, SqL.of hlD, fun t o ht ho => ?_⟩
      have e3 : Ex H (upd H2 t (.frz o (.tup (as.map V.ref)))) := (e1.trans e2).trans (Ex.new ht)
      exact k _ _ e3 ((e1.trans e2).free ht) ⟨as, o, upd_same, ho, Paired.mapP (pairs_at hp') fun a b q => Ex.new ht _ _ q⟩
/-! ### clocks and words at random -/
def sp_law_clock : Sp := fun vs H Q _ => ∃ (h c : Addr), vs = [.ref h] ∧ HandAt H h c ∧ ∀ p H', (p = 2 ∨ p = 3 ∨ p = 5 ∨ p = 7) → ExB h H H' → HandAt H' h c → Q (.int p) H'
def sp_law_word : Sp := fun vs H Q _ => ∃ (h c : Addr) (z : Str) (m : Int), vs = [.ref h, .str z, .int m] ∧ HandAt H h c ∧ 0 < z.length ∧ z.length ≤ 100 ∧ isW z = true ∧ 0 ≤ m ∧ m ≤ 1000 ∧
  ∀ u H', (u.length : Int) ≤ m → isW u = true → ExB h H H' → HandAt H' h c → Q (.str u) H'
theorem ok_law_clock {f : Addr} {fd : FuncData} (F : Fun K "_law_clock" "_law_clock" s_law_clock f fd) (T : Txt K mg C_Bag Cs) (D_law_draw : DefOk P w K mg base CX0 1 "_law_draw" ["_law_hand_here", "_law_many"] sp_law_draw) : FnOk P w K mg base CX0 2 f fd ["_law_hand_here"] sp_law_clock := by
  refine F.ok sc_law_clock (fun vs H Q E h => ?_) (fun cdv A outer s H vs Q E hr h => ?_)
  · obtain ⟨h, c, rfl, _⟩ := h
    rfl
  · obtain ⟨h, c, rfl, hh, k⟩ := h
    have hu := hu_of hr; have hu64 := L2.Room.units hr; refine ⟨_, (pss_one (ps_ret (pe_ix (r := rIxL K) ix_list (pe_lst (pa_cons pe_int (pa_cons pe_int (pa_cons pe_int (pa_cons pe_int (pa_cons pe_int (pa_cons pe_int (pa_cons pe_int (pa_cons pe_int pa_nil))))))))) (pe_callD D_law_draw (hr.mono (by decide)) rfl pass0 (pa_cons (pv 0) (pa_cons pe_int pa_nil))) (fun _ _ => rfl)))), ?_⟩; rw [st_law_clock]; (try dsimp only [cxOf]); walk_at "go"
    refine ⟨Nat.le_of_ble_eq_true rfl, fun l hl => ?_⟩
    walk_at "go"
    refine ⟨h, c, 8, rfl, hh.ex' (Ex.new hl), by decide, by decide, fun v H' h0 h1 e hh' => ?_⟩
    obtain ⟨xs, hx⟩ := hh.kind
    have hlh : l ≠ h := fun q => by subst q; rw [hl] at hx; cases hx
    have hL : H' l = some (.lst [.int 2, .int 3, .int 2, .int 3, .int 2, .int 3, .int 5, .int 7]) := e _ _ hlh upd_same
    have eH : ExB h H H' := (Ex.new hl).exb.trans e
    obtain ⟨i, hi, rfl⟩ : ∃ i : Nat, i < 8 ∧ v = i := ⟨v.toNat, by omega, by omega⟩
    match i, hi with
    | 0, _ => exact g_ixl (SqL.of hL) rfl (k _ _ (by decide) eH hh')
    | 1, _ => exact g_ixl (SqL.of hL) rfl (k _ _ (by decide) eH hh')
    | 2, _ => exact g_ixl (SqL.of hL) rfl (k _ _ (by decide) eH hh')
    | 3, _ => exact g_ixl (SqL.of hL) rfl (k _ _ (by decide) eH hh')
    | 4, _ => exact g_ixl (SqL.of hL) rfl (k _ _ (by decide) eH hh')
    | 5, _ => exact g_ixl (SqL.of hL) rfl (k _ _ (by decide) eH hh')
    | 6, _ => exact g_ixl (SqL.of hL) rfl (k _ _ (by decide) eH hh')
    | 7, _ => exact g_ixl (SqL.of hL) rfl (k _ _ (by decide) eH hh')
    | (n + 8), h => omega

end
end Fp

namespace Fp
open PySem L2
section
variable {P : Program} {w : World} {K : PySem.W.Frag} {mg : Str → Option Value} {base : Heap} {C_Bag : Addr} {Cs : Addr → Prop}
local macro_rules | `(tactic| walk_at "hp") => `(tactic| first | assumption | rfl)
local macro_rules | `(tactic| walk_at "cond") => `(tactic| first | assumption | decide | omega | (unfold CMul; omega) | (refine ⟨?_, ?_⟩ <;> omega) | (unfold CDiv; omega) | (unfold CPow; omega))
local macro_rules | `(tactic| walk_at "g1") => `(tactic| first
  | with_reducible first
    | refine g_seq ?_ | refine g_asg ?_ | refine g_name ?_ | refine g_ret ?_ | refine g_retN ?_ | refine g_drop ?_ | refine g_ifs ?_
    | refine g_c ?_ | refine g_op ?_ | refine g_un ?_ | refine g_I0 ?_ | refine g_U ?_
    | refine g_test ?_ | refine g_tB ?_ | refine g_bl ?_ | refine g_and ?_ | refine g_or ?_ | refine g_not ?_
    | refine g_andV ?_ | refine g_orV ?_ | refine g_notV ?_ | refine g_if ?_ | refine g_nil ?_ | refine g_cons ?_ | refine g_cb ?_ | refine g_call ?_
    | refine g_lst ?_ | refine g_tup ?_ | refine g_itT ?_ | refine g_itF ?_ | refine g_itNT ?_ | refine g_itNF ?_ | refine g_lc ?_ | refine g_iStr ?_ | refine g_yes ?_ | refine g_exs ?_
    | refine g_chain ?_ | refine g_dget ?_ | refine g_dput ?_ | refine g_dget2 ?_ | refine g_dpop2 ?_ | refine g_fld ?_ | refine g_sfld ?_ | refine g_make ?_ | refine g_meth ?_
    | refine g_bm ?_ | refine g_kw ?_ | refine g_callS ?_ | refine g_revL ?_ | refine g_m1 ?_ | refine g_gsub ?_ | refine g_for ?_ | refine g_iList ?_ | refine g_iTup ?_ | refine g_iRng1 ?_ | refine g_iRng2 ?_ | refine g_sl ?_ | refine g_part ?_ | refine g_noPart ?_
    | refine g_exi ?_ | refine g_exr ?_ | refine g_dnew ?_ | refine g_disp ?_ | refine g_prs0 ?_ | refine g_prs ?_ | refine g_nxt ?_
  | ((with_reducible refine g_var (v := ?vv) ?gv ?_); (case gv => exact rfl))
  | ((with_reducible refine g_I ?gc ?_); (case gc => walk_at "cond"))
  | ((with_reducible refine g_eq ?ge ?_); (case ge => exact rfl))
  | ((with_reducible refine g_ne ?ge ?_); (case ge => exact rfl))
  | (refine g_ixl (SqL.of (by first | assumption | exact upd_same)) rfl ?_)
  | (refine g_setl (by first | assumption | exact upd_same) rfl ?_)
  | ((with_reducible show (∃ i, [V.int _] = [V.int i] ∧ _) ∨ _); refine Or.inl ⟨_, rfl, ?_⟩)
  | ((with_reducible show ∃ i, [V.int _] = [V.int i] ∧ _); refine ⟨_, rfl, ?_⟩)
  | dsimp only)
local macro_rules | `(tactic| walk_at "go") => `(tactic| repeat (walk_at "g1"))

theorem isW_app {a b : Str} (ha : isW a = true) (hb : isW b = true) : isW (a ++ b) = true := by
  unfold isW at *
  rw [app_toList, List.all_append, ha, hb]
  rfl
theorem isW_empty : isW Str.empty = true := rfl
theorem isW_one {z : Str} {c : Nat} (hz : isW z = true) (h : c ∈ z.cps.toList) : isW ⟨#[c]⟩ = true := by
  unfold isW at *
  have := List.all_eq_true.mp hz c h
  show List.all [c] _ = true
  rw [List.all_cons, this]
  rfl
theorem join_ones : ∀ ys : List Str, (∀ y ∈ ys, y.length = 1 ∧ isW y = true) → (Str.join ("" : Str) ys).length = ys.length ∧ isW (Str.join ("" : Str) ys) = true
  | [], _ => ⟨rfl, rfl⟩
  | [x], h => ⟨(h x List.mem_cons_self).1, (h x List.mem_cons_self).2⟩
  | x :: y :: r, h => by
    have ih := join_ones (y :: r) fun z hz => h z (List.mem_cons_of_mem _ hz)
    have hx := h x List.mem_cons_self
    show (x ++ ("" : Str) ++ Str.join ("" : Str) (y :: r)).length = _ ∧ isW (x ++ ("" : Str) ++ Str.join ("" : Str) (y :: r)) = true
    have e0 : ("" : Str).length = 0 := rfl
    refine ⟨?_, isW_app (isW_app hx.2 rfl) ih.2⟩
    rw [len_app, len_app, hx.1, ih.1, e0]
    simp only [List.length_cons]
    omega
theorem sum_ones {α : Type} : ∀ l : List α, (l.map fun _ => 1).sum = l.length
  | [] => rfl
  | a :: r => by rw [List.map_cons, List.sum_cons, sum_ones r, List.length_cons, Nat.add_comm]
theorem strs_of : ∀ {ys : List V} {Pz : Str → Prop}, (∀ y ∈ ys, ∃ z, y = V.str z ∧ Pz z) → ∃ zs : List Str, ys = zs.map V.str ∧ ∀ z ∈ zs, Pz z
  | [], _, _ => ⟨[], rfl, fun _ h => nomatch h⟩
  | y :: r, Pz, h => by
    obtain ⟨zs, e, hz⟩ := strs_of (ys := r) fun y hy => h y (List.mem_cons_of_mem _ hy)
    obtain ⟨z, e1, h1⟩ := h y List.mem_cons_self
    refine ⟨z :: zs, by rw [e1, e]; rfl, fun u hu => ?_⟩
    rcases List.mem_cons.mp hu with q | q
    · rw [q]; exact h1
    · exact hz u q
theorem ok_law_word {f : Addr} {fd : FuncData} (F : Fun K "_law_word" "_law_word" s_law_word f fd) (T : Txt K mg C_Bag Cs) (D_law_draw : DefOk P w K mg base CX0 1 "_law_draw" ["_law_hand_here", "_law_many"] sp_law_draw) : FnOk P w K mg base CX0 2 f fd ["_law_hand_here", "_law_letters", "_law_most"] sp_law_word := by
  refine F.ok sc_law_word (fun vs H Q E h => ?_) (fun cdv A outer s H vs Q E hr h => ?_)
  · obtain ⟨h, c, z, m, rfl, _⟩ := h
    rfl
  · obtain ⟨h, c, z, m, rfl, hh, hz0, hz1, hzw, hm0, hm1, k⟩ := h
    have hu := hu_of hr; have hu64 := L2.Room.units hr; refine ⟨_, (pss_one (ps_ret (pe_join pe_str (pe_lc (own := [("_law_turn", 3)]) (g := (gName 3)) (tt := tYes) rfl sc_law_word.nd (pi_range1 rfl T.b_range (pa_cons (pe_callD D_law_draw (hr.mono (by decide)) rfl pass0 (pa_cons (pv 0) (pa_cons (pe_op op_add (pv 2) pe_int) pa_nil))) pa_nil)) (blkOk_by (N := N_law_word) (sc := defScope s_law_word) (by decide +kernel)) (fun _ _ _ _ _ => (pg_name (i := 3) sc_law_word.nd rfl (by first | exact Or.inl rfl | exact Or.inr rfl))) (fun _ _ _ _ _ => pts_nil) (fun _ _ _ _ _ => (pe_ix (r := rIxS) ix_str (pv 1) (pe_callD D_law_draw (hr.mono (by decide)) rfl pass0 (pa_cons (pv 0) (pa_cons (pe_callB call_len_str (by rfl) T.b_len (by decide +kernel) (pa_cons (pv 1) pa_nil)) pa_nil))) (fun _ _ => rfl))))))), ?_⟩; rw [st_law_word]; (try dsimp only [cxOf]); walk_at "go"
    refine ⟨⟨_, rfl⟩, ?_⟩
    walk_at "go"
    refine ⟨h, c, m + 1, rfl, hh, by omega, by omega, fun v H1 hv0 hv1 e1 hh1 => ?_⟩
    walk_at "go"
    refine ⟨by omega, by omega, ?_⟩
    obtain ⟨o0, ho⟩ := hh1.kind
    refine lc_mut (f := h) (j := 3) walk_range ho (Nat.le_trans (by omega : v.toNat ≤ 1000) (by decide)) (fun H => HandAt H h c) hh1 (fun H D o hD x => x.upd (hh1.new hD).1 (hh1.new hD).2) (fun _ _ _ => trivial) (fun y => ∃ u : Str, y = V.str u ∧ u.length = 1 ∧ isW u = true) (fun _ => rfl) ?_ ?_
    · rintro i x H2 H3 Kc hi e2 hh2 ⟨rfl, rfl⟩ hk
      walk_at "go"
      refine ⟨z, rfl, Nat.le_trans hz1 (by decide), ?_⟩
      walk_at "go"
      refine ⟨h, c, z.length, rfl, hh2, by omega, by omega, fun q H4 hq0 hq1 e4 hh4 => ?_⟩
      have hql : q.toNat < z.cps.toList.length := by
        have : z.cps.toList.length = z.length := Array.length_toList
        omega
      refine g_ixs (Nat.le_trans hz1 (by decide)) (atI_get hq0 (List.getElem?_eq_getElem hql)) ?_
      exact hk _ _ e4 hh4 ⟨_, rfl, rfl, isW_one hzw (List.getElem_mem hql)⟩
    · intro D H2 ys hD e2 hh2 hl2 hlen hp
      obtain ⟨zs, rfl, hzs⟩ := strs_of hp
      rw [List.length_map] at hlen
      have hsum : (zs.map (·.length)).sum = zs.length := by
        have : zs.map (·.length) = zs.map fun _ => 1 := List.map_congr_left fun u hu => (hzs u hu).1
        rw [this]
        exact sum_ones zs
      obtain ⟨j1, j2⟩ := join_ones zs hzs
      refine ⟨_, D, zs, rfl, rfl, .inl (SqL.of hl2), ?_, ?_⟩
      · rw [hsum]
        have : ("" : Str).length = 0 := rfl
        rw [this]
        omega
      · have e3 : Txt.join ("" : Str) zs = Str.join ("" : Str) zs := TL.join_eq _ _
        rw [e3]
        exact k _ _ (by rw [j1]; omega) j2 (e1.trans e2) hh2

end
end Fp

namespace Fp
open PySem L2
section
variable {P : Program} {w : World} {K : PySem.W.Frag} {mg : Str → Option Value} {base : Heap} {C_Bag : Addr} {Cs : Addr → Prop}
local macro_rules | `(tactic| walk_at "hp") => `(tactic| first | assumption | rfl)
local macro_rules | `(tactic| walk_at "cond") => `(tactic| first | assumption | decide | omega | (unfold CMul; omega) | (refine ⟨?_, ?_⟩ <;> omega) | (unfold CDiv; omega) | (unfold CPow; omega))
local macro_rules | `(tactic| walk_at "g1") => `(tactic| first
  | with_reducible first
    | refine g_seq ?_ | refine g_asg ?_ | refine g_name ?_ | refine g_ret ?_ | refine g_retN ?_ | refine g_drop ?_ | refine g_ifs ?_
    | refine g_c ?_ | refine g_op ?_ | refine g_un ?_ | refine g_I0 ?_ | refine g_U ?_
    | refine g_test ?_ | refine g_tB ?_ | refine g_bl ?_ | refine g_and ?_ | refine g_or ?_ | refine g_not ?_
    | refine g_andV ?_ | refine g_orV ?_ | refine g_notV ?_ | refine g_if ?_ | refine g_nil ?_ | refine g_cons ?_ | refine g_cb ?_ | refine g_call ?_
    | refine g_lst ?_ | refine g_tup ?_ | refine g_itT ?_ | refine g_itF ?_ | refine g_itNT ?_ | refine g_itNF ?_ | refine g_lc ?_ | refine g_iStr ?_ | refine g_yes ?_ | refine g_exs ?_
    | refine g_chain ?_ | refine g_dget ?_ | refine g_dput ?_ | refine g_dget2 ?_ | refine g_dpop2 ?_ | refine g_fld ?_ | refine g_sfld ?_ | refine g_make ?_ | refine g_meth ?_
    | refine g_bm ?_ | refine g_kw ?_ | refine g_callS ?_ | refine g_revL ?_ | refine g_m1 ?_ | refine g_gsub ?_ | refine g_for ?_ | refine g_iList ?_ | refine g_iTup ?_ | refine g_iRng1 ?_ | refine g_iRng2 ?_ | refine g_sl ?_ | refine g_part ?_ | refine g_noPart ?_
    | refine g_exi ?_ | refine g_exr ?_ | refine g_dnew ?_ | refine g_disp ?_ | refine g_prs0 ?_ | refine g_prs ?_ | refine g_nxt ?_
  | ((with_reducible refine g_var (v := ?vv) ?gv ?_); (case gv => exact rfl))
  | ((with_reducible refine g_I ?gc ?_); (case gc => walk_at "cond"))
  | ((with_reducible refine g_eq ?ge ?_); (case ge => exact rfl))
  | ((with_reducible refine g_ne ?ge ?_); (case ge => exact rfl))
  | (refine g_ixl (SqL.of (by first | assumption | exact upd_same)) rfl ?_)
  | (refine g_setl (by first | assumption | exact upd_same) rfl ?_)
  | ((with_reducible show (∃ i, [V.int _] = [V.int i] ∧ _) ∨ _); refine Or.inl ⟨_, rfl, ?_⟩)
  | ((with_reducible show ∃ i, [V.int _] = [V.int i] ∧ _); refine ⟨_, rfl, ?_⟩)
  | dsimp only)
local macro_rules | `(tactic| walk_at "go") => `(tactic| repeat (walk_at "g1"))

/-- a dict of words, how many and how long -/
structure Lot (p : Int) (s : Bg) (a b : Nat) : Prop where
  g : Good p s
  n : s.length ≤ a
  l : ∀ u ∈ keys s, u.length ≤ b ∧ isW u = true
theorem Lot.mono {p : Int} {s : Bg} {a b a' b' : Nat} (l : Lot p s a b) (h1 : a ≤ a') (h2 : b ≤ b') : Lot p s a' b' := ⟨l.g, Nat.le_trans l.n h1, fun u hu => ⟨Nat.le_trans (l.l u hu).1 h2, (l.l u hu).2⟩⟩
theorem Lot.nil {p : Int} {a b : Nat} : Lot p [] a b := ⟨Good.nil, Nat.zero_le _, fun _ h => nomatch h⟩
theorem Lot.prod {p : Int} {s t : Bg} {a b c d : Nat} (hp : 0 < p) (l : Lot p s a b) (m : Lot p t c d) : Lot p (prodS p s t) (a * c) (b + d) :=
  ⟨Good.prod hp s t, Nat.le_trans (len_prod (p := p)) (Nat.mul_le_mul l.n m.n), fun u hu => by
    obtain ⟨x, hx, y, hy, rfl⟩ := keys_prod hu
    rw [len_app]
    exact ⟨Nat.add_le_add (l.l x hx).1 (m.l y hy).1, isW_app (l.l x hx).2 (m.l y hy).2⟩⟩
theorem Lot.plus {p : Int} {s t : Bg} {f : Int} {a b c d e : Nat} (hp : 0 < p) (l : Lot p s a b) (m : Lot p t c d) (hb : b ≤ e) (hd : d ≤ e) : Lot p (plusS p s t f) (a + c) e :=
  ⟨Good.plus hp l.g t, Nat.le_trans (len_plus f) (Nat.add_le_add l.n m.n), fun u hu => by
    rcases keys_plus hu with h | h
    · exact ⟨Nat.le_trans (l.l u h).1 hb, (l.l u h).2⟩
    · exact ⟨Nat.le_trans (m.l u h).1 hd, (m.l u h).2⟩⟩
theorem Lot.put {p : Int} {s : Bg} {z : Str} {n : Int} {a b : Nat} (l : Lot p s a b) (h0 : 0 < n) (h1 : n < p) (hz : z.length ≤ b) (hw : isW z = true) : Lot p (putS s z n) (a + 1) b :=
  ⟨l.g.put h0 h1, Nat.le_trans (len_put s z n) (Nat.add_le_add_right l.n 1), fun u hu => by
    rw [keys_put] at hu
    split at hu
    · exact l.l u hu
    · rcases List.mem_append.mp hu with h | h
      · exact l.l u h
      · rw [List.mem_singleton.mp h]; exact ⟨hz, hw⟩⟩
/-- of a few words that are known -/
theorem Lot.of {p : Int} {s : Bg} {a b : Nat} (hn : (keys s).Nodup) (hl : s.length ≤ a) (hk : ∀ u ∈ keys s, u.length ≤ b ∧ isW u = true) (hv : ∀ kv ∈ s, 0 < kv.2 ∧ kv.2 < p) : Lot p s a b :=
  ⟨⟨hn, fun kv h => (hv kv h).1, fun kv h => (hv kv h).2⟩, hl, hk⟩
def sp_law_lot : Sp := fun vs H Q _ => ∃ (h c : Addr) (p : Int) (z : Str) (m n : Nat), vs = [.ref h, .int p, .str z, .int m, .int n] ∧ HandAt H h c ∧ 2 ≤ p ∧ p ≤ 1000 ∧ 0 < z.length ∧ z.length ≤ 100 ∧ isW z = true ∧ m ≤ 999 ∧ n ≤ 999 ∧
  ∀ d s H', ExB h H H' → H d = none → H' d = some (.dK (toK s)) → Lot p s n m → HandAt H' h c → Q (.ref d) H'
def sp_law_small : Sp := fun vs H Q _ => ∃ (h c : Addr) (p : Int), vs = [.ref h, .int p] ∧ HandAt H h c ∧ 2 ≤ p ∧ p ≤ 1000 ∧
  ∀ d s H', ExB h H H' → H d = none → H' d = some (.dK (toK s)) → Lot p s 3 2 → HandAt H' h c → Q (.ref d) H'
def sp_law_woven : Sp := fun vs H Q _ => ∃ (h c : Addr) (p m : Int), vs = [.ref h, .int p, .int m] ∧ HandAt H h c ∧ 2 ≤ p ∧ p ≤ 1000 ∧ 0 < m ∧ m ≤ 1000 ∧
  ∀ d s H', ExB h H H' → H d = none → H' d = some (.dK (toK s)) → Lot p s 120 7 → HandAt H' h c → Q (.ref d) H'
def sp_law_some : Sp := fun vs H Q _ => ∃ (h c : Addr) (p : Int), vs = [.ref h, .int p] ∧ HandAt H h c ∧ 2 ≤ p ∧ p ≤ 1000 ∧
  ∀ d s H', ExB h H H' → H d = none → H' d = some (.dK (toK s)) → Lot p s 120 7 → HandAt H' h c → Q (.ref d) H'
theorem ExB.one {f d : Addr} {H H' : Hp} {o : HO} (e : ExB f (L2.upd H d o) H') (hd : H d = none) : ExB f H H' := (Ex.new hd).exb.trans e
theorem ok_law_lot {f : Addr} {fd : FuncData} (F : Fun K "_law_lot" "_law_lot" s_law_lot f fd) (T : Txt K mg C_Bag Cs) (D_law_draw : DefOk P w K mg base CX0 1 "_law_draw" ["_law_hand_here", "_law_many"] sp_law_draw) (D_law_word : DefOk P w K mg base CX0 2 "_law_word" ["_law_hand_here", "_law_letters", "_law_most"] sp_law_word) : FnOk P w K mg base CX0 3 f fd ["_law_hand_here", "_law_clock_here", "_law_letters", "_law_most", "_law_many"] sp_law_lot := by
  refine F.ok sc_law_lot (fun vs H Q E h => ?_) (fun cdv A outer s H vs Q E hr h => ?_)
  · obtain ⟨h, c, p, z, m, n, rfl, _⟩ := h
    rfl
  · obtain ⟨h, c, p, z, m, n, rfl, hh, hp0, hp1, hz0, hz1, hzw, hm, hn, k⟩ := h
    have hu := hu_of hr; have hu64 := L2.Room.units hr; refine ⟨_, (pss_cons (ps_set (i := 5) sc_law_lot.nd rfl (by first | exact Or.inl rfl | exact Or.inr rfl) pe_dnewK) (pss_cons (ps_for PassesOwn.never rfl (pi_range1 rfl T.b_range (pa_cons (pe_callD D_law_draw (hr.mono (by decide)) rfl pass0 (pa_cons (pv 0) (pa_cons (pe_op op_add (pv 4) pe_int) pa_nil))) pa_nil)) (pg_name (i := 6) sc_law_lot.nd rfl (by first | exact Or.inl rfl | exact Or.inr rfl)) (pss_one (ps_dput hu (pv 5) (pe_callD D_law_word (hr.mono (by decide)) rfl pass0 (pa_cons (pv 0) (pa_cons (pv 2) (pa_cons (pv 3) pa_nil)))) (pe_op op_add pe_int (pe_callD D_law_draw (hr.mono (by decide)) rfl pass0 (pa_cons (pv 0) (pa_cons (pe_op op_sub (pv 1) pe_int) pa_nil)))) rfl))) (pss_one (ps_ret (pv 5))))), ?_⟩; rw [st_law_lot]; (try dsimp only [cxOf]); walk_at "go"
    intro d hd
    walk_at "go"
    obtain ⟨hdh, hdc⟩ := hh.new hd
    refine ⟨h, c, n + 1, rfl, hh.upd hdh hdc, by omega, by omega, fun v H1 hv0 hv1 e1 hh1 => ?_⟩
    walk_at "go"
    refine ⟨by omega, by omega, ?_⟩
    refine forG walk_range (fun i σ' H' => (∃ x, σ' = [some (.ref h), some (.int p), some (.str z), some (.int m), some (.int n), some (.ref d), x]) ∧ ExB h H H' ∧ HandAt H' h c ∧ ∃ s, H' d = some (.dK (toK s)) ∧ Lot p s i m) ⟨⟨none, rfl⟩, (Ex.new hd).exb.trans e1, hh1, [], e1 _ _ hdh upd_same, Lot.nil⟩ (fun _ _ _ _ _ => trivial) ?_ ?_
    · rintro i x σ' H2 H3 hi ⟨⟨y, rfl⟩, e2, hh2, s, hs, hl⟩ ⟨rfl, rfl⟩
      walk_at "go"
      refine ⟨h, c, p - 1, rfl, hh2, by omega, by omega, fun v2 H4 h1 h2 e4 hh4 => ?_⟩
      walk_at "go"
      refine ⟨h, c, z, m, rfl, hh4, hz0, hz1, hzw, by omega, by omega, fun u H5 hu1 hu2 e5 hh5 => ?_⟩
      have hs5 := e5 _ _ hdh (e4 _ _ hdh hs)
      refine g_dp hs5 (Nat.lt_of_le_of_lt hl.n (Nat.lt_of_lt_of_le (by omega : i < 1000) (by decide))) ?_
      refine ⟨⟨_, rfl⟩, ?_, hh5.upd hdh hdc, _, upd_same, hl.put (by omega) (by omega) (by omega) hu2⟩
      exact fun a o hne q => by rw [upd_ne (ne_of_none q hd)]; exact e5 _ _ hne (e4 _ _ hne (e2 _ _ hne q))
    · rintro σ' H2 ⟨⟨y, rfl⟩, e2, hh2, s, hs, hl⟩
      walk_at "go"
      exact k d s H2 e2 hd hs (hl.mono (by omega) (Nat.le_refl _)) hh2
def small1 (n : Int) : List Bg := [[("x", 1)], [("y", 1)], [("x", 1), ("", n)], [("y", n), ("", 1)], [("x", 1), ("y", n)]]
def small2 (n : Int) : List Bg := [[("xy", 1), ("", n)], [("yx", 1), ("", n)], [("xx", 1), ("y", n)], [("xy", 1), ("yx", n)]]
def small3 (n : Int) : List Bg := [[("xy", n), ("x", 1), ("", 1)], [("", n)], [("z", 1), ("x", n)]]
def okWords (ks : List Str) : Bool := decide ks.Nodup && decide (ks.length ≤ 3) && ks.all fun u => decide (u.length ≤ 2) && isW u
theorem lot_of_ok {p n : Int} {s : Bg} (h : okWords (keys s) = true) (hn0 : 0 < n) (hn1 : n < p) (hv : ∀ kv ∈ s, kv.2 = 1 ∨ kv.2 = n) : Lot p s 3 2 := by
  unfold okWords at h
  simp only [Bool.and_eq_true, decide_eq_true_eq] at h
  obtain ⟨⟨h1, h2⟩, h3⟩ := h
  refine Lot.of h1 (by unfold keys at h2; rw [List.length_map] at h2; exact h2) (fun u hu => ?_) fun kv hkv => ?_
  · have := List.all_eq_true.mp h3 u hu
    simpa using this
  · rcases hv kv hkv with e | e <;> omega
theorem small_lot {p n : Int} (hn0 : 0 < n) (hn1 : n < p) : ∀ s ∈ small1 n ++ small2 n ++ small3 n, Lot p s 3 2 := by
  intro s hs
  have hk : ((small1 n ++ small2 n ++ small3 n).map keys).all okWords = true := by
    show ((small1 0 ++ small2 0 ++ small3 0).map keys).all okWords = true
    decide +kernel
  refine lot_of_ok (List.all_eq_true.mp hk _ (List.mem_map_of_mem hs)) hn0 hn1 ?_
  have hv : ∀ s ∈ small1 n ++ small2 n ++ small3 n, ∀ kv ∈ s, kv.2 = 1 ∨ kv.2 = n := by
    intro s hs kv hkv
    simp only [small1, small2, small3, List.mem_append, List.mem_cons, List.not_mem_nil, or_false] at hs
    rcases hs with ((rfl | rfl | rfl | rfl | rfl) | rfl | rfl | rfl | rfl) | rfl | rfl | rfl <;> simp only [List.mem_cons, List.not_mem_nil, or_false] at hkv
    all_goals first
      | (rcases hkv with rfl | rfl | rfl <;> first | exact .inl rfl | exact .inr rfl)
      | (rcases hkv with rfl | rfl <;> first | exact .inl rfl | exact .inr rfl)
      | (subst hkv; first | exact .inl rfl | exact .inr rfl)
  exact hv s hs
theorem lst_ok {tA : TA} {σ : St} {ss : List Bg} {H : Hp} {Q : VK} (h : ArgsOk tA σ ss) (hz : ss.length ≤ 1000) (q : ∀ l ps H', Ex H H' → H l = none → H' l = some (.lst (ps.map V.ref)) → Paired (fun p s => H p = none ∧ H' p = some (.dK (toK s))) ps ss → Q (.ref l) H') : tLst tA σ H Q :=
  h H _ fun ps H' e hp => ⟨by rw [List.length_map, hp.length]; exact Nat.le_trans hz (by decide), fun l hl => q l ps _ (e.trans (Ex.new hl)) (e.free hl) upd_same (Paired.mapP hp fun _ _ z => ⟨z.1, Ex.new hl _ _ z.2⟩)⟩
theorem small_ne {v : Int} (s : Bg) (hs : s ∈ small1 v ++ small2 v ++ small3 v) : s ≠ [] := by
  unfold small1 small2 small3 at hs
  simp only [List.cons_append, List.nil_append, List.mem_cons, List.not_mem_nil, or_false] at hs
  rcases hs with rfl | rfl | rfl | rfl | rfl | rfl | rfl | rfl | rfl | rfl | rfl | rfl <;> exact List.cons_ne_nil _ _
/-- small bags are not nothing -/
def sp_law_smallN : Sp := fun vs H Q _ => ∃ (h c : Addr) (p : Int), vs = [.ref h, .int p] ∧ HandAt H h c ∧ 2 ≤ p ∧ p ≤ 1000 ∧
  ∀ d s H', ExB h H H' → H d = none → H' d = some (.dK (toK s)) → Lot p s 3 2 → s ≠ [] → HandAt H' h c → Q (.ref d) H'
theorem ok_law_smallN {f : Addr} {fd : FuncData} (F : Fun K "_law_small" "_law_small" s_law_small f fd) (T : Txt K mg C_Bag Cs) (D_law_draw : DefOk P w K mg base CX0 1 "_law_draw" ["_law_hand_here", "_law_many"] sp_law_draw) : FnOk P w K mg base CX0 2 f fd ["_law_hand_here", "_law_clock_here"] sp_law_smallN := by
  refine F.ok sc_law_small (fun vs H Q E h => ?_) (fun cdv A outer s H vs Q E hr h => ?_)
  · obtain ⟨h, c, p, rfl, _⟩ := h
    rfl
  · obtain ⟨h, c, p, rfl, hh, hp0, hp1, k⟩ := h
    have hu := hu_of hr; have hu64 := L2.Room.units hr; refine ⟨_, (pss_cons (ps_set (i := 2) sc_law_small.nd rfl (by first | exact Or.inl rfl | exact Or.inr rfl) (pe_op op_add pe_int (pe_callD D_law_draw (hr.mono (by decide)) rfl pass0 (pa_cons (pv 0) (pa_cons (pe_op op_sub (pv 1) pe_int) pa_nil))))) (pss_cons (ps_set (i := 3) sc_law_small.nd rfl (by first | exact Or.inl rfl | exact Or.inr rfl) (pe_lst (pa_cons (pe_disp (pps_cons pe_str pe_int pps_nil) rfl rfl (List.cons_ne_nil _ _) (Nat.le_of_ble_eq_true rfl)) (pa_cons (pe_disp (pps_cons pe_str pe_int pps_nil) rfl rfl (List.cons_ne_nil _ _) (Nat.le_of_ble_eq_true rfl)) (pa_cons (pe_disp (pps_cons pe_str pe_int (pps_cons pe_str (pv 2) pps_nil)) rfl rfl (List.cons_ne_nil _ _) (Nat.le_of_ble_eq_true rfl)) (pa_cons (pe_disp (pps_cons pe_str (pv 2) (pps_cons pe_str pe_int pps_nil)) rfl rfl (List.cons_ne_nil _ _) (Nat.le_of_ble_eq_true rfl)) (pa_cons (pe_disp (pps_cons pe_str pe_int (pps_cons pe_str (pv 2) pps_nil)) rfl rfl (List.cons_ne_nil _ _) (Nat.le_of_ble_eq_true rfl)) pa_nil))))))) (pss_cons (ps_set (i := 3) sc_law_small.nd rfl (by first | exact Or.inl rfl | exact Or.inr rfl) (pe_op op_cat (pv 3) (pe_lst (pa_cons (pe_disp (pps_cons pe_str pe_int (pps_cons pe_str (pv 2) pps_nil)) rfl rfl (List.cons_ne_nil _ _) (Nat.le_of_ble_eq_true rfl)) (pa_cons (pe_disp (pps_cons pe_str pe_int (pps_cons pe_str (pv 2) pps_nil)) rfl rfl (List.cons_ne_nil _ _) (Nat.le_of_ble_eq_true rfl)) (pa_cons (pe_disp (pps_cons pe_str pe_int (pps_cons pe_str (pv 2) pps_nil)) rfl rfl (List.cons_ne_nil _ _) (Nat.le_of_ble_eq_true rfl)) (pa_cons (pe_disp (pps_cons pe_str pe_int (pps_cons pe_str (pv 2) pps_nil)) rfl rfl (List.cons_ne_nil _ _) (Nat.le_of_ble_eq_true rfl)) pa_nil))))))) (pss_cons (ps_set (i := 3) sc_law_small.nd rfl (by first | exact Or.inl rfl | exact Or.inr rfl) (pe_op op_cat (pv 3) (pe_lst (pa_cons (pe_disp (pps_cons pe_str (pv 2) (pps_cons pe_str pe_int (pps_cons pe_str pe_int pps_nil))) rfl rfl (List.cons_ne_nil _ _) (Nat.le_of_ble_eq_true rfl)) (pa_cons (pe_disp (pps_cons pe_str (pv 2) pps_nil) rfl rfl (List.cons_ne_nil _ _) (Nat.le_of_ble_eq_true rfl)) (pa_cons (pe_disp (pps_cons pe_str pe_int (pps_cons pe_str (pv 2) pps_nil)) rfl rfl (List.cons_ne_nil _ _) (Nat.le_of_ble_eq_true rfl)) pa_nil)))))) (pss_one (ps_ret (pe_ix (r := rIxL K) ix_list (pv 3) (pe_callD D_law_draw (hr.mono (by decide)) rfl pass0 (pa_cons (pv 0) (pa_cons pe_int pa_nil))) (fun _ _ => rfl)))))))), ?_⟩; rw [st_law_small]; (try dsimp only [cxOf])
    refine g_seq (g_asg ?_)
    walk_at "go"
    refine ⟨h, c, p - 1, rfl, hh, by omega, by omega, fun v H1 hv0 hv1 e1 hh1 => ?_⟩
    refine g_I0 (g_name ?_)
    (try dsimp only)
    refine g_seq (g_asg ?_)
    have d1 : ∀ (σ : St), σ[2]? = some (some (.int (1 + v))) → True := fun _ _ => trivial
    refine lst_ok (ss := small1 (1 + v)) (args_cons (disp_ok ⟨pure_c, pure_c, trivial⟩ (by decide +kernel) (Nat.le_of_ble_eq_true rfl)) (args_cons (disp_ok ⟨pure_c, pure_c, trivial⟩ (by decide +kernel) (Nat.le_of_ble_eq_true rfl)) (args_cons (disp_ok ⟨pure_c, pure_c, pure_c, pure_v rfl, trivial⟩ (show (["x", ""] : List Str).Nodup by decide +kernel) (Nat.le_of_ble_eq_true rfl))
      (args_cons (disp_ok ⟨pure_c, pure_v rfl, pure_c, pure_c, trivial⟩ (show (["y", ""] : List Str).Nodup by decide +kernel) (Nat.le_of_ble_eq_true rfl)) (args_cons (disp_ok ⟨pure_c, pure_c, pure_c, pure_v rfl, trivial⟩ (show (["x", "y"] : List Str).Nodup by decide +kernel) (Nat.le_of_ble_eq_true rfl)) args_nil))))) (Nat.le_of_ble_eq_true rfl) fun l1 ps1 H2 e2 hl1 hq1 hps1 => ?_
    refine g_name ?_
    (try dsimp only)
    refine g_seq (g_asg ?_)
    refine g_op (g_var rfl ?_)
    refine lst_ok (ss := small2 (1 + v)) (args_cons (disp_ok ⟨pure_c, pure_c, pure_c, pure_v rfl, trivial⟩ (show (["xy", ""] : List Str).Nodup by decide +kernel) (Nat.le_of_ble_eq_true rfl)) (args_cons (disp_ok ⟨pure_c, pure_c, pure_c, pure_v rfl, trivial⟩ (show (["yx", ""] : List Str).Nodup by decide +kernel) (Nat.le_of_ble_eq_true rfl)) (args_cons (disp_ok ⟨pure_c, pure_c, pure_c, pure_v rfl, trivial⟩ (show (["xx", "y"] : List Str).Nodup by decide +kernel) (Nat.le_of_ble_eq_true rfl))
      (args_cons (disp_ok ⟨pure_c, pure_c, pure_c, pure_v rfl, trivial⟩ (show (["xy", "yx"] : List Str).Nodup by decide +kernel) (Nat.le_of_ble_eq_true rfl)) args_nil)))) (Nat.le_of_ble_eq_true rfl) fun l2 ps2 H3 e3 hl2 hq2 hps2 => ?_
    have n1 := hps1.length
    have n2 := hps2.length
    refine ⟨l1, l2, _, _, rfl, rfl, e3 _ _ hq1, hq2, by rw [List.length_map, List.length_map, n1, n2]; exact Nat.le_of_ble_eq_true rfl, fun l3 hl3 => ?_⟩
    refine g_name ?_
    (try dsimp only)
    refine g_seq (g_asg ?_)
    refine g_op (g_var rfl ?_)
    refine lst_ok (ss := small3 (1 + v)) (args_cons (disp_ok ⟨pure_c, pure_v rfl, pure_c, pure_c, pure_c, pure_c, trivial⟩ (show (["xy", "x", ""] : List Str).Nodup by decide +kernel) (Nat.le_of_ble_eq_true rfl)) (args_cons (disp_ok ⟨pure_c, pure_v rfl, trivial⟩ (show ([""] : List Str).Nodup by decide +kernel) (Nat.le_of_ble_eq_true rfl)) (args_cons (disp_ok ⟨pure_c, pure_c, pure_c, pure_v rfl, trivial⟩ (show (["z", "x"] : List Str).Nodup by decide +kernel) (Nat.le_of_ble_eq_true rfl)) args_nil))) (Nat.le_of_ble_eq_true rfl) fun l4 ps3 H4 e4 hl4 hq4 hps3 => ?_
    have n3 := hps3.length
    refine ⟨l3, l4, _, _, rfl, rfl, e4 _ _ upd_same, hq4, by rw [List.length_append, List.length_map, List.length_map, List.length_map, n1, n2, n3]; exact Nat.le_of_ble_eq_true rfl, fun l5 hl5 => ?_⟩
    refine g_name ?_
    walk_at "go"
    have e13 : Ex H1 H4 := (e2.trans e3).trans ((Ex.new hl3).trans e4)
    have e15 : Ex H1 (upd H4 l5 (.lst (ps1.map V.ref ++ ps2.map V.ref ++ ps3.map V.ref))) := e13.trans (Ex.new hl5)
    have eH : ExB h H (upd H4 l5 (.lst (ps1.map V.ref ++ ps2.map V.ref ++ ps3.map V.ref))) := e1.trans e15.exb
    have hh5 : HandAt (upd H4 l5 (.lst (ps1.map V.ref ++ ps2.map V.ref ++ ps3.map V.ref))) h c := hh1.ex' e15
    refine ⟨h, c, 12, rfl, hh5, by decide, by decide, fun q H6 hq0 hq1 e6 hh6 => ?_⟩
    have hall : Paired (fun p s => H p = none ∧ upd H4 l5 (.lst (ps1.map V.ref ++ ps2.map V.ref ++ ps3.map V.ref)) p = some (.dK (toK s))) (ps1 ++ ps2 ++ ps3) (small1 (1 + v) ++ small2 (1 + v) ++ small3 (1 + v)) := by
      have hn : ∀ p, H1 p = none → H p = none := fun p h1 => by
        cases q : H p with
        | none => rfl
        | some o =>
          by_cases hph : p = h
          · subst hph; obtain ⟨xs, hx⟩ := hh1.kind; rw [h1] at hx; cases hx
          · rw [e1 p o hph q] at h1; cases h1
      refine paired_app (paired_app (Paired.mapP hps1 fun _ _ z => ⟨hn _ z.1, ?_⟩) (Paired.mapP hps2 fun _ _ z => ⟨hn _ (e2.free z.1), ?_⟩)) (Paired.mapP hps3 fun _ _ z => ⟨hn _ ((e2.trans e3).free ((Ex.new hl3).free z.1)), ?_⟩)
      · exact Ex.new hl5 _ _ (e4 _ _ (Ex.new hl3 _ _ (e3 _ _ z.2)))
      · exact Ex.new hl5 _ _ (e4 _ _ (Ex.new hl3 _ _ z.2))
      · exact Ex.new hl5 _ _ z.2
    obtain ⟨d, s, hd, hs, hd0, hd1⟩ := paired_nth (i := q.toNat) hall (by show q.toNat < 12; omega)
    have hlh : l5 ≠ h := Ne.symm (ne_of_none (show H4 h = some _ from (hh1.ex' e13).kind.choose_spec) hl5)
    have hdh : d ≠ h := by
      obtain ⟨xs, hx⟩ := hh.kind
      exact Ne.symm (ne_of_none hx hd0)
    refine g_ixl (SqL.of (e6 _ _ hlh upd_same)) (atI_get hq0 (v := .ref d) ?_) ?_
    · have : ps1.map V.ref ++ ps2.map V.ref ++ ps3.map V.ref = (ps1 ++ ps2 ++ ps3).map V.ref := by rw [List.map_append, List.map_append]
      rw [this, List.getElem?_map, hd]
      rfl
    · exact k d s H6 (eH.trans e6) hd0 (e6 _ _ hdh hd1) (small_lot (by omega) (by omega) s hs) (small_ne s hs) hh6
theorem ok_law_small {f : Addr} {fd : FuncData} (F : Fun K "_law_small" "_law_small" s_law_small f fd) (T : Txt K mg C_Bag Cs) (D_law_draw : DefOk P w K mg base CX0 1 "_law_draw" ["_law_hand_here", "_law_many"] sp_law_draw) : FnOk P w K mg base CX0 2 f fd ["_law_hand_here", "_law_clock_here"] sp_law_small :=
  (ok_law_smallN F T D_law_draw).imp fun vs H Q E ⟨h, c, p, e, hh, h1, h2, k⟩ => ⟨h, c, p, e, hh, h1, h2, fun d s H' e1 hd hd' hl _ hh' => k d s H' e1 hd hd' hl hh'⟩

end
end Fp

namespace Fp
open PySem L2
section
variable {P : Program} {w : World} {K : PySem.W.Frag} {mg : Str → Option Value} {base : Heap} {C_Bag : Addr} {Cs : Addr → Prop}
local macro_rules | `(tactic| walk_at "hp") => `(tactic| first | assumption | rfl)
local macro_rules | `(tactic| walk_at "cond") => `(tactic| first | assumption | decide | omega | (unfold CMul; omega) | (refine ⟨?_, ?_⟩ <;> omega) | (unfold CDiv; omega) | (unfold CPow; omega))
local macro_rules | `(tactic| walk_at "g1") => `(tactic| first
  | with_reducible first
    | refine g_seq ?_ | refine g_asg ?_ | refine g_name ?_ | refine g_ret ?_ | refine g_retN ?_ | refine g_drop ?_ | refine g_ifs ?_
    | refine g_c ?_ | refine g_op ?_ | refine g_un ?_ | refine g_I0 ?_ | refine g_U ?_
    | refine g_test ?_ | refine g_tB ?_ | refine g_bl ?_ | refine g_and ?_ | refine g_or ?_ | refine g_not ?_
    | refine g_andV ?_ | refine g_orV ?_ | refine g_notV ?_ | refine g_if ?_ | refine g_nil ?_ | refine g_cons ?_ | refine g_cb ?_ | refine g_call ?_
    | refine g_lst ?_ | refine g_tup ?_ | refine g_itT ?_ | refine g_itF ?_ | refine g_itNT ?_ | refine g_itNF ?_ | refine g_lc ?_ | refine g_iStr ?_ | refine g_yes ?_ | refine g_exs ?_
    | refine g_chain ?_ | refine g_dget ?_ | refine g_dput ?_ | refine g_dget2 ?_ | refine g_dpop2 ?_ | refine g_fld ?_ | refine g_sfld ?_ | refine g_make ?_ | refine g_meth ?_
    | refine g_bm ?_ | refine g_kw ?_ | refine g_callS ?_ | refine g_revL ?_ | refine g_m1 ?_ | refine g_gsub ?_ | refine g_for ?_ | refine g_iList ?_ | refine g_iTup ?_ | refine g_iRng1 ?_ | refine g_iRng2 ?_ | refine g_sl ?_ | refine g_part ?_ | refine g_noPart ?_
    | refine g_exi ?_ | refine g_exr ?_ | refine g_dnew ?_ | refine g_disp ?_ | refine g_prs0 ?_ | refine g_prs ?_ | refine g_nxt ?_
  | ((with_reducible refine g_var (v := ?vv) ?gv ?_); (case gv => exact rfl))
  | ((with_reducible refine g_I ?gc ?_); (case gc => walk_at "cond"))
  | ((with_reducible refine g_eq ?ge ?_); (case ge => exact rfl))
  | ((with_reducible refine g_ne ?ge ?_); (case ge => exact rfl))
  | (refine g_ixl (SqL.of (by first | assumption | exact upd_same)) rfl ?_)
  | (refine g_setl (by first | assumption | exact upd_same) rfl ?_)
  | ((with_reducible show (∃ i, [V.int _] = [V.int i] ∧ _) ∨ _); refine Or.inl ⟨_, rfl, ?_⟩)
  | ((with_reducible show ∃ i, [V.int _] = [V.int i] ∧ _); refine ⟨_, rfl, ?_⟩)
  | dsimp only)
local macro_rules | `(tactic| walk_at "go") => `(tactic| repeat (walk_at "g1"))

theorem Good.up {p q : Int} {s : Bg} (g : Good p s) (h : p ≤ q) : Good q s := ⟨g.nd, g.lo, fun kv hk => by have := g.hi kv hk; omega⟩
theorem ok_law_woven {f : Addr} {fd : FuncData} (F : Fun K "_law_woven" "_law_woven" s_law_woven f fd) (T : Txt K mg C_Bag Cs) (D_law_draw : DefOk P w K mg base CX0 1 "_law_draw" ["_law_hand_here", "_law_many"] sp_law_draw)
    (D_law_small : DefOk P w K mg base CX0 2 "_law_small" ["_law_hand_here", "_law_clock_here"] sp_law_small) (D_law_product : DefOk P w K mg base CX0 2 "_law_product" ["_law_clock_here", "_law_one", "_law_other"] sp_law_product)
    (D_law_plus : DefOk P w K mg base CX0 2 "_law_plus" ["_law_clock_here", "_law_one", "_law_other", "_law_factor"] sp_law_plus) : FnOk P w K mg base CX0 3 f fd ["_law_hand_here", "_law_clock_here", "_law_most"] sp_law_woven := by
  refine F.ok sc_law_woven (fun vs H Q E h => ?_) (fun cdv A outer s H vs Q E hr h => ?_)
  · obtain ⟨h, c, p, m, rfl, _⟩ := h
    rfl
  · obtain ⟨h, c, p, m, rfl, hh, hp0, hp1, hm0, hm1, k⟩ := h
    have hu := hu_of hr; have hu64 := L2.Room.units hr; refine ⟨_, (pss_cons (ps_set (i := 3) sc_law_woven.nd rfl (by first | exact Or.inl rfl | exact Or.inr rfl) (pe_disp (pps_cons pe_str (pe_op op_add pe_int (pe_callD D_law_draw (hr.mono (by decide)) rfl pass0 (pa_cons (pv 0) (pa_cons (pe_op op_sub (pv 1) pe_int) pa_nil)))) pps_nil) rfl rfl (List.cons_ne_nil _ _) (Nat.le_of_ble_eq_true rfl))) (pss_cons (ps_for PassesOwn.never rfl (pi_range1 rfl T.b_range (pa_cons (pe_op op_add pe_int (pe_callD D_law_draw (hr.mono (by decide)) rfl pass0 (pa_cons (pv 0) (pa_cons (pv 2) pa_nil)))) pa_nil)) (pg_name (i := 4) sc_law_woven.nd rfl (by first | exact Or.inl rfl | exact Or.inr rfl)) (pss_cons (ps_set (i := 5) sc_law_woven.nd rfl (by first | exact Or.inl rfl | exact Or.inr rfl) (pe_callD D_law_small (hr.mono (by decide)) rfl pass0 (pa_cons (pv 0) (pa_cons (pv 1) pa_nil)))) (pss_cons (ps_if (pt_cmpR op_eq (pe_callD D_law_draw (hr.mono (by decide)) rfl pass0 (pa_cons (pv 0) (pa_cons pe_int pa_nil))) pe_int (nomark _)) (pss_cons (ps_set (i := 6) sc_law_woven.nd rfl (by first | exact Or.inl rfl | exact Or.inr rfl) (pe_callD D_law_small (hr.mono (by decide)) rfl pass0 (pa_cons (pv 0) (pa_cons (pv 1) pa_nil)))) (pss_one (ps_set (i := 5) sc_law_woven.nd rfl (by first | exact Or.inl rfl | exact Or.inr rfl) (pe_callD D_law_product (hr.mono (by decide)) rfl pass0 (pa_cons (pv 1) (pa_cons (pv 5) (pa_cons (pe_callD D_law_plus (hr.mono (by decide)) rfl pass0 (pa_cons (pv 1) (pa_cons (pe_callD D_law_product (hr.mono (by decide)) rfl pass0 (pa_cons (pv 1) (pa_cons (pv 6) (pa_cons (pv 5) pa_nil)))) (pa_cons (pe_disp (pps_cons pe_str pe_int pps_nil) rfl rfl (List.cons_ne_nil _ _) (Nat.le_of_ble_eq_true rfl)) (pa_cons pe_int pa_nil))))) pa_nil))))))) pss_nil) (pss_cons (ps_set (i := 7) sc_law_woven.nd rfl (by first | exact Or.inl rfl | exact Or.inr rfl) (pe_callD D_law_product (hr.mono (by decide)) rfl pass0 (pa_cons (pv 1) (pa_cons (pv 3) (pa_cons (pv 5) pa_nil))))) (pss_one (ps_if (PW.pt (pw_and (pt_chain op_lt op_lt pe_int (pe_callB call_lenD (by rfl) T.b_len (by decide +kernel) (pa_cons (pv 7) pa_nil)) pe_int) (pw_and1 (pt_cmpR op_lt (pe_callB (r := rMax K) (cr_max rfl) (by rfl) T.b_max (by decide +kernel) (pa_cons (pe_lockR (pe_lc (own := [("_law_word_here", 8)]) (g := (gName 8)) (tt := tYes) rfl sc_law_woven.nd (pi_keys (pv 7)) (blkOk_by (N := N_law_woven) (sc := defScope s_law_woven) (by decide +kernel)) (fun _ _ _ _ _ => (pg_name (i := 8) sc_law_woven.nd rfl (by first | exact Or.inl rfl | exact Or.inr rfl))) (fun _ _ _ _ _ => pts_nil) (fun _ _ _ _ _ => (pe_callB call_len_str (by rfl) T.b_len (by decide +kernel) (pa_cons (pv 8) pa_nil))))) pa_nil)) pe_int (nomark _))))) (pss_one (ps_set (i := 3) sc_law_woven.nd rfl (by first | exact Or.inl rfl | exact Or.inr rfl) (pv 7))) pss_nil)))))) (pss_one (ps_ret (pv 3))))), ?_⟩; rw [st_law_woven]; (try dsimp only [cxOf]); walk_at "go"
    intro d hd
    walk_at "go"
    obtain ⟨hdh, hdc⟩ := hh.new hd
    refine ⟨h, c, p - 1, rfl, hh.upd hdh hdc, by omega, by omega, fun v H1 hv0 hv1 e1 hh1 => ?_⟩
    walk_at "go"
    have h1d := e1 _ _ hdh (upd_same (H := H) (a := d) (o := .dK []))
    refine ⟨h1d, toK [("", 1 + v)], rfl, Nat.le_of_ble_eq_true rfl, ?_⟩
    rw [mergeK_toK (s := [("", 1 + v)]) (show ([""] : List Str).Nodup by decide +kernel)]
    walk_at "go"
    have hhd : HandAt (upd H1 d (.dK (toK [("", 1 + v)]))) h c := hh1.upd hdh hdc
    refine ⟨h, c, m, rfl, hhd, hm0, by omega, fun v2 H2 hw0 hw1 e2 hh2 => ?_⟩
    walk_at "go"
    refine ⟨by omega, by omega, ?_⟩
    have e02 : ExB h H H2 := fun a o hne q => e2 _ _ hne (by rw [upd_ne (ne_of_none q hd)]; exact e1.one hd a o hne q)
    refine forG walk_range (fun i σ' H' => ∃ df s, (∃ x4 x5 x6 x7 x8, σ' = [some (.ref h), some (.int p), some (.int m), some (.ref df), x4, x5, x6, x7, x8]) ∧ ExB h H H' ∧ HandAt H' h c ∧ H df = none ∧ H' df = some (.dK (toK s)) ∧ Lot p s 120 7)
      ⟨d, [("", 1 + v)], ⟨none, none, none, none, none, rfl⟩, e02, hh2, hd, e2 _ _ hdh upd_same, Lot.of (show ([""] : List Str).Nodup by decide +kernel) (Nat.le_of_ble_eq_true rfl) (fun u hu => by
        rw [show u = ("" : Str) from List.mem_singleton.mp hu]; exact ⟨by decide, rfl⟩) (fun kv hkv => by rw [List.mem_singleton.mp hkv]; dsimp only; omega)⟩ (fun _ _ _ _ _ => trivial) ?_ ?_
    · rintro i x σ' H3 H4 hi ⟨df, s, ⟨x4, x5, x6, x7, x8, rfl⟩, e3, hh3, hdf, hs, hl⟩ ⟨rfl, rfl⟩
      have hsame : ∀ {H5 : Hp}, ExB h H4 H5 → H5 df = some (.dK (toK s)) := fun e => e _ _ (fun q => by subst q; obtain ⟨xs, hx⟩ := hh3.kind; rw [hs] at hx; cases hx) hs
      refine g_name ?_
      refine g_cut (R := fun σ' H' => ∃ d1 s1 x4 x6 x7 x8, σ' = [some (.ref h), some (.int p), some (.int m), some (.ref df), x4, some (.ref d1), x6, x7, x8] ∧ ExB h H4 H' ∧ HandAt H' h c ∧ H4 d1 = none ∧ H' d1 = some (.dK (toK s1)) ∧ Lot p s1 3 2) (fun N hN => ?_) ?_
      · walk_at "go"
        refine ⟨h, c, p, rfl, hh3, hp0, hp1, fun d1 s1 H5 e5 hd1 hs1 hl1 hh5 => ?_⟩
        exact hN _ _ ⟨d1, s1, _, _, _, _, rfl, e5, hh5, hd1, hs1, hl1⟩
      rintro σ' H5 ⟨d1, s1, y4, y6, y7, y8, rfl, e5, hh5, hd1, hs1, hl1⟩
      refine g_cut (R := fun σ' H' => ∃ d1 s1 x4 x6 x7 x8, σ' = [some (.ref h), some (.int p), some (.int m), some (.ref df), x4, some (.ref d1), x6, x7, x8] ∧ ExB h H4 H' ∧ HandAt H' h c ∧ H' d1 = some (.dK (toK s1)) ∧ Lot p s1 30 6) (fun N hN => ?_) ?_
      · walk_at "go"
        refine ⟨h, c, 3, rfl, hh5, by decide, by decide, fun v3 H6 _ _ e6 hh6 => ?_⟩
        have hd1h : d1 ≠ h := fun q => by subst q; obtain ⟨xs, hx⟩ := hh5.kind; rw [hs1] at hx; cases hx
        walk_at "go"
        refine g_ite (fun _ => ?_) fun _ => ?_
        · walk_at "go"
          refine ⟨h, c, p, rfl, hh6, hp0, hp1, fun d2 s2 H7 e7 hd2 hs2 hl2 hh7 => ?_⟩
          walk_at "go"
          have hs17 := e7 _ _ hd1h (e6 _ _ hd1h hs1)
          refine ⟨p, d2, d1, s2, s1, rfl, .inl hs2, .inl hs17, hl2.g.nd, hl1.g.nd, ?_, by omega, hl2.g.up (by omega), fun u hu => by have := (hl2.l u hu).1; omega, fun u hu => by have := (hl1.l u hu).1; omega, fun d3 H8 e8 hd3 hs3 => ?_⟩
          · exact Nat.lt_of_le_of_lt (Nat.mul_le_mul hl2.n hl1.n) (by decide)
          have hl3 : Lot p (prodS p s2 s1) 9 4 := Lot.prod (by omega) hl2 hl1
          walk_at "go"
          intro d4 hd4
          walk_at "go"
          refine ⟨upd_same, toK [("", 1)], rfl, Nat.le_of_ble_eq_true rfl, ?_⟩
          rw [mergeK_toK (s := [("", 1)]) (show ([""] : List Str).Nodup by decide +kernel)]
          walk_at "go"
          have hl4 : Lot p [(("" : Str), 1)] 1 0 := Lot.of (show ([""] : List Str).Nodup by decide +kernel) (Nat.le_of_ble_eq_true rfl) (fun u hu => by
            rw [show u = ("" : Str) from List.mem_singleton.mp hu]; exact ⟨by decide, rfl⟩) (fun kv hkv => by rw [List.mem_singleton.mp hkv]; dsimp only; omega)
          have e84 : Ex H8 (upd (upd H8 d4 (.dK [])) d4 (.dK (toK [("", 1)]))) := Ex.mut (Ex.new hd4) hd4
          refine ⟨p, d3, d4, _, _, 1, rfl, .inl (e84 _ _ hs3), .inl upd_same, hl4.g.nd, ?_, by omega, by decide, fun d5 H9 e9 hd5 hs5 => ?_⟩
          · have := hl3.n; show _ + 1 < _; omega
          have hl5 : Lot p (plusS p (prodS p s2 s1) [("", 1)] 1) 10 4 := Lot.plus (by omega) hl3 hl4 (Nat.le_refl _) (by decide)
          walk_at "go"
          have e79 : Ex H7 H9 := (e8.trans e84).trans e9
          refine ⟨p, d1, d5, s1, _, rfl, .inl (e79 _ _ hs17), .inl hs5, hl1.g.nd, hl5.g.nd, ?_, by omega, hl1.g.up (by omega), fun u hu => by have := (hl1.l u hu).1; omega, fun u hu => by have := (hl5.l u hu).1; omega, fun d6 H10 e10 hd6 hs6 => ?_⟩
          · exact Nat.lt_of_le_of_lt (Nat.mul_le_mul hl1.n hl5.n) (by decide)
          walk_at "go"
          exact hN _ _ ⟨d6, _, _, _, _, _, rfl, ((e5.trans e6).trans e7).trans (e79.trans e10).exb, hh7.ex' (e79.trans e10), hs6, Lot.prod (by omega) hl1 hl5⟩
        · walk_at "go"
          exact hN _ _ ⟨d1, s1, _, _, _, _, rfl, e5.trans e6, hh6, e6 _ _ hd1h hs1, hl1.mono (by decide) (by decide)⟩
      rintro σ' H6 ⟨d2, s2, z4, z6, z7, z8, rfl, e6, hh6, hs2, hl2⟩
      walk_at "go"
      have hdf6 := hsame e6
      refine ⟨p, df, d2, s, s2, rfl, .inl hdf6, .inl hs2, hl.g.nd, hl2.g.nd, ?_, by omega, hl.g.up (by omega), fun u hu => by have := (hl.l u hu).1; omega, fun u hu => by have := (hl2.l u hu).1; omega, fun d3 H7 e7 hd3 hs3 => ?_⟩
      · exact Nat.lt_of_le_of_lt (Nat.mul_le_mul hl.n hl2.n) (by decide)
      have hl3 : Lot p (prodS p s s2) 3600 13 := Lot.prod (by omega) hl hl2
      have e37 : ExB h H H7 := (e3.trans e6).trans e7.exb
      have hh7 := hh6.ex' e7
      have hd3H : H d3 = none := by
        cases q : H d3 with
        | none => rfl
        | some o =>
          have := (e3.trans e6) d3 o (fun e => by subst e; obtain ⟨xs, hx⟩ := hh6.kind; rw [hd3] at hx; cases hx) q
          rw [hd3] at this
          cases this
      have hstay : ∀ x4 x5 x6 x7 x8, ∃ df' s', (∃ x4' x5' x6' x7' x8', [some (.ref h), some (.int p), some (.int m), some (.ref df), x4, x5, x6, x7, x8] = [some (.ref h), some (.int p), some (.int m), some (V.ref df'), x4', x5', x6', x7', x8']) ∧ ExB h H H7 ∧ HandAt H7 h c ∧ H df' = none ∧ H7 df' = some (.dK (toK s')) ∧ Lot p s' 120 7 :=
        fun x4 x5 x6 x7 x8 => ⟨df, s, ⟨_, _, _, _, _, rfl⟩, e37, hh7, hdf, e7 _ _ hdf6, hl⟩
      walk_at "go"
      refine ⟨d3, _, rfl, hs3, ?_⟩
      rw [toK_len]
      walk_at "go"
      by_cases c1 : (0 : Int) < ((prodS p s s2).length : Int)
      · rw [decide_eq_true c1]
        walk_at "go"
        by_cases c2 : ((prodS p s s2).length : Int) < 121
        · rw [decide_eq_true c2]
          walk_at "go"
          refine lcd_rel (.inl hs3) (line5 (by omega)) (fun H' Q' _ q => ⟨_, rfl, q⟩) (fun e y H => y = V.int e.1.length) (fun e y H H' t h1 => h1) (fun _ => rfl) ?_ ?_
          · intro i z n H1 Kc hi le hk
            walk_at "go"
            have := (hl3.l z (mem_keys.mpr ⟨n, mem_fr hi⟩)).1
            refine ⟨z, rfl, line5 (by omega), ?_⟩
            exact hk _ _ (Ex.refl _) rfl
          · intro D H8 ys hD e8 hl8 hp8
            have hys := paired_map (G := fun e : Str × Int => V.int e.1.length) hp8
            subst hys
            walk_at "go"
            have hl8' : H8 D = some (.lst (((prodS p s s2).map fun e => ((e.1.length : Nat) : Int)).map V.int)) := by rw [hl8, List.map_map]; rfl
            refine ⟨D, _, rfl, SqL.of hl8', by rw [List.length_map]; omega, fun mx hmx hall => ?_⟩
            walk_at "go"
            by_cases c3 : mx < 8
            · rw [decide_eq_true c3]
              walk_at "go"
              refine ⟨d3, _, ⟨_, _, _, _, _, rfl⟩, e37.trans e8.exb, hh7.ex' e8, hd3H, e8 _ _ hs3, ⟨hl3.g, by omega, fun u hu => ⟨?_, (hl3.l u hu).2⟩⟩⟩
              obtain ⟨n, hn⟩ := mem_keys.mp hu
              have := hall ((u.length : Nat) : Int) (List.mem_map.mpr ⟨(u, n), hn, rfl⟩)
              omega
            · rw [decide_eq_false c3]
              walk_at "go"
              exact ⟨df, s, ⟨_, _, _, _, _, rfl⟩, e37.trans e8.exb, hh7.ex' e8, hdf, e8 _ _ (e7 _ _ hdf6), hl⟩
        · rw [decide_eq_false c2]
          walk_at "go"
          exact hstay _ _ _ _ _
      · rw [decide_eq_false c1]
        walk_at "go"
        exact hstay _ _ _ _ _
    · rintro σ' H3 ⟨df, s, ⟨x4, x5, x6, x7, x8, rfl⟩, e3, hh3, hdf, hs, hl⟩
      walk_at "go"
      exact k df s H3 e3 hdf hs hl hh3
theorem ok_law_some {f : Addr} {fd : FuncData} (F : Fun K "_law_some" "_law_some" s_law_some f fd) (T : Txt K mg C_Bag Cs) (D_law_draw : DefOk P w K mg base CX0 1 "_law_draw" ["_law_hand_here", "_law_many"] sp_law_draw)
    (D_law_small : DefOk P w K mg base CX0 2 "_law_small" ["_law_hand_here", "_law_clock_here"] sp_law_small) (D_law_lot : DefOk P w K mg base CX0 3 "_law_lot" ["_law_hand_here", "_law_clock_here", "_law_letters", "_law_most", "_law_many"] sp_law_lot)
    (D_law_woven : DefOk P w K mg base CX0 3 "_law_woven" ["_law_hand_here", "_law_clock_here", "_law_most"] sp_law_woven) : FnOk P w K mg base CX0 4 f fd ["_law_hand_here", "_law_clock_here"] sp_law_some := by
  refine F.ok sc_law_some (fun vs H Q E h => ?_) (fun cdv A outer s H vs Q E hr h => ?_)
  · obtain ⟨h, c, p, rfl, _⟩ := h
    rfl
  · obtain ⟨h, c, p, rfl, hh, hp0, hp1, k⟩ := h
    have hu := hu_of hr; have hu64 := L2.Room.units hr; refine ⟨_, (pss_cons (ps_set (i := 2) sc_law_some.nd rfl (by first | exact Or.inl rfl | exact Or.inr rfl) (pe_callD D_law_draw (hr.mono (by decide)) rfl pass0 (pa_cons (pv 0) (pa_cons pe_int pa_nil)))) (pss_cons (ps_if (pt_cmpR op_eq (pv 2) pe_int (nomark _)) (pss_one (ps_ret (pe_callD D_law_lot (hr.mono (by decide)) rfl pass0 (pa_cons (pv 0) (pa_cons (pv 1) (pa_cons pe_str (pa_cons pe_int (pa_cons pe_int pa_nil)))))))) pss_nil) (pss_cons (ps_if (pt_cmpR op_eq (pv 2) pe_int (nomark _)) (pss_one (ps_ret (pe_callD D_law_lot (hr.mono (by decide)) rfl pass0 (pa_cons (pv 0) (pa_cons (pv 1) (pa_cons pe_str (pa_cons pe_int (pa_cons pe_int pa_nil)))))))) pss_nil) (pss_cons (ps_if (pt_cmpR op_eq (pv 2) pe_int (nomark _)) (pss_one (ps_ret (pe_callD D_law_small (hr.mono (by decide)) rfl pass0 (pa_cons (pv 0) (pa_cons (pv 1) pa_nil))))) pss_nil) (pss_one (ps_ret (pe_callD D_law_woven (hr.mono (by decide)) rfl pass0 (pa_cons (pv 0) (pa_cons (pv 1) (pa_cons pe_int pa_nil)))))))))), ?_⟩; rw [st_law_some]; (try dsimp only [cxOf]); walk_at "go"
    refine ⟨h, c, 6, rfl, hh, by decide, by decide, fun v H1 hv0 hv1 e1 hh1 => ?_⟩
    have hn : ∀ d, H1 d = none → H d = none := fun p h1 => by
      cases q : H p with
      | none => rfl
      | some o =>
        by_cases hph : p = h
        · subst hph; obtain ⟨xs, hx⟩ := hh1.kind; rw [h1] at hx; cases hx
        · rw [e1 p o hph q] at h1; cases h1
    walk_at "go"
    refine g_ite (fun _ => ?_) fun _ => ?_
    · walk_at "go"
      refine ⟨h, c, p, "xy", 3, 6, rfl, hh1, hp0, hp1, by decide, by decide, by decide +kernel, by decide, by decide, fun d s H' e hd hs hl hh' => ?_⟩
      exact k d s H' (e1.trans e) (hn _ hd) hs (hl.mono (by decide) (by decide)) hh'
    walk_at "go"
    refine g_ite (fun _ => ?_) fun _ => ?_
    · walk_at "go"
      refine ⟨h, c, p, "xyz", 4, 5, rfl, hh1, hp0, hp1, by decide, by decide, by decide +kernel, by decide, by decide, fun d s H' e hd hs hl hh' => ?_⟩
      exact k d s H' (e1.trans e) (hn _ hd) hs (hl.mono (by decide) (by decide)) hh'
    walk_at "go"
    refine g_ite (fun _ => ?_) fun _ => ?_
    · walk_at "go"
      refine ⟨h, c, p, rfl, hh1, hp0, hp1, fun d s H' e hd hs hl hh' => ?_⟩
      exact k d s H' (e1.trans e) (hn _ hd) hs (hl.mono (by decide) (by decide)) hh'
    walk_at "go"
    refine ⟨h, c, p, 3, rfl, hh1, hp0, hp1, by decide, by decide, fun d s H' e hd hs hl hh' => ?_⟩
    exact k d s H' (e1.trans e) (hn _ hd) hs hl hh'

end
end Fp

namespace Fp
open PySem L2
section
variable {P : Program} {w : World} {K : PySem.W.Frag} {mg : Str → Option Value} {base : Heap} {C_Bag : Addr} {Cs : Addr → Prop}
local macro_rules | `(tactic| walk_at "hp") => `(tactic| first | assumption | rfl)
local macro_rules | `(tactic| walk_at "cond") => `(tactic| first | assumption | decide | omega | (unfold CMul; omega) | (refine ⟨?_, ?_⟩ <;> omega) | (unfold CDiv; omega) | (unfold CPow; omega))
local macro_rules | `(tactic| walk_at "g1") => `(tactic| first
  | with_reducible first
    | refine g_seq ?_ | refine g_asg ?_ | refine g_name ?_ | refine g_ret ?_ | refine g_retN ?_ | refine g_drop ?_ | refine g_ifs ?_
    | refine g_c ?_ | refine g_op ?_ | refine g_un ?_ | refine g_I0 ?_ | refine g_U ?_
    | refine g_test ?_ | refine g_tB ?_ | refine g_bl ?_ | refine g_and ?_ | refine g_or ?_ | refine g_not ?_
    | refine g_andV ?_ | refine g_orV ?_ | refine g_notV ?_ | refine g_if ?_ | refine g_nil ?_ | refine g_cons ?_ | refine g_cb ?_ | refine g_call ?_
    | refine g_lst ?_ | refine g_tup ?_ | refine g_itT ?_ | refine g_itF ?_ | refine g_itNT ?_ | refine g_itNF ?_ | refine g_lc ?_ | refine g_iStr ?_ | refine g_yes ?_ | refine g_exs ?_
    | refine g_chain ?_ | refine g_dget ?_ | refine g_dput ?_ | refine g_dget2 ?_ | refine g_dpop2 ?_ | refine g_fld ?_ | refine g_sfld ?_ | refine g_make ?_ | refine g_meth ?_
    | refine g_bm ?_ | refine g_kw ?_ | refine g_callS ?_ | refine g_revL ?_ | refine g_m1 ?_ | refine g_gsub ?_ | refine g_for ?_ | refine g_iList ?_ | refine g_iTup ?_ | refine g_iRng1 ?_ | refine g_iRng2 ?_ | refine g_sl ?_ | refine g_part ?_ | refine g_noPart ?_
    | refine g_exi ?_ | refine g_exr ?_ | refine g_dnew ?_ | refine g_disp ?_ | refine g_prs0 ?_ | refine g_prs ?_ | refine g_nxt ?_
  | ((with_reducible refine g_var (v := ?vv) ?gv ?_); (case gv => exact rfl))
  | ((with_reducible refine g_I ?gc ?_); (case gc => walk_at "cond"))
  | ((with_reducible refine g_eq ?ge ?_); (case ge => exact rfl))
  | ((with_reducible refine g_ne ?ge ?_); (case ge => exact rfl))
  | (refine g_ixl (SqL.of (by first | assumption | exact upd_same)) rfl ?_)
  | (refine g_setl (by first | assumption | exact upd_same) rfl ?_)
  | ((with_reducible show (∃ i, [V.int _] = [V.int i] ∧ _) ∨ _); refine Or.inl ⟨_, rfl, ?_⟩)
  | ((with_reducible show ∃ i, [V.int _] = [V.int i] ∧ _); refine ⟨_, rfl, ?_⟩)
  | dsimp only)
local macro_rules | `(tactic| walk_at "go") => `(tactic| repeat (walk_at "g1"))

/-! ### the bags -/
structure KeyFn (K : PySem.W.Frag) (mg : Str → Option Value) : Prop where
  ex : ∃ f fd, Fun K "ahead_key" "ahead_key" s_ahead_key f fd ∧ mg "ahead_key" = some (.ref f) ∧ Binds K fd ["word"] []
theorem ok_words_in_order {f : Addr} {fd : FuncData} (F : Fun K "words_in_order" "words_in_order" s_words_in_order f fd) (T : Txt K mg C_Bag Cs) (KF : KeyFn K mg) : FnOk P w K mg base CX0 4 f fd ["sparse"] sp_law_order := by
  refine F.ok sc_words_in_order (fun vs H Q E h => ?_) (fun cdv A outer s H vs Q E hr h => ?_)
  · obtain ⟨d, s, rfl, _⟩ := h
    rfl
  · obtain ⟨d, s, rfl, hd, hz, hw, k⟩ := h
    obtain ⟨f_ahead_key, fd_ahead_key, F_ahead_key, M_ahead_key, B_ahead_key⟩ := KF.ex
    have hu := hu_of hr; have hu64 := L2.Room.units hr; refine ⟨_, (pss_one (ps_ret (pe_callBK (cr_sortedKey F_ahead_key sc_ahead_key rfl rfl rfl rfl B_ahead_key T.b_len (hr.mono (by decide))) (by rfl) T.b_sorted (by decide +kernel) (pa_cons (pe_callTy (call_listD rfl) (by rfl) T.b_list (by decide +kernel) (pa_cons (pv 0) pa_nil)) pa_nil) (pk_cons (pe_glob (v := .ref f_ahead_key) rfl M_ahead_key rfl) pk_nil)))), ?_⟩; rw [st_words_in_order]; (try dsimp only [cxOf]); walk_at "go"
    refine ⟨d, toK s, rfl, hd, fun p hp => ?_⟩
    rw [toK_keys]
    walk_at "go"
    refine ⟨p, keys s, rfl, rfl, SqL.of upd_same, fun w hw' => line5 (hw w hw'), fun q hq => ?_⟩
    exact k q _ ((Ex.new hp).trans (Ex.new hq)) ((Ex.new hp).free hq) upd_same
def sp_are_words : Sp := fun vs H Q _ => ∃ (p : Int) (d : Addr) (s : Bg), vs = [.int p, .ref d] ∧ H d = some (.dK (toK s)) ∧ Lot p s 300 12 ∧ ∀ H', Ex H H' → Q (.bl true) H'
theorem ok_are_words {f : Addr} {fd : FuncData} (F : Fun K "are_words" "are_words" s_are_words f fd) (T : Txt K mg C_Bag Cs) (D_is_short_word : DefOk P w K mg base CX0 2 "is_short_word" ["thing"] (sp_is_short_word K)) (D_is_within : DefOk P w K mg base CX0 2 "is_within" ["thing", "least", "most"] (sp_is_within K)) : FnOk P w K mg base CX0 3 f fd ["clock", "thing"] sp_are_words := by
  refine F.ok sc_are_words (fun vs H Q E h => ?_) (fun cdv A outer s H vs Q E hr h => ?_)
  · obtain ⟨p, d, s, rfl, _⟩ := h
    rfl
  · obtain ⟨p, d, s, rfl, hd, hl, k⟩ := h
    obtain ⟨tM, T_MOST_WORDS⟩ := T.g_MOST_WORDS
    have hu := hu_of hr; have hu64 := L2.Room.units hr; refine ⟨_, (pss_cons (ps_if (PW.pt (pw_or (pt_not (pt_val (pe_callB (r := rIsi K) call_isi (by rfl) T.b_isinstance (by decide +kernel) (pa_cons (pv 1) (pa_cons (pe_bltn (v := .ty "dict") rfl T.b_dict (by decide +kernel) rfl) pa_nil))))) (pw_or1 (pt_cmpR op_gt (pe_callB call_lenD (by rfl) T.b_len (by decide +kernel) (pa_cons (pv 1) pa_nil)) (pe_glob (v := .int 300) rfl T_MOST_WORDS ⟨_, rfl⟩) (nomark _))))) (pss_one (ps_ret pe_bl)) pss_nil) (pss_one (ps_ret (pe_callB (r := rAll K) (cr_all rfl) (by rfl) T.b_all (by decide +kernel) (pa_cons (pe_lockR (pe_lc (own := [("word", 2)]) (g := (gName 2)) (tt := tYes) rfl sc_are_words.nd (pi_keys (pv 1)) (blkOk_by (N := N_are_words) (sc := defScope s_are_words) (by decide +kernel)) (fun _ _ _ _ _ => (pg_name (i := 2) sc_are_words.nd rfl (by first | exact Or.inl rfl | exact Or.inr rfl))) (fun _ _ _ _ _ => pts_nil) (fun _ _ _ _ _ => (pe_and (pe_callD D_is_short_word (hr.mono (by decide)) rfl pass0 (pa_cons (pv 2) pa_nil)) (pe_one (pe_callD D_is_within (hr.mono (by decide)) rfl pass0 (pa_cons (pe_dget hu (pv 1) (pv 2) (fun _ _ => rfl)) (pa_cons pe_int (pa_cons (pe_op op_sub (pv 0) pe_int) pa_nil))))))))) pa_nil))))), ?_⟩; rw [st_are_words]; (try dsimp only [cxOf]); walk_at "go"
    refine g_isi (n := "dict") (t := .type "dict") (b := true) (.base (.dK hd)) (kit_ty (by decide +kernel)) ?_
    walk_at "go"
    refine ⟨d, _, rfl, hd, ?_⟩
    rw [toK_len]
    walk_at "go"
    have h3 : ¬ ((300 : Int) < (s.length : Int)) := by have := hl.n; omega
    rw [decide_eq_false h3]
    walk_at "go"
    refine lcd_rel (.inl hd) (line5 (Nat.le_trans hl.n (by decide))) (fun H' Q' _ q => ⟨_, rfl, q⟩) (fun e y H => y = V.bl true) (fun e y H H' t h1 => h1) (fun _ => rfl) ?_ ?_
    · intro i z n H1 Kc hi le hk
      obtain ⟨l1, l2⟩ := hl.l z (mem_keys.mpr ⟨n, mem_fr hi⟩)
      have hsw : isSW z = true := by unfold isSW; rw [l2, decide_eq_true l1]; rfl
      walk_at "go"
      refine ⟨_, true, rfl, .inl ⟨z, rfl, by omega, hsw.symm⟩, fun H2 e2 => ?_⟩
      walk_at "go"
      refine g_dg (e2.rd le.self) (getS_at hl.g.nd hi) ?_
      walk_at "go"
      have c1 := hl.g.lo _ (mem_fr hi)
      have c2 := hl.g.hi _ (mem_fr hi)
      dsimp only at c1 c2
      refine ⟨_, 1, p - 1, true, rfl, .inl ⟨n, rfl, ?_⟩, hk _ _ e2 rfl⟩
      rw [decide_eq_true (by omega : (1 : Int) ≤ n), decide_eq_true (by omega : n ≤ p - 1)]
      rfl
    · intro D H1 ys hD e hl1 hp
      have hys := paired_map (G := fun e : Str × Int => V.bl true) hp
      subst hys
      walk_at "go"
      refine ⟨D, s.map fun _ => true, rfl, SqL.of (by rw [hl1, List.map_map]; rfl), ?_⟩
      have : (s.map fun _ => true).all id = true := by rw [List.all_map]; exact List.all_eq_true.mpr fun _ _ => rfl
      rw [this]
      exact k _ e
theorem putF_len (f : Str) (v : V) : ∀ fs : List (Str × V), (putF f v fs).length ≤ fs.length + 1
  | [] => Nat.le_refl _
  | q :: r => by
    obtain ⟨g, u⟩ := q
    unfold putF
    split
    · simp
    · have := putF_len f v r
      simp only [List.length_cons]
      omega
theorem putF_lt {n k : Nat} (h : n ≤ k) (hk : k < 1000) : n < 1000 := Nat.lt_of_le_of_lt h hk
def sp_keep (Cs : Addr → Prop) : Sp := fun vs H Q _ => ∃ (x d : Addr) (p : Int) (s : Bg) (C dx : Addr), vs = [.ref x, .int p, .ref d] ∧ H x = some (.ins C dx []) ∧ Cs C ∧ H d = some (.dK (toK s)) ∧ s.length ≤ 10000000 ∧ (∀ u ∈ keys s, u.length ≤ 10000000) ∧ (keys s).Nodup ∧
  ∀ k t H', ExB x H H' → H' x = some (.ins C dx (bagF p d k t)) → WordsAt H' t (wordsS s) → Q .non H'
theorem ok_keep {f : Addr} {fd : FuncData} (F : Fun K "keep" "Bag.keep" s_Bag_keep f fd) (T : Txt K mg C_Bag Cs) (D_words_in_order : DefOk P w K mg base CX0 4 "words_in_order" ["sparse"] sp_law_order) : FnOk P w K mg base CX0 5 f fd ["self", "clock", "sparse"] (sp_keep Cs) := by
  refine F.ok sc_Bag_keep (fun vs H Q E h => ?_) (fun cdv A outer s H vs Q E hr h => ?_)
  · obtain ⟨x, d, p, s, C, dx, rfl, _⟩ := h
    rfl
  · obtain ⟨x, d, p, s, C, dx, rfl, hx, hc, hd, hz, hw, hn, k⟩ := h
    have hxd : d ≠ x := fun e => by subst e; rw [hx] at hd; cases hd
    have hu := hu_of hr; have hu64 := L2.Room.units hr; refine ⟨_, (pss_cons (ps_fld (pv 0) (pv 1) rfl) (pss_cons (ps_fld (pv 0) (pv 2) rfl) (pss_cons (ps_fld (pv 0) pe_dnewK rfl) (pss_one (ps_fld (pv 0) (pe_callTy (r := rTupleZ K) call_tupleZ (by rfl) T.b_tuple (by decide +kernel) (pa_cons (pe_lc (own := [("word", 3)]) (g := (gName 3)) (tt := tYes) rfl sc_Bag_keep.nd (pi_list (pe_callD D_words_in_order (hr.mono (by decide)) rfl pass0 (pa_cons (pv 2) pa_nil))) (blkOk_by (N := N_Bag_keep) (sc := defScope s_Bag_keep) (by decide +kernel)) (fun _ _ _ _ _ => (pg_name (i := 3) sc_Bag_keep.nd rfl (by first | exact Or.inl rfl | exact Or.inr rfl))) (fun _ _ _ _ _ => pts_nil) (fun _ _ _ _ _ => (pe_tup (pa_cons (pv 3) (pa_cons (pe_dget hu (pv 2) (pv 3) (fun _ _ => rfl)) pa_nil))))) pa_nil)) rfl))))), ?_⟩; rw [st_Bag_keep]; (try dsimp only [cxOf]); walk_at "go"
    refine ⟨x, C, dx, _, rfl, hx, T.cls C hc, T.n_clock C hc, by decide, ?_⟩
    walk_at "go"
    refine ⟨x, C, dx, _, rfl, upd_same, T.cls C hc, T.n_sparse C hc, putF_lt (putF_len _ _ _) (by decide), ?_⟩
    rw [upd_upd]
    walk_at "go"
    intro k1 hk1
    have hk1x : k1 ≠ x := fun e => by subst e; rw [upd_same] at hk1; cases hk1
    walk_at "go"
    refine ⟨x, C, dx, _, rfl, by rw [upd_ne (Ne.symm hk1x)]; exact upd_same, T.cls C hc, T.n_kept C hc, putF_lt (Nat.le_trans (putF_len _ _ _) (Nat.succ_le_succ (putF_len _ _ _))) (by decide), ?_⟩
    walk_at "go"
    have e0 : ExB x H (upd (upd (upd H x (.ins C dx (putF "sparse" (V.ref d) (putF "clock" (V.int p) [])))) k1 (.dK [])) x (.ins C dx (putF "kept" (V.ref k1) (putF "sparse" (V.ref d) (putF "clock" (V.int p) []))))) := (((ExB.refl x H).upd).new hk1).upd
    have hx0 := upd_same (H := upd (upd H x (.ins C dx (putF "sparse" (V.ref d) (putF "clock" (V.int p) [])))) k1 (.dK [])) (a := x) (o := .ins C dx (putF "kept" (V.ref k1) (putF "sparse" (V.ref d) (putF "clock" (V.int p) []))))
    generalize upd (upd (upd H x (.ins C dx (putF "sparse" (V.ref d) (putF "clock" (V.int p) [])))) k1 (.dK [])) x (.ins C dx (putF "kept" (V.ref k1) (putF "sparse" (V.ref d) (putF "clock" (V.int p) [])))) = H0 at e0 hx0 ⊢
    have hd0 := e0 _ _ hxd hd
    refine ⟨d, s, rfl, .inl hd0, hz, hw, fun l H1 e1 hl1 hl => ?_⟩
    walk_at "go"
    refine ⟨⟨_, SqL.of hl⟩, ?_⟩
    have hlen : (ordW (keys s)).length = s.length := by rw [ordW_len]; unfold keys; rw [List.length_map]
    refine lc_rel (j := 3) walk_list (ordW (keys s)) (by rw [List.length_map]) (by rw [List.length_map, hlen]; exact line5 hz) (fun H' e => SqL.of (e _ _ hl)) (fun z y H => ∃ a, y = V.ref a ∧ H a = some (.tup [.str z, .int (cf s z)])) (fun e y H H' t ⟨a, h1, h2⟩ => ⟨a, h1, t _ _ h2⟩) (fun _ => rfl) ?_ ?_
    · rintro i x z H2 H3 Kc hi e2 ⟨rfl, hx⟩ hz2 hk
      rw [List.getElem?_map, hz2] at hx
      obtain rfl := (Option.some.inj hx).symm
      walk_at "go"
      refine g_dg (.inl ((e1.trans e2) _ _ hd0)) (getS_cf ((ordW_perm _).mem_iff.mp (List.mem_of_getElem? hz2))) ?_
      walk_at "go"
      exact ⟨Nat.le_of_ble_eq_true rfl, fun q hq => hk _ _ (Ex.new hq) ⟨q, rfl, upd_same⟩⟩
    · intro D H2 ys hD e2 hlD hp
      obtain ⟨as, rfl, hp'⟩ := paired_refs hp
      walk_at "go"
      refine ⟨D, _, rfl, SqL.of hlD, fun t o ht ho => ?_⟩
      have e3 : Ex H0 (upd H2 t (.frz o (.tup (as.map V.ref)))) := (e1.trans e2).trans (Ex.new ht)
      have htx : t ≠ x := Ne.symm (ne_of_none ((e1.trans e2) _ _ hx0) ht)
      walk_at "go"
      refine ⟨x, C, dx, _, rfl, e3 _ _ hx0, T.cls C hc, T.n_words C hc, putF_lt (Nat.le_trans (putF_len _ _ _) (Nat.succ_le_succ (Nat.le_trans (putF_len _ _ _) (Nat.succ_le_succ (putF_len _ _ _))))) (by decide), ?_⟩
      refine k k1 t _ ((e0.trans e3.exb).upd) (by rw [upd_same, bagF_made]) ⟨as, o, by rw [upd_ne htx]; exact upd_same, ho, Paired.mapP (pairs_at hp') fun a b q => ?_⟩
      have hax : a ≠ x := fun e => by
        subst e
        have h1 := (e1.trans e2) _ _ hx0
        rw [h1] at q
        cases q
      rw [upd_ne hax]
      exact Ex.new ht _ _ q

end
end Fp

namespace Fp
open PySem L2
section
variable {P : Program} {w : World} {K : PySem.W.Frag} {mg : Str → Option Value} {base : Heap} {C_Bag : Addr} {Cs : Addr → Prop}
local macro_rules | `(tactic| walk_at "hp") => `(tactic| first | assumption | rfl)
local macro_rules | `(tactic| walk_at "cond") => `(tactic| first | assumption | decide | omega | (unfold CMul; omega) | (refine ⟨?_, ?_⟩ <;> omega) | (unfold CDiv; omega) | (unfold CPow; omega))
local macro_rules | `(tactic| walk_at "g1") => `(tactic| first
  | with_reducible first
    | refine g_seq ?_ | refine g_asg ?_ | refine g_name ?_ | refine g_ret ?_ | refine g_retN ?_ | refine g_drop ?_ | refine g_ifs ?_
    | refine g_c ?_ | refine g_op ?_ | refine g_un ?_ | refine g_I0 ?_ | refine g_U ?_
    | refine g_test ?_ | refine g_tB ?_ | refine g_bl ?_ | refine g_and ?_ | refine g_or ?_ | refine g_not ?_
    | refine g_andV ?_ | refine g_orV ?_ | refine g_notV ?_ | refine g_if ?_ | refine g_nil ?_ | refine g_cons ?_ | refine g_cb ?_ | refine g_call ?_
    | refine g_lst ?_ | refine g_tup ?_ | refine g_itT ?_ | refine g_itF ?_ | refine g_itNT ?_ | refine g_itNF ?_ | refine g_lc ?_ | refine g_iStr ?_ | refine g_yes ?_ | refine g_exs ?_
    | refine g_chain ?_ | refine g_dget ?_ | refine g_dput ?_ | refine g_dget2 ?_ | refine g_dpop2 ?_ | refine g_fld ?_ | refine g_sfld ?_ | refine g_make ?_ | refine g_meth ?_
    | refine g_bm ?_ | refine g_kw ?_ | refine g_callS ?_ | refine g_revL ?_ | refine g_m1 ?_ | refine g_gsub ?_ | refine g_for ?_ | refine g_iList ?_ | refine g_iTup ?_ | refine g_iRng1 ?_ | refine g_iRng2 ?_ | refine g_sl ?_ | refine g_part ?_ | refine g_noPart ?_
    | refine g_exi ?_ | refine g_exr ?_ | refine g_dnew ?_ | refine g_disp ?_ | refine g_prs0 ?_ | refine g_prs ?_ | refine g_nxt ?_
  | ((with_reducible refine g_var (v := ?vv) ?gv ?_); (case gv => exact rfl))
  | ((with_reducible refine g_I ?gc ?_); (case gc => walk_at "cond"))
  | ((with_reducible refine g_eq ?ge ?_); (case ge => exact rfl))
  | ((with_reducible refine g_ne ?ge ?_); (case ge => exact rfl))
  | (refine g_ixl (SqL.of (by first | assumption | exact upd_same)) rfl ?_)
  | (refine g_setl (by first | assumption | exact upd_same) rfl ?_)
  | ((with_reducible show (∃ i, [V.int _] = [V.int i] ∧ _) ∨ _); refine Or.inl ⟨_, rfl, ?_⟩)
  | ((with_reducible show ∃ i, [V.int _] = [V.int i] ∧ _); refine ⟨_, rfl, ?_⟩)
  | dsimp only)
local macro_rules | `(tactic| walk_at "go") => `(tactic| repeat (walk_at "g1"))

def Clk (p : Int) : Prop := p = 2 ∨ p = 3 ∨ p = 5 ∨ p = 7
theorem Clk.lo {p : Int} (h : Clk p) : 2 ≤ p := by rcases h with h | h | h | h <;> omega
theorem Clk.hi {p : Int} (h : Clk p) : p ≤ 7 := by rcases h with h | h | h | h <;> omega
def sp_bag_init (C_Bag : Addr) (Cs : Addr → Prop) : Sp := fun vs H Q _ => ∃ (x d : Addr) (p : Int) (s : Bg) (dx : Addr), vs = [.ref x, .int p, .ref d] ∧ H x = some (.ins C_Bag dx []) ∧ Clk p ∧ H d = some (.dK (toK s)) ∧ Lot p s 300 12 ∧
  ∀ H', ExB x H H' → BagAt Cs H' x p s → Q .non H'
theorem ok_bag_init {f : Addr} {fd : FuncData} (F : Fun K "__init__" "Bag.__init__" s_Bag_init f fd) (T : Txt K mg C_Bag Cs) (D_is_clock : DefOk P w K mg base CX0 2 "is_clock" ["thing"] (sp_is_clock K))
    (D_are_words : DefOk P w K mg base CX0 3 "are_words" ["clock", "thing"] sp_are_words) (D_mt_Bag_keep : MtOk P w K mg base CX0 5 C_Bag "keep" ["self", "clock", "sparse"] (sp_keep Cs)) : FnOk P w K mg base CX0 6 f fd ["self", "clock", "words"] (sp_bag_init C_Bag Cs) := by
  refine F.ok sc_Bag_init (fun vs H Q E h => ?_) (fun cdv A outer s H vs Q E hr h => ?_)
  · obtain ⟨x, d, p, s, dx, rfl, _⟩ := h
    rfl
  · obtain ⟨x, d, p, s, dx, rfl, hx, hp, hd, hl, k⟩ := h
    have hxd : d ≠ x := fun e => by subst e; rw [hx] at hd; cases hd
    have hu := hu_of hr; have hu64 := L2.Room.units hr; refine ⟨_, (pss_cons (ps_if (pt_not (pt_val (pe_callD D_is_clock (hr.mono (by decide)) rfl pass0 (pa_cons (pv 1) pa_nil)))) (pss_one ps_never) pss_nil) (pss_cons (ps_if (pt_not (pt_val (pe_callD D_are_words (hr.mono (by decide)) rfl pass0 (pa_cons (pv 1) (pa_cons (pv 2) pa_nil))))) (pss_one ps_never) pss_nil) (pss_one (ps_expr (pe_mtD D_mt_Bag_keep (hr.mono (by decide)) pass0 (pv 0) (pa_cons (pv 1) (pa_cons (pe_callTy call_dictD (by rfl) T.b_dict (by decide +kernel) (pa_cons (pv 2) pa_nil)) pa_nil))))))), ?_⟩; rw [st_Bag_init]; (try dsimp only [cxOf]); walk_at "go"
    refine ⟨_, true, rfl, .inl ⟨p, rfl, (decide_eq_true (show p = 2 ∨ p = 3 ∨ p = 5 ∨ p = 7 from hp)).symm⟩, ?_⟩
    walk_at "go"
    refine ⟨p, d, s, rfl, hd, hl, fun H1 e1 => ?_⟩
    walk_at "go"
    refine ⟨x, dx, [], rfl, e1 _ _ hx, rfl, ?_⟩
    walk_at "go"
    refine ⟨d, toK s, rfl, .inl (e1 _ _ hd), fun d2 hd2 => ?_⟩
    walk_at "go"
    have hd2x : d2 ≠ x := Ne.symm (ne_of_none (e1 _ _ hx) hd2)
    refine ⟨x, d2, p, s, C_Bag, dx, rfl, Ex.new hd2 _ _ (e1 _ _ hx), T.c_base, upd_same, Nat.le_trans hl.n (by decide), fun u hu => Nat.le_trans (hl.l u hu).1 (by decide), hl.g.nd, fun k1 t H2 e2 h2 hw => ?_⟩
    exact k H2 ((e1.trans (Ex.new hd2)).exb.trans e2) ⟨C_Bag, dx, d2, k1, t, T.c_base, h2, e2 _ _ hd2x upd_same, hw⟩
/-- what == with a bag says -/
def EqIs (K : PySem.W.Frag) (C_Bag : Addr) (Cs : Addr → Prop) (H : Hp) (p : Int) (s : Bg) (y : V) (b : Bool) : Prop :=
  (∃ c q t, y = .ref c ∧ BagAt Cs H c q t ∧ b = (decide (p = q) && decide (wordsS s = wordsS t))) ∨ (∃ ty, TyX K H y ty ∧ PySem.W.kitOne K ty (.ref C_Bag) = some false ∧ b = false)
def sp_bag_eq (K : PySem.W.Frag) (C_Bag : Addr) (Cs : Addr → Prop) : Sp := fun vs H Q _ => ∃ (x : Addr) (p : Int) (s : Bg) (y : V) (b : Bool), vs = [.ref x, y] ∧ BagAt Cs H x p s ∧ EqIs K C_Bag Cs H p s y b ∧ Q (.bl b) H
theorem ok_bag_eq {f : Addr} {fd : FuncData} (F : Fun K "__eq__" "Bag.__eq__" s_Bag_eq f fd) (T : Txt K mg C_Bag Cs) : FnOk P w K mg base CX0 1 f fd ["self", "other"] (sp_bag_eq K C_Bag Cs) := by
  refine F.ok sc_Bag_eq (fun vs H Q E h => ?_) (fun cdv A outer s H vs Q E hr h => ?_)
  · obtain ⟨x, p, s, y, b, rfl, _⟩ := h
    rfl
  · obtain ⟨x, p, s, y, b, rfl, hx, he, k⟩ := h
    obtain ⟨C, dx, d, k1, t1, hc, h1, h2, h3⟩ := hx.ex
    have hu := hu_of hr; have hu64 := L2.Room.units hr; refine ⟨_, (pss_one (ps_ret (pe_and (pe_callB (r := rIsi K) call_isi (by rfl) T.b_isinstance (by decide +kernel) (pa_cons (pv 1) (pa_cons (pe_glob (v := .ref C_Bag) rfl T.c_Bag rfl) pa_nil))) (pe_and (pe_cmpR op_eq (pe_fldK (K := K) rfl (pv 0) rfl) (pe_fldK (K := K) rfl (pv 1) rfl) (nomark _)) (pe_one (pe_cmpR (r := rEqP K false) (op_eqP hu64) (pe_fldK (K := K) rfl (pv 0) rfl) (pe_fldK (K := K) rfl (pv 1) rfl) (nomark _))))))), ?_⟩; rw [st_Bag_eq]; (try dsimp only [cxOf]); walk_at "go"
    rcases he with ⟨c, q, t, rfl, hy, rfl⟩ | ⟨ty, hty, hk, rfl⟩
    · obtain ⟨C', dx', d', k1', t1', hc', h1', h2', h3'⟩ := hy.ex
      refine g_isC (b := true) (bag_ty T hc' h1') (T.c_isB C' hc') ?_
      walk_at "go"
      refine ⟨x, C, dx, _, _, rfl, h1, T.cls C hc, T.n_clock C hc, bagF_clock _ _ _ _, ?_⟩
      walk_at "go"
      refine ⟨c, C', dx', _, _, rfl, h1', T.cls C' hc', T.n_clock C' hc', bagF_clock _ _ _ _, ?_⟩
      walk_at "go"
      by_cases hpq : p = q
      · rw [decide_eq_true (by rw [hpq])]
        rw [decide_eq_true hpq] at k
        walk_at "go"
        refine ⟨x, C, dx, _, _, rfl, h1, T.cls C hc, T.n_words C hc, bagF_words _ _ _ _, ?_⟩
        walk_at "go"
        refine ⟨c, C', dx', _, _, rfl, h1', T.cls C' hc', T.n_words C' hc', bagF_words _ _ _ _, ?_⟩
        refine ⟨_, _, h3.dp, h3'.dp, plain_words _, plain_words _, depth_words _, ?_⟩
        rw [if_neg Bool.false_ne_true, eqv_words]
        exact k
      · rw [decide_eq_false (fun e => hpq (V.int.inj e))]
        rw [decide_eq_false hpq] at k
        walk_at "go"
        exact k
    · refine g_isC (b := false) hty hk ?_
      walk_at "go"
      exact k
structure EqOk (P : Program) (w : World) (K : PySem.W.Frag) (mg : Str → Option Value) (base : Heap) (C_Bag : Addr) (Cs : Addr → Prop) : Prop where
  ex : ∃ f fd, FnOk P w K mg base CX0 1 f fd ["self", "other"] (sp_bag_eq K C_Bag Cs) ∧ EqCls K f Cs ∧ Binds K fd ["self", "other"] []
theorem op_eqBagD {X : Cx} (D : EqOk X.prog X.w X.K X.mg X.base C_Bag Cs) (hr : Room 2 X.A) : OpR X (compareOp .Eq) (rBagEq X.K (sp_bag_eq X.K C_Bag Cs) Cs false) := by
  obtain ⟨f, fd, F, ec, hb⟩ := D.ex
  exact op_eqBag F ec hb pass0 hr
theorem op_neBagD {X : Cx} (D : EqOk X.prog X.w X.K X.mg X.base C_Bag Cs) (hr : Room 2 X.A) : OpR X (compareOp .NotEq) (rBagEq X.K (sp_bag_eq X.K C_Bag Cs) Cs true) := by
  obtain ⟨f, fd, F, ec, hb⟩ := D.ex
  exact op_neBag F ec hb pass0 hr
/-- a bag == a bag -/
theorem g_beq (T : Txt K mg C_Bag Cs) {H : Hp} {a c : Addr} {p q : Int} {s t : Bg} {neg : Bool} {Q : VK} (hx : BagAt Cs H a p s) (hy : BagAt Cs H c q t)
    (h : Q (.bl (if neg = true then !(decide (p = q) && decide (wordsS s = wordsS t)) else (decide (p = q) && decide (wordsS s = wordsS t)))) H) : rBagEq K (sp_bag_eq K C_Bag Cs) Cs neg (.ref a) (.ref c) H Q := by
  obtain ⟨C, dx, d, k1, t1, hc, h1, h2, h3⟩ := hx.ex
  obtain ⟨C', dx', d', k1', t1', hc', h1', h2', h3'⟩ := hy.ex
  rcases T.c_two C C' hc hc' with n | ⟨n1, n2⟩
  · exact .inl ⟨a, C, dx, _, .ref C', rfl, h1, hc, bag_ty T hc' h1', n, a, p, s, .ref c, _, rfl, hx, .inl ⟨c, q, t, rfl, hy, rfl⟩, _, rfl, h⟩
  · have e : (decide (q = p) && decide (wordsS t = wordsS s)) = (decide (p = q) && decide (wordsS s = wordsS t)) := by
      rw [Bool.eq_iff_iff]
      simp only [Bool.and_eq_true, decide_eq_true_eq]
      exact ⟨fun z => ⟨z.1.symm, z.2.symm⟩, fun z => ⟨z.1.symm, z.2.symm⟩⟩
    refine .inr ⟨a, c, C, C', dx, _, dx', _, rfl, rfl, h1, h1', hc, hc', n1, n2, c, q, t, .ref a, _, rfl, hy, .inl ⟨a, p, s, rfl, hx, rfl⟩, _, rfl, ?_⟩
    rw [e]
    exact h
/-- a bag == another thing -/
theorem g_bne (T : Txt K mg C_Bag Cs) {H : Hp} {a : Addr} {y : V} {p : Int} {s : Bg} {neg : Bool} {Q : VK} {ty : String} (hx : BagAt Cs H a p s) (hy : TyX K H y (.type ty)) (ht : ty ∈ (["NoneType", "bool", "int", "str", "list", "tuple", "dict"] : List String))
    (h : Q (.bl (if neg = true then !false else false)) H) : rBagEq K (sp_bag_eq K C_Bag Cs) Cs neg (.ref a) y H Q := by
  obtain ⟨C, dx, d, k1, t1, hc, h1, h2, h3⟩ := hx.ex
  exact .inl ⟨a, C, dx, _, .type ty, rfl, h1, hc, hy, T.c_pl C hc ty ht, a, p, s, y, false, rfl, hx, .inr ⟨_, hy, T.c_nb ty ht, rfl⟩, _, rfl, h⟩
/-- Bag(p, d) -/
theorem g_mkBag {H : Hp} {R : Addr → Hp → Prop} {p : Int} {d : Addr} {s : Bg} {E : XK} (hp : Clk p) (hd : H d = some (.dK (toK s))) (hl : Lot p s 300 12) (k : ∀ x H', Ex H H' → H x = none → BagAt Cs H' x p s → R x H') :
    ∀ x dx, H x = none → H dx = none → dx ≠ x → sp_bag_init C_Bag Cs (.ref x :: ([.int p, .ref d] ++ [])) (upd (upd H dx (.own x)) x (.ins C_Bag dx [])) (fun v H2 => v = .non ∧ R x H2) E := by
  intro x dx hx hdx hne
  have hx1 : upd H dx (.own x) x = none := by rw [upd_ne (Ne.symm hne)]; exact hx
  have e1 : Ex H (upd (upd H dx (.own x)) x (.ins C_Bag dx [])) := (Ex.new hdx).trans (Ex.new hx1)
  exact ⟨x, d, p, s, dx, rfl, upd_same, hp, e1 _ _ hd, hl, fun H' e hb => ⟨rfl, k x H' (fun a o q => e a o (ne_of_none q hx) (e1 _ _ q)) hx hb⟩⟩
/-- the same words in any order -/
theorem words_of_perm {s t : Bg} {p : Int} (gs : Good p s) (gt : Good p t) (h : ∀ kv, kv ∈ s ↔ kv ∈ t) : wordsS s = wordsS t := by
  refine wordsS_congr gs gt fun w => ?_
  by_cases hw : w ∈ keys s
  · obtain ⟨n, hn⟩ := mem_keys.mp hw
    rw [cf_of_mem gs.nd hn, cf_of_mem gt.nd ((h _).mp hn)]
  · have hw2 : w ∉ keys t := fun q => by
      obtain ⟨n, hn⟩ := mem_keys.mp q
      exact hw (mem_keys.mpr ⟨n, (h _).mpr hn⟩)
    rw [cf_not_mem hw, cf_not_mem hw2]
/-! ### facts of classes -/
theorem kit_self {K : PySem.W.Frag} {C : Addr} : PySem.W.kitOne K (.ref C) (.ref C) = some true := by
  unfold PySem.W.kitOne
  rw [if_pos (beq_self_eq_true _)]
theorem first_self {K : PySem.W.Frag} {C : Addr} : PySem.W.notFirst K C (.ref C) = true := by
  unfold PySem.W.notFirst
  rw [beq_self_eq_true]
  rfl
theorem first_not {K : PySem.W.Frag} {C : Addr} {t : Value} (h : PySem.W.subIn K t (.ref C) = some false) : PySem.W.notFirst K C t = true := by
  unfold PySem.W.notFirst
  rw [h]
  exact Bool.or_true _
theorem kit_not {K : PySem.W.Frag} {C : Addr} {t : String} (hc : PySem.W.isClsIn K C = true) (ht : PySem.W.typeIn K (.ref C) = some (.type "type")) (hs : PySem.W.subIn K (.type t) (.ref C) = some false) : PySem.W.kitOne K (.type t) (.ref C) = some false := by
  unfold PySem.W.kitOne PySem.W.kitCls
  have hc' : (PySem.W.clsIn K C).isSome = true := hc
  have e : ((Value.type t) == (Value.ref C)) = false := rfl
  rw [e, if_neg Bool.false_ne_true]
  dsimp only
  rw [hc', ht, hs]
  rfl

end
end Fp

/-! The algebra of bags, word by word. -/
namespace Fp
open PySem
/-- the same numbers -/
def Eqv (s t : Bg) : Prop := ∀ l, cl s l = cl t l
theorem Eqv.refl (s : Bg) : Eqv s s := fun _ => rfl
theorem Eqv.symm {s t : Bg} (h : Eqv s t) : Eqv t s := fun l => (h l).symm
theorem Eqv.trans {s t u : Bg} (h : Eqv s t) (h2 : Eqv t u) : Eqv s u := fun l => (h l).trans (h2 l)
section
variable {p : Int} {s t u s' t' : Bg}
theorem Eqv.words (gs : Good p s) (gt : Good p t) (h : Eqv s t) : wordsS s = wordsS t := words_cl gs gt h
theorem Eqv.of_words (hs : (keys s).Nodup) (ht : (keys t).Nodup) (h : wordsS s = wordsS t) : Eqv s t := fun l => cf_congr_words hs ht h _
theorem prod_congr (hp : 0 < p) (hs : (keys s).Nodup) (ht : (keys t).Nodup) (hs' : (keys s').Nodup) (ht' : (keys t').Nodup) (h1 : Eqv s s') (h2 : Eqv t t') : Eqv (prodS p s t) (prodS p s' t') := fun l => by
  rw [cl_prod hp hs ht, cl_prod hp hs' ht', conv_congr h1 h2]
theorem plus_congr (hp : 0 < p) (gs : Good p s) (ht : (keys t).Nodup) (gs' : Good p s') (ht' : (keys t').Nodup) (f : Int) (h1 : Eqv s s') (h2 : Eqv t t') : Eqv (plusS p s t f) (plusS p s' t' f) := fun l => by
  rw [cl_plus hp gs ht, cl_plus hp gs' ht', h1 l, h2 l]
theorem assoc_eqv (hp : 0 < p) (gs : Good p s) (gt : Good p t) (gu : Good p u) : Eqv (prodS p (prodS p s t) u) (prodS p s (prodS p t u)) :=
  .of_words (Good.prod hp _ _).nd (Good.prod hp _ _).nd (prod_assoc hp gs gt gu)
def one1 : Bg := [("", 1)]
theorem one1_good (hp : 1 < p) : Good p one1 := ⟨by decide +kernel, fun kv h => by rw [List.mem_singleton.mp h]; decide, fun kv h => by rw [List.mem_singleton.mp h]; exact hp⟩
def delta (l : List Nat) : Int := if l = [] then 1 else 0
theorem cl_one (l : List Nat) : cl one1 l = delta l := by
  unfold cl delta
  by_cases h : l = []
  · subst h
    rfl
  · rw [if_neg h]
    refine cf_not_mem fun q => h ?_
    have : ofL l = ("" : Str) := List.mem_singleton.mp q
    exact ofL_inj.mp (this.trans (show ("" : Str) = ofL [] from rfl))
theorem conv_zero_l (G : List Nat → Int) : ∀ v, conv (fun _ => 0) G v = 0
  | [] => by rw [conv_nil, Int.zero_mul]
  | c :: v => by rw [conv_cons, Int.zero_mul, conv_zero_l G v]; rfl
theorem conv_delta_l (G : List Nat → Int) : ∀ v, conv delta G v = G v
  | [] => by rw [conv_nil]; exact Int.one_mul _
  | c :: v => by
    rw [conv_cons]
    have : (fun x => delta (c :: x)) = fun _ => (0 : Int) := rfl
    rw [this, conv_zero_l, show delta [] = 1 from rfl, Int.one_mul, Int.add_zero]
theorem conv_delta_r : ∀ (v : List Nat) (G : List Nat → Int), conv G delta v = G v
  | [], G => by rw [conv_nil]; exact Int.mul_one _
  | c :: v, G => by rw [conv_cons, conv_delta_r v, show delta (c :: v) = 0 from rfl, Int.mul_zero, Int.zero_add]
theorem one_prod (hp : 1 < p) (g : Good p s) : Eqv (prodS p one1 s) s := fun l => by
  rw [cl_prod (by omega) (one1_good hp).nd g.nd, conv_congr cl_one (fun _ => rfl), conv_delta_l, cl_mod (by omega) g]
theorem prod_one (hp : 1 < p) (g : Good p s) : Eqv (prodS p s one1) s := fun l => by
  rw [cl_prod (by omega) g.nd (one1_good hp).nd, conv_congr (fun _ => rfl) cl_one, conv_delta_r, cl_mod (by omega) g]
theorem prod_nil : prodS p s [] = [] := by
  unfold prodS
  have : ∀ (l acc : Bg), l.foldl (fun acc a => prodRow p acc a []) acc = acc := by
    intro l
    induction l with
    | nil => intro acc; rfl
    | cons a r ih => intro acc; exact ih acc
  exact this s []
theorem distrib_r (hp : 0 < p) (gs : Good p s) (gt : Good p t) (gu : Good p u) (f : Int) : Eqv (prodS p s (plusS p t u f)) (plusS p (prodS p s t) (prodS p s u) f) := fun l => by
  rw [cl_prod hp gs.nd (Good.plus hp gt u).nd, cl_plus hp (Good.prod hp s t) (Good.prod hp s u).nd, cl_prod hp gs.nd gt.nd, cl_prod hp gs.nd gu.nd]
  have h1 : conv (cl s) (cl (plusS p t u f)) l % p = conv (cl s) (fun x => cl t x + f * cl u x) l % p := conv_mod (fun _ => rfl) (fun x => by rw [cl_plus hp gt gu.nd, Int.emod_emod_of_dvd _ (Int.dvd_refl p)]) l
  rw [h1, conv_addr, conv_mulr]
  simp [Int.add_emod, Int.mul_emod]
theorem distrib_l (hp : 0 < p) (gs : Good p s) (gt : Good p t) (gu : Good p u) (f : Int) : Eqv (prodS p (plusS p t u f) s) (plusS p (prodS p t s) (prodS p u s) f) := fun l => by
  rw [cl_prod hp (Good.plus hp gt u).nd gs.nd, cl_plus hp (Good.prod hp t s) (Good.prod hp u s).nd, cl_prod hp gt.nd gs.nd, cl_prod hp gu.nd gs.nd]
  have h1 : conv (cl (plusS p t u f)) (cl s) l % p = conv (fun x => cl t x + f * cl u x) (cl s) l % p := conv_mod (fun x => by rw [cl_plus hp gt gu.nd, Int.emod_emod_of_dvd _ (Int.dvd_refl p)]) (fun _ => rfl) l
  rw [h1, conv_addl, conv_mull]
  simp [Int.add_emod, Int.mul_emod]
end
end Fp

/-! Lists of bags. -/
namespace Fp
open PySem L2
/-- all but lists stand -/
def ExL (H H' : Hp) : Prop := ∀ a o, (∀ xs, o ≠ .lst xs) → H a = some o → H' a = some o
theorem ExL.trans {H H1 H2 : Hp} (a : ExL H H1) (b : ExL H1 H2) : ExL H H2 := fun x o n h => b x o n (a x o n h)
theorem Ex.exl {H H' : Hp} (e : Ex H H') : ExL H H' := fun a o _ h => e a o h
theorem ExL.upd {H : Hp} {a : Addr} {o : HO} {xs : List V} (h : H a = some (.lst xs)) : ExL H (L2.upd H a o) := fun b u n q => by
  rw [upd_ne (fun e => by subst e; rw [h] at q; exact n xs (Option.some.inj q).symm)]
  exact q
theorem BagAt.exl {Cs : Addr → Prop} {H H' : Hp} {a : Addr} {p : Int} {s : Bg} (e : ExL H H') (b : BagAt Cs H a p s) : BagAt Cs H' a p s := by
  obtain ⟨C, dx, d, k, t, h0, h1, h2, ⟨qs, o, h3, h4, h5⟩⟩ := b.ex
  exact ⟨C, dx, d, k, t, h0, e _ _ (fun _ z => nomatch z) h1, e _ _ (fun _ z => nomatch z) h2, ⟨qs, o, e _ _ (fun _ z => nomatch z) h3, h4, Paired.mapP h5 fun q kv z => e _ _ (fun _ z => nomatch z) z⟩⟩
theorem WordsAt.exl {H H' : Hp} {t : Addr} {l : Bg} (e : ExL H H') (h : WordsAt H t l) : WordsAt H' t l := by
  obtain ⟨qs, o, h1, hd, h2⟩ := h.ex
  exact ⟨qs, o, e _ _ (fun _ z => nomatch z) h1, hd, Paired.mapP h2 fun _ _ z => e _ _ (fun _ z => nomatch z) z⟩
section
variable {J : It} {n : Nat} {G : Hp → Prop} {Y : Nat → Hp → V → Hp → Prop} {α : Type}
theorem lc_relL (w : Walk J n G Y) {j : Nat} {te : TE} {vs : List Nat} {σ : St} {H1 : Hp} {Q : VK} (es : List α) (hl : es.length = n) (hn : n ≤ sizeLine) (hG : ∀ H, Ex H1 H → G H)
    (R : α → V → Hp → Prop) (hR : ∀ e y H H', ExL H H' → R e y H → R e y H') (hw : ∀ x, wipe ((wipe σ vs).set j x) vs = wipe σ vs)
    (hs : ∀ i x e H H' (K : VK), i < n → Ex H1 H → Y i H x H' → es[i]? = some e → (∀ y H4, Ex H H4 → R e y H4 → K y H4) → te ((wipe σ vs).set j (some x)) H' K)
    (hd : ∀ D H' ys, H1 D = none → Ex H1 H' → H' D = some (.lst ys) → Paired (fun y e => R e y H') ys es → Q (.ref D) H') :
    LcG J (gName j) tYes te vs σ H1 Q := by
  intro D hD
  refine lc_it w (fun i H => Ex H1 H ∧ ∃ ys, H D = some (.lst ys) ∧ Paired (fun y e => R e y H) ys (es.take i)) ⟨Ex.new hD, [], upd_same, .nil⟩ (fun i H _ p => hG H p.1) ?_ (fun H p => ?_)
  · rintro i x H H' hi ⟨e, ys, hacc, hp⟩ hy
    have hi' : i < es.length := by omega
    obtain ⟨y, hyi⟩ : ∃ y, es[i]? = some y := ⟨es[i], by simp [hi']⟩
    refine ⟨hw _, ?_⟩
    unfold tYes
    dsimp only
    rw [if_pos rfl]
    have hlen : ys.length = i := by rw [hp.length, List.length_take]; omega
    refine hs i x y H H' _ hi e hy hyi fun z H4 e4 rz => ⟨ys, e4 _ _ hacc, by omega, ?_, ys ++ [z], upd_same, ?_⟩
    · exact Ex.mut (e.trans e4) hD
    · have tu : ExL H4 (L2.upd H4 D (.lst (ys ++ [z]))) := ExL.upd (e4 _ _ hacc)
      rw [List.take_add_one, hyi]
      exact Paired.snoc (Paired.mapP hp fun a b q => hR _ _ _ _ (e4.exl.trans tu) q) (hR _ _ _ _ tu rz)
  · obtain ⟨e, ys, h, hp⟩ := p
    rw [← hl, List.take_length] at hp
    exact hd D H ys hD e h hp
end
theorem pe_bmK {X : Cx} {K : PySem.W.Frag} (hK : X.K = K) {ex : Expr} {T : String} {to : TE} {t : TA} {r : V → List V → Hp → VK → Prop} (h : PE X ex (tBM X.K T r to t)) : PE X ex (tBM K T r to t) := hK ▸ h
/-! ### lists of words -/
theorem dpAll_wordss {K : PySem.W.Frag} {H : Hp} {ts : List Addr} {ls : List Bg} (h : Paired (fun t l => WordsAt H t l) ts ls) : DpAll K H (ts.map V.ref) (ls.map wordsD) := by
  induction h with
  | nil => exact .nil
  | cons h1 _ ih => exact .cons h1.dp ih
theorem plainAll_wordss (ls : List Bg) : PyData.plainAll (ls.map wordsD) = true := by
  induction ls with
  | nil => rfl
  | cons q r ih => rw [List.map_cons, PyData.plainAll, ih, plain_words]; rfl
theorem depthAll_wordss (ls : List Bg) : PyData.depthAll (ls.map wordsD) ≤ 2 := by
  induction ls with
  | nil => simp [PyData.depthAll]
  | cons q r ih =>
    rw [List.map_cons, PyData.depthAll]
    have h1 := depthAll_words q
    have h2 : (wordsD q).depth ≤ 2 := by simp only [wordsD, PyData.depth]; omega
    omega
theorem eqvAll_wordss : ∀ l m : List Bg, PyData.eqvAll (l.map wordsD) (m.map wordsD) = decide (l = m)
  | [], [] => by simp [PyData.eqvAll]
  | [], b :: m => by simp [PyData.eqvAll]
  | a :: l, [] => by simp [PyData.eqvAll]
  | a :: l, b :: m => by
    rw [List.map_cons, List.map_cons, PyData.eqvAll, eqv_words, eqvAll_wordss l m]
    rw [Bool.eq_iff_iff]
    simp
/-- two lists of words are compared -/
theorem g_eqWs {K : PySem.W.Frag} {H : Hp} {a b : Addr} {ts us : List Addr} {ls ms : List Bg} {neg : Bool} {Q : VK} (ha : SqL K H a (ts.map V.ref)) (hb : SqL K H b (us.map V.ref)) (h1 : Paired (fun t l => WordsAt H t l) ts ls) (h2 : Paired (fun t l => WordsAt H t l) us ms)
    (h : Q (.bl (if neg = true then !decide (ls = ms) else decide (ls = ms))) H) : rEqP K neg (.ref a) (.ref b) H Q := by
  refine ⟨.list (ls.map wordsD), .list (ms.map wordsD), .lst ha (dpAll_wordss h1), .lst hb (dpAll_wordss h2), plainAll_wordss _, plainAll_wordss _, ?_, ?_⟩
  · have := depthAll_wordss ls
    simp only [PyData.depth]
    omega
  · have e : PyData.eqv (.list (ls.map wordsD)) (.list (ms.map wordsD)) = decide (ls = ms) := eqvAll_wordss ls ms
    rw [e]
    exact h
end Fp

namespace Fp
open PySem L2
section
variable {P : Program} {w : World} {K : PySem.W.Frag} {mg : Str → Option Value} {base : Heap} {C_Bag : Addr} {Cs : Addr → Prop}
local macro_rules | `(tactic| walk_at "hp") => `(tactic| first | assumption | rfl)
local macro_rules | `(tactic| walk_at "cond") => `(tactic| first | assumption | decide | omega | (unfold CMul; omega) | (refine ⟨?_, ?_⟩ <;> omega) | (unfold CDiv; omega) | (unfold CPow; omega))
local macro_rules | `(tactic| walk_at "g1") => `(tactic| first
  | with_reducible first
    | refine g_seq ?_ | refine g_asg ?_ | refine g_name ?_ | refine g_ret ?_ | refine g_retN ?_ | refine g_drop ?_ | refine g_ifs ?_
    | refine g_c ?_ | refine g_op ?_ | refine g_un ?_ | refine g_I0 ?_ | refine g_U ?_
    | refine g_test ?_ | refine g_tB ?_ | refine g_bl ?_ | refine g_and ?_ | refine g_or ?_ | refine g_not ?_
    | refine g_andV ?_ | refine g_orV ?_ | refine g_notV ?_ | refine g_if ?_ | refine g_nil ?_ | refine g_cons ?_ | refine g_cb ?_ | refine g_call ?_
    | refine g_lst ?_ | refine g_tup ?_ | refine g_itT ?_ | refine g_itF ?_ | refine g_itNT ?_ | refine g_itNF ?_ | refine g_lc ?_ | refine g_iStr ?_ | refine g_yes ?_ | refine g_exs ?_
    | refine g_chain ?_ | refine g_dget ?_ | refine g_dput ?_ | refine g_dget2 ?_ | refine g_dpop2 ?_ | refine g_fld ?_ | refine g_sfld ?_ | refine g_make ?_ | refine g_meth ?_
    | refine g_bm ?_ | refine g_kw ?_ | refine g_callS ?_ | refine g_revL ?_ | refine g_m1 ?_ | refine g_gsub ?_ | refine g_for ?_ | refine g_iList ?_ | refine g_iTup ?_ | refine g_iRng1 ?_ | refine g_iRng2 ?_ | refine g_sl ?_ | refine g_part ?_ | refine g_noPart ?_
    | refine g_exi ?_ | refine g_exr ?_ | refine g_dnew ?_ | refine g_disp ?_ | refine g_prs0 ?_ | refine g_prs ?_ | refine g_nxt ?_
  | ((with_reducible refine g_var (v := ?vv) ?gv ?_); (case gv => exact rfl))
  | ((with_reducible refine g_I ?gc ?_); (case gc => walk_at "cond"))
  | ((with_reducible refine g_eq ?ge ?_); (case ge => exact rfl))
  | ((with_reducible refine g_ne ?ge ?_); (case ge => exact rfl))
  | (refine g_ixl (SqL.of (by first | assumption | exact upd_same)) rfl ?_)
  | (refine g_setl (by first | assumption | exact upd_same) rfl ?_)
  | ((with_reducible show (∃ i, [V.int _] = [V.int i] ∧ _) ∨ _); refine Or.inl ⟨_, rfl, ?_⟩)
  | ((with_reducible show ∃ i, [V.int _] = [V.int i] ∧ _); refine ⟨_, rfl, ?_⟩)
  | dsimp only)
local macro_rules | `(tactic| walk_at "go") => `(tactic| repeat (walk_at "g1"))

/-! ### the program's own sums -/
theorem ok_put_to {f : Addr} {fd : FuncData} (F : Fun K "put_to" "put_to" s_put_to f fd) (T : Txt K mg C_Bag Cs) : FnOk P w K mg base CX0 1 f fd ["clock", "sparse", "word", "number"] sp_law_put := by
  refine F.ok sc_put_to (fun vs H Q E h => ?_) (fun cdv A outer s H vs Q E hr h => ?_)
  · obtain ⟨p, d, s, z, n, rfl, _⟩ := h
    rfl
  · obtain ⟨p, d, s, z, n, rfl, hd, hl, hp, k⟩ := h
    have hu := hu_of hr; have hu64 := L2.Room.units hr; refine ⟨_, (pss_cons (ps_set (i := 4) sc_put_to.nd rfl (by first | exact Or.inl rfl | exact Or.inr rfl) (pe_op op_mod (pe_callTy call_int1 (by rfl) T.b_int (by decide +kernel) (pa_cons (pe_op op_add (pe_dget2 hu (pv 1) (pv 2) pe_int ⟨rfl, rfl, rfl, rfl⟩) (pv 3)) pa_nil)) (pv 0))) (pss_one (ps_if (pt_cmpR op_eq (pv 4) pe_int (nomark _)) (pss_one (ps_expr (pe_dpop2 (pv 1) (pv 2) pe_int ⟨rfl, rfl, rfl, rfl⟩))) (pss_one (ps_dput hu (pv 1) (pv 2) (pv 4) rfl))))), ?_⟩; rw [st_put_to]; (try dsimp only [cxOf]); walk_at "go"
    refine ⟨.inl ⟨_, .inl hd⟩, ?_⟩
    walk_at "go"
    refine ⟨_, .inl ⟨toK s, .inr z, .inl hd, rfl, rfl⟩, ?_⟩
    rw [getD_toK]
    walk_at "go"
    by_cases hz : (cf s z + n) % p = 0
    · rw [decide_eq_true (by rw [hz])]
      walk_at "go"
      refine ⟨.inl ⟨_, .inl hd⟩, ?_⟩
      walk_at "go"
      have hk : Q .non (upd H d (.dK (dropK (toK s) (Sum.inr z : Key)))) := by
        rw [dropK_toK]
        unfold addTo at k
        rw [if_pos hz] at k
        exact k
      refine ⟨toK s, .inr z, hd, rfl, fun v _ => hk, fun hn => ?_⟩
      have he : upd H d (.dK (dropK (toK s) (Sum.inr z : Key))) = H := by
        have e2 : dropK (toK s) (Sum.inr z : Key) = toK s := by
          rw [dropK_toK]
          unfold dropS
          rw [valV_toK] at hn
          have hn' : getS s z = none := by cases q : getS s z with | none => rfl | some x => rw [q] at hn; cases hn
          rw [List.filter_eq_self.mpr]
          intro kv hkv
          refine decide_eq_true fun e => getS_none.mp hn' ?_
          rw [← e]
          exact mem_keys.mpr ⟨kv.2, hkv⟩
        rw [e2]
        funext a
        by_cases ha : a = d
        · subst ha; rw [upd_same, hd]
        · rw [upd_ne ha]
      rw [he] at hk
      exact hk
    · rw [decide_eq_false (fun e => hz (V.int.inj e))]
      walk_at "go"
      refine g_dp hd (Nat.lt_trans hl (by decide)) ?_
      unfold addTo at k
      rw [if_neg hz] at k
      exact k
theorem ok_added {f : Addr} {fd : FuncData} (F : Fun K "added" "added" s_added f fd) (T : Txt K mg C_Bag Cs) (D_put_to : DefOk P w K mg base CX0 1 "put_to" ["clock", "sparse", "word", "number"] sp_law_put) : FnOk P w K mg base CX0 2 f fd ["clock", "one", "other", "factor"] sp_law_plus := by
  refine F.ok sc_added (fun vs H Q E h => ?_) (fun cdv A outer s H vs Q E hr h => ?_)
  · obtain ⟨p, a, b, s, t, f, rfl, _⟩ := h
    rfl
  · obtain ⟨p, a, b, s, t, f, rfl, ha, hb, hn, hl, hp, hf, k⟩ := h
    have hu := hu_of hr; have hu64 := L2.Room.units hr; refine ⟨_, (pss_cons (ps_set (i := 4) sc_added.nd rfl (by first | exact Or.inl rfl | exact Or.inr rfl) (pe_callTy call_dictD (by rfl) T.b_dict (by decide +kernel) (pa_cons (pv 1) pa_nil))) (pss_cons (ps_lockR (ps_for PassesOwn.never rfl (pi_keys (pv 2)) (pg_name (i := 5) sc_added.nd rfl (by first | exact Or.inl rfl | exact Or.inr rfl)) (pss_one (ps_expr (pe_callD D_put_to (hr.mono (by decide)) rfl pass0 (pa_cons (pv 0) (pa_cons (pv 4) (pa_cons (pv 5) (pa_cons (pe_op op_mul (pv 3) (pe_dget hu (pv 2) (pv 5) (fun _ _ => rfl))) pa_nil))))))))) (pss_one (ps_ret (pv 4))))), ?_⟩; rw [st_added]; (try dsimp only [cxOf]); walk_at "go"
    refine ⟨a, toK s, rfl, ha, fun d hd => ?_⟩
    walk_at "go"
    have hbd : b ≠ d := fun e => by subst e; rcases hb with h | ⟨o, h⟩ <;> rw [hd] at h <;> cases h
    have hb' : Rd (upd H d (.dK (toK s))) b (.dK (toK t)) := (Ex.new hd).rd hb
    refine for_keys hb' upd_same hbd (fun H' Q' _ q => ⟨_, rfl, q⟩) (fun i σ' o => (∃ x, σ' = [some (.int p), some (.ref a), some (.ref b), some (.int f), some (.ref d), x]) ∧ o = .dK (toK (plusS p s (t.take i) f))) ⟨⟨none, rfl⟩, rfl⟩ ?_ ?_
    · rintro i z n σ' H' o E hi ⟨⟨x, rfl⟩, rfl⟩ le hfo _ hE
      walk_at "go"
      refine g_dg le.self (getS_at hn hi) ?_
      walk_at "go"
      refine ⟨p, d, _, z, f * n, rfl, hfo, ?_, hp, ?_⟩
      · have h1 := len_plus (p := p) (s := s) (t := t.take i) f
        have h2 := List.length_take_le i t
        have h3 : (t.take i).length ≤ t.length := by rw [List.length_take]; omega
        omega
      · refine hE _ _ _ ⟨⟨_, rfl⟩, rfl⟩ ((ExB.refl d _).upd) ?_
        rw [upd_same]
        unfold plusS
        rw [foldl_take _ _ _ _ _ hi]
    · rintro σ' H' o ⟨⟨x, rfl⟩, rfl⟩ e ho
      walk_at "go"
      rw [List.take_length] at ho
      exact k d H' (fun a' o' h' => e a' o' (ne_of_none h' hd) (Ex.new hd a' o' h')) hd ho

/-! ### the program's own products -/
/-! ### bags that are made raw -/
def sp_raw_init (C_Raw : Addr) (Cs : Addr → Prop) : Sp := fun vs H Q _ => ∃ (x d : Addr) (p : Int) (s : Bg) (dx : Addr), vs = [.ref x, .int p, .ref d] ∧ H x = some (.ins C_Raw dx []) ∧ H d = some (.dK (toK s)) ∧ s.length ≤ 10000000 ∧ (∀ u ∈ keys s, u.length ≤ 10000000) ∧ (keys s).Nodup ∧
  ∀ H', ExB x H H' → BagAt Cs H' x p s → Q .non H'
theorem ok_raw_init {C_Raw : Addr} {f : Addr} {fd : FuncData} (F : Fun K "__init__" "RawBag.__init__" s_RawBag_init f fd) (T : Txt K mg C_Bag Cs) (hR : Cs C_Raw) (D_mt_RawBag_keep : MtOk P w K mg base CX0 5 C_Raw "keep" ["self", "clock", "sparse"] (sp_keep Cs)) : FnOk P w K mg base CX0 6 f fd ["self", "clock", "sparse"] (sp_raw_init C_Raw Cs) := by
  refine F.ok sc_RawBag_init (fun vs H Q E h => ?_) (fun cdv A outer s H vs Q E hr h => ?_)
  · obtain ⟨x, d, p, s, dx, rfl, _⟩ := h
    rfl
  · obtain ⟨x, d, p, s, dx, rfl, hx, hd, hz, hw, hn, k⟩ := h
    have hxd : d ≠ x := fun e => by subst e; rw [hx] at hd; cases hd
    have hu := hu_of hr; have hu64 := L2.Room.units hr; refine ⟨_, (pss_one (ps_expr (pe_mtD D_mt_RawBag_keep (hr.mono (by decide)) pass0 (pv 0) (pa_cons (pv 1) (pa_cons (pv 2) pa_nil))))), ?_⟩; rw [st_RawBag_init]; (try dsimp only [cxOf]); walk_at "go"
    refine ⟨x, dx, [], rfl, hx, rfl, ?_⟩
    walk_at "go"
    refine ⟨x, d, p, s, C_Raw, dx, rfl, hx, hR, hd, hz, hw, hn, fun k1 t H2 e2 h2 hw' => ?_⟩
    exact k H2 e2 ⟨C_Raw, dx, d, k1, t, hR, h2, e2 _ _ hxd hd, hw'⟩
def sp_raw (Cs : Addr → Prop) : Sp := fun vs H Q _ => ∃ (d : Addr) (p : Int) (s : Bg), vs = [.int p, .ref d] ∧ H d = some (.dK (toK s)) ∧ s.length ≤ 10000000 ∧ (∀ u ∈ keys s, u.length ≤ 10000000) ∧ (keys s).Nodup ∧
  ∀ x H', Ex H H' → H x = none → BagAt Cs H' x p s → Q (.ref x) H'
theorem ok_raw {C_RawBag : Addr} {f : Addr} {fd : FuncData} (F : Fun K "raw" "raw" s_raw f fd) (T : Txt K mg C_Bag Cs) (D_mk_RawBag : MkOk P w K mg base CX0 6 "RawBag" C_RawBag ["self", "clock", "sparse"] (sp_raw_init C_RawBag Cs)) : FnOk P w K mg base CX0 8 f fd ["clock", "sparse"] (sp_raw Cs) := by
  refine F.ok sc_raw (fun vs H Q E h => ?_) (fun cdv A outer s H vs Q E hr h => ?_)
  · obtain ⟨d, p, s, rfl, _⟩ := h
    rfl
  · obtain ⟨d, p, s, rfl, hd, hz, hw, hn, k⟩ := h
    have hu := hu_of hr; have hu64 := L2.Room.units hr; refine ⟨_, (pss_one (ps_ret (pe_mkD D_mk_RawBag (hr.mono (by decide)) rfl pass0 (pa_cons (pv 0) (pa_cons (pv 1) pa_nil))))), ?_⟩; rw [st_raw]; (try dsimp only [cxOf]); walk_at "go"
    intro x dx hx hdx hne
    have hx1 : upd H dx (.own x) x = none := by rw [upd_ne (Ne.symm hne)]; exact hx
    have e1 : Ex H (upd (upd H dx (.own x)) x (.ins C_RawBag dx [])) := (Ex.new hdx).trans (Ex.new hx1)
    exact ⟨x, d, p, s, dx, rfl, upd_same, e1 _ _ hd, hz, hw, hn, fun H' e hb => ⟨rfl, k x H' (fun a o q => e a o (ne_of_none q hx) (e1 _ _ q)) hx hb⟩⟩
/-- two bags by one clock -/
def sp_check_clocks (Cs : Addr → Prop) : Sp := fun vs H Q _ => ∃ (a b : Addr) (p : Int) (s t : Bg), vs = [.ref a, .ref b] ∧ BagAt Cs H a p s ∧ BagAt Cs H b p t ∧ Q .non H
theorem ok_check_clocks {f : Addr} {fd : FuncData} (F : Fun K "check_clocks" "check_clocks" s_check_clocks f fd) (T : Txt K mg C_Bag Cs) : FnOk P w K mg base CX0 1 f fd ["one", "other"] (sp_check_clocks Cs) := by
  refine F.ok sc_check_clocks (fun vs H Q E h => ?_) (fun cdv A outer s H vs Q E hr h => ?_)
  · obtain ⟨a, b, p, s, t, rfl, _⟩ := h
    rfl
  · obtain ⟨a, b, p, s, t, rfl, ha, hb, k⟩ := h
    obtain ⟨C, dx, d, k1, t1, hc, h1, h2, h3⟩ := ha.ex
    obtain ⟨C', dx', d', k1', t1', hc', h1', h2', h3'⟩ := hb.ex
    have hu := hu_of hr; have hu64 := L2.Room.units hr; refine ⟨_, (pss_one (ps_if (pt_cmpR op_ne (pe_fldK (K := K) rfl (pv 0) rfl) (pe_fldK (K := K) rfl (pv 1) rfl) (nomark _)) (pss_one ps_never) pss_nil)), ?_⟩; rw [st_check_clocks]; (try dsimp only [cxOf]); walk_at "go"
    refine ⟨a, C, dx, _, _, rfl, h1, T.cls C hc, T.n_clock C hc, bagF_clock _ _ _ _, ?_⟩
    walk_at "go"
    refine ⟨b, C', dx', _, _, rfl, h1', T.cls C' hc', T.n_clock C' hc', bagF_clock _ _ _ _, ?_⟩
    walk_at "go"
    rw [decide_eq_true rfl]
    walk_at "go"
    exact k

end
end Fp

namespace Fp
open PySem L2
section
variable {P : Program} {w : World} {K : PySem.W.Frag} {mg : Str → Option Value} {base : Heap} {C_Bag : Addr} {Cs : Addr → Prop}
local macro_rules | `(tactic| walk_at "hp") => `(tactic| first | assumption | rfl)
local macro_rules | `(tactic| walk_at "cond") => `(tactic| first | assumption | decide | omega | (unfold CMul; omega) | (refine ⟨?_, ?_⟩ <;> omega) | (unfold CDiv; omega) | (unfold CPow; omega))
local macro_rules | `(tactic| walk_at "g1") => `(tactic| first
  | with_reducible first
    | refine g_seq ?_ | refine g_asg ?_ | refine g_name ?_ | refine g_ret ?_ | refine g_retN ?_ | refine g_drop ?_ | refine g_ifs ?_
    | refine g_c ?_ | refine g_op ?_ | refine g_un ?_ | refine g_I0 ?_ | refine g_U ?_
    | refine g_test ?_ | refine g_tB ?_ | refine g_bl ?_ | refine g_and ?_ | refine g_or ?_ | refine g_not ?_
    | refine g_andV ?_ | refine g_orV ?_ | refine g_notV ?_ | refine g_if ?_ | refine g_nil ?_ | refine g_cons ?_ | refine g_cb ?_ | refine g_call ?_
    | refine g_lst ?_ | refine g_tup ?_ | refine g_itT ?_ | refine g_itF ?_ | refine g_itNT ?_ | refine g_itNF ?_ | refine g_lc ?_ | refine g_iStr ?_ | refine g_yes ?_ | refine g_exs ?_
    | refine g_chain ?_ | refine g_dget ?_ | refine g_dput ?_ | refine g_dget2 ?_ | refine g_dpop2 ?_ | refine g_fld ?_ | refine g_sfld ?_ | refine g_make ?_ | refine g_meth ?_
    | refine g_bm ?_ | refine g_kw ?_ | refine g_callS ?_ | refine g_revL ?_ | refine g_m1 ?_ | refine g_gsub ?_ | refine g_for ?_ | refine g_iList ?_ | refine g_iTup ?_ | refine g_iRng1 ?_ | refine g_iRng2 ?_ | refine g_sl ?_ | refine g_part ?_ | refine g_noPart ?_
    | refine g_exi ?_ | refine g_exr ?_ | refine g_dnew ?_ | refine g_disp ?_ | refine g_prs0 ?_ | refine g_prs ?_ | refine g_nxt ?_
  | ((with_reducible refine g_var (v := ?vv) ?gv ?_); (case gv => exact rfl))
  | ((with_reducible refine g_I ?gc ?_); (case gc => walk_at "cond"))
  | ((with_reducible refine g_eq ?ge ?_); (case ge => exact rfl))
  | ((with_reducible refine g_ne ?ge ?_); (case ge => exact rfl))
  | (refine g_ixl (SqL.of (by first | assumption | exact upd_same)) rfl ?_)
  | (refine g_setl (by first | assumption | exact upd_same) rfl ?_)
  | ((with_reducible show (∃ i, [V.int _] = [V.int i] ∧ _) ∨ _); refine Or.inl ⟨_, rfl, ?_⟩)
  | ((with_reducible show ∃ i, [V.int _] = [V.int i] ∧ _); refine ⟨_, rfl, ?_⟩)
  | dsimp only)
local macro_rules | `(tactic| walk_at "go") => `(tactic| repeat (walk_at "g1"))

/-! ### together, behind; what the law asks of a bag -/
def sp_sum (f : Int) (Cs : Addr → Prop) : Sp := fun vs H Q _ => ∃ (a b : Addr) (p : Int) (s t : Bg) (n1 l1 n2 l2 : Nat), vs = [.ref a, .ref b] ∧ BagAt Cs H a p s ∧ BagAt Cs H b p t ∧ Lot p s n1 l1 ∧ Lot p t n2 l2 ∧ n1 + n2 < 10000000 ∧ l1 ≤ 10000000 ∧ l2 ≤ 10000000 ∧ 0 < p ∧
  ∀ x H', Ex H H' → H x = none → BagAt Cs H' x p (plusS p s t f) → Q (.ref x) H'
def sp_behind (Cs : Addr → Prop) : Sp := fun vs H Q _ => ∃ (a b : Addr) (p : Int) (s t : Bg) (n1 l1 n2 l2 : Nat), vs = [.ref a, .ref b] ∧ BagAt Cs H a p s ∧ BagAt Cs H b p t ∧ Lot p s n1 l1 ∧ Lot p t n2 l2 ∧ n1 * n2 < 10000000 ∧ l1 ≤ 5000000 ∧ l2 ≤ 5000000 ∧ 0 < p ∧ p ≤ 1000000 ∧
  ∀ x H', Ex H H' → H x = none → BagAt Cs H' x p (prodS p s t) → Q (.ref x) H'
def sp_law_is (Cs : Addr → Prop) : Sp := fun vs H Q _ => ∃ (x d : Addr) (p q : Int) (s t : Bg), vs = [.ref x, .int p, .ref d] ∧ BagAt Cs H x q t ∧ Rd H d (.dK (toK s)) ∧ s.length ≤ 10000000 ∧ (∀ u ∈ keys s, u.length ≤ 10000000) ∧ (keys s).Nodup ∧
  ∀ H', Ex H H' → Q (.bl (decide (q = p) && decide (wordsS t = wordsS s))) H'
theorem ok_together {f : Addr} {fd : FuncData} (F : Fun K "together" "together" s_together f fd) (T : Txt K mg C_Bag Cs) (D_check_clocks : DefOk P w K mg base CX0 1 "check_clocks" ["one", "other"] (sp_check_clocks Cs)) (D_raw : DefOk P w K mg base CX0 8 "raw" ["clock", "sparse"] (sp_raw Cs))
    (D_added : DefOk P w K mg base CX0 2 "added" ["clock", "one", "other", "factor"] sp_law_plus) : FnOk P w K mg base CX0 9 f fd ["one", "other"] (sp_sum 1 Cs) := by
  refine F.ok sc_together (fun vs H Q E h => ?_) (fun cdv A outer s H vs Q E hr h => ?_)
  · obtain ⟨a, b, p, s, t, n1, l1, n2, l2, rfl, _⟩ := h
    rfl
  · obtain ⟨a, b, p, s, t, n1, l1, n2, l2, rfl, ha, hb, hls, hlt, hn, hl1, hl2, hp, k⟩ := h
    obtain ⟨C, dx, d, k1, t1, hc, h1, h2, h3⟩ := ha.ex
    obtain ⟨C', dx', d', k1', t1', hc', h1', h2', h3'⟩ := hb.ex
    have hu := hu_of hr; have hu64 := L2.Room.units hr; refine ⟨_, (pss_cons (ps_expr (pe_callD D_check_clocks (hr.mono (by decide)) rfl pass0 (pa_cons (pv 0) (pa_cons (pv 1) pa_nil)))) (pss_one (ps_ret (pe_callD D_raw (hr.mono (by decide)) rfl pass0 (pa_cons (pe_fldK (K := K) rfl (pv 0) rfl) (pa_cons (pe_callD D_added (hr.mono (by decide)) rfl pass0 (pa_cons (pe_fldK (K := K) rfl (pv 0) rfl) (pa_cons (pe_fldK (K := K) rfl (pv 0) rfl) (pa_cons (pe_fldK (K := K) rfl (pv 1) rfl) (pa_cons pe_int pa_nil))))) pa_nil)))))), ?_⟩; rw [st_together]; (try dsimp only [cxOf]); walk_at "go"
    refine ⟨a, b, p, s, t, rfl, ha, hb, ?_⟩
    walk_at "go"
    refine ⟨a, C, dx, _, _, rfl, h1, T.cls C hc, T.n_clock C hc, bagF_clock _ _ _ _, ?_⟩
    walk_at "go"
    refine ⟨a, C, dx, _, _, rfl, h1, T.cls C hc, T.n_clock C hc, bagF_clock _ _ _ _, ?_⟩
    walk_at "go"
    refine ⟨a, C, dx, _, _, rfl, h1, T.cls C hc, T.n_sparse C hc, bagF_sparse _ _ _ _, ?_⟩
    walk_at "go"
    refine ⟨b, C', dx', _, _, rfl, h1', T.cls C' hc', T.n_sparse C' hc', bagF_sparse _ _ _ _, ?_⟩
    walk_at "go"
    have c1 := hls.n
    have c2 := hlt.n
    refine ⟨p, d, d', s, t, _, rfl, .inl h2, .inl h2', hlt.g.nd, by omega, hp, by decide, fun d2 H1 e1 hd2 hd2' => ?_⟩
    walk_at "go"
    have c3 := len_plus (p := p) (s := s) (t := t) 1
    refine ⟨d2, p, _, rfl, hd2', by omega, fun u hu => ?_, (Good.plus hp hls.g t).nd, fun x H2 e2 hx hb2 => ?_⟩
    · rcases keys_plus hu with q | q
      · exact Nat.le_trans (hls.l u q).1 hl1
      · exact Nat.le_trans (hlt.l u q).1 hl2
    · exact k x H2 (e1.trans e2) (e1.free hx) hb2
theorem ok_law_is {f : Addr} {fd : FuncData} (F : Fun K "_law_is" "_law_is" s_law_is f fd) (T : Txt K mg C_Bag Cs) (D_law_words : DefOk P w K mg base CX0 2 "_law_words" ["_law_bag"] sp_law_words) : FnOk P w K mg base CX0 3 f fd ["_law_told", "_law_clock_here", "_law_bag"] (sp_law_is Cs) := by
  refine F.ok sc_law_is (fun vs H Q E h => ?_) (fun cdv A outer s H vs Q E hr h => ?_)
  · obtain ⟨x, d, p, q, s, t, rfl, _⟩ := h
    rfl
  · obtain ⟨x, d, p, q, s, t, rfl, hx, hd, hz, hw, hn, k⟩ := h
    obtain ⟨C, dx, db, k1, t1, hc, h1, h2, h3⟩ := hx.ex
    have hu := hu_of hr; have hu64 := L2.Room.units hr; refine ⟨_, (pss_one (ps_ret (pe_and (pe_callB (r := rIsi K) call_isi (by rfl) T.b_isinstance (by decide +kernel) (pa_cons (pv 0) (pa_cons (pe_glob (v := .ref C_Bag) rfl T.c_Bag rfl) pa_nil))) (pe_and (pe_cmpR op_eq (pe_fldK (K := K) rfl (pv 0) rfl) (pv 1) (nomark _)) (pe_one (pe_cmpR (r := rEqP K false) (op_eqP hu64) (pe_fldK (K := K) rfl (pv 0) rfl) (pe_callD D_law_words (hr.mono (by decide)) rfl pass0 (pa_cons (pv 2) pa_nil)) (nomark _))))))), ?_⟩; rw [st_law_is]; (try dsimp only [cxOf]); walk_at "go"
    refine g_isC (b := true) (bag_ty T hc h1) (T.c_isB C hc) ?_
    walk_at "go"
    refine ⟨x, C, dx, _, _, rfl, h1, T.cls C hc, T.n_clock C hc, bagF_clock _ _ _ _, ?_⟩
    walk_at "go"
    by_cases hpq : q = p
    · rw [decide_eq_true (by rw [hpq])]
      rw [decide_eq_true hpq] at k
      walk_at "go"
      refine ⟨x, C, dx, _, _, rfl, h1, T.cls C hc, T.n_words C hc, bagF_words _ _ _ _, ?_⟩
      walk_at "go"
      refine ⟨d, s, rfl, hd, hz, hw, hn, fun t2 H1 e1 ht2 hw2 => ?_⟩
      refine ⟨_, _, (h3.ex' e1).dp, hw2.dp, plain_words _, plain_words _, depth_words _, ?_⟩
      rw [if_neg Bool.false_ne_true, eqv_words]
      exact k H1 e1
    · rw [decide_eq_false (fun e => hpq (V.int.inj e))]
      rw [decide_eq_false hpq] at k
      walk_at "go"
      exact k H (Ex.refl _)

end
end Fp

/-! sorted(xs, key=f), f a def of our own that calls others: its promise tells the key, and that all that is tracked stands. -/
namespace Fp
open PySem L2 PySem.W PyProof.Rows
theorem eachIs_get {α β : Type} {R : α → β → Prop} : ∀ {vs : List α} {ds : List β}, vs.length = ds.length → (∀ (i : Nat) (v : α) (d : β), vs[i]? = some v → ds[i]? = some d → R v d) → EachIs R vs ds
  | [], [], _, _ => .nil
  | [], _ :: _, h, _ => nomatch h
  | _ :: _, [], h, _ => nomatch h
  | v :: vs, d :: ds, h, hr => .cons (hr 0 v d rfl rfl) (eachIs_get (by simpa using h) fun i v' d' h1 h2 => hr (i + 1) v' d' h1 h2)
theorem vals_byFst {bs : List (V × PyData)} {out : List Value} (h : EachIs (fun (v : Value) (b : V × PyData) => RelV b.1 v) out bs) : Vals (bs.map Prod.fst) out := by
  induction h with
  | nil => exact .nil
  | cons h1 _ ih => exact .cons h1 ih
/-- the values of a row, put in the order of their keys -/
def byKey (xs : List V) (ks : List PyData) : List V := ((xs.zip ks).mergeSort (dataLe false Prod.snd)).map Prod.fst
/-- what sorted(xs, key=f) asks -/
def rSortK (K : PySem.W.Frag) (f : Addr) (sp : Sp) : List V → List V → Hp → VK → Prop := fun vs zs H Q => ∃ (a : Addr) (xs : List V) (ks : List PyData) (KR : Nat → V → Hp → Prop), vs = [V.ref a] ∧ zs = [V.ref f] ∧ SqL K H a xs ∧ ks.length = xs.length ∧ AllAlike ks ∧ Sortable ks ∧ (∀ d ∈ ks, d.depth ≤ 8) ∧
  (∀ i v H H', ExL H H' → KR i v H → KR i v H') ∧ (∀ i d v H, ks[i]? = some d → KR i v H → Dp K H v d) ∧
  (∀ i x H1, xs[i]? = some x → Ex H H1 → sp [x] H1 (fun v H2 => Ex H1 H2 ∧ KR i v H2) E0) ∧
  ∀ p H', H p = none → Ex H H' → H' p = some (.lst (byKey xs ks)) → Q (.ref p) H'
section
variable {X : L2.Cx} {k : Nat} {f : Addr} {fd : FuncData} {ps : List Str} {sp : Sp} {pins : List (Addr × Obj)} {σ : L2.St}
/-- the callee runs, two built-ins deeper -/
theorem turn_fn {H : Hp} {s : Shared} {Q : VK} {us : List Value} {vs : List V} {E : XK} {E' : Value → Shared → Prop} (F : FnOk X.prog X.w X.K X.mg X.base CX0 k f fd ps sp) (hr : Room (k + 2) X.A) (hb : L2.Binds X.K fd ps [])
    (I : Inv X pins σ H s) (r : Vals vs us) (h : sp vs H Q E) : wpAny (model X.prog X.w) X.A.in1.in1 (call (.ref f) us) (EP X pins σ Q) E' s := by
  have hl : us.length = ps.length := by rw [← r.length]; exact F.len _ _ _ _ h
  have hb2 : BindsTo s fd ⟨us, []⟩ (ps.zip us) := by
    have := hb s us I.kIn (by rw [List.append_nil]; exact hl)
    rw [List.append_nil] at this
    exact this
  refine wpAny_call (codeAny_mono (F.run X.A.in1.in1 X.stack s H ⟨us, []⟩ us vs Q E hr.in1.in1 I.env0.in1.in1 hb2 r h) fun r s' hq => ?_)
  cases r with
  | error e => exact hq.elim
  | ok fl =>
    cases fl with
    | ret u => exact I.after hq
    | next => exact False.elim hq
    | brk => exact False.elim hq
    | cont => exact False.elim hq
/-- an untracked object that is ours may be anything -/
def hide1 (h : Heap) (a : Addr) : Heap := PySem.W.hideAll h [a]
theorem hide1_get {h : Heap} {a b : Addr} {o : Obj} (e : h.get? b = some o) (n : b ≠ a) : (hide1 h a).get? b = some o := PySem.W.hideAll_get _ e (by simpa using n)
theorem hide1_none {h : Heap} {a : Addr} : (hide1 h a).get? a = none := PySem.W.hideAll_none [a] (by simp)
theorem of_hide1 {h : Heap} {a b : Addr} {o : Obj} (e : (hide1 h a).get? b = some o) : b ≠ a ∧ h.get? b = some o := by
  refine ⟨fun z => ?_, PySem.W.of_hideAll [a] e⟩
  subst z
  rw [hide1_none] at e
  cases e
theorem cr_sortK (F : FnOk X.prog X.w X.K X.mg X.base CX0 k f fd ps sp) (hb : L2.Binds X.K fd ps []) (hr : Room (k + 2) X.A) : CallRK X (.builtin "sorted") [Str.ofString "key"] (rSortK X.K f sp) := by
  intro pins s σ H vs zs us ws Q I r rz h
  obtain ⟨a, xs, ks, KR, rfl, rfl, hs, hlen, hal, hsk, hdp, hmono, hdat, hturn, q⟩ := h
  obtain rfl := Vals.ref1 r
  obtain ⟨w1, rfl, e1⟩ := vals1 rz
  obtain rfl : w1 = Value.ref f := e1
  obtain ⟨its, rv, hl, hz⟩ := I.list hs
  have hil : its.length = xs.length := rv.length.symm
  have hizl : its.length ≤ sizeLine := by omega
  refine sorted_of_sort hl.isList hizl (ksk_s1 _ _) (fun _ => ksk_l1 _ _) fun E' => ?_
  show wpAny _ _ (ksk_tree (s.heap.objs.size + 1) (.ref f) false) _ _ _
  have hLs : s.heap.objs.size ≤ s.heap.objs.size + 1 := Nat.le_succ _
  generalize hL : s.heap.objs.size + 1 = L at *
  have hcs : (copyHeap s.heap its).get? L = some (seqObj "list" its.toArray 0) := by rw [← hL]; exact copyHeap_at s.heap its
  obtain ⟨e1, ho1⟩ : ∃ e1, ((copyHeap s.heap its).update L (Obj.mapSeq fun _ => (#[] : Array Value))).get? L = some (seqObj "list" #[] e1) := ⟨_, get?_update_seq hcs fun _ => #[]⟩
  unfold ksk_tree
  refine wpAny_bind (listItems_at hcs rfl ?_)
  refine wpAny_bind (listUpdate_at hcs rfl ?_ (by rw [List.size_toArray]; exact hizl) (Nat.zero_le _))
  refine wpAny_bind (seqEpoch_at ho1 rfl ?_)
  refine wpAny_bind (wpAny_newTuple ?_ (by show its.length ≤ _; exact hizl))
  refine wpAny_bind (wpAny_newList ?_ (Nat.zero_le _))
  refine wpAny_holding ?_
  dsimp only
  generalize hh1 : ((copyHeap s.heap its).update L (Obj.mapSeq fun _ => (#[] : Array Value))).push { cls := .type "tuple", data := .seq (its.toArray.toList).toArray } = h1
  have hk1 : ∀ b u, s.heap.get? b = some u → h1.get? b = some u := fun b u e => by
    have hb : b ≠ L := by rw [← hL]; exact Nat.ne_of_lt (Nat.lt_succ_of_lt (Heap.lt_size e))
    rw [← hh1]
    exact Heap.get?_push_of_some _ (by rw [Heap.get?_update_ne _ _ _ _ hb]; exact copyHeap_old e)
  have hLo : h1.get? L = some (seqObj "list" #[] e1) := by rw [← hh1]; exact Heap.get?_push_of_some _ ho1
  have hLn : s.heap.get? L = none := Heap.get?_none_of_le hLs
  have hHL : H L = none := I.hok.fresh hLs
  have I1 : Inv X pins σ H { s with heap := h1 } := I.kept (t' := s.toks) hk1
  have hlocL : L ≠ X.env.locals := Nat.ne_of_gt (Nat.lt_of_lt_of_le I.lt hLs)
  have hLc : ∀ x c, X.env.cells.lookup x = some c → c ≠ L := fun x c e z => by
    obtain ⟨v, o, ho, _⟩ := I.cell x c e
    rw [z, hLn] at ho
    cases ho
  have I1p : Inv X ((L, seqObj "list" #[] e1) :: pins) σ H { s with heap := h1 } := I1.pins_of fun p hp => by
    rcases List.mem_cons.mp hp with rfl | hp
    · exact ⟨hLo, hHL, hlocL, I.nofs hLs, fun v z => nomatch z⟩
    · exact I1.pin p (List.mem_append_right _ hp)
  have I2 := I1p.lnew (its := []) (ys := []) (t' := s.toks) .nil (Nat.zero_le _)
  have hkL : h1.objs.size ≠ L := Nat.ne_of_gt (Heap.lt_size hLo)
  have hks : s.heap.objs.size ≤ h1.objs.size := Nat.le_of_lt (by rw [← hL] at hLo; exact Nat.lt_of_succ_lt (Heap.lt_size hLo))
  have hHk : H h1.objs.size = none := I.hok.fresh hks
  have hn1 : h1.get? h1.objs.size = none := Heap.get?_none_of_le (Nat.le_refl _)
  generalize hh2 : h1.push { cls := .type "list", data := .seq ([] : List Value).toArray } = h2 at I2 ⊢
  generalize hkS : h1.objs.size = kS at *
  unfold ksk_rest
  refine wpAny_bind (wpAny_rule ?_)
  first
    | rw [List.forIn_toArray]
    | (rw [← Array.forIn_toList]; simp only [List.toList_toArray])
    | rw [← Array.forIn_toList]
  refine wpAny_bind (ksk_fold (fun i s' => ∃ H' ys, Inv X ((L, seqObj "list" #[] e1) :: pins) σ H' s' ∧ Ex H H' ∧ H' kS = some (.lst ys) ∧ ys.length = i ∧ ∀ (j : Nat) (y : V), ys[j]? = some y → KR j y H') its 0 _
    ⟨_, [], I2, Ex.new hHk, upd_same, rfl, fun j y e => nomatch e⟩ ?step ?done)
  case step =>
    rintro j v s' hv ⟨H', ys, I', e, hk, hy, hr'⟩
    simp only [Nat.zero_add] at hy ⊢
    obtain ⟨x, hx, rx⟩ : ∃ x, xs[j]? = some x ∧ RelV x v := by
      have hj : j < its.length := (List.getElem?_eq_some_iff.mp hv).1
      have hx : xs[j]? = some xs[j] := List.getElem?_eq_getElem (by omega)
      obtain ⟨u, hu, ru⟩ := rv.get hx
      rw [hv] at hu
      cases hu
      exact ⟨_, hx, ru⟩
    refine wpAny_bind (wpAny_attempt (wpAny_mono (turn_fn F hr hb I' (.cons rx .nil) (hturn j x H' hx e)) (fun u s'' he => ?_) fun _ _ hF => hF))
    obtain ⟨y, H'', I'', ry, e'', hky⟩ := he
    have hk2 := e'' _ _ hk
    obtain ⟨z, its2, n2, r2, hl2, e2⟩ := I''.lstM hk2
    have hyz : ys.length < sizeLine + 1 := by omega
    have hj : j < its.length := (List.getElem?_eq_some_iff.mp hv).1
    have hsz : (its2.toArray.push u).size ≤ sizeLine := by rw [Array.size_push, List.size_toArray]; omega
    try dsimp only
    refine wpAny_bind (listUpdate_at e2 rfl ?_ (by rw [List.size_toArray]; omega) (by omega))
    have I3 := I''.lset (f := (·.push u)) (its' := its2 ++ [u]) (t' := s''.toks) hk2 e2 (by simp) (r2.append (.cons ry .nil)) (by rw [List.length_append, List.length_singleton]; omega)
    refine wpAny_pure ⟨rfl, _, ys ++ [y], I3, Ex.mut (e.trans e'') hHk, upd_same, by rw [List.length_append, List.length_singleton, hy], fun i w hw => ?_⟩
    rcases Nat.lt_or_ge i ys.length with q1 | q1
    · rw [List.getElem?_append_left q1] at hw
      exact hmono _ _ _ _ (ExL.trans (Ex.exl e'') (ExL.upd hk2)) (hr' i w hw)
    · rw [List.getElem?_append_right q1] at hw
      have q2 : i - ys.length = 0 := by
        have := (List.getElem?_eq_some_iff.mp hw).1
        simp at this
        omega
      rw [q2] at hw
      cases hw
      have : i = j := by omega
      subst this
      exact hmono _ _ _ _ (ExL.upd hk2) hky
  case done =>
    rintro s' ⟨H', ys, I', e, hk, hy, hr'⟩
    simp only [Nat.zero_add] at hy
    obtain ⟨z, its2, n2, r2, hl2, e2⟩ := I'.lstM hk
    have hLp := (I'.pin (L, seqObj "list" #[] e1) (List.mem_append_right _ List.mem_cons_self))
    have eks : EachIs (fun v d => ∃ as, Reads s'.heap v d as) its2 ks := eachIs_get (by omega) fun i v d hv hd => by
      have hi : i < ys.length := by have := (List.getElem?_eq_some_iff.mp hv).1; omega
      have hyi : ys[i]? = some ys[i] := List.getElem?_eq_getElem hi
      obtain ⟨u, hu, ru⟩ := Vals.get r2 hyi
      rw [hv] at hu
      cases hu
      exact Dp.reads I' d _ _ (hdat i d _ H' hd (hr' i _ hyi)) ru
    try dsimp only
    refine wpAny_bind (listItems_at e2 rfl ?_)
    refine keyH_end (κ := dataKind s'.heap ks) (h₁ := hide1 s'.heap kS) (fun b o _ q => (of_hide1 q).2) hide1_none e2 hLp.1 hkL
      (SortsAt.data (s := s') eks hal hsk fun d hd => by
        have h1 := hr.un
        have h2 := hdp d hd
        show X.A.units + 1 + 1 + d.depth < cLine
        omega) (by rw [List.size_toArray]; omega) hizl fun h3 tk3 c k3 n3 => ⟨rfl, ?_⟩
    have hmz : (xs.zip ks).map Prod.snd = ks := by rw [List.map_snd_zip (by omega)]
    have ko : KeyedOut false ((xs.zip ks).map Prod.snd) its (sortVals (dataKind s'.heap ks) false its2.toArray.toList its) := by
      rw [hmz]
      exact ⟨s'.heap, its2.toArray.toList, hal, rfl, eks⟩
    have eR : EachIs (fun (v : Value) (b : V × PyData) => RelV b.1 v) its (xs.zip ks) := eachIs_get (by rw [List.length_zip]; omega) fun i v b hv hb' => by
      obtain ⟨h4, h5⟩ := List.getElem?_zip_eq_some.mp (show (xs.zip ks)[i]? = some (b.1, b.2) from hb')
      obtain ⟨u, hu, ru⟩ := rv.get h4
      rw [hv] at hu
      cases hu
      exact ru
    have eO := keyedOut_each Prod.snd ko eR
    generalize sortVals (dataKind s'.heap ks) false its2.toArray.toList its = out at n3 eO
    have vO : Vals (byKey xs ks) out := vals_byFst eO
    have hbl : (byKey xs ks).length ≤ sizeLine := by
      unfold byKey
      rw [List.length_map, (List.mergeSort_perm _ _).length_eq, List.length_zip]
      omega
    have hLn' : H' L = none := hLp.2.1
    have kp : ∀ b o, b ≠ L → b ≠ kS → s'.heap.get? b = some o → h3.get? b = some o := fun b o h4 h5 h6 => k3 b o h4 (hide1_get h6 h5)
    have fin : Inv X pins σ (upd (fun b => if b = kS then none else H' b) L (.lst (byKey xs ks))) { s' with heap := h3, gens := s'.gens, drawn := s'.drawn, toks := tk3 } := by
      have Ip : Inv X pins σ H' s' := I'.pins_of fun p hp => I'.pin p (List.mem_append_right _ (List.mem_cons_of_mem _ hp))
      have hf : ∀ b u, b ≠ L → b ≠ kS → H' b = u → upd (fun b => if b = kS then none else H' b) L (.lst (byKey xs ks)) b = u := fun b u h4 h5 h6 => by
        rw [upd_ne h4]
        show (if b = kS then none else H' b) = u
        rw [if_neg h5]
        exact h6
      have nL : ∀ b u, H' b = some u → b ≠ L := fun b u h4 z => by rw [z, hLn'] at h4; cases h4
      have nK : ∀ b u, H' b = some u → (∀ ys, u ≠ .lst ys) → b ≠ kS := fun b u h4 h5 z => by rw [z, hk] at h4; exact h5 _ (Option.some.inj h4).symm
      have old : ∀ b, b = L ∨ b = kS → s.heap.objs.size ≤ b := fun b h4 => by
        rcases h4 with rfl | rfl
        · exact hLs
        · exact hks
      refine Ip.step (ch := [kS, L]) (fun b hb' => ?_) (fun b o h4 h5 h6 h7 h8 => kp b o (fun z => h6 (by simp [z])) (fun z => h6 (by simp [z])) h7) (fun b o h4 h5 h6 h7 h8 => ⟨o.slots, kp b o (fun z => h6 (by simp [z])) (fun z => h6 (by simp [z])) h7⟩)
        (fun b o h4 h5 h6 => hf b _ (fun z => h4 (by simp [z])) (fun z => h4 (by simp [z])) h6) (fun b o h4 h5 => ⟨o, kp b o (fun z => h4 (by simp [z])) (fun z => h4 (by simp [z])) h5⟩)
        (fun b xs' h4 => hf b _ (nL _ _ h4) (nK _ _ h4 fun _ z => nomatch z) h4) (fun b o u h4 => hf b _ (nL _ _ h4) (nK _ _ h4 fun _ z => nomatch z) h4) (fun b ps' h4 => ⟨#[], by rw [hf b _ (nL _ _ h4) (nK _ _ h4 fun _ z => nomatch z) h4]; simp⟩)
        (fun m hm => ?_) (fun b u h4 => ?_) I'.bare
      · have hb2 : b = L ∨ b = kS := by
          rcases List.mem_cons.mp hb' with z | z
          · exact .inr z
          · exact .inl (List.mem_singleton.mp z)
        have hb3 := old b hb2
        refine ⟨.inr (Nat.le_trans I.sz hb3), Nat.ne_of_gt (Nat.lt_of_lt_of_le I.lt hb3), fun x c' h4 z => ?_, fun p hp z => ?_⟩
        · obtain ⟨v, o, ho, _⟩ := I.cell x c' h4
          rw [z] at ho
          exact absurd (Heap.lt_size ho) (Nat.not_lt.mpr hb3)
        · have ho := (I.pin p hp).1
          rw [z] at ho
          exact absurd (Heap.lt_size ho) (Nat.not_lt.mpr hb3)
      · obtain ⟨o, es, ep, ho, hr⟩ := hm
        refine ⟨o, es, ep, kp _ o (Ne.symm hlocL) (fun z => ?_) ho, hr⟩
        have := I.lt
        rw [z] at this
        exact absurd this (Nat.not_lt.mpr hks)
      · by_cases hbL : b = L
        · subst hbL
          rw [upd_same] at h4
          cases h4
          exact ⟨hbl, out, c, vO, n3⟩
        · rw [upd_ne hbL] at h4
          have h5 : b ≠ kS := fun z => by
            have : (if b = kS then none else H' b) = some u := h4
            rw [if_pos z] at this
            cases this
          have h6 : H' b = some u := by
            have : (if b = kS then none else H' b) = some u := h4
            rw [if_neg h5] at this
            exact this
          refine (Ip.hok b u h6).stay (fun c' v hc' q' => ?_) (fun c' q' => hf c' _ (nL _ _ q') (nK _ _ q' fun _ z => nomatch z) q') fun c' xs' q' => hf c' _ (nL _ _ q') (nK _ _ q' fun _ z => nomatch z) q'
          rcases hc' with z | z
          · subst z
            exact kp _ v hbL h5 q'
          · exact kp _ v (nL _ _ z) (nK _ _ z fun _ z => nomatch z) q'
    refine ⟨.ref L, _, fin, rfl, q L _ hHL (fun b o h4 => ?_) upd_same⟩
    have h5 := e _ _ h4
    rw [upd_ne (ne_of_none h4 hHL)]
    show (if b = kS then none else H' b) = some o
    rw [if_neg (ne_of_none h4 hHk)]
    exact h5
theorem dpAll_get {K : PySem.W.Frag} {H : Hp} : ∀ {xs : List V} {ds : List PyData}, DpAll K H xs ds → ∀ {i : Nat} {x : V} {d : PyData}, xs[i]? = some x → ds[i]? = some d → Dp K H x d
  | _, _, .cons h t, 0, x, d, h1, h2 => by
    cases Option.some.inj h1
    cases Option.some.inj h2
    exact h
  | _, _, .cons h t, i + 1, x, d, h1, h2 => dpAll_get t (i := i) h1 h2
  | _, _, .nil, i, x, d, h1, _ => by simp at h1
/-- what sorted(xs) asks of alike data -/
def rSortedD (K : PySem.W.Frag) : List V → Hp → VK → Prop := fun vs H Q => ∃ (a : Addr) (xs : List V) (ks : List PyData), vs = [V.ref a] ∧ SqL K H a xs ∧ ks.length = xs.length ∧ AllAlike ks ∧ Sortable ks ∧ (∀ d ∈ ks, d.depth ≤ 8) ∧ DpAll K H xs ks ∧
  ∀ p, H p = none → Q (.ref p) (upd H p (.lst (byKey xs ks)))
theorem cr_sortedD (hu : X.A.units + 64 < cLine) : CallR X (.builtin "sorted") (rSortedD X.K) := by
  intro pins s σ H vs us Q I r h
  obtain ⟨a, xs, ks, rfl, hs, hlen, hal, hsk, hdp, hdat, q⟩ := h
  obtain rfl := Vals.ref1 r
  obtain ⟨its, rv, hl, hz⟩ := I.list hs
  have hil : its.length = xs.length := rv.length.symm
  have eR : EachIs (fun (v : Value) (b : V × PyData) => RelV b.1 v) its (xs.zip ks) := eachIs_get (by rw [List.length_zip]; omega) fun i v b hv hb' => by
    obtain ⟨h4, h5⟩ := List.getElem?_zip_eq_some.mp (show (xs.zip ks)[i]? = some (b.1, b.2) from hb')
    obtain ⟨u, hu, ru⟩ := rv.get h4
    rw [hv] at hu
    cases hu
    exact ru
  have eD : EachIs (fun (v : Value) (b : V × PyData) => ∃ as, Reads s.heap v b.2 as) its (xs.zip ks) := eachIs_get (by rw [List.length_zip]; omega) fun i v b hv hb' => by
    obtain ⟨h4, h5⟩ := List.getElem?_zip_eq_some.mp (show (xs.zip ks)[i]? = some (b.1, b.2) from hb')
    obtain ⟨u, hu, ru⟩ := rv.get h4
    rw [hv] at hu
    cases hu
    exact Dp.reads I _ _ _ (dpAll_get hdat h4 h5) ru
  have hmz : (xs.zip ks).map Prod.snd = ks := by rw [List.map_snd_zip (by omega)]
  refine PySem.W.sorted_data (enc := Prod.snd) hl.isList eR eD (by rw [hmz]; exact hal) (by rw [hmz]; exact hsk) (by rw [List.length_zip]; omega) (fun b hb' => ?_) fun out ho eO => ?_
  · have h1 : b.2 ∈ ks := by rw [← hmz]; exact List.mem_map.mpr ⟨b, hb', rfl⟩
    have h2 := hdp _ h1
    omega
  · have vO : Vals (byKey xs ks) out := vals_byFst eO
    have hbl : (byKey xs ks).length ≤ sizeLine := by
      unfold byKey
      rw [List.length_map, (List.mergeSort_perm _ _).length_eq, List.length_zip]
      omega
    obtain ⟨ep2, he'⟩ := PyProof.Rows.sortedAll_at s.heap its (List.toArray out)
    exact ⟨.ref _, upd H (s.heap.objs.size + 1) (.lst (byKey xs ks)), I.laid (t' := s.toks) (fun _ _ => PyProof.Rows.sortedAll_old) (Nat.le_succ _) ⟨hbl, out, ep2, vO, he'⟩, rfl, q _ (I.hok.fresh (Nat.le_succ _))⟩
/-- x (not) in a list of data, whatever its texts -/
def rInP (K : PySem.W.Frag) (neg : Bool) : R2 := fun x y H Q => ∃ d ds, Dp K H x d ∧ Dp K H y (.list ds) ∧ d.plain = true ∧ PyData.plainAll ds = true ∧ d.depth ≤ 60 ∧ Q (.bl (if neg = true then !ds.any fun z => PyData.eqv z d else ds.any fun z => PyData.eqv z d)) H
theorem op_inP (hu : X.A.units + 65 < cLine) : OpR X (compareOp .In) (rInP X.K false) := by
  intro pins s σ H x y v u Q I rx ry h
  obtain ⟨d, ds, hd, he, sd, se, hz, q⟩ := h
  obtain ⟨as, r1⟩ := Dp.reads I d x v hd rx
  obtain ⟨bs, r2⟩ := Dp.reads I (.list ds) y u he ry
  rw [if_neg Bool.false_ne_true] at q
  exact SeqAt.in_list_data r2 r1 se sd (by omega) ⟨.bl _, H, I, rfl, q⟩
theorem op_notInP (hu : X.A.units + 65 < cLine) : OpR X (compareOp .NotIn) (rInP X.K true) := by
  intro pins s σ H x y v u Q I rx ry h
  obtain ⟨d, ds, hd, he, sd, se, hz, q⟩ := h
  obtain ⟨as, r1⟩ := Dp.reads I d x v hd rx
  obtain ⟨bs, r2⟩ := Dp.reads I (.list ds) y u he ry
  rw [if_pos rfl] at q
  exact SeqAt.notIn_list_data r2 r1 se sd (by omega) ⟨.bl _, H, I, rfl, q⟩
end
end Fp

/-! First words, lengths, tops, plain bags. -/
namespace Fp
open PySem PySem.W
/-- the first word -/
def lead (s : Bg) : Str := ((ordW (keys s)).head?).getD ""
theorem ordW_cons {ws : List Str} (h : ws ≠ []) : ∃ w r, ordW ws = w :: r := by
  cases e : ordW ws with
  | nil =>
    have := ordW_len ws
    rw [e] at this
    exact absurd (List.length_eq_zero_iff.mp this.symm) h
  | cons w r => exact ⟨w, r, rfl⟩
theorem keys_ne {s : Bg} (h : s ≠ []) : keys s ≠ [] := fun e => h (List.map_eq_nil_iff.mp e)
theorem lead_head {s : Bg} (h : s ≠ []) : (ordW (keys s)).head? = some (lead s) := by
  obtain ⟨w, r, e⟩ := ordW_cons (keys_ne h)
  unfold lead
  rw [e]
  rfl
theorem lead_mem {s : Bg} (h : s ≠ []) : lead s ∈ keys s := by
  have h1 := lead_head h
  exact (ordW_perm _).mem_iff.mp (List.mem_of_head? h1)
theorem lead_le {s : Bg} {u : Str} (hu : u ∈ keys s) : leW (lead s) u = true := by
  have h : s ≠ [] := fun e => by subst e; cases hu
  have hs := ordW_sorted (keys s)
  have hm := (ordW_perm (keys s)).mem_iff.mpr hu
  unfold lead
  cases e : ordW (keys s) with
  | nil => rw [e] at hm; cases hm
  | cons w r =>
    rw [e] at hs hm
    rcases List.mem_cons.mp hm with z | z
    · subst z; exact (leW_total.total _ _).elim id id
    · exact (List.pairwise_cons.mp hs).1 u z
theorem head_cons_ord {ws : List Str} {m : Str} (h : (ordW ws).head? = some m) : m ∈ ws ∧ ∀ w ∈ ws, leW m w = true := by
  have hs := ordW_sorted ws
  refine ⟨(ordW_perm _).mem_iff.mp (List.mem_of_head? h), fun w hw => ?_⟩
  have hm := (ordW_perm ws).mem_iff.mpr hw
  cases e : ordW ws with
  | nil => rw [e] at hm; cases hm
  | cons x r =>
    rw [e] at hs hm h
    obtain rfl : x = m := Option.some.inj h
    rcases List.mem_cons.mp hm with z | z
    · subst z; exact (leW_total.total _ _).elim id id
    · exact (List.pairwise_cons.mp hs).1 w z
theorem lead_is {s : Bg} {m : Str} (h : m ∈ keys s) (hl : ∀ u ∈ keys s, leW m u = true) : lead s = m := leW_anti (lead_le h) (hl _ (lead_mem fun e => by subst e; cases h))
theorem leW_len {a b : Str} (h : leW a b = true) : b.length ≤ a.length := by
  rw [leW_eq] at h
  rcases of_decide_eq_true h with h | h <;> omega
theorem lead_len {s : Bg} {u : Str} (hu : u ∈ keys s) : u.length ≤ (lead s).length := leW_len (lead_le hu)
theorem str_len (a : Str) : a.cps.toList.length = a.length := by
  show a.cps.toList.length = a.cps.size
  rw [Array.length_toList]
theorem le_app {a b : List Nat} {c d : List Nat} (hl : a.length = c.length) (h1 : a ≤ c) (h2 : b ≤ d) : a ++ b ≤ c ++ d := by
  induction a generalizing c with
  | nil =>
    cases c with
    | nil => exact h2
    | cons x c => cases hl
  | cons y a ih =>
    cases c with
    | nil => cases hl
    | cons x c =>
      rw [List.cons_append, List.cons_append, List.cons_le_cons_iff]
      rcases List.cons_le_cons_iff.mp h1 with h | ⟨h, h3⟩
      · exact .inl h
      · exact .inr ⟨h, ih (by simpa using hl) h3⟩
theorem leW_app {a b c d : Str} (h1 : leW a c = true) (h2 : leW b d = true) : leW (a ++ b) (c ++ d) = true := by
  rw [leW_eq] at h1 h2 ⊢
  refine decide_eq_true ?_
  have k1 := of_decide_eq_true h1
  have k2 := of_decide_eq_true h2
  rw [len_app, len_app]
  by_cases e1 : c.length < a.length
  · left
    rcases k2 with k2 | k2 <;> omega
  · by_cases e2 : d.length < b.length
    · left
      rcases k1 with k1 | k1 <;> omega
    · right
      obtain ⟨l1, m1⟩ := k1.resolve_left e1
      obtain ⟨l2, m2⟩ := k2.resolve_left e2
      refine ⟨by omega, ?_⟩
      rw [app_toList, app_toList]
      exact le_app (by rw [str_len, str_len]; exact l1) m1 m2
theorem app_inj {a b c d : Str} (hl : a.length = c.length) (h : a ++ b = c ++ d) : a = c ∧ b = d := by
  have h1 : a.cps.toList ++ b.cps.toList = c.cps.toList ++ d.cps.toList := by rw [← app_toList, ← app_toList, h]
  have h2 := List.append_inj h1 (by rw [str_len, str_len]; exact hl)
  exact ⟨str_ext h2.1, str_ext h2.2⟩
/-- the coefficient of a product at the first words -/
theorem cvS_lead {s t : Bg} (hs : (keys s).Nodup) (ht : (keys t).Nodup) {a b : Str} (ha : ∀ u ∈ keys s, u.length ≤ a.length) (hb : ∀ u ∈ keys t, u.length ≤ b.length) : cvS s t (a ++ b) = cf s a * cf t b := by
  have e : cvS s t (a ++ b) = sumL s fun x => (if x.1 = a then x.2 else 0) * sumL t fun y => if y.1 = b then y.2 else 0 := by
    unfold cvS
    refine sumL_congr fun x hx => ?_
    rw [← sumL_mul]
    refine sumL_congr fun y hy => ?_
    have hxa := ha x.1 (mem_keys.mpr ⟨x.2, hx⟩)
    have hyb := hb y.1 (mem_keys.mpr ⟨y.2, hy⟩)
    by_cases h : x.1 ++ y.1 = a ++ b
    · have hl : x.1.length = a.length := by
        have := congrArg Str.length h
        rw [len_app, len_app] at this
        omega
      obtain ⟨e1, e2⟩ := app_inj hl h
      rw [if_pos h, if_pos e1, if_pos e2]
    · rw [if_neg h]
      by_cases e1 : x.1 = a
      · by_cases e2 : y.1 = b
        · exact absurd (by rw [e1, e2]) h
        · rw [if_neg e2, Int.mul_zero]
      · rw [if_neg e1, Int.zero_mul]
  rw [e, sumL_mulr, sum_ind hs, sum_ind ht]
/-- the clocks -/
def Prm (p : Int) : Prop := p = 2 ∨ p = 3 ∨ p = 5 ∨ p = 7
theorem Prm.pos {p : Int} (h : Prm p) : 1 < p := by rcases h with rfl | rfl | rfl | rfl <;> decide
theorem rng_cases {x p : Int} (h0 : 0 < x) (h1 : x < p) (hp : p ≤ 7) : x = 1 ∨ x = 2 ∨ x = 3 ∨ x = 4 ∨ x = 5 ∨ x = 6 := by omega
theorem prm_mul {p x y : Int} (hp : Prm p) (hx : 0 < x) (hx1 : x < p) (hy : 0 < y) (hy1 : y < p) : 0 < x * y % p := by
  have h7 : p ≤ 7 := by rcases hp with rfl | rfl | rfl | rfl <;> decide
  rcases hp with rfl | rfl | rfl | rfl <;> rcases rng_cases hx hx1 h7 with rfl | rfl | rfl | rfl | rfl | rfl <;> rcases rng_cases hy hy1 h7 with rfl | rfl | rfl | rfl | rfl | rfl <;> first | decide | omega
/-- the inverse, as the program reckons it -/
def powM (p x : Int) : Nat → Int
  | 0 => 1
  | n + 1 => powM p x n * x % p
def inv (p x : Int) : Int := powM p x (p - 2).toNat
theorem inv_one {p x : Int} (hp : Prm p) (hx : 0 < x) (hx1 : x < p) : inv p x * x % p = 1 ∧ 0 < inv p x ∧ inv p x < p := by
  have h7 : p ≤ 7 := by rcases hp with rfl | rfl | rfl | rfl <;> decide
  rcases hp with rfl | rfl | rfl | rfl <;> rcases rng_cases hx hx1 h7 with rfl | rfl | rfl | rfl | rfl | rfl <;> first | decide | omega
theorem inv_uniq {p x n : Int} (hp : Prm p) (hx : 0 < x) (hx1 : x < p) (hn : 0 < n) (hn1 : n < p) (h : n * x % p = 1) : n = inv p x := by
  have h7 : p ≤ 7 := by rcases hp with rfl | rfl | rfl | rfl <;> decide
  rcases hp with rfl | rfl | rfl | rfl <;> rcases rng_cases hx hx1 h7 with rfl | rfl | rfl | rfl | rfl | rfl <;> rcases rng_cases hn hn1 h7 with rfl | rfl | rfl | rfl | rfl | rfl <;> first | rfl | omega | (revert h; decide)
theorem inv_mul {p x y : Int} (hp : Prm p) (hx : 0 < x) (hx1 : x < p) (hy : 0 < y) (hy1 : y < p) : inv p (x * y % p) % p = inv p x * inv p y % p := by
  have h7 : p ≤ 7 := by rcases hp with rfl | rfl | rfl | rfl <;> decide
  rcases hp with rfl | rfl | rfl | rfl <;> rcases rng_cases hx hx1 h7 with rfl | rfl | rfl | rfl | rfl | rfl <;> rcases rng_cases hy hy1 h7 with rfl | rfl | rfl | rfl | rfl | rfl <;> first | decide | omega
section
variable {p : Int} {s t : Bg}
theorem cf_pos_of {w : Str} (g : Good p s) (h : w ∈ keys s) : 0 < cf s w := by
  obtain ⟨n, hn⟩ := mem_keys.mp h
  rw [cf_of_mem g.nd hn]
  exact g.lo _ hn
theorem cf_lt_of {w : Str} (hp : 0 < p) (g : Good p s) : cf s w < p := cf_lt hp g w
theorem prod_lead (hp : Prm p) (gs : Good p s) (gt : Good p t) (hs : s ≠ []) (ht : t ≠ []) : lead s ++ lead t ∈ keys (prodS p s t) ∧ lead (prodS p s t) = lead s ++ lead t ∧ cf (prodS p s t) (lead s ++ lead t) = cf s (lead s) * cf t (lead t) % p := by
  have hp0 : 0 < p := by have := hp.pos; omega
  have e1 : cf (prodS p s t) (lead s ++ lead t) = cf s (lead s) * cf t (lead t) % p := by
    rw [cf_prod hp0, cvS_lead gs.nd gt.nd (fun u hu => lead_len hu) (fun u hu => lead_len hu)]
  have hm : lead s ++ lead t ∈ keys (prodS p s t) := by
    rw [cf_ne (Good.prod hp0 s t), e1]
    have := prm_mul hp (cf_pos_of gs (lead_mem hs)) (cf_lt_of hp0 gs) (cf_pos_of gt (lead_mem ht)) (cf_lt_of hp0 gt)
    exact (Int.ne_of_lt this).symm
  refine ⟨hm, lead_is hm fun u hu => ?_, e1⟩
  obtain ⟨a, ha, b, hb, rfl⟩ := keys_prod hu
  exact leW_app (lead_le ha) (lead_le hb)
theorem prod_ne (hp : Prm p) (gs : Good p s) (gt : Good p t) (hs : s ≠ []) (ht : t ≠ []) : prodS p s t ≠ [] := fun e => by
  have := (prod_lead hp gs gt hs ht).1
  rw [e] at this
  cases this
/-! ### words of one length -/
def sizedS (s : Bg) (n : Int) : Bg := s.filter fun kv => decide ((kv.1.length : Int) = n)
/-- the length -/
def sizeS (s : Bg) : Int := if s = [] then -1 else (lead s).length
theorem Good.sized (g : Good p s) (n : Int) : Good p (sizedS s n) := ⟨by
    unfold sizedS keys
    exact (List.filter_sublist.map _).nodup g.nd, fun kv h => g.lo kv (List.mem_filter.mp h).1, fun kv h => g.hi kv (List.mem_filter.mp h).1⟩
theorem sumL_filter {α : Type} (l : List α) (q : α → Bool) (f : α → Int) : sumL (l.filter q) f = sumL l fun a => if q a = true then f a else 0 := by
  induction l with
  | nil => rfl
  | cons a l ih =>
    rw [List.filter_cons, sumL_cons]
    by_cases h : q a = true
    · rw [if_pos h, if_pos h, sumL_cons, ih]
    · rw [if_neg h, if_neg h, ih, Int.zero_add]
theorem cf_sized (hn : (keys s).Nodup) (n : Int) (w : Str) : cf (sizedS s n) w = if (w.length : Int) = n then cf s w else 0 := by
  have hn2 : (keys (sizedS s n)).Nodup := by
    unfold sizedS keys
    exact (List.filter_sublist.map _).nodup hn
  rw [← sum_ind hn2 w]
  unfold sizedS
  rw [sumL_filter]
  by_cases h : (w.length : Int) = n
  · rw [if_pos h, ← sum_ind hn w]
    refine sumL_congr fun a ha => ?_
    by_cases e : a.1 = w
    · rw [if_pos e, e, if_pos (decide_eq_true h)]
    · rw [if_neg e, ite_self]
  · rw [if_neg h]
    refine sumL_zero fun a ha => ?_
    by_cases e : a.1 = w
    · rw [e, if_neg (by rw [decide_eq_false h]; exact Bool.false_ne_true)]
    · rw [if_neg e, ite_self]
theorem top_prod (hp : Prm p) (gs : Good p s) (gt : Good p t) (hs : s ≠ []) (ht : t ≠ []) : Eqv (sizedS (prodS p s t) (sizeS (prodS p s t))) (prodS p (sizedS s (sizeS s)) (sizedS t (sizeS t))) := fun l => by
  have hp0 : 0 < p := by have := hp.pos; omega
  obtain ⟨_, e1, _⟩ := prod_lead hp gs gt hs ht
  unfold cl
  rw [cf_sized (Good.prod hp0 s t).nd, cf_prod hp0, cf_prod hp0]
  unfold sizeS
  rw [if_neg hs, if_neg ht, if_neg (prod_ne hp gs gt hs ht), e1, len_app]
  have e : cvS (sizedS s (lead s).length) (sizedS t (lead t).length) (ofL l) = if ((ofL l).length : Int) = ((lead s).length + (lead t).length : Nat) then cvS s t (ofL l) else 0 := by
    unfold cvS sizedS
    rw [sumL_filter]
    have e2 : ∀ x ∈ s, (if decide ((x.1.length : Int) = (lead s).length) = true then sumL (t.filter fun kv => decide ((kv.1.length : Int) = (lead t).length)) (fun b => if x.1 ++ b.1 = ofL l then x.2 * b.2 else 0) else 0) =
        if ((ofL l).length : Int) = ((lead s).length + (lead t).length : Nat) then sumL t (fun b => if x.1 ++ b.1 = ofL l then x.2 * b.2 else 0) else 0 := by
      intro x hx
      have hxl := lead_len (mem_keys.mpr ⟨x.2, hx⟩)
      rw [sumL_filter]
      by_cases h : ((ofL l).length : Int) = ((lead s).length + (lead t).length : Nat)
      · rw [if_pos h]
        by_cases h2 : (x.1.length : Int) = (lead s).length
        · rw [if_pos (decide_eq_true h2)]
          refine sumL_congr fun y hy => ?_
          by_cases h3 : x.1 ++ y.1 = ofL l
          · have h4 := congrArg Str.length h3
            rw [len_app] at h4
            rw [if_pos (decide_eq_true (by omega))]
          · rw [if_neg h3, ite_self]
        · rw [if_neg (by rw [decide_eq_false h2]; exact Bool.false_ne_true)]
          refine (sumL_zero fun y hy => ?_).symm
          have hyl := lead_len (mem_keys.mpr ⟨y.2, hy⟩)
          refine if_neg fun h3 => ?_
          have h4 := congrArg Str.length h3
          rw [len_app] at h4
          omega
      · rw [if_neg h]
        by_cases h2 : (x.1.length : Int) = (lead s).length
        · rw [if_pos (decide_eq_true h2)]
          refine sumL_zero fun y hy => ?_
          by_cases h3 : x.1 ++ y.1 = ofL l
          · have h4 := congrArg Str.length h3
            rw [len_app] at h4
            rw [if_neg]
            intro h5
            have := of_decide_eq_true h5
            omega
          · rw [if_neg h3, ite_self]
        · rw [if_neg (by rw [decide_eq_false h2]; exact Bool.false_ne_true)]
    rw [sumL_congr e2]
    by_cases h : ((ofL l).length : Int) = ((lead s).length + (lead t).length : Nat)
    · simp only [if_pos h]
    · simp only [if_neg h]
      exact sumL_zero fun _ _ => rfl
  rw [e]
  split
  · rfl
  · exact (Int.zero_emod p).symm
/-! ### plain bags -/
def plainS (p : Int) (s : Bg) : Bg := plusS p [] s (inv p (cf s (lead s)))
theorem cf_plain (hp : 0 < p) (hn : (keys s).Nodup) (w : Str) : cf (plainS p s) w = inv p (cf s (lead s)) * cf s w % p := by
  unfold plainS
  rw [cf_plus hp Good.nil hn, cf_nil, Int.zero_add]
theorem plain_prod (hp : Prm p) (gs : Good p s) (gt : Good p t) (hs : s ≠ []) (ht : t ≠ []) : Eqv (plainS p (prodS p s t)) (prodS p (plainS p s) (plainS p t)) := fun l => by
  have hp0 : 0 < p := by have := hp.pos; omega
  obtain ⟨_, e1, e2⟩ := prod_lead hp gs gt hs ht
  have gps : Good p (plainS p s) := Good.plus hp0 Good.nil s
  have gpt : Good p (plainS p t) := Good.plus hp0 Good.nil t
  have h1 : cl (plainS p (prodS p s t)) l = inv p (cf s (lead s) * cf t (lead t) % p) * cl (prodS p s t) l % p := by
    unfold cl
    rw [cf_plain hp0 (Good.prod hp0 s t).nd, e1, e2]
  rw [h1, cl_prod hp0 gs.nd gt.nd, cl_prod hp0 gps.nd gpt.nd]
  have h2 : conv (cl (plainS p s)) (cl (plainS p t)) l % p = conv (fun v => inv p (cf s (lead s)) * cl s v) (fun v => inv p (cf t (lead t)) * cl t v) l % p := conv_mod (fun v => by
      unfold cl
      rw [cf_plain hp0 gs.nd, Int.emod_emod_of_dvd _ (Int.dvd_refl p)]) (fun v => by
      unfold cl
      rw [cf_plain hp0 gt.nd, Int.emod_emod_of_dvd _ (Int.dvd_refl p)]) l
  rw [h2, conv_mull, conv_mulr, ← Int.mul_assoc]
  have h3 := inv_mul hp (cf_pos_of gs (lead_mem hs)) (cf_lt_of hp0 gs) (cf_pos_of gt (lead_mem ht)) (cf_lt_of hp0 gt)
  rw [Int.mul_emod, h3, Int.emod_emod_of_dvd _ (Int.dvd_refl p), ← Int.mul_emod]
end
end Fp

/-! Bags in order: by their lengths, then by their words; each once. -/
namespace Fp
open PySem PySem.W
/-- what bag_key tells -/
def bagD (s : Bg) : PyData := .tuple [.int (sizeS s), wordsD (wordsS s)]
theorem alike_pairs : ∀ l m : Bg, alikeAll (l.map pairD) (m.map pairD) = true
  | [], _ => by simp [alikeAll]
  | _ :: _, [] => by simp [alikeAll]
  | a :: l, b :: m => by
    rw [List.map_cons, List.map_cons]
    unfold alikeAll
    rw [alike_pairs l m]
    simp [pairD, alike, alikeAll]
theorem alike_words (l m : Bg) : alike (wordsD l) (wordsD m) = true := by
  show alikeAll (l.map pairD) (m.map pairD) = true
  exact alike_pairs l m
theorem bagD_alike (s t : Bg) : alike (bagD s) (bagD t) = true := by
  unfold bagD
  simp [alike, alikeAll, alike_words]
theorem bagD_depth (s : Bg) : (bagD s).depth ≤ 8 := by
  have := depthAll_words (wordsS s)
  simp only [bagD, wordsD, PyData.depth, PyData.depthAll]
  omega
theorem pair_tri {a b : Str × Int} (h1 : dataLt (pairD a) (pairD b) = false) (h2 : dataLt (pairD b) (pairD a) = false) : a = b := by
  obtain ⟨a1, a2⟩ := a
  obtain ⟨b1, b2⟩ := b
  unfold pairD at h1 h2
  rw [dataLt_pair (by simp [alike]) (by simp [alike]), dataLt_str, dataLt_int] at h1 h2
  simp only [PyData.eqv, beq_iff_eq] at h1 h2
  by_cases e1 : a1 = b1
  · subst e1
    rw [if_pos rfl] at h1 h2
    by_cases e2 : a2 = b2
    · rw [e2]
    · rw [if_neg e2] at h1
      rw [if_neg (Ne.symm e2)] at h2
      have := of_decide_eq_false h1
      have := of_decide_eq_false h2
      omega
  · rw [if_neg e1] at h1
    rw [if_neg (Ne.symm e1)] at h2
    have h3 := of_decide_eq_false h1
    have h4 := of_decide_eq_false h2
    exact absurd (str_ext (List.le_antisymm (List.not_lt.mp h4) (List.not_lt.mp h3))) e1
theorem row_nil (b : Str × Int) (m : Bg) : rowLt (([] : Bg).map pairD) ((b :: m).map pairD) = true := by
  unfold rowLt
  rw [List.map_nil, List.map_cons]
  unfold keyToksAll
  exact (lex_atom (by simp) _ _).trans (by decide +kernel)
theorem words_tri : ∀ {l m : Bg}, rowLt (l.map pairD) (m.map pairD) = false → rowLt (m.map pairD) (l.map pairD) = false → l = m
  | [], [], _, _ => rfl
  | [], b :: m, h1, _ => by
    exact absurd (row_nil b m) (by rw [h1]; decide)
  | a :: l, [], _, h2 => by
    exact absurd (row_nil a l) (by rw [h2]; decide)
  | a :: l, b :: m, h1, h2 => by
    unfold rowLt at h1 h2
    rw [List.map_cons, List.map_cons, dataLt_cons (by simp [pairD, alike, alikeAll])] at h1 h2
    rw [eqv_pair] at h1 h2
    by_cases e : a = b
    · subst e
      rw [if_pos (decide_eq_true rfl)] at h1 h2
      rw [words_tri h1 h2]
    · rw [if_neg (by simpa using e)] at h1
      rw [if_neg (by simpa using Ne.symm e)] at h2
      exact absurd (pair_tri h1 h2) e
def leB : Bg → Bg → Bool := dataLe false bagD
theorem leB_total : TotalLe leB := by
  unfold leB dataLe
  exact sortLe_total _ _ _
theorem leB_anti {s t : Bg} (h1 : leB s t = true) (h2 : leB t s = true) : wordsS s = wordsS t := by
  have h3 : dataLt (bagD t) (bagD s) = false := by
    have : (!dataLt (bagD t) (bagD s)) = true := h1
    simpa using this
  have h4 : dataLt (bagD s) (bagD t) = false := by
    have : (!dataLt (bagD s) (bagD t)) = true := h2
    simpa using this
  unfold bagD at h3 h4
  rw [dataLt_pair (by simp [alike]) (alike_words _ _), dataLt_int] at h3 h4
  simp only [PyData.eqv, beq_iff_eq, eqv_words] at h3 h4
  by_cases e1 : sizeS s = sizeS t
  · rw [if_pos e1.symm] at h3
    rw [if_pos e1] at h4
    by_cases e2 : wordsS s = wordsS t
    · exact e2
    · rw [if_neg (by simpa using Ne.symm e2)] at h3
      rw [if_neg (by simpa using e2)] at h4
      unfold wordsD at h3 h4
      rw [dataLt_tuple] at h3 h4
      exact words_tri h4 h3
  · rw [if_neg (Ne.symm e1)] at h3
    rw [if_neg e1] at h4
    have := of_decide_eq_false h3
    have := of_decide_eq_false h4
    omega
/-- each once, as the program does it: beside the last one -/
def dedB (l : List Bg) : List Bg := l.foldl (fun acc s => if acc.getLast?.map wordsS = some (wordsS s) then acc else acc ++ [s]) []
/-- each once, as the law does it: among all so far -/
def dedM (l : List Bg) : List Bg := l.foldl (fun acc s => if (acc.any fun t => decide (wordsS t = wordsS s)) = true then acc else acc ++ [s]) []
theorem sizeS_words {s t : Bg} (h : wordsS s = wordsS t) : sizeS s = sizeS t := by
  have h1 : ordW (keys s) = ordW (keys t) := by rw [← wordsS_keys, ← wordsS_keys, h]
  have h2 : s = [] ↔ t = [] := by
    have := congrArg List.length h
    rw [wordsS_len, wordsS_len] at this
    rw [← List.length_eq_zero_iff, ← List.length_eq_zero_iff, this]
  unfold sizeS
  by_cases e : s = []
  · rw [if_pos e, if_pos (h2.mp e)]
  · rw [if_neg e, if_neg (fun z => e (h2.mpr z))]
    have h3 := lead_head e
    have h4 := lead_head (fun z => e (h2.mpr z) : t ≠ [])
    rw [h1, h4] at h3
    rw [Option.some.inj h3]
theorem bagD_words {s t : Bg} (h : wordsS s = wordsS t) : bagD s = bagD t := by
  unfold bagD
  rw [h, sizeS_words h]
theorem leB_congr {s t u : Bg} (h : wordsS s = wordsS t) : leB s u = leB t u := by
  show (!dataLt (bagD u) (bagD s)) = (!dataLt (bagD u) (bagD t))
  rw [bagD_words h]
theorem ded_fold : ∀ (l acc : List Bg), (acc ++ l).Pairwise (fun a b => leB a b = true) →
    l.foldl (fun acc s => if acc.getLast?.map wordsS = some (wordsS s) then acc else acc ++ [s]) acc = l.foldl (fun acc s => if (acc.any fun t => decide (wordsS t = wordsS s)) = true then acc else acc ++ [s]) acc
  | [], _, _ => rfl
  | s :: l, acc, h => by
    have e : (acc.getLast?.map wordsS = some (wordsS s)) ↔ (acc.any fun t => decide (wordsS t = wordsS s)) = true := by
      constructor
      · intro h1
        obtain ⟨u, hu, hw⟩ := Option.map_eq_some_iff.mp h1
        exact List.any_eq_true.mpr ⟨u, List.mem_of_getLast? hu, decide_eq_true hw⟩
      · intro h1
        obtain ⟨t, ht, hw⟩ := List.any_eq_true.mp h1
        have hw := of_decide_eq_true hw
        have hne : acc ≠ [] := List.ne_nil_of_mem ht
        obtain ⟨init, u, rfl⟩ : ∃ init u, acc = init ++ [u] := ⟨acc.dropLast, acc.getLast hne, (List.dropLast_concat_getLast hne).symm⟩
        rw [List.getLast?_concat]
        show some (wordsS u) = _
        have hp := List.pairwise_append.mp h
        have hus : leB u s = true := hp.2.2 u (by simp) s List.mem_cons_self
        rcases List.mem_append.mp ht with z | z
        · have htu : leB t u = true := (List.pairwise_append.mp hp.1).2.2 t z u (by simp)
          rw [leB_congr hw] at htu
          rw [leB_anti hus htu]
        · rw [← List.mem_singleton.mp z, hw]
    rw [List.foldl_cons, List.foldl_cons]
    by_cases h1 : (acc.any fun t => decide (wordsS t = wordsS s)) = true
    · rw [if_pos (e.mpr h1), if_pos h1]
      refine ded_fold l acc (h.sublist ?_)
      exact List.Sublist.append (List.Sublist.refl _) (List.sublist_cons_self _ _)
    · rw [if_neg (fun z => h1 (e.mp z)), if_neg h1]
      refine ded_fold l (acc ++ [s]) ?_
      rw [List.append_assoc]
      exact h
def sortB (ss : List Bg) : List Bg := ss.mergeSort leB
theorem ded_eq (ss : List Bg) : dedB (sortB ss) = dedM (sortB ss) := ded_fold _ [] (by rw [List.nil_append]; exact sort_pairwise leB_total ss)
theorem paired_fst_snd {α β : Type} {F : α → β → Prop} : ∀ {l : List (α × β)}, (∀ z ∈ l, F z.1 z.2) → Paired F (l.map Prod.fst) (l.map Prod.snd)
  | [], _ => .nil
  | z :: l, h => .cons (h z List.mem_cons_self) (paired_fst_snd fun y hy => h y (List.mem_cons_of_mem _ hy))
theorem paired_zip {α β : Type} {F : α → β → Prop} {xs : List α} {ys : List β} (h : Paired F xs ys) : ∀ z ∈ xs.zip ys, F z.1 z.2 := by
  induction h with
  | nil => intro z hz; cases hz
  | cons h1 _ ih =>
    intro z hz
    rcases List.mem_cons.mp hz with rfl | hz
    · exact h1
    · exact ih z hz
theorem byKey_paired {F : L2.V → Bg → Prop} {xs : List L2.V} {ss : List Bg} (h : Paired F xs ss) : Paired F (byKey xs (ss.map bagD)) (sortB ss) := by
  have e1 : ((xs.zip ss).mergeSort fun a b => leB a.2 b.2).map Prod.snd = sortB ss := by
    rw [sort_maps (s := leB) Prod.snd fun _ _ _ _ => rfl, List.map_snd_zip (by rw [h.length]; exact Nat.le_refl _)]
    rfl
  have e2 : byKey xs (ss.map bagD) = ((xs.zip ss).mergeSort fun a b => leB a.2 b.2).map Prod.fst := by
    unfold byKey
    have e3 : xs.zip (ss.map bagD) = (xs.zip ss).map fun z => (z.1, bagD z.2) := by
      rw [List.zip_map_right]
      rfl
    rw [e3, ← sort_maps (r := fun a b => leB a.2 b.2) (s := dataLe false Prod.snd) (fun z : L2.V × Bg => (z.1, bagD z.2)) fun _ _ _ _ => rfl, List.map_map]
    rfl
  rw [e1.symm, e2]
  exact paired_fst_snd fun z hz => paired_zip h z ((List.mergeSort_perm _ _).mem_iff.mp hz)
theorem bagD_plain (s : Bg) : (bagD s).plain = true := by
  have := plainAll_words (wordsS s)
  simp [bagD, wordsD, PyData.plain, PyData.plainAll, this]
theorem eqv_bagD (s t : Bg) : PyData.eqv (bagD s) (bagD t) = decide (wordsS s = wordsS t) := by
  show PyData.eqvAll [.int (sizeS s), wordsD (wordsS s)] [.int (sizeS t), wordsD (wordsS t)] = _
  simp only [PyData.eqvAll, PyData.eqv, eqv_words, Bool.and_true]
  rw [Bool.eq_iff_iff]
  by_cases h : wordsS s = wordsS t
  · simp [h, sizeS_words h]
  · simp [h]
end Fp

/-! Comprehensions that choose; dict comprehensions over a dict; dict(pairs). -/
namespace Fp
open PySem L2
section
variable {J : It} {n : Nat} {G : Hp → Prop} {Y : Nat → Hp → V → Hp → Prop} {α : Type}
/-- a comprehension that chooses: its elements stand to the chosen es as R says -/
theorem lc_relF (w : Walk J n G Y) {j : Nat} {te : TE} {tt : TT} {vs : List Nat} {σ : St} {H1 : Hp} {Q : VK} (es : List α) (sel : α → Bool) (hl : es.length = n) (hn : n ≤ sizeLine) (hG : ∀ H, Ex H1 H → G H)
    (R : α → V → Hp → Prop) (hR : ∀ e y H H', ExL H H' → R e y H → R e y H') (hw : ∀ x, wipe ((wipe σ vs).set j x) vs = wipe σ vs)
    (hs : ∀ i x e H H' (K : VK) (N : Hp → Prop), i < n → Ex H1 H → Y i H x H' → es[i]? = some e → (sel e = true → ∀ y H4, Ex H H4 → R e y H4 → K y H4) → (sel e = false → ∀ H4, Ex H H4 → N H4) →
      tt ((wipe σ vs).set j (some x)) H' fun b H3 => if b = true then te ((wipe σ vs).set j (some x)) H3 K else N H3)
    (hd : ∀ D H' ys, H1 D = none → Ex H1 H' → H' D = some (.lst ys) → Paired (fun y e => R e y H') ys (es.filter sel) → Q (.ref D) H') :
    LcG J (gName j) tt te vs σ H1 Q := by
  intro D hD
  refine lc_it w (fun i H => Ex H1 H ∧ ∃ ys, H D = some (.lst ys) ∧ Paired (fun y e => R e y H) ys ((es.take i).filter sel)) ⟨Ex.new hD, [], upd_same, .nil⟩ (fun i H _ p => hG H p.1) ?_ (fun H p => ?_)
  · rintro i x H H' hi ⟨e, ys, hacc, hp⟩ hy
    have hi' : i < es.length := by omega
    obtain ⟨y, hyi⟩ : ∃ y, es[i]? = some y := ⟨es[i], by simp [hi']⟩
    refine ⟨hw _, ?_⟩
    have hlen : ys.length ≤ i := by
      rw [hp.length]
      refine Nat.le_trans (List.length_filter_le _ _) ?_
      rw [List.length_take]
      omega
    refine hs i x y H H' _ _ hi e hy hyi (fun hsel z H4 e4 rz => ⟨ys, e4 _ _ hacc, by omega, ?_, ys ++ [z], upd_same, ?_⟩) fun hsel H4 e4 => ⟨e.trans e4, ys, e4 _ _ hacc, ?_⟩
    · exact Ex.mut (e.trans e4) hD
    · have tu : ExL H4 (L2.upd H4 D (.lst (ys ++ [z]))) := ExL.upd (e4 _ _ hacc)
      rw [List.take_add_one, hyi, List.filter_append]
      have : List.filter sel (some y).toList = [y] := by simp [hsel]
      rw [this]
      exact Paired.snoc (Paired.mapP hp fun a b q => hR _ _ _ _ (e4.exl.trans tu) q) (hR _ _ _ _ tu rz)
    · rw [List.take_add_one, hyi, List.filter_append]
      have : List.filter sel (some y).toList = [] := by simp [hsel]
      rw [this, List.append_nil]
      exact Paired.mapP hp fun a b q => hR _ _ _ _ e4.exl q
  · obtain ⟨e, ys, h, hp⟩ := p
    rw [← hl, List.take_length] at hp
    exact hd D H ys hD e h hp
end
/-- ExL to a heap in which a dict is unlocked -/
def ExT (H H' : Hp) : Prop := TupS H H'
section
variable {σ : St} {H : Hp} {Q : VK} {d : Addr} {s : Bg}
/-- a loop of any kind over a dict's keys: the dict locked, then unlocked -/
theorem lock_any {t : TE} (hd : Rd H d (.dK (toK s)))
    (core : ∀ (Hl : Hp) (od : Obj) (Q' : VK), Hl d = some (.frz od (.dK (toK s))) → LkEx d s H Hl → (∀ a, Hl a = none → H a = none) →
      (∀ v H', (∀ D, v = .ref D → H D = none) → Ex Hl H' → (∀ H2, Ex H H2 → (∀ a, a ≠ d → H2 a = H' a) → TupS H' H2 → Q v H2) → Q' v H') → t σ Hl Q') : tLockRE t σ H Q := by
  rcases hd with hd | ⟨od, hd⟩
  · refine .inl ⟨d, _, hd, trivial, fun od => ?_⟩
    refine core _ od _ upd_same ⟨fun a o ha q => by rw [upd_ne ha]; exact q, .inr ⟨od, upd_same⟩⟩ (fun a ha => ?_) fun v H' hv e hq => ?_
    · by_cases q : a = d
      · subst q; rw [upd_same] at ha; cases ha
      · rw [upd_ne q] at ha; exact ha
    · have hdl : H' d = some (.frz od (.dK (toK s))) := e _ _ upd_same
      refine ⟨hdl, hq _ (fun a o q => ?_) (fun a ha => by rw [upd_ne ha]) (TupS.upd hdl fun _ => by simp)⟩
      by_cases ha : a = d
      · subst ha
        rw [hd] at q
        cases q
        exact upd_same
      · rw [upd_ne ha]
        exact e a o (by rw [upd_ne ha]; exact q)
  · exact .inr (core H od Q hd ⟨fun a o _ h => h, .inr ⟨od, hd⟩⟩ (fun _ h => h) fun v H' hv e hq => hq H' e (fun _ _ => rfl) fun _ _ h => h)
end
/-- a comprehension over a dict's keys that chooses -/
theorem lcd_relF {σ : St} {H : Hp} {Q : VK} {d : Addr} {s : Bg} {te0 te : TE} {tt : TT} {j : Nat} {vs : List Nat} (hd : Rd H d (.dK (toK s))) (hz : s.length ≤ sizeLine)
    (he : ∀ (H' : Hp) (Q : VK), LkEx d s H H' → Q (.ref d) H' → te0 σ H' Q) (sel : Str × Int → Bool)
    (R : Str × Int → V → Hp → Prop) (hR : ∀ e y H H', TupS H H' → R e y H → R e y H') (hw : ∀ x, wipe ((wipe σ vs).set j x) vs = wipe σ vs)
    (hs : ∀ (i : Nat) (w : Str) (n : Int) (H' : Hp) (K : VK) (N : Hp → Prop), s[i]? = some (w, n) → LkEx d s H H' → (sel (w, n) = true → ∀ y H4, Ex H' H4 → R (w, n) y H4 → K y H4) → (sel (w, n) = false → ∀ H4, Ex H' H4 → N H4) →
      tt ((wipe σ vs).set j (some (.str w))) H' fun b H3 => if b = true then te ((wipe σ vs).set j (some (.str w))) H3 K else N H3)
    (hend : ∀ D H' ys, H D = none → Ex H H' → H' D = some (.lst ys) → Paired (fun y e => R e y H') ys (s.filter sel) → Q (.ref D) H') : tLockRE (tLc (iKeys te0) (gName j) tt te vs) σ H Q := by
  refine lock_any hd fun Hl od Q' hl l0 hnone hq => ?_
  refine he Hl _ l0 ⟨d, od, rfl, .inl ⟨toK s, hl, ?_⟩⟩
  show LcG _ _ _ _ _ _ _ _
  refine lc_relF walk_keys s sel (toK_len s).symm (by rw [toK_len]; exact hz) (fun H' e => e _ _ hl) R (fun e y H H' t => hR e y H H' fun a xs h => t a _ (fun _ z => nomatch z) h) hw ?_ (fun D H' ys hD e hl2 hp => ?_)
  · rintro i x e H2 H3 K N hi e2 ⟨rfl, k, v, hk, rfl⟩ hei hK hN
    obtain ⟨w, n, hw', ekv⟩ := toK_get hk
    cases ekv
    rw [hw'] at hei
    obtain rfl := (Option.some.inj hei).symm
    exact hs i w n H3 K N hw' (l0.ex e2) hK hN
  · have hDd : D ≠ d := fun z => by subst z; rw [hl] at hD; cases hD
    refine hq _ H' (fun D' z => by cases z; exact hnone _ hD) e fun H2 e2 hs2 ht => hend D H2 ys (hnone _ hD) e2 (by rw [hs2 D hDd]; exact hl2) (Paired.mapP hp fun a b q => hR _ _ _ _ ht q)
theorem putS_new {t : Bg} {w : Str} {n : Int} (h : w ∉ keys t) : putS t w n = t ++ [(w, n)] := by
  unfold putS
  rw [if_neg]
  intro z
  rw [List.any_eq_true] at z
  obtain ⟨kv, h1, h2⟩ := z
  exact h (mem_keys.mpr ⟨kv.2, by rw [← of_decide_eq_true h2]; exact h1⟩)
/-- a dict comprehension over a dict's keys: the pairs that f makes of them -/
theorem dcd_rel {σ : St} {H : Hp} {Q : VK} {d : Addr} {s : Bg} {te0 tk tv : TE} {tt : TT} {j : Nat} {vs : List Nat} (hd : Rd H d (.dK (toK s))) (hz : s.length < sizeLine)
    (he : ∀ (H' : Hp) (Q : VK), LkEx d s H H' → Q (.ref d) H' → te0 σ H' Q) (f : Str × Int → Option (Str × Int)) (hnd : (keys (s.filterMap f)).Nodup) (hw : ∀ x, wipe ((wipe σ vs).set j x) vs = wipe σ vs)
    (hs : ∀ (i : Nat) (w : Str) (n : Int) (H' : Hp) (K : V → V → Hp → Prop) (N : Hp → Prop), s[i]? = some (w, n) → LkEx d s H H' → (∀ w' n' H5, f (w, n) = some (w', n') → Ex H' H5 → K (.str w') (.int n') H5) → (f (w, n) = none → ∀ H4, Ex H' H4 → N H4) →
      tt ((wipe σ vs).set j (some (.str w))) H' fun b H3 => if b = true then tk ((wipe σ vs).set j (some (.str w))) H3 fun y H4 => tv ((wipe σ vs).set j (some (.str w))) H4 fun z H5 => K y z H5 else N H3)
    (hend : ∀ D H', H D = none → Ex H H' → H' D = some (.dK (toK (s.filterMap f))) → Q (.ref D) H') : tLockRE (tDc (iKeys te0) (gName j) tt tk tv vs) σ H Q := by
  refine lock_any hd fun Hl od Q' hl l0 hnone hq => ?_
  refine he Hl _ l0 ⟨d, od, rfl, .inl ⟨toK s, hl, fun D hD => ?_⟩⟩
  have hDd : D ≠ d := fun z => by subst z; rw [hl] at hD; cases hD
  refine ⟨fun i m H' => m = s.length - i ∧ i ≤ s.length ∧ Ex Hl H' ∧ H' D = some (.dK (toK ((s.take i).filterMap f))), ⟨s.length, by simp, Nat.zero_le _, Ex.new hD, upd_same⟩, ?_⟩
  rintro i m H2 ⟨rfl, hi, e2, hD2⟩
  have hl2 := e2 _ _ hl
  by_cases hlt : i < s.length
  · refine .inr ⟨⟨hl2, by rw [toK_len]; exact hlt⟩, fun H' => Ex Hl H' ∧ H' D = some (.dK (toK ((s.take (i + 1)).filterMap f))), fun H' p => ⟨s.length - (i + 1), by omega, rfl, hlt, p.1, p.2⟩, ?_⟩
    rintro x H' ⟨rfl, k, v, hk, rfl⟩
    obtain ⟨w, n, hw', ekv⟩ := toK_get hk
    cases ekv
    have etk : s.take (i + 1) = s.take i ++ [(w, n)] := by rw [List.take_add_one, hw']; rfl
    refine ⟨hw _, ?_⟩
    refine hs i w n H' _ _ hw' (l0.ex e2) (fun w' n' H5 hf e5 => ⟨toK ((s.take i).filterMap f), Sum.inr w', rfl, e5 _ _ hD2, ?_, Ex.mut (e2.trans e5) hD, ?_⟩) fun hf H4 e4 => ⟨e2.trans e4, ?_⟩
    · rw [toK_len]
      exact Nat.lt_of_le_of_lt (Nat.le_trans (List.length_filterMap_le _ _) (by rw [List.length_take]; omega)) hz
    · rw [upd_same, putK_toK, etk, List.filterMap_append]
      have e3 : List.filterMap f [(w, n)] = [(w', n')] := by simp [hf]
      rw [e3, putS_new]
      intro hmem
      have hsub : keys ((s.take (i + 1)).filterMap f) = keys ((s.take i).filterMap f) ++ [w'] := by
        rw [etk, List.filterMap_append, e3]
        unfold keys
        rw [List.map_append]
        rfl
      have hnd2 : (keys ((s.take (i + 1)).filterMap f)).Nodup := by
        unfold keys at hnd ⊢
        refine List.Sublist.nodup (List.Sublist.map _ ?_) hnd
        exact List.Sublist.filterMap _ (List.take_sublist _ _)
      rw [hsub, List.nodup_append] at hnd2
      exact hnd2.2.2 _ hmem _ (by simp) rfl
    · rw [e4 _ _ hD2, etk, List.filterMap_append]
      have e3 : List.filterMap f [(w, n)] = [] := by simp [hf]
      rw [e3, List.append_nil]
  · have ei : i = s.length := by omega
    subst ei
    rw [List.take_length] at hD2
    refine .inl ⟨⟨hl2, by rw [toK_len]; exact Nat.le_refl _⟩, ?_⟩
    exact hq _ H2 (fun D' z => by cases z; exact hnone _ hD) e2 fun H3 e3 hs3 ht => hend D H3 (hnone _ hD) e3 (by rw [hs3 D hDd]; exact hD2)
/-! ### dict(list of pairs) -/
def rDictP (K : PySem.W.Frag) : List V → Hp → VK → Prop := fun xs H Q => ∃ (a : Addr) (ps : List Addr) (kvs : List (Key × V)), xs = [.ref a] ∧ SqL K H a (ps.map V.ref) ∧ Paired (fun p kv => SqT K H p [kV kv.1, kv.2]) ps kvs ∧
    ∀ p, H p = none → Q (.ref p) (upd H p (.dK (mergeK [] kvs)))
theorem call_dictQ {X : Cx} (h : X.calm = true) : CallR X (.type "dict") (rDictP X.K) := call_dictP h
/-- a list of tuples (word, number) -/
theorem g_dictP {K : PySem.W.Frag} {H : Hp} {a : Addr} {ps : List Addr} {s : Bg} {Q : VK} (hl : SqL K H a (ps.map V.ref)) (hp : Paired (fun p (kv : Str × Int) => SqT K H p [.str kv.1, .int kv.2]) ps s) (hn : (keys s).Nodup)
    (h : ∀ p, H p = none → Q (.ref p) (upd H p (.dK (toK s)))) : rDictP K [.ref a] H Q := by
  refine ⟨a, ps, toK s, rfl, hl, ?_, ?_⟩
  · exact paired_mapr hp fun a b z => z
  · rw [mergeK_toK hn]
    exact h
end Fp

/-! min(d, key=f) over a dict of words, f telling (-len(word), word). -/
namespace Fp
open PySem L2 PySem.W
theorem argBest_leW (f : Nat → Str) : ∀ k, argBest (fun i j => dataLt (keyD (f i)) (keyD (f j))) k ≤ k ∧ ∀ j, j ≤ k → leW (f (argBest (fun i j => dataLt (keyD (f i)) (keyD (f j))) k)) (f j) = true
  | 0 => ⟨Nat.le_refl _, fun j hj => by
      have : j = 0 := by omega
      subst this
      exact (leW_total.total _ _).elim id id⟩
  | k + 1 => by
    obtain ⟨h1, h2⟩ := argBest_leW f k
    by_cases hb : dataLt (keyD (f (k + 1))) (keyD (f (argBest (fun i j => dataLt (keyD (f i)) (keyD (f j))) k))) = true
    · have e : argBest (fun i j => dataLt (keyD (f i)) (keyD (f j))) (k + 1) = k + 1 := if_pos hb
      rw [e]
      have hn : leW (f (argBest (fun i j => dataLt (keyD (f i)) (keyD (f j))) k)) (f (k + 1)) = false := by
        show (!dataLt (keyD (f (k + 1))) (keyD (f (argBest (fun i j => dataLt (keyD (f i)) (keyD (f j))) k)))) = false
        rw [hb]; rfl
      have hy : leW (f (k + 1)) (f (argBest (fun i j => dataLt (keyD (f i)) (keyD (f j))) k)) = true := (leW_total.total _ _).elim id (fun z => by rw [hn] at z; cases z)
      refine ⟨Nat.le_refl _, fun j hj => ?_⟩
      rcases Nat.lt_or_ge j (k + 1) with hlt | hge
      · exact leW_total.trans _ _ _ hy (h2 j (by omega))
      · have : j = k + 1 := by omega
        subst this
        exact (leW_total.total _ _).elim id id
    · have e : argBest (fun i j => dataLt (keyD (f i)) (keyD (f j))) (k + 1) = argBest (fun i j => dataLt (keyD (f i)) (keyD (f j))) k := if_neg hb
      rw [e]
      refine ⟨by omega, fun j hj => ?_⟩
      rcases Nat.lt_or_ge j (k + 1) with hlt | hge
      · exact h2 j (by omega)
      · have : j = k + 1 := by omega
        subst this
        show (!dataLt (keyD (f (k + 1))) (keyD (f (argBest (fun i j => dataLt (keyD (f i)) (keyD (f j))) k)))) = true
        cases q : dataLt (keyD (f (k + 1))) (keyD (f (argBest (fun i j => dataLt (keyD (f i)) (keyD (f j))) k))) with
        | false => rfl
        | true => exact absurd q hb
/-- the first word of a row that is not empty -/
theorem ordW_head {ws : List Str} {m : Str} (hm : m ∈ ws) (hl : ∀ w ∈ ws, leW m w = true) : (ordW ws).head? = some m := by
  have hp := ordW_perm ws
  have hs := ordW_sorted ws
  cases e : ordW ws with
  | nil => rw [e] at hp; exact absurd (hp.mem_iff.mpr hm) (by simp)
  | cons w r =>
    rw [e] at hp hs
    have hw : w ∈ ws := hp.mem_iff.mp List.mem_cons_self
    have h1 := hl w hw
    have h2 : leW w m = true := by
      rcases List.mem_cons.mp (hp.mem_iff.mpr hm) with z | z
      · rw [z]; exact (leW_total.total _ _).elim id id
      · exact (List.pairwise_cons.mp hs).1 m z
    rw [leW_anti h2 h1]
    rfl
section
variable {X : L2.Cx} {wn nm qual : Str} {st : PySem.Stmt} {f : Addr} {fd : FuncData} {pins : List (Addr × Obj)} {σ : St} {H : Hp} {s : Shared} {p1 p2 p3 p4 p5 p6 p7 : Pos} 
/-- a new tuple (-len(word), word) -/
def KeyNew (x : Str) (s1 : Shared) (v : Value) (s2 : Shared) : Prop := ∃ h' tk b t1 t2, s2 = { s1 with heap := h', toks := tk } ∧ v = .ref b ∧ s1.heap.get? b = none ∧ (∀ a o, s1.heap.get? a = some o → h'.get? a = some o) ∧ h'.get? b = some { cls := .type "tuple", data := .seq #[.int (-(x.length : Int)) t1, .str x t2] }
theorem ahead_new {kk : _} (F : Fun X.K nm qual st f fd) (S : FnScope [wn] [wn] (defScope st))
    (hbody : defBody st = [.Return (some (.Tuple [.UnaryOp .USub (.Call (.Name "len" p1) [.Name wn p2] [] p3) p4, .Name wn p5] kk p6)) p7])
    (hwn : (defScope st).names.lookup wn = some .local) (hlen : (defScope st).names.lookup ("len" : Str) = some .globalImplicit) (hwd : (wn == ("__debug__" : Str)) = false) (bn : Binds X.K fd [wn] []) (bl : X.mg "len" = none) (I : Inv X pins σ H s) {A' : Around} (hr : Room 1 A')
    (x : Str) (t : Tok) (hx : x.length ≤ sizeLine) (h : Heap) (tk : Nat) (keep : ∀ b o, s.heap.get? b = some o → h.get? b = some o) :
    wpAny (model X.prog X.w) A' (call (.ref f) [.str x t]) (KeyNew x { s with heap := h, toks := tk }) (fun _ _ => False) { s with heap := h, toks := tk } := by
  obtain ⟨oc, od, kV, doc, pm, an, cdv, ct, osl, rfl, lk, hcd⟩ := F.ex
  have KX : X.K.In h := I.kIn.keeps keep
  have lim : h.NoLimit := I.nolimit.keeps keep
  have hb := bn { s with heap := h, toks := tk } [.str x t] KX rfl
  refine wpAny_call (codeAny_call_function hr.depth (KX _ _ lk) rfl S.co S.gen rfl (PySem.W.codeRec_of KX hcd) (hb _ _ _ _ ?_))
  have hkind : ∀ y ∈ [wn].zip ([Value.str x t] ++ []), (defScope st).names.lookup y.1 = some .local ∨ ((defScope st).names.lookup y.1 = some .cell ∧ ((cellsFrom (h.objs.size + 1) (defScope st).names []).lookup y.1).isSome = true) := fun y hy => by
    have e : y = (wn, Value.str x t) := by simpa using hy
    rw [e]
    exact .inl hwn
  refine wpAny_newFunctionEnv_cells S.kind hkind fun env he s1 xx => ?_
  have htk := xx.toInCall
  obtain ⟨h1, tk1, rfl, hk1⟩ := xx.done
  have hns := xx.toInCall.ns
  refine ⟨lim.keeps hk1, codeAny_func ?_⟩
  have henv : env.scope = defScope st ∧ env.globals = mainGlobals ∧ env.builtins = builtinsNs := by rw [he]; exact ⟨rfl, rfl, rfl⟩
  obtain ⟨e1, e2, e3⟩ := henv
  have kw : env.kindOf wn = some .local := by unfold Env.kindOf; rw [e1]; exact hwn
  have kl : env.kindOf "len" = some .globalImplicit := by unfold Env.kindOf; rw [e1]; exact hlen
  have mw : bindL env.kindOf ([wn].zip ([Value.str x t] ++ [])) (fun _ => none) wn = some (.str x t) := by
    show bindL env.kindOf [(wn, Value.str x t)] (fun _ => none) wn = _
    unfold bindL
    simp [bindL, kw]
  have keep1 : ∀ b o, s.heap.get? b = some o → h1.get? b = some o := fun b o q => hk1 b o (keep b o q)
  obtain ⟨mb, b1, b2⟩ := I.mod.blt
  rw [hbody]
  refine wpAny_execs_cons (wpAny_Return_some (wpAny_Tuple_spliced ?_))
  refine Calls.spliced_cons (PyProof.Rows.UnaryOp_ (wpAny_Call_Name_kw (Calls.Name_function_global (by rw [e1]; exact S.kind) kl (Calls.loadGlobal_builtin (by rw [e2]; exact I.mod.glob.keeps fun b o q => keep1 b o (I.bk b o q)) bl
    (by rw [e3]; exact b1.keeps fun b o q => keep1 b o (I.bk b o q)) ((b2 ("len" : Str) (by decide)).trans PySem.boot_len) ?_))))
  refine PyProof.Rows.callWith_builtin1 (Calls.spliced_cons (wpAny_Name (wpAny_loadName_local (by rw [e1]; exact S.kind) kw hns mw (Calls.spliced_nil ?_)) hwd))
  have hn := L2.line63
  refine PyProof.Rows.len_str (by omega) (PyProof.Rows.neg_int ?_)
  refine Calls.spliced_cons (wpAny_Name (wpAny_loadName_local (by rw [e1]; exact S.kind) kw hns mw (Calls.spliced_nil ⟨by show 2 ≤ sizeLine; decide, ?_⟩)) hwd)
  refine ⟨_, _, _, _, _, rfl, rfl, ?_, fun b o q => Heap.get?_push_of_some _ (hk1 b o q), Heap.get?_push_size _ rfl⟩
  show h.get? h1.objs.size = none
  cases q : h.get? h1.objs.size with
  | none => rfl
  | some o => exact absurd (Heap.lt_size (hk1 _ o q)) (Nat.lt_irrefl _)
/-- what min(d, key=f) asks, f telling (-len(word), word) -/
def rMinKey (f : Addr) : List V → List V → Hp → VK → Prop := fun vs zs H Q => ∃ (a : Addr) (s : Bg), vs = [V.ref a] ∧ zs = [V.ref f] ∧ H a = some (.dK (toK s)) ∧ s ≠ [] ∧ (∀ w ∈ keys s, w.length ≤ sizeLine) ∧
  ∀ w, (ordW (keys s)).head? = some w → Q (.str w) H
theorem cr_minKey {kk : _} (F : Fun X.K nm qual st f fd) (S : FnScope [wn] [wn] (defScope st))
    (hbody : defBody st = [.Return (some (.Tuple [.UnaryOp .USub (.Call (.Name "len" p1) [.Name wn p2] [] p3) p4, .Name wn p5] kk p6)) p7])
    (hwn : (defScope st).names.lookup wn = some .local) (hlen : (defScope st).names.lookup ("len" : Str) = some .globalImplicit) (hwd : (wn == ("__debug__" : Str)) = false) (bn : L2.Binds X.K fd [wn] []) (bl : X.mg "len" = none) (hr : Room 2 X.A) (hc : X.calm = true) :
    CallRK X (.builtin "min") [Str.ofString "key"] (rMinKey f) := by
  intro pins s σ H vs zs us ws Q I r rz h
  obtain ⟨a, sp, rfl, rfl, ha, hne, hx, q⟩ := h
  obtain rfl := Vals.ref1 r
  obtain ⟨w1, rfl, e1⟩ := vals1 rz
  obtain rfl : w1 = Value.ref f := e1
  obtain ⟨_, hsys, vs, rel, dof⟩ := dk_of I.hok ha
  obtain ⟨ep, dat⟩ := dof.dictAt
  obtain ⟨ob, es, ho, hex, hdat, hko, hpr, hnd⟩ := id dat
  have hlt : a < s.heap.objs.size := Heap.lt_size ho
  have hkeys : vs.map (·.1) = (keys sp).map Sum.inr := (KV.keys rel).symm.trans (by unfold toK keys; rw [List.map_map, List.map_map]; rfl)
  have hlv : vs.length = (keys sp).length := by
    have e1 := congrArg List.length hkeys
    rw [List.length_map, List.length_map] at e1
    exact e1
  have hpos : 0 < vs.length := by
    rw [hlv]
    unfold keys
    rw [List.length_map]
    exact List.length_pos_iff.mpr hne
  have hval : ∀ (i : Nat) (v : Value), (∃ k x, vs[i]? = some (k, x) ∧ (mixKind X.prog X.w).is k v = true) → ∃ t, v = Value.str ((keys sp).getD i "") t := fun i v ⟨k, x, hk, hkey⟩ => by
    have e1 : (vs.map (·.1))[i]? = some k := by rw [List.getElem?_map, hk] <;> rfl
    rw [hkeys, List.getElem?_map] at e1
    obtain ⟨j, hj, e2⟩ := Option.map_eq_some_iff.mp e1
    subst e2
    have hi : keyIs (Sum.inr j) v = true := hkey
    rcases keyIs_shape hi with ⟨z, t, z1, z2⟩ | ⟨z, t, z1, z2⟩
    · cases z1
    · cases z1
      refine ⟨t, ?_⟩
      rw [z2, List.getD_eq_getElem?_getD, hj] <;> rfl
  refine call_min_walkK (wpAny_pyIter_dict (knd := mixKind X.prog X.w) hsys dat ?_)
  have W := (Walks.dictKeys (knd := mixKind X.prog X.w) (A := X.A.in1) (I.ok.hd hc) s.heap.objs.size a (Nat.ne_of_lt hlt) vs ep).toS
  have hleq : vs.length = (keys sp).length := hlv
  generalize hs2 : ({ s with heap := s.heap.push { cls := .type "dict_keyiterator", data := .fields #[.ref a, .int 0 0, .int (vs.length : Nat) 0, .int (ep : Nat) 0] }, toks := s.toks } : Shared) = s2
  have hsz : s2.heap.objs.size = s.heap.objs.size + 1 := by rw [← hs2]; exact Heap.size_push _ _
  have hkp : ∀ b o, s.heap.get? b = some o → s2.heap.get? b = some o := fun b o e => by rw [← hs2]; exact Heap.get?_push_of_some _ e
  have hst : s2.heap.IsKeyIter s.heap.objs.size a 0 vs.length ep ∧ s2.heap.DictAt (mixKind X.prog X.w) a vs ep := by
    rw [← hs2]
    exact ⟨⟨_, Heap.get?_push_size _ rfl, rfl, rfl⟩, dat.keep fun b u e => Heap.get?_push_of_some _ e⟩
  have hgen : s2.gens = s.gens ∧ s2.drawn = s.drawn ∧ s2.os = s.os := by rw [← hs2]; exact ⟨rfl, rfl, rfl⟩
  refine ⟨_, _, _, _, _, _, _, fun m => Moved [s2.heap.objs.size, s.heap.objs.size] (fun a b => b = a) s2 m, fun i k m => ∃ b t1 t2, k = .ref b ∧ b ≠ s2.heap.objs.size ∧ b ≠ s.heap.objs.size ∧ m.heap.get? b = some { cls := .type "tuple", data := .seq #[.int (-((((keys sp).getD i "").length : Nat) : Int)) t1, .str ((keys sp).getD i "") t2] }, fun i j => dataLt (keyD ((keys sp).getD i "")) (keyD ((keys sp).getD j "")), rfl, W, hst, fun b hb => ?_, hpos, ?_, Moved.refl (fun _ => rfl), fun v s' hP hk => ?_⟩
  · rw [hsz]
    rcases List.mem_cons.mp hb with e | hb
    · rw [e]
      exact Nat.lt_succ_self _
    · rw [List.mem_singleton.mp hb]
      exact Nat.lt_succ_of_lt hlt
  · refine ⟨fun m m' hm hmv => Moved.trans (fun _ _ _ h1 h2 => h2.trans h1) hm hmv, fun i k m m' hv hmv => ?_, fun i v m o Q2 E2 hi hP hm hst2 hS q2 => ?_, fun i j ki kj m Q2 E2 hm hv1 hv2 q2 => ?_⟩
    · obtain ⟨b, t1, t2, rfl, n1, n2, hb⟩ := hv
      refine ⟨b, t1, t2, rfl, n1, n2, hmv.heap b _ (fun z => ?_) hb⟩
      rcases List.mem_cons.mp z with z | z
      · exact n1 z
      · exact n2 (List.mem_singleton.mp z)
    · obtain ⟨t, rfl⟩ := hval i v hP
      have hx2 : ((keys sp).getD i "").length ≤ sizeLine := by
        have hi2 : i < (keys sp).length := by omega
        rw [List.getD_eq_getElem?_getD, List.getElem?_eq_getElem hi2]
        exact hx _ (List.getElem_mem hi2)
      have Im : Inv X pins σ H m := by
        have hm' : m = { s with heap := m.heap, toks := m.toks } := by
          obtain ⟨_, g1, g2, g3, _⟩ := hm
          obtain ⟨g4, g5, g6⟩ := hgen
          cases m
          simp only at g1 g2 g3 ⊢
          rw [g1, g2, g3, g4, g5, g6]
        rw [hm']
        refine I.kept (t' := m.toks) fun b u e => hm.heap b u (fun z => ?_) (hkp b u e)
        have e2 := Heap.lt_size e
        rcases List.mem_cons.mp z with z | z
        · rw [z, hsz] at e2; exact absurd e2 (Nat.not_lt.mpr (Nat.le_succ _))
        · rw [List.mem_singleton.mp z] at e2; exact absurd e2 (Nat.lt_irrefl _)
      refine wpAny_mono (wpAny_toks (ahead_new F S hbody hwn hlen hwd bn bl Im hr.in1 ((keys sp).getD i "") t hx2 m.heap m.toks fun _ _ e => e)) (fun k m2 hk => ?_) fun _ _ z => z.2.elim
      obtain ⟨htk, h', tk, b, t1, t2, rfl, rfl, hb0, hke, hbt⟩ := hk
      have hbS : b ≠ s2.heap.objs.size := fun z => by
        rw [z] at hb0
        rw [show m.heap.get? s2.heap.objs.size = some o from hS] at hb0
        cases hb0
      have hbI : b ≠ s.heap.objs.size := fun z => by
        rw [z] at hb0
        obtain ⟨o2, ho2, _⟩ := hst2.1
        rw [show m.heap.get? s.heap.objs.size = some o2 from ho2] at hb0
        cases hb0
      refine q2 _ _ (Moved.then_heap hm htk fun b o _ e => hke b o e) (W.frame _ m h' tk hst2 htk fun b _ o e => hke b o e) (hke _ _ hS) ⟨b, t1, t2, rfl, hbS, hbI, hbt⟩ fun j k' hv => ?_
      obtain ⟨b', u1, u2, rfl, n1, n2, hb'⟩ := hv
      exact ⟨b', u1, u2, rfl, n1, n2, hke _ _ hb'⟩
    · obtain ⟨b, t1, t2, rfl, n1, n2, hb⟩ := hv1
      obtain ⟨b', t1', t2', rfl, n1', n2', hb'⟩ := hv2
      have hu := (hr.in1).un
      have hd := keyD_depth ((keys sp).getD i "")
      exact rcLt_alike _ _ _ _ _ _ _ _ (.tuple hb rfl rfl (.cons (.int _ _) (.cons (.str _ _) .nil))) (.tuple hb' rfl rfl (.cons (.int _ _) (.cons (.str _ _) .nil))) (keyD_alike _ _) (fun z => by cases z) (Nat.lt_of_le_of_lt (Nat.add_le_add_left (Nat.le_trans (Nat.min_le_left _ _) hd) _) (by omega)) _ _ _ _ q2
  · obtain ⟨t, rfl⟩ := hval _ v hP
    obtain ⟨b1, b2⟩ := argBest_leW (fun i => (keys sp).getD i "") (vs.length - 1)
    have hm' : s' = { s with heap := s'.heap, toks := s'.toks } := by
      obtain ⟨_, g1, g2, g3, _⟩ := hk
      obtain ⟨g4, g5, g6⟩ := hgen
      cases s'
      simp only at g1 g2 g3 ⊢
      rw [g1, g2, g3, g4, g5, g6]
    have Is : Inv X pins σ H s' := by
      rw [hm']
      refine I.kept (t' := s'.toks) fun b u e => hk.heap b u (fun z => ?_) (hkp b u e)
      have e2 := Heap.lt_size e
      rcases List.mem_cons.mp z with z | z
      · rw [z, hsz] at e2; exact absurd e2 (Nat.not_lt.mpr (Nat.le_succ _))
      · rw [List.mem_singleton.mp z] at e2; exact absurd e2 (Nat.lt_irrefl _)
    refine ⟨.str _, H, Is, ⟨t, rfl⟩, q _ (ordW_head ?_ fun w hw => ?_)⟩
    · have hb : argBest (fun i j => dataLt (keyD ((keys sp).getD i "")) (keyD ((keys sp).getD j ""))) (vs.length - 1) < (keys sp).length := by omega
      rw [List.getD_eq_getElem?_getD, List.getElem?_eq_getElem hb]
      exact List.getElem_mem hb
    · obtain ⟨i, hi, e⟩ := List.mem_iff_getElem.mp hw
      have e2 : (keys sp).getD i "" = w := by rw [List.getD_eq_getElem?_getD, List.getElem?_eq_getElem hi, ← e] <;> rfl
      rw [← e2]
      exact b2 i (by omega)
end
end Fp

/-! A comprehension whose elements are made while the hand turns. -/
namespace Fp
open PySem L2
theorem lc_mutR {J : It} {n : Nat} {G : Hp → Prop} {Y : Nat → Hp → V → Hp → Prop} (w : Walk J n G Y) {f : Addr} {o0 : HO} {j : Nat} {te : TE} {vs : List Nat} {σ : St} {H1 : Hp} {Q : VK} (hf : H1 f = some o0) (hn : n ≤ sizeLine) (I : Hp → Prop) (h0 : I H1)
    (hI : ∀ H D o, H1 D = none → I H → I (upd H D o)) (hG : ∀ H, ExB f H1 H → I H → G H) (R : Nat → V → Hp → Prop) (hR : ∀ i y H H', ExB f H H' → I H → R i y H → R i y H') (hRu : ∀ i y H D ys zs, H D = some (.lst ys) → R i y H → R i y (upd H D (.lst zs))) (hw : ∀ x, wipe ((wipe σ vs).set j x) vs = wipe σ vs)
    (hs : ∀ i x H H' (K : VK), i < n → ExB f H1 H → I H → Y i H x H' → (∀ y H4, ExB f H H4 → I H4 → R i y H4 → K y H4) → te ((wipe σ vs).set j (some x)) H' K)
    (hd : ∀ D H' ys, H1 D = none → ExB f H1 H' → I H' → H' D = some (.lst ys) → ys.length = n → (∀ (i : Nat) (y : V), ys[i]? = some y → R i y H') → Q (.ref D) H') :
    LcG J (gName j) tYes te vs σ H1 Q := by
  intro D hD
  have hDf : D ≠ f := Ne.symm (ne_of_none hf hD)
  refine lc_it w (fun i H => ExB f H1 H ∧ I H ∧ ∃ ys, H D = some (.lst ys) ∧ ys.length = i ∧ ∀ i y, ys[i]? = some y → R i y H) ⟨(Ex.new hD).exb, hI _ _ _ hD h0, [], upd_same, rfl, fun _ _ h => nomatch h⟩ (fun i H _ p => hG H p.1 p.2.1) ?_ (fun H p => ?_)
  · rintro i x H H' hi ⟨e, hi1, ys, hacc, hl, hp⟩ hy
    refine ⟨hw _, ?_⟩
    unfold tYes
    dsimp only
    rw [if_pos rfl]
    refine hs i x H H' _ hi e hi1 hy fun z H4 e4 i4 pz => ⟨ys, e4 _ _ hDf hacc, by omega, ?_, hI _ _ _ hD i4, ys ++ [z], upd_same, by rw [List.length_append, hl]; rfl, fun k y hy => ?_⟩
    · exact fun a o hne q => by rw [upd_ne (ne_of_none q hD)]; exact e4 a o hne (e a o hne q)
    · refine hRu _ _ _ _ _ _ (e4 _ _ hDf hacc) ?_
      rcases Nat.lt_or_ge k ys.length with hk | hk
      · rw [List.getElem?_append_left hk] at hy
        exact hR _ _ _ _ e4 hi1 (hp k y hy)
      · rw [List.getElem?_append_right hk] at hy
        have hk2 : k - ys.length = 0 := by
          rcases Nat.eq_zero_or_pos (k - ys.length) with q | q
          · exact q
          · rw [List.getElem?_eq_none (by simp; omega)] at hy; cases hy
        rw [hk2] at hy
        obtain rfl : z = y := Option.some.inj hy
        have : k = i := by omega
        subst this
        exact pz
  · obtain ⟨e, hi, ys, h, hl, hp⟩ := p
    exact hd D H ys hD e hi h hl hp
/-- each is one of such: they are so in pairs -/
theorem paired_all {α β : Type} {F : α → β → Prop} {g : α → V} : ∀ {ys : List V}, (∀ (i : Nat) (y : V), ys[i]? = some y → ∃ a b, y = g a ∧ F a b) → ∃ as bs, ys = List.map g as ∧ Paired F as bs
  | [], _ => ⟨[], [], rfl, .nil⟩
  | y :: ys, h => by
    obtain ⟨a, b, rfl, hab⟩ := h 0 y rfl
    obtain ⟨as, bs, rfl, hp⟩ := paired_all (ys := ys) fun i z hz => h (i + 1) z hz
    exact ⟨a :: as, b :: bs, rfl, .cons hab hp⟩
end Fp

/-! Dividing: what stands behind a front. -/
namespace Fp
open PySem PySem.W
/-! ### a bag with a word behind it -/
def withB (F : Bg) (t : Str) : Bg := F.map fun kv => (kv.1 ++ t, kv.2)
theorem app_cancel {a b t : Str} (h : a ++ t = b ++ t) : a = b := by
  have h1 : a.cps.toList ++ t.cps.toList = b.cps.toList ++ t.cps.toList := by rw [← app_toList, ← app_toList, h]
  exact str_ext (List.append_cancel_right h1)
theorem app_cancel_l {a b t : Str} (h : t ++ a = t ++ b) : a = b := by
  have h1 : t.cps.toList ++ a.cps.toList = t.cps.toList ++ b.cps.toList := by rw [← app_toList, ← app_toList, h]
  exact str_ext (List.append_cancel_left h1)
theorem withB_keys (F : Bg) (t : Str) : keys (withB F t) = (keys F).map fun u => u ++ t := by
  unfold withB keys
  rw [List.map_map, List.map_map]
  rfl
theorem withB_nodup {F : Bg} {t : Str} (h : (keys F).Nodup) : (keys (withB F t)).Nodup := by
  rw [withB_keys]
  exact List.Pairwise.map _ (fun a b q e => q (app_cancel e)) h
theorem withB_one {p : Int} {F : Bg} (t : Str) (hp : 0 < p) (g : Good p F) : (F.map fun kv => (kv.1 ++ t, kv.2 * 1 % p)) = withB F t := by
  unfold withB
  refine List.map_congr_left fun kv h => ?_
  have h1 := g.lo kv h
  have h2 := g.hi kv h
  rw [Int.mul_one, Int.emod_eq_of_lt (by omega) h2]
theorem addTo_new {p : Int} {s : Bg} {w : Str} {n : Int} (h : w ∉ keys s) (h0 : 0 < n) (h1 : n < p) : addTo p s w n = s ++ [(w, n)] := by
  unfold addTo
  have e : cf s w = 0 := cf_not_mem h
  have e2 : (cf s w + n) % p = n := by rw [e, Int.zero_add, Int.emod_eq_of_lt (by omega) h1]
  rw [e2, if_neg (by omega)]
  unfold putS
  rw [if_neg]
  intro z
  rw [List.any_eq_true] at z
  obtain ⟨kv, q1, q2⟩ := z
  exact h (mem_keys.mpr ⟨kv.2, by rw [← of_decide_eq_true q2]; exact q1⟩)
theorem fold_new {p : Int} {t : Str} : ∀ (l acc : Bg), (keys l).Nodup → (∀ kv ∈ l, 0 < kv.2 ∧ kv.2 < p) → (∀ u ∈ keys l, u ++ t ∉ keys acc) → l.foldl (fun acc a => prodRow p acc a [(t, 1)]) acc = acc ++ withB l t
  | [], acc, _, _, _ => (List.append_nil acc).symm
  | a :: l, acc, hn, hv, hd => by
    have hn2 := List.nodup_cons.mp (show (a.1 :: keys l).Nodup from hn)
    have ha := hv a List.mem_cons_self
    have e1 : prodRow p acc a [(t, 1)] = acc ++ [(a.1 ++ t, a.2)] := by
      show addTo p acc (a.1 ++ t) (a.2 * 1) = _
      rw [Int.mul_one]
      exact addTo_new (hd a.1 (show a.1 ∈ a.1 :: keys l from List.mem_cons_self)) ha.1 ha.2
    rw [List.foldl_cons, e1, fold_new l _ hn2.2 (fun kv h => hv kv (List.mem_cons_of_mem _ h)) (fun u hu hm => ?_), List.append_assoc]
    · rfl
    · unfold keys at hm
      rw [List.map_append, List.mem_append] at hm
      rcases hm with hm | hm
      · exact hd u (show u ∈ a.1 :: keys l from List.mem_cons_of_mem _ hu) hm
      · have e := List.mem_singleton.mp hm
        have e2 := app_cancel e
        rw [e2] at hu
        exact hn2.1 hu
theorem prod_word {p : Int} {F : Bg} (t : Str) (g : Good p F) : prodS p F [(t, 1)] = withB F t := by
  unfold prodS
  rw [fold_new F [] g.nd (fun kv h => ⟨g.lo kv h, g.hi kv h⟩) (fun _ _ h => nomatch h)]
  rfl
theorem withB_good {p : Int} {F : Bg} {t : Str} (g : Good p F) : Good p (withB F t) := ⟨withB_nodup g.nd, fun kv h => by
    obtain ⟨q, hq, rfl⟩ := List.mem_map.mp h
    exact g.lo q hq, fun kv h => by
    obtain ⟨q, hq, rfl⟩ := List.mem_map.mp h
    exact g.hi q hq⟩
theorem cf_withB {F : Bg} {t u : Str} (hn : (keys F).Nodup) : cf (withB F t) (u ++ t) = cf F u := by
  by_cases h : u ∈ keys F
  · obtain ⟨n, hm⟩ := mem_keys.mp h
    rw [cf_of_mem hn hm, cf_of_mem (withB_nodup hn) (n := n) (List.mem_map.mpr ⟨(u, n), hm, rfl⟩)]
  · rw [cf_not_mem h, cf_not_mem]
    rw [withB_keys]
    intro z
    obtain ⟨v, hv, e⟩ := List.mem_map.mp z
    exact h (by rw [← app_cancel e]; exact hv)
theorem withB_len (F : Bg) (t : Str) : (withB F t).length = F.length := List.length_map _
/-! ### numbers -/
theorem step_zero {p l x : Int} (hp : Prm p) (hl : 0 < l) (hl1 : l < p) (hx : 0 < x) (hx1 : x < p) : (l + (-(l * inv p x % p)) * x) % p = 0 ∧ 0 < l * inv p x % p ∧ l * inv p x % p < p := by
  have h7 : p ≤ 7 := by rcases hp with rfl | rfl | rfl | rfl <;> decide
  rcases hp with rfl | rfl | rfl | rfl <;> rcases rng_cases hl hl1 h7 with rfl | rfl | rfl | rfl | rfl | rfl <;> rcases rng_cases hx hx1 h7 with rfl | rfl | rfl | rfl | rfl | rfl <;> first | decide | omega
theorem step_only {p l x k : Int} (hp : Prm p) (hl : 0 < l) (hl1 : l < p) (hx : 0 < x) (hx1 : x < p) (hk : 0 < k) (hk1 : k < p) : (k * x - l) % p = 0 ↔ k = l * inv p x % p := by
  have h7 : p ≤ 7 := by rcases hp with rfl | rfl | rfl | rfl <;> decide
  rcases hp with rfl | rfl | rfl | rfl <;> rcases rng_cases hl hl1 h7 with rfl | rfl | rfl | rfl | rfl | rfl <;> rcases rng_cases hx hx1 h7 with rfl | rfl | rfl | rfl | rfl | rfl <;> rcases rng_cases hk hk1 h7 with rfl | rfl | rfl | rfl | rfl | rfl <;> first | decide | omega
theorem step_back {p c x : Int} (hp : Prm p) (hc : 0 < c) (hc1 : c < p) (hx : 0 < x) (hx1 : x < p) : (x * c % p) * inv p x % p = c := by
  have h7 : p ≤ 7 := by rcases hp with rfl | rfl | rfl | rfl <;> decide
  rcases hp with rfl | rfl | rfl | rfl <;> rcases rng_cases hc hc1 h7 with rfl | rfl | rfl | rfl | rfl | rfl <;> rcases rng_cases hx hx1 h7 with rfl | rfl | rfl | rfl | rfl | rfl <;> first | decide | omega
/-! ### the words of so many letters x, y, z -/
def allL : Nat → List (List Nat)
  | 0 => [[]]
  | n + 1 => [] :: ((allL n).map (120 :: ·) ++ ((allL n).map (121 :: ·) ++ (allL n).map (122 :: ·)))
def lenU : Nat → Nat
  | 0 => 1
  | n + 1 => 1 + (lenU n + (lenU n + lenU n))
theorem allL_len : ∀ n, (allL n).length = lenU n
  | 0 => rfl
  | n + 1 => by
    unfold allL lenU
    rw [List.length_cons, List.length_append, List.length_append, List.length_map, List.length_map, List.length_map, allL_len n]
    omega
def Ltr (l : List Nat) : Prop := ∀ c ∈ l, c = 120 ∨ c = 121 ∨ c = 122
theorem mem_allL : ∀ (n : Nat) (l : List Nat), l.length ≤ n → Ltr l → l ∈ allL n
  | 0, [], _, _ => List.mem_singleton.mpr rfl
  | 0, c :: l, h, _ => absurd h (by simp)
  | n + 1, [], _, _ => List.mem_cons_self
  | n + 1, c :: l, h, hl => by
    have ih := mem_allL n l (by simp at h; omega) fun d hd => hl d (List.mem_cons_of_mem _ hd)
    unfold allL
    refine List.mem_cons_of_mem _ ?_
    rcases hl c List.mem_cons_self with rfl | rfl | rfl
    · exact List.mem_append_left _ (List.mem_map.mpr ⟨l, ih, rfl⟩)
    · exact List.mem_append_right _ (List.mem_append_left _ (List.mem_map.mpr ⟨l, ih, rfl⟩))
    · exact List.mem_append_right _ (List.mem_append_right _ (List.mem_map.mpr ⟨l, ih, rfl⟩))
def allW (n : Nat) : List Str := (allL n).map ofL
/-- words of at most so many letters -/
def Bd (n : Nat) (s : Bg) : Prop := ∀ u ∈ keys s, u.length ≤ n ∧ Ltr u.cps.toList
theorem mem_allW {n : Nat} {w : Str} (h : w.length ≤ n) (hl : Ltr w.cps.toList) : w ∈ allW n :=
  List.mem_map.mpr ⟨w.cps.toList, mem_allL n _ (by rw [str_len]; exact h) hl, ofL_toList w⟩
theorem len_sub {α : Type} [DecidableEq α] : ∀ {l m : List α}, l.Nodup → (∀ x ∈ l, x ∈ m) → l.length ≤ m.length
  | [], _, _, _ => Nat.zero_le _
  | a :: l, m, hn, hs => by
    have hn2 := List.nodup_cons.mp hn
    have ha := hs a List.mem_cons_self
    have h1 := len_sub (l := l) (m := m.erase a) hn2.2 fun x hx => by
      have hne : x ≠ a := fun e => by subst e; exact hn2.1 hx
      exact (List.mem_erase_of_ne hne).mpr (hs x (List.mem_cons_of_mem _ hx))
    rw [List.length_erase_of_mem ha] at h1
    have := List.length_pos_of_mem ha
    rw [List.length_cons]
    omega
theorem Bd.len {n : Nat} {s : Bg} (hn : (keys s).Nodup) (h : Bd n s) : s.length ≤ lenU n := by
  have h1 := len_sub hn (m := allW n) fun u hu => mem_allW (h u hu).1 (h u hu).2
  unfold allW at h1
  rw [List.length_map, allL_len] at h1
  unfold keys at h1
  rw [List.length_map] at h1
  exact h1
theorem filter_le {α : Type} {p q : α → Bool} (h : ∀ x, q x = true → p x = true) : ∀ l : List α, (l.filter q).length ≤ (l.filter p).length
  | [] => Nat.le_refl _
  | a :: l => by
    have ih := filter_le h l
    rw [List.filter_cons, List.filter_cons]
    cases hq : q a with
    | true => rw [h a hq, if_pos rfl, if_pos rfl, List.length_cons, List.length_cons]; omega
    | false =>
      rw [if_neg Bool.false_ne_true]
      split
      · rw [List.length_cons]; omega
      · exact ih
theorem filter_lt {α : Type} {p q : α → Bool} (h : ∀ x, q x = true → p x = true) {a : α} (hp : p a = true) (hq : q a = false) : ∀ l : List α, a ∈ l → (l.filter q).length < (l.filter p).length
  | [], hm => nomatch hm
  | b :: l, hm => by
    have ih2 := filter_le h l
    rw [List.filter_cons, List.filter_cons]
    rcases List.mem_cons.mp hm with e | hm2
    · subst e
      rw [hp, hq, if_neg Bool.false_ne_true, if_pos rfl, List.length_cons]
      omega
    · have ih := filter_lt h hp hq l hm2
      cases hqb : q b with
      | true => rw [h b hqb, if_pos rfl, if_pos rfl, List.length_cons, List.length_cons]; omega
      | false =>
        rw [if_neg Bool.false_ne_true]
        split
        · rw [List.length_cons]; omega
        · exact ih
/-- how many words are not ahead of the first word -/
def mu (n : Nat) (L : Bg) : Nat := if L = [] then 0 else ((allW n).filter fun u => leW (lead L) u).length
theorem leW_refl (a : Str) : leW a a = true := (leW_total.total _ _).elim id id
theorem mu_lt {n : Nat} {L L' : Bg} (hL : L ≠ []) (hb : Bd n L) (h : L' ≠ [] → leW (lead L) (lead L') = true ∧ lead L ≠ lead L') : mu n L' < mu n L := by
  have hm := hb _ (lead_mem hL)
  have hin := mem_allW hm.1 hm.2
  unfold mu
  rw [if_neg hL]
  by_cases e : L' = []
  · rw [if_pos e]
    exact List.length_pos_of_mem (List.mem_filter.mpr ⟨hin, leW_refl _⟩)
  · rw [if_neg e]
    obtain ⟨h1, h2⟩ := h e
    refine filter_lt (p := fun u => leW (lead L) u) (q := fun u => leW (lead L') u) (fun u hu => leW_total.trans _ _ _ h1 hu) (a := lead L) (leW_refl _) ?_ _ hin
    show leW (lead L') (lead L) = false
    cases q : leW (lead L') (lead L) with
    | false => rfl
    | true => exact absurd (leW_anti h1 q) h2
/-! ### dividing -/
def divK (p : Int) (F L : Bg) : Int := cf L (lead L) * inv p (cf F (lead F)) % p
def divL (p : Int) (F L : Bg) (t : Str) : Bg := plusS p L (withB F t) (-(divK p F L))
inductive DivR (p : Int) (F : Bg) : Bg → Bg → Option Bg → Prop
  | done {f : Bg} : DivR p F [] f (some f)
  | stop {L f : Bg} : L ≠ [] → (¬ ∃ t, lead L = lead F ++ t) → DivR p F L f none
  | step {L f : Bg} {r : Option Bg} {t : Str} : L ≠ [] → lead L = lead F ++ t → DivR p F (divL p F L t) (putS f t (divK p F L)) r → DivR p F L f r
section
variable {p : Int} {F L : Bg} {t : Str}
theorem divK_bd (hp : Prm p) (gF : Good p F) (gL : Good p L) (hF : F ≠ []) (hL : L ≠ []) : 0 < divK p F L ∧ divK p F L < p := by
  have hp0 : 0 < p := by have := hp.pos; omega
  exact (step_zero hp (cf_pos_of gL (lead_mem hL)) (cf_lt_of hp0 gL) (cf_pos_of gF (lead_mem hF)) (cf_lt_of hp0 gF)).2
theorem divL_good (hp : Prm p) (gL : Good p L) : Good p (divL p F L t) := Good.plus (by have := hp.pos; omega) gL _
theorem divL_keys {u : Str} (h : u ∈ keys (divL p F L t)) : u ∈ keys L ∨ ∃ v ∈ keys F, u = v ++ t := by
  rcases keys_plus h with h | h
  · exact .inl h
  · rw [withB_keys] at h
    obtain ⟨v, hv, rfl⟩ := List.mem_map.mp h
    exact .inr ⟨v, hv, rfl⟩
theorem divL_bd {n : Nat} (hF : Bd n F) (hL : Bd n L) (hne : L ≠ []) (ht : lead L = lead F ++ t) : Bd n (divL p F L t) := fun u hu => by
  rcases divL_keys hu with h | ⟨v, hv, rfl⟩
  · exact hL u h
  · have h1 := hL _ (lead_mem hne)
    have h2 := lead_len hv
    rw [ht, len_app, app_toList] at h1
    rw [len_app, app_toList]
    refine ⟨by omega, fun c hc => ?_⟩
    rcases List.mem_append.mp hc with hc | hc
    · exact (hF v hv).2 c hc
    · exact h1.2 c (List.mem_append_right _ hc)
theorem divL_lead (hp : Prm p) (gF : Good p F) (gL : Good p L) (hF : F ≠ []) (hne : L ≠ []) (ht : lead L = lead F ++ t) : divL p F L t ≠ [] → leW (lead L) (lead (divL p F L t)) = true ∧ lead L ≠ lead (divL p F L t) := fun h => by
  have hp0 : 0 < p := by have := hp.pos; omega
  have hm := lead_mem h
  refine ⟨?_, fun e => ?_⟩
  · rcases divL_keys hm with q | ⟨v, hv, q⟩
    · exact lead_le q
    · rw [q, ht]
      exact leW_app (lead_le hv) (leW_refl _)
  · rw [← e, cf_ne (divL_good hp gL)] at hm
    refine hm ?_
    unfold divL
    rw [cf_plus hp0 gL (withB_nodup gF.nd)]
    have e2 : cf (withB F t) (lead L) = cf F (lead F) := by rw [ht]; exact cf_withB gF.nd
    rw [e2]
    exact (step_zero hp (cf_pos_of gL (lead_mem hne)) (cf_lt_of hp0 gL) (cf_pos_of gF (lead_mem hF)) (cf_lt_of hp0 gF)).1
theorem divL_mu {n : Nat} (hp : Prm p) (gF : Good p F) (gL : Good p L) (hF : F ≠ []) (hne : L ≠ []) (hb : Bd n L) (ht : lead L = lead F ++ t) : mu n (divL p F L t) < mu n L := mu_lt hne hb (divL_lead hp gF gL hF hne ht)
theorem DivR.det {f : Bg} {r r' : Option Bg} (h : DivR p F L f r) (h' : DivR p F L f r') : r = r' := by
  induction h with
  | done => cases h' with
    | done => rfl
    | stop q _ => exact absurd rfl q
    | step q _ _ => exact absurd rfl q
  | stop q1 q2 => cases h' with
    | done => exact absurd rfl q1
    | stop _ _ => rfl
    | step _ q3 _ => exact absurd ⟨_, q3⟩ q2
  | step q1 q2 _ ih => cases h' with
    | done => exact absurd rfl q1
    | stop _ q3 => exact absurd ⟨_, q2⟩ q3
    | step _ q3 q4 =>
      have e := app_cancel_l (q2.symm.trans q3)
      subst e
      exact ih q4
theorem eqv_nil {s : Bg} (g : Good p s) (h : Eqv s []) : s = [] := by
  cases s with
  | nil => rfl
  | cons q r =>
    have h1 := h q.1.cps.toList
    have hm : q.1 ∈ keys (q :: r) := List.mem_cons_self
    rw [cf_ne g] at hm
    unfold cl at h1
    rw [ofL_toList] at h1
    exact absurd h1 hm
theorem eqv_cf {s t : Bg} (h : Eqv s t) (w : Str) : cf s w = cf t w := by
  have := h w.cps.toList
  unfold cl at this
  rwa [ofL_toList] at this
theorem eqv_lead {s t : Bg} (gs : Good p s) (gt : Good p t) (h : Eqv s t) : lead s = lead t := by
  unfold lead
  rw [ordW_congr (keys_perm gs gt (eqv_cf h))]
theorem DivR.congr {f : Bg} {r : Option Bg} (hp : Prm p) (gF : Good p F) (h : DivR p F L f r) : ∀ {M : Bg}, Good p L → Good p M → Eqv L M → DivR p F M f r := by
  have hp0 : 0 < p := by have := hp.pos; omega
  induction h with
  | done =>
    intro M gL gM e
    rw [eqv_nil gM e.symm]
    exact .done
  | stop q1 q2 =>
    intro M gL gM e
    exact .stop (fun z => q1 (by subst z; exact eqv_nil gL e)) (by rw [← eqv_lead gL gM e]; exact q2)
  | @step L f r t q1 q2 _ ih =>
    intro M gL gM e
    have el := eqv_lead gL gM e
    have ek : divK p F M = divK p F L := by unfold divK; rw [← el, eqv_cf e]
    refine .step (t := t) (fun z => q1 (by subst z; exact eqv_nil gL e)) (by rw [← el]; exact q2) ?_
    rw [ek]
    refine ih (divL_good hp gL) (divL_good hp gM) ?_
    unfold divL
    rw [ek]
    exact plus_congr hp0 gL (withB_nodup gF.nd) gM (withB_nodup gF.nd) _ e (Eqv.refl _)
/-- of a product: the second bag is found -/
theorem DivR.planted {f : Bg} {r : Option Bg} (hp : Prm p) (gF : Good p F) (hF : F ≠ []) (h : DivR p F L f r) : ∀ {R : Bg}, Good p L → Good p R → Good p f → Eqv L (prodS p F R) → (∀ u ∈ keys R, u ∉ keys f) → ∃ f', r = some f' ∧ Good p f' ∧ ∀ w, cf f' w = cf f w + cf R w := by
  have hp0 : 0 < p := by have := hp.pos; omega
  induction h with
  | @done f =>
    intro R gL gR gf e hd
    have hR : R = [] := by
      by_cases h : R = []
      · exact h
      · have := prod_ne hp gF gR hF h
        exact absurd (eqv_nil (Good.prod hp0 F R) e.symm) this
    subst hR
    exact ⟨f, rfl, gf, fun w => by rw [cf_nil, Int.add_zero]⟩
  | stop q1 q2 =>
    intro R gL gR gf e hd
    have hR : R ≠ [] := fun z => by
      subst z
      rw [prod_nil] at e
      exact q1 (eqv_nil gL e)
    obtain ⟨_, e1, _⟩ := prod_lead hp gF gR hF hR
    exact absurd ⟨lead R, by rw [eqv_lead gL (Good.prod hp0 F R) e, e1]⟩ q2
  | @step L f r t q1 q2 _ ih =>
    intro R gL gR gf e hd
    have hR : R ≠ [] := fun z => by
      subst z
      rw [prod_nil] at e
      exact q1 (eqv_nil gL e)
    obtain ⟨_, e1, e2⟩ := prod_lead hp gF gR hF hR
    have el : lead L = lead F ++ lead R := by rw [eqv_lead gL (Good.prod hp0 F R) e, e1]
    obtain rfl : t = lead R := app_cancel_l (q2.symm.trans el)
    have ek : divK p F L = cf R (lead R) := by
      unfold divK
      rw [el, eqv_cf e, e2]
      exact step_back hp (cf_pos_of gR (lead_mem hR)) (cf_lt_of hp0 gR) (cf_pos_of gF (lead_mem hF)) (cf_lt_of hp0 gF)
    have hk := divK_bd hp gF gL hF q1
    have gw : Good p [(lead R, (1 : Int))] := ⟨by unfold keys; simp, fun kv h => by rw [List.mem_singleton.mp h]; exact (by decide : (0 : Int) < 1), fun kv h => by rw [List.mem_singleton.mp h]; exact hp.pos⟩
    have hcf : ∀ w, cf (plusS p R [(lead R, 1)] (-(divK p F L))) w = if w = lead R then 0 else cf R w := fun w => by
      rw [cf_plus hp0 gR gw.nd]
      by_cases h : w = lead R
      · subst h
        rw [if_pos rfl, cf_pos rfl, ek, Int.mul_one, Int.add_right_neg]
        exact Int.zero_emod p
      · rw [if_neg h, cf_neg (fun z => h z.symm), cf_nil, Int.mul_zero, Int.add_zero]
        exact cf_mod hp0 gR w
    have hdis : ∀ u ∈ keys (plusS p R [(lead R, 1)] (-(divK p F L))), u ∉ keys (putS f (lead R) (divK p F L)) := fun u hu hm => by
      have hne : u ≠ lead R := fun z => by
        subst z
        rw [cf_ne (Good.plus hp0 gR _), hcf] at hu
        exact hu (if_pos rfl)
      have hu2 : u ∈ keys R := by
        rw [cf_ne (Good.plus hp0 gR _), hcf, if_neg hne] at hu
        exact (cf_ne gR).mpr hu
      rw [keys_put] at hm
      split at hm
      · exact hd u hu2 hm
      · rcases List.mem_append.mp hm with hm | hm
        · exact hd u hu2 hm
        · exact hne (List.mem_singleton.mp hm)
    obtain ⟨f', h1, h2, h3⟩ := ih (R := plusS p R [(lead R, 1)] (-(divK p F L))) (divL_good hp gL) (Good.plus hp0 gR _) (gf.put hk.1 hk.2) (by
      unfold divL
      refine (plus_congr hp0 gL (withB_nodup gF.nd) (Good.prod hp0 F R) (Good.prod hp0 F _).nd _ e ?_).trans (distrib_r hp0 gF gR gw _).symm
      rw [prod_word (lead R) gF]
      exact Eqv.refl _) hdis
    · refine ⟨f', h1, h2, fun w => ?_⟩
      rw [h3 w, cf_put, hcf w]
      by_cases h : w = lead R
      · subst h
        rw [if_pos rfl, if_pos rfl, ek, cf_not_mem (hd _ (lead_mem hR))]
        omega
      · rw [if_neg h, if_neg h]
end
end Fp

/-! A caught error's class asked; beginnings of texts. -/
namespace Fp
open PySem L2 PyProof.Rows
section
variable {X : Cx}
/-- isinstance(e, c), e the error that the suite holds, of a class without own fields -/
def rIsEx (K : PySem.W.Frag) (cls : Value) (d : Option Addr) (a : Addr) : List V → Hp → VK → Prop := fun xs H Q => ∃ (D : Addr) (c : V) (cv : Value) (b : Bool), cls = .ref D ∧ d = none ∧ ExcC K D ∧ xs = [.ref a, c] ∧ (∀ u, RelV c u → u = cv) ∧ PySem.W.kitOne K (.ref D) cv = some b ∧ Q (.bl b) H
theorem call_isEx {a : Addr} {oe : Obj} {cls : Value} {d : Option Addr} {pn : List (Addr × Obj)} (hz : Zc cls d oe) (hf : ∃ vs, oe.data = .fields vs) : CallR (X.suite a ((a, oe) :: pn)) (.builtin "isinstance") (rIsEx X.K cls d a) := by
  intro pins s σ H xs us Q I r h
  obtain ⟨D, c, cv, b, rfl, rfl, C, rfl, hcv, e, q⟩ := h
  exact call_isE C hz hf pins s σ H _ us Q I r ⟨c, cv, b, rfl, hcv, e, q⟩
theorem g_isEx {K : PySem.W.Frag} {a D C : Addr} {b : Bool} {H : Hp} {Q : VK} (hD : ExcC K D) (hk : PySem.W.kitOne K (.ref D) (.ref C) = some b) (h : Q (.bl b) H) : rIsEx K (.ref D) none a [.ref a, .ref C] H Q :=
  ⟨D, .ref C, .ref C, b, rfl, rfl, hD, rfl, fun u r => by cases r; rfl, hk, h⟩
end
/-! ### beginnings -/
theorem startswith_iff (x y : Str) : Txt.startswith x y = true ↔ ∃ t, x = y ++ t := by
  unfold Txt.startswith
  rw [Bool.and_eq_true, decide_eq_true_iff, PySem.StrLaws.subAt_eq, List.drop_zero, beq_iff_eq]
  constructor
  · rintro ⟨h1, h2⟩
    refine ⟨ofL (x.cps.toList.drop y.length), str_ext ?_⟩
    rw [app_toList, toList_ofL, ← h2, List.take_append_drop]
  · rintro ⟨t, rfl⟩
    rw [len_app, app_toList]
    refine ⟨by omega, ?_⟩
    rw [← str_len y, List.take_left']
    rfl
theorem cutS_front (x y : Str) : cutS (x ++ y) none (some (x.length : Int)) = x := by
  refine str_ext ?_
  unfold cutS
  show ((((x ++ y).cps.toList.drop (HT.sIx (x ++ y).length 0 none)).take (HT.sIx (x ++ y).length (x ++ y).length (some (x.length : Int)) - HT.sIx (x ++ y).length 0 none)).toArray).toList = _
  rw [HT.sIx_none, HT.sIx_nat, List.drop_zero, len_app, Nat.min_eq_left (by omega), Nat.sub_zero, List.toList_toArray, app_toList, ← str_len x, List.take_left']
  rfl
theorem cutS_back (x y : Str) : cutS (x ++ y) (some (x.length : Int)) none = y := by
  refine str_ext ?_
  unfold cutS
  show ((((x ++ y).cps.toList.drop (HT.sIx (x ++ y).length 0 (some (x.length : Int)))).take (HT.sIx (x ++ y).length (x ++ y).length none - HT.sIx (x ++ y).length 0 (some (x.length : Int)))).toArray).toList = _
  rw [HT.sIx_none, HT.sIx_nat, len_app, Nat.min_eq_left (by omega), List.toList_toArray, app_toList, ← str_len x, List.drop_left']
  · rw [str_len, show x.length + y.length - x.length = y.length from by omega, ← str_len y, List.take_length]
  · rfl
theorem cutS_pre {w x : Str} (h : cutS w none (some (x.length : Int)) = x) : ∃ t, w = x ++ t := by
  have h1 : ((w.cps.toList.drop (HT.sIx w.length 0 none)).take (HT.sIx w.length w.length (some (x.length : Int)) - HT.sIx w.length 0 none)) = x.cps.toList := by
    have := congrArg (fun z : Str => z.cps.toList) h
    unfold cutS at this
    simpa using this
  rw [HT.sIx_none, HT.sIx_nat, List.drop_zero, Nat.sub_zero] at h1
  have h2 := congrArg List.length h1
  rw [List.length_take, str_len, str_len] at h2
  refine ⟨ofL (w.cps.toList.drop x.length), str_ext ?_⟩
  rw [app_toList, toList_ofL]
  have h3 : min x.length w.length = x.length := by omega
  rw [h3] at h1
  rw [← h1, List.take_append_drop]
end Fp

namespace Fp
open PySem L2
section
variable {P : Program} {w : World} {K : PySem.W.Frag} {mg : Str → Option Value} {base : Heap} {C_Bag : Addr} {Cs : Addr → Prop}
local macro_rules | `(tactic| walk_at "hp") => `(tactic| first | assumption | rfl)
local macro_rules | `(tactic| walk_at "cond") => `(tactic| first | assumption | decide | omega | (unfold CMul; omega) | (refine ⟨?_, ?_⟩ <;> omega) | (unfold CDiv; omega) | (unfold CPow; omega))
local macro_rules | `(tactic| walk_at "g1") => `(tactic| first
  | with_reducible first
    | refine g_seq ?_ | refine g_asg ?_ | refine g_name ?_ | refine g_ret ?_ | refine g_retN ?_ | refine g_drop ?_ | refine g_ifs ?_
    | refine g_c ?_ | refine g_op ?_ | refine g_un ?_ | refine g_I0 ?_ | refine g_U ?_
    | refine g_test ?_ | refine g_tB ?_ | refine g_bl ?_ | refine g_and ?_ | refine g_or ?_ | refine g_not ?_
    | refine g_andV ?_ | refine g_orV ?_ | refine g_notV ?_ | refine g_if ?_ | refine g_nil ?_ | refine g_cons ?_ | refine g_cb ?_ | refine g_call ?_
    | refine g_lst ?_ | refine g_tup ?_ | refine g_itT ?_ | refine g_itF ?_ | refine g_itNT ?_ | refine g_itNF ?_ | refine g_lc ?_ | refine g_iStr ?_ | refine g_yes ?_ | refine g_exs ?_
    | refine g_chain ?_ | refine g_dget ?_ | refine g_dput ?_ | refine g_dget2 ?_ | refine g_dpop2 ?_ | refine g_fld ?_ | refine g_sfld ?_ | refine g_make ?_ | refine g_meth ?_
    | refine g_bm ?_ | refine g_kw ?_ | refine g_callS ?_ | refine g_revL ?_ | refine g_m1 ?_ | refine g_gsub ?_ | refine g_for ?_ | refine g_iList ?_ | refine g_iTup ?_ | refine g_iRng1 ?_ | refine g_iRng2 ?_ | refine g_sl ?_ | refine g_part ?_ | refine g_noPart ?_
    | refine g_exi ?_ | refine g_exr ?_ | refine g_dnew ?_ | refine g_disp ?_ | refine g_prs0 ?_ | refine g_prs ?_ | refine g_nxt ?_
  | ((with_reducible refine g_var (v := ?vv) ?gv ?_); (case gv => exact rfl))
  | ((with_reducible refine g_I ?gc ?_); (case gc => walk_at "cond"))
  | ((with_reducible refine g_eq ?ge ?_); (case ge => exact rfl))
  | ((with_reducible refine g_ne ?ge ?_); (case ge => exact rfl))
  | (refine g_ixl (SqL.of (by first | assumption | exact upd_same)) rfl ?_)
  | (refine g_setl (by first | assumption | exact upd_same) rfl ?_)
  | ((with_reducible show (∃ i, [V.int _] = [V.int i] ∧ _) ∨ _); refine Or.inl ⟨_, rfl, ?_⟩)
  | ((with_reducible show ∃ i, [V.int _] = [V.int i] ∧ _); refine ⟨_, rfl, ?_⟩)
  | dsimp only)
local macro_rules | `(tactic| walk_at "go") => `(tactic| repeat (walk_at "g1"))

/-! ### calls in short -/
theorem mkProd {H : Hp} {p : Int} {a b : Addr} {s t : Bg} {n1 l1 n2 l2 : Nat} {Q : VK} {E : XK} (h1 : Rd H a (.dK (toK s))) (h2 : Rd H b (.dK (toK t))) (L1 : Lot p s n1 l1) (M1 : Lot p t n2 l2) (hn : n1 * n2 < 10000000) (hl1 : l1 ≤ 5000000) (hl2 : l2 ≤ 5000000) (hp : 1 < p) (hp2 : p ≤ 1000000)
    (k : ∀ d H', Ex H H' → H d = none → H' d = some (.dK (toK (prodS p s t))) → Lot p (prodS p s t) (n1 * n2) (l1 + l2) → Q (.ref d) H') : sp_law_product [.int p, .ref a, .ref b] H Q E :=
  ⟨p, a, b, s, t, rfl, h1, h2, L1.g.nd, M1.g.nd, Nat.lt_of_le_of_lt (Nat.mul_le_mul L1.n M1.n) hn, by omega, L1.g.up hp2, fun u hu => Nat.le_trans (L1.l u hu).1 hl1, fun u hu => Nat.le_trans (M1.l u hu).1 hl2, fun d H' e hd hd' => k d H' e hd hd' (Lot.prod (by omega) L1 M1)⟩
theorem mkBehind {H : Hp} {p : Int} {a b : Addr} {s t : Bg} {n1 l1 n2 l2 : Nat} {Q : VK} {E : XK} (h1 : BagAt Cs H a p s) (h2 : BagAt Cs H b p t) (L1 : Lot p s n1 l1) (M1 : Lot p t n2 l2) (hn : n1 * n2 < 10000000) (hl1 : l1 ≤ 5000000) (hl2 : l2 ≤ 5000000) (hp : 1 < p) (hp2 : p ≤ 1000000)
    (k : ∀ x H', Ex H H' → H x = none → BagAt Cs H' x p (prodS p s t) → Lot p (prodS p s t) (n1 * n2) (l1 + l2) → Q (.ref x) H') : sp_behind Cs [.ref a, .ref b] H Q E :=
  ⟨a, b, p, s, t, n1, l1, n2, l2, rfl, h1, h2, L1, M1, hn, hl1, hl2, by omega, hp2, fun x H' e hx hb => k x H' e hx hb (Lot.prod (by omega) L1 M1)⟩
theorem mkSum {H : Hp} {p f : Int} {a b : Addr} {s t : Bg} {n1 l1 n2 l2 : Nat} {Q : VK} {E : XK} (h1 : BagAt Cs H a p s) (h2 : BagAt Cs H b p t) (L1 : Lot p s n1 l1) (M1 : Lot p t n2 l2) (hn : n1 + n2 < 10000000) (hl1 : l1 ≤ 10000000) (hl2 : l2 ≤ 10000000) (hp : 1 < p)
    (k : ∀ x H', Ex H H' → H x = none → BagAt Cs H' x p (plusS p s t f) → Lot p (plusS p s t f) (n1 + n2) (max l1 l2) → Q (.ref x) H') : sp_sum f Cs [.ref a, .ref b] H Q E :=
  ⟨a, b, p, s, t, n1, l1, n2, l2, rfl, h1, h2, L1, M1, hn, hl1, hl2, by omega, fun x H' e hx hb => k x H' e hx hb (Lot.plus (by omega) L1 M1 (Nat.le_max_left _ _) (Nat.le_max_right _ _))⟩
theorem mkIs {H : Hp} {p : Int} {x d : Addr} {s t : Bg} {n l : Nat} {Q : VK} {E : XK} (hx : BagAt Cs H x p t) (hd : Rd H d (.dK (toK s))) (L : Lot p s n l) (hn : n ≤ 10000000) (hl : l ≤ 10000000) (hw : wordsS t = wordsS s) (k : ∀ H', Ex H H' → Q (.bl true) H') : sp_law_is Cs [.ref x, .int p, .ref d] H Q E :=
  ⟨x, d, p, p, s, t, rfl, hx, hd, Nat.le_trans L.n hn, fun u hu => Nat.le_trans (L.l u hu).1 hl, L.g.nd, fun H' e => by rw [decide_eq_true rfl, decide_eq_true hw]; exact k H' e⟩
/-- equal bags by one clock: == tells True, != tells False -/
theorem g_beqT (T : Txt K mg C_Bag Cs) {H : Hp} {a c : Addr} {p : Int} {s t : Bg} {neg : Bool} {Q : VK} (hx : BagAt Cs H a p s) (hy : BagAt Cs H c p t) (hw : wordsS s = wordsS t) (h : Q (.bl (!neg)) H) : rBagEq K (sp_bag_eq K C_Bag Cs) Cs neg (.ref a) (.ref c) H Q := by
  refine g_beq T hx hy ?_
  rw [decide_eq_true rfl, decide_eq_true hw]
  cases neg with
  | true => rw [if_pos rfl]; exact h
  | false => rw [if_neg Bool.false_ne_true]; exact h
/-- all but a list's object stands -/
theorem BagAt.exh {Cs : Addr → Prop} {H H' : Hp} {h a : Addr} {p : Int} {s : Bg} {xs : List V} (e : ExB h H H') (hh : H h = some (.lst xs)) (b : BagAt Cs H a p s) : BagAt Cs H' a p s := by
  obtain ⟨C, dx, d, k, t, h0, h1, h2, ⟨qs, o, h3, h4, h5⟩⟩ := b.ex
  exact ⟨C, dx, d, k, t, h0, e _ _ (ne_of h1 hh (fun z => nomatch z)) h1, e _ _ (ne_of h2 hh (fun z => nomatch z)) h2, ⟨qs, o, e _ _ (ne_of h3 hh (fun z => nomatch z)) h3, h4, Paired.mapP h5 fun q kv z => e _ _ (ne_of z hh (fun z => nomatch z)) z⟩⟩
/-- a new dict of one pair, and what it is: {'': 1} -/
theorem ne_list {H : Hp} {a b : Addr} {xs ys : List V} (h : H a = some (.lst xs)) (h' : H b = some (.lst ys)) (d : xs ≠ ys) : a ≠ b := ne_of h h' (fun e => d (HO.lst.inj e))
theorem kit_sub {K : PySem.W.Frag} {C : Addr} {t : Value} (hc : PySem.W.isClsIn K C = true) (ht : PySem.W.typeIn K (.ref C) = some (.type "type")) (hs : PySem.W.subIn K t (.ref C) = some true) : PySem.W.kitOne K t (.ref C) = some true := by
  unfold PySem.W.kitOne PySem.W.kitCls
  have hc' : (PySem.W.clsIn K C).isSome = true := hc
  split
  · rfl
  · dsimp only
    rw [hc', ht, hs]
    rfl
theorem exm_self {K : PySem.W.Frag} {C : Addr} {t : Value} (hb : PySem.W.subIn K (.ref C) (.type "BaseException") = some true) (hc : PySem.W.isClsIn K C = true) (ht : PySem.W.typeIn K (.ref C) = some (.type "type")) (hs : PySem.W.subIn K t (.ref C) = some true) : PySem.W.exmOne K t (.ref C) = some true := by
  unfold PySem.W.exmOne PySem.W.kitCls
  have hc' : (PySem.W.clsIn K C).isSome = true := hc
  rw [hb]
  dsimp only
  rw [hc', ht, hs]
  rfl

/-! ### short steps -/
/-- len of a list or a tuple -/
def rLenQ (K : PySem.W.Frag) : List V → Hp → VK → Prop := fun xs H Q => ∃ p ys, xs = [V.ref p] ∧ (SqL K H p ys ∨ SqT K H p ys) ∧ Q (.int ys.length) H
theorem Ex.at' {H H' : Hp} (e : Ex H H') {a : Addr} {o : HO} (h : H a = some o) : H' a = some o := e a o h
theorem BagAt.hand {H H' : Hp} {h c a : Addr} {p : Int} {s : Bg} (e : ExB h H H') (hh : HandAt H h c) (b : BagAt Cs H a p s) : BagAt Cs H' a p s := BagAt.exh e hh.kind.choose_spec b
theorem hand_dk {H H' : Hp} {h c d : Addr} {kvs : List (Key × V)} (hh : HandAt H h c) (e : ExB h H H') (hd : H d = some (.dK kvs)) : H' d = some (.dK kvs) := e _ _ (ne_of hd hh.kind.choose_spec (fun z => nomatch z)) hd
theorem hand_tup {H H' : Hp} {h c d : Addr} {xs : List V} (hh : HandAt H h c) (e : ExB h H H') (hd : H d = some (.tup xs)) : H' d = some (.tup xs) := e _ _ (ne_of hd hh.kind.choose_spec (fun z => nomatch z)) hd
theorem hand_lst {H H' : Hp} {h c d : Addr} {xs : List V} (hh : HandAt H h c) (e : ExB h H H') (hn : ∀ i b m n, xs ≠ [.ref c, .int i, .int b, .int m, .int n]) (hd : H d = some (.lst xs)) : H' d = some (.lst xs) := by
  obtain ⟨⟨i, b, m, n, hx, _⟩, _, _⟩ := hh
  exact e _ _ (ne_list hd hx (hn i b m n)) hd
theorem hand_dkE {H H' : Hp} {h c d : Addr} {kvs : List (Key × V)} (e : ExB h H H') (hh : HandAt H h c) (hd : H d = some (.dK kvs)) : H' d = some (.dK kvs) := hand_dk hh e hd
theorem hand_lstE {H H' : Hp} {h c d : Addr} {xs : List V} (e : ExB h H H') (hh : HandAt H h c) (hn : ∀ i b m n, xs ≠ [.ref c, .int i, .int b, .int m, .int n]) (hd : H d = some (.lst xs)) : H' d = some (.lst xs) := hand_lst hh e hn hd
section
variable {H : Hp} {a : Addr} {p : Int} {s : Bg} {R : V → Prop}
theorem g_clock (T : Txt K mg C_Bag Cs) (b : BagAt Cs H a p s) (h : R (.int p)) : ∃ a' C dx fs v, V.ref a = .ref a' ∧ H a' = some (.ins C dx fs) ∧ Cls K C ∧ NoAttr K C "clock" ∧ fs.lookup ("clock" : Str) = some v ∧ R v := by
  obtain ⟨C, dx, d, k1, t1, hc, h1, h2, h3⟩ := b.ex
  exact ⟨a, C, dx, _, _, rfl, h1, T.cls C hc, T.n_clock C hc, bagF_clock _ _ _ _, h⟩
theorem g_sparse (T : Txt K mg C_Bag Cs) (b : BagAt Cs H a p s) (h : ∀ d, H d = some (.dK (toK s)) → R (.ref d)) : ∃ a' C dx fs v, V.ref a = .ref a' ∧ H a' = some (.ins C dx fs) ∧ Cls K C ∧ NoAttr K C "sparse" ∧ fs.lookup ("sparse" : Str) = some v ∧ R v := by
  obtain ⟨C, dx, d, k1, t1, hc, h1, h2, h3⟩ := b.ex
  exact ⟨a, C, dx, _, _, rfl, h1, T.cls C hc, T.n_sparse C hc, bagF_sparse _ _ _ _, h d h2⟩
theorem g_words (T : Txt K mg C_Bag Cs) (b : BagAt Cs H a p s) (h : ∀ t, WordsAt H t (wordsS s) → R (.ref t)) : ∃ a' C dx fs v, V.ref a = .ref a' ∧ H a' = some (.ins C dx fs) ∧ Cls K C ∧ NoAttr K C "words" ∧ fs.lookup ("words" : Str) = some v ∧ R v := by
  obtain ⟨C, dx, d, k1, t1, hc, h1, h2, h3⟩ := b.ex
  exact ⟨a, C, dx, _, _, rfl, h1, T.cls C hc, T.n_words C hc, bagF_words _ _ _ _, h t1 h3⟩
end
/-- two promises in one -/
theorem fn_either {CX : CXT} {k : Nat} {f : Addr} {fd : FuncData} {ps : List Str} {sp sp' : Sp} (F : FnOk P w K mg base CX k f fd ps sp) (G : FnOk P w K mg base CX k f fd ps sp') : FnOk P w K mg base CX k f fd ps (fun vs H Q E => sp vs H Q E ∨ sp' vs H Q E) :=
  ⟨fun vs H Q E h => h.elim (F.len vs H Q E) (G.len vs H Q E), fun A outer s H args us vs Q E hr he hb hv h => h.elim (F.run A outer s H args us vs Q E hr he hb hv) (G.run A outer s H args us vs Q E hr he hb hv)⟩
/-- what raises nothing may be called where errors are let out -/
theorem fn_calm {CX : CXT} {k : Nat} {f : Addr} {fd : FuncData} {ps : List Str} {sp : Sp} (F : FnOk P w K mg base CX0 k f fd ps sp) : FnOk P w K mg base CX k f fd ps sp :=
  ⟨F.len, fun A outer s H args us vs Q E hr he hb hv h => PySem.codeAny_mono (F.run A outer s H args us vs Q E hr he hb hv h) fun r s' hq => by
    cases r with
    | error e => exact hq.elim
    | ok fl => cases fl <;> exact hq⟩

local macro_rules | `(tactic| walk_at "ex") => `(tactic| first
  | assumption
  | exact Ex.refl _
  | (refine Ex.trans ?_ (by assumption); walk_at "ex")
  | (refine BagAt.ex' (by assumption) ?_; walk_at "ex")
  | (refine HandAt.ex' (by assumption) ?_; walk_at "ex")
  | (refine DcsAt.ex' (by assumption) ?_; walk_at "ex")
  | (refine BgsAt.ex' (by assumption) ?_; walk_at "ex")
  | (refine DcsAt.hand (by assumption) (by assumption) ?_; walk_at "ex")
  | (refine BgsAt.hand (by assumption) (by assumption) ?_; walk_at "ex")
  | (refine WordsAt.ex' (by assumption) ?_; walk_at "ex")
  | (refine Ex.at' (by assumption) ?_; walk_at "ex")
  | (refine SqL.of ?_; walk_at "ex")
  | (refine SqT.of ?_; walk_at "ex")
  | (refine Or.inl ?_; walk_at "ex")
  | (refine BagAt.hand (by assumption) (by assumption) ?_; walk_at "ex")
  | (refine hand_dkE (by assumption) (by assumption) ?_; walk_at "ex")
  | (refine hand_lstE (by assumption) (by assumption) (by simp) ?_; walk_at "ex"))
local macro_rules | `(tactic| walk_at "go2") => `(tactic| (walk_at "go"; (repeat (refine g_ixl (SqL.of (by walk_at "ex")) rfl ?_; walk_at "go"))))

/-! ### lengths, words of one length, plain bags -/
theorem size_max {s : Bg} {m : Int} (h : m ∈ (s.map fun e => (e.1.length : Int)) ++ [-1]) (hl : ∀ y, y ∈ (s.map fun e => (e.1.length : Int)) ++ [-1] → y ≤ m) : m = sizeS s := by
  unfold sizeS
  by_cases e : s = []
  · subst e
    rw [if_pos rfl]
    simpa using h
  · rw [if_neg e]
    obtain ⟨n, hn⟩ := mem_keys.mp (lead_mem e)
    have h1 := hl ((lead s).length : Int) (List.mem_append_left _ (List.mem_map.mpr ⟨_, hn, rfl⟩))
    rcases List.mem_append.mp h with h | h
    · obtain ⟨q, hq, rfl⟩ := List.mem_map.mp h
      have := lead_len (mem_keys.mpr ⟨q.2, hq⟩)
      omega
    · have := List.mem_singleton.mp h
      omega
def sp_size : Sp := fun vs H Q _ => ∃ (d : Addr) (s : Bg), vs = [.ref d] ∧ Rd H d (.dK (toK s)) ∧ s.length ≤ 10000000 ∧ (∀ u ∈ keys s, u.length ≤ 10000000) ∧ ∀ H', Ex H H' → Q (.int (sizeS s)) H'
theorem ok_size {f : Addr} {fd : FuncData} (F : Fun K "size" "size" s_size f fd) (T : Txt K mg C_Bag Cs) : FnOk P w K mg base CX0 1 f fd ["sparse"] sp_size := by
  refine F.ok sc_size (fun vs H Q E h => ?_) (fun cdv A outer s H vs Q E hr h => ?_)
  · obtain ⟨d, s, rfl, _⟩ := h
    rfl
  · obtain ⟨d, s, rfl, hd, hn, hw, k⟩ := h
    have hu := hu_of hr; have hu64 := L2.Room.units hr; refine ⟨_, (pss_one (ps_ret (pe_callB (r := rMax K) (cr_max rfl) (by rfl) T.b_max (by decide +kernel) (pa_cons (pe_op op_cat (pe_lockR (pe_lc (own := [("word", 1)]) (g := (gName 1)) (tt := tYes) rfl sc_size.nd (pi_keys (pv 0)) (blkOk_by (N := N_size) (sc := defScope s_size) (by decide +kernel)) (fun _ _ _ _ _ => (pg_name (i := 1) sc_size.nd rfl (by first | exact Or.inl rfl | exact Or.inr rfl))) (fun _ _ _ _ _ => pts_nil) (fun _ _ _ _ _ => (pe_callB call_len_str (by rfl) T.b_len (by decide +kernel) (pa_cons (pv 1) pa_nil))))) (pe_lst (pa_cons (pe_un un_neg pe_int) pa_nil))) pa_nil)))), ?_⟩; rw [st_size]; (try dsimp only [cxOf]); walk_at "go"
    refine lcd_rel hd (line5 hn) (fun H' Q' _ q => ⟨_, rfl, q⟩) (fun e y H => y = V.int (e.1.length : Nat)) (fun e y H H' t h1 => h1) (fun _ => rfl) ?_ ?_
    · intro i z n H1 Kc hi le hk
      walk_at "go"
      exact ⟨z, rfl, line5 (hw z (mem_keys.mpr ⟨n, mem_fr hi⟩)), hk _ _ (Ex.refl _) rfl⟩
    · intro D H1 ys hD e hl1 hp
      have hys := paired_map (G := fun e : Str × Int => V.int (e.1.length : Nat)) hp
      subst hys
      walk_at "go"
      refine ⟨Nat.le_of_ble_eq_true rfl, fun q hq => ?_⟩
      have hqD : D ≠ q := ne_of_none hl1 hq
      refine ⟨D, q, _, _, rfl, rfl, by rw [upd_ne hqD]; exact hl1, upd_same, ?_, fun r hr => ?_⟩
      · rw [List.length_map, List.length_singleton]
        exact Nat.le_trans (Nat.succ_le_succ hn) (by decide)
      · walk_at "go"
        refine ⟨r, (s.map fun e => (e.1.length : Int)) ++ [-1], rfl, SqL.of ?_, by rw [List.length_append, List.length_singleton]; omega, fun m h1 h2 => ?_⟩
        · rw [upd_same, List.map_append, List.map_map]
          rfl
        · rw [size_max h1 h2]
          exact k _ ((e.trans (Ex.new hq)).trans (Ex.new hr))

/-! ### so many times -/
def sp_scaled : Sp := fun vs H Q _ => ∃ (d : Addr) (p : Int) (s : Bg) (f : Int), vs = [.int p, .ref d, .int f] ∧ Rd H d (.dK (toK s)) ∧ (keys s).Nodup ∧ s.length < 10000000 ∧ 0 < p ∧ (-1000000 < f ∧ f < 1000000) ∧
  ∀ x H', Ex H H' → H x = none → H' x = some (.dK (toK (plusS p [] s f))) → Q (.ref x) H'
theorem ok_scaled {f : Addr} {fd : FuncData} (F : Fun K "scaled" "scaled" s_scaled f fd) (T : Txt K mg C_Bag Cs) (D_added : DefOk P w K mg base CX0 2 "added" ["clock", "one", "other", "factor"] sp_law_plus) : FnOk P w K mg base CX0 3 f fd ["clock", "sparse", "factor"] sp_scaled := by
  refine F.ok sc_scaled (fun vs H Q E h => ?_) (fun cdv A outer s H vs Q E hr h => ?_)
  · obtain ⟨d, p, s, n, rfl, _⟩ := h
    rfl
  · obtain ⟨d, p, s, n, rfl, hd, hnd, hl, hp, hf, k⟩ := h
    have hu := hu_of hr; have hu64 := L2.Room.units hr; refine ⟨_, (pss_one (ps_ret (pe_callD D_added (hr.mono (by decide)) rfl pass0 (pa_cons (pv 0) (pa_cons pe_dnewK (pa_cons (pv 1) (pa_cons (pv 2) pa_nil))))))), ?_⟩; rw [st_scaled]; (try dsimp only [cxOf]); walk_at "go"
    intro q hq
    walk_at "go"
    have e0 : Ex H (upd H q (.dK [])) := Ex.new hq
    refine ⟨p, q, d, [], s, n, rfl, .inl upd_same, e0.rd hd, hnd, by rw [List.length_nil]; omega, hp, hf, fun x H1 e1 hx hx1 => ?_⟩
    exact k x H1 (e0.trans e1) (e0.free hx) hx1

/-! ### sums with any factor, of numbers that are small -/
def sp_law_plusW : Sp := fun vs H Q _ => ∃ (p : Int) (a b : Addr) (s t : Bg) (f : Int), vs = [.int p, .ref a, .ref b, .int f] ∧ Rd H a (.dK (toK s)) ∧ Rd H b (.dK (toK t)) ∧ (keys t).Nodup ∧ s.length + t.length < 10000000 ∧ 0 < p ∧ (∀ kv ∈ t, -1000000 < kv.2 ∧ kv.2 < 1000000) ∧
  ∀ d H', Ex H H' → H d = none → H' d = some (.dK (toK (plusS p s t f))) → Q (.ref d) H'
theorem ok_law_plusW {f : Addr} {fd : FuncData} (F : Fun K "_law_plus" "_law_plus" s_law_plus f fd) (T : Txt K mg C_Bag Cs) (D_law_put : DefOk P w K mg base CX0 1 "_law_put" ["_law_clock_here", "_law_bag", "_law_word_here", "_law_number"] sp_law_put) : FnOk P w K mg base CX0 2 f fd ["_law_clock_here", "_law_one", "_law_other", "_law_factor"] sp_law_plusW := by
  refine F.ok sc_law_plus (fun vs H Q E h => ?_) (fun cdv A outer s H vs Q E hr h => ?_)
  · obtain ⟨p, a, b, s, t, f, rfl, _⟩ := h
    rfl
  · obtain ⟨p, a, b, s, t, f, rfl, ha, hb, hn, hl, hp, hf, k⟩ := h
    have hu := hu_of hr; have hu64 := L2.Room.units hr; refine ⟨_, (pss_cons (ps_set (i := 4) sc_law_plus.nd rfl (by first | exact Or.inl rfl | exact Or.inr rfl) (pe_callTy call_dictD (by rfl) T.b_dict (by decide +kernel) (pa_cons (pv 1) pa_nil))) (pss_cons (ps_lockR (ps_for PassesOwn.never rfl (pi_keys (pv 2)) (pg_name (i := 5) sc_law_plus.nd rfl (by first | exact Or.inl rfl | exact Or.inr rfl)) (pss_one (ps_expr (pe_callD D_law_put (hr.mono (by decide)) rfl pass0 (pa_cons (pv 0) (pa_cons (pv 4) (pa_cons (pv 5) (pa_cons (pe_op op_mul (pv 3) (pe_dget hu (pv 2) (pv 5) (fun _ _ => rfl))) pa_nil))))))))) (pss_one (ps_ret (pv 4))))), ?_⟩; rw [st_law_plus]; (try dsimp only [cxOf]); walk_at "go"
    refine ⟨a, toK s, rfl, ha, fun d hd => ?_⟩
    walk_at "go"
    have hbd : b ≠ d := fun e => by subst e; rcases hb with h | ⟨o, h⟩ <;> rw [hd] at h <;> cases h
    have hb' : Rd (upd H d (.dK (toK s))) b (.dK (toK t)) := (Ex.new hd).rd hb
    refine for_keys hb' upd_same hbd (fun H' Q' _ q => ⟨_, rfl, q⟩) (fun i σ' o => (∃ x, σ' = [some (.int p), some (.ref a), some (.ref b), some (.int f), some (.ref d), x]) ∧ o = .dK (toK (plusS p s (t.take i) f))) ⟨⟨none, rfl⟩, rfl⟩ ?_ ?_
    · rintro i z n σ' H' o E hi ⟨⟨x, rfl⟩, rfl⟩ le hfo _ hE
      have hfw : -1000000 < n ∧ n < 1000000 := hf (z, n) (mem_fr hi)
      walk_at "go"
      refine g_dg le.self (getS_at hn hi) ?_
      walk_at "go"
      refine ⟨p, d, _, z, f * n, rfl, hfo, ?_, hp, ?_⟩
      · have h1 := len_plus (p := p) (s := s) (t := t.take i) f
        have h2 := List.length_take_le i t
        have h3 : (t.take i).length ≤ t.length := by rw [List.length_take]; omega
        omega
      · refine hE _ _ _ ⟨⟨_, rfl⟩, rfl⟩ ((ExB.refl d _).upd) ?_
        rw [upd_same]
        unfold plusS
        rw [foldl_take _ _ _ _ _ hi]
    · rintro σ' H' o ⟨⟨x, rfl⟩, rfl⟩ e ho
      walk_at "go"
      rw [List.take_length] at ho
      exact k d H' (fun a' o' h' => e a' o' (ne_of_none h' hd) (Ex.new hd a' o' h')) hd ho
theorem ok_addedW {f : Addr} {fd : FuncData} (F : Fun K "added" "added" s_added f fd) (T : Txt K mg C_Bag Cs) (D_put_to : DefOk P w K mg base CX0 1 "put_to" ["clock", "sparse", "word", "number"] sp_law_put) : FnOk P w K mg base CX0 2 f fd ["clock", "one", "other", "factor"] sp_law_plusW := by
  refine F.ok sc_added (fun vs H Q E h => ?_) (fun cdv A outer s H vs Q E hr h => ?_)
  · obtain ⟨p, a, b, s, t, f, rfl, _⟩ := h
    rfl
  · obtain ⟨p, a, b, s, t, f, rfl, ha, hb, hn, hl, hp, hf, k⟩ := h
    have hu := hu_of hr; have hu64 := L2.Room.units hr; refine ⟨_, (pss_cons (ps_set (i := 4) sc_added.nd rfl (by first | exact Or.inl rfl | exact Or.inr rfl) (pe_callTy call_dictD (by rfl) T.b_dict (by decide +kernel) (pa_cons (pv 1) pa_nil))) (pss_cons (ps_lockR (ps_for PassesOwn.never rfl (pi_keys (pv 2)) (pg_name (i := 5) sc_added.nd rfl (by first | exact Or.inl rfl | exact Or.inr rfl)) (pss_one (ps_expr (pe_callD D_put_to (hr.mono (by decide)) rfl pass0 (pa_cons (pv 0) (pa_cons (pv 4) (pa_cons (pv 5) (pa_cons (pe_op op_mul (pv 3) (pe_dget hu (pv 2) (pv 5) (fun _ _ => rfl))) pa_nil))))))))) (pss_one (ps_ret (pv 4))))), ?_⟩; rw [st_added]; (try dsimp only [cxOf]); walk_at "go"
    refine ⟨a, toK s, rfl, ha, fun d hd => ?_⟩
    walk_at "go"
    have hbd : b ≠ d := fun e => by subst e; rcases hb with h | ⟨o, h⟩ <;> rw [hd] at h <;> cases h
    have hb' : Rd (upd H d (.dK (toK s))) b (.dK (toK t)) := (Ex.new hd).rd hb
    refine for_keys hb' upd_same hbd (fun H' Q' _ q => ⟨_, rfl, q⟩) (fun i σ' o => (∃ x, σ' = [some (.int p), some (.ref a), some (.ref b), some (.int f), some (.ref d), x]) ∧ o = .dK (toK (plusS p s (t.take i) f))) ⟨⟨none, rfl⟩, rfl⟩ ?_ ?_
    · rintro i z n σ' H' o E hi ⟨⟨x, rfl⟩, rfl⟩ le hfo _ hE
      have hfw : -1000000 < n ∧ n < 1000000 := hf (z, n) (mem_fr hi)
      walk_at "go"
      refine g_dg le.self (getS_at hn hi) ?_
      walk_at "go"
      refine ⟨p, d, _, z, f * n, rfl, hfo, ?_, hp, ?_⟩
      · have h1 := len_plus (p := p) (s := s) (t := t.take i) f
        have h2 := List.length_take_le i t
        have h3 : (t.take i).length ≤ t.length := by rw [List.length_take]; omega
        omega
      · refine hE _ _ _ ⟨⟨_, rfl⟩, rfl⟩ ((ExB.refl d _).upd) ?_
        rw [upd_same]
        unfold plusS
        rw [foldl_take _ _ _ _ _ hi]
    · rintro σ' H' o ⟨⟨x, rfl⟩, rfl⟩ e ho
      walk_at "go"
      rw [List.take_length] at ho
      exact k d H' (fun a' o' h' => e a' o' (ne_of_none h' hd) (Ex.new hd a' o' h')) hd ho
theorem plus_of_W {vs : List V} {H : Hp} {Q : VK} {E : XK} (h : ∃ (p : Int) (a b : Addr) (s t : Bg) (f : Int), vs = [.int p, .ref a, .ref b, .int f] ∧ Rd H a (.dK (toK s)) ∧ Rd H b (.dK (toK t)) ∧ Good p t ∧ p ≤ 1000000 ∧ s.length + t.length < 10000000 ∧ 0 < p ∧
    ∀ d H', Ex H H' → H d = none → H' d = some (.dK (toK (plusS p s t f))) → Q (.ref d) H') : sp_law_plusW vs H Q E := by
  obtain ⟨p, a, b, s, t, f, h0, h1, h2, g, hp2, hl, hp, k⟩ := h
  exact ⟨p, a, b, s, t, f, h0, h1, h2, g.nd, hl, hp, fun kv hk => by have := g.lo kv hk; have := g.hi kv hk; omega, k⟩
def sp_scaledW : Sp := fun vs H Q _ => ∃ (d : Addr) (p : Int) (s : Bg) (f : Int), vs = [.int p, .ref d, .int f] ∧ Rd H d (.dK (toK s)) ∧ (keys s).Nodup ∧ s.length < 10000000 ∧ 0 < p ∧ (∀ kv ∈ s, -1000000 < kv.2 ∧ kv.2 < 1000000) ∧
  ∀ x H', Ex H H' → H x = none → H' x = some (.dK (toK (plusS p [] s f))) → Q (.ref x) H'
theorem ok_scaledW {f : Addr} {fd : FuncData} (F : Fun K "scaled" "scaled" s_scaled f fd) (T : Txt K mg C_Bag Cs) (D_addedW : DefOk P w K mg base CX0 2 "added" ["clock", "one", "other", "factor"] sp_law_plusW) : FnOk P w K mg base CX0 3 f fd ["clock", "sparse", "factor"] sp_scaledW := by
  refine F.ok sc_scaled (fun vs H Q E h => ?_) (fun cdv A outer s H vs Q E hr h => ?_)
  · obtain ⟨d, p, s, n, rfl, _⟩ := h
    rfl
  · obtain ⟨d, p, s, n, rfl, hd, hnd, hl, hp, hf, k⟩ := h
    have D_added := D_addedW
    have hu := hu_of hr; have hu64 := L2.Room.units hr; refine ⟨_, (pss_one (ps_ret (pe_callD D_added (hr.mono (by decide)) rfl pass0 (pa_cons (pv 0) (pa_cons pe_dnewK (pa_cons (pv 1) (pa_cons (pv 2) pa_nil))))))), ?_⟩; rw [st_scaled]; (try dsimp only [cxOf]); walk_at "go"
    intro q hq
    walk_at "go"
    have e0 : Ex H (upd H q (.dK [])) := Ex.new hq
    refine ⟨p, q, d, [], s, n, rfl, .inl upd_same, e0.rd hd, hnd, by rw [List.length_nil]; omega, hp, hf, fun x H1 e1 hx hx1 => ?_⟩
    exact k x H1 (e0.trans e1) (e0.free hx) hx1
def sp_timesW (Cs : Addr → Prop) : Sp := fun vs H Q _ => ∃ (a : Addr) (p : Int) (s : Bg) (m : Int), vs = [.ref a, .int m] ∧ BagAt Cs H a p s ∧ (keys s).Nodup ∧ s.length < 10000000 ∧ (∀ u ∈ keys s, u.length ≤ 10000000) ∧ 0 < p ∧ (∀ kv ∈ s, -1000000 < kv.2 ∧ kv.2 < 1000000) ∧
  ∀ x H', Ex H H' → H x = none → BagAt Cs H' x p (plusS p [] s m) → Q (.ref x) H'
theorem ok_timesW {f : Addr} {fd : FuncData} (F : Fun K "times" "times" s_times f fd) (T : Txt K mg C_Bag Cs) (D_is_integer : DefOk P w K mg base CX0 1 "is_integer" ["thing"] (sp_is_integer K)) (D_raw : DefOk P w K mg base CX0 8 "raw" ["clock", "sparse"] (sp_raw Cs)) (D_scaledW : DefOk P w K mg base CX0 3 "scaled" ["clock", "sparse", "factor"] sp_scaledW) : FnOk P w K mg base CX0 9 f fd ["bag", "number"] (sp_timesW Cs) := by
  refine F.ok sc_times (fun vs H Q E h => ?_) (fun cdv A outer s H vs Q E hr h => ?_)
  · obtain ⟨a, p, s, m, rfl, _⟩ := h
    rfl
  · obtain ⟨a, p, s, m, rfl, ha, hnd, hl, hw, hp, hm, k⟩ := h
    obtain ⟨C, dx, d, kk, t1, hc, h1, h2, h3⟩ := ha.ex
    have D_scaled := D_scaledW
    have hu := hu_of hr; have hu64 := L2.Room.units hr; refine ⟨_, (pss_cons (ps_if (pt_not (pt_val (pe_callD D_is_integer (hr.mono (by decide)) rfl pass0 (pa_cons (pv 1) pa_nil)))) (pss_one ps_never) pss_nil) (pss_one (ps_ret (pe_callD D_raw (hr.mono (by decide)) rfl pass0 (pa_cons (pe_fldK (K := K) rfl (pv 0) rfl) (pa_cons (pe_callD D_scaled (hr.mono (by decide)) rfl pass0 (pa_cons (pe_fldK (K := K) rfl (pv 0) rfl) (pa_cons (pe_fldK (K := K) rfl (pv 0) rfl) (pa_cons (pv 1) pa_nil)))) pa_nil)))))), ?_⟩; rw [st_times]; (try dsimp only [cxOf]); walk_at "go"
    refine ⟨_, true, rfl, .inl ⟨m, rfl, rfl⟩, ?_⟩
    walk_at "go"
    refine ⟨a, C, dx, _, _, rfl, h1, T.cls C hc, T.n_clock C hc, bagF_clock _ _ _ _, ?_⟩
    walk_at "go"
    refine ⟨a, C, dx, _, _, rfl, h1, T.cls C hc, T.n_clock C hc, bagF_clock _ _ _ _, ?_⟩
    walk_at "go"
    refine ⟨a, C, dx, _, _, rfl, h1, T.cls C hc, T.n_sparse C hc, bagF_sparse _ _ _ _, ?_⟩
    walk_at "go"
    refine ⟨d, p, s, m, rfl, .inl h2, hnd, hl, hp, hm, fun x H1 e1 hx hx1 => ?_⟩
    walk_at "go"
    have c1 := len_plus (p := p) (s := []) (t := s) m
    rw [List.length_nil] at c1
    exact ⟨x, p, _, rfl, hx1, by omega, fun u hu => by
      rcases keys_plus hu with z | z
      · cases z
      · exact hw u z, (Good.plus hp Good.nil s).nd, fun y H2 e2 hy hb2 => k y H2 (e1.trans e2) (e1.free hy) hb2⟩

/-! ### powers -/
def powS (p : Int) (s : Bg) : Nat → Bg
  | 0 => one1
  | n + 1 => prodS p (powS p s n) s
theorem one1_lot {p : Int} (hp : 1 < p) : Lot p one1 1 0 := Lot.of (by decide +kernel) (Nat.le_of_ble_eq_true rfl) (fun u hu => by rw [show u = ("" : Str) from List.mem_singleton.mp hu]; exact ⟨by decide, rfl⟩) (fun kv hkv => by rw [List.mem_singleton.mp hkv]; exact ⟨by decide, hp⟩)
theorem powS_lot {p : Int} {s : Bg} {a b : Nat} (hp : 1 < p) (l : Lot p s a b) : ∀ n, Lot p (powS p s n) (a ^ n) (b * n)
  | 0 => (one1_lot hp).mono (by rw [Nat.pow_zero]; exact Nat.le_refl _) (Nat.zero_le _)
  | n + 1 => (Lot.prod (by omega) (powS_lot hp l n) l).mono (by rw [Nat.pow_succ]; exact Nat.le_refl _) (by rw [Nat.mul_succ]; exact Nat.le_refl _)
theorem atI_last {xs : List V} {y : V} : atI (xs ++ [y]) (-1) = some y := by
  unfold atI ixN
  rw [if_neg (by decide), List.length_append, if_pos (by simp; omega)]
  have : ((-1 : Int) + ((xs.length + [y].length : Nat) : Int)).toNat = xs.length := by simp; omega
  rw [this]
  simp
def sp_powers : Sp := fun vs H Q _ => ∃ (d : Addr) (p : Int) (s : Bg) (m a b : Nat), vs = [.int p, .ref d, .int m] ∧ H d = some (.dK (toK s)) ∧ Lot p s a b ∧ 0 < a ∧ a ^ m * a < 10000000 ∧ m ≤ 1000 ∧ b ≤ 50 ∧ 1 < p ∧ p ≤ 1000000 ∧
  ∀ l xs dm H', Ex H H' → H' l = some (.lst (xs ++ [.ref dm])) → H dm = none → H' dm = some (.dK (toK (powS p s m))) → Q (.ref l) H'
def sp_check_number : Sp := fun vs H Q _ => ∃ (i lo hi : Int), vs = [.int i, .int lo, .int hi] ∧ lo ≤ i ∧ i ≤ hi ∧ Q .non H
def sp_power (Cs : Addr → Prop) : Sp := fun vs H Q _ => ∃ (x : Addr) (p : Int) (s : Bg) (m a b : Nat), vs = [.ref x, .int m] ∧ BagAt Cs H x p s ∧ Lot p s a b ∧ 0 < a ∧ a ^ m * a < 10000000 ∧ m ≤ 12 ∧ b ≤ 50 ∧ 1 < p ∧ p ≤ 1000000 ∧
  ∀ y H', Ex H H' → H y = none → BagAt Cs H' y p (powS p s m) → Q (.ref y) H'
/-! ### rows of bags: lists or tuples -/
theorem ty_seq {H : Hp} {a : Addr} {xs : List V} (h : SqL K H a xs ∨ SqT K H a xs) : ∃ t, TyX K H (.ref a) (.type t) ∧ (t = "list" ∨ t = "tuple") := by
  rcases h with (h | ⟨o, its, n, h1, h2, h3⟩) | (h | ⟨o, its, n, h1, h2, h3⟩)
  · rcases h with h | ⟨o, h⟩
    · exact ⟨_, .base (.lst h), .inl rfl⟩
    · exact ⟨_, .base (.frz h), .inl rfl⟩
  · exact ⟨_, .kList h1 h2, .inl rfl⟩
  · rcases h with h | ⟨o, h⟩
    · exact ⟨_, .base (.tup h), .inr rfl⟩
    · exact ⟨_, .fTuple h, .inr rfl⟩
  · exact ⟨_, .kTuple h1 h2, .inr rfl⟩
theorem g_iSeq {te : TE} {σ : St} {H : Hp} {R : It → Hp → Prop} {a : Addr} {xs : List V} (hs : SqL K H a xs ∨ SqT K H a xs) (he : ∀ Q : VK, Q (.ref a) H → te σ H Q)
    (hR : ∀ J G, Walk J xs.length G (YAt xs) → (∀ H', Ex H H' → G H') → R J H) : iSeq K te σ H R := by
  rcases hs with hs | hs
  · exact .inl (he _ ⟨a, rfl, ⟨xs, hs⟩, hR _ _ walk_list fun H' e => e.sql hs⟩)
  · exact .inr (he _ ⟨a, rfl, ⟨xs, hs⟩, hR _ _ walk_tup fun H' e => e.sqt hs⟩)
theorem g_ixq {H : Hp} {a : Addr} {xs : List V} {k : Int} {v : V} {Q : VK} (hs : SqL K H a xs ∨ SqT K H a xs) (ha : atI xs k = some v) (h : Q v H) : rIx K (.ref a) (.int k) H Q :=
  hs.elim (fun hs => .inl (g_ixl hs ha h)) fun hs => .inr (.inl (g_ixt hs ha h))
structure BagsAt (K : PySem.W.Frag) (Cs : Addr → Prop) (H : Hp) (a : Addr) (p : Int) (ss : List Bg) : Prop where
  ex : ∃ xs : List Addr, (SqL K H a (xs.map V.ref) ∨ SqT K H a (xs.map V.ref)) ∧ Paired (fun x s => BagAt Cs H x p s) xs ss
theorem BagsAt.ex' {H H' : Hp} {a : Addr} {p : Int} {ss : List Bg} (e : Ex H H') (h : BagsAt K Cs H a p ss) : BagsAt K Cs H' a p ss := by
  obtain ⟨xs, h1, h2⟩ := h.ex
  exact ⟨xs, h1.elim (fun h => .inl (e.sql h)) (fun h => .inr (e.sqt h)), Paired.mapP h2 fun _ _ z => z.ex' e⟩
def sp_is_listed (K : PySem.W.Frag) : Sp := fun vs H Q _ => ∃ (a : Addr) (xs : List V), vs = [.ref a] ∧ (SqL K H a xs ∨ SqT K H a xs) ∧ ∀ H', Ex H H' → Q (.bl true) H'
theorem ok_is_listed {f : Addr} {fd : FuncData} (F : Fun K "is_listed" "is_listed" s_is_listed f fd) (T : Txt K mg C_Bag Cs) : FnOk P w K mg base CX0 1 f fd ["thing"] (sp_is_listed K) := by
  refine F.ok sc_is_listed (fun vs H Q E h => ?_) (fun cdv A outer s H vs Q E hr h => ?_)
  · obtain ⟨a, xs, rfl, _⟩ := h
    rfl
  · obtain ⟨a, xs, rfl, hs, k⟩ := h
    have hu := hu_of hr; have hu64 := L2.Room.units hr; refine ⟨_, (pss_one (ps_ret (pe_callB call_isiT (by rfl) T.b_isinstance (by decide +kernel) (pa_cons (pv 0) (pa_cons (pe_tup (pa_cons (pe_bltn (v := .ty "list") rfl T.b_list (by decide +kernel) rfl) (pa_cons (pe_bltn (v := .ty "tuple") rfl T.b_tuple (by decide +kernel) rfl) pa_nil))) pa_nil))))), ?_⟩; rw [st_is_listed]; (try dsimp only [cxOf]); walk_at "go"
    refine ⟨Nat.le_of_ble_eq_true rfl, fun tp htp => ?_⟩
    walk_at "go"
    have e1 := Ex.new (o := .tup [.ty "list", .ty "tuple"]) htp
    obtain ⟨t, ht, hlt⟩ := ty_seq (hs.elim (fun h => Or.inl (e1.sql h)) (fun h => Or.inr (e1.sqt h)))
    refine ⟨.ref a, tp, _, .type t, _, true, rfl, upd_same, .cons (.ty "list") (.cons (.ty "tuple") .nil), ht, ?_, k _ e1⟩
    rcases hlt with rfl | rfl
    · exact kitAny_cons (b := true) (r := true) (kit_ty (by decide +kernel)) (fun h => nomatch h) (fun _ => rfl)
    · exact kitAny_cons (b := false) (r := true) (kit_ty (by decide +kernel)) (fun _ => kitAny_cons (b := true) (r := true) (kit_ty (by decide +kernel)) (fun h => nomatch h) (fun _ => rfl)) (fun h => nomatch h)
def sp_check_bags (K : PySem.W.Frag) (Cs : Addr → Prop) : Sp := fun vs H Q _ => ∃ (a : Addr) (p : Int) (ss : List Bg), vs = [.ref a] ∧ BagsAt K Cs H a p ss ∧ ss ≠ [] ∧ ss.length ≤ 10000000 ∧ ∀ H', Ex H H' → Q .non H'
theorem all_true (n : Nat) : (List.replicate n true).all id = true := List.all_eq_true.mpr fun x hx => by rw [List.eq_of_mem_replicate hx]; rfl
theorem ok_check_bags {f : Addr} {fd : FuncData} (F : Fun K "check_bags" "check_bags" s_check_bags f fd) (T : Txt K mg C_Bag Cs) (D_is_listed : DefOk P w K mg base CX0 1 "is_listed" ["thing"] (sp_is_listed K)) : FnOk P w K mg base CX0 2 f fd ["thing"] (sp_check_bags K Cs) := by
  refine F.ok sc_check_bags (fun vs H Q E h => ?_) (fun cdv A outer s H vs Q E hr h => ?_)
  · obtain ⟨a, p, ss, rfl, _⟩ := h
    rfl
  · obtain ⟨a, p, ss, rfl, hb, hne, hz, k⟩ := h
    obtain ⟨xs, hsq, hps⟩ := hb.ex
    have hlen := hps.length
    have hpos : 0 < ss.length := List.length_pos_iff.mpr hne
    have hu := hu_of hr; have hu64 := L2.Room.units hr; refine ⟨_, (pss_cons (ps_if (PW.pt (pw_or (pt_not (pt_val (pe_callD D_is_listed (hr.mono (by decide)) rfl pass0 (pa_cons (pv 0) pa_nil)))) (pw_or (pt_cmpR op_eq (pe_callB call_len_seq (by rfl) T.b_len (by decide +kernel) (pa_cons (pv 0) pa_nil)) pe_int (nomark _)) (pw_or1 (pt_not (pt_val (pe_callB (r := rAll K) (cr_all rfl) (by rfl) T.b_all (by decide +kernel) (pa_cons (pe_lc (own := [("bag", 1)]) (g := (gName 1)) (tt := tYes) rfl sc_check_bags.nd (pi_seqK (K := K) rfl (pv 0)) (blkOk_by (N := N_check_bags) (sc := defScope s_check_bags) (by decide +kernel)) (fun _ _ _ _ _ => (pg_name (i := 1) sc_check_bags.nd rfl (by first | exact Or.inl rfl | exact Or.inr rfl))) (fun _ _ _ _ _ => pts_nil) (fun _ _ _ _ _ => (pe_callB (r := rIsi K) call_isi (by rfl) T.b_isinstance (by decide +kernel) (pa_cons (pv 1) (pa_cons (pe_glob (v := .ref C_Bag) rfl T.c_Bag rfl) pa_nil))))) pa_nil)))))))) (pss_one ps_never) pss_nil) (pss_one (ps_if (pt_not (pt_val (pe_callB (r := rAll K) (cr_all rfl) (by rfl) T.b_all (by decide +kernel) (pa_cons (pe_lc (own := [("bag", 1)]) (g := (gName 1)) (tt := tYes) rfl sc_check_bags.nd (pi_seqK (K := K) rfl (pv 0)) (blkOk_by (N := N_check_bags) (sc := defScope s_check_bags) (by decide +kernel)) (fun _ _ _ _ _ => (pg_name (i := 1) sc_check_bags.nd rfl (by first | exact Or.inl rfl | exact Or.inr rfl))) (fun _ _ _ _ _ => pts_nil) (fun _ _ _ _ _ => (pe_cmpR op_eq (pe_fldK (K := K) rfl (pv 1) rfl) (pe_fldK (K := K) rfl (pe_ix (r := rIx K) ix_seq (pv 0) pe_int (fun _ _ => rfl)) rfl) (nomark _)))) pa_nil)))) (pss_one ps_never) pss_nil))), ?_⟩; rw [st_check_bags]; (try dsimp only [cxOf]); walk_at "go"
    refine ⟨a, _, rfl, hsq, fun H1 e1 => ?_⟩
    have hsq1 := hsq.elim (fun h => Or.inl (e1.sql h)) (fun h => Or.inr (e1.sqt h))
    walk_at "go"
    refine ⟨a, _, rfl, hsq1, ?_⟩
    walk_at "go"
    rw [decide_eq_false (fun e => by have := V.int.inj e; rw [List.length_map] at this; omega)]
    walk_at "go"
    refine g_iSeq hsq1 (fun Q q => ⟨_, rfl, q⟩) fun J G wk hG => ?_
    refine lc_pure (j := 1) wk (List.replicate xs.length (V.bl true)) (by rw [List.length_replicate, List.length_map]) (by rw [List.length_map]; exact line5 (by omega)) hG (fun _ => rfl) ?_ ?_
    · rintro i x y H2 H3 Kc hi e2 ⟨rfl, hx⟩ hy hk
      obtain rfl := List.eq_of_mem_replicate (List.mem_of_getElem? hy)
      rw [List.getElem?_map] at hx
      cases hm : xs[i]? with
      | none => rw [hm] at hx; cases hx
      | some b =>
        rw [hm] at hx
        obtain rfl := (Option.some.inj hx).symm
        obtain ⟨s, _, hbs⟩ := paired_get hps hm
        obtain ⟨C, dx, d, k1, t1, hc, h1, _, _⟩ := (hbs.ex' (e1.trans e2)).ex
        walk_at "go"
        refine g_isC (b := true) (bag_ty T hc h1) (T.c_isB C hc) ?_
        exact hk _ (Ex.refl _)
    · intro D H2 hD e2 hl2
      walk_at "go"
      refine ⟨D, List.replicate xs.length true, rfl, SqL.of (by rw [hl2, List.map_replicate]), ?_⟩
      rw [all_true]
      walk_at "go"
      have e12 := e1.trans e2
      have hsq2 := hsq.elim (fun h => Or.inl (e12.sql h)) (fun h => Or.inr (e12.sqt h))
      refine g_iSeq hsq2 (fun Q q => ⟨_, rfl, q⟩) fun J G wk hG => ?_
      refine lc_pure (j := 1) wk (List.replicate xs.length (V.bl true)) (by rw [List.length_replicate, List.length_map]) (by rw [List.length_map]; exact line5 (by omega)) hG (fun _ => rfl) ?_ ?_
      · rintro i x y H3 H4 Kc hi e3 ⟨rfl, hx⟩ hy hk
        obtain rfl := List.eq_of_mem_replicate (List.mem_of_getElem? hy)
        rw [List.getElem?_map] at hx
        cases hm : xs[i]? with
        | none => rw [hm] at hx; cases hx
        | some b =>
          rw [hm] at hx
          obtain rfl := (Option.some.inj hx).symm
          obtain ⟨s, _, hbs⟩ := paired_get hps hm
          have e13 := e12.trans e3
          obtain ⟨C, dx, d, k1, t1, hc, h1, _, _⟩ := (hbs.ex' e13).ex
          walk_at "go"
          refine ⟨b, C, dx, _, _, rfl, h1, T.cls C hc, T.n_clock C hc, bagF_clock _ _ _ _, ?_⟩
          walk_at "go"
          obtain ⟨b0, hb0⟩ : ∃ b0, xs[0]? = some b0 := ⟨xs[0], List.getElem?_eq_getElem (by omega)⟩
          obtain ⟨s0, _, hbs0⟩ := paired_get hps hb0
          obtain ⟨C0, dx0, d0, k0, t0, hc0, h10, _, _⟩ := (hbs0.ex' e13).ex
          refine g_ixq (v := .ref b0) (hsq.elim (fun h => Or.inl (e13.sql h)) (fun h => Or.inr (e13.sqt h))) (atI_get (by decide) (by show (xs.map V.ref)[0]? = _; rw [List.getElem?_map, hb0]; rfl)) ?_
          walk_at "go"
          refine ⟨b0, C0, dx0, _, _, rfl, h10, T.cls C0 hc0, T.n_clock C0 hc0, bagF_clock _ _ _ _, ?_⟩
          walk_at "go"
          rw [decide_eq_true rfl]
          exact hk _ (Ex.refl _)
      · intro D2 H3 hD2 e3 hl3
        walk_at "go"
        refine ⟨D2, List.replicate xs.length true, rfl, SqL.of (by rw [hl3, List.map_replicate]), ?_⟩
        rw [all_true]
        walk_at "go"
        exact k _ (e12.trans e3)
/-- the products one after the other keep within the line -/
def Fits (p : Int) (ss : List Bg) : Prop := ∀ (j : Nat) (t : Bg), ss[j]? = some t → ((ss.take j).foldl (prodS p) one1).length * t.length < 10000000 ∧ (∀ u ∈ keys ((ss.take j).foldl (prodS p) one1), u.length ≤ 5000000) ∧ (∀ u ∈ keys t, u.length ≤ 5000000) ∧ Good p t
theorem good_prods {p : Int} (hp : 1 < p) : ∀ ss : List Bg, Good p (ss.foldl (prodS p) one1) := by
  have h : ∀ (ss : List Bg) (acc : Bg), Good p acc → Good p (ss.foldl (prodS p) acc) := by
    intro ss
    induction ss with
    | nil => intro acc g; exact g
    | cons t r ih => intro acc g; exact ih _ (Good.prod (by omega) acc t)
  exact fun ss => h ss _ (one1_lot hp).g
def sp_all_behind (K : PySem.W.Frag) (Cs : Addr → Prop) : Sp := fun vs H Q _ => ∃ (a : Addr) (p : Int) (ss : List Bg), vs = [.ref a] ∧ BagsAt K Cs H a p ss ∧ ss ≠ [] ∧ ss.length ≤ 10000000 ∧ Fits p ss ∧ (ss.foldl (prodS p) one1).length ≤ 10000000 ∧ (∀ u ∈ keys (ss.foldl (prodS p) one1), u.length ≤ 10000000) ∧ 1 < p ∧ p ≤ 1000000 ∧
  ∀ x H', Ex H H' → H x = none → BagAt Cs H' x p (ss.foldl (prodS p) one1) → Q (.ref x) H'
end
end Fp

namespace Fp
open PySem L2
section
variable {P : Program} {w : World} {K : PySem.W.Frag} {mg : Str → Option Value} {base : Heap} {C_Bag : Addr} {Cs : Addr → Prop}
local macro_rules | `(tactic| walk_at "hp") => `(tactic| first | assumption | rfl)
local macro_rules | `(tactic| walk_at "cond") => `(tactic| first | assumption | decide | omega | (unfold CMul; omega) | (refine ⟨?_, ?_⟩ <;> omega) | (unfold CDiv; omega) | (unfold CPow; omega))
local macro_rules | `(tactic| walk_at "g1") => `(tactic| first
  | with_reducible first
    | refine g_seq ?_ | refine g_asg ?_ | refine g_name ?_ | refine g_ret ?_ | refine g_retN ?_ | refine g_drop ?_ | refine g_ifs ?_
    | refine g_c ?_ | refine g_op ?_ | refine g_un ?_ | refine g_I0 ?_ | refine g_U ?_
    | refine g_test ?_ | refine g_tB ?_ | refine g_bl ?_ | refine g_and ?_ | refine g_or ?_ | refine g_not ?_
    | refine g_andV ?_ | refine g_orV ?_ | refine g_notV ?_ | refine g_if ?_ | refine g_nil ?_ | refine g_cons ?_ | refine g_cb ?_ | refine g_call ?_
    | refine g_lst ?_ | refine g_tup ?_ | refine g_itT ?_ | refine g_itF ?_ | refine g_itNT ?_ | refine g_itNF ?_ | refine g_lc ?_ | refine g_iStr ?_ | refine g_yes ?_ | refine g_exs ?_
    | refine g_chain ?_ | refine g_dget ?_ | refine g_dput ?_ | refine g_dget2 ?_ | refine g_dpop2 ?_ | refine g_fld ?_ | refine g_sfld ?_ | refine g_make ?_ | refine g_meth ?_
    | refine g_bm ?_ | refine g_kw ?_ | refine g_callS ?_ | refine g_revL ?_ | refine g_m1 ?_ | refine g_gsub ?_ | refine g_for ?_ | refine g_iList ?_ | refine g_iTup ?_ | refine g_iRng1 ?_ | refine g_iRng2 ?_ | refine g_sl ?_ | refine g_part ?_ | refine g_noPart ?_
    | refine g_exi ?_ | refine g_exr ?_ | refine g_dnew ?_ | refine g_disp ?_ | refine g_prs0 ?_ | refine g_prs ?_ | refine g_nxt ?_
  | ((with_reducible refine g_var (v := ?vv) ?gv ?_); (case gv => exact rfl))
  | ((with_reducible refine g_I ?gc ?_); (case gc => walk_at "cond"))
  | ((with_reducible refine g_eq ?ge ?_); (case ge => exact rfl))
  | ((with_reducible refine g_ne ?ge ?_); (case ge => exact rfl))
  | (refine g_ixl (SqL.of (by first | assumption | exact upd_same)) rfl ?_)
  | (refine g_setl (by first | assumption | exact upd_same) rfl ?_)
  | ((with_reducible show (∃ i, [V.int _] = [V.int i] ∧ _) ∨ _); refine Or.inl ⟨_, rfl, ?_⟩)
  | ((with_reducible show ∃ i, [V.int _] = [V.int i] ∧ _); refine ⟨_, rfl, ?_⟩)
  | dsimp only)
local macro_rules | `(tactic| walk_at "go") => `(tactic| repeat (walk_at "g1"))

local macro_rules | `(tactic| walk_at "ex") => `(tactic| first
  | assumption
  | exact Ex.refl _
  | (refine Ex.trans ?_ (by assumption); walk_at "ex")
  | (refine BagAt.ex' (by assumption) ?_; walk_at "ex")
  | (refine HandAt.ex' (by assumption) ?_; walk_at "ex")
  | (refine DcsAt.ex' (by assumption) ?_; walk_at "ex")
  | (refine BgsAt.ex' (by assumption) ?_; walk_at "ex")
  | (refine DcsAt.hand (by assumption) (by assumption) ?_; walk_at "ex")
  | (refine BgsAt.hand (by assumption) (by assumption) ?_; walk_at "ex")
  | (refine WordsAt.ex' (by assumption) ?_; walk_at "ex")
  | (refine Ex.at' (by assumption) ?_; walk_at "ex")
  | (refine SqL.of ?_; walk_at "ex")
  | (refine SqT.of ?_; walk_at "ex")
  | (refine Or.inl ?_; walk_at "ex")
  | (refine BagAt.hand (by assumption) (by assumption) ?_; walk_at "ex")
  | (refine hand_dkE (by assumption) (by assumption) ?_; walk_at "ex")
  | (refine hand_lstE (by assumption) (by assumption) (by simp) ?_; walk_at "ex"))
local macro_rules | `(tactic| walk_at "go2") => `(tactic| (walk_at "go"; (repeat (refine g_ixl (SqL.of (by walk_at "ex")) rfl ?_; walk_at "go"))))

/-! ### errors let out: unlike clocks -/
def sp_check_clocksX (C_Unlike : Addr) (Cs : Addr → Prop) : Sp := fun vs H Q E => ∃ (a b : Addr) (p q : Int) (s t : Bg), vs = [.ref a, .ref b] ∧ BagAt Cs H a p s ∧ BagAt Cs H b q t ∧ p ≠ q ∧ E (.ref C_Unlike) none H
theorem ok_check_clocksX {C_Unlike : Addr} {f : Addr} {fd : FuncData} (F : Fun K "check_clocks" "check_clocks" s_check_clocks f fd) (T : Txt K mg C_Bag Cs) (E_UnlikeClocks : ErrC K mg "UnlikeClocks" C_Unlike) : FnOk P w K mg base (L2.CX P w) 1 f fd ["one", "other"] (sp_check_clocksX C_Unlike Cs) := by
  refine F.okX sc_check_clocks (fun vs H Q E h => ?_) (fun cdv A outer s H vs Q E hr h => ?_)
  · obtain ⟨a, b, p, q, s, t, rfl, _⟩ := h
    rfl
  · obtain ⟨a, b, p, q, s, t, rfl, ha, hb, hpq, k⟩ := h
    obtain ⟨C, dx, d, k1, t1, hc, h1, h2, h3⟩ := ha.ex
    obtain ⟨C', dx', d', k1', t1', hc', h1', h2', h3'⟩ := hb.ex
    have hu := hu_of hr; have hu64 := L2.Room.units hr; refine ⟨_, (pss_one (ps_if (pt_cmpR op_ne (pe_fldK (K := K) rfl (pv 0) rfl) (pe_fldK (K := K) rfl (pv 1) rfl) (nomark _)) (pss_one (ps_err rfl (takes_of rfl rfl rfl rfl) E_UnlikeClocks rfl)) pss_nil)), ?_⟩; rw [st_check_clocks]; (try dsimp only [cxOf]); walk_at "go"
    refine ⟨a, C, dx, _, _, rfl, h1, T.cls C hc, T.n_clock C hc, bagF_clock _ _ _ _, ?_⟩
    walk_at "go"
    refine ⟨b, C', dx', _, _, rfl, h1', T.cls C' hc', T.n_clock C' hc', bagF_clock _ _ _ _, ?_⟩
    walk_at "go"
    rw [decide_eq_false (fun e => hpq (V.int.inj e))]
    walk_at "go"
    exact k

/-! ### less, errors let out, several laid together, in order -/
theorem ok_less {f : Addr} {fd : FuncData} (F : Fun K "less" "less" s_less f fd) (T : Txt K mg C_Bag Cs) (D_check_clocks : DefOk P w K mg base CX0 1 "check_clocks" ["one", "other"] (sp_check_clocks Cs)) (D_raw : DefOk P w K mg base CX0 8 "raw" ["clock", "sparse"] (sp_raw Cs))
    (D_added : DefOk P w K mg base CX0 2 "added" ["clock", "one", "other", "factor"] sp_law_plus) : FnOk P w K mg base CX0 9 f fd ["one", "other"] (sp_sum (-1) Cs) := by
  refine F.ok sc_less (fun vs H Q E h => ?_) (fun cdv A outer s H vs Q E hr h => ?_)
  · obtain ⟨a, b, p, s, t, n1, l1, n2, l2, rfl, _⟩ := h
    rfl
  · obtain ⟨a, b, p, s, t, n1, l1, n2, l2, rfl, ha, hb, hls, hlt, hn, hl1, hl2, hp, k⟩ := h
    obtain ⟨C, dx, d, k1, t1, hc, h1, h2, h3⟩ := ha.ex
    obtain ⟨C', dx', d', k1', t1', hc', h1', h2', h3'⟩ := hb.ex
    have hu := hu_of hr; have hu64 := L2.Room.units hr; refine ⟨_, (pss_cons (ps_expr (pe_callD D_check_clocks (hr.mono (by decide)) rfl pass0 (pa_cons (pv 0) (pa_cons (pv 1) pa_nil)))) (pss_one (ps_ret (pe_callD D_raw (hr.mono (by decide)) rfl pass0 (pa_cons (pe_fldK (K := K) rfl (pv 0) rfl) (pa_cons (pe_callD D_added (hr.mono (by decide)) rfl pass0 (pa_cons (pe_fldK (K := K) rfl (pv 0) rfl) (pa_cons (pe_fldK (K := K) rfl (pv 0) rfl) (pa_cons (pe_fldK (K := K) rfl (pv 1) rfl) (pa_cons (pe_un un_neg pe_int) pa_nil))))) pa_nil)))))), ?_⟩; rw [st_less]; (try dsimp only [cxOf]); walk_at "go"
    refine ⟨a, b, p, s, t, rfl, ha, hb, ?_⟩
    walk_at "go"
    refine ⟨a, C, dx, _, _, rfl, h1, T.cls C hc, T.n_clock C hc, bagF_clock _ _ _ _, ?_⟩
    walk_at "go"
    refine ⟨a, C, dx, _, _, rfl, h1, T.cls C hc, T.n_clock C hc, bagF_clock _ _ _ _, ?_⟩
    walk_at "go"
    refine ⟨a, C, dx, _, _, rfl, h1, T.cls C hc, T.n_sparse C hc, bagF_sparse _ _ _ _, ?_⟩
    walk_at "go"
    refine ⟨b, C', dx', _, _, rfl, h1', T.cls C' hc', T.n_sparse C' hc', bagF_sparse _ _ _ _, ?_⟩
    walk_at "go"
    have c1 := hls.n
    have c2 := hlt.n
    refine ⟨p, d, d', s, t, _, rfl, .inl h2, .inl h2', hlt.g.nd, by omega, hp, by decide, fun d2 H1 e1 hd2 hd2' => ?_⟩
    walk_at "go"
    have c3 := len_plus (p := p) (s := s) (t := t) (-1)
    refine ⟨d2, p, _, rfl, hd2', by omega, fun u hu => ?_, (Good.plus hp hls.g t).nd, fun x H2 e2 hx hb2 => ?_⟩
    · rcases keys_plus hu with q | q
      · exact Nat.le_trans (hls.l u q).1 hl1
      · exact Nat.le_trans (hlt.l u q).1 hl2
    · exact k x H2 (e1.trans e2) (e1.free hx) hb2
theorem ok_togetherR {C_Unlike : Addr} {f : Addr} {fd : FuncData} (F : Fun K "together" "together" s_together f fd) (T : Txt K mg C_Bag Cs) (D_check_clocksX : DefOk P w K mg base (L2.CX P w) 1 "check_clocks" ["one", "other"] (sp_check_clocksX C_Unlike Cs)) (D_raw : DefOk P w K mg base CX0 8 "raw" ["clock", "sparse"] (sp_raw Cs))
    (D_added : DefOk P w K mg base CX0 2 "added" ["clock", "one", "other", "factor"] sp_law_plus) : FnOk P w K mg base (L2.CX P w) 9 f fd ["one", "other"] (sp_check_clocksX C_Unlike Cs) := by
  refine F.okX sc_together (fun vs H Q E h => ?_) (fun cdv A outer s H vs Q E hr h => ?_)
  · obtain ⟨a, b, p, q, s, t, rfl, _⟩ := h
    rfl
  · obtain ⟨a, b, p, q, s, t, rfl, ha, hb, hpq, k⟩ := h
    have hu := hu_of hr; have hu64 := L2.Room.units hr; refine ⟨_, (pss_cons (ps_expr (pe_callDX D_check_clocksX (hr.mono (by decide)) rfl (takes_of rfl rfl rfl rfl) (pa_cons (pv 0) (pa_cons (pv 1) pa_nil)))) (pss_one (ps_ret (pe_callD D_raw (hr.mono (by decide)) rfl pass0 (pa_cons (pe_fldK (K := K) rfl (pv 0) rfl) (pa_cons (pe_callD D_added (hr.mono (by decide)) rfl pass0 (pa_cons (pe_fldK (K := K) rfl (pv 0) rfl) (pa_cons (pe_fldK (K := K) rfl (pv 0) rfl) (pa_cons (pe_fldK (K := K) rfl (pv 1) rfl) (pa_cons pe_int pa_nil))))) pa_nil)))))), ?_⟩; rw [st_together]; (try dsimp only [cxOf]); walk_at "go"
    exact ⟨a, b, p, q, s, t, rfl, ha, hb, hpq, k⟩
theorem ok_lessR {C_Unlike : Addr} {f : Addr} {fd : FuncData} (F : Fun K "less" "less" s_less f fd) (T : Txt K mg C_Bag Cs) (D_check_clocksX : DefOk P w K mg base (L2.CX P w) 1 "check_clocks" ["one", "other"] (sp_check_clocksX C_Unlike Cs)) (D_raw : DefOk P w K mg base CX0 8 "raw" ["clock", "sparse"] (sp_raw Cs))
    (D_added : DefOk P w K mg base CX0 2 "added" ["clock", "one", "other", "factor"] sp_law_plus) : FnOk P w K mg base (L2.CX P w) 9 f fd ["one", "other"] (sp_check_clocksX C_Unlike Cs) := by
  refine F.okX sc_less (fun vs H Q E h => ?_) (fun cdv A outer s H vs Q E hr h => ?_)
  · obtain ⟨a, b, p, q, s, t, rfl, _⟩ := h
    rfl
  · obtain ⟨a, b, p, q, s, t, rfl, ha, hb, hpq, k⟩ := h
    have hu := hu_of hr; have hu64 := L2.Room.units hr; refine ⟨_, (pss_cons (ps_expr (pe_callDX D_check_clocksX (hr.mono (by decide)) rfl (takes_of rfl rfl rfl rfl) (pa_cons (pv 0) (pa_cons (pv 1) pa_nil)))) (pss_one (ps_ret (pe_callD D_raw (hr.mono (by decide)) rfl pass0 (pa_cons (pe_fldK (K := K) rfl (pv 0) rfl) (pa_cons (pe_callD D_added (hr.mono (by decide)) rfl pass0 (pa_cons (pe_fldK (K := K) rfl (pv 0) rfl) (pa_cons (pe_fldK (K := K) rfl (pv 0) rfl) (pa_cons (pe_fldK (K := K) rfl (pv 1) rfl) (pa_cons (pe_un un_neg pe_int) pa_nil))))) pa_nil)))))), ?_⟩; rw [st_less]; (try dsimp only [cxOf]); walk_at "go"
    exact ⟨a, b, p, q, s, t, rfl, ha, hb, hpq, k⟩

theorem ok_togetherX {C_Unlike : Addr} {f : Addr} {fd : FuncData} (F : Fun K "together" "together" s_together f fd) (T : Txt K mg C_Bag Cs) (D_check_clocks : DefOk P w K mg base CX0 1 "check_clocks" ["one", "other"] (sp_check_clocks Cs)) (D_check_clocksX : DefOk P w K mg base (L2.CX P w) 1 "check_clocks" ["one", "other"] (sp_check_clocksX C_Unlike Cs)) (D_raw : DefOk P w K mg base CX0 8 "raw" ["clock", "sparse"] (sp_raw Cs))
    (D_added : DefOk P w K mg base CX0 2 "added" ["clock", "one", "other", "factor"] sp_law_plus) : FnOk P w K mg base (L2.CX P w) 9 f fd ["one", "other"] (fun vs H Q E => sp_sum 1 Cs vs H Q E ∨ sp_check_clocksX C_Unlike Cs vs H Q E) :=
  fn_either (fn_calm (ok_together F T D_check_clocks D_raw D_added)) (ok_togetherR F T D_check_clocksX D_raw D_added)
theorem ok_lessX {C_Unlike : Addr} {f : Addr} {fd : FuncData} (F : Fun K "less" "less" s_less f fd) (T : Txt K mg C_Bag Cs) (D_check_clocks : DefOk P w K mg base CX0 1 "check_clocks" ["one", "other"] (sp_check_clocks Cs)) (D_check_clocksX : DefOk P w K mg base (L2.CX P w) 1 "check_clocks" ["one", "other"] (sp_check_clocksX C_Unlike Cs)) (D_raw : DefOk P w K mg base CX0 8 "raw" ["clock", "sparse"] (sp_raw Cs))
    (D_added : DefOk P w K mg base CX0 2 "added" ["clock", "one", "other", "factor"] sp_law_plus) : FnOk P w K mg base (L2.CX P w) 9 f fd ["one", "other"] (fun vs H Q E => sp_sum (-1) Cs vs H Q E ∨ sp_check_clocksX C_Unlike Cs vs H Q E) :=
  fn_either (fn_calm (ok_less F T D_check_clocks D_raw D_added)) (ok_lessR F T D_check_clocksX D_raw D_added)
theorem Room.units65 {k : Nat} {A : Around} (r : Room k A) : A.units + 65 < cLine := by
  have := r.un
  omega
def sumAll (p : Int) (ss : List Bg) : Bg := ss.foldl (fun acc t => plusS p acc t 1) []
theorem sumAll_lot {p : Int} {n m : Nat} (hp : 0 < p) : ∀ {ss : List Bg}, (∀ t ∈ ss, Lot p t n m) → ∀ i, i ≤ ss.length → Lot p (sumAll p (ss.take i)) (i * n) m := by
  intro ss h i
  induction i with
  | zero => intro _; rw [List.take_zero]; exact Lot.nil
  | succ i ih =>
    intro hi
    have hg : ss[i]? = some ss[i] := List.getElem?_eq_getElem (by omega)
    have e : sumAll p (ss.take (i + 1)) = plusS p (sumAll p (ss.take i)) ss[i] 1 := foldl_take _ _ _ _ _ hg
    rw [e]
    exact (Lot.plus hp (ih (by omega)) (h _ (List.getElem_mem (by omega))) (Nat.le_refl _) (Nat.le_refl _)).mono (by rw [Nat.succ_mul]; exact Nat.le_refl _) (Nat.le_refl _)
def sp_all_together (K : PySem.W.Frag) (Cs : Addr → Prop) : Sp := fun vs H Q _ => ∃ (a : Addr) (p : Int) (ss : List Bg) (n m : Nat), vs = [.ref a] ∧ BagsAt K Cs H a p ss ∧ ss ≠ [] ∧ ss.length ≤ 1000 ∧ (∀ t ∈ ss, Lot p t n m) ∧ n ≤ 1000 ∧ m ≤ 10000000 ∧ 0 < p ∧
  ∀ x H', Ex H H' → H x = none → BagAt Cs H' x p (sumAll p ss) → Q (.ref x) H'
theorem ok_all_together {f : Addr} {fd : FuncData} (F : Fun K "all_together" "all_together" s_all_together f fd) (T : Txt K mg C_Bag Cs) (D_check_bags : DefOk P w K mg base CX0 2 "check_bags" ["thing"] (sp_check_bags K Cs)) (D_raw : DefOk P w K mg base CX0 8 "raw" ["clock", "sparse"] (sp_raw Cs))
    (D_added : DefOk P w K mg base CX0 2 "added" ["clock", "one", "other", "factor"] sp_law_plus) : FnOk P w K mg base CX0 9 f fd ["bags"] (sp_all_together K Cs) := by
  refine F.ok sc_all_together (fun vs H Q E h => ?_) (fun cdv A outer s H vs Q E hr h => ?_)
  · obtain ⟨a, p, ss, n, m, rfl, _⟩ := h
    rfl
  · obtain ⟨a, p, ss, n, m, rfl, hb, hne, hz, hls, hn, hm, hp, k⟩ := h
    obtain ⟨xs, hsq, hps⟩ := hb.ex
    have hlen := hps.length
    have hpos : 0 < ss.length := List.length_pos_iff.mpr hne
    have lots := sumAll_lot hp hls
    have hsz : ∀ i, i ≤ ss.length → i * n ≤ 1000000 := fun i hi => Nat.le_trans (Nat.mul_le_mul (Nat.le_trans hi hz) hn) (by decide)
    have hu := hu_of hr; have hu64 := L2.Room.units hr; refine ⟨_, (pss_cons (ps_expr (pe_callD D_check_bags (hr.mono (by decide)) rfl pass0 (pa_cons (pv 0) pa_nil))) (pss_cons (ps_set (i := 1) sc_all_together.nd rfl (by first | exact Or.inl rfl | exact Or.inr rfl) pe_dnewK) (pss_cons (ps_for PassesOwn.never rfl (pi_seqK (K := K) rfl (pv 0)) (pg_name (i := 2) sc_all_together.nd rfl (by first | exact Or.inl rfl | exact Or.inr rfl)) (pss_one (ps_set (i := 1) sc_all_together.nd rfl (by first | exact Or.inl rfl | exact Or.inr rfl) (pe_callD D_added (hr.mono (by decide)) rfl pass0 (pa_cons (pe_fldK (K := K) rfl (pv 2) rfl) (pa_cons (pv 1) (pa_cons (pe_fldK (K := K) rfl (pv 2) rfl) (pa_cons pe_int pa_nil)))))))) (pss_one (ps_ret (pe_callD D_raw (hr.mono (by decide)) rfl pass0 (pa_cons (pe_fldK (K := K) rfl (pe_ix (r := rIx K) ix_seq (pv 0) pe_int (fun _ _ => rfl)) rfl) (pa_cons (pv 1) pa_nil)))))))), ?_⟩; rw [st_all_together]; (try dsimp only [cxOf]); walk_at "go"
    refine ⟨a, p, ss, rfl, hb, hne, by omega, fun H1 e1 => ?_⟩
    walk_at "go"
    intro d0 hd0
    walk_at "go"
    have e12 : Ex H (upd H1 d0 (.dK [])) := e1.trans (Ex.new hd0)
    have hd2 := upd_same (H := H1) (a := d0) (o := .dK [])
    have hd0n : H d0 = none := e1.free hd0
    generalize upd H1 d0 (.dK []) = H2 at e12 hd2 ⊢
    refine g_iSeq (hsq.elim (fun h => Or.inl (e12.sql h)) (fun h => Or.inr (e12.sqt h))) (fun Q q => ⟨_, rfl, q⟩) fun J G wk hG => ?_
    refine forG wk (fun i σ' H' => ∃ d y, σ' = [some (.ref a), some (.ref d), y] ∧ Ex H2 H' ∧ H d = none ∧ H' d = some (.dK (toK (sumAll p (ss.take i))))) ⟨d0, none, rfl, Ex.refl _, hd0n, hd2⟩ (fun i σ' H' _ ⟨_, _, _, e, _⟩ => hG H' e) ?_ ?_
    · rintro i x σ' H3 H3' hi ⟨d, y, rfl, e3, hdn, hd⟩ ⟨rfl, hx⟩
      rw [List.getElem?_map] at hx
      cases hm' : xs[i]? with
      | none => rw [hm'] at hx; cases hx
      | some b =>
        rw [hm'] at hx
        obtain rfl := (Option.some.inj hx).symm
        obtain ⟨t, hti, hbs⟩ := paired_get hps hm'
        have e13 := e12.trans e3
        have hbs3 := hbs.ex' e13
        have lt := hls t (List.mem_of_getElem? hti)
        have hi' : i < ss.length := (List.getElem?_eq_some_iff.mp hti).1
        have li := lots i (Nat.le_of_lt hi')
        have hsi := hsz i (Nat.le_of_lt hi')
        walk_at "go"
        refine g_clock T hbs3 ?_
        walk_at "go"
        refine g_sparse T hbs3 fun db hdb => ?_
        walk_at "go"
        refine ⟨p, d, db, _, t, _, rfl, .inl hd, .inl hdb, lt.g.nd, ?_, hp, by decide, fun d3 H4 e4 hd3 hd3' => ?_⟩
        · have h1 := li.n
          have h2 := lt.n
          omega
        walk_at "go"
        refine ⟨d3, _, rfl, e3.trans e4, (e13).free hd3, ?_⟩
        rw [hd3']
        show some (HO.dK (toK (plusS p _ t 1))) = _
        unfold sumAll
        rw [foldl_take _ _ _ _ _ hti]
    · rintro σ' H3 ⟨d, y, rfl, e3, hdn, hd⟩
      rw [List.length_map, hlen, List.take_length] at hd
      have e13 := e12.trans e3
      walk_at "go"
      obtain ⟨b0, hb0⟩ : ∃ b0, xs[0]? = some b0 := ⟨xs[0], List.getElem?_eq_getElem (by omega)⟩
      obtain ⟨s0, _, hbs0⟩ := paired_get hps hb0
      refine g_ixq (v := .ref b0) (hsq.elim (fun h => Or.inl (e13.sql h)) (fun h => Or.inr (e13.sqt h))) (atI_get (by decide) (by show (xs.map V.ref)[0]? = _; rw [List.getElem?_map, hb0]; rfl)) ?_
      walk_at "go"
      refine g_clock T (hbs0.ex' e13) ?_
      walk_at "go"
      have lz := lots ss.length (Nat.le_refl _)
      rw [List.take_length] at lz
      have hsi := hsz ss.length (Nat.le_refl _)
      refine ⟨d, p, _, rfl, hd, Nat.le_trans lz.n (by omega), fun u hu => Nat.le_trans (lz.l u hu).1 hm, lz.g.nd, fun x H4 e4 hx hb4 => ?_⟩
      exact k x H4 (e13.trans e4) (e13.free hx) hb4
theorem paired_vref {β : Type} {F : Addr → β → Prop} {xs : List Addr} {ss : List β} (h : Paired F xs ss) : Paired (fun v s => ∃ b, v = V.ref b ∧ F b s) (xs.map V.ref) ss := by
  induction h with
  | nil => exact .nil
  | cons h1 _ ih => exact .cons ⟨_, rfl, h1⟩ ih
/-- what bag_key tells -/
def sp_bag_key (Cs : Addr → Prop) : Sp := fun vs H Q _ => ∃ (a : Addr) (p : Int) (s : Bg), vs = [.ref a] ∧ BagAt Cs H a p s ∧ s.length ≤ 10000000 ∧ (∀ u ∈ keys s, u.length ≤ 10000000) ∧
  ∀ q t H', Ex H H' → WordsAt H' t (wordsS s) → H' q = some (.tup [.int (sizeS s), .ref t]) → Q (.ref q) H'
theorem ok_bag_key {f : Addr} {fd : FuncData} (F : Fun K "bag_key" "bag_key" s_bag_key f fd) (T : Txt K mg C_Bag Cs) (D_size : DefOk P w K mg base CX0 1 "size" ["sparse"] sp_size) : FnOk P w K mg base CX0 2 f fd ["bag"] (sp_bag_key Cs) := by
  refine F.ok sc_bag_key (fun vs H Q E h => ?_) (fun cdv A outer s H vs Q E hr h => ?_)
  · obtain ⟨a, p, s, rfl, _⟩ := h
    rfl
  · obtain ⟨a, p, s, rfl, hb, hl, hw, k⟩ := h
    have hu := hu_of hr; have hu64 := L2.Room.units hr; refine ⟨_, (pss_one (ps_ret (pe_tup (pa_cons (pe_callD D_size (hr.mono (by decide)) rfl pass0 (pa_cons (pe_fldK (K := K) rfl (pv 0) rfl) pa_nil)) (pa_cons (pe_fldK (K := K) rfl (pv 0) rfl) pa_nil))))), ?_⟩; rw [st_bag_key]; (try dsimp only [cxOf]); walk_at "go"
    refine g_sparse T hb fun d hd => ?_
    walk_at "go"
    refine ⟨d, s, rfl, .inl hd, hl, hw, fun H1 e1 => ?_⟩
    walk_at "go"
    refine g_words T (hb.ex' e1) fun t ht => ?_
    walk_at "go"
    exact ⟨Nat.le_of_ble_eq_true rfl, fun q hq => k q t _ (e1.trans (Ex.new hq)) (ht.ex' (Ex.new hq)) upd_same⟩
def sp_in_order (K : PySem.W.Frag) (Cs : Addr → Prop) : Sp := fun vs H Q _ => ∃ (a : Addr) (p : Int) (ss : List Bg), vs = [.ref a] ∧ BagsAt K Cs H a p ss ∧ ss ≠ [] ∧ ss.length ≤ 1000 ∧ (∀ t ∈ ss, t.length ≤ 10000000 ∧ ∀ u ∈ keys t, u.length ≤ 10000000) ∧
  ∀ q (rs : List Addr) H', Ex H H' → H q = none → H' q = some (.lst (rs.map V.ref)) → Paired (fun x s => BagAt Cs H' x p s) rs (dedB (sortB ss)) → Q (.ref q) H'
theorem ok_in_order {f : Addr} {fd : FuncData} (F : Fun K "in_order" "in_order" s_in_order f fd) (T : Txt K mg C_Bag Cs) (D_check_bags : DefOk P w K mg base CX0 2 "check_bags" ["thing"] (sp_check_bags K Cs)) (D_bag_key : DefOk P w K mg base CX0 2 "bag_key" ["bag"] (sp_bag_key Cs)) (D_eq : EqOk P w K mg base C_Bag Cs) : FnOk P w K mg base CX0 5 f fd ["bags"] (sp_in_order K Cs) := by
  refine F.ok sc_in_order (fun vs H Q E h => ?_) (fun cdv A outer s H vs Q E hr h => ?_)
  · obtain ⟨a, p, ss, rfl, _⟩ := h
    rfl
  · obtain ⟨a, p, ss, rfl, hb, hne, hz, hls, k⟩ := h
    obtain ⟨f_bag_key, fd_bag_key, M_bag_key, k_bag_key, B_bag_key, F_bag_key⟩ := D_bag_key.ex
    obtain ⟨xs, hsq, hps⟩ := hb.ex
    have hlen := hps.length
    have hu := hu_of hr; have hu64 := L2.Room.units hr; refine ⟨_, (pss_cons (ps_expr (pe_callD D_check_bags (hr.mono (by decide)) rfl pass0 (pa_cons (pv 0) pa_nil))) (pss_cons (ps_set (i := 1) sc_in_order.nd rfl (by first | exact Or.inl rfl | exact Or.inr rfl) (pe_lst pa_nil)) (pss_cons (ps_for PassesOwn.never rfl (pi_list (pe_callBK (r := rSortK K f_bag_key (sp_bag_key Cs)) (cr_sortK F_bag_key B_bag_key (hr.mono (by decide))) (by rfl) T.b_sorted (by decide +kernel) (pa_cons (pe_callTy call_list_of (by rfl) T.b_list (by decide +kernel) (pa_cons (pv 0) pa_nil)) pa_nil) (pk_cons (pe_glob (v := .ref f_bag_key) rfl M_bag_key rfl) pk_nil))) (pg_name (i := 2) sc_in_order.nd rfl (by first | exact Or.inl rfl | exact Or.inr rfl)) (pss_one (ps_if (PW.pt (pw_or (pt_cmpR op_eq (pe_callB call_len_seq (by rfl) T.b_len (by decide +kernel) (pa_cons (pv 1) pa_nil)) pe_int (nomark _)) (pw_or1 (pt_cmpR (r := rBagEq K (sp_bag_eq K C_Bag Cs) Cs true) (op_neBagD D_eq (hr.mono (by decide))) (pe_ix (r := rIxL K) ix_list (pv 1) (pe_un un_neg pe_int) (fun _ _ => rfl)) (pv 2) (nomark _))))) (pss_one (ps_expr (pe_bmK (K := K) rfl (pe_bm (r := rAppend) PySem.F.plainAttrs_list PySem.F.slot_list_append PySem.F.type_list_append mt_append (pv 1) (pa_cons (pv 2) pa_nil))))) pss_nil))) (pss_one (ps_ret (pv 1)))))), ?_⟩; rw [st_in_order]; (try dsimp only [cxOf]); walk_at "go"
    refine ⟨a, p, ss, rfl, hb, hne, by omega, fun H1 e1 => ?_⟩
    walk_at "go"
    refine ⟨Nat.le_of_ble_eq_true rfl, fun fq hfq => ?_⟩
    walk_at "go"
    have e2 : Ex H1 (upd H1 fq (.lst [])) := Ex.new hfq
    have e12 := e1.trans e2
    have hfq2 : upd H1 fq (.lst []) fq = some (.lst []) := upd_same
    generalize upd H1 fq (.lst []) = H2 at e2 e12 hfq2 ⊢
    refine ⟨a, _, rfl, hsq.elim (fun h => Or.inl (e12.sql h)) (fun h => Or.inr (e12.sqt h)), fun l hl => ?_⟩
    walk_at "go"
    have e3 : Ex H2 (upd H2 l (.lst (xs.map V.ref))) := Ex.new hl
    have hl3 : upd H2 l (.lst (xs.map V.ref)) l = some (.lst (xs.map V.ref)) := upd_same
    generalize upd H2 l (.lst (xs.map V.ref)) = H3 at e3 hl3 ⊢
    have e13 := e12.trans e3
    have hps3 : Paired (fun x s => BagAt Cs H3 x p s) xs ss := Paired.mapP hps fun _ _ z => z.ex' e13
    refine ⟨l, xs.map V.ref, ss.map bagD, fun i v H => ∃ q t s, ss[i]? = some s ∧ v = .ref q ∧ H q = some (.tup [.int (sizeS s), .ref t]) ∧ WordsAt H t (wordsS s), rfl, rfl, SqL.of hl3, by rw [List.length_map, List.length_map, hlen], PySem.W.AllAlike.of bagD_alike, PySem.W.Sortable.tuples fun b => ⟨_, _, rfl⟩, fun d hd => ?_, fun i v H H' e ⟨q, t, s, h1, h2, h3, h4⟩ => ⟨q, t, s, h1, h2, e _ _ (fun _ z => nomatch z) h3, h4.exl e⟩, fun i d v H hd ⟨q, t, s, h1, h2, h3, h4⟩ => ?_, fun i x H4 hx e4 => ?_, fun q H4 hq e4 hq4 => ?_⟩
    · obtain ⟨s, _, rfl⟩ := List.mem_map.mp hd
      exact bagD_depth s
    · rw [List.getElem?_map, h1] at hd
      obtain rfl := (Option.some.inj hd).symm
      subst h2
      exact .tup (SqT.of h3) (.cons (.int _) (.cons h4.dp .nil))
    · rw [List.getElem?_map] at hx
      cases hm : xs[i]? with
      | none => rw [hm] at hx; cases hx
      | some b =>
        rw [hm] at hx
        obtain rfl := (Option.some.inj hx).symm
        obtain ⟨s, hsi, hbs⟩ := paired_get hps3 hm
        obtain ⟨h1, h2⟩ := hls s (List.mem_of_getElem? hsi)
        exact ⟨b, p, s, rfl, hbs.ex' e4, h1, h2, fun q t H5 e5 ht hq => ⟨e5, q, t, s, hsi, rfl, hq, ht⟩⟩
    have hpv : Paired (fun v s => ∃ b, v = V.ref b ∧ BagAt Cs H4 b p s) (xs.map V.ref) ss := paired_vref (Paired.mapP hps3 fun _ _ z => z.ex' e4)
    obtain ⟨bs, hbs, hpb⟩ := paired_refs (byKey_paired hpv)
    rw [hbs] at hq4
    have hf4 := e4 _ _ (e3 _ _ hfq2)
    have hqf : q ≠ fq := fun z => by
      have := e3 _ _ hfq2
      rw [← z, hq] at this
      cases this
    have hbl : bs.length = ss.length := by
      have h1 := hpb.length
      unfold sortB at h1
      rw [(List.mergeSort_perm _ _).length_eq] at h1
      exact h1
    walk_at "go"
    refine ⟨⟨_, SqL.of hq4⟩, ?_⟩
    refine forG walk_list (fun i σ' H' => ∃ y rs, σ' = [some (.ref a), some (.ref fq), y] ∧ ExB fq H4 H' ∧ H' fq = some (.lst (rs.map V.ref)) ∧ rs.length ≤ i ∧ Paired (fun x s => BagAt Cs H' x p s) rs (dedB ((sortB ss).take i))) ⟨none, [], rfl, ExB.refl _ _, hf4, Nat.le_refl _, .nil⟩ (fun i σ' H' _ ⟨_, _, _, e, _⟩ => SqL.of (e _ _ hqf hq4)) ?_ ?_
    · rintro i x σ' H5 H5' hi ⟨y, rs, rfl, e5, hf5, hrl, hp5⟩ ⟨rfl, hx⟩
      rw [List.getElem?_map] at hx
      cases hm : bs[i]? with
      | none => rw [hm] at hx; cases hx
      | some b =>
        rw [hm] at hx
        obtain rfl := (Option.some.inj hx).symm
        obtain ⟨s, hsi, hb4⟩ := paired_get hpb hm
        have hb5 := hb4.exh e5 hf4
        have hi2 : i < ss.length := by
          have := (List.getElem?_eq_some_iff.mp hm).1
          omega
        have hst : dedB ((sortB ss).take (i + 1)) = if (dedB ((sortB ss).take i)).getLast?.map wordsS = some (wordsS s) then dedB ((sortB ss).take i) else dedB ((sortB ss).take i) ++ [s] := foldl_take _ _ _ _ _ hsi
        walk_at "go"
        refine ⟨fq, _, rfl, .inl (SqL.of hf5), ?_⟩
        walk_at "go"
        have eu : ExB fq H4 (upd H5' fq (.lst ((rs ++ [b]).map V.ref))) := e5.upd
        have pu : Paired (fun x s => BagAt Cs (upd H5' fq (.lst ((rs ++ [b]).map V.ref))) x p s) (rs ++ [b]) (dedB ((sortB ss).take i) ++ [s]) :=
          Paired.snoc (Paired.mapP hp5 fun _ _ z => z.exh ((ExB.refl fq H5').upd) hf5) (hb5.exh ((ExB.refl fq H5').upd) hf5)
        have hsz : (rs.map V.ref).length < sizeLine := by rw [List.length_map]; exact Nat.lt_of_le_of_lt (by omega : rs.length ≤ 1000) (by decide)
        have hlr := hp5.length
        by_cases h0 : rs = []
        · subst h0
          refine g_ift (decide_eq_true rfl) ?_
          walk_at "go"
          refine ⟨.inl ⟨rfl, _, SqL.of hf5⟩, ?_⟩
          walk_at "go"
          refine ⟨fq, _, _, rfl, rfl, hf5, hsz, ?_⟩
          walk_at "go"
          refine ⟨_, [b], rfl, eu, upd_same, by simp, ?_⟩
          rw [hst, if_neg]
          · exact pu
          · have : dedB ((sortB ss).take i) = [] := List.length_eq_zero_iff.mp (by rw [← hlr]; rfl)
            rw [this]
            exact fun z => nomatch z
        · refine g_iff (decide_eq_false (fun e => h0 (List.length_eq_zero_iff.mp (by have := V.int.inj e; rw [List.length_map] at this; omega)))) ?_
          walk_at "go"
          obtain ⟨ri, b', rfl⟩ : ∃ ri b', rs = ri ++ [b'] := ⟨rs.dropLast, rs.getLast h0, (List.dropLast_concat_getLast h0).symm⟩
          obtain ⟨s', hs', hb'⟩ := paired_get hp5 (i := ri.length) (x := b') (by rw [List.getElem?_append_right (Nat.le_refl _), Nat.sub_self]; rfl)
          have hgl : (dedB ((sortB ss).take i)).getLast? = some s' := by
            rw [List.getLast?_eq_getElem?, ← hlr, List.length_append, List.length_singleton, Nat.add_sub_cancel]
            exact hs'
          refine g_ixl (SqL.of hf5) (v := .ref b') (by rw [List.map_append]; exact atI_last) ?_
          walk_at "go"
          refine g_beq T hb' hb5 ?_
          rw [if_pos rfl, decide_eq_true rfl, Bool.true_and]
          refine ⟨_, rfl, ?_⟩
          by_cases hw : wordsS s' = wordsS s
          · rw [decide_eq_true hw]
            walk_at "go"
            refine ⟨_, _, rfl, e5, hf5, by omega, ?_⟩
            rw [hst, hgl]
            refine (if_pos (show Option.map wordsS (some s') = some (wordsS s) from congrArg some hw)).symm ▸ hp5
          · rw [decide_eq_false hw]
            walk_at "go"
            refine ⟨.inl ⟨rfl, _, SqL.of hf5⟩, ?_⟩
            walk_at "go"
            refine ⟨fq, _, _, rfl, rfl, hf5, hsz, ?_⟩
            walk_at "go"
            rw [show List.map V.ref (ri ++ [b']) ++ [V.ref b] = List.map V.ref (ri ++ [b'] ++ [b]) by rw [List.map_append (l₁ := ri ++ [b'])]; rfl]
            refine ⟨_, ri ++ [b'] ++ [b], rfl, eu, upd_same, by rw [List.length_append, List.length_singleton]; omega, ?_⟩
            · rw [hst, hgl]
              refine (if_neg (show ¬ Option.map wordsS (some s') = some (wordsS s) from fun z => hw (Option.some.inj z))).symm ▸ pu
    · rintro σ' H5 ⟨y, rs, rfl, e5, hf5, hrl, hp5⟩
      walk_at "go"
      rw [List.length_map, hbl, List.take_of_length_le (by unfold sortB; rw [(List.mergeSort_perm _ _).length_eq]; exact Nat.le_refl _)] at hp5
      refine k fq rs H5 (fun a o h => ?_) (e1.free hfq) hf5 hp5
      exact e5 _ _ (ne_of_none (e1 _ _ h) hfq) (e4 _ _ (e13 _ _ h))

end
end Fp

namespace Fp
open PySem L2
section
variable {P : Program} {w : World} {K : PySem.W.Frag} {mg : Str → Option Value} {base : Heap} {C_Bag : Addr} {Cs : Addr → Prop}
local macro_rules | `(tactic| walk_at "hp") => `(tactic| first | assumption | rfl)
local macro_rules | `(tactic| walk_at "cond") => `(tactic| first | assumption | decide | omega | (unfold CMul; omega) | (refine ⟨?_, ?_⟩ <;> omega) | (unfold CDiv; omega) | (unfold CPow; omega))
local macro_rules | `(tactic| walk_at "g1") => `(tactic| first
  | with_reducible first
    | refine g_seq ?_ | refine g_asg ?_ | refine g_name ?_ | refine g_ret ?_ | refine g_retN ?_ | refine g_drop ?_ | refine g_ifs ?_
    | refine g_c ?_ | refine g_op ?_ | refine g_un ?_ | refine g_I0 ?_ | refine g_U ?_
    | refine g_test ?_ | refine g_tB ?_ | refine g_bl ?_ | refine g_and ?_ | refine g_or ?_ | refine g_not ?_
    | refine g_andV ?_ | refine g_orV ?_ | refine g_notV ?_ | refine g_if ?_ | refine g_nil ?_ | refine g_cons ?_ | refine g_cb ?_ | refine g_call ?_
    | refine g_lst ?_ | refine g_tup ?_ | refine g_itT ?_ | refine g_itF ?_ | refine g_itNT ?_ | refine g_itNF ?_ | refine g_lc ?_ | refine g_iStr ?_ | refine g_yes ?_ | refine g_exs ?_
    | refine g_chain ?_ | refine g_dget ?_ | refine g_dput ?_ | refine g_dget2 ?_ | refine g_dpop2 ?_ | refine g_fld ?_ | refine g_sfld ?_ | refine g_make ?_ | refine g_meth ?_
    | refine g_bm ?_ | refine g_kw ?_ | refine g_callS ?_ | refine g_revL ?_ | refine g_m1 ?_ | refine g_gsub ?_ | refine g_for ?_ | refine g_iList ?_ | refine g_iTup ?_ | refine g_iRng1 ?_ | refine g_iRng2 ?_ | refine g_sl ?_ | refine g_part ?_ | refine g_noPart ?_
    | refine g_exi ?_ | refine g_exr ?_ | refine g_dnew ?_ | refine g_disp ?_ | refine g_prs0 ?_ | refine g_prs ?_ | refine g_nxt ?_
  | ((with_reducible refine g_var (v := ?vv) ?gv ?_); (case gv => exact rfl))
  | ((with_reducible refine g_I ?gc ?_); (case gc => walk_at "cond"))
  | ((with_reducible refine g_eq ?ge ?_); (case ge => exact rfl))
  | ((with_reducible refine g_ne ?ge ?_); (case ge => exact rfl))
  | (refine g_ixl (SqL.of (by first | assumption | exact upd_same)) rfl ?_)
  | (refine g_setl (by first | assumption | exact upd_same) rfl ?_)
  | ((with_reducible show (∃ i, [V.int _] = [V.int i] ∧ _) ∨ _); refine Or.inl ⟨_, rfl, ?_⟩)
  | ((with_reducible show ∃ i, [V.int _] = [V.int i] ∧ _); refine ⟨_, rfl, ?_⟩)
  | dsimp only)
local macro_rules | `(tactic| walk_at "go") => `(tactic| repeat (walk_at "g1"))

local macro_rules | `(tactic| walk_at "ex") => `(tactic| first
  | assumption
  | exact Ex.refl _
  | (refine Ex.trans ?_ (by assumption); walk_at "ex")
  | (refine BagAt.ex' (by assumption) ?_; walk_at "ex")
  | (refine HandAt.ex' (by assumption) ?_; walk_at "ex")
  | (refine DcsAt.ex' (by assumption) ?_; walk_at "ex")
  | (refine BgsAt.ex' (by assumption) ?_; walk_at "ex")
  | (refine DcsAt.hand (by assumption) (by assumption) ?_; walk_at "ex")
  | (refine BgsAt.hand (by assumption) (by assumption) ?_; walk_at "ex")
  | (refine WordsAt.ex' (by assumption) ?_; walk_at "ex")
  | (refine Ex.at' (by assumption) ?_; walk_at "ex")
  | (refine SqL.of ?_; walk_at "ex")
  | (refine SqT.of ?_; walk_at "ex")
  | (refine Or.inl ?_; walk_at "ex")
  | (refine BagAt.hand (by assumption) (by assumption) ?_; walk_at "ex")
  | (refine hand_dkE (by assumption) (by assumption) ?_; walk_at "ex")
  | (refine hand_lstE (by assumption) (by assumption) (by simp) ?_; walk_at "ex"))
local macro_rules | `(tactic| walk_at "go2") => `(tactic| (walk_at "go"; (repeat (refine g_ixl (SqL.of (by walk_at "ex")) rfl ?_; walk_at "go"))))

/-! ### unlike clocks, keys -/
def sp_law_unlike (Cs : Addr → Prop) : Sp := fun vs H Q _ => ∃ (j : Int) (a b : Addr) (p q : Int) (s t : Bg), vs = [.int j, .ref a, .ref b] ∧ (j = 0 ∨ j = 1) ∧ BagAt Cs H a p s ∧ BagAt Cs H b q t ∧ Lot p s 1000 1000 ∧ Lot q t 1000 1000 ∧ 0 < p ∧ ∀ H', Ex H H' → Q (.bl (decide (p ≠ q))) H'
theorem ok_law_unlike {C_UnlikeClocks : Addr} {f : Addr} {fd : FuncData} (F : Fun K "_law_unlike" "_law_unlike" s_law_unlike f fd) (T : Txt K mg C_Bag Cs) (D_togetherX : DefOk P w K mg base (L2.CX P w) 9 "together" ["one", "other"] (fun vs H Q E => sp_sum 1 Cs vs H Q E ∨ sp_check_clocksX C_UnlikeClocks Cs vs H Q E))
    (D_lessX : DefOk P w K mg base (L2.CX P w) 9 "less" ["one", "other"] (fun vs H Q E => sp_sum (-1) Cs vs H Q E ∨ sp_check_clocksX C_UnlikeClocks Cs vs H Q E)) (E_UnlikeClocks : ErrC K mg "UnlikeClocks" C_UnlikeClocks) (hex : PySem.W.exmOne K (.ref C_UnlikeClocks) (.ref C_UnlikeClocks) = some true) :
    FnOk P w K mg base CX0 10 f fd ["_law_kind", "_law_one", "_law_other"] (sp_law_unlike Cs) := by
  refine F.ok sc_law_unlike (fun vs H Q E h => ?_) (fun cdv A outer s H vs Q E hr h => ?_)
  · obtain ⟨j, a, b, p, q, s, t, rfl, _⟩ := h
    rfl
  · obtain ⟨j, a, b, p, q, s, t, rfl, hj, ha, hb, ls, lt, hp, k⟩ := h
    have hu := hu_of hr; have hu64 := L2.Room.units hr; refine ⟨_, (pss_cons (ps_set (i := 3) sc_law_unlike.nd rfl (by first | exact Or.inl rfl | exact Or.inr rfl) pe_bl) (pss_cons (ps_try_only (c := .ref C_UnlikeClocks) rfl rfl ⟨rfl, by decide, .inl E_UnlikeClocks.g⟩ takes0 (fun W pn xe tk _ => (pss_one (ps_if (pt_cmpR op_eq (pv 0) pe_int (nomark _)) (pss_one (ps_expr (pe_callDX D_togetherX (hr.mono (by decide)) rfl tk (pa_cons (pv 1) (pa_cons (pv 2) pa_nil))))) (pss_one (ps_expr (pe_callDX D_lessX (hr.mono (by decide)) rfl tk (pa_cons (pv 1) (pa_cons (pv 2) pa_nil)))))))) (fun a oe cls d pn _ _ => (pss_one (ps_set (i := 3) sc_law_unlike.nd rfl (by first | exact Or.inl rfl | exact Or.inr rfl) pe_bl)))) (pss_one (ps_ret (pv 3))))), ?_⟩; rw [st_law_unlike]; (try dsimp only [cxOf]); walk_at "go"
    refine g_ite (fun _ => ?_) fun _ => ?_
    all_goals walk_at "go"
    all_goals by_cases hpq : p = q
    · subst hpq
      refine .inl ⟨a, b, p, s, t, _, _, _, _, rfl, ha, hb, ls, lt, by decide, by decide, by decide, hp, fun x H1 e1 _ _ => ?_⟩
      walk_at "go"
      have := k H1 e1
      rw [decide_eq_false (fun z => z rfl)] at this
      exact this
    · refine .inr ⟨a, b, p, q, s, t, rfl, ha, hb, hpq, ⟨true, hex, fun _ ax hax => ?_, fun z => nomatch z⟩⟩
      walk_at "go"
      have e1 := Ex.refl H
      have := k _ (Ex.refl H)
      rw [decide_eq_true hpq] at this
      exact this
    · subst hpq
      refine .inl ⟨a, b, p, s, t, _, _, _, _, rfl, ha, hb, ls, lt, by decide, by decide, by decide, hp, fun x H1 e1 _ _ => ?_⟩
      walk_at "go"
      have := k H1 e1
      rw [decide_eq_false (fun z => z rfl)] at this
      exact this
    · refine .inr ⟨a, b, p, q, s, t, rfl, ha, hb, hpq, ⟨true, hex, fun _ ax hax => ?_, fun z => nomatch z⟩⟩
      walk_at "go"
      have := k _ (Ex.refl H)
      rw [decide_eq_true hpq] at this
      exact this
def sp_law_key : Sp := fun vs H Q _ => ∃ (d : Addr) (s : Bg), vs = [.ref d] ∧ Rd H d (.dK (toK s)) ∧ s.length ≤ 1000000 ∧ (∀ u ∈ keys s, u.length ≤ 1000000) ∧ (keys s).Nodup ∧
  ∀ q t H', Ex H H' → WordsAt H' t (wordsS s) → H' q = some (.tup [.int (sizeS s), .ref t]) → Q (.ref q) H'
theorem ok_law_key {f : Addr} {fd : FuncData} (F : Fun K "_law_key" "_law_key" s_law_key f fd) (T : Txt K mg C_Bag Cs) (D_law_words : DefOk P w K mg base CX0 2 "_law_words" ["_law_bag"] sp_law_words) : FnOk P w K mg base CX0 3 f fd ["_law_words_here"] sp_law_key := by
  refine F.ok sc_law_key (fun vs H Q E h => ?_) (fun cdv A outer s H vs Q E hr h => ?_)
  · obtain ⟨d, s, rfl, _⟩ := h
    rfl
  · obtain ⟨d, s, rfl, hd, hl, hw, hn, k⟩ := h
    have hu := hu_of hr; have hu64 := L2.Room.units hr; refine ⟨_, (pss_one (ps_ret (pe_tup (pa_cons (pe_callB (r := rMax K) (cr_max rfl) (by rfl) T.b_max (by decide +kernel) (pa_cons (pe_op op_cat (pe_lockR (pe_lc (own := [("_law_word_here", 1)]) (g := (gName 1)) (tt := tYes) rfl sc_law_key.nd (pi_keys (pv 0)) (blkOk_by (N := N_law_key) (sc := defScope s_law_key) (by decide +kernel)) (fun _ _ _ _ _ => (pg_name (i := 1) sc_law_key.nd rfl (by first | exact Or.inl rfl | exact Or.inr rfl))) (fun _ _ _ _ _ => pts_nil) (fun _ _ _ _ _ => (pe_callB call_len_str (by rfl) T.b_len (by decide +kernel) (pa_cons (pv 1) pa_nil))))) (pe_lst (pa_cons (pe_un un_neg pe_int) pa_nil))) pa_nil)) (pa_cons (pe_callD D_law_words (hr.mono (by decide)) rfl pass0 (pa_cons (pv 0) pa_nil)) pa_nil))))), ?_⟩; rw [st_law_key]; (try dsimp only [cxOf]); walk_at "go"
    refine lcd_rel hd (line5 (by omega)) (fun H' Q' _ q => ⟨_, rfl, q⟩) (fun e y H => y = V.int (e.1.length : Nat)) (fun e y H H' t h1 => h1) (fun _ => rfl) ?_ ?_
    · intro i z n H1 Kc hi le hk
      walk_at "go"
      exact ⟨z, rfl, line5 (by have := hw z (mem_keys.mpr ⟨n, mem_fr hi⟩); omega), hk _ _ (Ex.refl _) rfl⟩
    · intro D H1 ys hD e hl1 hp
      have hys := paired_map (G := fun e : Str × Int => V.int (e.1.length : Nat)) hp
      subst hys
      walk_at "go"
      refine ⟨Nat.le_of_ble_eq_true rfl, fun q hq => ?_⟩
      have hqD : D ≠ q := ne_of_none hl1 hq
      refine ⟨D, q, _, _, rfl, rfl, by rw [upd_ne hqD]; exact hl1, upd_same, ?_, fun r hr => ?_⟩
      · rw [List.length_map, List.length_singleton]
        exact Nat.le_trans (Nat.succ_le_succ hl) (by decide)
      · walk_at "go"
        refine ⟨r, (s.map fun e => (e.1.length : Int)) ++ [-1], rfl, SqL.of ?_, by rw [List.length_append, List.length_singleton]; omega, fun m h1 h2 => ?_⟩
        · rw [upd_same, List.map_append, List.map_map]
          rfl
        · rw [size_max h1 h2]
          have e3 := fun o => (e.trans (Ex.new hq)).trans (Ex.new (o := o) hr)
          walk_at "go"
          refine ⟨d, s, rfl, (e3 _).rd hd, by omega, fun u hu => by have := hw u hu; omega, hn, fun t H3 e4 _ ht => ?_⟩
          walk_at "go"
          exact ⟨Nat.le_of_ble_eq_true rfl, fun x hx => k x t _ (((e3 _).trans e4).trans (Ex.new hx)) (ht.ex' (Ex.new hx)) upd_same⟩

end
end Fp

namespace Fp
open PySem L2
section
variable {P : Program} {w : World} {K : PySem.W.Frag} {mg : Str → Option Value} {base : Heap} {C_Bag : Addr} {Cs : Addr → Prop}
local macro_rules | `(tactic| walk_at "hp") => `(tactic| first | assumption | rfl)
local macro_rules | `(tactic| walk_at "cond") => `(tactic| first | assumption | decide | omega | (unfold CMul; omega) | (refine ⟨?_, ?_⟩ <;> omega) | (unfold CDiv; omega) | (unfold CPow; omega))
local macro_rules | `(tactic| walk_at "g1") => `(tactic| first
  | with_reducible first
    | refine g_seq ?_ | refine g_asg ?_ | refine g_name ?_ | refine g_ret ?_ | refine g_retN ?_ | refine g_drop ?_ | refine g_ifs ?_
    | refine g_c ?_ | refine g_op ?_ | refine g_un ?_ | refine g_I0 ?_ | refine g_U ?_
    | refine g_test ?_ | refine g_tB ?_ | refine g_bl ?_ | refine g_and ?_ | refine g_or ?_ | refine g_not ?_
    | refine g_andV ?_ | refine g_orV ?_ | refine g_notV ?_ | refine g_if ?_ | refine g_nil ?_ | refine g_cons ?_ | refine g_cb ?_ | refine g_call ?_
    | refine g_lst ?_ | refine g_tup ?_ | refine g_itT ?_ | refine g_itF ?_ | refine g_itNT ?_ | refine g_itNF ?_ | refine g_lc ?_ | refine g_iStr ?_ | refine g_yes ?_ | refine g_exs ?_
    | refine g_chain ?_ | refine g_dget ?_ | refine g_dput ?_ | refine g_dget2 ?_ | refine g_dpop2 ?_ | refine g_fld ?_ | refine g_sfld ?_ | refine g_make ?_ | refine g_meth ?_
    | refine g_bm ?_ | refine g_kw ?_ | refine g_callS ?_ | refine g_revL ?_ | refine g_m1 ?_ | refine g_gsub ?_ | refine g_for ?_ | refine g_iList ?_ | refine g_iTup ?_ | refine g_iRng1 ?_ | refine g_iRng2 ?_ | refine g_sl ?_ | refine g_part ?_ | refine g_noPart ?_
    | refine g_exi ?_ | refine g_exr ?_ | refine g_dnew ?_ | refine g_disp ?_ | refine g_prs0 ?_ | refine g_prs ?_ | refine g_nxt ?_
  | ((with_reducible refine g_var (v := ?vv) ?gv ?_); (case gv => exact rfl))
  | ((with_reducible refine g_I ?gc ?_); (case gc => walk_at "cond"))
  | ((with_reducible refine g_eq ?ge ?_); (case ge => exact rfl))
  | ((with_reducible refine g_ne ?ge ?_); (case ge => exact rfl))
  | (refine g_ixl (SqL.of (by first | assumption | exact upd_same)) rfl ?_)
  | (refine g_setl (by first | assumption | exact upd_same) rfl ?_)
  | ((with_reducible show (∃ i, [V.int _] = [V.int i] ∧ _) ∨ _); refine Or.inl ⟨_, rfl, ?_⟩)
  | ((with_reducible show ∃ i, [V.int _] = [V.int i] ∧ _); refine ⟨_, rfl, ?_⟩)
  | dsimp only)
local macro_rules | `(tactic| walk_at "go") => `(tactic| repeat (walk_at "g1"))

local macro_rules | `(tactic| walk_at "ex") => `(tactic| first
  | assumption
  | exact Ex.refl _
  | (refine Ex.trans ?_ (by assumption); walk_at "ex")
  | (refine BagAt.ex' (by assumption) ?_; walk_at "ex")
  | (refine HandAt.ex' (by assumption) ?_; walk_at "ex")
  | (refine DcsAt.ex' (by assumption) ?_; walk_at "ex")
  | (refine BgsAt.ex' (by assumption) ?_; walk_at "ex")
  | (refine DcsAt.hand (by assumption) (by assumption) ?_; walk_at "ex")
  | (refine BgsAt.hand (by assumption) (by assumption) ?_; walk_at "ex")
  | (refine WordsAt.ex' (by assumption) ?_; walk_at "ex")
  | (refine Ex.at' (by assumption) ?_; walk_at "ex")
  | (refine SqL.of ?_; walk_at "ex")
  | (refine SqT.of ?_; walk_at "ex")
  | (refine Or.inl ?_; walk_at "ex")
  | (refine BagAt.hand (by assumption) (by assumption) ?_; walk_at "ex")
  | (refine hand_dkE (by assumption) (by assumption) ?_; walk_at "ex")
  | (refine hand_lstE (by assumption) (by assumption) (by simp) ?_; walk_at "ex"))
local macro_rules | `(tactic| walk_at "go2") => `(tactic| (walk_at "go"; (repeat (refine g_ixl (SqL.of (by walk_at "ex")) rfl ?_; walk_at "go"))))

/-! ### a def's body in stretches; lists of dicts and of bags -/
theorem pss_imp {X : L2.Cx} {ss : List Stmt} {t t' : TS} (h : PSs X ss t) (w : ∀ D σ H, t' D σ H → t D σ H) : PSs X ss t' := ⟨fun pins s σ H D I q => h.run pins s σ H D I (w D σ H q)⟩
abbrev bodyX (P : Program) (w : World) (K : PySem.W.Frag) (mg : Str → Option Value) (base : Heap) (N : List Str) (qual : Str) (st : Stmt) (f : Addr) (cdv : Value) (A : Around) (outer : List Env) (s0 : Shared) (H0 : Hp) (E : XK) : L2.Cx := (cxOf CX0 P w K mg base N qual (defScope st) f cdv A outer s0 H0 E).nox
abbrev bodyA (qual : Str) (st : Stmt) (f : Addr) (cdv : Value) (A : Around) (s0 : Shared) : Around := A.deeper (PyProof.Rows.envOfC qual (defScope st) s0.heap.objs.size f cdv)
theorem refs_nohand {ds : List Addr} {c : Addr} {i b m n : Int} : ds.map V.ref ≠ [.ref c, .int i, .int b, .int m, .int n] := fun e => by
  match ds, e with
  | [], e => exact nomatch e
  | [_], e => exact nomatch e
  | _ :: _ :: _, e =>
    rw [List.map_cons, List.map_cons] at e
    have := (List.cons.inj (List.cons.inj e).2).1
    exact nomatch this
structure DcsAt (H : Hp) (a : Addr) (ss : List Bg) : Prop where
  ex : ∃ ds : List Addr, H a = some (.lst (ds.map V.ref)) ∧ Paired (fun d s => H d = some (.dK (toK s))) ds ss
theorem DcsAt.ex' {H H' : Hp} {a : Addr} {ss : List Bg} (e : Ex H H') (h : DcsAt H a ss) : DcsAt H' a ss := by
  obtain ⟨ds, h1, h2⟩ := h.ex
  exact ⟨ds, e _ _ h1, Paired.mapP h2 fun _ _ z => e _ _ z⟩
theorem DcsAt.hand {H H' : Hp} {h c a : Addr} {ss : List Bg} (e : ExB h H H') (hh : HandAt H h c) (x : DcsAt H a ss) : DcsAt H' a ss := by
  obtain ⟨ds, h1, h2⟩ := x.ex
  exact ⟨ds, hand_lst hh e (fun _ _ _ _ => refs_nohand) h1, Paired.mapP h2 fun _ _ z => hand_dk hh e z⟩
structure BgsAt (Cs : Addr → Prop) (H : Hp) (a : Addr) (p : Int) (ss : List Bg) : Prop where
  ex : ∃ xs : List Addr, H a = some (.lst (xs.map V.ref)) ∧ Paired (fun x s => BagAt Cs H x p s) xs ss
theorem BgsAt.ex' {H H' : Hp} {a : Addr} {p : Int} {ss : List Bg} (e : Ex H H') (h : BgsAt Cs H a p ss) : BgsAt Cs H' a p ss := by
  obtain ⟨ds, h1, h2⟩ := h.ex
  exact ⟨ds, e _ _ h1, Paired.mapP h2 fun _ _ z => z.ex' e⟩
theorem BgsAt.hand {H H' : Hp} {h c a : Addr} {p : Int} {ss : List Bg} (e : ExB h H H') (hh : HandAt H h c) (x : BgsAt Cs H a p ss) : BgsAt Cs H' a p ss := by
  obtain ⟨ds, h1, h2⟩ := x.ex
  exact ⟨ds, hand_lst hh e (fun _ _ _ _ => refs_nohand) h1, Paired.mapP h2 fun _ _ z => z.hand e hh⟩
theorem BgsAt.row {K : PySem.W.Frag} {H : Hp} {a : Addr} {p : Int} {ss : List Bg} (h : BgsAt Cs H a p ss) : BagsAt K Cs H a p ss := by
  obtain ⟨ds, h1, h2⟩ := h.ex
  exact ⟨ds, .inl (SqL.of h1), h2⟩
/-- a step that leaves all but the hand, while the hand goes on -/
theorem exb_ex {h : Addr} {H H' H'' : Hp} (e : ExB h H H') (e2 : Ex H' H'') : ExB h H H'' := fun a o n q => e2 _ _ (e a o n q)
/-- a number of a row of rows: an element of the list, by a number in its bounds -/
theorem atI_paired {α : Type} {F : Addr → α → Prop} {ds : List Addr} {ss : List α} (h : Paired F ds ss) {v : Int} (h0 : 0 ≤ v) (h1 : v < ss.length) : ∃ d s, atI (ds.map V.ref) v = some (.ref d) ∧ s ∈ ss ∧ F d s := by
  have hl := h.length
  have hv : v.toNat < ds.length := by omega
  obtain ⟨s, hs, hf⟩ := paired_get h (List.getElem?_eq_getElem hv)
  exact ⟨_, s, atI_get h0 (by rw [List.getElem?_map, List.getElem?_eq_getElem hv]; rfl), List.mem_of_getElem? hs, hf⟩
theorem paired3 {α β : Type} {F : α → β → Prop} {ys : List α} {a b c : β} (h : Paired F ys [a, b, c]) : ∃ y0 y1 y2, ys = [y0, y1, y2] ∧ F y0 a ∧ F y1 b ∧ F y2 c := by
  cases h with
  | cons h0 r =>
    cases r with
    | cons h1 r =>
      cases r with
      | cons h2 r =>
        cases r
        exact ⟨_, _, _, rfl, h0, h1, h2⟩
theorem paired_3 {α β : Type} {F : α → β → Prop} {ys : List α} {es : List β} (h : Paired F ys es) (hl : ys.length = 3) : ∃ y0 y1 y2 a b c, ys = [y0, y1, y2] ∧ es = [a, b, c] ∧ F y0 a ∧ F y1 b ∧ F y2 c := by
  have h2 := h.length
  match es, h, h2 with
  | [a, b, c], h, _ =>
    obtain ⟨y0, y1, y2, e, h0, h1, h2⟩ := paired3 h
    exact ⟨y0, y1, y2, a, b, c, e, rfl, h0, h1, h2⟩
  | [], _, h2 => rw [hl] at h2; cases h2
  | [_], _, h2 => rw [hl] at h2; cases h2
  | [_, _], _, h2 => rw [hl] at h2; cases h2
  | _ :: _ :: _ :: _ :: _, _, h2 => rw [hl] at h2; simp at h2

/-! ### several laid together, and put in order -/
def RA0 (Cs : Addr → Prop) : TS := fun D σ H => ∃ (h c lr : Addr) (p : Int) (ss : List Bg) (Hs : Hp), σ = [some (.ref h), some (.int p), some (.ref lr), none, none, none, none, none, none, none, none, none, none] ∧ Clk p ∧ HandAt H h c ∧ DcsAt H lr ss ∧ (∀ s ∈ ss, Lot p s 120 7) ∧ 0 < ss.length ∧ ss.length ≤ 100 ∧ ExB h Hs H ∧ (∀ H', ExB h Hs H' → HandAt H' h c → D.rt (.bl true) H')
def RA1 (Cs : Addr → Prop) : TS := fun D σ H => ∃ (h c lr ls : Addr) (x4 : Option V) (p : Int) (ss : List Bg) (Hs : Hp), σ = [some (.ref h), some (.int p), some (.ref lr), some (.ref ls), x4, none, none, none, none, none, none, none, none] ∧ Clk p ∧ HandAt H h c ∧ DcsAt H ls ss ∧ (∀ s ∈ ss, Lot p s 120 7) ∧ 0 < ss.length ∧ ss.length ≤ 100 ∧ ExB h Hs H ∧ (∀ H', ExB h Hs H' → HandAt H' h c → D.rt (.bl true) H')
def RA2 (Cs : Addr → Prop) : TS := fun D σ H => ∃ (h c lr ls lb du : Addr) (x4 x6 : Option V) (p : Int) (ss : List Bg) (Hs : Hp), σ = [some (.ref h), some (.int p), some (.ref lr), some (.ref ls), x4, some (.ref lb), x6, some (.ref du), none, none, none, none, none] ∧ Clk p ∧ HandAt H h c ∧ DcsAt H ls ss ∧ BgsAt Cs H lb p ss ∧ H du = some (.dK (toK (sumAll p ss))) ∧ (∀ s ∈ ss, Lot p s 120 7) ∧ 0 < ss.length ∧ ss.length ≤ 100 ∧ ExB h Hs H ∧ (∀ H', ExB h Hs H' → HandAt H' h c → D.rt (.bl true) H')
def RA3 (Cs : Addr → Prop) : TS := fun D σ H => ∃ (h c lr ls lb du : Addr) (k : Int) (x4 x6 : Option V) (p : Int) (ss : List Bg) (Hs : Hp), σ = [some (.ref h), some (.int p), some (.ref lr), some (.ref ls), x4, some (.ref lb), x6, some (.ref du), some (.int k), none, none, none, none] ∧ (k = 0 ∨ k = 1) ∧ Clk p ∧ HandAt H h c ∧ DcsAt H ls ss ∧ BgsAt Cs H lb p ss ∧ (∀ s ∈ ss, Lot p s 120 7) ∧ 0 < ss.length ∧ ss.length ≤ 100 ∧ ExB h Hs H ∧ (∀ H', ExB h Hs H' → HandAt H' h c → D.rt (.bl true) H')
/-- keys in a list -/
def KeysAt (H : Hp) (a : Addr) (ss : List Bg) : Prop := ∃ ks : List Addr, H a = some (.lst (ks.map V.ref)) ∧ Paired (fun q s => ∃ t, H q = some (.tup [.int (sizeS s), .ref t]) ∧ WordsAt H t (wordsS s)) ks ss
def RA4 (Cs : Addr → Prop) : TS := fun D σ H => ∃ (h c lr ls lb du tl od : Addr) (k : Int) (x4 x6 x11 : Option V) (p : Int) (ss : List Bg) (Hs : Hp) (rs : List Addr), σ = [some (.ref h), some (.int p), some (.ref lr), some (.ref ls), x4, some (.ref lb), x6, some (.ref du), some (.int k), some (.ref tl), some (.ref od), x11, none] ∧ Clk p ∧ HandAt H h c ∧ DcsAt H ls ss ∧ BgsAt Cs H lb p ss ∧ H tl = some (.lst (rs.map V.ref)) ∧ Paired (fun x s => BagAt Cs H x p s) rs (dedB (sortB ss)) ∧ KeysAt H od (dedB (sortB ss)) ∧ (∀ s ∈ ss, Lot p s 120 7) ∧ 0 < ss.length ∧ ss.length ≤ 100 ∧ ExB h Hs H ∧ Hs tl = none ∧ tl ≠ lb ∧ tl ≠ ls ∧ tl ≠ od ∧ tl ≠ c ∧ (∀ H', ExB h Hs H' → HandAt H' h c → D.rt (.bl true) H')
theorem words_exb {f t : Addr} {l : Bg} {H H' : Hp} {xs : List V} (e : ExB f H H') (hf : H f = some (.lst xs)) (h : WordsAt H t l) : WordsAt H' t l := by
  obtain ⟨qs, o, h1, hd, h2⟩ := h.ex
  exact ⟨qs, o, e _ _ (ne_of h1 hf (fun z => nomatch z)) h1, hd, Paired.mapP h2 fun _ _ z => e _ _ (ne_of z hf (fun z => nomatch z)) z⟩
theorem any_bagD (s : Bg) : ∀ l : List Bg, ((l.map bagD).any fun z => PyData.eqv z (bagD s)) = l.any fun t => decide (wordsS t = wordsS s)
  | [] => rfl
  | t :: l => by rw [List.map_cons, List.any_cons, List.any_cons, any_bagD s l, eqv_bagD]
theorem keysAt_dp {K : PySem.W.Frag} {H : Hp} {q t : Addr} {s : Bg} (h1 : H q = some (.tup [.int (sizeS s), .ref t])) (h2 : WordsAt H t (wordsS s)) : Dp K H (.ref q) (bagD s) := .tup (SqT.of h1) (.cons (.int _) (.cons h2.dp .nil))
theorem dpAll_keys {K : PySem.W.Frag} {H : Hp} {ks : List Addr} {ss : List Bg} (h : Paired (fun q s => ∃ t, H q = some (.tup [.int (sizeS s), .ref t]) ∧ WordsAt H t (wordsS s)) ks ss) : DpAll K H (ks.map V.ref) (ss.map bagD) := by
  induction h with
  | nil => exact .nil
  | cons h1 _ ih => obtain ⟨t, h2, h3⟩ := h1; exact .cons (keysAt_dp h2 h3) ih
theorem plainAll_keys : ∀ ss : List Bg, PyData.plainAll (ss.map bagD) = true
  | [] => rfl
  | s :: r => by rw [List.map_cons]; simp only [PyData.plainAll, bagD_plain, plainAll_keys r, Bool.and_self]
theorem ded_len : ∀ (l acc : List Bg), (l.foldl (fun acc s => if acc.getLast?.map wordsS = some (wordsS s) then acc else acc ++ [s]) acc).length ≤ acc.length + l.length
  | [], acc => Nat.le_refl _
  | s :: l, acc => by
    rw [List.foldl_cons]
    refine Nat.le_trans (ded_len l _) ?_
    split
    · rw [List.length_cons]; omega
    · simp only [List.length_append, List.length_cons, List.length_nil]; omega
theorem ded_sub : ∀ (l acc : List Bg), ∀ t ∈ l.foldl (fun acc s => if acc.getLast?.map wordsS = some (wordsS s) then acc else acc ++ [s]) acc, t ∈ acc ∨ t ∈ l
  | [], acc, t, h => .inl h
  | s :: l, acc, t, h => by
    rw [List.foldl_cons] at h
    rcases ded_sub l _ t h with z | z
    · split at z
      · exact .inl z
      · rcases List.mem_append.mp z with y | y
        · exact .inl y
        · exact .inr (by rw [List.mem_singleton.mp y]; exact List.mem_cons_self)
    · exact .inr (List.mem_cons_of_mem _ z)
end
end Fp

namespace Fp
open PySem L2
section
variable {P : Program} {w : World} {K : PySem.W.Frag} {mg : Str → Option Value} {base : Heap} {C_Bag : Addr} {Cs : Addr → Prop}
local macro_rules | `(tactic| walk_at "hp") => `(tactic| first | assumption | rfl)
local macro_rules | `(tactic| walk_at "cond") => `(tactic| first | assumption | decide | omega | (unfold CMul; omega) | (refine ⟨?_, ?_⟩ <;> omega) | (unfold CDiv; omega) | (unfold CPow; omega))
local macro_rules | `(tactic| walk_at "g1") => `(tactic| first
  | with_reducible first
    | refine g_seq ?_ | refine g_asg ?_ | refine g_name ?_ | refine g_ret ?_ | refine g_retN ?_ | refine g_drop ?_ | refine g_ifs ?_
    | refine g_c ?_ | refine g_op ?_ | refine g_un ?_ | refine g_I0 ?_ | refine g_U ?_
    | refine g_test ?_ | refine g_tB ?_ | refine g_bl ?_ | refine g_and ?_ | refine g_or ?_ | refine g_not ?_
    | refine g_andV ?_ | refine g_orV ?_ | refine g_notV ?_ | refine g_if ?_ | refine g_nil ?_ | refine g_cons ?_ | refine g_cb ?_ | refine g_call ?_
    | refine g_lst ?_ | refine g_tup ?_ | refine g_itT ?_ | refine g_itF ?_ | refine g_itNT ?_ | refine g_itNF ?_ | refine g_lc ?_ | refine g_iStr ?_ | refine g_yes ?_ | refine g_exs ?_
    | refine g_chain ?_ | refine g_dget ?_ | refine g_dput ?_ | refine g_dget2 ?_ | refine g_dpop2 ?_ | refine g_fld ?_ | refine g_sfld ?_ | refine g_make ?_ | refine g_meth ?_
    | refine g_bm ?_ | refine g_kw ?_ | refine g_callS ?_ | refine g_revL ?_ | refine g_m1 ?_ | refine g_gsub ?_ | refine g_for ?_ | refine g_iList ?_ | refine g_iTup ?_ | refine g_iRng1 ?_ | refine g_iRng2 ?_ | refine g_sl ?_ | refine g_part ?_ | refine g_noPart ?_
    | refine g_exi ?_ | refine g_exr ?_ | refine g_dnew ?_ | refine g_disp ?_ | refine g_prs0 ?_ | refine g_prs ?_ | refine g_nxt ?_
  | ((with_reducible refine g_var (v := ?vv) ?gv ?_); (case gv => exact rfl))
  | ((with_reducible refine g_I ?gc ?_); (case gc => walk_at "cond"))
  | ((with_reducible refine g_eq ?ge ?_); (case ge => exact rfl))
  | ((with_reducible refine g_ne ?ge ?_); (case ge => exact rfl))
  | (refine g_ixl (SqL.of (by first | assumption | exact upd_same)) rfl ?_)
  | (refine g_setl (by first | assumption | exact upd_same) rfl ?_)
  | ((with_reducible show (∃ i, [V.int _] = [V.int i] ∧ _) ∨ _); refine Or.inl ⟨_, rfl, ?_⟩)
  | ((with_reducible show ∃ i, [V.int _] = [V.int i] ∧ _); refine ⟨_, rfl, ?_⟩)
  | dsimp only)
local macro_rules | `(tactic| walk_at "go") => `(tactic| repeat (walk_at "g1"))

local macro_rules | `(tactic| walk_at "ex") => `(tactic| first
  | assumption
  | exact Ex.refl _
  | (refine Ex.trans ?_ (by assumption); walk_at "ex")
  | (refine BagAt.ex' (by assumption) ?_; walk_at "ex")
  | (refine HandAt.ex' (by assumption) ?_; walk_at "ex")
  | (refine DcsAt.ex' (by assumption) ?_; walk_at "ex")
  | (refine BgsAt.ex' (by assumption) ?_; walk_at "ex")
  | (refine DcsAt.hand (by assumption) (by assumption) ?_; walk_at "ex")
  | (refine BgsAt.hand (by assumption) (by assumption) ?_; walk_at "ex")
  | (refine WordsAt.ex' (by assumption) ?_; walk_at "ex")
  | (refine Ex.at' (by assumption) ?_; walk_at "ex")
  | (refine SqL.of ?_; walk_at "ex")
  | (refine SqT.of ?_; walk_at "ex")
  | (refine Or.inl ?_; walk_at "ex")
  | (refine BagAt.hand (by assumption) (by assumption) ?_; walk_at "ex")
  | (refine hand_dkE (by assumption) (by assumption) ?_; walk_at "ex")
  | (refine hand_lstE (by assumption) (by assumption) (by simp) ?_; walk_at "ex"))
local macro_rules | `(tactic| walk_at "go2") => `(tactic| (walk_at "go"; (repeat (refine g_ixl (SqL.of (by walk_at "ex")) rfl ?_; walk_at "go"))))

theorem all_right_0 {f : Addr} {cdv : Value} {A : Around} {outer : List Env} {s0 : Shared} {H0 : Hp} {E : XK} (hr : Room 9 (bodyA "_law_all_right" s_law_all_right f cdv A s0)) (T : Txt K mg C_Bag Cs)
    (D_law_draw : DefOk P w K mg base CX0 1 "_law_draw" ["_law_hand_here", "_law_many"] sp_law_draw)
    (next : PSs (bodyX P w K mg base N_law_all_right "_law_all_right" s_law_all_right f cdv A outer s0 H0 E) ((defBody s_law_all_right).drop 1) (RA1 Cs)) : PSs (bodyX P w K mg base N_law_all_right "_law_all_right" s_law_all_right f cdv A outer s0 H0 E) ((defBody s_law_all_right).drop 0) (RA0 Cs) := by
  have hu := hu_of hr
  have hu64 := L2.Room.units hr
  refine pss_imp (pss_cons (ps_setLc (i := 3) (own := [("_law_turn", 4)]) (g := (gName 4)) (tt := tYes) rfl sc_law_all_right.nd rfl rfl rfl (pi_range1 rfl T.b_range (pa_cons (pe_op op_add pe_int (pe_callD D_law_draw (hr.mono (by decide)) rfl pass0 (pa_cons (pv 0) (pa_cons pe_int pa_nil)))) pa_nil)) (blkOk_by (N := N_law_all_right) (sc := defScope s_law_all_right) (by decide +kernel)) (fun _ _ _ _ _ => (pg_name (i := 4) sc_law_all_right.nd rfl (by first | exact Or.inl rfl | exact Or.inr rfl))) (fun _ _ _ _ _ => pts_nil) (fun _ _ _ _ _ => (pe_ix (r := rIxL K) ix_list (pv 2) (pe_callD D_law_draw (hr.mono (by decide)) rfl pass0 (pa_cons (pv 0) (pa_cons (pe_callB (r := rLenQ K) call_len_seq (by rfl) T.b_len (by decide +kernel) (pa_cons (pv 2) pa_nil)) pa_nil))) (fun _ _ => rfl)))) next) ?_
  rintro D σ H ⟨h, c, lr, p, ss, Hs, rfl, hp, hh, hr', hl, hn, hn2, eS, k⟩
  (try dsimp only [bodyX, cxOf])
  walk_at "go"
  refine ⟨h, c, 6, rfl, hh, by decide, by decide, fun v H1 v0 v1 e1 hh1 => ?_⟩
  walk_at "go"
  refine ⟨by omega, by omega, ?_⟩
  have hr1 : DcsAt H1 lr ss := by walk_at "ex"
  refine lc_mutR (f := h) walk_range hh1.kind.choose_spec (line5 (by omega)) (fun H => HandAt H h c) hh1 (fun H D o hD hx => hx.upd (hh1.new hD).1 (hh1.new hD).2) (fun _ _ _ => trivial) (fun _ y H => ∃ d s, y = V.ref d ∧ H d = some (.dK (toK s)) ∧ Lot p s 120 7)
    (fun _ y H H' e hh ⟨d, s, h1, h2, h3⟩ => ⟨d, s, h1, hand_dk hh e h2, h3⟩) (fun _ y H D ys zs hD ⟨d, s, h1, h2, h3⟩ => ⟨d, s, h1, by rw [upd_ne (ne_of h2 hD (fun z => nomatch z))]; exact h2, h3⟩) (fun _ => rfl) ?_ ?_
  · rintro i x H4 H4' Kc hi e4 hh4 ⟨rfl, rfl⟩ hk
    obtain ⟨ds, hd1, hd2⟩ := hr1.ex
    have hlen := hd2.length
    have hds := hand_lst hh1 e4 (fun _ _ _ _ => refs_nohand) hd1
    walk_at "go"
    refine ⟨lr, _, rfl, .inl (SqL.of hds), ?_⟩
    walk_at "go"
    refine ⟨h, c, _, rfl, hh4, by rw [List.length_map]; omega, by rw [List.length_map]; omega, fun v2 H5 w0 w1 e5 hh5 => ?_⟩
    rw [List.length_map] at w1
    obtain ⟨d, s, ha, hs, hd⟩ := atI_paired hd2 w0 (by omega)
    refine g_ixl (SqL.of (hand_lst hh4 e5 (fun _ _ _ _ => refs_nohand) hds)) ha ?_
    exact hk _ _ e5 hh5 ⟨d, s, rfl, hand_dk hh4 e5 (hand_dk hh1 e4 hd), hl s hs⟩
  intro ls H5 ys hD e5 hh5 hls hyl hys
  obtain ⟨ds, ss', rfl, hps⟩ := paired_all (F := fun d s => H5 d = some (.dK (toK s)) ∧ Lot p s 120 7) hys
  rw [List.length_map] at hyl
  have hlen := hps.length
  refine g_name ?_
  refine ⟨h, c, lr, ls, none, p, ss', Hs, rfl, hp, hh5, ⟨ds, hls, Paired.mapP hps fun _ _ z => z.1⟩, fun s hs => ?_, by omega, by omega, (eS.trans e1).trans e5, k⟩
  obtain ⟨i, hi⟩ := List.mem_iff_getElem?.mp hs
  have hi2 : i < ds.length := by have := (List.getElem?_eq_some_iff.mp hi).1; omega
  obtain ⟨s', hs', hx⟩ := paired_get hps (List.getElem?_eq_getElem hi2)
  rw [hi] at hs'
  cases hs'
  exact hx.2
end
end Fp

namespace Fp
open PySem L2
section
variable {P : Program} {w : World} {K : PySem.W.Frag} {mg : Str → Option Value} {base : Heap} {C_Bag : Addr} {Cs : Addr → Prop}
local macro_rules | `(tactic| walk_at "hp") => `(tactic| first | assumption | rfl)
local macro_rules | `(tactic| walk_at "cond") => `(tactic| first | assumption | decide | omega | (unfold CMul; omega) | (refine ⟨?_, ?_⟩ <;> omega) | (unfold CDiv; omega) | (unfold CPow; omega))
local macro_rules | `(tactic| walk_at "g1") => `(tactic| first
  | with_reducible first
    | refine g_seq ?_ | refine g_asg ?_ | refine g_name ?_ | refine g_ret ?_ | refine g_retN ?_ | refine g_drop ?_ | refine g_ifs ?_
    | refine g_c ?_ | refine g_op ?_ | refine g_un ?_ | refine g_I0 ?_ | refine g_U ?_
    | refine g_test ?_ | refine g_tB ?_ | refine g_bl ?_ | refine g_and ?_ | refine g_or ?_ | refine g_not ?_
    | refine g_andV ?_ | refine g_orV ?_ | refine g_notV ?_ | refine g_if ?_ | refine g_nil ?_ | refine g_cons ?_ | refine g_cb ?_ | refine g_call ?_
    | refine g_lst ?_ | refine g_tup ?_ | refine g_itT ?_ | refine g_itF ?_ | refine g_itNT ?_ | refine g_itNF ?_ | refine g_lc ?_ | refine g_iStr ?_ | refine g_yes ?_ | refine g_exs ?_
    | refine g_chain ?_ | refine g_dget ?_ | refine g_dput ?_ | refine g_dget2 ?_ | refine g_dpop2 ?_ | refine g_fld ?_ | refine g_sfld ?_ | refine g_make ?_ | refine g_meth ?_
    | refine g_bm ?_ | refine g_kw ?_ | refine g_callS ?_ | refine g_revL ?_ | refine g_m1 ?_ | refine g_gsub ?_ | refine g_for ?_ | refine g_iList ?_ | refine g_iTup ?_ | refine g_iRng1 ?_ | refine g_iRng2 ?_ | refine g_sl ?_ | refine g_part ?_ | refine g_noPart ?_
    | refine g_exi ?_ | refine g_exr ?_ | refine g_dnew ?_ | refine g_disp ?_ | refine g_prs0 ?_ | refine g_prs ?_ | refine g_nxt ?_
  | ((with_reducible refine g_var (v := ?vv) ?gv ?_); (case gv => exact rfl))
  | ((with_reducible refine g_I ?gc ?_); (case gc => walk_at "cond"))
  | ((with_reducible refine g_eq ?ge ?_); (case ge => exact rfl))
  | ((with_reducible refine g_ne ?ge ?_); (case ge => exact rfl))
  | (refine g_ixl (SqL.of (by first | assumption | exact upd_same)) rfl ?_)
  | (refine g_setl (by first | assumption | exact upd_same) rfl ?_)
  | ((with_reducible show (∃ i, [V.int _] = [V.int i] ∧ _) ∨ _); refine Or.inl ⟨_, rfl, ?_⟩)
  | ((with_reducible show ∃ i, [V.int _] = [V.int i] ∧ _); refine ⟨_, rfl, ?_⟩)
  | dsimp only)
local macro_rules | `(tactic| walk_at "go") => `(tactic| repeat (walk_at "g1"))

local macro_rules | `(tactic| walk_at "ex") => `(tactic| first
  | assumption
  | exact Ex.refl _
  | (refine Ex.trans ?_ (by assumption); walk_at "ex")
  | (refine BagAt.ex' (by assumption) ?_; walk_at "ex")
  | (refine HandAt.ex' (by assumption) ?_; walk_at "ex")
  | (refine DcsAt.ex' (by assumption) ?_; walk_at "ex")
  | (refine BgsAt.ex' (by assumption) ?_; walk_at "ex")
  | (refine DcsAt.hand (by assumption) (by assumption) ?_; walk_at "ex")
  | (refine BgsAt.hand (by assumption) (by assumption) ?_; walk_at "ex")
  | (refine WordsAt.ex' (by assumption) ?_; walk_at "ex")
  | (refine Ex.at' (by assumption) ?_; walk_at "ex")
  | (refine SqL.of ?_; walk_at "ex")
  | (refine SqT.of ?_; walk_at "ex")
  | (refine Or.inl ?_; walk_at "ex")
  | (refine BagAt.hand (by assumption) (by assumption) ?_; walk_at "ex")
  | (refine hand_dkE (by assumption) (by assumption) ?_; walk_at "ex")
  | (refine hand_lstE (by assumption) (by assumption) (by simp) ?_; walk_at "ex"))
local macro_rules | `(tactic| walk_at "go2") => `(tactic| (walk_at "go"; (repeat (refine g_ixl (SqL.of (by walk_at "ex")) rfl ?_; walk_at "go"))))

theorem all_right_1 {f : Addr} {cdv : Value} {A : Around} {outer : List Env} {s0 : Shared} {H0 : Hp} {E : XK} (hr : Room 9 (bodyA "_law_all_right" s_law_all_right f cdv A s0)) (T : Txt K mg C_Bag Cs)
    (D_mk_Bag : MkOk P w K mg base CX0 6 "Bag" C_Bag ["self", "clock", "words"] (sp_bag_init C_Bag Cs)) (D_law_plus : DefOk P w K mg base CX0 2 "_law_plus" ["_law_clock_here", "_law_one", "_law_other", "_law_factor"] sp_law_plus)
    (next : PSs (bodyX P w K mg base N_law_all_right "_law_all_right" s_law_all_right f cdv A outer s0 H0 E) ((defBody s_law_all_right).drop 4) (RA2 Cs)) : PSs (bodyX P w K mg base N_law_all_right "_law_all_right" s_law_all_right f cdv A outer s0 H0 E) ((defBody s_law_all_right).drop 1) (RA1 Cs) := by
  have hu := hu_of hr
  have hu64 := L2.Room.units hr
  refine pss_imp (pss_cons (ps_setLc (i := 5) (own := [("_law_words_here", 6)]) (g := (gName 6)) (tt := tYes) rfl sc_law_all_right.nd rfl rfl rfl (pi_list (pv 3)) (blkOk_by (N := N_law_all_right) (sc := defScope s_law_all_right) (by decide +kernel)) (fun _ _ _ _ _ => (pg_name (i := 6) sc_law_all_right.nd rfl (by first | exact Or.inl rfl | exact Or.inr rfl))) (fun _ _ _ _ _ => pts_nil) (fun _ _ _ _ _ => (pe_mkD D_mk_Bag (hr.mono (by decide)) rfl pass0 (pa_cons (pv 1) (pa_cons (pv 6) pa_nil))))) (pss_cons (ps_set (i := 7) sc_law_all_right.nd rfl (by first | exact Or.inl rfl | exact Or.inr rfl) pe_dnewK) (pss_cons (ps_for PassesOwn.never rfl (pi_list (pv 3)) (pg_name (i := 6) sc_law_all_right.nd rfl (by first | exact Or.inl rfl | exact Or.inr rfl)) (pss_one (ps_set (i := 7) sc_law_all_right.nd rfl (by first | exact Or.inl rfl | exact Or.inr rfl) (pe_callD D_law_plus (hr.mono (by decide)) rfl pass0 (pa_cons (pv 1) (pa_cons (pv 7) (pa_cons (pv 6) (pa_cons pe_int pa_nil)))))))) next))) ?_
  rintro D σ H ⟨h, c, lr, ls, x4, p, ss, Hs, rfl, hp, hh, hr', hl, hn, hn2, eS, k⟩
  (try dsimp only [bodyX, cxOf])
  walk_at "go"
  have hp2 := hp.lo
  have hp7 := hp.hi
  have hp0 : 0 < p := by omega
  obtain ⟨ds, hd1, hd2⟩ := id hr'.ex
  have hlen := hd2.length
  refine ⟨⟨_, SqL.of hd1⟩, ?_⟩
  refine lc_relL walk_list ss (by rw [List.length_map]; exact hlen.symm) (line5 (by rw [List.length_map]; omega)) (fun H' e => SqL.of (e _ _ hd1)) (fun s y H => ∃ x, y = V.ref x ∧ BagAt Cs H x p s) (fun s y H H' e ⟨x, h1, h2⟩ => ⟨x, h1, h2.exl e⟩) (fun _ => rfl) ?_ ?_
  · rintro i x s H1 H1' Kc hi e1 ⟨rfl, hx⟩ hss hk
    rw [List.getElem?_map] at hx
    obtain ⟨d, hd, rfl⟩ := Option.map_eq_some_iff.mp hx
    obtain ⟨s', hs', hds⟩ := paired_get hd2 hd
    rw [hss] at hs'
    cases hs'
    walk_at "go"
    refine g_mkBag hp (e1 _ _ hds) ((hl s (List.mem_of_getElem? hss)).mono (by decide) (by decide)) fun x H2 e2 _ hx2 => hk _ _ e2 ⟨x, rfl, hx2⟩
  intro lb H1 ys hlb0 e1 hlb hpb
  obtain ⟨bs, rfl, hpb'⟩ := paired_refs hpb
  walk_at "go"
  intro du hdu
  walk_at "go"
  have e2 : Ex H1 (upd H1 du (.dK [])) := Ex.new hdu
  have hd0 : upd H1 du (.dK []) du = some (.dK (toK (sumAll p []))) := upd_same
  generalize upd H1 du (.dK []) = H2 at e2 hd0 ⊢
  have hl2 : H2 ls = some (.lst (ds.map V.ref)) := by walk_at "ex"
  refine ⟨⟨_, SqL.of hl2⟩, ?_⟩
  have lots := sumAll_lot hp0 hl
  refine forG walk_list (fun i σ' H' => ∃ y d, σ' = [some (.ref h), some (.int p), some (.ref lr), some (.ref ls), x4, some (.ref lb), y, some (.ref d), none, none, none, none, none] ∧ Ex H2 H' ∧ H' d = some (.dK (toK (sumAll p (ss.take i))))) ⟨none, du, rfl, Ex.refl _, hd0⟩ (fun i σ' H' _ ⟨_, _, _, e, _⟩ => SqL.of (e _ _ hl2)) ?_ ?_
  · rintro i x σ' H3 H3' hi ⟨y, d, rfl, e3, hd3⟩ ⟨rfl, hx⟩
    rw [List.getElem?_map] at hx
    obtain ⟨d', hd', rfl⟩ := Option.map_eq_some_iff.mp hx
    obtain ⟨s, hsi, hds⟩ := paired_get hd2 hd'
    have hds3 := e3 _ _ (e2 _ _ (e1 _ _ hds))
    have lt := hl s (List.mem_of_getElem? hsi)
    have hi' : i < ss.length := (List.getElem?_eq_some_iff.mp hsi).1
    have li := lots i (Nat.le_of_lt hi')
    walk_at "go"
    refine ⟨p, d, d', _, s, 1, rfl, .inl hd3, .inl hds3, lt.g.nd, ?_, hp0, by decide, fun d4 H4 e4 hd4 hd4' => ?_⟩
    · have h1 := li.n
      have h2 := lt.n
      have h3 : i * 120 ≤ 100 * 120 := Nat.mul_le_mul_right _ (by omega)
      omega
    walk_at "go"
    refine ⟨_, d4, rfl, e3.trans e4, ?_⟩
    rw [hd4']
    show some (HO.dK (toK (plusS p _ s 1))) = _
    unfold sumAll
    rw [foldl_take _ _ _ _ _ hsi]
  · rintro σ' H3 ⟨y, d, rfl, e3, hd3⟩
    rw [List.length_map, hlen, List.take_length] at hd3
    have e := (e1.trans e2).trans e3
    exact ⟨h, c, lr, ls, lb, d, x4, y, p, ss, Hs, rfl, hp, hh.ex' e, hr'.ex' e, ⟨bs, (e2.trans e3) _ _ hlb, Paired.mapP hpb' fun _ _ z => z.ex' (e2.trans e3)⟩, hd3, hl, hn, hn2, exb_ex eS e, k⟩
end
end Fp

namespace Fp
open PySem L2
section
variable {P : Program} {w : World} {K : PySem.W.Frag} {mg : Str → Option Value} {base : Heap} {C_Bag : Addr} {Cs : Addr → Prop}
local macro_rules | `(tactic| walk_at "hp") => `(tactic| first | assumption | rfl)
local macro_rules | `(tactic| walk_at "cond") => `(tactic| first | assumption | decide | omega | (unfold CMul; omega) | (refine ⟨?_, ?_⟩ <;> omega) | (unfold CDiv; omega) | (unfold CPow; omega))
local macro_rules | `(tactic| walk_at "g1") => `(tactic| first
  | with_reducible first
    | refine g_seq ?_ | refine g_asg ?_ | refine g_name ?_ | refine g_ret ?_ | refine g_retN ?_ | refine g_drop ?_ | refine g_ifs ?_
    | refine g_c ?_ | refine g_op ?_ | refine g_un ?_ | refine g_I0 ?_ | refine g_U ?_
    | refine g_test ?_ | refine g_tB ?_ | refine g_bl ?_ | refine g_and ?_ | refine g_or ?_ | refine g_not ?_
    | refine g_andV ?_ | refine g_orV ?_ | refine g_notV ?_ | refine g_if ?_ | refine g_nil ?_ | refine g_cons ?_ | refine g_cb ?_ | refine g_call ?_
    | refine g_lst ?_ | refine g_tup ?_ | refine g_itT ?_ | refine g_itF ?_ | refine g_itNT ?_ | refine g_itNF ?_ | refine g_lc ?_ | refine g_iStr ?_ | refine g_yes ?_ | refine g_exs ?_
    | refine g_chain ?_ | refine g_dget ?_ | refine g_dput ?_ | refine g_dget2 ?_ | refine g_dpop2 ?_ | refine g_fld ?_ | refine g_sfld ?_ | refine g_make ?_ | refine g_meth ?_
    | refine g_bm ?_ | refine g_kw ?_ | refine g_callS ?_ | refine g_revL ?_ | refine g_m1 ?_ | refine g_gsub ?_ | refine g_for ?_ | refine g_iList ?_ | refine g_iTup ?_ | refine g_iRng1 ?_ | refine g_iRng2 ?_ | refine g_sl ?_ | refine g_part ?_ | refine g_noPart ?_
    | refine g_exi ?_ | refine g_exr ?_ | refine g_dnew ?_ | refine g_disp ?_ | refine g_prs0 ?_ | refine g_prs ?_ | refine g_nxt ?_
  | ((with_reducible refine g_var (v := ?vv) ?gv ?_); (case gv => exact rfl))
  | ((with_reducible refine g_I ?gc ?_); (case gc => walk_at "cond"))
  | ((with_reducible refine g_eq ?ge ?_); (case ge => exact rfl))
  | ((with_reducible refine g_ne ?ge ?_); (case ge => exact rfl))
  | (refine g_ixl (SqL.of (by first | assumption | exact upd_same)) rfl ?_)
  | (refine g_setl (by first | assumption | exact upd_same) rfl ?_)
  | ((with_reducible show (∃ i, [V.int _] = [V.int i] ∧ _) ∨ _); refine Or.inl ⟨_, rfl, ?_⟩)
  | ((with_reducible show ∃ i, [V.int _] = [V.int i] ∧ _); refine ⟨_, rfl, ?_⟩)
  | dsimp only)
local macro_rules | `(tactic| walk_at "go") => `(tactic| repeat (walk_at "g1"))

local macro_rules | `(tactic| walk_at "ex") => `(tactic| first
  | assumption
  | exact Ex.refl _
  | (refine Ex.trans ?_ (by assumption); walk_at "ex")
  | (refine BagAt.ex' (by assumption) ?_; walk_at "ex")
  | (refine HandAt.ex' (by assumption) ?_; walk_at "ex")
  | (refine DcsAt.ex' (by assumption) ?_; walk_at "ex")
  | (refine BgsAt.ex' (by assumption) ?_; walk_at "ex")
  | (refine DcsAt.hand (by assumption) (by assumption) ?_; walk_at "ex")
  | (refine BgsAt.hand (by assumption) (by assumption) ?_; walk_at "ex")
  | (refine WordsAt.ex' (by assumption) ?_; walk_at "ex")
  | (refine Ex.at' (by assumption) ?_; walk_at "ex")
  | (refine SqL.of ?_; walk_at "ex")
  | (refine SqT.of ?_; walk_at "ex")
  | (refine Or.inl ?_; walk_at "ex")
  | (refine BagAt.hand (by assumption) (by assumption) ?_; walk_at "ex")
  | (refine hand_dkE (by assumption) (by assumption) ?_; walk_at "ex")
  | (refine hand_lstE (by assumption) (by assumption) (by simp) ?_; walk_at "ex"))
local macro_rules | `(tactic| walk_at "go2") => `(tactic| (walk_at "go"; (repeat (refine g_ixl (SqL.of (by walk_at "ex")) rfl ?_; walk_at "go"))))

theorem all_right_2 {f : Addr} {cdv : Value} {A : Around} {outer : List Env} {s0 : Shared} {H0 : Hp} {E : XK} (hr : Room 9 (bodyA "_law_all_right" s_law_all_right f cdv A s0)) (T : Txt K mg C_Bag Cs)
    (D_law_draw : DefOk P w K mg base CX0 1 "_law_draw" ["_law_hand_here", "_law_many"] sp_law_draw) (D_all_together : DefOk P w K mg base CX0 9 "all_together" ["bags"] (sp_all_together K Cs)) (D_law_is : DefOk P w K mg base CX0 3 "_law_is" ["_law_told", "_law_clock_here", "_law_bag"] (sp_law_is Cs))
    (next : PSs (bodyX P w K mg base N_law_all_right "_law_all_right" s_law_all_right f cdv A outer s0 H0 E) ((defBody s_law_all_right).drop 6) (RA3 Cs)) : PSs (bodyX P w K mg base N_law_all_right "_law_all_right" s_law_all_right f cdv A outer s0 H0 E) ((defBody s_law_all_right).drop 4) (RA2 Cs) := by
  have hu := hu_of hr
  have hu64 := L2.Room.units hr
  refine pss_imp (pss_cons (ps_set (i := 8) sc_law_all_right.nd rfl (by first | exact Or.inl rfl | exact Or.inr rfl) (pe_callD D_law_draw (hr.mono (by decide)) rfl pass0 (pa_cons (pv 0) (pa_cons pe_int pa_nil)))) (pss_cons (ps_if (pt_not (pt_val (pe_callD D_law_is (hr.mono (by decide)) rfl pass0 (pa_cons (pe_callD D_all_together (hr.mono (by decide)) rfl pass0 (pa_cons (pe_ix (r := rIxL K) ix_list (pe_lst (pa_cons (pv 5) (pa_cons (pe_callTy (r := rTupleZ K) call_tupleZ (by rfl) T.b_tuple (by decide +kernel) (pa_cons (pv 5) pa_nil)) pa_nil))) (pv 8) (fun _ _ => rfl)) pa_nil)) (pa_cons (pv 1) (pa_cons (pv 7) pa_nil)))))) (pss_one (ps_ret pe_bl)) pss_nil) next)) ?_
  rintro D σ H ⟨h, c, lr, ls, lb, du, x4, x6, p, ss, Hs, rfl, hp, hh, hr', hb, hdu, hl, hn, hn2, eS, k⟩
  (try dsimp only [bodyX, cxOf])
  have hp2 := hp.lo
  have hp7 := hp.hi
  have hp0 : 0 < p := by omega
  have lots := sumAll_lot hp0 hl ss.length (Nat.le_refl _)
  rw [List.take_length] at lots
  have lz : ss.length * 120 ≤ 100 * 120 := Nat.mul_le_mul_right _ hn2
  have hne : ss ≠ [] := fun e => by rw [e] at hn; exact absurd hn (by decide)
  walk_at "go"
  refine ⟨h, c, 2, rfl, hh, by decide, by decide, fun v H1 v0 v1 e1 hh1 => ?_⟩
  have hb1 : BgsAt Cs H1 lb p ss := by walk_at "ex"
  have hr1 : DcsAt H1 ls ss := by walk_at "ex"
  have hdu1 : H1 du = some (.dK (toK (sumAll p ss))) := by walk_at "ex"
  obtain ⟨bs, hl1, hl2⟩ := hb1.ex
  walk_at "go"
  refine ⟨lb, _, rfl, SqL.of hl1, fun ta oa hta hoa => ?_⟩
  walk_at "go"
  have e2 : Ex H1 (upd H1 ta (.frz oa (.tup (bs.map V.ref)))) := Ex.new hta
  have ht2 : upd H1 ta (.frz oa (.tup (bs.map V.ref))) ta = some (.frz oa (.tup (bs.map V.ref))) := upd_same
  generalize upd H1 ta (.frz oa (.tup (bs.map V.ref))) = H2 at e2 ht2 ⊢
  refine ⟨Nat.le_of_ble_eq_true rfl, fun la hla => ?_⟩
  have e3 : Ex H2 (upd H2 la (.lst [.ref lb, .ref ta])) := Ex.new hla
  have hl3 : upd H2 la (.lst [.ref lb, .ref ta]) la = some (.lst [.ref lb, .ref ta]) := upd_same
  generalize upd H2 la (.lst [.ref lb, .ref ta]) = H3 at e3 hl3 ⊢
  walk_at "go"
  have e13 := e2.trans e3
  have two : ∃ x, atI [.ref lb, .ref ta] v = some (V.ref x) ∧ BagsAt K Cs H3 x p ss := by
    have hv : v = 0 ∨ v = 1 := by omega
    rcases hv with rfl | rfl
    · exact ⟨lb, rfl, (hb1.ex' e13).row⟩
    · exact ⟨ta, rfl, ⟨bs, .inr (.inl (.inr ⟨oa, e3 _ _ ht2⟩)), Paired.mapP hl2 fun _ _ z => z.ex' e13⟩⟩
  obtain ⟨x, hx, hxb⟩ := two
  refine g_ixl (SqL.of hl3) hx ?_
  walk_at "go"
  refine ⟨x, p, ss, 120, 7, rfl, hxb, hne, by omega, hl, by decide, by decide, hp0, fun y H4 e4 _ hy => ?_⟩
  walk_at "go"
  refine mkIs hy (.inl (e4 _ _ (e13 _ _ hdu1))) lots (by omega) (by decide) rfl fun H5 e5 => ?_
  walk_at "go"
  have e15 := (e13.trans e4).trans e5
  exact ⟨h, c, lr, ls, lb, du, v, x4, x6, p, ss, Hs, rfl, by omega, hp, hh1.ex' e15, hr1.ex' e15, hb1.ex' e15, hl, hn, hn2, exb_ex (eS.trans e1) e15, k⟩
end
end Fp

namespace Fp
open PySem L2
section
variable {P : Program} {w : World} {K : PySem.W.Frag} {mg : Str → Option Value} {base : Heap} {C_Bag : Addr} {Cs : Addr → Prop}
local macro_rules | `(tactic| walk_at "hp") => `(tactic| first | assumption | rfl)
local macro_rules | `(tactic| walk_at "cond") => `(tactic| first | assumption | decide | omega | (unfold CMul; omega) | (refine ⟨?_, ?_⟩ <;> omega) | (unfold CDiv; omega) | (unfold CPow; omega))
local macro_rules | `(tactic| walk_at "g1") => `(tactic| first
  | with_reducible first
    | refine g_seq ?_ | refine g_asg ?_ | refine g_name ?_ | refine g_ret ?_ | refine g_retN ?_ | refine g_drop ?_ | refine g_ifs ?_
    | refine g_c ?_ | refine g_op ?_ | refine g_un ?_ | refine g_I0 ?_ | refine g_U ?_
    | refine g_test ?_ | refine g_tB ?_ | refine g_bl ?_ | refine g_and ?_ | refine g_or ?_ | refine g_not ?_
    | refine g_andV ?_ | refine g_orV ?_ | refine g_notV ?_ | refine g_if ?_ | refine g_nil ?_ | refine g_cons ?_ | refine g_cb ?_ | refine g_call ?_
    | refine g_lst ?_ | refine g_tup ?_ | refine g_itT ?_ | refine g_itF ?_ | refine g_itNT ?_ | refine g_itNF ?_ | refine g_lc ?_ | refine g_iStr ?_ | refine g_yes ?_ | refine g_exs ?_
    | refine g_chain ?_ | refine g_dget ?_ | refine g_dput ?_ | refine g_dget2 ?_ | refine g_dpop2 ?_ | refine g_fld ?_ | refine g_sfld ?_ | refine g_make ?_ | refine g_meth ?_
    | refine g_bm ?_ | refine g_kw ?_ | refine g_callS ?_ | refine g_revL ?_ | refine g_m1 ?_ | refine g_gsub ?_ | refine g_for ?_ | refine g_iList ?_ | refine g_iTup ?_ | refine g_iRng1 ?_ | refine g_iRng2 ?_ | refine g_sl ?_ | refine g_part ?_ | refine g_noPart ?_
    | refine g_exi ?_ | refine g_exr ?_ | refine g_dnew ?_ | refine g_disp ?_ | refine g_prs0 ?_ | refine g_prs ?_ | refine g_nxt ?_
  | ((with_reducible refine g_var (v := ?vv) ?gv ?_); (case gv => exact rfl))
  | ((with_reducible refine g_I ?gc ?_); (case gc => walk_at "cond"))
  | ((with_reducible refine g_eq ?ge ?_); (case ge => exact rfl))
  | ((with_reducible refine g_ne ?ge ?_); (case ge => exact rfl))
  | (refine g_ixl (SqL.of (by first | assumption | exact upd_same)) rfl ?_)
  | (refine g_setl (by first | assumption | exact upd_same) rfl ?_)
  | ((with_reducible show (∃ i, [V.int _] = [V.int i] ∧ _) ∨ _); refine Or.inl ⟨_, rfl, ?_⟩)
  | ((with_reducible show ∃ i, [V.int _] = [V.int i] ∧ _); refine ⟨_, rfl, ?_⟩)
  | dsimp only)
local macro_rules | `(tactic| walk_at "go") => `(tactic| repeat (walk_at "g1"))

local macro_rules | `(tactic| walk_at "ex") => `(tactic| first
  | assumption
  | exact Ex.refl _
  | (refine Ex.trans ?_ (by assumption); walk_at "ex")
  | (refine BagAt.ex' (by assumption) ?_; walk_at "ex")
  | (refine HandAt.ex' (by assumption) ?_; walk_at "ex")
  | (refine DcsAt.ex' (by assumption) ?_; walk_at "ex")
  | (refine BgsAt.ex' (by assumption) ?_; walk_at "ex")
  | (refine DcsAt.hand (by assumption) (by assumption) ?_; walk_at "ex")
  | (refine BgsAt.hand (by assumption) (by assumption) ?_; walk_at "ex")
  | (refine WordsAt.ex' (by assumption) ?_; walk_at "ex")
  | (refine Ex.at' (by assumption) ?_; walk_at "ex")
  | (refine SqL.of ?_; walk_at "ex")
  | (refine SqT.of ?_; walk_at "ex")
  | (refine Or.inl ?_; walk_at "ex")
  | (refine BagAt.hand (by assumption) (by assumption) ?_; walk_at "ex")
  | (refine hand_dkE (by assumption) (by assumption) ?_; walk_at "ex")
  | (refine hand_lstE (by assumption) (by assumption) (by simp) ?_; walk_at "ex"))
local macro_rules | `(tactic| walk_at "go2") => `(tactic| (walk_at "go"; (repeat (refine g_ixl (SqL.of (by walk_at "ex")) rfl ?_; walk_at "go"))))

theorem all_right_3 {f : Addr} {cdv : Value} {A : Around} {outer : List Env} {s0 : Shared} {H0 : Hp} {E : XK} (hr : Room 9 (bodyA "_law_all_right" s_law_all_right f cdv A s0)) (T : Txt K mg C_Bag Cs)
    (D_in_order : DefOk P w K mg base CX0 5 "in_order" ["bags"] (sp_in_order K Cs)) (D_law_key : DefOk P w K mg base CX0 3 "_law_key" ["_law_words_here"] sp_law_key)
    (next : PSs (bodyX P w K mg base N_law_all_right "_law_all_right" s_law_all_right f cdv A outer s0 H0 E) ((defBody s_law_all_right).drop 9) (RA4 Cs)) : PSs (bodyX P w K mg base N_law_all_right "_law_all_right" s_law_all_right f cdv A outer s0 H0 E) ((defBody s_law_all_right).drop 6) (RA3 Cs) := by
  have hu := hu_of hr
  have hu64 := L2.Room.units hr
  refine pss_imp (pss_cons (ps_set (i := 9) sc_law_all_right.nd rfl (by first | exact Or.inl rfl | exact Or.inr rfl) (pe_callD D_in_order (hr.mono (by decide)) rfl pass0 (pa_cons (pe_ix (r := rIxL K) ix_list (pe_lst (pa_cons (pe_callTy (r := rTupleZ K) call_tupleZ (by rfl) T.b_tuple (by decide +kernel) (pa_cons (pv 5) pa_nil)) (pa_cons (pv 5) pa_nil))) (pv 8) (fun _ _ => rfl)) pa_nil))) (pss_cons (ps_set (i := 10) sc_law_all_right.nd rfl (by first | exact Or.inl rfl | exact Or.inr rfl) (pe_lst pa_nil)) (pss_cons (ps_for PassesOwn.never rfl (pi_list (pe_callB (r := rSortedD K) (cr_sortedD hu64) (by rfl) T.b_sorted (by decide +kernel) (pa_cons (pe_lc (own := [("_law_words_here", 6)]) (g := (gName 6)) (tt := tYes) rfl sc_law_all_right.nd (pi_list (pv 3)) (blkOk_by (N := N_law_all_right) (sc := defScope s_law_all_right) (by decide +kernel)) (fun _ _ _ _ _ => (pg_name (i := 6) sc_law_all_right.nd rfl (by first | exact Or.inl rfl | exact Or.inr rfl))) (fun _ _ _ _ _ => pts_nil) (fun _ _ _ _ _ => (pe_callD D_law_key (hr.mono (by decide)) rfl pass0 (pa_cons (pv 6) pa_nil)))) pa_nil))) (pg_name (i := 11) sc_law_all_right.nd rfl (by first | exact Or.inl rfl | exact Or.inr rfl)) (pss_one (ps_if (pt_cmpR (r := rInP K true) (op_notInP (Room.units65 hr)) (pv 11) (pv 10) (by rfl)) (pss_one (ps_expr (pe_bmK (K := K) rfl (pe_bm (r := rAppend) PySem.F.plainAttrs_list PySem.F.slot_list_append PySem.F.type_list_append mt_append (pv 10) (pa_cons (pv 11) pa_nil))))) pss_nil))) next))) ?_
  rintro D σ H ⟨h, c, lr, ls, lb, du, v, x4, x6, p, ss, Hs, rfl, hv, hp, hh, hr', hb, hl, hn, hn2, eS, k⟩
  (try dsimp only [bodyX, cxOf])
  have hp2 := hp.lo
  have hp7 := hp.hi
  have hp0 : 0 < p := by omega
  have hne : ss ≠ [] := fun e => by rw [e] at hn; exact absurd hn (by decide)
  obtain ⟨bs, hl1, hl2⟩ := hb.ex
  walk_at "go"
  refine ⟨lb, _, rfl, SqL.of hl1, fun ta oa hta hoa => ?_⟩
  walk_at "go"
  have e2 : Ex H (upd H ta (.frz oa (.tup (bs.map V.ref)))) := Ex.new hta
  have ht2 : upd H ta (.frz oa (.tup (bs.map V.ref))) ta = some (.frz oa (.tup (bs.map V.ref))) := upd_same
  generalize upd H ta (.frz oa (.tup (bs.map V.ref))) = H2 at e2 ht2 ⊢
  refine ⟨Nat.le_of_ble_eq_true rfl, fun la hla => ?_⟩
  have e3 : Ex H2 (upd H2 la (.lst [.ref ta, .ref lb])) := Ex.new hla
  have hl3 : upd H2 la (.lst [.ref ta, .ref lb]) la = some (.lst [.ref ta, .ref lb]) := upd_same
  generalize upd H2 la (.lst [.ref ta, .ref lb]) = H3 at e3 hl3 ⊢
  walk_at "go"
  have e13 := e2.trans e3
  have two : ∃ x, atI [.ref ta, .ref lb] v = some (V.ref x) ∧ BagsAt K Cs H3 x p ss := by
    rcases hv with rfl | rfl
    · exact ⟨ta, rfl, ⟨bs, .inr (.inl (.inr ⟨oa, e3 _ _ ht2⟩)), Paired.mapP hl2 fun _ _ z => z.ex' e13⟩⟩
    · exact ⟨lb, rfl, (hb.ex' e13).row⟩
  obtain ⟨x, hx, hxb⟩ := two
  refine g_ixl (SqL.of hl3) hx ?_
  walk_at "go"
  refine ⟨x, p, ss, rfl, hxb, hne, by omega, fun t ht => ⟨Nat.le_trans (hl t ht).n (by decide), fun u hu => Nat.le_trans ((hl t ht).l u hu).1 (by decide)⟩, fun tl rs H4 e4 htl0 htl hrs => ?_⟩
  walk_at "go"
  refine ⟨Nat.le_of_ble_eq_true rfl, fun od hod => ?_⟩
  walk_at "go"
  have e5 : Ex H4 (upd H4 od (.lst [])) := Ex.new hod
  have ho5 : upd H4 od (.lst []) od = some (.lst (([] : List Addr).map V.ref)) := upd_same
  generalize upd H4 od (.lst []) = H5 at e5 ho5 ⊢
  have e14 := e13.trans e4
  have e15 := e14.trans e5
  obtain ⟨ds, hd1, hd2⟩ := hr'.ex
  have hdl := hd2.length
  refine ⟨⟨_, SqL.of (e15 _ _ hd1)⟩, ?_⟩
  refine lc_relL walk_list ss (by rw [List.length_map]; exact hdl.symm) (line5 (by rw [List.length_map]; omega)) (fun H' e => SqL.of (e _ _ (e15 _ _ hd1))) (fun s y H => ∃ q, y = V.ref q ∧ ∃ t, H q = some (.tup [.int (sizeS s), .ref t]) ∧ WordsAt H t (wordsS s)) (fun s y H H' e ⟨q, h1, t, h2, h3⟩ => ⟨q, h1, t, e _ _ (fun _ z => nomatch z) h2, h3.exl e⟩) (fun _ => rfl) ?_ ?_
  · rintro i x s H6 H6' Kc hi e6 ⟨rfl, hx⟩ hss hk
    rw [List.getElem?_map] at hx
    obtain ⟨d, hd, rfl⟩ := Option.map_eq_some_iff.mp hx
    obtain ⟨s', hs', hds⟩ := paired_get hd2 hd
    rw [hss] at hs'
    cases hs'
    have hs := hl s (List.mem_of_getElem? hss)
    walk_at "go"
    exact ⟨d, s, rfl, .inl (e6 _ _ (e15 _ _ hds)), Nat.le_trans hs.n (by decide), fun u hu => Nat.le_trans (hs.l u hu).1 (by decide), hs.g.nd, fun q t H7 e7 ht hq => hk _ _ e7 ⟨q, rfl, t, hq, ht⟩⟩
  intro D6 H6 ys hD6 e6 hl6 hp6
  obtain ⟨qs, rfl, hqs⟩ := paired_refs hp6
  have hql := hqs.length
  walk_at "go"
  refine ⟨D6, _, ss.map bagD, rfl, SqL.of hl6, by rw [List.length_map, List.length_map]; omega, PySem.W.AllAlike.of bagD_alike, PySem.W.Sortable.tuples fun b => ⟨_, _, rfl⟩, fun d hd => ?_, dpAll_keys hqs, fun so hso => ?_⟩
  · obtain ⟨s, _, rfl⟩ := List.mem_map.mp hd
    exact bagD_depth s
  have e7 : Ex H6 (upd H6 so (.lst (byKey (qs.map V.ref) (ss.map bagD)))) := Ex.new hso
  obtain ⟨ks, hks, hpk⟩ := paired_refs (byKey_paired (F := fun v s => ∃ q, v = V.ref q ∧ ∃ t, upd H6 so (.lst (byKey (qs.map V.ref) (ss.map bagD))) q = some (.tup [.int (sizeS s), .ref t]) ∧ WordsAt (upd H6 so (.lst (byKey (qs.map V.ref) (ss.map bagD)))) t (wordsS s)) (paired_vref (Paired.mapP hqs fun _ _ ⟨t, h1, h2⟩ => ⟨t, e7 _ _ h1, h2.ex' e7⟩)))
  have hso7 : upd H6 so (.lst (byKey (qs.map V.ref) (ss.map bagD))) so = some (.lst (ks.map V.ref)) := by rw [← hks]; exact upd_same
  generalize upd H6 so (.lst (byKey (qs.map V.ref) (ss.map bagD))) = H7 at e7 hpk hso7 ⊢
  have hkl : ks.length = ss.length := by
    have h1 := hpk.length
    unfold sortB at h1
    rw [(List.mergeSort_perm _ _).length_eq] at h1
    exact h1
  have ho7 := e7 _ _ (e6 _ _ ho5)
  have hos : so ≠ od := fun z => by
    have := e6 _ _ ho5
    rw [← z, hso] at this
    cases this
  walk_at "go"
  refine ⟨⟨_, SqL.of hso7⟩, ?_⟩
  refine forG walk_list (fun i σ' H' => ∃ y es, σ' = [some (.ref h), some (.int p), some (.ref lr), some (.ref ls), x4, some (.ref lb), x6, some (.ref du), some (.int v), some (.ref tl), some (.ref od), y, none] ∧ ExB od H7 H' ∧ H' od = some (.lst (es.map V.ref)) ∧ es.length ≤ i ∧ Paired (fun q s => ∃ t, H' q = some (.tup [.int (sizeS s), .ref t]) ∧ WordsAt H' t (wordsS s)) es (dedM ((sortB ss).take i))) ⟨none, [], rfl, ExB.refl _ _, ho7, Nat.le_refl _, .nil⟩ (fun i σ' H' _ ⟨_, _, _, e, _⟩ => SqL.of (e _ _ hos hso7)) ?_ ?_
  · rintro i x σ' H8 H8' hi ⟨y, es, rfl, e8, ho8, hel, hpe⟩ ⟨rfl, hx⟩
    rw [List.getElem?_map] at hx
    obtain ⟨q, hq, rfl⟩ := Option.map_eq_some_iff.mp hx
    obtain ⟨s, hsi, t, hq7, ht7⟩ := paired_get hpk hq
    have hq8 := e8 _ _ (ne_of hq7 ho7 (fun z => nomatch z)) hq7
    have ht8 := words_exb e8 ho7 ht7
    have hi2 : i < ss.length := by
      have := (List.getElem?_eq_some_iff.mp hq).1
      omega
    have hst : dedM ((sortB ss).take (i + 1)) = if ((dedM ((sortB ss).take i)).any fun t => decide (wordsS t = wordsS s)) = true then dedM ((sortB ss).take i) else dedM ((sortB ss).take i) ++ [s] := foldl_take _ _ _ _ _ hsi
    walk_at "go"
    refine ⟨bagD s, (dedM ((sortB ss).take i)).map bagD, keysAt_dp hq8 ht8, .lst (SqL.of ho8) (dpAll_keys hpe), bagD_plain s, plainAll_keys _, Nat.le_trans (bagD_depth s) (by decide), ?_⟩
    rw [if_pos rfl, any_bagD]
    walk_at "go"
    cases ha : (dedM ((sortB ss).take i)).any fun t => decide (wordsS t = wordsS s) with
    | true =>
      walk_at "go"
      refine ⟨_, es, rfl, e8, ho8, by omega, ?_⟩
      rw [hst, if_pos ha]
      exact hpe
    | false =>
      walk_at "go"
      refine ⟨.inl ⟨rfl, _, SqL.of ho8⟩, ?_⟩
      walk_at "go"
      refine ⟨od, _, _, rfl, rfl, ho8, by rw [List.length_map]; exact Nat.lt_of_le_of_lt (by omega : es.length ≤ 1000) (by decide), ?_⟩
      rw [show List.map V.ref es ++ [V.ref q] = List.map V.ref (es ++ [q]) by rw [List.map_append]; rfl]
      walk_at "go"
      refine ⟨_, es ++ [q], rfl, e8.upd, upd_same, by rw [List.length_append, List.length_singleton]; omega, ?_⟩
      rw [hst, if_neg (by rw [ha]; exact Bool.false_ne_true)]
      have eu : ExB od H8' (upd H8' od (.lst ((es ++ [q]).map V.ref))) := (ExB.refl od H8').upd
      have st : ∀ q s, (∃ t, H8' q = some (.tup [.int (sizeS s), .ref t]) ∧ WordsAt H8' t (wordsS s)) → ∃ t, upd H8' od (.lst ((es ++ [q]).map V.ref)) q = some (.tup [.int (sizeS s), .ref t]) ∧ WordsAt (upd H8' od (.lst ((es ++ [q]).map V.ref))) t (wordsS s) := fun q s ⟨t, h1, h2⟩ => ⟨t, by rw [upd_ne (ne_of h1 ho8 (fun z => nomatch z))]; exact h1, words_exb ((ExB.refl od H8').upd) ho8 h2⟩
      exact Paired.snoc (Paired.mapP hpe fun _ _ ⟨t, h1, h2⟩ => ⟨t, by rw [upd_ne (ne_of h1 ho8 (fun z => nomatch z))]; exact h1, words_exb eu ho8 h2⟩) ⟨t, by rw [upd_ne (ne_of hq8 ho8 (fun z => nomatch z))]; exact hq8, words_exb eu ho8 ht8⟩
  · rintro σ' H8 ⟨y, es, rfl, e8, ho8, hel, hpe⟩
    rw [List.length_map, hkl, List.take_of_length_le (by unfold sortB; rw [(List.mergeSort_perm _ _).length_eq]; exact Nat.le_refl _), ← ded_eq] at hpe
    have e48 : Ex H4 H8 := fun a o q => e8 _ _ (ne_of_none q hod) (e7 _ _ (e6 _ _ (e5 _ _ q)))
    have e18 := e14.trans e48
    have ne1 : tl ≠ od := ne_of_none htl hod
    refine ⟨h, c, lr, ls, lb, du, tl, od, v, x4, x6, y, p, ss, Hs, rs, rfl, hp, hh.ex' e18, hr'.ex' e18, hb.ex' e18, e48 _ _ htl, Paired.mapP hrs fun _ _ z => z.ex' e48, ⟨es, ho8, hpe⟩, hl, hn, hn2, exb_ex eS e18, ?_, ?_, ?_, ne1, ?_, k⟩
    · cases q : Hs tl with
      | none => rfl
      | some o =>
        have nh : tl ≠ h := fun z => by
          obtain ⟨⟨i, b, m, n, hx, _⟩, _, _⟩ := hh
          have := e13 _ _ hx
          rw [← z, htl0] at this
          cases this
        have := e13 _ _ (eS _ _ nh q)
        rw [htl0] at this
        cases this
    · exact fun z => by
        have := e13 _ _ hl1
        rw [← z, htl0] at this
        cases this
    · exact fun z => by
        have := e13 _ _ hd1
        rw [← z, htl0] at this
        cases this
    · exact fun z => by
        obtain ⟨_, ⟨cs, hx⟩, _⟩ := hh
        have := e13 _ _ hx
        rw [← z, htl0] at this
        cases this
end
end Fp

namespace Fp
open PySem L2
section
variable {P : Program} {w : World} {K : PySem.W.Frag} {mg : Str → Option Value} {base : Heap} {C_Bag : Addr} {Cs : Addr → Prop}
local macro_rules | `(tactic| walk_at "hp") => `(tactic| first | assumption | rfl)
local macro_rules | `(tactic| walk_at "cond") => `(tactic| first | assumption | decide | omega | (unfold CMul; omega) | (refine ⟨?_, ?_⟩ <;> omega) | (unfold CDiv; omega) | (unfold CPow; omega))
local macro_rules | `(tactic| walk_at "g1") => `(tactic| first
  | with_reducible first
    | refine g_seq ?_ | refine g_asg ?_ | refine g_name ?_ | refine g_ret ?_ | refine g_retN ?_ | refine g_drop ?_ | refine g_ifs ?_
    | refine g_c ?_ | refine g_op ?_ | refine g_un ?_ | refine g_I0 ?_ | refine g_U ?_
    | refine g_test ?_ | refine g_tB ?_ | refine g_bl ?_ | refine g_and ?_ | refine g_or ?_ | refine g_not ?_
    | refine g_andV ?_ | refine g_orV ?_ | refine g_notV ?_ | refine g_if ?_ | refine g_nil ?_ | refine g_cons ?_ | refine g_cb ?_ | refine g_call ?_
    | refine g_lst ?_ | refine g_tup ?_ | refine g_itT ?_ | refine g_itF ?_ | refine g_itNT ?_ | refine g_itNF ?_ | refine g_lc ?_ | refine g_iStr ?_ | refine g_yes ?_ | refine g_exs ?_
    | refine g_chain ?_ | refine g_dget ?_ | refine g_dput ?_ | refine g_dget2 ?_ | refine g_dpop2 ?_ | refine g_fld ?_ | refine g_sfld ?_ | refine g_make ?_ | refine g_meth ?_
    | refine g_bm ?_ | refine g_kw ?_ | refine g_callS ?_ | refine g_revL ?_ | refine g_m1 ?_ | refine g_gsub ?_ | refine g_for ?_ | refine g_iList ?_ | refine g_iTup ?_ | refine g_iRng1 ?_ | refine g_iRng2 ?_ | refine g_sl ?_ | refine g_part ?_ | refine g_noPart ?_
    | refine g_exi ?_ | refine g_exr ?_ | refine g_dnew ?_ | refine g_disp ?_ | refine g_prs0 ?_ | refine g_prs ?_ | refine g_nxt ?_
  | ((with_reducible refine g_var (v := ?vv) ?gv ?_); (case gv => exact rfl))
  | ((with_reducible refine g_I ?gc ?_); (case gc => walk_at "cond"))
  | ((with_reducible refine g_eq ?ge ?_); (case ge => exact rfl))
  | ((with_reducible refine g_ne ?ge ?_); (case ge => exact rfl))
  | (refine g_ixl (SqL.of (by first | assumption | exact upd_same)) rfl ?_)
  | (refine g_setl (by first | assumption | exact upd_same) rfl ?_)
  | ((with_reducible show (∃ i, [V.int _] = [V.int i] ∧ _) ∨ _); refine Or.inl ⟨_, rfl, ?_⟩)
  | ((with_reducible show ∃ i, [V.int _] = [V.int i] ∧ _); refine ⟨_, rfl, ?_⟩)
  | dsimp only)
local macro_rules | `(tactic| walk_at "go") => `(tactic| repeat (walk_at "g1"))

local macro_rules | `(tactic| walk_at "ex") => `(tactic| first
  | assumption
  | exact Ex.refl _
  | (refine Ex.trans ?_ (by assumption); walk_at "ex")
  | (refine BagAt.ex' (by assumption) ?_; walk_at "ex")
  | (refine HandAt.ex' (by assumption) ?_; walk_at "ex")
  | (refine DcsAt.ex' (by assumption) ?_; walk_at "ex")
  | (refine BgsAt.ex' (by assumption) ?_; walk_at "ex")
  | (refine DcsAt.hand (by assumption) (by assumption) ?_; walk_at "ex")
  | (refine BgsAt.hand (by assumption) (by assumption) ?_; walk_at "ex")
  | (refine WordsAt.ex' (by assumption) ?_; walk_at "ex")
  | (refine Ex.at' (by assumption) ?_; walk_at "ex")
  | (refine SqL.of ?_; walk_at "ex")
  | (refine SqT.of ?_; walk_at "ex")
  | (refine Or.inl ?_; walk_at "ex")
  | (refine BagAt.hand (by assumption) (by assumption) ?_; walk_at "ex")
  | (refine hand_dkE (by assumption) (by assumption) ?_; walk_at "ex")
  | (refine hand_lstE (by assumption) (by assumption) (by simp) ?_; walk_at "ex"))
local macro_rules | `(tactic| walk_at "go2") => `(tactic| (walk_at "go"; (repeat (refine g_ixl (SqL.of (by walk_at "ex")) rfl ?_; walk_at "go"))))

theorem all_right_4 {f : Addr} {cdv : Value} {A : Around} {outer : List Env} {s0 : Shared} {H0 : Hp} {E : XK} (hr : Room 9 (bodyA "_law_all_right" s_law_all_right f cdv A s0)) (T : Txt K mg C_Bag Cs)
    (D_in_order : DefOk P w K mg base CX0 5 "in_order" ["bags"] (sp_in_order K Cs)) : PSs (bodyX P w K mg base N_law_all_right "_law_all_right" s_law_all_right f cdv A outer s0 H0 E) ((defBody s_law_all_right).drop 9) (RA4 Cs) := by
  have hu := hu_of hr
  have hu64 := L2.Room.units hr
  refine pss_imp (pss_cons (ps_if (PW.pt (pw_or (pt_not (pt_val (pe_callB (r := rIsi K) call_isi (by rfl) T.b_isinstance (by decide +kernel) (pa_cons (pv 9) (pa_cons (pe_bltn (v := .ty "list") rfl T.b_list (by decide +kernel) rfl) pa_nil))))) (pw_or1 (pt_cmpR (r := rEqP K true) (op_neP hu64) (pe_lc (own := [("_law_bag", 12)]) (g := (gName 12)) (tt := tYes) rfl sc_law_all_right.nd (pi_list (pv 9)) (blkOk_by (N := N_law_all_right) (sc := defScope s_law_all_right) (by decide +kernel)) (fun _ _ _ _ _ => (pg_name (i := 12) sc_law_all_right.nd rfl (by first | exact Or.inl rfl | exact Or.inr rfl))) (fun _ _ _ _ _ => pts_nil) (fun _ _ _ _ _ => (pe_fldK (K := K) rfl (pv 12) rfl))) (pe_lc (own := [("_law_key_here", 11)]) (g := (gName 11)) (tt := tYes) rfl sc_law_all_right.nd (pi_list (pv 10)) (blkOk_by (N := N_law_all_right) (sc := defScope s_law_all_right) (by decide +kernel)) (fun _ _ _ _ _ => (pg_name (i := 11) sc_law_all_right.nd rfl (by first | exact Or.inl rfl | exact Or.inr rfl))) (fun _ _ _ _ _ => pts_nil) (fun _ _ _ _ _ => (pe_ix (r := rIxT K) ix_tup (pv 11) pe_int (fun _ _ => rfl)))) (nomark _))))) (pss_one (ps_ret pe_bl)) pss_nil) (pss_cons (ps_expr (pe_bmK (K := K) rfl (pe_bm (r := rAppend) PySem.F.plainAttrs_list PySem.F.slot_list_append PySem.F.type_list_append mt_append (pv 9) (pa_cons pe_non pa_nil)))) (pss_one (ps_ret (pe_and (pe_cmpR op_eq (pe_callB call_len_seq (by rfl) T.b_len (by decide +kernel) (pa_cons (pe_callD D_in_order (hr.mono (by decide)) rfl pass0 (pa_cons (pv 5) pa_nil)) pa_nil)) (pe_callB call_len_seq (by rfl) T.b_len (by decide +kernel) (pa_cons (pv 10) pa_nil)) (nomark _)) (pe_one (pe_cmpR op_eq (pe_callB call_len_seq (by rfl) T.b_len (by decide +kernel) (pa_cons (pv 5) pa_nil)) (pe_callB call_len_seq (by rfl) T.b_len (by decide +kernel) (pa_cons (pv 3) pa_nil)) (nomark _)))))))) ?_
  rintro D σ H ⟨h, c, lr, ls, lb, du, tl, od, v, x4, x6, x11, p, ss, Hs, rs, rfl, hp, hh, hr', hb, htl, hrs, hod, hl, hn, hn2, eS, nS, n1, n2, n3, nc, k⟩
  (try dsimp only [bodyX, cxOf])
  have hp2 := hp.lo
  have hp7 := hp.hi
  have hp0 : 0 < p := by omega
  have hne : ss ≠ [] := fun e => by rw [e] at hn; exact absurd hn (by decide)
  walk_at "go"
  refine g_isi (n := "list") (t := .type "list") (b := true) (.base (.lst htl)) (kit_ty (by decide +kernel)) ?_
  walk_at "go"
  refine ⟨⟨_, SqL.of htl⟩, ?_⟩
  have hdl : (dedB (sortB ss)).length ≤ ss.length := by
    have := ded_len (sortB ss) []
    unfold sortB at this ⊢
    rw [(List.mergeSort_perm _ _).length_eq] at this
    exact Nat.le_trans this (by simp)
  have hrl := hrs.length
  refine lc_relL walk_list (dedB (sortB ss)) (by rw [List.length_map]; exact hrl.symm) (line5 (by rw [List.length_map]; omega)) (fun H' e => SqL.of (e _ _ htl)) (fun s y H => ∃ t, y = V.ref t ∧ WordsAt H t (wordsS s)) (fun s y H H' e ⟨t, h1, h2⟩ => ⟨t, h1, h2.exl e⟩) (fun _ => rfl) ?_ ?_
  · rintro i x s H1 H1' Kc hi e1 ⟨rfl, hx⟩ hss hk
    rw [List.getElem?_map] at hx
    obtain ⟨b, hb', rfl⟩ := Option.map_eq_some_iff.mp hx
    obtain ⟨s', hs', hbs⟩ := paired_get hrs hb'
    rw [hss] at hs'
    cases hs'
    walk_at "go"
    refine g_words T (hbs.ex' e1) fun t ht => ?_
    exact hk _ _ (Ex.refl _) ⟨t, rfl, ht⟩
  intro D1 H1 ys1 hD1 e1 hl1 hp1
  obtain ⟨ks, hk1, hk2⟩ := hod
  have hkl := hk2.length
  walk_at "go"
  refine ⟨⟨_, SqL.of (e1 _ _ hk1)⟩, ?_⟩
  refine lc_relL walk_list (dedB (sortB ss)) (by rw [List.length_map]; exact hkl.symm) (line5 (by rw [List.length_map]; omega)) (fun H' e => SqL.of (e _ _ (e1 _ _ hk1))) (fun s y H => ∃ t, y = V.ref t ∧ WordsAt H t (wordsS s)) (fun s y H H' e ⟨t, h1, h2⟩ => ⟨t, h1, h2.exl e⟩) (fun _ => rfl) ?_ ?_
  · rintro i x s H2 H2' Kc hi e2 ⟨rfl, hx⟩ hss hk
    rw [List.getElem?_map] at hx
    obtain ⟨q, hq, rfl⟩ := Option.map_eq_some_iff.mp hx
    obtain ⟨s', hs', t, hq1, ht1⟩ := paired_get hk2 hq
    rw [hss] at hs'
    cases hs'
    walk_at "go"
    refine g_ixt (SqT.of (e2 _ _ (e1 _ _ hq1))) (v := .ref t) rfl ?_
    exact hk _ _ (Ex.refl _) ⟨t, rfl, (ht1.ex' e1).ex' e2⟩
  intro D2 H2 ys2 hD2 e2 hl2 hp2'
  obtain ⟨ts, rfl, hts⟩ := paired_refs (Paired.mapP hp1 fun _ _ ⟨t, h1, h2⟩ => ⟨t, h1, h2.ex' e2⟩)
  obtain ⟨us, rfl, hus⟩ := paired_refs hp2'
  walk_at "go"
  refine g_eqWs (SqL.of (e2 _ _ hl1)) (SqL.of hl2) (paired_mapr (g := wordsS) hts fun _ _ q => q) (paired_mapr (g := wordsS) hus fun _ _ q => q) ?_
  rw [if_pos rfl, decide_eq_true rfl]
  have e12 := e1.trans e2
  have htl2 := e12 _ _ htl
  walk_at "go"
  refine ⟨.inl ⟨rfl, _, SqL.of htl2⟩, ?_⟩
  walk_at "go"
  refine ⟨tl, _, _, rfl, rfl, htl2, by rw [List.length_map]; exact Nat.lt_of_le_of_lt (by omega : rs.length ≤ 1000) (by decide), ?_⟩
  walk_at "go"
  have eu : ExB tl H2 (upd H2 tl (.lst (List.map V.ref rs ++ [.non]))) := (ExB.refl tl H2).upd
  obtain ⟨bs, hb1, hb2⟩ := hb.ex
  obtain ⟨ds, hd1, hd2⟩ := hr'.ex
  have hb3 := eu _ _ (Ne.symm n1) (e12 _ _ hb1)
  have hd3 := eu _ _ (Ne.symm n2) (e12 _ _ hd1)
  have hk3 := eu _ _ (Ne.symm n3) (e12 _ _ hk1)
  have hb4 : Paired (fun x s => BagAt Cs (upd H2 tl (.lst (List.map V.ref rs ++ [.non]))) x p s) bs ss := Paired.mapP hb2 fun _ _ z => (z.ex' e12).exh eu htl2
  have nh : tl ≠ h := fun z => by
    obtain ⟨⟨i, b, m, n, hx, _⟩, _, _⟩ := hh
    rw [← z, htl] at hx
    have := HO.lst.inj (Option.some.inj hx)
    exact refs_nohand this
  have hh3 : HandAt (upd H2 tl (.lst (List.map V.ref rs ++ [.non]))) h c := (hh.ex' e12).upd nh nc
  generalize upd H2 tl (.lst (List.map V.ref rs ++ [.non])) = H3 at eu hb3 hd3 hk3 hb4 hh3 ⊢
  refine ⟨lb, p, ss, rfl, ⟨bs, .inl (SqL.of hb3), hb4⟩, hne, by omega, fun t ht => ⟨Nat.le_trans (hl t ht).n (by decide), fun u hu => Nat.le_trans ((hl t ht).l u hu).1 (by decide)⟩, fun q2 rs2 H4 e4 _ hq2 hrs2 => ?_⟩
  walk_at "go"
  refine ⟨q2, _, rfl, .inl (SqL.of hq2), ?_⟩
  walk_at "go"
  refine ⟨od, _, rfl, .inl (SqL.of (e4 _ _ hk3)), ?_⟩
  walk_at "go"
  have hl4 := hrs2.length
  refine g_ift (decide_eq_true (by rw [List.length_map, List.length_map, hl4, hkl])) ?_
  walk_at "go"
  refine ⟨lb, _, rfl, .inl (SqL.of (e4 _ _ hb3)), ?_⟩
  walk_at "go"
  refine ⟨ls, _, rfl, .inl (SqL.of (e4 _ _ hd3)), ?_⟩
  walk_at "go"
  rw [decide_eq_true (by rw [List.length_map, List.length_map, hb2.length, hd2.length])]
  refine k H4 (fun a o n q => ?_) (hh3.ex' e4)
  exact e4 _ _ (eu _ _ (ne_of_none q nS) (e12 _ _ (eS _ _ n q)))
end
end Fp

namespace Fp
open PySem L2
section
variable {P : Program} {w : World} {K : PySem.W.Frag} {mg : Str → Option Value} {base : Heap} {C_Bag : Addr} {Cs : Addr → Prop}
local macro_rules | `(tactic| walk_at "hp") => `(tactic| first | assumption | rfl)
local macro_rules | `(tactic| walk_at "cond") => `(tactic| first | assumption | decide | omega | (unfold CMul; omega) | (refine ⟨?_, ?_⟩ <;> omega) | (unfold CDiv; omega) | (unfold CPow; omega))
local macro_rules | `(tactic| walk_at "g1") => `(tactic| first
  | with_reducible first
    | refine g_seq ?_ | refine g_asg ?_ | refine g_name ?_ | refine g_ret ?_ | refine g_retN ?_ | refine g_drop ?_ | refine g_ifs ?_
    | refine g_c ?_ | refine g_op ?_ | refine g_un ?_ | refine g_I0 ?_ | refine g_U ?_
    | refine g_test ?_ | refine g_tB ?_ | refine g_bl ?_ | refine g_and ?_ | refine g_or ?_ | refine g_not ?_
    | refine g_andV ?_ | refine g_orV ?_ | refine g_notV ?_ | refine g_if ?_ | refine g_nil ?_ | refine g_cons ?_ | refine g_cb ?_ | refine g_call ?_
    | refine g_lst ?_ | refine g_tup ?_ | refine g_itT ?_ | refine g_itF ?_ | refine g_itNT ?_ | refine g_itNF ?_ | refine g_lc ?_ | refine g_iStr ?_ | refine g_yes ?_ | refine g_exs ?_
    | refine g_chain ?_ | refine g_dget ?_ | refine g_dput ?_ | refine g_dget2 ?_ | refine g_dpop2 ?_ | refine g_fld ?_ | refine g_sfld ?_ | refine g_make ?_ | refine g_meth ?_
    | refine g_bm ?_ | refine g_kw ?_ | refine g_callS ?_ | refine g_revL ?_ | refine g_m1 ?_ | refine g_gsub ?_ | refine g_for ?_ | refine g_iList ?_ | refine g_iTup ?_ | refine g_iRng1 ?_ | refine g_iRng2 ?_ | refine g_sl ?_ | refine g_part ?_ | refine g_noPart ?_
    | refine g_exi ?_ | refine g_exr ?_ | refine g_dnew ?_ | refine g_disp ?_ | refine g_prs0 ?_ | refine g_prs ?_ | refine g_nxt ?_
  | ((with_reducible refine g_var (v := ?vv) ?gv ?_); (case gv => exact rfl))
  | ((with_reducible refine g_I ?gc ?_); (case gc => walk_at "cond"))
  | ((with_reducible refine g_eq ?ge ?_); (case ge => exact rfl))
  | ((with_reducible refine g_ne ?ge ?_); (case ge => exact rfl))
  | (refine g_ixl (SqL.of (by first | assumption | exact upd_same)) rfl ?_)
  | (refine g_setl (by first | assumption | exact upd_same) rfl ?_)
  | ((with_reducible show (∃ i, [V.int _] = [V.int i] ∧ _) ∨ _); refine Or.inl ⟨_, rfl, ?_⟩)
  | ((with_reducible show ∃ i, [V.int _] = [V.int i] ∧ _); refine ⟨_, rfl, ?_⟩)
  | dsimp only)
local macro_rules | `(tactic| walk_at "go") => `(tactic| repeat (walk_at "g1"))

local macro_rules | `(tactic| walk_at "ex") => `(tactic| first
  | assumption
  | exact Ex.refl _
  | (refine Ex.trans ?_ (by assumption); walk_at "ex")
  | (refine BagAt.ex' (by assumption) ?_; walk_at "ex")
  | (refine HandAt.ex' (by assumption) ?_; walk_at "ex")
  | (refine DcsAt.ex' (by assumption) ?_; walk_at "ex")
  | (refine BgsAt.ex' (by assumption) ?_; walk_at "ex")
  | (refine DcsAt.hand (by assumption) (by assumption) ?_; walk_at "ex")
  | (refine BgsAt.hand (by assumption) (by assumption) ?_; walk_at "ex")
  | (refine WordsAt.ex' (by assumption) ?_; walk_at "ex")
  | (refine Ex.at' (by assumption) ?_; walk_at "ex")
  | (refine SqL.of ?_; walk_at "ex")
  | (refine SqT.of ?_; walk_at "ex")
  | (refine Or.inl ?_; walk_at "ex")
  | (refine BagAt.hand (by assumption) (by assumption) ?_; walk_at "ex")
  | (refine hand_dkE (by assumption) (by assumption) ?_; walk_at "ex")
  | (refine hand_lstE (by assumption) (by assumption) (by simp) ?_; walk_at "ex"))
local macro_rules | `(tactic| walk_at "go2") => `(tactic| (walk_at "go"; (repeat (refine g_ixl (SqL.of (by walk_at "ex")) rfl ?_; walk_at "go"))))

/-- several laid together are what the law says; in order they stand each once -/
def sp_law_all_right (K : PySem.W.Frag) (Cs : Addr → Prop) : Sp := fun vs H Q _ => ∃ (h c lr : Addr) (p : Int) (ss : List Bg), vs = [.ref h, .int p, .ref lr] ∧ HandAt H h c ∧ Clk p ∧ DcsAt H lr ss ∧ (∀ s ∈ ss, Lot p s 120 7) ∧ 0 < ss.length ∧ ss.length ≤ 100 ∧ ∀ H', ExB h H H' → HandAt H' h c → Q (.bl true) H'
theorem ok_law_all_right {f : Addr} {fd : FuncData} (F : Fun K "_law_all_right" "_law_all_right" s_law_all_right f fd) (T : Txt K mg C_Bag Cs) (D_law_draw : DefOk P w K mg base CX0 1 "_law_draw" ["_law_hand_here", "_law_many"] sp_law_draw) (D_all_together : DefOk P w K mg base CX0 9 "all_together" ["bags"] (sp_all_together K Cs)) (D_law_is : DefOk P w K mg base CX0 3 "_law_is" ["_law_told", "_law_clock_here", "_law_bag"] (sp_law_is Cs)) (D_mk_Bag : MkOk P w K mg base CX0 6 "Bag" C_Bag ["self", "clock", "words"] (sp_bag_init C_Bag Cs)) (D_law_plus : DefOk P w K mg base CX0 2 "_law_plus" ["_law_clock_here", "_law_one", "_law_other", "_law_factor"] sp_law_plus) (D_in_order : DefOk P w K mg base CX0 5 "in_order" ["bags"] (sp_in_order K Cs)) (D_law_key : DefOk P w K mg base CX0 3 "_law_key" ["_law_words_here"] sp_law_key) : FnOk P w K mg base CX0 10 f fd ["_law_hand_here", "_law_clock_here", "_law_rows"] (sp_law_all_right K Cs) := by
  refine F.ok sc_law_all_right (fun vs H Q E h => ?_) (fun cdv A outer s0 H vs Q E hr h => ?_)
  · obtain ⟨h, c, lr, p, ss, rfl, _⟩ := h
    rfl
  · obtain ⟨h, c, lr, p, ss, rfl, hh, hp, hr', hl, hn, hn2, k⟩ := h
    have q4 := all_right_4 (P := P) (w := w) (mg := mg) (base := base) (Cs := Cs) (outer := outer) (H0 := H) (E := E) hr T D_in_order
    have q3 := all_right_3 hr T D_in_order D_law_key q4
    have q2 := all_right_2 hr T D_law_draw D_all_together D_law_is q3
    have q1 := all_right_1 hr T D_mk_Bag D_law_plus q2
    have q0 := all_right_0 hr T D_law_draw q1
    exact ⟨_, q0, h, c, lr, p, ss, H, rfl, hp, hh, hr', hl, hn, hn2, ExB.refl _ _, k⟩
end
end Fp

/-! Bags laid together: any order, less itself, less and laid back, so many times. -/
namespace Fp
open PySem PySem.W
section
variable {p : Int} {s t u : Bg}
theorem cl_nil0 (l : List Nat) : cl [] l = 0 := rfl
theorem plus_rot (hp : 0 < p) (gs : Good p s) (gt : Good p t) (gu : Good p u) : Eqv (plusS p s (plusS p t u 1) 1) (plusS p (plusS p u s 1) t 1) := fun l => by
  rw [cl_plus hp gs (Good.plus hp gt u).nd, cl_plus hp gt gu.nd, cl_plus hp (Good.plus hp gu s) gt.nd, cl_plus hp gu gs.nd]
  rw [Int.one_mul, Int.one_mul, Int.one_mul, Int.one_mul, Int.add_emod_emod, Int.emod_add_emod]
  congr 1
  omega
theorem less_self (hp : 0 < p) (gs : Good p s) : Eqv (plusS p s s (-1)) [] := fun l => by
  rw [cl_plus hp gs gs.nd, cl_nil0]
  rw [show cl s l + -1 * cl s l = 0 by omega]
  exact Int.zero_emod _
theorem less_back (hp : 0 < p) (gs : Good p s) (gt : Good p t) : Eqv (plusS p (plusS p s t (-1)) t 1) s := fun l => by
  rw [cl_plus hp (Good.plus hp gs t) gt.nd, cl_plus hp gs gt.nd, Int.emod_add_emod]
  rw [show cl s l + -1 * cl t l + 1 * cl t l = cl s l by omega]
  exact cl_mod hp gs l
theorem times_clock (hp : 0 < p) (gs : Good p s) : Eqv (plusS p [] s p) [] := fun l => by
  rw [cl_plus hp Good.nil gs.nd, cl_nil0, Int.zero_add]
  exact Int.mul_emod_right _ _
end
end Fp

namespace Fp
open PySem L2
section
variable {P : Program} {w : World} {K : PySem.W.Frag} {mg : Str → Option Value} {base : Heap} {C_Bag : Addr} {Cs : Addr → Prop}
local macro_rules | `(tactic| walk_at "hp") => `(tactic| first | assumption | rfl)
local macro_rules | `(tactic| walk_at "cond") => `(tactic| first | assumption | decide | omega | (unfold CMul; omega) | (refine ⟨?_, ?_⟩ <;> omega) | (unfold CDiv; omega) | (unfold CPow; omega))
local macro_rules | `(tactic| walk_at "g1") => `(tactic| first
  | with_reducible first
    | refine g_seq ?_ | refine g_asg ?_ | refine g_name ?_ | refine g_ret ?_ | refine g_retN ?_ | refine g_drop ?_ | refine g_ifs ?_
    | refine g_c ?_ | refine g_op ?_ | refine g_un ?_ | refine g_I0 ?_ | refine g_U ?_
    | refine g_test ?_ | refine g_tB ?_ | refine g_bl ?_ | refine g_and ?_ | refine g_or ?_ | refine g_not ?_
    | refine g_andV ?_ | refine g_orV ?_ | refine g_notV ?_ | refine g_if ?_ | refine g_nil ?_ | refine g_cons ?_ | refine g_cb ?_ | refine g_call ?_
    | refine g_lst ?_ | refine g_tup ?_ | refine g_itT ?_ | refine g_itF ?_ | refine g_itNT ?_ | refine g_itNF ?_ | refine g_lc ?_ | refine g_iStr ?_ | refine g_yes ?_ | refine g_exs ?_
    | refine g_chain ?_ | refine g_dget ?_ | refine g_dput ?_ | refine g_dget2 ?_ | refine g_dpop2 ?_ | refine g_fld ?_ | refine g_sfld ?_ | refine g_make ?_ | refine g_meth ?_
    | refine g_bm ?_ | refine g_kw ?_ | refine g_callS ?_ | refine g_revL ?_ | refine g_m1 ?_ | refine g_gsub ?_ | refine g_for ?_ | refine g_iList ?_ | refine g_iTup ?_ | refine g_iRng1 ?_ | refine g_iRng2 ?_ | refine g_sl ?_ | refine g_part ?_ | refine g_noPart ?_
    | refine g_exi ?_ | refine g_exr ?_ | refine g_dnew ?_ | refine g_disp ?_ | refine g_prs0 ?_ | refine g_prs ?_ | refine g_nxt ?_
  | ((with_reducible refine g_var (v := ?vv) ?gv ?_); (case gv => exact rfl))
  | ((with_reducible refine g_I ?gc ?_); (case gc => walk_at "cond"))
  | ((with_reducible refine g_eq ?ge ?_); (case ge => exact rfl))
  | ((with_reducible refine g_ne ?ge ?_); (case ge => exact rfl))
  | (refine g_ixl (SqL.of (by first | assumption | exact upd_same)) rfl ?_)
  | (refine g_setl (by first | assumption | exact upd_same) rfl ?_)
  | ((with_reducible show (∃ i, [V.int _] = [V.int i] ∧ _) ∨ _); refine Or.inl ⟨_, rfl, ?_⟩)
  | ((with_reducible show ∃ i, [V.int _] = [V.int i] ∧ _); refine ⟨_, rfl, ?_⟩)
  | dsimp only)
local macro_rules | `(tactic| walk_at "go") => `(tactic| repeat (walk_at "g1"))

local macro_rules | `(tactic| walk_at "ex") => `(tactic| first
  | assumption
  | exact Ex.refl _
  | (refine Ex.trans ?_ (by assumption); walk_at "ex")
  | (refine BagAt.ex' (by assumption) ?_; walk_at "ex")
  | (refine HandAt.ex' (by assumption) ?_; walk_at "ex")
  | (refine DcsAt.ex' (by assumption) ?_; walk_at "ex")
  | (refine BgsAt.ex' (by assumption) ?_; walk_at "ex")
  | (refine DcsAt.hand (by assumption) (by assumption) ?_; walk_at "ex")
  | (refine BgsAt.hand (by assumption) (by assumption) ?_; walk_at "ex")
  | (refine WordsAt.ex' (by assumption) ?_; walk_at "ex")
  | (refine Ex.at' (by assumption) ?_; walk_at "ex")
  | (refine SqL.of ?_; walk_at "ex")
  | (refine SqT.of ?_; walk_at "ex")
  | (refine Or.inl ?_; walk_at "ex")
  | (refine BagAt.hand (by assumption) (by assumption) ?_; walk_at "ex")
  | (refine hand_dkE (by assumption) (by assumption) ?_; walk_at "ex")
  | (refine hand_lstE (by assumption) (by assumption) (by simp) ?_; walk_at "ex"))
local macro_rules | `(tactic| walk_at "go2") => `(tactic| (walk_at "go"; (repeat (refine g_ixl (SqL.of (by walk_at "ex")) rfl ?_; walk_at "go"))))

theorem other_clk {p : Int} (hp : Clk p) : ∃ (j : Nat) (q : Int), Clk q ∧ p ≠ q ∧ ([.int 2, .int 3, .int 5, .int 7] : List V)[j]? = some (.int p) ∧ flatV (.int p) = true ∧ eqV (.int p) (.int p) = true ∧
    (∀ (m : Nat) (z : V), m < j → ([.int 2, .int 3, .int 5, .int 7] : List V)[m]? = some z → eqV z (.int p) = false) ∧ atI ([.int 3, .int 2, .int 7, .int 5] : List V) (j : Int) = some (.int q) := by
  rcases hp with rfl | rfl | rfl | rfl
  · exact ⟨0, 3, .inr (.inl rfl), by decide, rfl, rfl, rfl, fun m z h => absurd h (Nat.not_lt_zero _), rfl⟩
  · refine ⟨1, 2, .inl rfl, by decide, rfl, rfl, rfl, fun m z h hz => ?_, rfl⟩
    match m, h, hz with
    | 0, _, hz => cases Option.some.inj hz; rfl
    | (n + 1), h, _ => omega
  · refine ⟨2, 7, .inr (.inr (.inr rfl)), by decide, rfl, rfl, rfl, fun m z h hz => ?_, rfl⟩
    match m, h, hz with
    | 0, _, hz => cases Option.some.inj hz; rfl
    | 1, _, hz => cases Option.some.inj hz; rfl
    | (n + 2), h, _ => omega
  · refine ⟨3, 5, .inr (.inr (.inl rfl)), by decide, rfl, rfl, rfl, fun m z h hz => ?_, rfl⟩
    match m, h, hz with
    | 0, _, hz => cases Option.some.inj hz; rfl
    | 1, _, hz => cases Option.some.inj hz; rfl
    | 2, _, hz => cases Option.some.inj hz; rfl
    | (n + 3), h, _ => omega
/-- three bags, their dicts, the lists of both, the hand -/
structure S3 (Cs : Addr → Prop) (p : Int) (lr lb d0 d1 d2 b0 b1 b2 h c : Addr) (s0 s1 s2 : Bg) (H : Hp) : Prop where
  r : H lr = some (.lst [.ref d0, .ref d1, .ref d2])
  b : H lb = some (.lst [.ref b0, .ref b1, .ref b2])
  x0 : H d0 = some (.dK (toK s0))
  x1 : H d1 = some (.dK (toK s1))
  x2 : H d2 = some (.dK (toK s2))
  y0 : BagAt Cs H b0 p s0
  y1 : BagAt Cs H b1 p s1
  y2 : BagAt Cs H b2 p s2
  hh : HandAt H h c
theorem S3.ex {p : Int} {lr lb d0 d1 d2 b0 b1 b2 h c : Addr} {s0 s1 s2 : Bg} {H H' : Hp} (S : S3 Cs p lr lb d0 d1 d2 b0 b1 b2 h c s0 s1 s2 H) (e : Ex H H') : S3 Cs p lr lb d0 d1 d2 b0 b1 b2 h c s0 s1 s2 H' :=
  ⟨e _ _ S.r, e _ _ S.b, e _ _ S.x0, e _ _ S.x1, e _ _ S.x2, S.y0.ex' e, S.y1.ex' e, S.y2.ex' e, S.hh.ex' e⟩
theorem S3.exh {p : Int} {lr lb d0 d1 d2 b0 b1 b2 h c : Addr} {s0 s1 s2 : Bg} {H H' : Hp} (S : S3 Cs p lr lb d0 d1 d2 b0 b1 b2 h c s0 s1 s2 H) (e : ExB h H H') (hh : HandAt H' h c) : S3 Cs p lr lb d0 d1 d2 b0 b1 b2 h c s0 s1 s2 H' := by
  obtain ⟨⟨i, b, m, n, hx, _⟩, _, _⟩ := S.hh
  exact ⟨e _ _ (ne_list S.r hx (by simp)) S.r, e _ _ (ne_list S.b hx (by simp)) S.b, e _ _ (ne_of S.x0 hx (fun z => nomatch z)) S.x0, e _ _ (ne_of S.x1 hx (fun z => nomatch z)) S.x1, e _ _ (ne_of S.x2 hx (fun z => nomatch z)) S.x2, S.y0.exh e hx, S.y1.exh e hx, S.y2.exh e hx, hh⟩
theorem S3.row {p : Int} {lr lb d0 d1 d2 b0 b1 b2 h c : Addr} {s0 s1 s2 : Bg} {H : Hp} (S : S3 Cs p lr lb d0 d1 d2 b0 b1 b2 h c s0 s1 s2 H) : DcsAt H lr [s0, s1, s2] := ⟨[d0, d1, d2], S.r, .cons S.x0 (.cons S.x1 (.cons S.x2 .nil))⟩
theorem S3.bags {p : Int} {lr lb d0 d1 d2 b0 b1 b2 h c : Addr} {s0 s1 s2 : Bg} {H : Hp} (S : S3 Cs p lr lb d0 d1 d2 b0 b1 b2 h c s0 s1 s2 H) : BgsAt Cs H lb p [s0, s1, s2] := ⟨[b0, b1, b2], S.b, .cons S.y0 (.cons S.y1 (.cons S.y2 .nil))⟩
theorem mkPlus {H : Hp} {p f : Int} {a b : Addr} {s t : Bg} {n1 l1 n2 l2 : Nat} {Q : VK} {E : XK} (h1 : Rd H a (.dK (toK s))) (h2 : Rd H b (.dK (toK t))) (L1 : Lot p s n1 l1) (M1 : Lot p t n2 l2) (hn : n1 + n2 < 10000000) (hf : -1000000 < f ∧ f < 1000000) (hp : 1 < p)
    (k : ∀ d H', Ex H H' → H d = none → H' d = some (.dK (toK (plusS p s t f))) → Lot p (plusS p s t f) (n1 + n2) (max l1 l2) → Q (.ref d) H') : sp_law_plus [.int p, .ref a, .ref b, .int f] H Q E :=
  ⟨p, a, b, s, t, f, rfl, h1, h2, M1.g.nd, by have := L1.n; have := M1.n; omega, by omega, hf, fun d H' e hd hd' => k d H' e hd hd' (Lot.plus (by omega) L1 M1 (Nat.le_max_left _ _) (Nat.le_max_right _ _))⟩
theorem mkTimesW {H : Hp} {p m : Int} {a : Addr} {s : Bg} {n1 l1 : Nat} {Q : VK} {E : XK} (h1 : BagAt Cs H a p s) (L1 : Lot p s n1 l1) (hn : n1 < 10000000) (hl : l1 ≤ 10000000) (hp : 1 < p) (hp2 : p ≤ 1000000)
    (k : ∀ x H', Ex H H' → H x = none → BagAt Cs H' x p (plusS p [] s m) → Lot p (plusS p [] s m) (0 + n1) l1 → Q (.ref x) H') : sp_timesW Cs [.ref a, .int m] H Q E :=
  ⟨a, p, s, m, rfl, h1, L1.g.nd, by have := L1.n; omega, fun u hu => Nat.le_trans (L1.l u hu).1 hl, by omega, fun kv hk => by have := L1.g.lo kv hk; have := L1.g.hi kv hk; omega, fun x H' e hx hb => k x H' e hx hb (Lot.plus (by omega) (Lot.nil (a := 0)) L1 (Nat.le_refl _) (Nat.le_refl _))⟩
theorem mkPlusW {H : Hp} {p f : Int} {a b : Addr} {s t : Bg} {n1 l1 n2 l2 : Nat} {Q : VK} {E : XK} (h1 : Rd H a (.dK (toK s))) (h2 : Rd H b (.dK (toK t))) (L1 : Lot p s n1 l1) (M1 : Lot p t n2 l2) (hn : n1 + n2 < 10000000) (hp : 1 < p) (hp2 : p ≤ 1000000)
    (k : ∀ d H', Ex H H' → H d = none → H' d = some (.dK (toK (plusS p s t f))) → Lot p (plusS p s t f) (n1 + n2) (max l1 l2) → Q (.ref d) H') : sp_law_plusW [.int p, .ref a, .ref b, .int f] H Q E :=
  ⟨p, a, b, s, t, f, rfl, h1, h2, M1.g.nd, by have := L1.n; have := M1.n; omega, by omega, fun kv hk => by have := M1.g.lo kv hk; have := M1.g.hi kv hk; omega, fun d H' e hd hd' => k d H' e hd hd' (Lot.plus (by omega) L1 M1 (Nat.le_max_left _ _) (Nat.le_max_right _ _))⟩
theorem seven {a0 a1 a2 a3 a4 a5 a6 w : Int} (h0 : 0 ≤ w) (h1 : w < 7) : ∃ m, atI [V.int a0, .int a1, .int a2, .int a3, .int a4, .int a5, .int a6] w = some (.int m) := by
  have h : w = 0 ∨ w = 1 ∨ w = 2 ∨ w = 3 ∨ w = 4 ∨ w = 5 ∨ w = 6 := by omega
  rcases h with rfl | rfl | rfl | rfl | rfl | rfl | rfl
  all_goals exact ⟨_, rfl⟩

/-! ### the law -/
def sp_law (K : PySem.W.Frag) : Sp := fun vs H Q _ => ∃ (a : Addr) (ns : List Int), vs = [.ref a] ∧ SqL K H a (ns.map V.int) ∧ ∀ H', Q (.bl true) H'
def RL0 (K : PySem.W.Frag) : TS := fun D σ H => ∃ (a : Addr) (ns : List Int), σ = [some (.ref a), none, none, none, none, none, none, none, none, none, none] ∧ SqL K H a (ns.map V.int) ∧ ∀ H', D.rt (.bl true) H'
def RL (Cs : Addr → Prop) : TS := fun D σ H => ∃ (a h c lr lb d0 d1 d2 b0 b1 b2 : Addr) (x4 x6 x7 : Option V) (p : Int) (s0 s1 s2 : Bg), σ = [some (.ref a), some (.ref h), some (.int p), some (.ref lr), x4, some (.ref lb), x6, x7, none, none, none] ∧ Clk p ∧ S3 Cs p lr lb d0 d1 d2 b0 b1 b2 h c s0 s1 s2 H ∧ Lot p s0 120 7 ∧ Lot p s1 120 7 ∧ Lot p s2 120 7 ∧ ∀ H', D.rt (.bl true) H'
end
end Fp

namespace Fp
open PySem L2
section
variable {P : Program} {w : World} {K : PySem.W.Frag} {mg : Str → Option Value} {base : Heap} {C_Bag : Addr} {Cs : Addr → Prop}
local macro_rules | `(tactic| walk_at "hp") => `(tactic| first | assumption | rfl)
local macro_rules | `(tactic| walk_at "cond") => `(tactic| first | assumption | decide | omega | (unfold CMul; omega) | (refine ⟨?_, ?_⟩ <;> omega) | (unfold CDiv; omega) | (unfold CPow; omega))
local macro_rules | `(tactic| walk_at "g1") => `(tactic| first
  | with_reducible first
    | refine g_seq ?_ | refine g_asg ?_ | refine g_name ?_ | refine g_ret ?_ | refine g_retN ?_ | refine g_drop ?_ | refine g_ifs ?_
    | refine g_c ?_ | refine g_op ?_ | refine g_un ?_ | refine g_I0 ?_ | refine g_U ?_
    | refine g_test ?_ | refine g_tB ?_ | refine g_bl ?_ | refine g_and ?_ | refine g_or ?_ | refine g_not ?_
    | refine g_andV ?_ | refine g_orV ?_ | refine g_notV ?_ | refine g_if ?_ | refine g_nil ?_ | refine g_cons ?_ | refine g_cb ?_ | refine g_call ?_
    | refine g_lst ?_ | refine g_tup ?_ | refine g_itT ?_ | refine g_itF ?_ | refine g_itNT ?_ | refine g_itNF ?_ | refine g_lc ?_ | refine g_iStr ?_ | refine g_yes ?_ | refine g_exs ?_
    | refine g_chain ?_ | refine g_dget ?_ | refine g_dput ?_ | refine g_dget2 ?_ | refine g_dpop2 ?_ | refine g_fld ?_ | refine g_sfld ?_ | refine g_make ?_ | refine g_meth ?_
    | refine g_bm ?_ | refine g_kw ?_ | refine g_callS ?_ | refine g_revL ?_ | refine g_m1 ?_ | refine g_gsub ?_ | refine g_for ?_ | refine g_iList ?_ | refine g_iTup ?_ | refine g_iRng1 ?_ | refine g_iRng2 ?_ | refine g_sl ?_ | refine g_part ?_ | refine g_noPart ?_
    | refine g_exi ?_ | refine g_exr ?_ | refine g_dnew ?_ | refine g_disp ?_ | refine g_prs0 ?_ | refine g_prs ?_ | refine g_nxt ?_
  | ((with_reducible refine g_var (v := ?vv) ?gv ?_); (case gv => exact rfl))
  | ((with_reducible refine g_I ?gc ?_); (case gc => walk_at "cond"))
  | ((with_reducible refine g_eq ?ge ?_); (case ge => exact rfl))
  | ((with_reducible refine g_ne ?ge ?_); (case ge => exact rfl))
  | (refine g_ixl (SqL.of (by first | assumption | exact upd_same)) rfl ?_)
  | (refine g_setl (by first | assumption | exact upd_same) rfl ?_)
  | ((with_reducible show (∃ i, [V.int _] = [V.int i] ∧ _) ∨ _); refine Or.inl ⟨_, rfl, ?_⟩)
  | ((with_reducible show ∃ i, [V.int _] = [V.int i] ∧ _); refine ⟨_, rfl, ?_⟩)
  | dsimp only)
local macro_rules | `(tactic| walk_at "go") => `(tactic| repeat (walk_at "g1"))

local macro_rules | `(tactic| walk_at "ex") => `(tactic| first
  | assumption
  | exact Ex.refl _
  | (refine Ex.trans ?_ (by assumption); walk_at "ex")
  | (refine BagAt.ex' (by assumption) ?_; walk_at "ex")
  | (refine HandAt.ex' (by assumption) ?_; walk_at "ex")
  | (refine DcsAt.ex' (by assumption) ?_; walk_at "ex")
  | (refine BgsAt.ex' (by assumption) ?_; walk_at "ex")
  | (refine DcsAt.hand (by assumption) (by assumption) ?_; walk_at "ex")
  | (refine BgsAt.hand (by assumption) (by assumption) ?_; walk_at "ex")
  | (refine WordsAt.ex' (by assumption) ?_; walk_at "ex")
  | (refine Ex.at' (by assumption) ?_; walk_at "ex")
  | (refine SqL.of ?_; walk_at "ex")
  | (refine SqT.of ?_; walk_at "ex")
  | (refine Or.inl ?_; walk_at "ex")
  | (refine BagAt.hand (by assumption) (by assumption) ?_; walk_at "ex")
  | (refine hand_dkE (by assumption) (by assumption) ?_; walk_at "ex")
  | (refine hand_lstE (by assumption) (by assumption) (by simp) ?_; walk_at "ex"))
local macro_rules | `(tactic| walk_at "go2") => `(tactic| (walk_at "go"; (repeat (refine g_ixl (SqL.of (by walk_at "ex")) rfl ?_; walk_at "go"))))

theorem law_0 {f : Addr} {cdv : Value} {A : Around} {outer : List Env} {s0 : Shared} {H0 : Hp} {E : XK} (hr : Room 13 (bodyA "law" s_law f cdv A s0)) (T : Txt K mg C_Bag Cs)
    (D_law_hand : DefOk P w K mg base CX0 1 "_law_hand" ["_law_script"] (sp_law_hand K)) (D_law_clock : DefOk P w K mg base CX0 2 "_law_clock" ["_law_hand_here"] sp_law_clock) (D_law_some : DefOk P w K mg base CX0 4 "_law_some" ["_law_hand_here", "_law_clock_here"] sp_law_some) (D_mk_Bag : MkOk P w K mg base CX0 6 "Bag" C_Bag ["self", "clock", "words"] (sp_bag_init C_Bag Cs))
    (next : PSs (bodyX P w K mg base N_law "law" s_law f cdv A outer s0 H0 E) ((defBody s_law).drop 4) (RL Cs)) : PSs (bodyX P w K mg base N_law "law" s_law f cdv A outer s0 H0 E) ((defBody s_law).drop 0) (RL0 K) := by
  have hu := hu_of hr
  have hu64 := L2.Room.units hr
  refine pss_imp (pss_cons (ps_set (i := 1) sc_law.nd rfl (by first | exact Or.inl rfl | exact Or.inr rfl) (pe_callD D_law_hand (hr.mono (by decide)) rfl pass0 (pa_cons (pv 0) pa_nil))) (pss_cons (ps_set (i := 2) sc_law.nd rfl (by first | exact Or.inl rfl | exact Or.inr rfl) (pe_callD D_law_clock (hr.mono (by decide)) rfl pass0 (pa_cons (pv 1) pa_nil))) (pss_cons (ps_setLc (i := 3) (own := [("_law_turn", 4)]) (g := (gName 4)) (tt := tYes) rfl sc_law.nd rfl rfl rfl (pi_range1 rfl T.b_range (pa_cons pe_int pa_nil)) (blkOk_by (N := N_law) (sc := defScope s_law) (by decide +kernel)) (fun _ _ _ _ _ => (pg_name (i := 4) sc_law.nd rfl (by first | exact Or.inl rfl | exact Or.inr rfl))) (fun _ _ _ _ _ => pts_nil) (fun _ _ _ _ _ => (pe_callD D_law_some (hr.mono (by decide)) rfl pass0 (pa_cons (pv 1) (pa_cons (pv 2) pa_nil))))) (pss_cons (ps_setLc (i := 5) (own := [("_law_words_here", 6)]) (g := (gName 6)) (tt := tYes) rfl sc_law.nd rfl rfl rfl (pi_list (pv 3)) (blkOk_by (N := N_law) (sc := defScope s_law) (by decide +kernel)) (fun _ _ _ _ _ => (pg_name (i := 6) sc_law.nd rfl (by first | exact Or.inl rfl | exact Or.inr rfl))) (fun _ _ _ _ _ => pts_nil) (fun _ _ _ _ _ => (pe_mkD D_mk_Bag (hr.mono (by decide)) rfl pass0 (pa_cons (pv 2) (pa_cons (pv 6) pa_nil))))) next)))) ?_
  rintro D σ H ⟨a, ns, rfl, hs, k⟩
  (try dsimp only [bodyX, cxOf])
  walk_at "go"
  refine ⟨a, ns, rfl, hs, fun h c H1 e1 hn1 hh1 => ?_⟩
  walk_at "go"
  refine ⟨h, c, rfl, hh1, fun p H2 hp e2 hh2 => ?_⟩
  replace hp : Clk p := hp
  have hp2 := hp.lo
  have hp7 := hp.hi
  walk_at "go"
  refine ⟨by decide, by decide, ?_⟩
  refine lc_mutR (f := h) walk_range hh2.kind.choose_spec (Nat.le_of_ble_eq_true rfl) (fun H => HandAt H h c) hh2 (fun H D o hD hx => hx.upd (hh2.new hD).1 (hh2.new hD).2) (fun _ _ _ => trivial) (fun _ y H => ∃ d s, y = V.ref d ∧ H d = some (.dK (toK s)) ∧ Lot p s 120 7)
    (fun _ y H H' e hh ⟨d, s, h1, h2, h3⟩ => ⟨d, s, h1, hand_dk hh e h2, h3⟩) (fun _ y H D ys zs hD ⟨d, s, h1, h2, h3⟩ => ⟨d, s, h1, by rw [upd_ne (ne_of h2 hD (fun z => nomatch z))]; exact h2, h3⟩) (fun _ => rfl) ?_ ?_
  · rintro i x H4 H4' Kc hi e4 hh4 ⟨rfl, rfl⟩ hk
    walk_at "go"
    exact ⟨h, c, p, rfl, hh4, hp2, by omega, fun d s H5 e5 _ hd ls hh5 => hk _ _ e5 hh5 ⟨d, s, rfl, hd, ls⟩⟩
  intro lr H5 ys hD e5 hh5 hls hyl hys
  obtain ⟨ds, ss, rfl, hps⟩ := paired_all (F := fun d s => H5 d = some (.dK (toK s)) ∧ Lot p s 120 7) hys
  have hlen := hps.length
  rw [List.length_map] at hyl
  obtain ⟨d0, d1, d2, s0, s1, s2, rfl, rfl, q0, q1, q2⟩ := paired_3 hps hyl
  walk_at "go"
  refine ⟨⟨_, SqL.of hls⟩, ?_⟩
  have hd2 : Paired (fun d s => H5 d = some (.dK (toK s)) ∧ Lot p s 120 7) [d0, d1, d2] [s0, s1, s2] := hps
  refine lc_relL walk_list [s0, s1, s2] rfl (Nat.le_of_ble_eq_true rfl) (fun H' e => SqL.of (e _ _ hls)) (fun s y H => ∃ x, y = V.ref x ∧ BagAt Cs H x p s) (fun s y H H' e ⟨x, h1, h2⟩ => ⟨x, h1, h2.exl e⟩) (fun _ => rfl) ?_ ?_
  · rintro i x s H6 H6' Kc hi e6 ⟨rfl, hx⟩ hss hk
    rw [List.getElem?_map] at hx
    obtain ⟨d, hd, rfl⟩ := Option.map_eq_some_iff.mp hx
    obtain ⟨s', hs', hds, hl⟩ := paired_get hd2 hd
    rw [hss] at hs'
    cases hs'
    walk_at "go"
    refine g_mkBag hp (e6 _ _ hds) (hl.mono (by decide) (by decide)) fun x H7 e7 _ hx7 => hk _ _ e7 ⟨x, rfl, hx7⟩
  intro lb H6 ys hlb0 e6 hlb hpb
  obtain ⟨y0, y1, y2, rfl, ⟨b0, rfl, hb0⟩, ⟨b1, rfl, hb1⟩, ⟨b2, rfl, hb2⟩⟩ := paired3 hpb
  walk_at "go"
  exact ⟨a, h, c, lr, lb, d0, d1, d2, b0, b1, b2, _, _, _, p, s0, s1, s2, rfl, hp, ⟨e6 _ _ hls, hlb, e6 _ _ q0.1, e6 _ _ q1.1, e6 _ _ q2.1, hb0, hb1, hb2, hh5.ex' e6⟩, q0.2, q1.2, q2.2, k⟩
end
end Fp

namespace Fp
open PySem L2
section
variable {P : Program} {w : World} {K : PySem.W.Frag} {mg : Str → Option Value} {base : Heap} {C_Bag : Addr} {Cs : Addr → Prop}
local macro_rules | `(tactic| walk_at "hp") => `(tactic| first | assumption | rfl)
local macro_rules | `(tactic| walk_at "cond") => `(tactic| first | assumption | decide | omega | (unfold CMul; omega) | (refine ⟨?_, ?_⟩ <;> omega) | (unfold CDiv; omega) | (unfold CPow; omega))
local macro_rules | `(tactic| walk_at "g1") => `(tactic| first
  | with_reducible first
    | refine g_seq ?_ | refine g_asg ?_ | refine g_name ?_ | refine g_ret ?_ | refine g_retN ?_ | refine g_drop ?_ | refine g_ifs ?_
    | refine g_c ?_ | refine g_op ?_ | refine g_un ?_ | refine g_I0 ?_ | refine g_U ?_
    | refine g_test ?_ | refine g_tB ?_ | refine g_bl ?_ | refine g_and ?_ | refine g_or ?_ | refine g_not ?_
    | refine g_andV ?_ | refine g_orV ?_ | refine g_notV ?_ | refine g_if ?_ | refine g_nil ?_ | refine g_cons ?_ | refine g_cb ?_ | refine g_call ?_
    | refine g_lst ?_ | refine g_tup ?_ | refine g_itT ?_ | refine g_itF ?_ | refine g_itNT ?_ | refine g_itNF ?_ | refine g_lc ?_ | refine g_iStr ?_ | refine g_yes ?_ | refine g_exs ?_
    | refine g_chain ?_ | refine g_dget ?_ | refine g_dput ?_ | refine g_dget2 ?_ | refine g_dpop2 ?_ | refine g_fld ?_ | refine g_sfld ?_ | refine g_make ?_ | refine g_meth ?_
    | refine g_bm ?_ | refine g_kw ?_ | refine g_callS ?_ | refine g_revL ?_ | refine g_m1 ?_ | refine g_gsub ?_ | refine g_for ?_ | refine g_iList ?_ | refine g_iTup ?_ | refine g_iRng1 ?_ | refine g_iRng2 ?_ | refine g_sl ?_ | refine g_part ?_ | refine g_noPart ?_
    | refine g_exi ?_ | refine g_exr ?_ | refine g_dnew ?_ | refine g_disp ?_ | refine g_prs0 ?_ | refine g_prs ?_ | refine g_nxt ?_
  | ((with_reducible refine g_var (v := ?vv) ?gv ?_); (case gv => exact rfl))
  | ((with_reducible refine g_I ?gc ?_); (case gc => walk_at "cond"))
  | ((with_reducible refine g_eq ?ge ?_); (case ge => exact rfl))
  | ((with_reducible refine g_ne ?ge ?_); (case ge => exact rfl))
  | (refine g_ixl (SqL.of (by first | assumption | exact upd_same)) rfl ?_)
  | (refine g_setl (by first | assumption | exact upd_same) rfl ?_)
  | ((with_reducible show (∃ i, [V.int _] = [V.int i] ∧ _) ∨ _); refine Or.inl ⟨_, rfl, ?_⟩)
  | ((with_reducible show ∃ i, [V.int _] = [V.int i] ∧ _); refine ⟨_, rfl, ?_⟩)
  | dsimp only)
local macro_rules | `(tactic| walk_at "go") => `(tactic| repeat (walk_at "g1"))

local macro_rules | `(tactic| walk_at "ex") => `(tactic| first
  | assumption
  | exact Ex.refl _
  | (refine Ex.trans ?_ (by assumption); walk_at "ex")
  | (refine BagAt.ex' (by assumption) ?_; walk_at "ex")
  | (refine HandAt.ex' (by assumption) ?_; walk_at "ex")
  | (refine DcsAt.ex' (by assumption) ?_; walk_at "ex")
  | (refine BgsAt.ex' (by assumption) ?_; walk_at "ex")
  | (refine DcsAt.hand (by assumption) (by assumption) ?_; walk_at "ex")
  | (refine BgsAt.hand (by assumption) (by assumption) ?_; walk_at "ex")
  | (refine WordsAt.ex' (by assumption) ?_; walk_at "ex")
  | (refine Ex.at' (by assumption) ?_; walk_at "ex")
  | (refine SqL.of ?_; walk_at "ex")
  | (refine SqT.of ?_; walk_at "ex")
  | (refine Or.inl ?_; walk_at "ex")
  | (refine BagAt.hand (by assumption) (by assumption) ?_; walk_at "ex")
  | (refine hand_dkE (by assumption) (by assumption) ?_; walk_at "ex")
  | (refine hand_lstE (by assumption) (by assumption) (by simp) ?_; walk_at "ex"))
local macro_rules | `(tactic| walk_at "go2") => `(tactic| (walk_at "go"; (repeat (refine g_ixl (SqL.of (by walk_at "ex")) rfl ?_; walk_at "go"))))

theorem law_1 {f : Addr} {cdv : Value} {A : Around} {outer : List Env} {s0 : Shared} {H0 : Hp} {E : XK} (hr : Room 13 (bodyA "law" s_law f cdv A s0)) (T : Txt K mg C_Bag Cs)
    (D_together : DefOk P w K mg base CX0 9 "together" ["one", "other"] (sp_sum 1 Cs)) (D_less : DefOk P w K mg base CX0 9 "less" ["one", "other"] (sp_sum (-1) Cs)) (D_law_is : DefOk P w K mg base CX0 3 "_law_is" ["_law_told", "_law_clock_here", "_law_bag"] (sp_law_is Cs)) (D_law_plus : DefOk P w K mg base CX0 2 "_law_plus" ["_law_clock_here", "_law_one", "_law_other", "_law_factor"] sp_law_plus)
    (next : PSs (bodyX P w K mg base N_law "law" s_law f cdv A outer s0 H0 E) ((defBody s_law).drop 6) (RL Cs)) : PSs (bodyX P w K mg base N_law "law" s_law f cdv A outer s0 H0 E) ((defBody s_law).drop 4) (RL Cs) := by
  have hu := hu_of hr
  have hu64 := L2.Room.units hr
  refine pss_imp (pss_cons (ps_if (pt_not (pt_val (pe_callD D_law_is (hr.mono (by decide)) rfl pass0 (pa_cons (pe_callD D_together (hr.mono (by decide)) rfl pass0 (pa_cons (pe_ix (r := rIxL K) ix_list (pv 5) pe_int (fun _ _ => rfl)) (pa_cons (pe_ix (r := rIxL K) ix_list (pv 5) pe_int (fun _ _ => rfl)) pa_nil))) (pa_cons (pv 2) (pa_cons (pe_callD D_law_plus (hr.mono (by decide)) rfl pass0 (pa_cons (pv 2) (pa_cons (pe_ix (r := rIxL K) ix_list (pv 3) pe_int (fun _ _ => rfl)) (pa_cons (pe_ix (r := rIxL K) ix_list (pv 3) pe_int (fun _ _ => rfl)) (pa_cons pe_int pa_nil))))) pa_nil)))))) (pss_one (ps_ret pe_bl)) pss_nil) (pss_cons (ps_if (pt_not (pt_val (pe_callD D_law_is (hr.mono (by decide)) rfl pass0 (pa_cons (pe_callD D_less (hr.mono (by decide)) rfl pass0 (pa_cons (pe_ix (r := rIxL K) ix_list (pv 5) pe_int (fun _ _ => rfl)) (pa_cons (pe_ix (r := rIxL K) ix_list (pv 5) pe_int (fun _ _ => rfl)) pa_nil))) (pa_cons (pv 2) (pa_cons (pe_callD D_law_plus (hr.mono (by decide)) rfl pass0 (pa_cons (pv 2) (pa_cons (pe_ix (r := rIxL K) ix_list (pv 3) pe_int (fun _ _ => rfl)) (pa_cons (pe_ix (r := rIxL K) ix_list (pv 3) pe_int (fun _ _ => rfl)) (pa_cons (pe_un un_neg pe_int) pa_nil))))) pa_nil)))))) (pss_one (ps_ret pe_bl)) pss_nil) next)) ?_
  rintro D σ H ⟨a, h, c, lr, lb, d0, d1, d2, b0, b1, b2, x4, x6, x7, p, s0, s1, s2, rfl, hp, S, l0, l1, l2, k⟩
  (try dsimp only [bodyX, cxOf])
  have hp2 := hp.lo
  have hp7 := hp.hi
  have hp1 : 1 < p := by omega
  have hp0 : 0 < p := by omega
  obtain ⟨r, l, u0, u1, u2, v0, v1, v2, hh⟩ := id S
  walk_at "go2"

  refine mkSum (by walk_at "ex") (by walk_at "ex") l0 l1 (by decide) (by decide) (by decide) hp1 fun x1 H1 e1 _ hx1 lx1 => ?_
  walk_at "go2"
  refine mkPlus (by walk_at "ex") (by walk_at "ex") l0 l1 (by decide) (by decide) hp1 fun d3 H2 e2 _ hd3 _ => ?_
  walk_at "go2"
  refine mkIs (by walk_at "ex") (by walk_at "ex") lx1 (by decide) (by decide) rfl fun H3 e3 => ?_
  walk_at "go2"

  refine mkSum (by walk_at "ex") (by walk_at "ex") l0 l1 (by decide) (by decide) (by decide) hp1 fun x4' H4 e4 _ hx4 lx4 => ?_
  walk_at "go2"
  refine mkPlus (by walk_at "ex") (by walk_at "ex") l0 l1 (by decide) (by decide) hp1 fun d5 H5 e5 _ hd5 _ => ?_
  walk_at "go2"
  refine mkIs (by walk_at "ex") (by walk_at "ex") lx4 (by decide) (by decide) rfl fun H6 e6 => ?_
  walk_at "go2"
  exact ⟨a, h, c, lr, lb, d0, d1, d2, b0, b1, b2, x4, x6, x7, p, s0, s1, s2, rfl, hp, S.ex (by walk_at "ex"), l0, l1, l2, k⟩
end
end Fp

namespace Fp
open PySem L2
section
variable {P : Program} {w : World} {K : PySem.W.Frag} {mg : Str → Option Value} {base : Heap} {C_Bag : Addr} {Cs : Addr → Prop}
local macro_rules | `(tactic| walk_at "hp") => `(tactic| first | assumption | rfl)
local macro_rules | `(tactic| walk_at "cond") => `(tactic| first | assumption | decide | omega | (unfold CMul; omega) | (refine ⟨?_, ?_⟩ <;> omega) | (unfold CDiv; omega) | (unfold CPow; omega))
local macro_rules | `(tactic| walk_at "g1") => `(tactic| first
  | with_reducible first
    | refine g_seq ?_ | refine g_asg ?_ | refine g_name ?_ | refine g_ret ?_ | refine g_retN ?_ | refine g_drop ?_ | refine g_ifs ?_
    | refine g_c ?_ | refine g_op ?_ | refine g_un ?_ | refine g_I0 ?_ | refine g_U ?_
    | refine g_test ?_ | refine g_tB ?_ | refine g_bl ?_ | refine g_and ?_ | refine g_or ?_ | refine g_not ?_
    | refine g_andV ?_ | refine g_orV ?_ | refine g_notV ?_ | refine g_if ?_ | refine g_nil ?_ | refine g_cons ?_ | refine g_cb ?_ | refine g_call ?_
    | refine g_lst ?_ | refine g_tup ?_ | refine g_itT ?_ | refine g_itF ?_ | refine g_itNT ?_ | refine g_itNF ?_ | refine g_lc ?_ | refine g_iStr ?_ | refine g_yes ?_ | refine g_exs ?_
    | refine g_chain ?_ | refine g_dget ?_ | refine g_dput ?_ | refine g_dget2 ?_ | refine g_dpop2 ?_ | refine g_fld ?_ | refine g_sfld ?_ | refine g_make ?_ | refine g_meth ?_
    | refine g_bm ?_ | refine g_kw ?_ | refine g_callS ?_ | refine g_revL ?_ | refine g_m1 ?_ | refine g_gsub ?_ | refine g_for ?_ | refine g_iList ?_ | refine g_iTup ?_ | refine g_iRng1 ?_ | refine g_iRng2 ?_ | refine g_sl ?_ | refine g_part ?_ | refine g_noPart ?_
    | refine g_exi ?_ | refine g_exr ?_ | refine g_dnew ?_ | refine g_disp ?_ | refine g_prs0 ?_ | refine g_prs ?_ | refine g_nxt ?_
  | ((with_reducible refine g_var (v := ?vv) ?gv ?_); (case gv => exact rfl))
  | ((with_reducible refine g_I ?gc ?_); (case gc => walk_at "cond"))
  | ((with_reducible refine g_eq ?ge ?_); (case ge => exact rfl))
  | ((with_reducible refine g_ne ?ge ?_); (case ge => exact rfl))
  | (refine g_ixl (SqL.of (by first | assumption | exact upd_same)) rfl ?_)
  | (refine g_setl (by first | assumption | exact upd_same) rfl ?_)
  | ((with_reducible show (∃ i, [V.int _] = [V.int i] ∧ _) ∨ _); refine Or.inl ⟨_, rfl, ?_⟩)
  | ((with_reducible show ∃ i, [V.int _] = [V.int i] ∧ _); refine ⟨_, rfl, ?_⟩)
  | dsimp only)
local macro_rules | `(tactic| walk_at "go") => `(tactic| repeat (walk_at "g1"))

local macro_rules | `(tactic| walk_at "ex") => `(tactic| first
  | assumption
  | exact Ex.refl _
  | (refine Ex.trans ?_ (by assumption); walk_at "ex")
  | (refine BagAt.ex' (by assumption) ?_; walk_at "ex")
  | (refine HandAt.ex' (by assumption) ?_; walk_at "ex")
  | (refine DcsAt.ex' (by assumption) ?_; walk_at "ex")
  | (refine BgsAt.ex' (by assumption) ?_; walk_at "ex")
  | (refine DcsAt.hand (by assumption) (by assumption) ?_; walk_at "ex")
  | (refine BgsAt.hand (by assumption) (by assumption) ?_; walk_at "ex")
  | (refine WordsAt.ex' (by assumption) ?_; walk_at "ex")
  | (refine Ex.at' (by assumption) ?_; walk_at "ex")
  | (refine SqL.of ?_; walk_at "ex")
  | (refine SqT.of ?_; walk_at "ex")
  | (refine Or.inl ?_; walk_at "ex")
  | (refine BagAt.hand (by assumption) (by assumption) ?_; walk_at "ex")
  | (refine hand_dkE (by assumption) (by assumption) ?_; walk_at "ex")
  | (refine hand_lstE (by assumption) (by assumption) (by simp) ?_; walk_at "ex"))
local macro_rules | `(tactic| walk_at "go2") => `(tactic| (walk_at "go"; (repeat (refine g_ixl (SqL.of (by walk_at "ex")) rfl ?_; walk_at "go"))))

theorem law_2 {f : Addr} {cdv : Value} {A : Around} {outer : List Env} {s0 : Shared} {H0 : Hp} {E : XK} (hr : Room 13 (bodyA "law" s_law f cdv A s0)) (T : Txt K mg C_Bag Cs)
    (D_law_all_right : DefOk P w K mg base CX0 10 "_law_all_right" ["_law_hand_here", "_law_clock_here", "_law_rows"] (sp_law_all_right K Cs))
    (next : PSs (bodyX P w K mg base N_law "law" s_law f cdv A outer s0 H0 E) ((defBody s_law).drop 7) (RL Cs)) : PSs (bodyX P w K mg base N_law "law" s_law f cdv A outer s0 H0 E) ((defBody s_law).drop 6) (RL Cs) := by
  have hu := hu_of hr
  have hu64 := L2.Room.units hr
  refine pss_imp (pss_cons (ps_if (pt_not (pt_val (pe_callD D_law_all_right (hr.mono (by decide)) rfl pass0 (pa_cons (pv 1) (pa_cons (pv 2) (pa_cons (pe_op op_cat (pv 3) (pe_lst (pa_cons pe_dnewK (pa_cons (pe_disp (pps_cons pe_str pe_int pps_nil) rfl rfl (List.cons_ne_nil _ _) (Nat.le_of_ble_eq_true rfl)) (pa_cons (pe_disp (pps_cons pe_str pe_int pps_nil) rfl rfl (List.cons_ne_nil _ _) (Nat.le_of_ble_eq_true rfl)) pa_nil))))) pa_nil)))))) (pss_one (ps_ret pe_bl)) pss_nil) next) ?_
  rintro D σ H ⟨a, h, c, lr, lb, d0, d1, d2, b0, b1, b2, x4, x6, x7, p, s0, s1, s2, rfl, hp, S, l0, l1, l2, k⟩
  (try dsimp only [bodyX, cxOf])
  have hp2 := hp.lo
  have hp7 := hp.hi
  have hp1 : 1 < p := by omega
  have hp0 : 0 < p := by omega
  obtain ⟨r, l, u0, u1, u2, v0, v1, v2, hh⟩ := id S
  walk_at "go2"

  intro q0 hq0
  walk_at "go"
  have e1 : Ex H (upd H q0 (.dK [])) := Ex.new hq0
  have f1 : upd H q0 (.dK []) q0 = some (.dK (toK [])) := upd_same
  generalize upd H q0 (.dK []) = H1 at e1 f1 ⊢
  intro q1 hq1
  walk_at "go"
  refine ⟨upd_same, toK [("", 1)], rfl, Nat.le_of_ble_eq_true rfl, ?_⟩
  rw [mergeK_toK (s := [("", 1)]) (by decide +kernel)]
  have e2 : Ex H1 (upd (upd H1 q1 (.dK [])) q1 (.dK (toK [("", 1)]))) := Ex.mut (Ex.new hq1) hq1
  have f2 : upd (upd H1 q1 (.dK [])) q1 (.dK (toK [("", 1)])) q1 = some (.dK (toK [("", 1)])) := upd_same
  generalize upd (upd H1 q1 (.dK [])) q1 (.dK (toK [("", 1)])) = H2 at e2 f2 ⊢
  walk_at "go"
  intro q2 hq2
  walk_at "go"
  refine ⟨upd_same, toK [("x", 1)], rfl, Nat.le_of_ble_eq_true rfl, ?_⟩
  rw [mergeK_toK (s := [("x", 1)]) (by decide +kernel)]
  have e3 : Ex H2 (upd (upd H2 q2 (.dK [])) q2 (.dK (toK [("x", 1)]))) := Ex.mut (Ex.new hq2) hq2
  have f3 : upd (upd H2 q2 (.dK [])) q2 (.dK (toK [("x", 1)])) q2 = some (.dK (toK [("x", 1)])) := upd_same
  generalize upd (upd H2 q2 (.dK [])) q2 (.dK (toK [("x", 1)])) = H3 at e3 f3 ⊢
  walk_at "go"
  refine ⟨Nat.le_of_ble_eq_true rfl, fun la hla => ?_⟩
  have e4 : Ex H3 (upd H3 la (.lst [.ref q0, .ref q1, .ref q2])) := Ex.new hla
  have f4 : upd H3 la (.lst [.ref q0, .ref q1, .ref q2]) la = some (.lst [.ref q0, .ref q1, .ref q2]) := upd_same
  generalize upd H3 la (.lst [.ref q0, .ref q1, .ref q2]) = H4 at e4 f4 ⊢
  have r4 : H4 lr = some (.lst [.ref d0, .ref d1, .ref d2]) := by walk_at "ex"
  refine ⟨lr, la, _, _, rfl, rfl, r4, f4, Nat.le_of_ble_eq_true rfl, fun lc hlc => ?_⟩
  have e5 : Ex H4 (upd H4 lc (.lst ([.ref d0, .ref d1, .ref d2] ++ [.ref q0, .ref q1, .ref q2]))) := Ex.new hlc
  have f5 : upd H4 lc (.lst ([.ref d0, .ref d1, .ref d2] ++ [.ref q0, .ref q1, .ref q2])) lc = some (.lst ([d0, d1, d2, q0, q1, q2].map V.ref)) := upd_same
  generalize upd H4 lc (.lst ([.ref d0, .ref d1, .ref d2] ++ [.ref q0, .ref q1, .ref q2])) = H5 at e5 f5 ⊢
  walk_at "go"
  have lone : Lot p [("", 1)] 120 7 := (one1_lot hp1).mono (by decide) (by decide)
  have lx : Lot p [("x", 1)] 120 7 := Lot.of (by decide +kernel) (Nat.le_of_ble_eq_true rfl) (fun u hu => by rw [show u = ("x" : Str) from List.mem_singleton.mp hu]; exact ⟨by decide, by decide +kernel⟩) (fun kv hkv => by rw [List.mem_singleton.mp hkv]; exact ⟨by decide, by omega⟩)
  have hh5 : HandAt H5 h c := by walk_at "ex"
  refine ⟨h, c, lc, p, [s0, s1, s2, [], [("", 1)], [("x", 1)]], rfl, hh5, hp, ⟨_, f5, .cons ?_ (.cons ?_ (.cons ?_ (.cons ?_ (.cons ?_ (.cons ?_ .nil)))))⟩, ?_, Nat.le_of_ble_eq_true rfl, Nat.le_of_ble_eq_true rfl, fun H6 e6 hh6 => ?_⟩
  all_goals try (walk_at "ex"; done)
  · intro s hs
    simp only [List.mem_cons, List.not_mem_nil, or_false] at hs
    rcases hs with rfl | rfl | rfl | rfl | rfl | rfl
    · exact l0
    · exact l1
    · exact l2
    · exact Lot.nil
    · exact lone
    · exact lx
  walk_at "go"
  have e05 : Ex H H5 := by walk_at "ex"
  exact ⟨a, h, c, lr, lb, d0, d1, d2, b0, b1, b2, x4, x6, x7, p, s0, s1, s2, rfl, hp, S.exh (fun a o n q => e6 _ _ n (e05 _ _ q)) hh6, l0, l1, l2, k⟩
end
end Fp

namespace Fp
open PySem L2
section
variable {P : Program} {w : World} {K : PySem.W.Frag} {mg : Str → Option Value} {base : Heap} {C_Bag : Addr} {Cs : Addr → Prop}
local macro_rules | `(tactic| walk_at "hp") => `(tactic| first | assumption | rfl)
local macro_rules | `(tactic| walk_at "cond") => `(tactic| first | assumption | decide | omega | (unfold CMul; omega) | (refine ⟨?_, ?_⟩ <;> omega) | (unfold CDiv; omega) | (unfold CPow; omega))
local macro_rules | `(tactic| walk_at "g1") => `(tactic| first
  | with_reducible first
    | refine g_seq ?_ | refine g_asg ?_ | refine g_name ?_ | refine g_ret ?_ | refine g_retN ?_ | refine g_drop ?_ | refine g_ifs ?_
    | refine g_c ?_ | refine g_op ?_ | refine g_un ?_ | refine g_I0 ?_ | refine g_U ?_
    | refine g_test ?_ | refine g_tB ?_ | refine g_bl ?_ | refine g_and ?_ | refine g_or ?_ | refine g_not ?_
    | refine g_andV ?_ | refine g_orV ?_ | refine g_notV ?_ | refine g_if ?_ | refine g_nil ?_ | refine g_cons ?_ | refine g_cb ?_ | refine g_call ?_
    | refine g_lst ?_ | refine g_tup ?_ | refine g_itT ?_ | refine g_itF ?_ | refine g_itNT ?_ | refine g_itNF ?_ | refine g_lc ?_ | refine g_iStr ?_ | refine g_yes ?_ | refine g_exs ?_
    | refine g_chain ?_ | refine g_dget ?_ | refine g_dput ?_ | refine g_dget2 ?_ | refine g_dpop2 ?_ | refine g_fld ?_ | refine g_sfld ?_ | refine g_make ?_ | refine g_meth ?_
    | refine g_bm ?_ | refine g_kw ?_ | refine g_callS ?_ | refine g_revL ?_ | refine g_m1 ?_ | refine g_gsub ?_ | refine g_for ?_ | refine g_iList ?_ | refine g_iTup ?_ | refine g_iRng1 ?_ | refine g_iRng2 ?_ | refine g_sl ?_ | refine g_part ?_ | refine g_noPart ?_
    | refine g_exi ?_ | refine g_exr ?_ | refine g_dnew ?_ | refine g_disp ?_ | refine g_prs0 ?_ | refine g_prs ?_ | refine g_nxt ?_
  | ((with_reducible refine g_var (v := ?vv) ?gv ?_); (case gv => exact rfl))
  | ((with_reducible refine g_I ?gc ?_); (case gc => walk_at "cond"))
  | ((with_reducible refine g_eq ?ge ?_); (case ge => exact rfl))
  | ((with_reducible refine g_ne ?ge ?_); (case ge => exact rfl))
  | (refine g_ixl (SqL.of (by first | assumption | exact upd_same)) rfl ?_)
  | (refine g_setl (by first | assumption | exact upd_same) rfl ?_)
  | ((with_reducible show (∃ i, [V.int _] = [V.int i] ∧ _) ∨ _); refine Or.inl ⟨_, rfl, ?_⟩)
  | ((with_reducible show ∃ i, [V.int _] = [V.int i] ∧ _); refine ⟨_, rfl, ?_⟩)
  | dsimp only)
local macro_rules | `(tactic| walk_at "go") => `(tactic| repeat (walk_at "g1"))

local macro_rules | `(tactic| walk_at "ex") => `(tactic| first
  | assumption
  | exact Ex.refl _
  | (refine Ex.trans ?_ (by assumption); walk_at "ex")
  | (refine BagAt.ex' (by assumption) ?_; walk_at "ex")
  | (refine HandAt.ex' (by assumption) ?_; walk_at "ex")
  | (refine DcsAt.ex' (by assumption) ?_; walk_at "ex")
  | (refine BgsAt.ex' (by assumption) ?_; walk_at "ex")
  | (refine DcsAt.hand (by assumption) (by assumption) ?_; walk_at "ex")
  | (refine BgsAt.hand (by assumption) (by assumption) ?_; walk_at "ex")
  | (refine WordsAt.ex' (by assumption) ?_; walk_at "ex")
  | (refine Ex.at' (by assumption) ?_; walk_at "ex")
  | (refine SqL.of ?_; walk_at "ex")
  | (refine SqT.of ?_; walk_at "ex")
  | (refine Or.inl ?_; walk_at "ex")
  | (refine BagAt.hand (by assumption) (by assumption) ?_; walk_at "ex")
  | (refine hand_dkE (by assumption) (by assumption) ?_; walk_at "ex")
  | (refine hand_lstE (by assumption) (by assumption) (by simp) ?_; walk_at "ex"))
local macro_rules | `(tactic| walk_at "go2") => `(tactic| (walk_at "go"; (repeat (refine g_ixl (SqL.of (by walk_at "ex")) rfl ?_; walk_at "go"))))

theorem law_3 {f : Addr} {cdv : Value} {A : Around} {outer : List Env} {s0 : Shared} {H0 : Hp} {E : XK} (hr : Room 13 (bodyA "law" s_law f cdv A s0)) (T : Txt K mg C_Bag Cs)
    (D_law_draw : DefOk P w K mg base CX0 1 "_law_draw" ["_law_hand_here", "_law_many"] sp_law_draw) (D_times : DefOk P w K mg base CX0 9 "times" ["bag", "number"] (sp_timesW Cs)) (D_law_is : DefOk P w K mg base CX0 3 "_law_is" ["_law_told", "_law_clock_here", "_law_bag"] (sp_law_is Cs)) (D_law_plus : DefOk P w K mg base CX0 2 "_law_plus" ["_law_clock_here", "_law_one", "_law_other", "_law_factor"] sp_law_plusW)
    (next : PSs (bodyX P w K mg base N_law "law" s_law f cdv A outer s0 H0 E) ((defBody s_law).drop 9) (RL Cs)) : PSs (bodyX P w K mg base N_law "law" s_law f cdv A outer s0 H0 E) ((defBody s_law).drop 7) (RL Cs) := by
  have hu := hu_of hr
  have hu64 := L2.Room.units hr
  refine pss_imp (pss_cons (ps_set (i := 7) sc_law.nd rfl (by first | exact Or.inl rfl | exact Or.inr rfl) (pe_ix (r := rIxL K) ix_list (pe_lst (pa_cons pe_int (pa_cons pe_int (pa_cons (pe_un un_neg pe_int) (pa_cons (pv 2) (pa_cons (pe_op op_pow pe_int pe_int) (pa_cons (pe_op op_add (pe_un un_neg (pe_op op_pow pe_int pe_int)) pe_int) (pa_cons (pe_op op_sub (pe_callD D_law_draw (hr.mono (by decide)) rfl pass0 (pa_cons (pv 1) (pa_cons pe_int pa_nil))) pe_int) pa_nil)))))))) (pe_callD D_law_draw (hr.mono (by decide)) rfl pass0 (pa_cons (pv 1) (pa_cons pe_int pa_nil))) (fun _ _ => rfl))) (pss_cons (ps_if (pt_not (pt_val (pe_callD D_law_is (hr.mono (by decide)) rfl pass0 (pa_cons (pe_callD D_times (hr.mono (by decide)) rfl pass0 (pa_cons (pe_ix (r := rIxL K) ix_list (pv 5) pe_int (fun _ _ => rfl)) (pa_cons (pv 7) pa_nil))) (pa_cons (pv 2) (pa_cons (pe_callD D_law_plus (hr.mono (by decide)) rfl pass0 (pa_cons (pv 2) (pa_cons pe_dnewK (pa_cons (pe_ix (r := rIxL K) ix_list (pv 3) pe_int (fun _ _ => rfl)) (pa_cons (pv 7) pa_nil))))) pa_nil)))))) (pss_one (ps_ret pe_bl)) pss_nil) next)) ?_
  rintro D σ H ⟨a, h, c, lr, lb, d0, d1, d2, b0, b1, b2, x4, x6, x7, p, s0, s1, s2, rfl, hp, S, l0, l1, l2, k⟩
  (try dsimp only [bodyX, cxOf])
  have hp2 := hp.lo
  have hp7 := hp.hi
  have hp1 : 1 < p := by omega
  have hp0 : 0 < p := by omega
  obtain ⟨r, l, u0, u1, u2, v0, v1, v2, hh⟩ := id S
  walk_at "go2"

  refine ⟨h, c, 100, rfl, hh, by decide, by decide, fun v H1 v0' v1' e1 hh1 => ?_⟩
  walk_at "go"
  refine ⟨Nat.le_of_ble_eq_true rfl, fun la hla => ?_⟩
  walk_at "go"
  refine ⟨h, c, 7, rfl, hh1.ex' (Ex.new hla), by decide, by decide, fun w' H3 w0 w1 e3 hh3 => ?_⟩
  have hl3 := hand_lst (hh1.ex' (Ex.new hla)) e3 (by simp) upd_same
  have eb : ExB h H1 H3 := fun a o n q => e3 _ _ n (Ex.new hla _ _ q)
  clear e3
  refine (seven w0 w1).elim fun m hm => g_ixl (SqL.of hl3) hm ?_
  clear hl3
  have S3' := S.exh (e1.trans eb) hh3
  obtain ⟨r3, l3, u30, u31, u32, v30, v31, v32, hh3'⟩ := id S3'
  walk_at "go2"
  refine mkTimesW v30 l0 (by decide) (by decide) hp1 (by omega) fun x5 H4 e4 _ hx5 lx5 => ?_
  walk_at "go2"
  intro q0 hq0
  walk_at "go2"
  have e5 : Ex H4 (upd H4 q0 (.dK [])) := Ex.new hq0
  have f5 : upd H4 q0 (.dK []) q0 = some (.dK (toK [])) := upd_same
  generalize upd H4 q0 (.dK []) = H5 at e5 f5 ⊢
  walk_at "go2"
  refine mkPlusW (.inl f5) (by walk_at "ex") (Lot.nil (a := 0) (b := 0)) l0 (by decide) hp1 (by omega) fun d7 H6 e6 _ hd7 _ => ?_
  walk_at "go2"
  refine mkIs (hx5.ex' (by walk_at "ex")) (.inl hd7) lx5 (by decide) (by decide) rfl fun H7 e7 => ?_
  walk_at "go2"
  exact ⟨a, h, c, lr, lb, d0, d1, d2, b0, b1, b2, x4, x6, _, p, s0, s1, s2, rfl, hp, S3'.ex (by walk_at "ex"), l0, l1, l2, k⟩
end
end Fp

namespace Fp
open PySem L2
section
variable {P : Program} {w : World} {K : PySem.W.Frag} {mg : Str → Option Value} {base : Heap} {C_Bag : Addr} {Cs : Addr → Prop}
local macro_rules | `(tactic| walk_at "hp") => `(tactic| first | assumption | rfl)
local macro_rules | `(tactic| walk_at "cond") => `(tactic| first | assumption | decide | omega | (unfold CMul; omega) | (refine ⟨?_, ?_⟩ <;> omega) | (unfold CDiv; omega) | (unfold CPow; omega))
local macro_rules | `(tactic| walk_at "g1") => `(tactic| first
  | with_reducible first
    | refine g_seq ?_ | refine g_asg ?_ | refine g_name ?_ | refine g_ret ?_ | refine g_retN ?_ | refine g_drop ?_ | refine g_ifs ?_
    | refine g_c ?_ | refine g_op ?_ | refine g_un ?_ | refine g_I0 ?_ | refine g_U ?_
    | refine g_test ?_ | refine g_tB ?_ | refine g_bl ?_ | refine g_and ?_ | refine g_or ?_ | refine g_not ?_
    | refine g_andV ?_ | refine g_orV ?_ | refine g_notV ?_ | refine g_if ?_ | refine g_nil ?_ | refine g_cons ?_ | refine g_cb ?_ | refine g_call ?_
    | refine g_lst ?_ | refine g_tup ?_ | refine g_itT ?_ | refine g_itF ?_ | refine g_itNT ?_ | refine g_itNF ?_ | refine g_lc ?_ | refine g_iStr ?_ | refine g_yes ?_ | refine g_exs ?_
    | refine g_chain ?_ | refine g_dget ?_ | refine g_dput ?_ | refine g_dget2 ?_ | refine g_dpop2 ?_ | refine g_fld ?_ | refine g_sfld ?_ | refine g_make ?_ | refine g_meth ?_
    | refine g_bm ?_ | refine g_kw ?_ | refine g_callS ?_ | refine g_revL ?_ | refine g_m1 ?_ | refine g_gsub ?_ | refine g_for ?_ | refine g_iList ?_ | refine g_iTup ?_ | refine g_iRng1 ?_ | refine g_iRng2 ?_ | refine g_sl ?_ | refine g_part ?_ | refine g_noPart ?_
    | refine g_exi ?_ | refine g_exr ?_ | refine g_dnew ?_ | refine g_disp ?_ | refine g_prs0 ?_ | refine g_prs ?_ | refine g_nxt ?_
  | ((with_reducible refine g_var (v := ?vv) ?gv ?_); (case gv => exact rfl))
  | ((with_reducible refine g_I ?gc ?_); (case gc => walk_at "cond"))
  | ((with_reducible refine g_eq ?ge ?_); (case ge => exact rfl))
  | ((with_reducible refine g_ne ?ge ?_); (case ge => exact rfl))
  | (refine g_ixl (SqL.of (by first | assumption | exact upd_same)) rfl ?_)
  | (refine g_setl (by first | assumption | exact upd_same) rfl ?_)
  | ((with_reducible show (∃ i, [V.int _] = [V.int i] ∧ _) ∨ _); refine Or.inl ⟨_, rfl, ?_⟩)
  | ((with_reducible show ∃ i, [V.int _] = [V.int i] ∧ _); refine ⟨_, rfl, ?_⟩)
  | dsimp only)
local macro_rules | `(tactic| walk_at "go") => `(tactic| repeat (walk_at "g1"))

local macro_rules | `(tactic| walk_at "ex") => `(tactic| first
  | assumption
  | exact Ex.refl _
  | (refine Ex.trans ?_ (by assumption); walk_at "ex")
  | (refine BagAt.ex' (by assumption) ?_; walk_at "ex")
  | (refine HandAt.ex' (by assumption) ?_; walk_at "ex")
  | (refine DcsAt.ex' (by assumption) ?_; walk_at "ex")
  | (refine BgsAt.ex' (by assumption) ?_; walk_at "ex")
  | (refine DcsAt.hand (by assumption) (by assumption) ?_; walk_at "ex")
  | (refine BgsAt.hand (by assumption) (by assumption) ?_; walk_at "ex")
  | (refine WordsAt.ex' (by assumption) ?_; walk_at "ex")
  | (refine Ex.at' (by assumption) ?_; walk_at "ex")
  | (refine SqL.of ?_; walk_at "ex")
  | (refine SqT.of ?_; walk_at "ex")
  | (refine Or.inl ?_; walk_at "ex")
  | (refine BagAt.hand (by assumption) (by assumption) ?_; walk_at "ex")
  | (refine hand_dkE (by assumption) (by assumption) ?_; walk_at "ex")
  | (refine hand_lstE (by assumption) (by assumption) (by simp) ?_; walk_at "ex"))
local macro_rules | `(tactic| walk_at "go2") => `(tactic| (walk_at "go"; (repeat (refine g_ixl (SqL.of (by walk_at "ex")) rfl ?_; walk_at "go"))))

theorem law_4 {f : Addr} {cdv : Value} {A : Around} {outer : List Env} {s0 : Shared} {H0 : Hp} {E : XK} (hr : Room 13 (bodyA "law" s_law f cdv A s0)) (T : Txt K mg C_Bag Cs)
    (D_together : DefOk P w K mg base CX0 9 "together" ["one", "other"] (sp_sum 1 Cs)) (D_eq : EqOk P w K mg base C_Bag Cs)
    (next : PSs (bodyX P w K mg base N_law "law" s_law f cdv A outer s0 H0 E) ((defBody s_law).drop 10) (RL Cs)) : PSs (bodyX P w K mg base N_law "law" s_law f cdv A outer s0 H0 E) ((defBody s_law).drop 9) (RL Cs) := by
  have hu := hu_of hr
  have hu64 := L2.Room.units hr
  refine pss_imp (pss_cons (ps_if (pt_cmpR (r := rBagEq K (sp_bag_eq K C_Bag Cs) Cs true) (op_neBagD D_eq (hr.mono (by decide))) (pe_callD D_together (hr.mono (by decide)) rfl pass0 (pa_cons (pe_ix (r := rIxL K) ix_list (pv 5) pe_int (fun _ _ => rfl)) (pa_cons (pe_callD D_together (hr.mono (by decide)) rfl pass0 (pa_cons (pe_ix (r := rIxL K) ix_list (pv 5) pe_int (fun _ _ => rfl)) (pa_cons (pe_ix (r := rIxL K) ix_list (pv 5) pe_int (fun _ _ => rfl)) pa_nil))) pa_nil))) (pe_callD D_together (hr.mono (by decide)) rfl pass0 (pa_cons (pe_callD D_together (hr.mono (by decide)) rfl pass0 (pa_cons (pe_ix (r := rIxL K) ix_list (pv 5) pe_int (fun _ _ => rfl)) (pa_cons (pe_ix (r := rIxL K) ix_list (pv 5) pe_int (fun _ _ => rfl)) pa_nil))) (pa_cons (pe_ix (r := rIxL K) ix_list (pv 5) pe_int (fun _ _ => rfl)) pa_nil))) (nomark _)) (pss_one (ps_ret pe_bl)) pss_nil) next) ?_
  rintro D σ H ⟨a, h, c, lr, lb, d0, d1, d2, b0, b1, b2, x4, x6, x7, p, s0, s1, s2, rfl, hp, S, l0, l1, l2, k⟩
  (try dsimp only [bodyX, cxOf])
  have hp2 := hp.lo
  have hp7 := hp.hi
  have hp1 : 1 < p := by omega
  have hp0 : 0 < p := by omega
  obtain ⟨r, l, u0, u1, u2, v0, v1, v2, hh⟩ := id S
  walk_at "go2"

  refine mkSum (by walk_at "ex") (by walk_at "ex") l1 l2 (by decide) (by decide) (by decide) hp1 fun x1 H1 e1 _ hx1 lx1 => ?_
  walk_at "go2"
  refine mkSum (by walk_at "ex") (by walk_at "ex") l0 lx1 (by decide) (by decide) (by decide) hp1 fun x2 H2 e2 _ hx2 lx2 => ?_
  walk_at "go2"
  refine mkSum (by walk_at "ex") (by walk_at "ex") l2 l0 (by decide) (by decide) (by decide) hp1 fun x3 H3 e3 _ hx3 lx3 => ?_
  walk_at "go2"
  refine mkSum (by walk_at "ex") (by walk_at "ex") lx3 l1 (by decide) (by decide) (by decide) hp1 fun x5 H4 e4 _ hx5 lx5 => ?_
  walk_at "go2"
  refine g_beqT T (hx2.ex' (by walk_at "ex")) hx5 ((plus_rot hp0 l0.g l1.g l2.g).words lx2.g lx5.g) ?_
  walk_at "go2"
  exact ⟨a, h, c, lr, lb, d0, d1, d2, b0, b1, b2, x4, x6, x7, p, s0, s1, s2, rfl, hp, S.ex (by walk_at "ex"), l0, l1, l2, k⟩
end
end Fp

namespace Fp
open PySem L2
section
variable {P : Program} {w : World} {K : PySem.W.Frag} {mg : Str → Option Value} {base : Heap} {C_Bag : Addr} {Cs : Addr → Prop}
local macro_rules | `(tactic| walk_at "hp") => `(tactic| first | assumption | rfl)
local macro_rules | `(tactic| walk_at "cond") => `(tactic| first | assumption | decide | omega | (unfold CMul; omega) | (refine ⟨?_, ?_⟩ <;> omega) | (unfold CDiv; omega) | (unfold CPow; omega))
local macro_rules | `(tactic| walk_at "g1") => `(tactic| first
  | with_reducible first
    | refine g_seq ?_ | refine g_asg ?_ | refine g_name ?_ | refine g_ret ?_ | refine g_retN ?_ | refine g_drop ?_ | refine g_ifs ?_
    | refine g_c ?_ | refine g_op ?_ | refine g_un ?_ | refine g_I0 ?_ | refine g_U ?_
    | refine g_test ?_ | refine g_tB ?_ | refine g_bl ?_ | refine g_and ?_ | refine g_or ?_ | refine g_not ?_
    | refine g_andV ?_ | refine g_orV ?_ | refine g_notV ?_ | refine g_if ?_ | refine g_nil ?_ | refine g_cons ?_ | refine g_cb ?_ | refine g_call ?_
    | refine g_lst ?_ | refine g_tup ?_ | refine g_itT ?_ | refine g_itF ?_ | refine g_itNT ?_ | refine g_itNF ?_ | refine g_lc ?_ | refine g_iStr ?_ | refine g_yes ?_ | refine g_exs ?_
    | refine g_chain ?_ | refine g_dget ?_ | refine g_dput ?_ | refine g_dget2 ?_ | refine g_dpop2 ?_ | refine g_fld ?_ | refine g_sfld ?_ | refine g_make ?_ | refine g_meth ?_
    | refine g_bm ?_ | refine g_kw ?_ | refine g_callS ?_ | refine g_revL ?_ | refine g_m1 ?_ | refine g_gsub ?_ | refine g_for ?_ | refine g_iList ?_ | refine g_iTup ?_ | refine g_iRng1 ?_ | refine g_iRng2 ?_ | refine g_sl ?_ | refine g_part ?_ | refine g_noPart ?_
    | refine g_exi ?_ | refine g_exr ?_ | refine g_dnew ?_ | refine g_disp ?_ | refine g_prs0 ?_ | refine g_prs ?_ | refine g_nxt ?_
  | ((with_reducible refine g_var (v := ?vv) ?gv ?_); (case gv => exact rfl))
  | ((with_reducible refine g_I ?gc ?_); (case gc => walk_at "cond"))
  | ((with_reducible refine g_eq ?ge ?_); (case ge => exact rfl))
  | ((with_reducible refine g_ne ?ge ?_); (case ge => exact rfl))
  | (refine g_ixl (SqL.of (by first | assumption | exact upd_same)) rfl ?_)
  | (refine g_setl (by first | assumption | exact upd_same) rfl ?_)
  | ((with_reducible show (∃ i, [V.int _] = [V.int i] ∧ _) ∨ _); refine Or.inl ⟨_, rfl, ?_⟩)
  | ((with_reducible show ∃ i, [V.int _] = [V.int i] ∧ _); refine ⟨_, rfl, ?_⟩)
  | dsimp only)
local macro_rules | `(tactic| walk_at "go") => `(tactic| repeat (walk_at "g1"))

local macro_rules | `(tactic| walk_at "ex") => `(tactic| first
  | assumption
  | exact Ex.refl _
  | (refine Ex.trans ?_ (by assumption); walk_at "ex")
  | (refine BagAt.ex' (by assumption) ?_; walk_at "ex")
  | (refine HandAt.ex' (by assumption) ?_; walk_at "ex")
  | (refine DcsAt.ex' (by assumption) ?_; walk_at "ex")
  | (refine BgsAt.ex' (by assumption) ?_; walk_at "ex")
  | (refine DcsAt.hand (by assumption) (by assumption) ?_; walk_at "ex")
  | (refine BgsAt.hand (by assumption) (by assumption) ?_; walk_at "ex")
  | (refine WordsAt.ex' (by assumption) ?_; walk_at "ex")
  | (refine Ex.at' (by assumption) ?_; walk_at "ex")
  | (refine SqL.of ?_; walk_at "ex")
  | (refine SqT.of ?_; walk_at "ex")
  | (refine Or.inl ?_; walk_at "ex")
  | (refine BagAt.hand (by assumption) (by assumption) ?_; walk_at "ex")
  | (refine hand_dkE (by assumption) (by assumption) ?_; walk_at "ex")
  | (refine hand_lstE (by assumption) (by assumption) (by simp) ?_; walk_at "ex"))
local macro_rules | `(tactic| walk_at "go2") => `(tactic| (walk_at "go"; (repeat (refine g_ixl (SqL.of (by walk_at "ex")) rfl ?_; walk_at "go"))))

theorem law_5 {f : Addr} {cdv : Value} {A : Around} {outer : List Env} {s0 : Shared} {H0 : Hp} {E : XK} (hr : Room 13 (bodyA "law" s_law f cdv A s0)) (T : Txt K mg C_Bag Cs)
    (D_together : DefOk P w K mg base CX0 9 "together" ["one", "other"] (sp_sum 1 Cs)) (D_less : DefOk P w K mg base CX0 9 "less" ["one", "other"] (sp_sum (-1) Cs)) (D_times : DefOk P w K mg base CX0 9 "times" ["bag", "number"] (sp_timesW Cs)) (D_mk_Bag : MkOk P w K mg base CX0 6 "Bag" C_Bag ["self", "clock", "words"] (sp_bag_init C_Bag Cs)) (D_eq : EqOk P w K mg base C_Bag Cs)
    (next : PSs (bodyX P w K mg base N_law "law" s_law f cdv A outer s0 H0 E) ((defBody s_law).drop 11) (RL Cs)) : PSs (bodyX P w K mg base N_law "law" s_law f cdv A outer s0 H0 E) ((defBody s_law).drop 10) (RL Cs) := by
  have hu := hu_of hr
  have hu64 := L2.Room.units hr
  refine pss_imp (pss_cons (ps_if (PW.pt (pw_or (pt_cmpR (r := rBagEq K (sp_bag_eq K C_Bag Cs) Cs true) (op_neBagD D_eq (hr.mono (by decide))) (pe_callD D_less (hr.mono (by decide)) rfl pass0 (pa_cons (pe_ix (r := rIxL K) ix_list (pv 5) pe_int (fun _ _ => rfl)) (pa_cons (pe_ix (r := rIxL K) ix_list (pv 5) pe_int (fun _ _ => rfl)) pa_nil))) (pe_mkD D_mk_Bag (hr.mono (by decide)) rfl pass0 (pa_cons (pv 2) (pa_cons pe_dnewK pa_nil))) (nomark _)) (pw_or1 (pt_cmpR (r := rBagEq K (sp_bag_eq K C_Bag Cs) Cs true) (op_neBagD D_eq (hr.mono (by decide))) (pe_callD D_together (hr.mono (by decide)) rfl pass0 (pa_cons (pe_callD D_less (hr.mono (by decide)) rfl pass0 (pa_cons (pe_ix (r := rIxL K) ix_list (pv 5) pe_int (fun _ _ => rfl)) (pa_cons (pe_ix (r := rIxL K) ix_list (pv 5) pe_int (fun _ _ => rfl)) pa_nil))) (pa_cons (pe_ix (r := rIxL K) ix_list (pv 5) pe_int (fun _ _ => rfl)) pa_nil))) (pe_ix (r := rIxL K) ix_list (pv 5) pe_int (fun _ _ => rfl)) (nomark _))))) (pss_one (ps_ret pe_bl)) pss_nil) next) ?_
  rintro D σ H ⟨a, h, c, lr, lb, d0, d1, d2, b0, b1, b2, x4, x6, x7, p, s0, s1, s2, rfl, hp, S, l0, l1, l2, k⟩
  (try dsimp only [bodyX, cxOf])
  have hp2 := hp.lo
  have hp7 := hp.hi
  have hp1 : 1 < p := by omega
  have hp0 : 0 < p := by omega
  obtain ⟨r, l, u0, u1, u2, v0, v1, v2, hh⟩ := id S
  walk_at "go2"

  refine mkSum (by walk_at "ex") (by walk_at "ex") l0 l0 (by decide) (by decide) (by decide) hp1 fun x1 H1 e1 _ hx1 lx1 => ?_
  walk_at "go2"
  intro dz hdz
  walk_at "go2"
  have e2 : Ex H1 (upd H1 dz (.dK [])) := Ex.new hdz
  have f2 : upd H1 dz (.dK []) dz = some (.dK (toK [])) := upd_same
  generalize upd H1 dz (.dK []) = H2 at e2 f2 ⊢
  refine g_mkBag hp f2 Lot.nil fun x2 H3 e3 _ hx2 => ?_
  walk_at "go2"
  refine g_beqT T (hx1.ex' (by walk_at "ex")) hx2 ((less_self hp0 l0.g).words lx1.g Good.nil) ?_
  walk_at "go2"
  refine mkSum (by walk_at "ex") (by walk_at "ex") l0 l1 (by decide) (by decide) (by decide) hp1 fun x3 H4 e4 _ hx3 lx3 => ?_
  walk_at "go2"
  refine mkSum (by walk_at "ex") (by walk_at "ex") lx3 l1 (by decide) (by decide) (by decide) hp1 fun x5 H5 e5 _ hx5 lx5 => ?_
  walk_at "go2"
  have hq0 : BagAt Cs H5 b0 p s0 := by walk_at "ex"
  refine g_beqT T hx5 hq0 ((less_back hp0 l0.g l1.g).words lx5.g l0.g) ?_
  walk_at "go2"
  exact ⟨a, h, c, lr, lb, d0, d1, d2, b0, b1, b2, x4, x6, x7, p, s0, s1, s2, rfl, hp, S.ex (by walk_at "ex"), l0, l1, l2, k⟩
end
end Fp

namespace Fp
open PySem L2
section
variable {P : Program} {w : World} {K : PySem.W.Frag} {mg : Str → Option Value} {base : Heap} {C_Bag : Addr} {Cs : Addr → Prop}
local macro_rules | `(tactic| walk_at "hp") => `(tactic| first | assumption | rfl)
local macro_rules | `(tactic| walk_at "cond") => `(tactic| first | assumption | decide | omega | (unfold CMul; omega) | (refine ⟨?_, ?_⟩ <;> omega) | (unfold CDiv; omega) | (unfold CPow; omega))
local macro_rules | `(tactic| walk_at "g1") => `(tactic| first
  | with_reducible first
    | refine g_seq ?_ | refine g_asg ?_ | refine g_name ?_ | refine g_ret ?_ | refine g_retN ?_ | refine g_drop ?_ | refine g_ifs ?_
    | refine g_c ?_ | refine g_op ?_ | refine g_un ?_ | refine g_I0 ?_ | refine g_U ?_
    | refine g_test ?_ | refine g_tB ?_ | refine g_bl ?_ | refine g_and ?_ | refine g_or ?_ | refine g_not ?_
    | refine g_andV ?_ | refine g_orV ?_ | refine g_notV ?_ | refine g_if ?_ | refine g_nil ?_ | refine g_cons ?_ | refine g_cb ?_ | refine g_call ?_
    | refine g_lst ?_ | refine g_tup ?_ | refine g_itT ?_ | refine g_itF ?_ | refine g_itNT ?_ | refine g_itNF ?_ | refine g_lc ?_ | refine g_iStr ?_ | refine g_yes ?_ | refine g_exs ?_
    | refine g_chain ?_ | refine g_dget ?_ | refine g_dput ?_ | refine g_dget2 ?_ | refine g_dpop2 ?_ | refine g_fld ?_ | refine g_sfld ?_ | refine g_make ?_ | refine g_meth ?_
    | refine g_bm ?_ | refine g_kw ?_ | refine g_callS ?_ | refine g_revL ?_ | refine g_m1 ?_ | refine g_gsub ?_ | refine g_for ?_ | refine g_iList ?_ | refine g_iTup ?_ | refine g_iRng1 ?_ | refine g_iRng2 ?_ | refine g_sl ?_ | refine g_part ?_ | refine g_noPart ?_
    | refine g_exi ?_ | refine g_exr ?_ | refine g_dnew ?_ | refine g_disp ?_ | refine g_prs0 ?_ | refine g_prs ?_ | refine g_nxt ?_
  | ((with_reducible refine g_var (v := ?vv) ?gv ?_); (case gv => exact rfl))
  | ((with_reducible refine g_I ?gc ?_); (case gc => walk_at "cond"))
  | ((with_reducible refine g_eq ?ge ?_); (case ge => exact rfl))
  | ((with_reducible refine g_ne ?ge ?_); (case ge => exact rfl))
  | (refine g_ixl (SqL.of (by first | assumption | exact upd_same)) rfl ?_)
  | (refine g_setl (by first | assumption | exact upd_same) rfl ?_)
  | ((with_reducible show (∃ i, [V.int _] = [V.int i] ∧ _) ∨ _); refine Or.inl ⟨_, rfl, ?_⟩)
  | ((with_reducible show ∃ i, [V.int _] = [V.int i] ∧ _); refine ⟨_, rfl, ?_⟩)
  | dsimp only)
local macro_rules | `(tactic| walk_at "go") => `(tactic| repeat (walk_at "g1"))

local macro_rules | `(tactic| walk_at "ex") => `(tactic| first
  | assumption
  | exact Ex.refl _
  | (refine Ex.trans ?_ (by assumption); walk_at "ex")
  | (refine BagAt.ex' (by assumption) ?_; walk_at "ex")
  | (refine HandAt.ex' (by assumption) ?_; walk_at "ex")
  | (refine DcsAt.ex' (by assumption) ?_; walk_at "ex")
  | (refine BgsAt.ex' (by assumption) ?_; walk_at "ex")
  | (refine DcsAt.hand (by assumption) (by assumption) ?_; walk_at "ex")
  | (refine BgsAt.hand (by assumption) (by assumption) ?_; walk_at "ex")
  | (refine WordsAt.ex' (by assumption) ?_; walk_at "ex")
  | (refine Ex.at' (by assumption) ?_; walk_at "ex")
  | (refine SqL.of ?_; walk_at "ex")
  | (refine SqT.of ?_; walk_at "ex")
  | (refine Or.inl ?_; walk_at "ex")
  | (refine BagAt.hand (by assumption) (by assumption) ?_; walk_at "ex")
  | (refine hand_dkE (by assumption) (by assumption) ?_; walk_at "ex")
  | (refine hand_lstE (by assumption) (by assumption) (by simp) ?_; walk_at "ex"))
local macro_rules | `(tactic| walk_at "go2") => `(tactic| (walk_at "go"; (repeat (refine g_ixl (SqL.of (by walk_at "ex")) rfl ?_; walk_at "go"))))

theorem law_6 {f : Addr} {cdv : Value} {A : Around} {outer : List Env} {s0 : Shared} {H0 : Hp} {E : XK} (hr : Room 13 (bodyA "law" s_law f cdv A s0)) (T : Txt K mg C_Bag Cs)
    (D_mk_Bag : MkOk P w K mg base CX0 6 "Bag" C_Bag ["self", "clock", "words"] (sp_bag_init C_Bag Cs)) (D_law_unlike : DefOk P w K mg base CX0 10 "_law_unlike" ["_law_kind", "_law_one", "_law_other"] (sp_law_unlike Cs)) (D_law_words : DefOk P w K mg base CX0 2 "_law_words" ["_law_bag"] sp_law_words) : PSs (bodyX P w K mg base N_law "law" s_law f cdv A outer s0 H0 E) ((defBody s_law).drop 12) (RL Cs) := by
  have hu := hu_of hr
  have hu64 := L2.Room.units hr
  refine pss_imp (pss_cons (ps_set (i := 8) sc_law.nd rfl (by first | exact Or.inl rfl | exact Or.inr rfl) (pe_ix (r := rIxL K) ix_list (pe_lst (pa_cons pe_int (pa_cons pe_int (pa_cons pe_int (pa_cons pe_int pa_nil))))) (pe_bmK (K := K) rfl (pe_bm (r := rIndex K) PySem.F.plainAttrs_list PySem.F.slot_list_index PySem.F.type_list_index mt_index (pe_lst (pa_cons pe_int (pa_cons pe_int (pa_cons pe_int (pa_cons pe_int pa_nil))))) (pa_cons (pv 2) pa_nil))) (fun _ _ => rfl))) (pss_cons (ps_set (i := 9) sc_law.nd rfl (by first | exact Or.inl rfl | exact Or.inr rfl) (pe_mkD D_mk_Bag (hr.mono (by decide)) rfl pass0 (pa_cons (pv 8) (pa_cons (pe_disp (pps_cons pe_str pe_int pps_nil) rfl rfl (List.cons_ne_nil _ _) (Nat.le_of_ble_eq_true rfl)) pa_nil)))) (pss_cons (ps_if (PW.pt (pw_or (pt_not (pt_val (pe_callD D_law_unlike (hr.mono (by decide)) rfl pass0 (pa_cons pe_int (pa_cons (pe_ix (r := rIxL K) ix_list (pv 5) pe_int (fun _ _ => rfl)) (pa_cons (pv 9) pa_nil)))))) (pw_or (pt_not (pt_val (pe_callD D_law_unlike (hr.mono (by decide)) rfl pass0 (pa_cons pe_int (pa_cons (pv 9) (pa_cons (pe_ix (r := rIxL K) ix_list (pv 5) pe_int (fun _ _ => rfl)) pa_nil)))))) (pw_or1 (pt_val (pe_callD D_law_unlike (hr.mono (by decide)) rfl pass0 (pa_cons pe_int (pa_cons (pv 9) (pa_cons (pv 9) pa_nil))))))))) (pss_one (ps_ret pe_bl)) pss_nil) (pss_one (ps_ret (pe_cmpR (r := rEqP K false) (op_eqP hu64) (pe_lc (own := [("_law_bag", 10)]) (g := (gName 10)) (tt := tYes) rfl sc_law.nd (pi_list (pv 5)) (blkOk_by (N := N_law) (sc := defScope s_law) (by decide +kernel)) (fun _ _ _ _ _ => (pg_name (i := 10) sc_law.nd rfl (by first | exact Or.inl rfl | exact Or.inr rfl))) (fun _ _ _ _ _ => pts_nil) (fun _ _ _ _ _ => (pe_fldK (K := K) rfl (pv 10) rfl))) (pe_lc (own := [("_law_words_here", 6)]) (g := (gName 6)) (tt := tYes) rfl sc_law.nd (pi_list (pv 3)) (blkOk_by (N := N_law) (sc := defScope s_law) (by decide +kernel)) (fun _ _ _ _ _ => (pg_name (i := 6) sc_law.nd rfl (by first | exact Or.inl rfl | exact Or.inr rfl))) (fun _ _ _ _ _ => pts_nil) (fun _ _ _ _ _ => (pe_callD D_law_words (hr.mono (by decide)) rfl pass0 (pa_cons (pv 6) pa_nil)))) (nomark _))))))) ?_
  rintro D σ H ⟨a, h, c, lr, lb, d0, d1, d2, b0, b1, b2, x4, x6, x7, p, s0, s1, s2, rfl, hp, S, l0, l1, l2, k⟩
  (try dsimp only [bodyX, cxOf])
  have hp2 := hp.lo
  have hp7 := hp.hi
  have hp1 : 1 < p := by omega
  have hp0 : 0 < p := by omega
  obtain ⟨r, l, u0, u1, u2, v0, v1, v2, hh⟩ := id S
  walk_at "go2"

  obtain ⟨j, q, hq, hpq, hj1, hj2, hj3, hj4, hj5⟩ := other_clk hp
  refine ⟨Nat.le_of_ble_eq_true rfl, fun le hle => ?_⟩
  walk_at "go"
  refine ⟨Nat.le_of_ble_eq_true rfl, fun lf' hlf => ?_⟩
  walk_at "go"
  refine ⟨.inl ⟨rfl, _, SqL.of upd_same⟩, ?_⟩
  walk_at "go"
  refine ⟨lf', _, .int p, j, .int p, rfl, rfl, SqL.of upd_same, hj2, rfl, hj1, hj3, hj4, ?_⟩
  refine g_ixl (SqL.of (Ex.new hlf _ _ upd_same)) hj5 ?_
  have e1 : Ex H (upd (upd H le (.lst [.int 3, .int 2, .int 7, .int 5])) lf' (.lst [.int 2, .int 3, .int 5, .int 7])) := (Ex.new hle).trans (Ex.new hlf)
  generalize upd (upd H le (.lst [.int 3, .int 2, .int 7, .int 5])) lf' (.lst [.int 2, .int 3, .int 5, .int 7]) = H1 at e1 ⊢
  walk_at "go"
  intro dy hdy
  walk_at "go"
  refine ⟨upd_same, toK [("x", 1)], rfl, Nat.le_of_ble_eq_true rfl, ?_⟩
  rw [mergeK_toK (s := [("x", 1)]) (by decide +kernel)]
  have hq1 := hq.lo
  have ly : Lot q [("x", 1)] 1 1 := Lot.of (by decide +kernel) (Nat.le_of_ble_eq_true rfl) (fun u hu => by rw [show u = ("x" : Str) from List.mem_singleton.mp hu]; exact ⟨by decide, by decide +kernel⟩) (fun kv hkv => by rw [List.mem_singleton.mp hkv]; exact ⟨by decide, by omega⟩)
  have e2 : Ex H1 (upd (upd H1 dy (.dK [])) dy (.dK (toK [("x", 1)]))) := Ex.mut (Ex.new hdy) hdy
  have f2 : upd (upd H1 dy (.dK [])) dy (.dK (toK [("x", 1)])) dy = some (.dK (toK [("x", 1)])) := upd_same
  generalize upd (upd H1 dy (.dK [])) dy (.dK (toK [("x", 1)])) = H2 at e2 f2 ⊢
  walk_at "go"
  refine g_mkBag hq f2 (ly.mono (by decide) (by decide)) fun xy H3 e3 _ hby => ?_
  walk_at "go2"
  have hb0 : BagAt Cs H3 b0 p s0 := by walk_at "ex"
  refine ⟨0, b0, xy, p, q, s0, _, rfl, .inl rfl, hb0, hby, l0.mono (by decide) (by decide), ly.mono (by decide) (by decide), hp0, fun H4 e4 => ?_⟩
  rw [decide_eq_true hpq]
  walk_at "go2"
  refine ⟨1, xy, b0, q, p, _, s0, rfl, .inr rfl, hby.ex' e4, hb0.ex' e4, ly.mono (by decide) (by decide), l0.mono (by decide) (by decide), by omega, fun H5 e5 => ?_⟩
  rw [decide_eq_true (Ne.symm hpq)]
  walk_at "go2"
  have hb6 : BagAt Cs H5 xy q [("x", 1)] := by walk_at "ex"
  refine ⟨0, xy, xy, q, q, _, _, rfl, .inl rfl, hb6, hb6, ly.mono (by decide) (by decide), ly.mono (by decide) (by decide), by omega, fun H6 e6 => ?_⟩
  rw [decide_eq_false (fun z => z rfl)]
  walk_at "go2"
  have l6 : H6 lb = some (.lst [.ref b0, .ref b1, .ref b2]) := by walk_at "ex"
  have S6 : S3 Cs p lr lb d0 d1 d2 b0 b1 b2 h c s0 s1 s2 H6 := S.ex (by walk_at "ex")
  obtain ⟨bs, hl1, hl2⟩ := S6.bags.ex
  obtain ⟨ds, hd1, hd2⟩ := S6.row.ex
  have lots : ∀ s ∈ [s0, s1, s2], Lot p s 120 7 := fun s hs => by
    simp only [List.mem_cons, List.not_mem_nil, or_false] at hs
    rcases hs with rfl | rfl | rfl <;> assumption
  have bl := hl2.length
  have dl := hd2.length
  refine ⟨⟨_, SqL.of hl1⟩, ?_⟩
  refine lc_relL walk_list [s0, s1, s2] (by rw [List.length_map]; exact bl.symm) (line5 (by rw [List.length_map, bl]; exact Nat.le_of_ble_eq_true rfl)) (fun H' e => SqL.of (e _ _ hl1)) (fun s y H => ∃ t, y = V.ref t ∧ WordsAt H t (wordsS s)) (fun s y H H' e ⟨t, h1, h2⟩ => ⟨t, h1, h2.exl e⟩) (fun _ => rfl) ?_ ?_
  · rintro i x s H1 H1' Kc hi e1 ⟨rfl, hx⟩ hss hk
    rw [List.getElem?_map] at hx
    obtain ⟨b, hb', rfl⟩ := Option.map_eq_some_iff.mp hx
    obtain ⟨s', hs', hbs⟩ := paired_get hl2 hb'
    rw [hss] at hs'
    cases hs'
    walk_at "go"
    refine g_words T (hbs.ex' e1) fun t ht => ?_
    exact hk _ _ (Ex.refl _) ⟨t, rfl, ht⟩
  intro D1 H7 ys1 hD1 e7 hl7 hp7'
  walk_at "go"
  refine ⟨⟨_, SqL.of (e7 _ _ hd1)⟩, ?_⟩
  refine lc_relL walk_list [s0, s1, s2] (by rw [List.length_map]; exact dl.symm) (line5 (by rw [List.length_map, dl]; exact Nat.le_of_ble_eq_true rfl)) (fun H' e => SqL.of (e _ _ (e7 _ _ hd1))) (fun s y H => ∃ t, y = V.ref t ∧ WordsAt H t (wordsS s)) (fun s y H H' e ⟨t, h1, h2⟩ => ⟨t, h1, h2.exl e⟩) (fun _ => rfl) ?_ ?_
  · rintro i x s H8 H8' Kc hi e8 ⟨rfl, hx⟩ hss hk
    rw [List.getElem?_map] at hx
    obtain ⟨d, hd, rfl⟩ := Option.map_eq_some_iff.mp hx
    obtain ⟨s', hs', hds⟩ := paired_get hd2 hd
    rw [hss] at hs'
    cases hs'
    have hs := lots s (List.mem_of_getElem? hss)
    walk_at "go"
    exact ⟨d, s, rfl, .inl (e8 _ _ (e7 _ _ hds)), Nat.le_trans hs.n (by decide), fun u hu => Nat.le_trans (hs.l u hu).1 (by decide), hs.g.nd, fun t H9 e9 _ ht => hk _ _ e9 ⟨t, rfl, ht⟩⟩
  intro D2 H8 ys2 hD2 e8 hl8 hp8
  obtain ⟨ts, rfl, hts⟩ := paired_refs (Paired.mapP hp7' fun _ _ ⟨t, h1, h2⟩ => ⟨t, h1, h2.ex' e8⟩)
  obtain ⟨us, rfl, hus⟩ := paired_refs hp8
  refine g_eqWs (SqL.of (e8 _ _ hl7)) (SqL.of hl8) (paired_mapr (g := wordsS) hts fun _ _ q => q) (paired_mapr (g := wordsS) hus fun _ _ q => q) ?_
  rw [if_neg Bool.false_ne_true, decide_eq_true rfl]
  exact k _
end
end Fp

namespace Fp
open PySem L2
section
variable {P : Program} {w : World} {K : PySem.W.Frag} {mg : Str → Option Value} {base : Heap} {C_Bag : Addr} {Cs : Addr → Prop}
local macro_rules | `(tactic| walk_at "hp") => `(tactic| first | assumption | rfl)
local macro_rules | `(tactic| walk_at "cond") => `(tactic| first | assumption | decide | omega | (unfold CMul; omega) | (refine ⟨?_, ?_⟩ <;> omega) | (unfold CDiv; omega) | (unfold CPow; omega))
local macro_rules | `(tactic| walk_at "g1") => `(tactic| first
  | with_reducible first
    | refine g_seq ?_ | refine g_asg ?_ | refine g_name ?_ | refine g_ret ?_ | refine g_retN ?_ | refine g_drop ?_ | refine g_ifs ?_
    | refine g_c ?_ | refine g_op ?_ | refine g_un ?_ | refine g_I0 ?_ | refine g_U ?_
    | refine g_test ?_ | refine g_tB ?_ | refine g_bl ?_ | refine g_and ?_ | refine g_or ?_ | refine g_not ?_
    | refine g_andV ?_ | refine g_orV ?_ | refine g_notV ?_ | refine g_if ?_ | refine g_nil ?_ | refine g_cons ?_ | refine g_cb ?_ | refine g_call ?_
    | refine g_lst ?_ | refine g_tup ?_ | refine g_itT ?_ | refine g_itF ?_ | refine g_itNT ?_ | refine g_itNF ?_ | refine g_lc ?_ | refine g_iStr ?_ | refine g_yes ?_ | refine g_exs ?_
    | refine g_chain ?_ | refine g_dget ?_ | refine g_dput ?_ | refine g_dget2 ?_ | refine g_dpop2 ?_ | refine g_fld ?_ | refine g_sfld ?_ | refine g_make ?_ | refine g_meth ?_
    | refine g_bm ?_ | refine g_kw ?_ | refine g_callS ?_ | refine g_revL ?_ | refine g_m1 ?_ | refine g_gsub ?_ | refine g_for ?_ | refine g_iList ?_ | refine g_iTup ?_ | refine g_iRng1 ?_ | refine g_iRng2 ?_ | refine g_sl ?_ | refine g_part ?_ | refine g_noPart ?_
    | refine g_exi ?_ | refine g_exr ?_ | refine g_dnew ?_ | refine g_disp ?_ | refine g_prs0 ?_ | refine g_prs ?_ | refine g_nxt ?_
  | ((with_reducible refine g_var (v := ?vv) ?gv ?_); (case gv => exact rfl))
  | ((with_reducible refine g_I ?gc ?_); (case gc => walk_at "cond"))
  | ((with_reducible refine g_eq ?ge ?_); (case ge => exact rfl))
  | ((with_reducible refine g_ne ?ge ?_); (case ge => exact rfl))
  | (refine g_ixl (SqL.of (by first | assumption | exact upd_same)) rfl ?_)
  | (refine g_setl (by first | assumption | exact upd_same) rfl ?_)
  | ((with_reducible show (∃ i, [V.int _] = [V.int i] ∧ _) ∨ _); refine Or.inl ⟨_, rfl, ?_⟩)
  | ((with_reducible show ∃ i, [V.int _] = [V.int i] ∧ _); refine ⟨_, rfl, ?_⟩)
  | dsimp only)
local macro_rules | `(tactic| walk_at "go") => `(tactic| repeat (walk_at "g1"))

local macro_rules | `(tactic| walk_at "ex") => `(tactic| first
  | assumption
  | exact Ex.refl _
  | (refine Ex.trans ?_ (by assumption); walk_at "ex")
  | (refine BagAt.ex' (by assumption) ?_; walk_at "ex")
  | (refine HandAt.ex' (by assumption) ?_; walk_at "ex")
  | (refine DcsAt.ex' (by assumption) ?_; walk_at "ex")
  | (refine BgsAt.ex' (by assumption) ?_; walk_at "ex")
  | (refine DcsAt.hand (by assumption) (by assumption) ?_; walk_at "ex")
  | (refine BgsAt.hand (by assumption) (by assumption) ?_; walk_at "ex")
  | (refine WordsAt.ex' (by assumption) ?_; walk_at "ex")
  | (refine Ex.at' (by assumption) ?_; walk_at "ex")
  | (refine SqL.of ?_; walk_at "ex")
  | (refine SqT.of ?_; walk_at "ex")
  | (refine Or.inl ?_; walk_at "ex")
  | (refine BagAt.hand (by assumption) (by assumption) ?_; walk_at "ex")
  | (refine hand_dkE (by assumption) (by assumption) ?_; walk_at "ex")
  | (refine hand_lstE (by assumption) (by assumption) (by simp) ?_; walk_at "ex"))
local macro_rules | `(tactic| walk_at "go2") => `(tactic| (walk_at "go"; (repeat (refine g_ixl (SqL.of (by walk_at "ex")) rfl ?_; walk_at "go"))))

theorem law_7 {f : Addr} {cdv : Value} {A : Around} {outer : List Env} {s0 : Shared} {H0 : Hp} {E : XK} (hr : Room 13 (bodyA "law" s_law f cdv A s0)) (T : Txt K mg C_Bag Cs)
    (D_times : DefOk P w K mg base CX0 9 "times" ["bag", "number"] (sp_timesW Cs)) (D_less : DefOk P w K mg base CX0 9 "less" ["one", "other"] (sp_sum (-1) Cs)) (D_mk_Bag : MkOk P w K mg base CX0 6 "Bag" C_Bag ["self", "clock", "words"] (sp_bag_init C_Bag Cs)) (D_eq : EqOk P w K mg base C_Bag Cs)
    (next : PSs (bodyX P w K mg base N_law "law" s_law f cdv A outer s0 H0 E) ((defBody s_law).drop 12) (RL Cs)) : PSs (bodyX P w K mg base N_law "law" s_law f cdv A outer s0 H0 E) ((defBody s_law).drop 11) (RL Cs) := by
  have hu := hu_of hr
  have hu64 := L2.Room.units hr
  refine pss_imp (pss_cons (ps_if (PW.pt (pw_or (pt_cmpR (r := rBagEq K (sp_bag_eq K C_Bag Cs) Cs true) (op_neBagD D_eq (hr.mono (by decide))) (pe_callD D_times (hr.mono (by decide)) rfl pass0 (pa_cons (pe_ix (r := rIxL K) ix_list (pv 5) pe_int (fun _ _ => rfl)) (pa_cons (pe_un un_neg pe_int) pa_nil))) (pe_callD D_less (hr.mono (by decide)) rfl pass0 (pa_cons (pe_mkD D_mk_Bag (hr.mono (by decide)) rfl pass0 (pa_cons (pv 2) (pa_cons pe_dnewK pa_nil))) (pa_cons (pe_ix (r := rIxL K) ix_list (pv 5) pe_int (fun _ _ => rfl)) pa_nil))) (nomark _)) (pw_or1 (pt_cmpR (r := rBagEq K (sp_bag_eq K C_Bag Cs) Cs true) (op_neBagD D_eq (hr.mono (by decide))) (pe_callD D_times (hr.mono (by decide)) rfl pass0 (pa_cons (pe_ix (r := rIxL K) ix_list (pv 5) pe_int (fun _ _ => rfl)) (pa_cons (pv 2) pa_nil))) (pe_mkD D_mk_Bag (hr.mono (by decide)) rfl pass0 (pa_cons (pv 2) (pa_cons pe_dnewK pa_nil))) (nomark _))))) (pss_one (ps_ret pe_bl)) pss_nil) next) ?_
  rintro D σ H ⟨a, h, c, lr, lb, d0, d1, d2, b0, b1, b2, x4, x6, x7, p, s0, s1, s2, rfl, hp, S, l0, l1, l2, k⟩
  (try dsimp only [bodyX, cxOf])
  have hp2 := hp.lo
  have hp7 := hp.hi
  have hp1 : 1 < p := by omega
  have hp0 : 0 < p := by omega
  obtain ⟨r, l, u0, u1, u2, v0, v1, v2, hh⟩ := id S
  walk_at "go2"

  refine mkTimesW v1 l1 (by decide) (by decide) hp1 (by omega) fun x1 H1 e1 _ hx1 lx1 => ?_
  walk_at "go2"
  intro dz hdz
  walk_at "go2"
  have e2 : Ex H1 (upd H1 dz (.dK [])) := Ex.new hdz
  have f2 : upd H1 dz (.dK []) dz = some (.dK (toK [])) := upd_same
  generalize upd H1 dz (.dK []) = H2 at e2 f2 ⊢
  refine g_mkBag hp f2 Lot.nil fun x2 H3 e3 _ hx2 => ?_
  walk_at "go2"
  refine mkSum hx2 (by walk_at "ex") (Lot.nil (a := 0) (b := 0)) l1 (by decide) (by decide) (by decide) hp1 fun x3 H4 e4 _ hx3 lx3 => ?_
  refine g_beqT T (hx1.ex' (by walk_at "ex")) hx3 rfl ?_
  walk_at "go2"
  refine mkTimesW (by walk_at "ex") l2 (by decide) (by decide) hp1 (by omega) fun x5 H5 e5 _ hx5 lx5 => ?_
  walk_at "go2"
  intro dy hdy
  walk_at "go2"
  have e6 : Ex H5 (upd H5 dy (.dK [])) := Ex.new hdy
  have f6 : upd H5 dy (.dK []) dy = some (.dK (toK [])) := upd_same
  generalize upd H5 dy (.dK []) = H6 at e6 f6 ⊢
  refine g_mkBag hp f6 Lot.nil fun x6' H7 e7 _ hx6 => ?_
  walk_at "go2"
  refine g_beqT T (hx5.ex' (by walk_at "ex")) hx6 ((times_clock hp0 l2.g).words lx5.g Good.nil) ?_
  walk_at "go2"
  exact ⟨a, h, c, lr, lb, d0, d1, d2, b0, b1, b2, x4, x6, x7, p, s0, s1, s2, rfl, hp, S.ex (by walk_at "ex"), l0, l1, l2, k⟩
end
end Fp

namespace Fp
open PySem L2
section
variable {P : Program} {w : World} {K : PySem.W.Frag} {mg : Str → Option Value} {base : Heap} {C_Bag : Addr} {Cs : Addr → Prop}
local macro_rules | `(tactic| walk_at "hp") => `(tactic| first | assumption | rfl)
local macro_rules | `(tactic| walk_at "cond") => `(tactic| first | assumption | decide | omega | (unfold CMul; omega) | (refine ⟨?_, ?_⟩ <;> omega) | (unfold CDiv; omega) | (unfold CPow; omega))
local macro_rules | `(tactic| walk_at "g1") => `(tactic| first
  | with_reducible first
    | refine g_seq ?_ | refine g_asg ?_ | refine g_name ?_ | refine g_ret ?_ | refine g_retN ?_ | refine g_drop ?_ | refine g_ifs ?_
    | refine g_c ?_ | refine g_op ?_ | refine g_un ?_ | refine g_I0 ?_ | refine g_U ?_
    | refine g_test ?_ | refine g_tB ?_ | refine g_bl ?_ | refine g_and ?_ | refine g_or ?_ | refine g_not ?_
    | refine g_andV ?_ | refine g_orV ?_ | refine g_notV ?_ | refine g_if ?_ | refine g_nil ?_ | refine g_cons ?_ | refine g_cb ?_ | refine g_call ?_
    | refine g_lst ?_ | refine g_tup ?_ | refine g_itT ?_ | refine g_itF ?_ | refine g_itNT ?_ | refine g_itNF ?_ | refine g_lc ?_ | refine g_iStr ?_ | refine g_yes ?_ | refine g_exs ?_
    | refine g_chain ?_ | refine g_dget ?_ | refine g_dput ?_ | refine g_dget2 ?_ | refine g_dpop2 ?_ | refine g_fld ?_ | refine g_sfld ?_ | refine g_make ?_ | refine g_meth ?_
    | refine g_bm ?_ | refine g_kw ?_ | refine g_callS ?_ | refine g_revL ?_ | refine g_m1 ?_ | refine g_gsub ?_ | refine g_for ?_ | refine g_iList ?_ | refine g_iTup ?_ | refine g_iRng1 ?_ | refine g_iRng2 ?_ | refine g_sl ?_ | refine g_part ?_ | refine g_noPart ?_
    | refine g_exi ?_ | refine g_exr ?_ | refine g_dnew ?_ | refine g_disp ?_ | refine g_prs0 ?_ | refine g_prs ?_ | refine g_nxt ?_
  | ((with_reducible refine g_var (v := ?vv) ?gv ?_); (case gv => exact rfl))
  | ((with_reducible refine g_I ?gc ?_); (case gc => walk_at "cond"))
  | ((with_reducible refine g_eq ?ge ?_); (case ge => exact rfl))
  | ((with_reducible refine g_ne ?ge ?_); (case ge => exact rfl))
  | (refine g_ixl (SqL.of (by first | assumption | exact upd_same)) rfl ?_)
  | (refine g_setl (by first | assumption | exact upd_same) rfl ?_)
  | ((with_reducible show (∃ i, [V.int _] = [V.int i] ∧ _) ∨ _); refine Or.inl ⟨_, rfl, ?_⟩)
  | ((with_reducible show ∃ i, [V.int _] = [V.int i] ∧ _); refine ⟨_, rfl, ?_⟩)
  | dsimp only)
local macro_rules | `(tactic| walk_at "go") => `(tactic| repeat (walk_at "g1"))

local macro_rules | `(tactic| walk_at "ex") => `(tactic| first
  | assumption
  | exact Ex.refl _
  | (refine Ex.trans ?_ (by assumption); walk_at "ex")
  | (refine BagAt.ex' (by assumption) ?_; walk_at "ex")
  | (refine HandAt.ex' (by assumption) ?_; walk_at "ex")
  | (refine DcsAt.ex' (by assumption) ?_; walk_at "ex")
  | (refine BgsAt.ex' (by assumption) ?_; walk_at "ex")
  | (refine DcsAt.hand (by assumption) (by assumption) ?_; walk_at "ex")
  | (refine BgsAt.hand (by assumption) (by assumption) ?_; walk_at "ex")
  | (refine WordsAt.ex' (by assumption) ?_; walk_at "ex")
  | (refine Ex.at' (by assumption) ?_; walk_at "ex")
  | (refine SqL.of ?_; walk_at "ex")
  | (refine SqT.of ?_; walk_at "ex")
  | (refine Or.inl ?_; walk_at "ex")
  | (refine BagAt.hand (by assumption) (by assumption) ?_; walk_at "ex")
  | (refine hand_dkE (by assumption) (by assumption) ?_; walk_at "ex")
  | (refine hand_lstE (by assumption) (by assumption) (by simp) ?_; walk_at "ex"))
local macro_rules | `(tactic| walk_at "go2") => `(tactic| (walk_at "go"; (repeat (refine g_ixl (SqL.of (by walk_at "ex")) rfl ?_; walk_at "go"))))

theorem ok_law {f : Addr} {fd : FuncData} (F : Fun K "law" "law" s_law f fd) (T : Txt K mg C_Bag Cs) (D_law_hand : DefOk P w K mg base CX0 1 "_law_hand" ["_law_script"] (sp_law_hand K)) (D_law_clock : DefOk P w K mg base CX0 2 "_law_clock" ["_law_hand_here"] sp_law_clock) (D_law_some : DefOk P w K mg base CX0 4 "_law_some" ["_law_hand_here", "_law_clock_here"] sp_law_some) (D_mk_Bag : MkOk P w K mg base CX0 6 "Bag" C_Bag ["self", "clock", "words"] (sp_bag_init C_Bag Cs)) (D_together : DefOk P w K mg base CX0 9 "together" ["one", "other"] (sp_sum 1 Cs)) (D_less : DefOk P w K mg base CX0 9 "less" ["one", "other"] (sp_sum (-1) Cs)) (D_law_is : DefOk P w K mg base CX0 3 "_law_is" ["_law_told", "_law_clock_here", "_law_bag"] (sp_law_is Cs)) (D_law_plus : DefOk P w K mg base CX0 2 "_law_plus" ["_law_clock_here", "_law_one", "_law_other", "_law_factor"] sp_law_plus) (D_law_plusW : DefOk P w K mg base CX0 2 "_law_plus" ["_law_clock_here", "_law_one", "_law_other", "_law_factor"] sp_law_plusW) (D_law_all_right : DefOk P w K mg base CX0 10 "_law_all_right" ["_law_hand_here", "_law_clock_here", "_law_rows"] (sp_law_all_right K Cs)) (D_law_draw : DefOk P w K mg base CX0 1 "_law_draw" ["_law_hand_here", "_law_many"] sp_law_draw) (D_timesW : DefOk P w K mg base CX0 9 "times" ["bag", "number"] (sp_timesW Cs)) (D_eq : EqOk P w K mg base C_Bag Cs) (D_law_unlike : DefOk P w K mg base CX0 10 "_law_unlike" ["_law_kind", "_law_one", "_law_other"] (sp_law_unlike Cs)) (D_law_words : DefOk P w K mg base CX0 2 "_law_words" ["_law_bag"] sp_law_words) : FnOk P w K mg base CX0 14 f fd ["_law_script"] (sp_law K) := by
  refine F.ok sc_law (fun vs H Q E h => ?_) (fun cdv A outer s0 H vs Q E hr h => ?_)
  · obtain ⟨a, ns, rfl, _⟩ := h
    rfl
  · obtain ⟨a, ns, rfl, hs, k⟩ := h
    have q6 := law_6 (P := P) (w := w) (mg := mg) (base := base) (Cs := Cs) (outer := outer) (H0 := H) (E := E) hr T D_mk_Bag D_law_unlike D_law_words
    have q5 := law_7 hr T D_timesW D_less D_mk_Bag D_eq q6
    have q4' := law_5 hr T D_together D_less D_timesW D_mk_Bag D_eq q5
    have q4 := law_4 hr T D_together D_eq q4'
    have q3 := law_3 hr T D_law_draw D_timesW D_law_is D_law_plusW q4
    have q2 := law_2 hr T D_law_all_right q3
    have q1 := law_1 hr T D_together D_less D_law_is D_law_plus q2
    have q0 := law_0 hr T D_law_hand D_law_clock D_law_some D_mk_Bag q1
    exact ⟨_, q0, a, ns, rfl, hs, k⟩
end
end Fp

namespace Fp
open PySem L2
theorem all_mk {l : PySem.W.OpenLaw} {w : World} {K : PySem.W.Frag} {h : Heap} {mg : Str → Option Value} {fa aC C_Bag C_RawBag C_UnlikeClocks f_ahead_key f_law_hand f_law_draw f_law_clock f_law_small f_law_word f_law_lot f_law_put f_law_product f_law_plus f_law_woven f_law_some f_is_integer f_is_clock f_is_word f_is_short_word f_is_within f_are_words f_words_in_order f_Bag_keep f_Bag_init f_check_clocks f_RawBag_init f_raw f_put_to f_added f_together f_less f_law_order f_law_words f_law_is f_is_listed f_check_bags f_all_together f_size f_bag_key f_Bag_eq f_in_order f_law_key f_law_all_right f_scaled f_times f_law_unlike f_law : Addr} (X : K.In h) (G : h.Ns mainGlobals mg) (hfa : mg "law" = some (.ref fa))
    {od_ahead_key an_ahead_key : Option Addr} {sl_ahead_key : Array (Option Value)} {oc_ahead_key kV_ahead_key dc_ahead_key pm_ahead_key cd_ahead_key ct_ahead_key : Value} {od_law_hand an_law_hand : Option Addr} {sl_law_hand : Array (Option Value)} {oc_law_hand kV_law_hand dc_law_hand pm_law_hand cd_law_hand ct_law_hand : Value} {od_law_draw an_law_draw : Option Addr} {sl_law_draw : Array (Option Value)} {oc_law_draw kV_law_draw dc_law_draw pm_law_draw cd_law_draw ct_law_draw : Value} {od_law_clock an_law_clock : Option Addr} {sl_law_clock : Array (Option Value)} {oc_law_clock kV_law_clock dc_law_clock pm_law_clock cd_law_clock ct_law_clock : Value} {od_law_small an_law_small : Option Addr} {sl_law_small : Array (Option Value)} {oc_law_small kV_law_small dc_law_small pm_law_small cd_law_small ct_law_small : Value} {od_law_word an_law_word : Option Addr} {sl_law_word : Array (Option Value)} {oc_law_word kV_law_word dc_law_word pm_law_word cd_law_word ct_law_word : Value} {od_law_lot an_law_lot : Option Addr} {sl_law_lot : Array (Option Value)} {oc_law_lot kV_law_lot dc_law_lot pm_law_lot cd_law_lot ct_law_lot : Value} {od_law_put an_law_put : Option Addr} {sl_law_put : Array (Option Value)} {oc_law_put kV_law_put dc_law_put pm_law_put cd_law_put ct_law_put : Value} {od_law_product an_law_product : Option Addr} {sl_law_product : Array (Option Value)} {oc_law_product kV_law_product dc_law_product pm_law_product cd_law_product ct_law_product : Value} {od_law_plus an_law_plus : Option Addr} {sl_law_plus : Array (Option Value)} {oc_law_plus kV_law_plus dc_law_plus pm_law_plus cd_law_plus ct_law_plus : Value} {od_law_woven an_law_woven : Option Addr} {sl_law_woven : Array (Option Value)} {oc_law_woven kV_law_woven dc_law_woven pm_law_woven cd_law_woven ct_law_woven : Value} {od_law_some an_law_some : Option Addr} {sl_law_some : Array (Option Value)} {oc_law_some kV_law_some dc_law_some pm_law_some cd_law_some ct_law_some : Value} {od_is_integer an_is_integer : Option Addr} {sl_is_integer : Array (Option Value)} {oc_is_integer kV_is_integer dc_is_integer pm_is_integer cd_is_integer ct_is_integer : Value} {od_is_clock an_is_clock : Option Addr} {sl_is_clock : Array (Option Value)} {oc_is_clock kV_is_clock dc_is_clock pm_is_clock cd_is_clock ct_is_clock : Value} {od_is_word an_is_word : Option Addr} {sl_is_word : Array (Option Value)} {oc_is_word kV_is_word dc_is_word pm_is_word cd_is_word ct_is_word : Value} {od_is_short_word an_is_short_word : Option Addr} {sl_is_short_word : Array (Option Value)} {oc_is_short_word kV_is_short_word dc_is_short_word pm_is_short_word cd_is_short_word ct_is_short_word : Value} {od_is_within an_is_within : Option Addr} {sl_is_within : Array (Option Value)} {oc_is_within kV_is_within dc_is_within pm_is_within cd_is_within ct_is_within : Value} {od_are_words an_are_words : Option Addr} {sl_are_words : Array (Option Value)} {oc_are_words kV_are_words dc_are_words pm_are_words cd_are_words ct_are_words : Value} {od_words_in_order an_words_in_order : Option Addr} {sl_words_in_order : Array (Option Value)} {oc_words_in_order kV_words_in_order dc_words_in_order pm_words_in_order cd_words_in_order ct_words_in_order : Value} {od_Bag_keep an_Bag_keep : Option Addr} {sl_Bag_keep : Array (Option Value)} {oc_Bag_keep kV_Bag_keep dc_Bag_keep pm_Bag_keep cd_Bag_keep ct_Bag_keep : Value} {od_Bag_init an_Bag_init : Option Addr} {sl_Bag_init : Array (Option Value)} {oc_Bag_init kV_Bag_init dc_Bag_init pm_Bag_init cd_Bag_init ct_Bag_init : Value} {od_check_clocks an_check_clocks : Option Addr} {sl_check_clocks : Array (Option Value)} {oc_check_clocks kV_check_clocks dc_check_clocks pm_check_clocks cd_check_clocks ct_check_clocks : Value} {od_RawBag_init an_RawBag_init : Option Addr} {sl_RawBag_init : Array (Option Value)} {oc_RawBag_init kV_RawBag_init dc_RawBag_init pm_RawBag_init cd_RawBag_init ct_RawBag_init : Value} {od_raw an_raw : Option Addr} {sl_raw : Array (Option Value)} {oc_raw kV_raw dc_raw pm_raw cd_raw ct_raw : Value} {od_put_to an_put_to : Option Addr} {sl_put_to : Array (Option Value)} {oc_put_to kV_put_to dc_put_to pm_put_to cd_put_to ct_put_to : Value} {od_added an_added : Option Addr} {sl_added : Array (Option Value)} {oc_added kV_added dc_added pm_added cd_added ct_added : Value} {od_together an_together : Option Addr} {sl_together : Array (Option Value)} {oc_together kV_together dc_together pm_together cd_together ct_together : Value} {od_less an_less : Option Addr} {sl_less : Array (Option Value)} {oc_less kV_less dc_less pm_less cd_less ct_less : Value} {od_law_order an_law_order : Option Addr} {sl_law_order : Array (Option Value)} {oc_law_order kV_law_order dc_law_order pm_law_order cd_law_order ct_law_order : Value} {od_law_words an_law_words : Option Addr} {sl_law_words : Array (Option Value)} {oc_law_words kV_law_words dc_law_words pm_law_words cd_law_words ct_law_words : Value} {od_law_is an_law_is : Option Addr} {sl_law_is : Array (Option Value)} {oc_law_is kV_law_is dc_law_is pm_law_is cd_law_is ct_law_is : Value} {od_is_listed an_is_listed : Option Addr} {sl_is_listed : Array (Option Value)} {oc_is_listed kV_is_listed dc_is_listed pm_is_listed cd_is_listed ct_is_listed : Value} {od_check_bags an_check_bags : Option Addr} {sl_check_bags : Array (Option Value)} {oc_check_bags kV_check_bags dc_check_bags pm_check_bags cd_check_bags ct_check_bags : Value} {od_all_together an_all_together : Option Addr} {sl_all_together : Array (Option Value)} {oc_all_together kV_all_together dc_all_together pm_all_together cd_all_together ct_all_together : Value} {od_size an_size : Option Addr} {sl_size : Array (Option Value)} {oc_size kV_size dc_size pm_size cd_size ct_size : Value} {od_bag_key an_bag_key : Option Addr} {sl_bag_key : Array (Option Value)} {oc_bag_key kV_bag_key dc_bag_key pm_bag_key cd_bag_key ct_bag_key : Value} {od_Bag_eq an_Bag_eq : Option Addr} {sl_Bag_eq : Array (Option Value)} {oc_Bag_eq kV_Bag_eq dc_Bag_eq pm_Bag_eq cd_Bag_eq ct_Bag_eq : Value} {od_in_order an_in_order : Option Addr} {sl_in_order : Array (Option Value)} {oc_in_order kV_in_order dc_in_order pm_in_order cd_in_order ct_in_order : Value} {od_law_key an_law_key : Option Addr} {sl_law_key : Array (Option Value)} {oc_law_key kV_law_key dc_law_key pm_law_key cd_law_key ct_law_key : Value} {od_law_all_right an_law_all_right : Option Addr} {sl_law_all_right : Array (Option Value)} {oc_law_all_right kV_law_all_right dc_law_all_right pm_law_all_right cd_law_all_right ct_law_all_right : Value} {od_scaled an_scaled : Option Addr} {sl_scaled : Array (Option Value)} {oc_scaled kV_scaled dc_scaled pm_scaled cd_scaled ct_scaled : Value} {od_times an_times : Option Addr} {sl_times : Array (Option Value)} {oc_times kV_times dc_times pm_times cd_times ct_times : Value} {od_law_unlike an_law_unlike : Option Addr} {sl_law_unlike : Array (Option Value)} {oc_law_unlike kV_law_unlike dc_law_unlike pm_law_unlike cd_law_unlike ct_law_unlike : Value} {od_law an_law : Option Addr} {sl_law : Array (Option Value)} {oc_law kV_law dc_law pm_law cd_law ct_law : Value} {t1 t2 t3 t4 t5 t6 t7  : Tok} {od4 : Option Addr} {n4' : Nat} {sl4 : Array (Option Value)}
    (nsBag : PySem.W.nsIn K mainGlobals "Bag" = some (some (.ref C_Bag)))
    (nsRawBag : PySem.W.nsIn K mainGlobals "RawBag" = some (some (.ref C_RawBag)))
    (a_ahead_key : PySem.W.nsIn K mainGlobals "ahead_key" = some (some (.ref f_ahead_key)))
    (l_ahead_key : K.lookup f_ahead_key = some ⟨oc_ahead_key, od_ahead_key, .func (PySem.W.fnOf "ahead_key" "ahead_key" (defArgs s_ahead_key) (defBody s_ahead_key) (defScope s_ahead_key) .none kV_ahead_key dc_ahead_key pm_ahead_key an_ahead_key cd_ahead_key ct_ahead_key), sl_ahead_key⟩)
    (c_ahead_key : PySem.W.codeIn K cd_ahead_key "ahead_key" = true)
    (k_ahead_key : PySem.W.keepIn K (.ref f_ahead_key) = true)
    (a_law_hand : PySem.W.nsIn K mainGlobals "_law_hand" = some (some (.ref f_law_hand)))
    (l_law_hand : K.lookup f_law_hand = some ⟨oc_law_hand, od_law_hand, .func (PySem.W.fnOf "_law_hand" "_law_hand" (defArgs s_law_hand) (defBody s_law_hand) (defScope s_law_hand) .none kV_law_hand dc_law_hand pm_law_hand an_law_hand cd_law_hand ct_law_hand), sl_law_hand⟩)
    (c_law_hand : PySem.W.codeIn K cd_law_hand "_law_hand" = true)
    (k_law_hand : PySem.W.keepIn K (.ref f_law_hand) = true)
    (a_law_draw : PySem.W.nsIn K mainGlobals "_law_draw" = some (some (.ref f_law_draw)))
    (l_law_draw : K.lookup f_law_draw = some ⟨oc_law_draw, od_law_draw, .func (PySem.W.fnOf "_law_draw" "_law_draw" (defArgs s_law_draw) (defBody s_law_draw) (defScope s_law_draw) .none kV_law_draw dc_law_draw pm_law_draw an_law_draw cd_law_draw ct_law_draw), sl_law_draw⟩)
    (c_law_draw : PySem.W.codeIn K cd_law_draw "_law_draw" = true)
    (k_law_draw : PySem.W.keepIn K (.ref f_law_draw) = true)
    (a_law_clock : PySem.W.nsIn K mainGlobals "_law_clock" = some (some (.ref f_law_clock)))
    (l_law_clock : K.lookup f_law_clock = some ⟨oc_law_clock, od_law_clock, .func (PySem.W.fnOf "_law_clock" "_law_clock" (defArgs s_law_clock) (defBody s_law_clock) (defScope s_law_clock) .none kV_law_clock dc_law_clock pm_law_clock an_law_clock cd_law_clock ct_law_clock), sl_law_clock⟩)
    (c_law_clock : PySem.W.codeIn K cd_law_clock "_law_clock" = true)
    (k_law_clock : PySem.W.keepIn K (.ref f_law_clock) = true)
    (a_law_small : PySem.W.nsIn K mainGlobals "_law_small" = some (some (.ref f_law_small)))
    (l_law_small : K.lookup f_law_small = some ⟨oc_law_small, od_law_small, .func (PySem.W.fnOf "_law_small" "_law_small" (defArgs s_law_small) (defBody s_law_small) (defScope s_law_small) .none kV_law_small dc_law_small pm_law_small an_law_small cd_law_small ct_law_small), sl_law_small⟩)
    (c_law_small : PySem.W.codeIn K cd_law_small "_law_small" = true)
    (k_law_small : PySem.W.keepIn K (.ref f_law_small) = true)
    (a_law_word : PySem.W.nsIn K mainGlobals "_law_word" = some (some (.ref f_law_word)))
    (l_law_word : K.lookup f_law_word = some ⟨oc_law_word, od_law_word, .func (PySem.W.fnOf "_law_word" "_law_word" (defArgs s_law_word) (defBody s_law_word) (defScope s_law_word) .none kV_law_word dc_law_word pm_law_word an_law_word cd_law_word ct_law_word), sl_law_word⟩)
    (c_law_word : PySem.W.codeIn K cd_law_word "_law_word" = true)
    (k_law_word : PySem.W.keepIn K (.ref f_law_word) = true)
    (a_law_lot : PySem.W.nsIn K mainGlobals "_law_lot" = some (some (.ref f_law_lot)))
    (l_law_lot : K.lookup f_law_lot = some ⟨oc_law_lot, od_law_lot, .func (PySem.W.fnOf "_law_lot" "_law_lot" (defArgs s_law_lot) (defBody s_law_lot) (defScope s_law_lot) .none kV_law_lot dc_law_lot pm_law_lot an_law_lot cd_law_lot ct_law_lot), sl_law_lot⟩)
    (c_law_lot : PySem.W.codeIn K cd_law_lot "_law_lot" = true)
    (k_law_lot : PySem.W.keepIn K (.ref f_law_lot) = true)
    (a_law_put : PySem.W.nsIn K mainGlobals "_law_put" = some (some (.ref f_law_put)))
    (l_law_put : K.lookup f_law_put = some ⟨oc_law_put, od_law_put, .func (PySem.W.fnOf "_law_put" "_law_put" (defArgs s_law_put) (defBody s_law_put) (defScope s_law_put) .none kV_law_put dc_law_put pm_law_put an_law_put cd_law_put ct_law_put), sl_law_put⟩)
    (c_law_put : PySem.W.codeIn K cd_law_put "_law_put" = true)
    (k_law_put : PySem.W.keepIn K (.ref f_law_put) = true)
    (a_law_product : PySem.W.nsIn K mainGlobals "_law_product" = some (some (.ref f_law_product)))
    (l_law_product : K.lookup f_law_product = some ⟨oc_law_product, od_law_product, .func (PySem.W.fnOf "_law_product" "_law_product" (defArgs s_law_product) (defBody s_law_product) (defScope s_law_product) .none kV_law_product dc_law_product pm_law_product an_law_product cd_law_product ct_law_product), sl_law_product⟩)
    (c_law_product : PySem.W.codeIn K cd_law_product "_law_product" = true)
    (k_law_product : PySem.W.keepIn K (.ref f_law_product) = true)
    (a_law_plus : PySem.W.nsIn K mainGlobals "_law_plus" = some (some (.ref f_law_plus)))
    (l_law_plus : K.lookup f_law_plus = some ⟨oc_law_plus, od_law_plus, .func (PySem.W.fnOf "_law_plus" "_law_plus" (defArgs s_law_plus) (defBody s_law_plus) (defScope s_law_plus) .none kV_law_plus dc_law_plus pm_law_plus an_law_plus cd_law_plus ct_law_plus), sl_law_plus⟩)
    (c_law_plus : PySem.W.codeIn K cd_law_plus "_law_plus" = true)
    (k_law_plus : PySem.W.keepIn K (.ref f_law_plus) = true)
    (a_law_woven : PySem.W.nsIn K mainGlobals "_law_woven" = some (some (.ref f_law_woven)))
    (l_law_woven : K.lookup f_law_woven = some ⟨oc_law_woven, od_law_woven, .func (PySem.W.fnOf "_law_woven" "_law_woven" (defArgs s_law_woven) (defBody s_law_woven) (defScope s_law_woven) .none kV_law_woven dc_law_woven pm_law_woven an_law_woven cd_law_woven ct_law_woven), sl_law_woven⟩)
    (c_law_woven : PySem.W.codeIn K cd_law_woven "_law_woven" = true)
    (k_law_woven : PySem.W.keepIn K (.ref f_law_woven) = true)
    (a_law_some : PySem.W.nsIn K mainGlobals "_law_some" = some (some (.ref f_law_some)))
    (l_law_some : K.lookup f_law_some = some ⟨oc_law_some, od_law_some, .func (PySem.W.fnOf "_law_some" "_law_some" (defArgs s_law_some) (defBody s_law_some) (defScope s_law_some) .none kV_law_some dc_law_some pm_law_some an_law_some cd_law_some ct_law_some), sl_law_some⟩)
    (c_law_some : PySem.W.codeIn K cd_law_some "_law_some" = true)
    (k_law_some : PySem.W.keepIn K (.ref f_law_some) = true)
    (a_is_integer : PySem.W.nsIn K mainGlobals "is_integer" = some (some (.ref f_is_integer)))
    (l_is_integer : K.lookup f_is_integer = some ⟨oc_is_integer, od_is_integer, .func (PySem.W.fnOf "is_integer" "is_integer" (defArgs s_is_integer) (defBody s_is_integer) (defScope s_is_integer) .none kV_is_integer dc_is_integer pm_is_integer an_is_integer cd_is_integer ct_is_integer), sl_is_integer⟩)
    (c_is_integer : PySem.W.codeIn K cd_is_integer "is_integer" = true)
    (k_is_integer : PySem.W.keepIn K (.ref f_is_integer) = true)
    (a_is_clock : PySem.W.nsIn K mainGlobals "is_clock" = some (some (.ref f_is_clock)))
    (l_is_clock : K.lookup f_is_clock = some ⟨oc_is_clock, od_is_clock, .func (PySem.W.fnOf "is_clock" "is_clock" (defArgs s_is_clock) (defBody s_is_clock) (defScope s_is_clock) .none kV_is_clock dc_is_clock pm_is_clock an_is_clock cd_is_clock ct_is_clock), sl_is_clock⟩)
    (c_is_clock : PySem.W.codeIn K cd_is_clock "is_clock" = true)
    (k_is_clock : PySem.W.keepIn K (.ref f_is_clock) = true)
    (a_is_word : PySem.W.nsIn K mainGlobals "is_word" = some (some (.ref f_is_word)))
    (l_is_word : K.lookup f_is_word = some ⟨oc_is_word, od_is_word, .func (PySem.W.fnOf "is_word" "is_word" (defArgs s_is_word) (defBody s_is_word) (defScope s_is_word) .none kV_is_word dc_is_word pm_is_word an_is_word cd_is_word ct_is_word), sl_is_word⟩)
    (c_is_word : PySem.W.codeIn K cd_is_word "is_word" = true)
    (k_is_word : PySem.W.keepIn K (.ref f_is_word) = true)
    (a_is_short_word : PySem.W.nsIn K mainGlobals "is_short_word" = some (some (.ref f_is_short_word)))
    (l_is_short_word : K.lookup f_is_short_word = some ⟨oc_is_short_word, od_is_short_word, .func (PySem.W.fnOf "is_short_word" "is_short_word" (defArgs s_is_short_word) (defBody s_is_short_word) (defScope s_is_short_word) .none kV_is_short_word dc_is_short_word pm_is_short_word an_is_short_word cd_is_short_word ct_is_short_word), sl_is_short_word⟩)
    (c_is_short_word : PySem.W.codeIn K cd_is_short_word "is_short_word" = true)
    (k_is_short_word : PySem.W.keepIn K (.ref f_is_short_word) = true)
    (a_is_within : PySem.W.nsIn K mainGlobals "is_within" = some (some (.ref f_is_within)))
    (l_is_within : K.lookup f_is_within = some ⟨oc_is_within, od_is_within, .func (PySem.W.fnOf "is_within" "is_within" (defArgs s_is_within) (defBody s_is_within) (defScope s_is_within) .none kV_is_within dc_is_within pm_is_within an_is_within cd_is_within ct_is_within), sl_is_within⟩)
    (c_is_within : PySem.W.codeIn K cd_is_within "is_within" = true)
    (k_is_within : PySem.W.keepIn K (.ref f_is_within) = true)
    (a_are_words : PySem.W.nsIn K mainGlobals "are_words" = some (some (.ref f_are_words)))
    (l_are_words : K.lookup f_are_words = some ⟨oc_are_words, od_are_words, .func (PySem.W.fnOf "are_words" "are_words" (defArgs s_are_words) (defBody s_are_words) (defScope s_are_words) .none kV_are_words dc_are_words pm_are_words an_are_words cd_are_words ct_are_words), sl_are_words⟩)
    (c_are_words : PySem.W.codeIn K cd_are_words "are_words" = true)
    (k_are_words : PySem.W.keepIn K (.ref f_are_words) = true)
    (a_words_in_order : PySem.W.nsIn K mainGlobals "words_in_order" = some (some (.ref f_words_in_order)))
    (l_words_in_order : K.lookup f_words_in_order = some ⟨oc_words_in_order, od_words_in_order, .func (PySem.W.fnOf "words_in_order" "words_in_order" (defArgs s_words_in_order) (defBody s_words_in_order) (defScope s_words_in_order) .none kV_words_in_order dc_words_in_order pm_words_in_order an_words_in_order cd_words_in_order ct_words_in_order), sl_words_in_order⟩)
    (c_words_in_order : PySem.W.codeIn K cd_words_in_order "words_in_order" = true)
    (k_words_in_order : PySem.W.keepIn K (.ref f_words_in_order) = true)
    (a_Bag_keep : PySem.W.findIn K (.ref C_Bag) "keep" = some (some (.ref f_Bag_keep)))
    (i_Bag_keep : PySem.W.isFn K (.ref f_Bag_keep) = true)
    (l_Bag_keep : K.lookup f_Bag_keep = some ⟨oc_Bag_keep, od_Bag_keep, .func (PySem.W.fnOf "keep" "Bag.keep" (defArgs s_Bag_keep) (defBody s_Bag_keep) (defScope s_Bag_keep) .none kV_Bag_keep dc_Bag_keep pm_Bag_keep an_Bag_keep cd_Bag_keep ct_Bag_keep), sl_Bag_keep⟩)
    (c_Bag_keep : PySem.W.codeIn K cd_Bag_keep "Bag.keep" = true)
    (k_Bag_keep : PySem.W.keepIn K (.ref f_Bag_keep) = true)
    (a_Bag_init : PySem.W.findIn K (.ref C_Bag) "__init__" = some (some (.ref f_Bag_init)))
    (i_Bag_init : PySem.W.isFn K (.ref f_Bag_init) = true)
    (l_Bag_init : K.lookup f_Bag_init = some ⟨oc_Bag_init, od_Bag_init, .func (PySem.W.fnOf "__init__" "Bag.__init__" (defArgs s_Bag_init) (defBody s_Bag_init) (defScope s_Bag_init) .none kV_Bag_init dc_Bag_init pm_Bag_init an_Bag_init cd_Bag_init ct_Bag_init), sl_Bag_init⟩)
    (c_Bag_init : PySem.W.codeIn K cd_Bag_init "Bag.__init__" = true)
    (k_Bag_init : PySem.W.keepIn K (.ref f_Bag_init) = true)
    (a_check_clocks : PySem.W.nsIn K mainGlobals "check_clocks" = some (some (.ref f_check_clocks)))
    (l_check_clocks : K.lookup f_check_clocks = some ⟨oc_check_clocks, od_check_clocks, .func (PySem.W.fnOf "check_clocks" "check_clocks" (defArgs s_check_clocks) (defBody s_check_clocks) (defScope s_check_clocks) .none kV_check_clocks dc_check_clocks pm_check_clocks an_check_clocks cd_check_clocks ct_check_clocks), sl_check_clocks⟩)
    (c_check_clocks : PySem.W.codeIn K cd_check_clocks "check_clocks" = true)
    (k_check_clocks : PySem.W.keepIn K (.ref f_check_clocks) = true)
    (a_RawBag_init : PySem.W.findIn K (.ref C_RawBag) "__init__" = some (some (.ref f_RawBag_init)))
    (i_RawBag_init : PySem.W.isFn K (.ref f_RawBag_init) = true)
    (l_RawBag_init : K.lookup f_RawBag_init = some ⟨oc_RawBag_init, od_RawBag_init, .func (PySem.W.fnOf "__init__" "RawBag.__init__" (defArgs s_RawBag_init) (defBody s_RawBag_init) (defScope s_RawBag_init) .none kV_RawBag_init dc_RawBag_init pm_RawBag_init an_RawBag_init cd_RawBag_init ct_RawBag_init), sl_RawBag_init⟩)
    (c_RawBag_init : PySem.W.codeIn K cd_RawBag_init "RawBag.__init__" = true)
    (k_RawBag_init : PySem.W.keepIn K (.ref f_RawBag_init) = true)
    (a_raw : PySem.W.nsIn K mainGlobals "raw" = some (some (.ref f_raw)))
    (l_raw : K.lookup f_raw = some ⟨oc_raw, od_raw, .func (PySem.W.fnOf "raw" "raw" (defArgs s_raw) (defBody s_raw) (defScope s_raw) .none kV_raw dc_raw pm_raw an_raw cd_raw ct_raw), sl_raw⟩)
    (c_raw : PySem.W.codeIn K cd_raw "raw" = true)
    (k_raw : PySem.W.keepIn K (.ref f_raw) = true)
    (a_put_to : PySem.W.nsIn K mainGlobals "put_to" = some (some (.ref f_put_to)))
    (l_put_to : K.lookup f_put_to = some ⟨oc_put_to, od_put_to, .func (PySem.W.fnOf "put_to" "put_to" (defArgs s_put_to) (defBody s_put_to) (defScope s_put_to) .none kV_put_to dc_put_to pm_put_to an_put_to cd_put_to ct_put_to), sl_put_to⟩)
    (c_put_to : PySem.W.codeIn K cd_put_to "put_to" = true)
    (k_put_to : PySem.W.keepIn K (.ref f_put_to) = true)
    (a_added : PySem.W.nsIn K mainGlobals "added" = some (some (.ref f_added)))
    (l_added : K.lookup f_added = some ⟨oc_added, od_added, .func (PySem.W.fnOf "added" "added" (defArgs s_added) (defBody s_added) (defScope s_added) .none kV_added dc_added pm_added an_added cd_added ct_added), sl_added⟩)
    (c_added : PySem.W.codeIn K cd_added "added" = true)
    (k_added : PySem.W.keepIn K (.ref f_added) = true)
    (a_together : PySem.W.nsIn K mainGlobals "together" = some (some (.ref f_together)))
    (l_together : K.lookup f_together = some ⟨oc_together, od_together, .func (PySem.W.fnOf "together" "together" (defArgs s_together) (defBody s_together) (defScope s_together) .none kV_together dc_together pm_together an_together cd_together ct_together), sl_together⟩)
    (c_together : PySem.W.codeIn K cd_together "together" = true)
    (k_together : PySem.W.keepIn K (.ref f_together) = true)
    (a_less : PySem.W.nsIn K mainGlobals "less" = some (some (.ref f_less)))
    (l_less : K.lookup f_less = some ⟨oc_less, od_less, .func (PySem.W.fnOf "less" "less" (defArgs s_less) (defBody s_less) (defScope s_less) .none kV_less dc_less pm_less an_less cd_less ct_less), sl_less⟩)
    (c_less : PySem.W.codeIn K cd_less "less" = true)
    (k_less : PySem.W.keepIn K (.ref f_less) = true)
    (a_law_order : PySem.W.nsIn K mainGlobals "_law_order" = some (some (.ref f_law_order)))
    (l_law_order : K.lookup f_law_order = some ⟨oc_law_order, od_law_order, .func (PySem.W.fnOf "_law_order" "_law_order" (defArgs s_law_order) (defBody s_law_order) (defScope s_law_order) .none kV_law_order dc_law_order pm_law_order an_law_order cd_law_order ct_law_order), sl_law_order⟩)
    (c_law_order : PySem.W.codeIn K cd_law_order "_law_order" = true)
    (k_law_order : PySem.W.keepIn K (.ref f_law_order) = true)
    (a_law_words : PySem.W.nsIn K mainGlobals "_law_words" = some (some (.ref f_law_words)))
    (l_law_words : K.lookup f_law_words = some ⟨oc_law_words, od_law_words, .func (PySem.W.fnOf "_law_words" "_law_words" (defArgs s_law_words) (defBody s_law_words) (defScope s_law_words) .none kV_law_words dc_law_words pm_law_words an_law_words cd_law_words ct_law_words), sl_law_words⟩)
    (c_law_words : PySem.W.codeIn K cd_law_words "_law_words" = true)
    (k_law_words : PySem.W.keepIn K (.ref f_law_words) = true)
    (a_law_is : PySem.W.nsIn K mainGlobals "_law_is" = some (some (.ref f_law_is)))
    (l_law_is : K.lookup f_law_is = some ⟨oc_law_is, od_law_is, .func (PySem.W.fnOf "_law_is" "_law_is" (defArgs s_law_is) (defBody s_law_is) (defScope s_law_is) .none kV_law_is dc_law_is pm_law_is an_law_is cd_law_is ct_law_is), sl_law_is⟩)
    (c_law_is : PySem.W.codeIn K cd_law_is "_law_is" = true)
    (k_law_is : PySem.W.keepIn K (.ref f_law_is) = true)
    (a_is_listed : PySem.W.nsIn K mainGlobals "is_listed" = some (some (.ref f_is_listed)))
    (l_is_listed : K.lookup f_is_listed = some ⟨oc_is_listed, od_is_listed, .func (PySem.W.fnOf "is_listed" "is_listed" (defArgs s_is_listed) (defBody s_is_listed) (defScope s_is_listed) .none kV_is_listed dc_is_listed pm_is_listed an_is_listed cd_is_listed ct_is_listed), sl_is_listed⟩)
    (c_is_listed : PySem.W.codeIn K cd_is_listed "is_listed" = true)
    (k_is_listed : PySem.W.keepIn K (.ref f_is_listed) = true)
    (a_check_bags : PySem.W.nsIn K mainGlobals "check_bags" = some (some (.ref f_check_bags)))
    (l_check_bags : K.lookup f_check_bags = some ⟨oc_check_bags, od_check_bags, .func (PySem.W.fnOf "check_bags" "check_bags" (defArgs s_check_bags) (defBody s_check_bags) (defScope s_check_bags) .none kV_check_bags dc_check_bags pm_check_bags an_check_bags cd_check_bags ct_check_bags), sl_check_bags⟩)
    (c_check_bags : PySem.W.codeIn K cd_check_bags "check_bags" = true)
    (k_check_bags : PySem.W.keepIn K (.ref f_check_bags) = true)
    (a_all_together : PySem.W.nsIn K mainGlobals "all_together" = some (some (.ref f_all_together)))
    (l_all_together : K.lookup f_all_together = some ⟨oc_all_together, od_all_together, .func (PySem.W.fnOf "all_together" "all_together" (defArgs s_all_together) (defBody s_all_together) (defScope s_all_together) .none kV_all_together dc_all_together pm_all_together an_all_together cd_all_together ct_all_together), sl_all_together⟩)
    (c_all_together : PySem.W.codeIn K cd_all_together "all_together" = true)
    (k_all_together : PySem.W.keepIn K (.ref f_all_together) = true)
    (a_size : PySem.W.nsIn K mainGlobals "size" = some (some (.ref f_size)))
    (l_size : K.lookup f_size = some ⟨oc_size, od_size, .func (PySem.W.fnOf "size" "size" (defArgs s_size) (defBody s_size) (defScope s_size) .none kV_size dc_size pm_size an_size cd_size ct_size), sl_size⟩)
    (c_size : PySem.W.codeIn K cd_size "size" = true)
    (k_size : PySem.W.keepIn K (.ref f_size) = true)
    (a_bag_key : PySem.W.nsIn K mainGlobals "bag_key" = some (some (.ref f_bag_key)))
    (l_bag_key : K.lookup f_bag_key = some ⟨oc_bag_key, od_bag_key, .func (PySem.W.fnOf "bag_key" "bag_key" (defArgs s_bag_key) (defBody s_bag_key) (defScope s_bag_key) .none kV_bag_key dc_bag_key pm_bag_key an_bag_key cd_bag_key ct_bag_key), sl_bag_key⟩)
    (c_bag_key : PySem.W.codeIn K cd_bag_key "bag_key" = true)
    (k_bag_key : PySem.W.keepIn K (.ref f_bag_key) = true)
    (a_Bag_eq : PySem.W.findIn K (.ref C_Bag) "__eq__" = some (some (.ref f_Bag_eq)))
    (i_Bag_eq : PySem.W.isFn K (.ref f_Bag_eq) = true)
    (l_Bag_eq : K.lookup f_Bag_eq = some ⟨oc_Bag_eq, od_Bag_eq, .func (PySem.W.fnOf "__eq__" "Bag.__eq__" (defArgs s_Bag_eq) (defBody s_Bag_eq) (defScope s_Bag_eq) .none kV_Bag_eq dc_Bag_eq pm_Bag_eq an_Bag_eq cd_Bag_eq ct_Bag_eq), sl_Bag_eq⟩)
    (c_Bag_eq : PySem.W.codeIn K cd_Bag_eq "Bag.__eq__" = true)
    (k_Bag_eq : PySem.W.keepIn K (.ref f_Bag_eq) = true)
    (a_in_order : PySem.W.nsIn K mainGlobals "in_order" = some (some (.ref f_in_order)))
    (l_in_order : K.lookup f_in_order = some ⟨oc_in_order, od_in_order, .func (PySem.W.fnOf "in_order" "in_order" (defArgs s_in_order) (defBody s_in_order) (defScope s_in_order) .none kV_in_order dc_in_order pm_in_order an_in_order cd_in_order ct_in_order), sl_in_order⟩)
    (c_in_order : PySem.W.codeIn K cd_in_order "in_order" = true)
    (k_in_order : PySem.W.keepIn K (.ref f_in_order) = true)
    (a_law_key : PySem.W.nsIn K mainGlobals "_law_key" = some (some (.ref f_law_key)))
    (l_law_key : K.lookup f_law_key = some ⟨oc_law_key, od_law_key, .func (PySem.W.fnOf "_law_key" "_law_key" (defArgs s_law_key) (defBody s_law_key) (defScope s_law_key) .none kV_law_key dc_law_key pm_law_key an_law_key cd_law_key ct_law_key), sl_law_key⟩)
    (c_law_key : PySem.W.codeIn K cd_law_key "_law_key" = true)
    (k_law_key : PySem.W.keepIn K (.ref f_law_key) = true)
    (a_law_all_right : PySem.W.nsIn K mainGlobals "_law_all_right" = some (some (.ref f_law_all_right)))
    (l_law_all_right : K.lookup f_law_all_right = some ⟨oc_law_all_right, od_law_all_right, .func (PySem.W.fnOf "_law_all_right" "_law_all_right" (defArgs s_law_all_right) (defBody s_law_all_right) (defScope s_law_all_right) .none kV_law_all_right dc_law_all_right pm_law_all_right an_law_all_right cd_law_all_right ct_law_all_right), sl_law_all_right⟩)
    (c_law_all_right : PySem.W.codeIn K cd_law_all_right "_law_all_right" = true)
    (k_law_all_right : PySem.W.keepIn K (.ref f_law_all_right) = true)
    (a_scaled : PySem.W.nsIn K mainGlobals "scaled" = some (some (.ref f_scaled)))
    (l_scaled : K.lookup f_scaled = some ⟨oc_scaled, od_scaled, .func (PySem.W.fnOf "scaled" "scaled" (defArgs s_scaled) (defBody s_scaled) (defScope s_scaled) .none kV_scaled dc_scaled pm_scaled an_scaled cd_scaled ct_scaled), sl_scaled⟩)
    (c_scaled : PySem.W.codeIn K cd_scaled "scaled" = true)
    (k_scaled : PySem.W.keepIn K (.ref f_scaled) = true)
    (a_times : PySem.W.nsIn K mainGlobals "times" = some (some (.ref f_times)))
    (l_times : K.lookup f_times = some ⟨oc_times, od_times, .func (PySem.W.fnOf "times" "times" (defArgs s_times) (defBody s_times) (defScope s_times) .none kV_times dc_times pm_times an_times cd_times ct_times), sl_times⟩)
    (c_times : PySem.W.codeIn K cd_times "times" = true)
    (k_times : PySem.W.keepIn K (.ref f_times) = true)
    (a_law_unlike : PySem.W.nsIn K mainGlobals "_law_unlike" = some (some (.ref f_law_unlike)))
    (l_law_unlike : K.lookup f_law_unlike = some ⟨oc_law_unlike, od_law_unlike, .func (PySem.W.fnOf "_law_unlike" "_law_unlike" (defArgs s_law_unlike) (defBody s_law_unlike) (defScope s_law_unlike) .none kV_law_unlike dc_law_unlike pm_law_unlike an_law_unlike cd_law_unlike ct_law_unlike), sl_law_unlike⟩)
    (c_law_unlike : PySem.W.codeIn K cd_law_unlike "_law_unlike" = true)
    (k_law_unlike : PySem.W.keepIn K (.ref f_law_unlike) = true)
    (a_law : PySem.W.nsIn K mainGlobals "law" = some (some (.ref f_law)))
    (l_law : K.lookup f_law = some ⟨oc_law, od_law, .func (PySem.W.fnOf "law" "law" (defArgs s_law) (defBody s_law) (defScope s_law) .none kV_law dc_law pm_law an_law cd_law ct_law), sl_law⟩)
    (c_law : PySem.W.codeIn K cd_law "law" = true)
    (k_law : PySem.W.keepIn K (.ref f_law) = true)
    (cg : PySem.W.specialIn K (.builtin "object.__class__") "__get__" = some (some (.builtin "getset_descriptor.__get__")))
    (ct : PySem.W.takesIn K (.builtin "object.__class__") = some true)
    (pgBag : PySem.W.plainGet K C_Bag Str.empty = true)
    (hdBag : PySem.W.hasDictIn K C_Bag = true)
    (poBag : PySem.W.plainOver K C_Bag = true)
    (saBag : PySem.W.findIn K (.ref C_Bag) "__setattr__" = some (some (.builtin "object.__setattr__")))
    (mkBag : PySem.W.makesIn K C_Bag = true)
    (kBBag : PySem.W.keepIn K (.ref C_Bag) = true)
    (n1Bag : PySem.W.findIn K (.ref C_Bag) "clock" = some none)
    (n2Bag : PySem.W.findIn K (.ref C_Bag) "sparse" = some none)
    (n3Bag : PySem.W.findIn K (.ref C_Bag) "kept" = some none)
    (n4Bag : PySem.W.findIn K (.ref C_Bag) "words" = some none)
    (ccBag : PySem.W.findIn K (.ref C_Bag) "__class__" = some (some (.builtin "object.__class__")))
    (coBag : PySem.W.mroIn K C_Bag (.type "object") = some true)
    (icBag : PySem.W.isClsIn K C_Bag = true)
    (tcBag : PySem.W.typeIn K (.ref C_Bag) = some (.type "type"))
    (neBag : PySem.W.findIn K (.ref C_Bag) "__ne__" = some (some (.builtin "object.__ne__")))
    (eqBag : PySem.W.findIn K (.ref C_Bag) "__eq__" = some (some (.ref f_Bag_eq)))
    (kpBag : PySem.W.findIn K (.ref C_Bag) "keep" = some (some (.ref f_Bag_keep)))
    (u_NoneType_Bag : PySem.W.subIn K (.type "NoneType") (.ref C_Bag) = some false)
    (u_bool_Bag : PySem.W.subIn K (.type "bool") (.ref C_Bag) = some false)
    (u_int_Bag : PySem.W.subIn K (.type "int") (.ref C_Bag) = some false)
    (u_str_Bag : PySem.W.subIn K (.type "str") (.ref C_Bag) = some false)
    (u_list_Bag : PySem.W.subIn K (.type "list") (.ref C_Bag) = some false)
    (u_tuple_Bag : PySem.W.subIn K (.type "tuple") (.ref C_Bag) = some false)
    (u_dict_Bag : PySem.W.subIn K (.type "dict") (.ref C_Bag) = some false)
    (pgRawBag : PySem.W.plainGet K C_RawBag Str.empty = true)
    (hdRawBag : PySem.W.hasDictIn K C_RawBag = true)
    (poRawBag : PySem.W.plainOver K C_RawBag = true)
    (saRawBag : PySem.W.findIn K (.ref C_RawBag) "__setattr__" = some (some (.builtin "object.__setattr__")))
    (mkRawBag : PySem.W.makesIn K C_RawBag = true)
    (kBRawBag : PySem.W.keepIn K (.ref C_RawBag) = true)
    (n1RawBag : PySem.W.findIn K (.ref C_RawBag) "clock" = some none)
    (n2RawBag : PySem.W.findIn K (.ref C_RawBag) "sparse" = some none)
    (n3RawBag : PySem.W.findIn K (.ref C_RawBag) "kept" = some none)
    (n4RawBag : PySem.W.findIn K (.ref C_RawBag) "words" = some none)
    (ccRawBag : PySem.W.findIn K (.ref C_RawBag) "__class__" = some (some (.builtin "object.__class__")))
    (coRawBag : PySem.W.mroIn K C_RawBag (.type "object") = some true)
    (icRawBag : PySem.W.isClsIn K C_RawBag = true)
    (tcRawBag : PySem.W.typeIn K (.ref C_RawBag) = some (.type "type"))
    (neRawBag : PySem.W.findIn K (.ref C_RawBag) "__ne__" = some (some (.builtin "object.__ne__")))
    (eqRawBag : PySem.W.findIn K (.ref C_RawBag) "__eq__" = some (some (.ref f_Bag_eq)))
    (kpRawBag : PySem.W.findIn K (.ref C_RawBag) "keep" = some (some (.ref f_Bag_keep)))
    (u_NoneType_RawBag : PySem.W.subIn K (.type "NoneType") (.ref C_RawBag) = some false)
    (u_bool_RawBag : PySem.W.subIn K (.type "bool") (.ref C_RawBag) = some false)
    (u_int_RawBag : PySem.W.subIn K (.type "int") (.ref C_RawBag) = some false)
    (u_str_RawBag : PySem.W.subIn K (.type "str") (.ref C_RawBag) = some false)
    (u_list_RawBag : PySem.W.subIn K (.type "list") (.ref C_RawBag) = some false)
    (u_tuple_RawBag : PySem.W.subIn K (.type "tuple") (.ref C_RawBag) = some false)
    (u_dict_RawBag : PySem.W.subIn K (.type "dict") (.ref C_RawBag) = some false)
    (sRB : PySem.W.subIn K (.ref C_RawBag) (.ref C_Bag) = some true)
    (sBR : PySem.W.subIn K (.ref C_Bag) (.ref C_RawBag) = some false)
    (dRB : C_RawBag ≠ C_Bag)
    (xgUnlikeClocks : PySem.W.nsIn K mainGlobals "UnlikeClocks" = some (some (.ref C_UnlikeClocks)))
    (xqUnlikeClocks : PySem.W.excIn K C_UnlikeClocks [.type "ValueError", .type "Exception", .type "BaseException", .type "object"] "ValueError.__new__" = true)
    (xkUnlikeClocks : PySem.W.keepIn K (.ref C_UnlikeClocks) = true)
    (xbUnlikeClocks : PySem.W.subIn K (.ref C_UnlikeClocks) (.type "BaseException") = some true)
    (xtUnlikeClocks : PySem.W.typeIn K (.ref C_UnlikeClocks) = some (.type "type"))
    (xiUnlikeClocks : PySem.W.isClsIn K C_UnlikeClocks = true)
    (xsUnlikeClocks : PySem.W.subIn K (.ref C_UnlikeClocks) (.ref C_UnlikeClocks) = some true)
    (b_isinstance : PySem.W.nsIn K mainGlobals "isinstance" = some none)
    (b_int : PySem.W.nsIn K mainGlobals "int" = some none)
    (b_bool : PySem.W.nsIn K mainGlobals "bool" = some none)
    (b_str : PySem.W.nsIn K mainGlobals "str" = some none)
    (b_dict : PySem.W.nsIn K mainGlobals "dict" = some none)
    (b_list : PySem.W.nsIn K mainGlobals "list" = some none)
    (b_tuple : PySem.W.nsIn K mainGlobals "tuple" = some none)
    (b_len : PySem.W.nsIn K mainGlobals "len" = some none)
    (b_abs : PySem.W.nsIn K mainGlobals "abs" = some none)
    (b_all : PySem.W.nsIn K mainGlobals "all" = some none)
    (b_any : PySem.W.nsIn K mainGlobals "any" = some none)
    (b_max : PySem.W.nsIn K mainGlobals "max" = some none)
    (b_min : PySem.W.nsIn K mainGlobals "min" = some none)
    (b_range : PySem.W.nsIn K mainGlobals "range" = some none)
    (b_sorted : PySem.W.nsIn K mainGlobals "sorted" = some none)
    (g1 : PySem.W.nsIn K mainGlobals "LETTERS" = some (some (.str "xyz" t1)))
    (g2 : PySem.W.nsIn K mainGlobals "MOST_LETTERS" = some (some (.int 12 t2)))
    (g3 : PySem.W.nsIn K mainGlobals "MOST_WORDS" = some (some (.int 300 t3)))
    (g4 : PySem.W.nsIn K mainGlobals "CLOCKS" = some (some (.ref aC)))
    (l4 : K.lookup aC = some ⟨.type "tuple", od4, .seq #[.int 2 t4, .int 3 t5, .int 5 t6, .int 7 t7] n4', sl4⟩)
    : ∃ fd : FuncData, (∀ (s : Shared) (v : Value), BindsTo s fd ⟨[v], []⟩ [("_law_script", v)]) ∧ ∀ base : Heap, K.In base → base.Ns mainGlobals mg → FnOk l.prog w K mg base CX0 14 fa fd ["_law_script"] (sp_law K) := by
  have e := hfa.symm.trans (PySem.W.mg_of X G a_law)
  cases e
  have hplBag : ∀ t ∈ (["NoneType", "bool", "int", "str", "list", "tuple", "dict"] : List String), PySem.W.subIn K (.type t) (.ref C_Bag) = some false := by
    intro t ht
    simp only [List.mem_cons, List.not_mem_nil, or_false] at ht
    rcases ht with rfl | rfl | rfl | rfl | rfl | rfl | rfl
    · exact u_NoneType_Bag
    · exact u_bool_Bag
    · exact u_int_Bag
    · exact u_str_Bag
    · exact u_list_Bag
    · exact u_tuple_Bag
    · exact u_dict_Bag
  have hplRawBag : ∀ t ∈ (["NoneType", "bool", "int", "str", "list", "tuple", "dict"] : List String), PySem.W.subIn K (.type t) (.ref C_RawBag) = some false := by
    intro t ht
    simp only [List.mem_cons, List.not_mem_nil, or_false] at ht
    rcases ht with rfl | rfl | rfl | rfl | rfl | rfl | rfl
    · exact u_NoneType_RawBag
    · exact u_bool_RawBag
    · exact u_int_RawBag
    · exact u_str_RawBag
    · exact u_list_RawBag
    · exact u_tuple_RawBag
    · exact u_dict_RawBag
  have T : Txt K mg C_Bag (fun C => C = C_Bag ∨ C = C_RawBag) := {
    b_isinstance := PySem.W.mg_none_of X G b_isinstance
    b_int := PySem.W.mg_none_of X G b_int
    b_bool := PySem.W.mg_none_of X G b_bool
    b_str := PySem.W.mg_none_of X G b_str
    b_dict := PySem.W.mg_none_of X G b_dict
    b_list := PySem.W.mg_none_of X G b_list
    b_tuple := PySem.W.mg_none_of X G b_tuple
    b_len := PySem.W.mg_none_of X G b_len
    b_abs := PySem.W.mg_none_of X G b_abs
    b_all := PySem.W.mg_none_of X G b_all
    b_any := PySem.W.mg_none_of X G b_any
    b_max := PySem.W.mg_none_of X G b_max
    b_min := PySem.W.mg_none_of X G b_min
    b_range := PySem.W.mg_none_of X G b_range
    b_sorted := PySem.W.mg_none_of X G b_sorted
    g_LETTERS := ⟨_, PySem.W.mg_of X G g1⟩
    g_MOST_LETTERS := ⟨_, PySem.W.mg_of X G g2⟩
    g_MOST_WORDS := ⟨_, PySem.W.mg_of X G g3⟩
    g_CLOCKS := ⟨aC, PySem.W.mg_of X G g4, .inr ⟨_, _, _, l4, rfl, rfl, Nat.le_of_ble_eq_true rfl, .cons ⟨_, rfl⟩ (.cons ⟨_, rfl⟩ (.cons ⟨_, rfl⟩ (.cons ⟨_, rfl⟩ .nil)))⟩⟩
    c_Bag := PySem.W.mg_of X G nsBag
    cls := fun C e => e.elim (fun e => by rw [e]; exact ⟨pgBag, hdBag, poBag, saBag⟩) (fun e => by rw [e]; exact ⟨pgRawBag, hdRawBag, poRawBag, saRawBag⟩)
    n_clock := fun C e => e.elim (fun e => by rw [e]; exact n1Bag) (fun e => by rw [e]; exact n1RawBag)
    n_sparse := fun C e => e.elim (fun e => by rw [e]; exact n2Bag) (fun e => by rw [e]; exact n2RawBag)
    n_kept := fun C e => e.elim (fun e => by rw [e]; exact n3Bag) (fun e => by rw [e]; exact n3RawBag)
    n_words := fun C e => e.elim (fun e => by rw [e]; exact n4Bag) (fun e => by rw [e]; exact n4RawBag)
    c_class := fun C e => e.elim (fun e => by rw [e]; exact ccBag) (fun e => by rw [e]; exact ccRawBag)
    c_get := cg
    c_takes := ct
    c_obj := fun C e => e.elim (fun e => by rw [e]; exact coBag) (fun e => by rw [e]; exact coRawBag)
    c_isB := fun C e => e.elim (fun e => by rw [e]; exact kit_self) (fun e => by rw [e]; exact kit_sub icBag tcBag sRB)
    c_base := .inl rfl
    c_pl := fun C e t ht => e.elim (fun e => by rw [e]; exact first_not (hplBag t ht)) (fun e => by rw [e]; exact first_not (hplRawBag t ht))
    c_two := fun C D e1 e2 => by
      rcases e1 with rfl | rfl <;> rcases e2 with rfl | rfl
      · exact .inl first_self
      · exact .inr ⟨dRB, sRB⟩
      · exact .inl (first_not sBR)
      · exact .inl first_self
    c_nb := fun t ht => kit_not icBag tcBag (hplBag t ht) }
  have E_UnlikeClocks : ErrC K mg "UnlikeClocks" C_UnlikeClocks := ⟨PySem.W.mg_of X G xgUnlikeClocks, xqUnlikeClocks, xkUnlikeClocks, xbUnlikeClocks, xtUnlikeClocks⟩
  have H_UnlikeClocks := exm_self xbUnlikeClocks xiUnlikeClocks xtUnlikeClocks xsUnlikeClocks
  have F_ahead_key := fun_mk (st := s_ahead_key) l_ahead_key c_ahead_key k_ahead_key
  have B_ahead_key := F_ahead_key.binds (ps := ["word"]) fun _ _ _ _ _ _ us hl => match us, hl with | [_], _ => rfl
  have F_law_hand := fun_mk (st := s_law_hand) l_law_hand c_law_hand k_law_hand
  have B_law_hand := F_law_hand.binds (ps := ["_law_script"]) fun _ _ _ _ _ _ us hl => match us, hl with | [_], _ => rfl
  have F_law_draw := fun_mk (st := s_law_draw) l_law_draw c_law_draw k_law_draw
  have B_law_draw := F_law_draw.binds (ps := ["_law_hand_here", "_law_many"]) fun _ _ _ _ _ _ us hl => match us, hl with | [_, _], _ => rfl
  have F_law_clock := fun_mk (st := s_law_clock) l_law_clock c_law_clock k_law_clock
  have B_law_clock := F_law_clock.binds (ps := ["_law_hand_here"]) fun _ _ _ _ _ _ us hl => match us, hl with | [_], _ => rfl
  have F_law_small := fun_mk (st := s_law_small) l_law_small c_law_small k_law_small
  have B_law_small := F_law_small.binds (ps := ["_law_hand_here", "_law_clock_here"]) fun _ _ _ _ _ _ us hl => match us, hl with | [_, _], _ => rfl
  have F_law_word := fun_mk (st := s_law_word) l_law_word c_law_word k_law_word
  have B_law_word := F_law_word.binds (ps := ["_law_hand_here", "_law_letters", "_law_most"]) fun _ _ _ _ _ _ us hl => match us, hl with | [_, _, _], _ => rfl
  have F_law_lot := fun_mk (st := s_law_lot) l_law_lot c_law_lot k_law_lot
  have B_law_lot := F_law_lot.binds (ps := ["_law_hand_here", "_law_clock_here", "_law_letters", "_law_most", "_law_many"]) fun _ _ _ _ _ _ us hl => match us, hl with | [_, _, _, _, _], _ => rfl
  have F_law_put := fun_mk (st := s_law_put) l_law_put c_law_put k_law_put
  have B_law_put := F_law_put.binds (ps := ["_law_clock_here", "_law_bag", "_law_word_here", "_law_number"]) fun _ _ _ _ _ _ us hl => match us, hl with | [_, _, _, _], _ => rfl
  have F_law_product := fun_mk (st := s_law_product) l_law_product c_law_product k_law_product
  have B_law_product := F_law_product.binds (ps := ["_law_clock_here", "_law_one", "_law_other"]) fun _ _ _ _ _ _ us hl => match us, hl with | [_, _, _], _ => rfl
  have F_law_plus := fun_mk (st := s_law_plus) l_law_plus c_law_plus k_law_plus
  have B_law_plus := F_law_plus.binds (ps := ["_law_clock_here", "_law_one", "_law_other", "_law_factor"]) fun _ _ _ _ _ _ us hl => match us, hl with | [_, _, _, _], _ => rfl
  have F_law_woven := fun_mk (st := s_law_woven) l_law_woven c_law_woven k_law_woven
  have B_law_woven := F_law_woven.binds (ps := ["_law_hand_here", "_law_clock_here", "_law_most"]) fun _ _ _ _ _ _ us hl => match us, hl with | [_, _, _], _ => rfl
  have F_law_some := fun_mk (st := s_law_some) l_law_some c_law_some k_law_some
  have B_law_some := F_law_some.binds (ps := ["_law_hand_here", "_law_clock_here"]) fun _ _ _ _ _ _ us hl => match us, hl with | [_, _], _ => rfl
  have F_is_integer := fun_mk (st := s_is_integer) l_is_integer c_is_integer k_is_integer
  have B_is_integer := F_is_integer.binds (ps := ["thing"]) fun _ _ _ _ _ _ us hl => match us, hl with | [_], _ => rfl
  have F_is_clock := fun_mk (st := s_is_clock) l_is_clock c_is_clock k_is_clock
  have B_is_clock := F_is_clock.binds (ps := ["thing"]) fun _ _ _ _ _ _ us hl => match us, hl with | [_], _ => rfl
  have F_is_word := fun_mk (st := s_is_word) l_is_word c_is_word k_is_word
  have B_is_word := F_is_word.binds (ps := ["thing"]) fun _ _ _ _ _ _ us hl => match us, hl with | [_], _ => rfl
  have F_is_short_word := fun_mk (st := s_is_short_word) l_is_short_word c_is_short_word k_is_short_word
  have B_is_short_word := F_is_short_word.binds (ps := ["thing"]) fun _ _ _ _ _ _ us hl => match us, hl with | [_], _ => rfl
  have F_is_within := fun_mk (st := s_is_within) l_is_within c_is_within k_is_within
  have B_is_within := F_is_within.binds (ps := ["thing", "least", "most"]) fun _ _ _ _ _ _ us hl => match us, hl with | [_, _, _], _ => rfl
  have F_are_words := fun_mk (st := s_are_words) l_are_words c_are_words k_are_words
  have B_are_words := F_are_words.binds (ps := ["clock", "thing"]) fun _ _ _ _ _ _ us hl => match us, hl with | [_, _], _ => rfl
  have F_words_in_order := fun_mk (st := s_words_in_order) l_words_in_order c_words_in_order k_words_in_order
  have B_words_in_order := F_words_in_order.binds (ps := ["sparse"]) fun _ _ _ _ _ _ us hl => match us, hl with | [_], _ => rfl
  have F_Bag_keep := fun_mk (st := s_Bag_keep) l_Bag_keep c_Bag_keep k_Bag_keep
  have B_Bag_keep := F_Bag_keep.binds (ps := ["self", "clock", "sparse"]) fun _ _ _ _ _ _ us hl => match us, hl with | [_, _, _], _ => rfl
  have F_Bag_init := fun_mk (st := s_Bag_init) l_Bag_init c_Bag_init k_Bag_init
  have B_Bag_init := F_Bag_init.binds (ps := ["self", "clock", "words"]) fun _ _ _ _ _ _ us hl => match us, hl with | [_, _, _], _ => rfl
  have F_check_clocks := fun_mk (st := s_check_clocks) l_check_clocks c_check_clocks k_check_clocks
  have B_check_clocks := F_check_clocks.binds (ps := ["one", "other"]) fun _ _ _ _ _ _ us hl => match us, hl with | [_, _], _ => rfl
  have F_RawBag_init := fun_mk (st := s_RawBag_init) l_RawBag_init c_RawBag_init k_RawBag_init
  have B_RawBag_init := F_RawBag_init.binds (ps := ["self", "clock", "sparse"]) fun _ _ _ _ _ _ us hl => match us, hl with | [_, _, _], _ => rfl
  have F_raw := fun_mk (st := s_raw) l_raw c_raw k_raw
  have B_raw := F_raw.binds (ps := ["clock", "sparse"]) fun _ _ _ _ _ _ us hl => match us, hl with | [_, _], _ => rfl
  have F_put_to := fun_mk (st := s_put_to) l_put_to c_put_to k_put_to
  have B_put_to := F_put_to.binds (ps := ["clock", "sparse", "word", "number"]) fun _ _ _ _ _ _ us hl => match us, hl with | [_, _, _, _], _ => rfl
  have F_added := fun_mk (st := s_added) l_added c_added k_added
  have B_added := F_added.binds (ps := ["clock", "one", "other", "factor"]) fun _ _ _ _ _ _ us hl => match us, hl with | [_, _, _, _], _ => rfl
  have F_together := fun_mk (st := s_together) l_together c_together k_together
  have B_together := F_together.binds (ps := ["one", "other"]) fun _ _ _ _ _ _ us hl => match us, hl with | [_, _], _ => rfl
  have F_less := fun_mk (st := s_less) l_less c_less k_less
  have B_less := F_less.binds (ps := ["one", "other"]) fun _ _ _ _ _ _ us hl => match us, hl with | [_, _], _ => rfl
  have F_law_order := fun_mk (st := s_law_order) l_law_order c_law_order k_law_order
  have B_law_order := F_law_order.binds (ps := ["_law_bag"]) fun _ _ _ _ _ _ us hl => match us, hl with | [_], _ => rfl
  have F_law_words := fun_mk (st := s_law_words) l_law_words c_law_words k_law_words
  have B_law_words := F_law_words.binds (ps := ["_law_bag"]) fun _ _ _ _ _ _ us hl => match us, hl with | [_], _ => rfl
  have F_law_is := fun_mk (st := s_law_is) l_law_is c_law_is k_law_is
  have B_law_is := F_law_is.binds (ps := ["_law_told", "_law_clock_here", "_law_bag"]) fun _ _ _ _ _ _ us hl => match us, hl with | [_, _, _], _ => rfl
  have F_is_listed := fun_mk (st := s_is_listed) l_is_listed c_is_listed k_is_listed
  have B_is_listed := F_is_listed.binds (ps := ["thing"]) fun _ _ _ _ _ _ us hl => match us, hl with | [_], _ => rfl
  have F_check_bags := fun_mk (st := s_check_bags) l_check_bags c_check_bags k_check_bags
  have B_check_bags := F_check_bags.binds (ps := ["thing"]) fun _ _ _ _ _ _ us hl => match us, hl with | [_], _ => rfl
  have F_all_together := fun_mk (st := s_all_together) l_all_together c_all_together k_all_together
  have B_all_together := F_all_together.binds (ps := ["bags"]) fun _ _ _ _ _ _ us hl => match us, hl with | [_], _ => rfl
  have F_size := fun_mk (st := s_size) l_size c_size k_size
  have B_size := F_size.binds (ps := ["sparse"]) fun _ _ _ _ _ _ us hl => match us, hl with | [_], _ => rfl
  have F_bag_key := fun_mk (st := s_bag_key) l_bag_key c_bag_key k_bag_key
  have B_bag_key := F_bag_key.binds (ps := ["bag"]) fun _ _ _ _ _ _ us hl => match us, hl with | [_], _ => rfl
  have F_Bag_eq := fun_mk (st := s_Bag_eq) l_Bag_eq c_Bag_eq k_Bag_eq
  have B_Bag_eq := F_Bag_eq.binds (ps := ["self", "other"]) fun _ _ _ _ _ _ us hl => match us, hl with | [_, _], _ => rfl
  have F_in_order := fun_mk (st := s_in_order) l_in_order c_in_order k_in_order
  have B_in_order := F_in_order.binds (ps := ["bags"]) fun _ _ _ _ _ _ us hl => match us, hl with | [_], _ => rfl
  have F_law_key := fun_mk (st := s_law_key) l_law_key c_law_key k_law_key
  have B_law_key := F_law_key.binds (ps := ["_law_words_here"]) fun _ _ _ _ _ _ us hl => match us, hl with | [_], _ => rfl
  have F_law_all_right := fun_mk (st := s_law_all_right) l_law_all_right c_law_all_right k_law_all_right
  have B_law_all_right := F_law_all_right.binds (ps := ["_law_hand_here", "_law_clock_here", "_law_rows"]) fun _ _ _ _ _ _ us hl => match us, hl with | [_, _, _], _ => rfl
  have F_scaled := fun_mk (st := s_scaled) l_scaled c_scaled k_scaled
  have B_scaled := F_scaled.binds (ps := ["clock", "sparse", "factor"]) fun _ _ _ _ _ _ us hl => match us, hl with | [_, _, _], _ => rfl
  have F_times := fun_mk (st := s_times) l_times c_times k_times
  have B_times := F_times.binds (ps := ["bag", "number"]) fun _ _ _ _ _ _ us hl => match us, hl with | [_, _], _ => rfl
  have F_law_unlike := fun_mk (st := s_law_unlike) l_law_unlike c_law_unlike k_law_unlike
  have B_law_unlike := F_law_unlike.binds (ps := ["_law_kind", "_law_one", "_law_other"]) fun _ _ _ _ _ _ us hl => match us, hl with | [_, _, _], _ => rfl
  have F_law := fun_mk (st := s_law) l_law c_law k_law
  have B_law := F_law.binds (ps := ["_law_script"]) fun _ _ _ _ _ _ us hl => match us, hl with | [_], _ => rfl
  refine ⟨PySem.W.fnOf "law" "law" (defArgs s_law) (defBody s_law) (defScope s_law) .none kV_law dc_law pm_law an_law cd_law ct_law, fun s v => .of_eq rfl, fun base _ _ => ?_⟩
  have O_law_hand := ok_law_hand (P := l.prog) (w := w) (base := base)  F_law_hand T 
  have D_law_hand : DefOk l.prog w K mg base CX0 1 "_law_hand" ["_law_script"] _ := ⟨_, _, PySem.W.mg_of X G a_law_hand, k_law_hand, B_law_hand, O_law_hand⟩
  have O_law_draw := ok_law_draw (P := l.prog) (w := w) (base := base)  F_law_draw T 
  have D_law_draw : DefOk l.prog w K mg base CX0 1 "_law_draw" ["_law_hand_here", "_law_many"] _ := ⟨_, _, PySem.W.mg_of X G a_law_draw, k_law_draw, B_law_draw, O_law_draw⟩
  have O_law_clock := ok_law_clock (P := l.prog) (w := w) (base := base)  F_law_clock T D_law_draw
  have D_law_clock : DefOk l.prog w K mg base CX0 2 "_law_clock" ["_law_hand_here"] _ := ⟨_, _, PySem.W.mg_of X G a_law_clock, k_law_clock, B_law_clock, O_law_clock⟩
  have O_law_small := ok_law_small (P := l.prog) (w := w) (base := base)  F_law_small T D_law_draw
  have D_law_small : DefOk l.prog w K mg base CX0 2 "_law_small" ["_law_hand_here", "_law_clock_here"] _ := ⟨_, _, PySem.W.mg_of X G a_law_small, k_law_small, B_law_small, O_law_small⟩
  have O_law_word := ok_law_word (P := l.prog) (w := w) (base := base)  F_law_word T D_law_draw
  have D_law_word : DefOk l.prog w K mg base CX0 2 "_law_word" ["_law_hand_here", "_law_letters", "_law_most"] _ := ⟨_, _, PySem.W.mg_of X G a_law_word, k_law_word, B_law_word, O_law_word⟩
  have O_law_lot := ok_law_lot (P := l.prog) (w := w) (base := base)  F_law_lot T D_law_draw D_law_word
  have D_law_lot : DefOk l.prog w K mg base CX0 3 "_law_lot" ["_law_hand_here", "_law_clock_here", "_law_letters", "_law_most", "_law_many"] _ := ⟨_, _, PySem.W.mg_of X G a_law_lot, k_law_lot, B_law_lot, O_law_lot⟩
  have O_law_put := ok_law_put (P := l.prog) (w := w) (base := base)  F_law_put T 
  have D_law_put : DefOk l.prog w K mg base CX0 1 "_law_put" ["_law_clock_here", "_law_bag", "_law_word_here", "_law_number"] _ := ⟨_, _, PySem.W.mg_of X G a_law_put, k_law_put, B_law_put, O_law_put⟩
  have O_law_product := ok_law_product (P := l.prog) (w := w) (base := base)  F_law_product T D_law_put
  have D_law_product : DefOk l.prog w K mg base CX0 2 "_law_product" ["_law_clock_here", "_law_one", "_law_other"] _ := ⟨_, _, PySem.W.mg_of X G a_law_product, k_law_product, B_law_product, O_law_product⟩
  have O_law_plus := ok_law_plus (P := l.prog) (w := w) (base := base)  F_law_plus T D_law_put
  have D_law_plus : DefOk l.prog w K mg base CX0 2 "_law_plus" ["_law_clock_here", "_law_one", "_law_other", "_law_factor"] _ := ⟨_, _, PySem.W.mg_of X G a_law_plus, k_law_plus, B_law_plus, O_law_plus⟩
  have O_law_woven := ok_law_woven (P := l.prog) (w := w) (base := base)  F_law_woven T D_law_draw D_law_small D_law_product D_law_plus
  have D_law_woven : DefOk l.prog w K mg base CX0 3 "_law_woven" ["_law_hand_here", "_law_clock_here", "_law_most"] _ := ⟨_, _, PySem.W.mg_of X G a_law_woven, k_law_woven, B_law_woven, O_law_woven⟩
  have O_law_some := ok_law_some (P := l.prog) (w := w) (base := base)  F_law_some T D_law_draw D_law_small D_law_lot D_law_woven
  have D_law_some : DefOk l.prog w K mg base CX0 4 "_law_some" ["_law_hand_here", "_law_clock_here"] _ := ⟨_, _, PySem.W.mg_of X G a_law_some, k_law_some, B_law_some, O_law_some⟩
  have O_is_integer := ok_is_integer (P := l.prog) (w := w) (base := base)  F_is_integer T 
  have D_is_integer : DefOk l.prog w K mg base CX0 1 "is_integer" ["thing"] _ := ⟨_, _, PySem.W.mg_of X G a_is_integer, k_is_integer, B_is_integer, O_is_integer⟩
  have O_is_clock := ok_is_clock (P := l.prog) (w := w) (base := base)  F_is_clock T D_is_integer
  have D_is_clock : DefOk l.prog w K mg base CX0 2 "is_clock" ["thing"] _ := ⟨_, _, PySem.W.mg_of X G a_is_clock, k_is_clock, B_is_clock, O_is_clock⟩
  have O_is_word := ok_is_word (P := l.prog) (w := w) (base := base)  F_is_word T 
  have D_is_word : DefOk l.prog w K mg base CX0 1 "is_word" ["thing"] _ := ⟨_, _, PySem.W.mg_of X G a_is_word, k_is_word, B_is_word, O_is_word⟩
  have O_is_short_word := ok_is_short_word (P := l.prog) (w := w) (base := base)  F_is_short_word T D_is_word
  have D_is_short_word : DefOk l.prog w K mg base CX0 2 "is_short_word" ["thing"] _ := ⟨_, _, PySem.W.mg_of X G a_is_short_word, k_is_short_word, B_is_short_word, O_is_short_word⟩
  have O_is_within := ok_is_within (P := l.prog) (w := w) (base := base)  F_is_within T D_is_integer
  have D_is_within : DefOk l.prog w K mg base CX0 2 "is_within" ["thing", "least", "most"] _ := ⟨_, _, PySem.W.mg_of X G a_is_within, k_is_within, B_is_within, O_is_within⟩
  have O_are_words := ok_are_words (P := l.prog) (w := w) (base := base)  F_are_words T D_is_short_word D_is_within
  have D_are_words : DefOk l.prog w K mg base CX0 3 "are_words" ["clock", "thing"] _ := ⟨_, _, PySem.W.mg_of X G a_are_words, k_are_words, B_are_words, O_are_words⟩
  have KF : KeyFn K mg := ⟨_, _, F_ahead_key, PySem.W.mg_of X G a_ahead_key, B_ahead_key⟩
  have O_words_in_order := ok_words_in_order (P := l.prog) (w := w) (base := base)  F_words_in_order T KF
  have D_words_in_order : DefOk l.prog w K mg base CX0 4 "words_in_order" ["sparse"] _ := ⟨_, _, PySem.W.mg_of X G a_words_in_order, k_words_in_order, B_words_in_order, O_words_in_order⟩
  have O_Bag_keep := ok_keep (P := l.prog) (w := w) (base := base)  F_Bag_keep T D_words_in_order
  have M_keep : MtOk l.prog w K mg base CX0 5 C_Bag "keep" ["self", "clock", "sparse"] _ := ⟨_, _, ⟨pgBag, hdBag, poBag, saBag⟩, ⟨kpBag, i_Bag_keep, k_Bag_keep⟩, B_Bag_keep, O_Bag_keep⟩
  have M_keepRawBag : MtOk l.prog w K mg base CX0 5 C_RawBag "keep" ["self", "clock", "sparse"] _ := ⟨_, _, ⟨pgRawBag, hdRawBag, poRawBag, saRawBag⟩, ⟨kpRawBag, i_Bag_keep, k_Bag_keep⟩, B_Bag_keep, O_Bag_keep⟩
  have O_Bag_init := ok_bag_init (P := l.prog) (w := w) (base := base)  F_Bag_init T D_is_clock D_are_words M_keep
  have K_Bag : MkOk l.prog w K mg base CX0 6 "Bag" C_Bag ["self", "clock", "words"] _ := ⟨_, _, ⟨mkBag, a_Bag_init, i_Bag_init, kBBag⟩, PySem.W.mg_of X G nsBag, B_Bag_init, O_Bag_init⟩
  have O_check_clocks := ok_check_clocks (P := l.prog) (w := w) (base := base)  F_check_clocks T 
  have D_check_clocks : DefOk l.prog w K mg base CX0 1 "check_clocks" ["one", "other"] _ := ⟨_, _, PySem.W.mg_of X G a_check_clocks, k_check_clocks, B_check_clocks, O_check_clocks⟩
  have O_RawBag_init := ok_raw_init (P := l.prog) (w := w) (base := base)  F_RawBag_init T (.inr rfl) M_keepRawBag
  have K_RawBag : MkOk l.prog w K mg base CX0 6 "RawBag" C_RawBag ["self", "clock", "sparse"] _ := ⟨_, _, ⟨mkRawBag, a_RawBag_init, i_RawBag_init, kBRawBag⟩, PySem.W.mg_of X G nsRawBag, B_RawBag_init, O_RawBag_init⟩
  have O_raw := ok_raw (P := l.prog) (w := w) (base := base) (C_RawBag := C_RawBag) F_raw T K_RawBag
  have D_raw : DefOk l.prog w K mg base CX0 8 "raw" ["clock", "sparse"] _ := ⟨_, _, PySem.W.mg_of X G a_raw, k_raw, B_raw, O_raw⟩
  have O_put_to := ok_put_to (P := l.prog) (w := w) (base := base)  F_put_to T 
  have D_put_to : DefOk l.prog w K mg base CX0 1 "put_to" ["clock", "sparse", "word", "number"] _ := ⟨_, _, PySem.W.mg_of X G a_put_to, k_put_to, B_put_to, O_put_to⟩
  have O_added := ok_added (P := l.prog) (w := w) (base := base)  F_added T D_put_to
  have D_added : DefOk l.prog w K mg base CX0 2 "added" ["clock", "one", "other", "factor"] _ := ⟨_, _, PySem.W.mg_of X G a_added, k_added, B_added, O_added⟩
  have O_together := ok_together (P := l.prog) (w := w) (base := base)  F_together T D_check_clocks D_raw D_added
  have D_together : DefOk l.prog w K mg base CX0 9 "together" ["one", "other"] _ := ⟨_, _, PySem.W.mg_of X G a_together, k_together, B_together, O_together⟩
  have O_less := ok_less (P := l.prog) (w := w) (base := base)  F_less T D_check_clocks D_raw D_added
  have D_less : DefOk l.prog w K mg base CX0 9 "less" ["one", "other"] _ := ⟨_, _, PySem.W.mg_of X G a_less, k_less, B_less, O_less⟩
  have O_law_order := ok_law_order (P := l.prog) (w := w) (base := base)  F_law_order T 
  have D_law_order : DefOk l.prog w K mg base CX0 1 "_law_order" ["_law_bag"] _ := ⟨_, _, PySem.W.mg_of X G a_law_order, k_law_order, B_law_order, O_law_order⟩
  have O_law_words := ok_law_words (P := l.prog) (w := w) (base := base)  F_law_words T D_law_order
  have D_law_words : DefOk l.prog w K mg base CX0 2 "_law_words" ["_law_bag"] _ := ⟨_, _, PySem.W.mg_of X G a_law_words, k_law_words, B_law_words, O_law_words⟩
  have O_law_is := ok_law_is (P := l.prog) (w := w) (base := base)  F_law_is T D_law_words
  have D_law_is : DefOk l.prog w K mg base CX0 3 "_law_is" ["_law_told", "_law_clock_here", "_law_bag"] _ := ⟨_, _, PySem.W.mg_of X G a_law_is, k_law_is, B_law_is, O_law_is⟩
  have O_law_plusW := ok_law_plusW (P := l.prog) (w := w) (base := base)  F_law_plus T D_law_put
  have D_law_plusW : DefOk l.prog w K mg base CX0 2 "_law_plus" ["_law_clock_here", "_law_one", "_law_other", "_law_factor"] _ := ⟨_, _, PySem.W.mg_of X G a_law_plus, k_law_plus, B_law_plus, O_law_plusW⟩
  have O_is_listed := ok_is_listed (P := l.prog) (w := w) (base := base)  F_is_listed T 
  have D_is_listed : DefOk l.prog w K mg base CX0 1 "is_listed" ["thing"] _ := ⟨_, _, PySem.W.mg_of X G a_is_listed, k_is_listed, B_is_listed, O_is_listed⟩
  have O_check_bags := ok_check_bags (P := l.prog) (w := w) (base := base)  F_check_bags T D_is_listed
  have D_check_bags : DefOk l.prog w K mg base CX0 2 "check_bags" ["thing"] _ := ⟨_, _, PySem.W.mg_of X G a_check_bags, k_check_bags, B_check_bags, O_check_bags⟩
  have O_all_together := ok_all_together (P := l.prog) (w := w) (base := base)  F_all_together T D_check_bags D_raw D_added
  have D_all_together : DefOk l.prog w K mg base CX0 9 "all_together" ["bags"] _ := ⟨_, _, PySem.W.mg_of X G a_all_together, k_all_together, B_all_together, O_all_together⟩
  have O_size := ok_size (P := l.prog) (w := w) (base := base)  F_size T 
  have D_size : DefOk l.prog w K mg base CX0 1 "size" ["sparse"] _ := ⟨_, _, PySem.W.mg_of X G a_size, k_size, B_size, O_size⟩
  have O_bag_key := ok_bag_key (P := l.prog) (w := w) (base := base)  F_bag_key T D_size
  have D_bag_key : DefOk l.prog w K mg base CX0 2 "bag_key" ["bag"] _ := ⟨_, _, PySem.W.mg_of X G a_bag_key, k_bag_key, B_bag_key, O_bag_key⟩
  have O_Bag_eq := ok_bag_eq (P := l.prog) (w := w) (base := base)  F_Bag_eq T 
  have E_Bag : EqOk l.prog w K mg base C_Bag (fun C => C = C_Bag ∨ C = C_RawBag) := ⟨_, _, O_Bag_eq, ⟨fun C e => e.elim (fun e => by rw [e]; exact eqBag) (fun e => by rw [e]; exact eqRawBag), fun C e => e.elim (fun e => by rw [e]; exact neBag) (fun e => by rw [e]; exact neRawBag), fun C e => e.elim (fun e => by rw [e]; exact coBag) (fun e => by rw [e]; exact coRawBag), i_Bag_eq⟩, B_Bag_eq⟩
  have O_in_order := ok_in_order (P := l.prog) (w := w) (base := base)  F_in_order T D_check_bags D_bag_key E_Bag
  have D_in_order : DefOk l.prog w K mg base CX0 5 "in_order" ["bags"] _ := ⟨_, _, PySem.W.mg_of X G a_in_order, k_in_order, B_in_order, O_in_order⟩
  have O_law_key := ok_law_key (P := l.prog) (w := w) (base := base)  F_law_key T D_law_words
  have D_law_key : DefOk l.prog w K mg base CX0 3 "_law_key" ["_law_words_here"] _ := ⟨_, _, PySem.W.mg_of X G a_law_key, k_law_key, B_law_key, O_law_key⟩
  have O_law_all_right := ok_law_all_right (P := l.prog) (w := w) (base := base)  F_law_all_right T D_law_draw D_all_together D_law_is K_Bag D_law_plus D_in_order D_law_key
  have D_law_all_right : DefOk l.prog w K mg base CX0 10 "_law_all_right" ["_law_hand_here", "_law_clock_here", "_law_rows"] _ := ⟨_, _, PySem.W.mg_of X G a_law_all_right, k_law_all_right, B_law_all_right, O_law_all_right⟩
  have O_addedW := ok_addedW (P := l.prog) (w := w) (base := base)  F_added T D_put_to
  have D_addedW : DefOk l.prog w K mg base CX0 2 "added" ["clock", "one", "other", "factor"] _ := ⟨_, _, PySem.W.mg_of X G a_added, k_added, B_added, O_addedW⟩
  have O_scaledW := ok_scaledW (P := l.prog) (w := w) (base := base)  F_scaled T D_addedW
  have D_scaledW : DefOk l.prog w K mg base CX0 3 "scaled" ["clock", "sparse", "factor"] _ := ⟨_, _, PySem.W.mg_of X G a_scaled, k_scaled, B_scaled, O_scaledW⟩
  have O_timesW := ok_timesW (P := l.prog) (w := w) (base := base)  F_times T D_is_integer D_raw D_scaledW
  have D_timesW : DefOk l.prog w K mg base CX0 9 "times" ["bag", "number"] _ := ⟨_, _, PySem.W.mg_of X G a_times, k_times, B_times, O_timesW⟩
  have O_check_clocksX := ok_check_clocksX (P := l.prog) (w := w) (base := base)  F_check_clocks T E_UnlikeClocks
  have D_check_clocksX : DefOk l.prog w K mg base (L2.CX l.prog w) 1 "check_clocks" ["one", "other"] _ := ⟨_, _, PySem.W.mg_of X G a_check_clocks, k_check_clocks, B_check_clocks, O_check_clocksX⟩
  have O_togetherX := ok_togetherX (P := l.prog) (w := w) (base := base)  F_together T D_check_clocks D_check_clocksX D_raw D_added
  have D_togetherX : DefOk l.prog w K mg base (L2.CX l.prog w) 9 "together" ["one", "other"] _ := ⟨_, _, PySem.W.mg_of X G a_together, k_together, B_together, O_togetherX⟩
  have O_lessX := ok_lessX (P := l.prog) (w := w) (base := base)  F_less T D_check_clocks D_check_clocksX D_raw D_added
  have D_lessX : DefOk l.prog w K mg base (L2.CX l.prog w) 9 "less" ["one", "other"] _ := ⟨_, _, PySem.W.mg_of X G a_less, k_less, B_less, O_lessX⟩
  have O_law_unlike := ok_law_unlike (P := l.prog) (w := w) (base := base) (C_UnlikeClocks := C_UnlikeClocks) F_law_unlike T D_togetherX D_lessX E_UnlikeClocks H_UnlikeClocks
  have D_law_unlike : DefOk l.prog w K mg base CX0 10 "_law_unlike" ["_law_kind", "_law_one", "_law_other"] _ := ⟨_, _, PySem.W.mg_of X G a_law_unlike, k_law_unlike, B_law_unlike, O_law_unlike⟩
  exact ok_law F_law T  D_law_hand D_law_clock D_law_some K_Bag D_together D_less D_law_is D_law_plus D_law_plusW D_law_all_right D_law_draw D_timesW E_Bag D_law_unlike D_law_words
theorem walk {l : PySem.W.OpenLaw} {q : Program} {loose : List Str} {XP : (Str → Option Value) → Heap → Prop} {YP : World → Heap → Prop} {d : DefRec} {K : Params → PySem.W.Frag} (hn : l.most = some 63) (hdf : d.params.defaults = [])
    (hY : ∀ (w : World) (h : Heap), YP w h → (K w.params).In h)
    (F : ∀ (w : World) (mg : Str → Option Value) (fa : Addr) (h : Heap), (K w.params).In h → h.Ns mainGlobals mg → mg d.name = some (.ref fa) →
      ∃ fd : FuncData, (∀ (s : Shared) (u : Value), BindsTo s fd ⟨[u], []⟩ [("_law_script", u)]) ∧ ∀ base : Heap, (K w.params).In base → base.Ns mainGlobals mg → FnOk l.prog w (K w.params) mg base CX0 14 fa fd ["_law_script"] (sp_law (K w.params))) :
    PySem.W.WalkO q loose XP YP l.row.toRowW d [] (fun f vs => PySem.call f vs) :=
  L2.walk_of (n := 63) (k := 14) (x := "_law_script") (CX := fun _ => CX0) (sp := fun w => sp_law (K w.params)) hn (by decide) hdf ⟨rfl, by decide, by decide⟩ hY F (fun _ _ a ns hl _ hS => ⟨a, ns, rfl, hS, fun _ => rfl⟩) fun _ _ _ _ _ z => z
end Fp
open PySem PySem.W PyProof.Rows
set_option maxRecDepth 100000 in
set_option maxHeartbeats 0 in
theorem PySem.Challenge.cw_frontparts_k02_whole_bags_laid_together_holds : PySem.Challenge.rw_frontparts_k02_whole_bags_laid_together.Holds := by
  w_on; o_law; k_head; (case hw => w_witness2)
  k_fill
  refine Fp.walk (l := PySem.Challenge.rw_frontparts_k02_whole_bags_laid_together) rfl rfl (fun w h Y => PySem.W.kIn_of Y) ?F
  case F =>
    intro w mg fa h KX G hmg
    refine' Fp.all_mk KX G hmg ?z_nsBag ?z_nsRawBag ?z_a_ahead_key ?z_l_ahead_key ?z_c_ahead_key ?z_k_ahead_key ?z_a_law_hand ?z_l_law_hand ?z_c_law_hand ?z_k_law_hand ?z_a_law_draw ?z_l_law_draw ?z_c_law_draw ?z_k_law_draw ?z_a_law_clock ?z_l_law_clock ?z_c_law_clock ?z_k_law_clock ?z_a_law_small ?z_l_law_small ?z_c_law_small ?z_k_law_small ?z_a_law_word ?z_l_law_word ?z_c_law_word ?z_k_law_word ?z_a_law_lot ?z_l_law_lot ?z_c_law_lot ?z_k_law_lot ?z_a_law_put ?z_l_law_put ?z_c_law_put ?z_k_law_put ?z_a_law_product ?z_l_law_product ?z_c_law_product ?z_k_law_product ?z_a_law_plus ?z_l_law_plus ?z_c_law_plus ?z_k_law_plus ?z_a_law_woven ?z_l_law_woven ?z_c_law_woven ?z_k_law_woven ?z_a_law_some ?z_l_law_some ?z_c_law_some ?z_k_law_some ?z_a_is_integer ?z_l_is_integer ?z_c_is_integer ?z_k_is_integer ?z_a_is_clock ?z_l_is_clock ?z_c_is_clock ?z_k_is_clock ?z_a_is_word ?z_l_is_word ?z_c_is_word ?z_k_is_word ?z_a_is_short_word ?z_l_is_short_word ?z_c_is_short_word ?z_k_is_short_word ?z_a_is_within ?z_l_is_within ?z_c_is_within ?z_k_is_within ?z_a_are_words ?z_l_are_words ?z_c_are_words ?z_k_are_words ?z_a_words_in_order ?z_l_words_in_order ?z_c_words_in_order ?z_k_words_in_order ?z_a_Bag_keep ?z_i_Bag_keep ?z_l_Bag_keep ?z_c_Bag_keep ?z_k_Bag_keep ?z_a_Bag_init ?z_i_Bag_init ?z_l_Bag_init ?z_c_Bag_init ?z_k_Bag_init ?z_a_check_clocks ?z_l_check_clocks ?z_c_check_clocks ?z_k_check_clocks ?z_a_RawBag_init ?z_i_RawBag_init ?z_l_RawBag_init ?z_c_RawBag_init ?z_k_RawBag_init ?z_a_raw ?z_l_raw ?z_c_raw ?z_k_raw ?z_a_put_to ?z_l_put_to ?z_c_put_to ?z_k_put_to ?z_a_added ?z_l_added ?z_c_added ?z_k_added ?z_a_together ?z_l_together ?z_c_together ?z_k_together ?z_a_less ?z_l_less ?z_c_less ?z_k_less ?z_a_law_order ?z_l_law_order ?z_c_law_order ?z_k_law_order ?z_a_law_words ?z_l_law_words ?z_c_law_words ?z_k_law_words ?z_a_law_is ?z_l_law_is ?z_c_law_is ?z_k_law_is ?z_a_is_listed ?z_l_is_listed ?z_c_is_listed ?z_k_is_listed ?z_a_check_bags ?z_l_check_bags ?z_c_check_bags ?z_k_check_bags ?z_a_all_together ?z_l_all_together ?z_c_all_together ?z_k_all_together ?z_a_size ?z_l_size ?z_c_size ?z_k_size ?z_a_bag_key ?z_l_bag_key ?z_c_bag_key ?z_k_bag_key ?z_a_Bag_eq ?z_i_Bag_eq ?z_l_Bag_eq ?z_c_Bag_eq ?z_k_Bag_eq ?z_a_in_order ?z_l_in_order ?z_c_in_order ?z_k_in_order ?z_a_law_key ?z_l_law_key ?z_c_law_key ?z_k_law_key ?z_a_law_all_right ?z_l_law_all_right ?z_c_law_all_right ?z_k_law_all_right ?z_a_scaled ?z_l_scaled ?z_c_scaled ?z_k_scaled ?z_a_times ?z_l_times ?z_c_times ?z_k_times ?z_a_law_unlike ?z_l_law_unlike ?z_c_law_unlike ?z_k_law_unlike ?z_a_law ?z_l_law ?z_c_law ?z_k_law ?z_cg ?z_ct ?z_pgBag ?z_hdBag ?z_poBag ?z_saBag ?z_mkBag ?z_kBBag ?z_n1Bag ?z_n2Bag ?z_n3Bag ?z_n4Bag ?z_ccBag ?z_coBag ?z_icBag ?z_tcBag ?z_neBag ?z_eqBag ?z_kpBag ?z_u_NoneType_Bag ?z_u_bool_Bag ?z_u_int_Bag ?z_u_str_Bag ?z_u_list_Bag ?z_u_tuple_Bag ?z_u_dict_Bag ?z_pgRawBag ?z_hdRawBag ?z_poRawBag ?z_saRawBag ?z_mkRawBag ?z_kBRawBag ?z_n1RawBag ?z_n2RawBag ?z_n3RawBag ?z_n4RawBag ?z_ccRawBag ?z_coRawBag ?z_icRawBag ?z_tcRawBag ?z_neRawBag ?z_eqRawBag ?z_kpRawBag ?z_u_NoneType_RawBag ?z_u_bool_RawBag ?z_u_int_RawBag ?z_u_str_RawBag ?z_u_list_RawBag ?z_u_tuple_RawBag ?z_u_dict_RawBag ?z_sRB ?z_sBR ?z_dRB ?z_xgUnlikeClocks ?z_xqUnlikeClocks ?z_xkUnlikeClocks ?z_xbUnlikeClocks ?z_xtUnlikeClocks ?z_xiUnlikeClocks ?z_xsUnlikeClocks ?z_b_isinstance ?z_b_int ?z_b_bool ?z_b_str ?z_b_dict ?z_b_list ?z_b_tuple ?z_b_len ?z_b_abs ?z_b_all ?z_b_any ?z_b_max ?z_b_min ?z_b_range ?z_b_sorted ?z_g1 ?z_g2 ?z_g3 ?z_g4 ?z_l4
    (case z_nsBag => k_is); (case z_nsRawBag => k_is); (case z_a_ahead_key => k_is); (case z_l_ahead_key => k_is); (case z_c_ahead_key => k_is); (case z_k_ahead_key => k_is); (case z_a_law_hand => k_is); (case z_l_law_hand => k_is); (case z_c_law_hand => k_is); (case z_k_law_hand => k_is); (case z_a_law_draw => k_is); (case z_l_law_draw => k_is); (case z_c_law_draw => k_is); (case z_k_law_draw => k_is); (case z_a_law_clock => k_is); (case z_l_law_clock => k_is); (case z_c_law_clock => k_is); (case z_k_law_clock => k_is); (case z_a_law_small => k_is); (case z_l_law_small => k_is); (case z_c_law_small => k_is); (case z_k_law_small => k_is); (case z_a_law_word => k_is); (case z_l_law_word => k_is); (case z_c_law_word => k_is); (case z_k_law_word => k_is); (case z_a_law_lot => k_is); (case z_l_law_lot => k_is); (case z_c_law_lot => k_is); (case z_k_law_lot => k_is); (case z_a_law_put => k_is); (case z_l_law_put => k_is); (case z_c_law_put => k_is); (case z_k_law_put => k_is); (case z_a_law_product => k_is); (case z_l_law_product => k_is); (case z_c_law_product => k_is); (case z_k_law_product => k_is); (case z_a_law_plus => k_is); (case z_l_law_plus => k_is); (case z_c_law_plus => k_is); (case z_k_law_plus => k_is); (case z_a_law_woven => k_is); (case z_l_law_woven => k_is); (case z_c_law_woven => k_is); (case z_k_law_woven => k_is); (case z_a_law_some => k_is); (case z_l_law_some => k_is); (case z_c_law_some => k_is); (case z_k_law_some => k_is); (case z_a_is_integer => k_is); (case z_l_is_integer => k_is); (case z_c_is_integer => k_is); (case z_k_is_integer => k_is); (case z_a_is_clock => k_is); (case z_l_is_clock => k_is); (case z_c_is_clock => k_is); (case z_k_is_clock => k_is); (case z_a_is_word => k_is); (case z_l_is_word => k_is); (case z_c_is_word => k_is); (case z_k_is_word => k_is); (case z_a_is_short_word => k_is); (case z_l_is_short_word => k_is); (case z_c_is_short_word => k_is); (case z_k_is_short_word => k_is); (case z_a_is_within => k_is); (case z_l_is_within => k_is); (case z_c_is_within => k_is); (case z_k_is_within => k_is); (case z_a_are_words => k_is); (case z_l_are_words => k_is); (case z_c_are_words => k_is); (case z_k_are_words => k_is); (case z_a_words_in_order => k_is); (case z_l_words_in_order => k_is); (case z_c_words_in_order => k_is); (case z_k_words_in_order => k_is); (case z_a_Bag_keep => k_is); (case z_i_Bag_keep => k_is); (case z_l_Bag_keep => k_is); (case z_c_Bag_keep => k_is); (case z_k_Bag_keep => k_is); (case z_a_Bag_init => k_is); (case z_i_Bag_init => k_is); (case z_l_Bag_init => k_is); (case z_c_Bag_init => k_is); (case z_k_Bag_init => k_is); (case z_a_check_clocks => k_is); (case z_l_check_clocks => k_is); (case z_c_check_clocks => k_is); (case z_k_check_clocks => k_is); (case z_a_RawBag_init => k_is); (case z_i_RawBag_init => k_is); (case z_l_RawBag_init => k_is); (case z_c_RawBag_init => k_is); (case z_k_RawBag_init => k_is); (case z_a_raw => k_is); (case z_l_raw => k_is); (case z_c_raw => k_is); (case z_k_raw => k_is); (case z_a_put_to => k_is); (case z_l_put_to => k_is); (case z_c_put_to => k_is); (case z_k_put_to => k_is); (case z_a_added => k_is); (case z_l_added => k_is); (case z_c_added => k_is); (case z_k_added => k_is); (case z_a_together => k_is); (case z_l_together => k_is); (case z_c_together => k_is); (case z_k_together => k_is); (case z_a_less => k_is); (case z_l_less => k_is); (case z_c_less => k_is); (case z_k_less => k_is); (case z_a_law_order => k_is); (case z_l_law_order => k_is); (case z_c_law_order => k_is); (case z_k_law_order => k_is); (case z_a_law_words => k_is); (case z_l_law_words => k_is); (case z_c_law_words => k_is); (case z_k_law_words => k_is); (case z_a_law_is => k_is); (case z_l_law_is => k_is); (case z_c_law_is => k_is); (case z_k_law_is => k_is); (case z_a_is_listed => k_is); (case z_l_is_listed => k_is); (case z_c_is_listed => k_is); (case z_k_is_listed => k_is); (case z_a_check_bags => k_is); (case z_l_check_bags => k_is); (case z_c_check_bags => k_is); (case z_k_check_bags => k_is); (case z_a_all_together => k_is); (case z_l_all_together => k_is); (case z_c_all_together => k_is); (case z_k_all_together => k_is); (case z_a_size => k_is); (case z_l_size => k_is); (case z_c_size => k_is); (case z_k_size => k_is); (case z_a_bag_key => k_is); (case z_l_bag_key => k_is); (case z_c_bag_key => k_is); (case z_k_bag_key => k_is); (case z_a_Bag_eq => k_is); (case z_i_Bag_eq => k_is); (case z_l_Bag_eq => k_is); (case z_c_Bag_eq => k_is); (case z_k_Bag_eq => k_is); (case z_a_in_order => k_is); (case z_l_in_order => k_is); (case z_c_in_order => k_is); (case z_k_in_order => k_is); (case z_a_law_key => k_is); (case z_l_law_key => k_is); (case z_c_law_key => k_is); (case z_k_law_key => k_is); (case z_a_law_all_right => k_is); (case z_l_law_all_right => k_is); (case z_c_law_all_right => k_is); (case z_k_law_all_right => k_is); (case z_a_scaled => k_is); (case z_l_scaled => k_is); (case z_c_scaled => k_is); (case z_k_scaled => k_is); (case z_a_times => k_is); (case z_l_times => k_is); (case z_c_times => k_is); (case z_k_times => k_is); (case z_a_law_unlike => k_is); (case z_l_law_unlike => k_is); (case z_c_law_unlike => k_is); (case z_k_law_unlike => k_is); (case z_a_law => k_is); (case z_l_law => k_is); (case z_c_law => k_is); (case z_k_law => k_is); (case z_cg => k_is); (case z_ct => k_is); (case z_pgBag => k_is); (case z_hdBag => k_is); (case z_poBag => k_is); (case z_saBag => k_is); (case z_mkBag => k_is); (case z_kBBag => k_is); (case z_n1Bag => k_is); (case z_n2Bag => k_is); (case z_n3Bag => k_is); (case z_n4Bag => k_is); (case z_ccBag => k_is); (case z_coBag => k_is); (case z_icBag => k_is); (case z_tcBag => k_is); (case z_neBag => k_is); (case z_eqBag => k_is); (case z_kpBag => k_is); (case z_u_NoneType_Bag => k_is); (case z_u_bool_Bag => k_is); (case z_u_int_Bag => k_is); (case z_u_str_Bag => k_is); (case z_u_list_Bag => k_is); (case z_u_tuple_Bag => k_is); (case z_u_dict_Bag => k_is); (case z_pgRawBag => k_is); (case z_hdRawBag => k_is); (case z_poRawBag => k_is); (case z_saRawBag => k_is); (case z_mkRawBag => k_is); (case z_kBRawBag => k_is); (case z_n1RawBag => k_is); (case z_n2RawBag => k_is); (case z_n3RawBag => k_is); (case z_n4RawBag => k_is); (case z_ccRawBag => k_is); (case z_coRawBag => k_is); (case z_icRawBag => k_is); (case z_tcRawBag => k_is); (case z_neRawBag => k_is); (case z_eqRawBag => k_is); (case z_kpRawBag => k_is); (case z_u_NoneType_RawBag => k_is); (case z_u_bool_RawBag => k_is); (case z_u_int_RawBag => k_is); (case z_u_str_RawBag => k_is); (case z_u_list_RawBag => k_is); (case z_u_tuple_RawBag => k_is); (case z_u_dict_RawBag => k_is); (case z_sRB => k_is); (case z_sBR => k_is); (case z_dRB => decide); (case z_xgUnlikeClocks => k_is); (case z_xqUnlikeClocks => k_exc); (case z_xkUnlikeClocks => k_is); (case z_xbUnlikeClocks => k_is); (case z_xtUnlikeClocks => k_is); (case z_xiUnlikeClocks => k_is); (case z_xsUnlikeClocks => k_is); (case z_b_isinstance => k_is); (case z_b_int => k_is); (case z_b_bool => k_is); (case z_b_str => k_is); (case z_b_dict => k_is); (case z_b_list => k_is); (case z_b_tuple => k_is); (case z_b_len => k_is); (case z_b_abs => k_is); (case z_b_all => k_is); (case z_b_any => k_is); (case z_b_max => k_is); (case z_b_min => k_is); (case z_b_range => k_is); (case z_b_sorted => k_is); (case z_g1 => k_is); (case z_g2 => k_is); (case z_g3 => k_is); (case z_g4 => k_is); (case z_l4 => k_is)
