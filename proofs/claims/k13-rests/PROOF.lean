import PyProof.Rows.All
import Wide.All
import OpenK.AllK
import Wide.FinOn
import KE.SortKeyHeap
import HandS.ForMost
import HandS.ForExc
import HandS.More
import HandS.IsInst
import HandS.Style
import HandS.TupAny
import HandS.DictComp
import HandS.StrMore
import HandS.SortKw
import HandS.OwnEq
import PyProof.InstNe
import KE.DataEq
import HandS.Walk
import KE.KDictPairs
import HandS.ExcOwn
import HandS.TryOnly
import HandS.WordsExc
import HandS.ExcIs
import HandS.ExcCtx
import PyProof.StrLaws
import HandS.IterVal
import HandS.Zip
import KE.GoesMore
import PyProof.EnumMake
import KE.DataMinKey
import KE.LtData
import HandS.TupSets
import PySem.Challenge.RW_frontparts_k13_whole_rests_by_a_row
set_option Elab.async false
set_option maxRecDepth 100000
set_option maxHeartbeats 4000000
set_option linter.all false
/-! Bags as lists of words with numbers: the mirror of the dicts, and its algebra. -/
namespace Fp
open PySem

abbrev Bg := List (Str × Int)
def getS (s : Bg) (w : Str) : Option Int := (s.find? fun kv => decide (kv.1 = w)).map (·.2)
def cf (s : Bg) (w : Str) : Int := (getS s w).getD 0
def putS (s : Bg) (w : Str) (n : Int) : Bg := if (s.any fun kv => decide (kv.1 = w)) = true then s.map (fun kv => if kv.1 = w then (kv.1, n) else kv) else s ++ [(w, n)]
def dropS (s : Bg) (w : Str) : Bg := s.filter fun kv => decide (kv.1 ≠ w)
def addTo (p : Int) (s : Bg) (w : Str) (n : Int) : Bg :=
  if (cf s w + n) % p = 0 then dropS s w else putS s w ((cf s w + n) % p)
def plusS (p : Int) (s t : Bg) (f : Int) : Bg := t.foldl (fun acc kv => addTo p acc kv.1 (f * kv.2)) s
def prodRow (p : Int) (acc : Bg) (a : Str × Int) (t : Bg) : Bg := t.foldl (fun acc b => addTo p acc (a.1 ++ b.1) (a.2 * b.2)) acc
def prodS (p : Int) (s t : Bg) : Bg := s.foldl (fun acc a => prodRow p acc a t) []
def keys (s : Bg) : List Str := s.map (·.1)

structure Good (p : Int) (s : Bg) : Prop where
  nd : (keys s).Nodup
  lo : ∀ kv ∈ s, 0 < kv.2
  hi : ∀ kv ∈ s, kv.2 < p

theorem getS_nil (w : Str) : getS [] w = none := rfl
theorem getS_pos {q : Str × Int} {r : Bg} {w : Str} (e : q.1 = w) : getS (q :: r) w = some q.2 := by simp [getS, List.find?_cons, e]
theorem getS_neg {q : Str × Int} {r : Bg} {w : Str} (e : ¬ q.1 = w) : getS (q :: r) w = getS r w := by simp [getS, List.find?_cons, e]
theorem cf_nil (w : Str) : cf [] w = 0 := rfl
theorem cf_pos {q : Str × Int} {r : Bg} {w : Str} (e : q.1 = w) : cf (q :: r) w = q.2 := by unfold cf; rw [getS_pos e]; rfl
theorem cf_neg {q : Str × Int} {r : Bg} {w : Str} (e : ¬ q.1 = w) : cf (q :: r) w = cf r w := by unfold cf; rw [getS_neg e]
theorem getS_any (w : Str) : ∀ s : Bg, (s.any fun kv => decide (kv.1 = w)) = (getS s w).isSome
  | [] => rfl
  | q :: r => by
    rw [List.any_cons]
    by_cases e : q.1 = w
    · simp only [getS_pos e, decide_eq_true e, Bool.true_or, Option.isSome_some]
    · rw [getS_neg e, decide_eq_false e, Bool.false_or]; exact getS_any w r
theorem getS_mem {w : Str} {n : Int} : ∀ {s : Bg}, getS s w = some n → (w, n) ∈ s
  | q :: r, h => by
    by_cases e : q.1 = w
    · rw [getS_pos e] at h
      cases h
      subst e
      exact List.mem_cons_self
    · rw [getS_neg e] at h
      exact List.mem_cons_of_mem _ (getS_mem h)
theorem getS_of_mem {w : Str} {n : Int} : ∀ {s : Bg}, (keys s).Nodup → (w, n) ∈ s → getS s w = some n
  | q :: r, hn, h => by
    have hn' := List.nodup_cons.mp (show (q.1 :: keys r).Nodup from hn)
    rcases List.mem_cons.mp h with e | h
    · subst e
      exact getS_pos rfl
    · have ne : ¬ q.1 = w := fun e => hn'.1 (e ▸ List.mem_map.mpr ⟨_, h, rfl⟩)
      rw [getS_neg ne]
      exact getS_of_mem hn'.2 h
theorem getS_none {w : Str} : ∀ {s : Bg}, getS s w = none ↔ w ∉ keys s
  | [] => by simp [getS, keys]
  | q :: r => by
    by_cases e : q.1 = w
    · rw [getS_pos e]
      constructor
      · intro h; cases h
      · intro h; exact absurd (by rw [← e]; exact List.mem_cons_self) h
    · rw [getS_neg e]
      have ih := getS_none (w := w) (s := r)
      rw [ih]
      unfold keys
      rw [List.map_cons, List.mem_cons]
      constructor
      · intro h z
        rcases z with z | z
        · exact e z.symm
        · exact h z
      · intro h z
        exact h (.inr z)
theorem mem_keys {w : Str} {s : Bg} : w ∈ keys s ↔ ∃ n, (w, n) ∈ s := by
  unfold keys
  rw [List.mem_map]
  constructor
  · rintro ⟨⟨u, n⟩, h, rfl⟩
    exact ⟨n, h⟩
  · rintro ⟨n, h⟩
    exact ⟨_, h, rfl⟩

theorem getS_map (w u : Str) (n : Int) : ∀ s : Bg, getS (s.map fun kv => if kv.1 = w then (kv.1, n) else kv) u = (getS s u).map fun x => if u = w then n else x
  | [] => rfl
  | q :: r => by
    have ih := getS_map w u n r
    rw [List.map_cons]
    by_cases h : q.1 = w
    · rw [if_pos h]
      by_cases h2 : q.1 = u
      · rw [getS_pos (q := (q.1, n)) h2, getS_pos h2]
        have e : u = w := h2 ▸ h
        simp [e]
      · rw [getS_neg (q := (q.1, n)) h2, getS_neg h2, ih]
    · rw [if_neg h]
      by_cases h2 : q.1 = u
      · rw [getS_pos h2, getS_pos h2]
        have e : ¬ u = w := fun z => h (h2.trans z)
        simp [e]
      · rw [getS_neg h2, getS_neg h2, ih]
theorem getS_snoc (w u : Str) (n : Int) : ∀ s : Bg, getS s w = none → getS (s ++ [(w, n)]) u = if u = w then some n else getS s u
  | [], _ => by
    by_cases e : w = u
    · rw [if_pos e.symm]; exact getS_pos (q := (w, n)) e
    · rw [if_neg (fun z => e z.symm)]; exact getS_neg (q := (w, n)) e
  | q :: r, hn => by
    rw [List.cons_append]
    by_cases h : q.1 = w
    · rw [getS_pos h] at hn; cases hn
    · rw [getS_neg h] at hn
      by_cases h2 : q.1 = u
      · rw [getS_pos h2, getS_pos h2, if_neg (fun z => h (h2.trans z))]
      · rw [getS_neg h2, getS_neg h2]
        exact getS_snoc w u n r hn
theorem getS_put (s : Bg) (w u : Str) (n : Int) : getS (putS s w n) u = if u = w then some n else getS s u := by
  unfold putS
  by_cases a : (s.any fun kv => decide (kv.1 = w)) = true
  · rw [if_pos a, getS_map]
    rw [getS_any] at a
    by_cases e : u = w
    · obtain ⟨x, hx⟩ := Option.isSome_iff_exists.mp a
      subst e
      rw [hx]
      simp
    · simp [e]
  · rw [if_neg a]
    rw [getS_any] at a
    exact getS_snoc w u n s (by cases h : getS s w with | none => rfl | some x => rw [h] at a; exact absurd rfl a)
theorem getS_drop (w u : Str) : ∀ s : Bg, getS (dropS s w) u = if u = w then none else getS s u
  | [] => by
    show getS [] u = _
    rw [getS_nil]
    split <;> rfl
  | q :: r => by
    have ih := getS_drop w u r
    unfold dropS at ih ⊢
    rw [List.filter_cons]
    by_cases h : q.1 = w
    · rw [if_neg (by simp [h])]
      rw [ih]
      by_cases e : u = w
      · rw [if_pos e, if_pos e]
      · rw [if_neg e, if_neg e, getS_neg (fun z => e (z.symm.trans h))]
    · rw [if_pos (by simp [h])]
      by_cases h2 : q.1 = u
      · rw [getS_pos h2, getS_pos h2, if_neg (fun z => h (h2.trans z))]
      · rw [getS_neg h2, getS_neg h2, ih]
theorem cf_put (s : Bg) (w u : Str) (n : Int) : cf (putS s w n) u = if u = w then n else cf s u := by
  unfold cf
  rw [getS_put]
  split <;> rfl
theorem cf_drop (s : Bg) (w u : Str) : cf (dropS s w) u = if u = w then 0 else cf s u := by
  unfold cf
  rw [getS_drop]
  split <;> rfl
theorem cf_addTo (p : Int) (s : Bg) (w u : Str) (n : Int) : cf (addTo p s w n) u = if u = w then (cf s w + n) % p else cf s u := by
  unfold addTo
  split
  · rename_i h
    rw [cf_drop, h]
  · rw [cf_put]

theorem keys_drop (s : Bg) (w : Str) : keys (dropS s w) = (keys s).filter fun u => decide (u ≠ w) := by
  unfold keys dropS
  induction s with
  | nil => rfl
  | cons q r ih =>
    rw [List.filter_cons, List.map_cons, List.filter_cons]
    by_cases h : q.1 = w
    · rw [if_neg (by simp [h]), if_neg (by simp [h])]
      exact ih
    · rw [if_pos (by simp [h]), if_pos (by simp [h]), List.map_cons, ih]
theorem keys_map_put (s : Bg) (w : Str) (n : Int) : keys (s.map fun kv => if kv.1 = w then (kv.1, n) else kv) = keys s := by
  unfold keys
  rw [List.map_map]
  refine List.map_congr_left fun q _ => ?_
  show (if q.1 = w then (q.1, n) else q).1 = q.1
  split <;> rfl
theorem keys_put (s : Bg) (w : Str) (n : Int) : keys (putS s w n) = if w ∈ keys s then keys s else keys s ++ [w] := by
  unfold putS
  rw [getS_any]
  by_cases h : w ∈ keys s
  · rw [if_pos h, if_pos (by cases e : getS s w with | none => exact absurd h (getS_none.mp e) | some x => rfl)]
    exact keys_map_put s w n
  · rw [if_neg h, if_neg (by rw [getS_none.mpr h]; simp)]
    unfold keys
    rw [List.map_append]
    rfl
theorem len_put (s : Bg) (w : Str) (n : Int) : (putS s w n).length ≤ s.length + 1 := by
  have e : (keys (putS s w n)).length ≤ (keys s).length + 1 := by
    rw [keys_put]
    split
    · omega
    · rw [List.length_append]; simp
  unfold keys at e
  rw [List.length_map, List.length_map] at e
  exact e
theorem len_drop (s : Bg) (w : Str) : (dropS s w).length ≤ s.length := List.length_filter_le _ _
theorem len_addTo (p : Int) (s : Bg) (w : Str) (n : Int) : (addTo p s w n).length ≤ s.length + 1 := by
  unfold addTo
  split
  · exact Nat.le_trans (len_drop s w) (Nat.le_succ _)
  · exact len_put _ _ _
theorem mem_keys_addTo {p : Int} {s : Bg} {w u : Str} {n : Int} (h : u ∈ keys (addTo p s w n)) : u ∈ keys s ∨ u = w := by
  unfold addTo at h
  split at h
  · rw [keys_drop] at h
    exact .inl (List.mem_filter.mp h).1
  · rw [keys_put] at h
    split at h
    · exact .inl h
    · rcases List.mem_append.mp h with h | h
      · exact .inl h
      · exact .inr (by simpa using h)

theorem nodup_put {s : Bg} {w : Str} {n : Int} (h : (keys s).Nodup) : (keys (putS s w n)).Nodup := by
  rw [keys_put]
  split
  · exact h
  · rename_i hn
    refine List.nodup_append.mpr ⟨h, by simp, ?_⟩
    intro a ha b hb
    have e : b = w := by simpa using hb
    subst e
    rintro rfl
    exact hn ha
theorem mem_put {s : Bg} {w : Str} {n : Int} {kv : Str × Int} (h : kv ∈ putS s w n) : kv ∈ s ∨ kv = (w, n) := by
  unfold putS at h
  split at h
  · obtain ⟨q, hq, e⟩ := List.mem_map.mp h
    split at e
    · rename_i hw
      exact .inr (by rw [← e, hw])
    · exact .inl (e ▸ hq)
  · rcases List.mem_append.mp h with h | h
    · exact .inl h
    · exact .inr (by simpa using h)

section
variable {p : Int} {s t u : Bg}
theorem Good.nil : Good p [] := ⟨List.nodup_nil, (fun _ h => nomatch h), (fun _ h => nomatch h)⟩
theorem Good.put {w : Str} {n : Int} (g : Good p s) (h0 : 0 < n) (h1 : n < p) : Good p (putS s w n) :=
  ⟨nodup_put g.nd, fun kv h => by
    rcases mem_put h with h | h
    · exact g.lo kv h
    · rw [h]; exact h0, fun kv h => by
    rcases mem_put h with h | h
    · exact g.hi kv h
    · rw [h]; exact h1⟩
theorem Good.drop {w : Str} (g : Good p s) : Good p (dropS s w) :=
  ⟨by rw [keys_drop]; exact g.nd.filter _, fun kv h => g.lo kv (List.mem_filter.mp h).1, fun kv h => g.hi kv (List.mem_filter.mp h).1⟩
theorem Good.addTo {w : Str} {n : Int} (hp : 0 < p) (g : Good p s) : Good p (addTo p s w n) := by
  unfold Fp.addTo
  split
  · exact g.drop
  · rename_i h
    have h1 := Int.emod_nonneg (cf s w + n) (Int.ne_of_gt hp)
    have h2 := Int.emod_lt_of_pos (cf s w + n) hp
    exact g.put (by omega) h2
theorem Good.plus {f : Int} (hp : 0 < p) (g : Good p s) (t : Bg) : Good p (plusS p s t f) := by
  unfold plusS
  induction t generalizing s with
  | nil => exact g
  | cons q r ih => exact ih (g.addTo hp)
theorem Good.row {a : Str × Int} (hp : 0 < p) (g : Good p s) (t : Bg) : Good p (prodRow p s a t) := by
  unfold prodRow
  induction t generalizing s with
  | nil => exact g
  | cons q r ih => exact ih (g.addTo hp)
theorem Good.prod (hp : 0 < p) (s t : Bg) : Good p (prodS p s t) := by
  unfold prodS
  have key : ∀ (s acc : Bg), Good p acc → Good p (s.foldl (fun acc a => prodRow p acc a t) acc) := by
    intro s
    induction s with
    | nil => intro acc g; exact g
    | cons q r ih => intro acc g; exact ih _ (g.row hp t)
  exact key s [] Good.nil

theorem cf_nonneg (g : Good p s) (w : Str) : 0 ≤ cf s w := by
  unfold cf
  cases e : getS s w with
  | none => exact Int.le_refl 0
  | some n => exact Int.le_of_lt (g.lo _ (getS_mem e))
theorem cf_lt (hp : 0 < p) (g : Good p s) (w : Str) : cf s w < p := by
  unfold cf
  cases e : getS s w with
  | none => exact hp
  | some n => exact g.hi _ (getS_mem e)
theorem cf_mod (hp : 0 < p) (g : Good p s) (w : Str) : cf s w % p = cf s w := Int.emod_eq_of_lt (cf_nonneg g w) (cf_lt hp g w)
theorem cf_ne (g : Good p s) {w : Str} : w ∈ keys s ↔ cf s w ≠ 0 := by
  constructor
  · intro h
    obtain ⟨n, hn⟩ := mem_keys.mp h
    have e := getS_of_mem g.nd hn
    have := g.lo _ hn
    unfold cf
    rw [e]
    show n ≠ 0
    have h0 : 0 < n := this
    omega
  · intro h
    apply Classical.byContradiction
    intro hn
    apply h
    unfold cf
    rw [getS_none.mpr hn]
    rfl
end

/-! ### sums over lists -/
def sumL {α : Type} (l : List α) (f : α → Int) : Int := (l.map f).sum
section
variable {α β : Type}
theorem sumL_nil (f : α → Int) : sumL [] f = 0 := rfl
theorem sumL_cons (a : α) (l : List α) (f : α → Int) : sumL (a :: l) f = f a + sumL l f := by unfold sumL; rw [List.map_cons, List.sum_cons]
theorem sumL_append (l m : List α) (f : α → Int) : sumL (l ++ m) f = sumL l f + sumL m f := by unfold sumL; rw [List.map_append, List.sum_append]
theorem sumL_map (l : List β) (g : β → α) (f : α → Int) : sumL (l.map g) f = sumL l fun b => f (g b) := by unfold sumL; rw [List.map_map]; rfl
theorem sumL_congr {l : List α} {f g : α → Int} (h : ∀ a ∈ l, f a = g a) : sumL l f = sumL l g := by unfold sumL; rw [List.map_congr_left h]
theorem sumL_zero {l : List α} {f : α → Int} (h : ∀ a ∈ l, f a = 0) : sumL l f = 0 := by
  induction l with
  | nil => rfl
  | cons a l ih => rw [sumL_cons, h a List.mem_cons_self, ih fun b hb => h b (List.mem_cons_of_mem _ hb)]; rfl
theorem sumL_add (l : List α) (f g : α → Int) : sumL l (fun a => f a + g a) = sumL l f + sumL l g := by
  induction l with
  | nil => rfl
  | cons a l ih => rw [sumL_cons, sumL_cons, sumL_cons, ih]; omega
theorem sumL_mul (l : List α) (c : Int) (f : α → Int) : sumL l (fun a => c * f a) = c * sumL l f := by
  induction l with
  | nil => rw [sumL_nil, sumL_nil, Int.mul_zero]
  | cons a l ih => rw [sumL_cons, sumL_cons, ih, Int.mul_add]
theorem sumL_mulr (l : List α) (c : Int) (f : α → Int) : sumL l (fun a => f a * c) = sumL l f * c := by
  induction l with
  | nil => rw [sumL_nil, sumL_nil, Int.zero_mul]
  | cons a l ih => rw [sumL_cons, sumL_cons, ih, Int.add_mul]
theorem sumL_swap (l : List α) (m : List β) (f : α → β → Int) : sumL l (fun a => sumL m fun b => f a b) = sumL m fun b => sumL l fun a => f a b := by
  induction l with
  | nil => rw [sumL_nil]; exact (sumL_zero fun b _ => rfl).symm
  | cons a l ih =>
    rw [sumL_cons, ih, ← sumL_add]
    exact sumL_congr fun b _ => (sumL_cons a l fun a => f a b).symm
theorem sumL_perm {l m : List α} (h : l.Perm m) (f : α → Int) : sumL l f = sumL m f := by
  induction h with
  | nil => rfl
  | cons a _ ih => rw [sumL_cons, sumL_cons, ih]
  | swap a b l => rw [sumL_cons, sumL_cons, sumL_cons, sumL_cons]; omega
  | trans _ _ i1 i2 => exact i1.trans i2
end
theorem emod_emod_add (a b p : Int) : (a % p + b) % p = (a + b) % p := by rw [Int.emod_add_emod]

/-! ### what an operation makes of the numbers -/
section
variable {p : Int} {s t u : Bg}
/-- the number at w of t, by all its entries -/
theorem sum_ind (hn : (keys t).Nodup) (w : Str) : sumL t (fun kv => if kv.1 = w then kv.2 else 0) = cf t w := by
  induction t with
  | nil => rfl
  | cons q r ih =>
    have hn' := List.nodup_cons.mp (show (q.1 :: keys r).Nodup from hn)
    rw [sumL_cons, ih hn'.2]
    by_cases e : q.1 = w
    · rw [if_pos e, cf_pos e]
      have : cf r w = 0 := by
        unfold cf
        rw [getS_none.mpr (e ▸ hn'.1)]
        rfl
      omega
    · rw [if_neg e, cf_neg e]; omega
theorem cf_fold (hp : 0 < p) {α : Type} (k : α → Str) (v : α → Int) (w : Str) : ∀ (l : List α) (s : Bg), Good p s →
    cf (l.foldl (fun acc a => addTo p acc (k a) (v a)) s) w = (cf s w + sumL l fun a => if k a = w then v a else 0) % p
  | [], s, g => by
    show cf s w = _
    rw [sumL_nil, Int.add_zero, cf_mod hp g]
  | a :: l, s, g => by
    rw [List.foldl_cons, cf_fold hp k v w l _ (g.addTo hp), cf_addTo, sumL_cons]
    by_cases e : k a = w
    · subst e
      rw [if_pos rfl, if_pos rfl, emod_emod_add, Int.add_assoc]
    · rw [if_neg (fun z => e z.symm), if_neg e, Int.zero_add]
theorem cf_plus (hp : 0 < p) (g : Good p s) (hn : (keys t).Nodup) (f : Int) (w : Str) : cf (plusS p s t f) w = (cf s w + f * cf t w) % p := by
  unfold plusS
  rw [cf_fold hp (fun kv : Str × Int => kv.1) (fun kv => f * kv.2) w t s g, ← sum_ind hn w, ← sumL_mul]
  congr 2
  refine sumL_congr fun kv _ => ?_
  split
  · rfl
  · rw [Int.mul_zero]
/-- all products that come to w -/
def cvS (s t : Bg) (w : Str) : Int := sumL s fun a => sumL t fun b => if a.1 ++ b.1 = w then a.2 * b.2 else 0
theorem cf_row (hp : 0 < p) (g : Good p s) (a : Str × Int) (w : Str) : cf (prodRow p s a t) w = (cf s w + sumL t fun b => if a.1 ++ b.1 = w then a.2 * b.2 else 0) % p := by
  unfold prodRow
  exact cf_fold hp (fun b : Str × Int => a.1 ++ b.1) (fun b => a.2 * b.2) w t s g
theorem cf_prod (hp : 0 < p) (s t : Bg) (w : Str) : cf (prodS p s t) w = cvS s t w % p := by
  unfold prodS cvS
  have key : ∀ (s acc : Bg), Good p acc → cf (s.foldl (fun acc a => prodRow p acc a t) acc) w = (cf acc w + sumL s fun a => sumL t fun b => if a.1 ++ b.1 = w then a.2 * b.2 else 0) % p := by
    intro s
    induction s with
    | nil => intro acc g; show cf acc w = _; rw [sumL_nil, Int.add_zero, cf_mod hp g]
    | cons q r ih =>
      intro acc g
      rw [List.foldl_cons, ih _ (g.row hp t), cf_row hp g, sumL_cons, emod_emod_add, Int.add_assoc]
  rw [key s [] Good.nil, cf_nil, Int.zero_add]

/-! ### sizes -/
theorem len_fold {α : Type} (k : α → Str) (v : α → Int) : ∀ (l : List α) (s : Bg), (l.foldl (fun acc a => addTo p acc (k a) (v a)) s).length ≤ s.length + l.length
  | [], s => Nat.le_refl _
  | a :: l, s => by
    rw [List.foldl_cons, List.length_cons]
    have h1 := len_fold k v l (addTo p s (k a) (v a))
    have h2 := len_addTo p s (k a) (v a)
    omega
theorem len_plus (f : Int) : (plusS p s t f).length ≤ s.length + t.length := len_fold (fun kv : Str × Int => kv.1) (fun kv => f * kv.2) t s
theorem len_row (a : Str × Int) : (prodRow p s a t).length ≤ s.length + t.length := len_fold (fun b : Str × Int => a.1 ++ b.1) (fun b => a.2 * b.2) t s
theorem len_prod : (prodS p s t).length ≤ s.length * t.length := by
  unfold prodS
  have key : ∀ (s acc : Bg), (s.foldl (fun acc a => prodRow p acc a t) acc).length ≤ acc.length + s.length * t.length := by
    intro s
    induction s with
    | nil => intro acc; show acc.length ≤ _; simp
    | cons q r ih =>
      intro acc
      rw [List.foldl_cons, List.length_cons, Nat.add_mul, Nat.one_mul]
      have h1 := ih (prodRow p acc q t)
      have h2 := len_row (p := p) (s := acc) (t := t) q
      omega
  have := key s []
  simpa using this
theorem keys_fold {α : Type} (k : α → Str) (v : α → Int) {w : Str} : ∀ (l : List α) (s : Bg), w ∈ keys (l.foldl (fun acc a => addTo p acc (k a) (v a)) s) → w ∈ keys s ∨ ∃ a ∈ l, w = k a
  | [], s, h => .inl h
  | a :: l, s, h => by
    rw [List.foldl_cons] at h
    rcases keys_fold k v l _ h with h | ⟨b, hb, e⟩
    · rcases mem_keys_addTo h with h | h
      · exact .inl h
      · exact .inr ⟨a, List.mem_cons_self, h⟩
    · exact .inr ⟨b, List.mem_cons_of_mem _ hb, e⟩
theorem keys_plus {f : Int} {w : Str} (h : w ∈ keys (plusS p s t f)) : w ∈ keys s ∨ w ∈ keys t := by
  rcases keys_fold (fun kv : Str × Int => kv.1) (fun kv => f * kv.2) t s h with h | ⟨a, ha, e⟩
  · exact .inl h
  · exact .inr (e ▸ List.mem_map.mpr ⟨a, ha, rfl⟩)
theorem keys_prod {w : Str} (h : w ∈ keys (prodS p s t)) : ∃ a ∈ keys s, ∃ b ∈ keys t, w = a ++ b := by
  unfold prodS at h
  have key : ∀ (s acc : Bg), w ∈ keys (s.foldl (fun acc a => prodRow p acc a t) acc) → w ∈ keys acc ∨ ∃ a ∈ keys s, ∃ b ∈ keys t, w = a ++ b := by
    intro s
    induction s with
    | nil => intro acc h; exact .inl h
    | cons q r ih =>
      intro acc h
      rw [List.foldl_cons] at h
      rcases ih _ h with h | ⟨a, ha, b, hb, e⟩
      · rcases keys_fold (fun b : Str × Int => q.1 ++ b.1) (fun b => q.2 * b.2) t acc h with h | ⟨b, hb, e⟩
        · exact .inl h
        · exact .inr ⟨q.1, List.mem_cons_self, b.1, List.mem_map.mpr ⟨b, hb, rfl⟩, e⟩
      · exact .inr ⟨a, List.mem_cons_of_mem _ ha, b, hb, e⟩
  rcases key s [] h with h | h
  · exact nomatch h
  · exact h
end
end Fp

/-! The order of words, the tuple of the words of a bag, and products as sums over partings. -/
namespace Fp
open PySem PySem.W

/-- what ahead_key tells -/
def keyD (w : Str) : PyData := .tuple [.int (-(w.length : Int)), .str w]
def leW : Str → Str → Bool := dataLe false keyD
theorem leW_eq (a b : Str) : leW a b = decide (b.length < a.length ∨ (a.length = b.length ∧ a.cps.toList ≤ b.cps.toList)) := by
  show (!dataLt (keyD b) (keyD a)) = _
  unfold keyD
  rw [dataLt_pair (by simp [alike]) (by simp [alike]), dataLt_int, dataLt_str]
  simp only [PyData.eqv, beq_iff_eq]
  by_cases h1 : (-(b.length : Int)) = -(a.length : Int)
  · rw [if_pos h1]
    have e : a.length = b.length := by omega
    by_cases h2 : b = a
    · subst h2
      simp
    · rw [if_neg h2, not_lt_str]
      have : ¬ b.length < a.length := by omega
      simp [e]
  · rw [if_neg h1]
    by_cases h3 : b.length < a.length
    · have : ¬ (-(b.length : Int)) < -(a.length : Int) := by omega
      simp [h3]
      omega
    · have : (-(b.length : Int)) < -(a.length : Int) := by omega
      simp [this, h3]
      omega
theorem leW_total : TotalLe leW := by
  unfold leW dataLe
  exact sortLe_total _ _ _
theorem str_ext {a b : Str} (h : a.cps.toList = b.cps.toList) : a = b := by
  have hc : a.cps = b.cps := Array.toList_inj.mp h
  cases a
  cases b
  cases hc
  rfl
theorem leW_anti {a b : Str} (h1 : leW a b = true) (h2 : leW b a = true) : a = b := by
  rw [leW_eq] at h1 h2
  have k1 := of_decide_eq_true h1
  have k2 := of_decide_eq_true h2
  have l1 : a.cps.toList ≤ b.cps.toList := by
    rcases k1 with k1 | k1
    · rcases k2 with k2 | k2 <;> omega
    · exact k1.2
  have l2 : b.cps.toList ≤ a.cps.toList := by
    rcases k2 with k2 | k2
    · rcases k1 with k1 | k1 <;> omega
    · exact k2.2
  exact str_ext (List.le_antisymm l1 l2)
/-- the words, each ahead of the next one -/
def ordW (ws : List Str) : List Str := ws.mergeSort leW
theorem ordW_perm (ws : List Str) : (ordW ws).Perm ws := List.mergeSort_perm _ _
theorem ordW_sorted (ws : List Str) : (ordW ws).Pairwise (fun a b => leW a b = true) := sort_pairwise leW_total ws
theorem ordW_congr {ws us : List Str} (h : ws.Perm us) : ordW ws = ordW us := by
  have hp : (ordW ws).Perm (ordW us) := ((ordW_perm ws).trans h).trans (ordW_perm us).symm
  exact List.Perm.eq_of_pairwise (le := fun a b => leW a b = true) (fun a b _ _ h1 h2 => leW_anti h1 h2) (ordW_sorted ws) (ordW_sorted us) hp
theorem ordW_len (ws : List Str) : (ordW ws).length = ws.length := (ordW_perm ws).length_eq
/-- the words of a bag with their numbers, in order -/
def wordsS (s : Bg) : Bg := (ordW (keys s)).map fun w => (w, cf s w)
theorem wordsS_len (s : Bg) : (wordsS s).length = s.length := by
  unfold wordsS
  rw [List.length_map, ordW_len]
  unfold keys
  rw [List.length_map]
/-- two bags with the same numbers have the same words -/
theorem keys_perm {p : Int} {s t : Bg} (gs : Good p s) (gt : Good p t) (h : ∀ w, cf s w = cf t w) : (keys s).Perm (keys t) := by
  refine (List.perm_ext_iff_of_nodup gs.nd gt.nd).mpr fun w => ?_
  rw [cf_ne gs, cf_ne gt, h w]
theorem wordsS_congr {p : Int} {s t : Bg} (gs : Good p s) (gt : Good p t) (h : ∀ w, cf s w = cf t w) : wordsS s = wordsS t := by
  unfold wordsS
  rw [ordW_congr (keys_perm gs gt h)]
  exact List.map_congr_left fun w _ => by rw [h w]
theorem wordsS_keys (s : Bg) : keys (wordsS s) = ordW (keys s) := by
  unfold wordsS keys
  rw [List.map_map]
  exact List.map_id' _
theorem wordsS_nodup {s : Bg} (h : (keys s).Nodup) : (keys (wordsS s)).Nodup := by
  rw [wordsS_keys]
  exact (ordW_perm _).nodup_iff.mpr h
theorem mem_wordsS {s : Bg} {w : Str} {n : Int} : (w, n) ∈ wordsS s ↔ w ∈ keys s ∧ n = cf s w := by
  unfold wordsS
  rw [List.mem_map]
  constructor
  · rintro ⟨u, hu, e⟩
    cases e
    exact ⟨(ordW_perm _).mem_iff.mp hu, rfl⟩
  · rintro ⟨h, rfl⟩
    exact ⟨w, (ordW_perm _).mem_iff.mpr h, rfl⟩
theorem cf_of_mem {s : Bg} {w : Str} {n : Int} (h : (keys s).Nodup) (m : (w, n) ∈ s) : cf s w = n := by
  unfold cf
  rw [getS_of_mem h m]
  rfl
theorem cf_not_mem {s : Bg} {w : Str} (h : w ∉ keys s) : cf s w = 0 := by
  unfold cf
  rw [getS_none.mpr h]
  rfl
theorem cf_wordsS {s : Bg} (h : (keys s).Nodup) (w : Str) : cf (wordsS s) w = cf s w := by
  by_cases hw : w ∈ keys s
  · exact cf_of_mem (wordsS_nodup h) (mem_wordsS.mpr ⟨hw, rfl⟩)
  · rw [cf_not_mem hw, cf_not_mem]
    rw [wordsS_keys]
    exact fun z => hw ((ordW_perm _).mem_iff.mp z)
theorem cf_congr_words {s t : Bg} (hs : (keys s).Nodup) (ht : (keys t).Nodup) (h : wordsS s = wordsS t) (w : Str) : cf s w = cf t w := by
  rw [← cf_wordsS hs, ← cf_wordsS ht, h]

/-! ### partings -/
/-- all ways to part a word in two -/
def parts : List Nat → List (List Nat × List Nat)
  | [] => [([], [])]
  | c :: v => ([], c :: v) :: (parts v).map fun q => (c :: q.1, q.2)
/-- F G at v -/
def conv (F G : List Nat → Int) (v : List Nat) : Int := sumL (parts v) fun q => F q.1 * G q.2
theorem conv_cons (F G : List Nat → Int) (c : Nat) (v : List Nat) : conv F G (c :: v) = F [] * G (c :: v) + conv (fun x => F (c :: x)) G v := by
  unfold conv
  rw [parts, sumL_cons, sumL_map]
theorem conv_nil (F G : List Nat → Int) : conv F G [] = F [] * G [] := by
  unfold conv
  rw [parts, sumL_cons, sumL_nil, Int.add_zero]
theorem conv_addl (F F' G : List Nat → Int) (v : List Nat) : conv (fun x => F x + F' x) G v = conv F G v + conv F' G v := by
  unfold conv
  rw [← sumL_add]
  exact sumL_congr fun q _ => Int.add_mul _ _ _
theorem conv_addr (F G G' : List Nat → Int) (v : List Nat) : conv F (fun x => G x + G' x) v = conv F G v + conv F G' v := by
  unfold conv
  rw [← sumL_add]
  exact sumL_congr fun q _ => Int.mul_add _ _ _
theorem conv_mull (c : Int) (F G : List Nat → Int) (v : List Nat) : conv (fun x => c * F x) G v = c * conv F G v := by
  unfold conv
  rw [← sumL_mul]
  exact sumL_congr fun q _ => Int.mul_assoc _ _ _
theorem conv_mulr (c : Int) (F G : List Nat → Int) (v : List Nat) : conv F (fun x => c * G x) v = c * conv F G v := by
  unfold conv
  rw [← sumL_mul]
  exact sumL_congr fun q _ => by rw [← Int.mul_assoc, Int.mul_comm (F q.1) c, Int.mul_assoc]
theorem conv_assoc (F G K : List Nat → Int) : ∀ v, conv (conv F G) K v = conv F (conv G K) v := by
  intro v
  induction v generalizing F with
  | nil => rw [conv_nil, conv_nil, conv_nil, conv_nil, Int.mul_assoc]
  | cons c v ih =>
    rw [conv_cons, conv_cons (F := F)]
    have e : (fun x => conv F G (c :: x)) = fun x => F [] * G (c :: x) + conv (fun y => F (c :: y)) G x := funext fun x => conv_cons F G c x
    rw [e, conv_addl, conv_mull, ih, conv_nil, conv_cons (F := G), Int.mul_add, Int.mul_assoc, Int.add_assoc]
theorem conv_congr {F F' G G' : List Nat → Int} (h1 : ∀ x, F x = F' x) (h2 : ∀ x, G x = G' x) (v : List Nat) : conv F G v = conv F' G' v := by
  rw [funext h1, funext h2]
theorem sumL_mod {α : Type} (p : Int) {l : List α} {f g : α → Int} (h : ∀ a ∈ l, f a % p = g a % p) : sumL l f % p = sumL l g % p := by
  induction l with
  | nil => rfl
  | cons a l ih =>
    rw [sumL_cons, sumL_cons, Int.add_emod, h a List.mem_cons_self, ih fun b hb => h b (List.mem_cons_of_mem _ hb), ← Int.add_emod]
theorem conv_mod {p : Int} {F F' G G' : List Nat → Int} (h1 : ∀ x, F x % p = F' x % p) (h2 : ∀ x, G x % p = G' x % p) (v : List Nat) : conv F G v % p = conv F' G' v % p := by
  refine sumL_mod p fun q _ => ?_
  rw [Int.mul_emod, h1, h2, ← Int.mul_emod]
def ofL (l : List Nat) : Str := ⟨l.toArray⟩
theorem ofL_toList (w : Str) : ofL w.cps.toList = w := by
  unfold ofL
  rw [Array.toArray_toList]
theorem toList_ofL (l : List Nat) : (ofL l).cps.toList = l := rfl
theorem ofL_inj {a b : List Nat} : ofL a = ofL b ↔ a = b := by
  constructor
  · intro h
    have := congrArg (fun w : Str => w.cps.toList) h
    exact this
  · rintro rfl
    rfl
theorem app_toList (a b : Str) : (a ++ b).cps.toList = a.cps.toList ++ b.cps.toList := by
  show (a.cps ++ b.cps).toList = _
  rw [Array.toList_append]
theorem ofL_app (a b : List Nat) : ofL (a ++ b) = ofL a ++ ofL b := str_ext (by rw [app_toList]; rfl)
theorem app_assoc (a b c : Str) : a ++ b ++ c = a ++ (b ++ c) := str_ext (by rw [app_toList, app_toList, app_toList, app_toList, List.append_assoc])
theorem app_empty (a : Str) : a ++ Str.empty = a := str_ext (by rw [app_toList]; exact List.append_nil _)
theorem empty_app (a : Str) : Str.empty ++ a = a := str_ext (by rw [app_toList]; rfl)
theorem len_app (a b : Str) : (a ++ b).length = a.length + b.length := by
  show (a.cps ++ b.cps).size = _
  rw [Array.size_append]
  rfl
/-- the number of a word told as a list -/
def cl (s : Bg) (l : List Nat) : Int := cf s (ofL l)
/-- one pair of words comes to v at just one parting -/
theorem parts_one (a b : List Nat) (x : Int) : ∀ v, sumL (parts v) (fun q => if a = q.1 ∧ b = q.2 then x else 0) = if a ++ b = v then x else 0 := by
  intro v
  induction v generalizing a with
  | nil =>
    rw [parts, sumL_cons, sumL_nil, Int.add_zero]
    cases a with
    | nil => simp
    | cons c r => simp
  | cons c v ih =>
    rw [parts, sumL_cons, sumL_map]
    cases a with
    | nil =>
      have z : sumL (parts v) (fun q => if ([] : List Nat) = c :: q.1 ∧ b = q.2 then x else 0) = 0 := sumL_zero fun q _ => by simp
      rw [z]
      simp
    | cons d r =>
      by_cases e : d = c
      · subst e
        have z : sumL (parts v) (fun q => if d :: r = d :: q.1 ∧ b = q.2 then x else 0) = sumL (parts v) fun q => if r = q.1 ∧ b = q.2 then x else 0 := sumL_congr fun q _ => by simp
        rw [z, ih]
        simp
      · have z : sumL (parts v) (fun q => if d :: r = c :: q.1 ∧ b = q.2 then x else 0) = 0 := sumL_zero fun q _ => by simp [e]
        rw [z]
        simp [e]
theorem cl_sum {s : Bg} (hn : (keys s).Nodup) (l : List Nat) : cl s l = sumL s fun kv => if kv.1.cps.toList = l then kv.2 else 0 := by
  unfold cl
  rw [← sum_ind hn]
  refine sumL_congr fun kv _ => ?_
  have : kv.1 = ofL l ↔ kv.1.cps.toList = l := by
    constructor
    · intro h; rw [h]; rfl
    · intro h; exact str_ext h
  simp only [this]
/-- products by partings -/
theorem cvS_conv {s t : Bg} (hs : (keys s).Nodup) (ht : (keys t).Nodup) (w : Str) : cvS s t w = conv (cl s) (cl t) w.cps.toList := by
  unfold conv cvS
  have e : ∀ q ∈ parts w.cps.toList, cl s q.1 * cl t q.2 = sumL s fun a => sumL t fun b => if a.1.cps.toList = q.1 ∧ b.1.cps.toList = q.2 then a.2 * b.2 else 0 := by
    intro q _
    rw [cl_sum hs, cl_sum ht, ← sumL_mulr]
    refine sumL_congr fun a _ => ?_
    rw [← sumL_mul]
    refine sumL_congr fun b _ => ?_
    by_cases h1 : a.1.cps.toList = q.1 <;> by_cases h2 : b.1.cps.toList = q.2 <;> simp [h1, h2]
  rw [sumL_congr e, sumL_swap (parts w.cps.toList) s]
  refine sumL_congr fun a _ => ?_
  rw [sumL_swap (parts w.cps.toList) t]
  refine sumL_congr fun b _ => ?_
  rw [parts_one]
  have : a.1 ++ b.1 = w ↔ a.1.cps.toList ++ b.1.cps.toList = w.cps.toList := by
    rw [← app_toList]
    constructor
    · intro h; rw [h]
    · intro h; exact str_ext h
  simp only [this]
theorem cl_prod {p : Int} (hp : 0 < p) {s t : Bg} (hs : (keys s).Nodup) (ht : (keys t).Nodup) (l : List Nat) : cl (prodS p s t) l = conv (cl s) (cl t) l % p := by
  unfold cl
  rw [cf_prod hp, cvS_conv hs ht]
  rfl
theorem cl_plus {p : Int} (hp : 0 < p) {s t : Bg} (hs : Good p s) (ht : (keys t).Nodup) (f : Int) (l : List Nat) : cl (plusS p s t f) l = (cl s l + f * cl t l) % p := cf_plus hp hs ht f _
theorem cl_mod {p : Int} (hp : 0 < p) {s : Bg} (hs : Good p s) (l : List Nat) : cl s l % p = cl s l := cf_mod hp hs _
theorem words_cl {p : Int} {s t : Bg} (gs : Good p s) (gt : Good p t) (h : ∀ l, cl s l = cl t l) : wordsS s = wordsS t :=
  wordsS_congr gs gt fun w => by
    have := h w.cps.toList
    unfold cl at this
    rw [ofL_toList] at this
    exact this
/-- put behind one another in either order of doing -/
theorem prod_assoc {p : Int} (hp : 0 < p) {s t u : Bg} (gs : Good p s) (gt : Good p t) (gu : Good p u) : wordsS (prodS p (prodS p s t) u) = wordsS (prodS p s (prodS p t u)) := by
  have g1 := Good.prod hp s t
  have g2 := Good.prod hp t u
  refine words_cl (Good.prod hp _ _) (Good.prod hp _ _) fun l => ?_
  rw [cl_prod hp g1.nd gu.nd, cl_prod hp gs.nd g2.nd]
  have e1 : conv (cl (prodS p s t)) (cl u) l % p = conv (conv (cl s) (cl t)) (cl u) l % p := conv_mod (fun x => by rw [cl_prod hp gs.nd gt.nd, Int.emod_emod]) (fun _ => rfl) l
  have e2 : conv (cl s) (cl (prodS p t u)) l % p = conv (cl s) (conv (cl t) (cl u)) l % p := conv_mod (fun _ => rfl) (fun x => by rw [cl_prod hp gt.nd gu.nd, Int.emod_emod]) l
  rw [e1, e2, conv_assoc]
end Fp

/-! Rules of our own over the hand layer: defs by name, steps of a reading. -/
namespace Fp
open PySem L2

/-! ### a def of the module, called by its name -/
structure DefOk (P : Program) (w : World) (K : PySem.W.Frag) (mg : Str → Option Value) (base : Heap) (CX : CXT) (k : Nat) (nm : Str) (ps : List Str) (sp : Sp) : Prop where
  ex : ∃ f fd, mg nm = some (.ref f) ∧ PySem.W.keepIn K (.ref f) = true ∧ Binds K fd ps [] ∧ FnOk P w K mg base CX k f fd ps sp
section
variable {X : Cx} {CX : CXT} {k : Nat} {ps : List Str} {sp : Sp} {E : XK} {x : Str} {p pos apos : Pos} {e o : Expr} {es : List Expr} {t : TA} {ta : TE}
theorem pe_callD (D : DefOk X.prog X.w X.K X.mg X.base CX k x ps sp) (hr : Room k X.A) (hg : Gl X x) (hx : Passes CX X E) (ha : PA X (e :: es) t)
    (hdb : (x == ("__debug__" : Str)) = false := by decide) (he : starEach (e :: es) X.env = (false, eval e X.env) :: starEach es X.env := by rfl) (hpl : (backTo pos (starEach es X.env)).any (·.1) = false := by rfl) :
    PE X (.Call (.Name x p) (e :: es) [] pos) (tCall sp [] E t) := by
  obtain ⟨f, fd, hm, hk, hb, F⟩ := D.ex
  exact pe_call F hr hg hm hk hb .nil hx ha hdb he hpl
theorem pe_callD0 (D : DefOk X.prog X.w X.K X.mg X.base CX k x ps sp) (hr : Room k X.A) (hg : Gl X x) (hx : Passes CX X E)
    (hdb : (x == ("__debug__" : Str)) = false := by decide) : PE X (.Call (.Name x p) [] [] pos) (tCall sp [] E tNil) := by
  obtain ⟨f, fd, hm, hk, hb, F⟩ := D.ex
  exact pe_call0 F hr hg hm hk hb .nil hx hdb
/-- C(..) -/
structure MkOk (P : Program) (w : World) (K : PySem.W.Frag) (mg : Str → Option Value) (base : Heap) (CX : CXT) (k : Nat) (nm : Str) (C : Addr) (ps : List Str) (sp : Sp) : Prop where
  ex : ∃ f fd, Mk K C f ∧ mg nm = some (.ref C) ∧ Binds K fd ps [] ∧ FnOk P w K mg base CX k f fd ps sp
theorem pe_mkD {C : Addr} (D : MkOk X.prog X.w X.K X.mg X.base CX k x C ps sp) (hr : Room (k + 1) X.A) (hg : Gl X x) (hx : Passes CX X E) (ha : PA X (e :: es) t)
    (hdb : (x == ("__debug__" : Str)) = false := by decide) (he : starEach (e :: es) X.env = (false, eval e X.env) :: starEach es X.env := by rfl) (hpl : (backTo pos (starEach es X.env)).any (·.1) = false := by rfl) :
    PE X (.Call (.Name x p) (e :: es) [] pos) (tMake C sp [] E t) := by
  obtain ⟨f, fd, M, hm, hb, F⟩ := D.ex
  exact pe_make M F hr hg hm hb .nil hx ha hdb he hpl
/-- o.m(..) -/
structure MtOk (P : Program) (w : World) (K : PySem.W.Frag) (mg : Str → Option Value) (base : Heap) (CX : CXT) (k : Nat) (C : Addr) (m : Str) (ps : List Str) (sp : Sp) : Prop where
  ex : ∃ f fd, Cls K C ∧ Meth K C m f ∧ Binds K fd ps [] ∧ FnOk P w K mg base CX k f fd ps sp
theorem pe_mtD {pl : Sem Bool} {C : Addr} {m : Str} (D : MtOk X.prog X.w X.K X.mg X.base CX k C m ps sp) (hr : Room k X.A) (hx : Passes CX X E) (he : PE X o ta) (ha : PA X (e :: es) t)
    (hst : starEach (e :: es) X.env = (false, eval e X.env) :: starEach es X.env := by rfl) (hpl : (backTo pos (starEach es X.env)).any (·.1) = false := by rfl)
    (ht : eval (.Call (.Attribute o m apos) (e :: es) [] pos) X.env = (do
      let ov ← eval o X.env
      standAt apos.atName
      let (f, first) ← holding [ov] (getMethod ov m pl)
      callWith pos f first (backTo pos (starEach (e :: es) X.env)) (backToKw pos (keywordEach [] X.env))) := by rfl) :
    PE X (.Call (.Attribute o m apos) (e :: es) [] pos) (tMeth C m sp [] E ta t) := by
  obtain ⟨f, fd, c, hm, hb, F⟩ := D.ex
  exact pe_meth he c hm F hr hb .nil hx ha hst hpl ht
/-- a callee that may raise, called where it does not -/
theorem passX0 {P : Program} {w : World} {X : Cx} : Passes (L2.CX P w) X E0 := fun _ _ _ _ _ _ _ h => by
  obtain ⟨_, _, _, _, _, _, _, _, _, _, _, _, q⟩ := h
  exact q.elim

/-! ### a loop over a dict that may be locked already -/
def tLockR (t : TS) : TS := fun D σ H => tLock t D σ H ∨ t D σ H
theorem ps_lockR {st : Stmt} {t : TS} (h : PS X st t) : PS X st (tLockR t) := ⟨fun pins s σ H D I q => q.elim ((ps_lock h).run pins s σ H D I) (h.run pins s σ H D I)⟩
def tLockRE (t : TE) : TE := fun σ H Q => tLockE t σ H Q ∨ t σ H Q
theorem pe_lockR {t : TE} (h : PE X e t) : PE X e (tLockRE t) := ⟨fun pins s σ H Q I q => q.elim ((pe_lock h).run pins s σ H Q I) (h.run pins s σ H Q I)⟩

/-! ### displays of dicts -/
end
/-- len of a list, a tuple, a text, a dict -/
def rLenA (K : PySem.W.Frag) : List V → Hp → VK → Prop := fun xs H Q => (∃ x n, xs = [x] ∧ LenV K x H n ∧ Q (.int n) H) ∨ (∃ a kvs, xs = [V.ref a] ∧ H a = some (.dK kvs) ∧ Q (.int kvs.length) H)
theorem call_lenA {X : Cx} : CallR X (.builtin "len") (rLenA X.K) := CallR.or call_len call_lenD

/-! ### what stands -/
def Ex (H H' : Hp) : Prop := ∀ a o, H a = some o → H' a = some o
theorem Ex.refl (H : Hp) : Ex H H := fun _ _ h => h
theorem Ex.trans {H H1 H2 : Hp} (a : Ex H H1) (b : Ex H1 H2) : Ex H H2 := fun x o h => b x o (a x o h)
theorem Ex.new {H : Hp} {p : Addr} {o : HO} (h : H p = none) : Ex H (upd H p o) := fun a u e => by
  rw [upd_ne (ne_of_none e h)]
  exact e
theorem Ex.free {H H' : Hp} (e : Ex H H') {p : Addr} (h : H' p = none) : H p = none := by
  cases q : H p with
  | none => rfl
  | some o => rw [e p o q] at h; cases h
/-- a new object may change -/
theorem Ex.mut {H H' : Hp} {p : Addr} {o : HO} (e : Ex H H') (h : H p = none) : Ex H (upd H' p o) := fun a u q => by
  rw [upd_ne (ne_of_none q h)]
  exact e a u q
theorem Ex.rd {H H' : Hp} {a : Addr} {u : HO} (e : Ex H H') (h : Rd H a u) : Rd H' a u := by
  rcases h with h | ⟨o, h⟩
  · exact .inl (e a _ h)
  · exact .inr ⟨o, e a _ h⟩
theorem Ex.sql {K : PySem.W.Frag} {H H' : Hp} {a : Addr} {xs : List V} (e : Ex H H') (h : SqL K H a xs) : SqL K H' a xs := h.elim (fun h => .inl (e.rd h)) .inr
theorem Ex.sqt {K : PySem.W.Frag} {H H' : Hp} {a : Addr} {xs : List V} (e : Ex H H') (h : SqT K H a xs) : SqT K H' a xs := h.elim (fun h => .inl (e.rd h)) .inr

/-! ### steps of a reading -/
/-- what a list comprehension over J asks -/
def LcG (J : It) (g : TG) (tt : TT) (te : TE) (vs : List Nat) (σ : St) (H1 : Hp) (Q : VK) : Prop := ∀ D, H1 D = none → ∃ W : Nat → Nat → Hp → Prop, (∃ m, W 0 m (upd H1 D (.lst []))) ∧ ∀ i m H, W i m H →
      (J.stop i H ∧ Q (.ref D) H) ∨ (J.go i H ∧ ∃ Nx : Hp → Prop, (∀ H', Nx H' → ∃ m', m' < m ∧ W (i + 1) m' H') ∧ ∀ x H', J.yld i H x H' → g x (wipe σ vs) H' fun σ2 H2 => wipe σ2 vs = wipe σ vs ∧ tt σ2 H2 fun b H3 =>
        if b = true then te σ2 H3 fun y H4 => ∃ acc, H4 D = some (.lst acc) ∧ acc.length < sizeLine ∧ Nx (upd H4 D (.lst (acc ++ [y]))) else Nx H3)
/-- what a loop over J asks -/
def ForG (J : It) (g : TG) (t : TS) (D : Ends) (σ : St) (H1 : Hp) : Prop := ∃ W : Nat → Nat → St → Hp → Prop, (∃ m, W 0 m σ H1) ∧ ∀ i m σ H, W i m σ H →
  (J.stop i H ∧ D.nx σ H) ∨ (J.go i H ∧ ∃ N : St → Hp → Prop, (∀ σ' H', N σ' H' → ∃ m', m' < m ∧ W (i + 1) m' σ' H') ∧ ∀ x H', J.yld i H x H' → g x σ H' fun σ2 H2 => t { D with nx := N, ct := N, bk := D.nx } σ2 H2)
section
variable {σ : St} {H H1 : Hp} {Q : VK} {D : Ends} {i : Nat} {v x y : V} {ta tb te tc : TE} {K : PySem.W.Frag} {tt tu : TT} {t u : TS} {QB : Bool → Hp → Prop}
theorem g_seq (h : t { D with nx := u D } σ H) : tSeq t u D σ H := h
theorem g_next (h : D.nx σ H) : tNext D σ H := h
theorem g_asg {g : TG} (h : te σ H fun x H1 => g x σ H1 D.nx) : tAsg te g D σ H := h
theorem g_name {QS : St → Hp → Prop} (h : QS (σ.set i (some v)) H) : gName i v σ H QS := h
theorem g_ret (h : te σ H D.rt) : tRet te D σ H := h
theorem g_retN (h : D.rt .non H) : tRetN D σ H := h
theorem g_drop (h : te σ H fun _ H1 => D.nx σ H1) : tDrop te D σ H := h
theorem g_ifs {c : TT} (h : c σ H fun b H1 => if b = true then t D σ H1 else u D σ H1) : tIfS c t u D σ H := h
theorem g_var (e : σ[i]? = some (some v)) (h : Q v H) : tVar i σ H Q := ⟨v, e, h⟩
theorem g_c (h : Q v H) : tC v σ H Q := h
theorem g_op {r : R2} (h : ta σ H fun x H1 => tb σ H1 fun y H2 => r x y H2 Q) : tOp r ta tb σ H Q := h
theorem g_un {r : V → Hp → VK → Prop} (h : ta σ H fun x H1 => r x H1 Q) : tUn r ta σ H Q := h
theorem g_I0 {g : Int → Int → V} {a b : Int} (h : Q (g a b) H) : rI0 g (.int a) (.int b) H Q := ⟨a, b, rfl, rfl, h⟩
theorem g_I {C : Int → Int → Prop} {g : Int → Int → V} {a b : Int} (c : C a b) (h : Q (g a b) H) : rI C g (.int a) (.int b) H Q := ⟨a, b, rfl, rfl, c, h⟩
theorem g_U {g : Int → V} {a : Int} (h : Q (g a) H) : rU g (.int a) H Q := ⟨a, rfl, h⟩
theorem g_eq (s : scal x y = true) (h : Q (.bl (decide (x = y))) H) : rEq x y H Q := ⟨s, h⟩
theorem g_ne (s : scal x y = true) (h : Q (.bl (!decide (x = y))) H) : rNe x y H Q := ⟨s, h⟩
theorem g_test (h : te σ H fun x H' => ∃ k, x = .bl k ∧ QB k H') : tTest te σ H QB := h
theorem g_tB (h : te σ H fun x H' => ∃ k, x = .bl k ∧ QB k H') : tB te σ H QB := h
theorem g_bl {b : Bool} {R : Bool → Prop} (h : R b) : ∃ k, (V.bl b) = .bl k ∧ R k := ⟨b, rfl, h⟩
theorem g_and (h : tt σ H fun c H1 => if c = true then tu σ H1 QB else QB false H1) : tAnd tt tu σ H QB := h
theorem g_or (h : tt σ H fun c H1 => if c = true then QB true H1 else tu σ H1 QB) : tOr tt tu σ H QB := h
theorem g_not (h : tt σ H fun c H1 => QB (!c) H1) : tNot tt σ H QB := h
theorem g_andV (h : ta σ H fun x H1 => ∃ c, x = .bl c ∧ if c = true then tb σ H1 Q else Q (.bl false) H1) : tAndV ta tb σ H Q := h
theorem g_orV (h : ta σ H fun x H1 => ∃ c, x = .bl c ∧ if c = true then Q (.bl true) H1 else tb σ H1 Q) : tOrV ta tb σ H Q := h
theorem g_notV (h : ta σ H fun x H1 => ∃ c, x = .bl c ∧ Q (.bl (!c)) H1) : tNotV ta σ H Q := h
theorem g_if (h : tt σ H fun c H1 => if c = true then ta σ H1 Q else tb σ H1 Q) : tIf tt ta tb σ H Q := h
theorem g_nil {QA : List V → Hp → Prop} (h : QA [] H) : tNil σ H QA := h
theorem g_cons {tr : TA} {QA : List V → Hp → Prop} (h : ta σ H fun x H1 => tr σ H1 fun xs H2 => QA (x :: xs) H2) : tCons ta tr σ H QA := h
theorem g_cb {r : List V → Hp → VK → Prop} {tA : TA} (h : tA σ H fun vs H1 => r vs H1 Q) : tCB r tA σ H Q := h
theorem g_call {sp : Sp} {E : XK} {tA : TA} (h : tA σ H fun vs H1 => sp (vs ++ []) H1 Q E) : tCall sp [] E tA σ H Q := h
theorem g_ite {b : Bool} {A B : Prop} (h1 : b = true → A) (h2 : b = false → B) : if b = true then A else B := by
  cases b with
  | true => rw [if_pos rfl]; exact h1 rfl
  | false => rw [if_neg Bool.false_ne_true]; exact h2 rfl
theorem g_ift {b : Bool} {A B : Prop} (hb : b = true) (h : A) : if b = true then A else B := by rw [if_pos hb]; exact h
theorem g_iff {b : Bool} {A B : Prop} (hb : b = false) (h : B) : if b = true then A else B := by rw [hb, if_neg Bool.false_ne_true]; exact h
theorem g_itT {A B : Prop} (h : A) : if true = true then A else B := by rw [if_pos rfl]; exact h
theorem g_itF {A B : Prop} (h : B) : if false = true then A else B := by rw [if_neg Bool.false_ne_true]; exact h
theorem g_lc {wi : TI} {g : TG} {te : TE} {vs : List Nat} (h : wi σ H fun J H1 => LcG J g tt te vs σ H1 Q) : tLc wi g tt te vs σ H Q := h
theorem g_yes (h : QB true H) : tYes σ H QB := h
theorem g_iStr {R : It → Hp → Prop} (h : te σ H fun v H1 => ∃ x, v = .str x ∧ R (Its x) H1) : iStr te σ H R := h
theorem g_exs {z : Str} {R : Str → Prop} (h : R z) : ∃ x, (V.str z) = .str x ∧ R x := ⟨z, rfl, h⟩
theorem g_lst {tA : TA} (h : tA σ H fun xs H1 => xs.length ≤ sizeLine ∧ ∀ p, H1 p = none → Q (.ref p) (upd H1 p (.lst xs))) : tLst tA σ H Q := h
theorem g_tup {tA : TA} (h : tA σ H fun xs H1 => xs.length ≤ sizeLine ∧ ∀ p, H1 p = none → Q (.ref p) (upd H1 p (.tup xs))) : tTup tA σ H Q := h
end
end Fp

/-! sorted by the key (-len(word), word). -/
namespace Fp
open PySem L2 PySem.W
section
variable {X : L2.Cx} {wn nm qual : Str} {st : PySem.Stmt} {f : Addr} {fd : FuncData} {pins : List (Addr × Obj)} {σ : St} {H : Hp} {s : Shared} {p1 p2 p3 p4 p5 p6 p7 : Pos} 
theorem ahead_call {kk : _} (F : Fun X.K nm qual st f fd) (S : FnScope [wn] [wn] (defScope st))
    (hbody : defBody st = [.Return (some (.Tuple [.UnaryOp .USub (.Call (.Name "len" p1) [.Name wn p2] [] p3) p4, .Name wn p5] kk p6)) p7])
    (hwn : (defScope st).names.lookup wn = some .local) (hlen : (defScope st).names.lookup ("len" : Str) = some .globalImplicit) (hwd : (wn == ("__debug__" : Str)) = false) (bn : Binds X.K fd [wn] []) (bl : X.mg "len" = none) (I : Inv X pins σ H s) {A' : Around} (hr : Room 1 A')
    (x : Str) (t : Tok) (hx : x.length ≤ sizeLine) (h : Heap) (tk : Nat) (keep : ∀ b o, s.heap.get? b = some o → h.get? b = some o) :
    wpAny (model X.prog X.w) A' (call (.ref f) [.str x t]) (KeyPure (keyD x) { s with heap := h, toks := tk }) (fun _ _ => False) { s with heap := h, toks := tk } := by
  obtain ⟨oc, od, kV, doc, pm, an, cdv, ct, osl, rfl, lk, hcd⟩ := F.ex
  have KX : X.K.In h := I.kIn.keeps keep
  have lim : h.NoLimit := I.nolimit.keeps keep
  have hb := bn { s with heap := h, toks := tk } [.str x t] KX rfl
  refine wpAny_call (codeAny_call_function hr.depth (KX _ _ lk) rfl S.co S.gen rfl (PySem.W.codeRec_of KX hcd) (hb _ _ _ _ ?_))
  have hkind : ∀ y ∈ [wn].zip ([Value.str x t] ++ []), (defScope st).names.lookup y.1 = some .local ∨ ((defScope st).names.lookup y.1 = some .cell ∧ ((cellsFrom (h.objs.size + 1) (defScope st).names []).lookup y.1).isSome = true) := fun y hy => by
    have e : y = (wn, Value.str x t) := by simpa using hy
    rw [e]
    exact .inl hwn
  refine wpAny_newFunctionEnv_cells S.kind hkind fun env he s1 xx => ?_
  obtain ⟨h1, tk1, rfl, hk1⟩ := xx.done
  have hns := xx.toInCall.ns
  refine ⟨lim.keeps hk1, codeAny_func ?_⟩
  have henv : env.scope = defScope st ∧ env.globals = mainGlobals ∧ env.builtins = builtinsNs := by rw [he]; exact ⟨rfl, rfl, rfl⟩
  obtain ⟨e1, e2, e3⟩ := henv
  have kw : env.kindOf wn = some .local := by unfold Env.kindOf; rw [e1]; exact hwn
  have kl : env.kindOf "len" = some .globalImplicit := by unfold Env.kindOf; rw [e1]; exact hlen
  have mw : bindL env.kindOf ([wn].zip ([Value.str x t] ++ [])) (fun _ => none) wn = some (.str x t) := by
    show bindL env.kindOf [(wn, Value.str x t)] (fun _ => none) wn = _
    unfold bindL
    simp [bindL, kw]
  have keep1 : ∀ b o, s.heap.get? b = some o → h1.get? b = some o := fun b o q => hk1 b o (keep b o q)
  obtain ⟨mb, b1, b2⟩ := I.mod.blt
  rw [hbody]
  refine wpAny_execs_cons (wpAny_Return_some (wpAny_Tuple_spliced ?_))
  refine Calls.spliced_cons (PyProof.Rows.UnaryOp_ (wpAny_Call_Name_kw (Calls.Name_function_global (by rw [e1]; exact S.kind) kl (Calls.loadGlobal_builtin (by rw [e2]; exact I.mod.glob.keeps fun b o q => keep1 b o (I.bk b o q)) bl
    (by rw [e3]; exact b1.keeps fun b o q => keep1 b o (I.bk b o q)) ((b2 ("len" : Str) (by decide)).trans PySem.boot_len) ?_))))
  refine PyProof.Rows.callWith_builtin1 (Calls.spliced_cons (wpAny_Name (wpAny_loadName_local (by rw [e1]; exact S.kind) kw hns mw (Calls.spliced_nil ?_)) hwd))
  have hn := L2.line63
  refine PyProof.Rows.len_str (by omega) (PyProof.Rows.neg_int ?_)
  refine Calls.spliced_cons (wpAny_Name (wpAny_loadName_local (by rw [e1]; exact S.kind) kw hns mw (Calls.spliced_nil ⟨by show 2 ≤ sizeLine; decide, ?_⟩)) hwd)
  refine ⟨_, _, rfl, fun b o q => Heap.get?_push_of_some _ (hk1 b o q), ?_⟩
  exact .tuple (o := { cls := .type "tuple", data := .seq #[.int (-(x.length : Int)) _, .str x t] }) (Heap.get?_push_size _ rfl) rfl rfl (.cons (.int _ _) (.cons (.str _ _) .nil))
end
end Fp

namespace Fp
open PySem L2 PySem.W
section
variable {X : L2.Cx} {wn nm qual : Str} {st : PySem.Stmt} {f : Addr} {fd : FuncData} {p1 p2 p3 p4 p5 p6 p7 : Pos}
theorem keyD_alike (b b' : Str) : alike (keyD b) (keyD b') = true := by simp [keyD, alike, alikeAll]
theorem keyD_depth (b : Str) : (keyD b).depth ≤ 1 := by simp [keyD, PyData.depth, PyData.depthAll]
theorem each_strs {ws : List Str} {its : List Value} (r : Vals (ws.map V.str) its) : EachIs (fun v x => ∃ t, v = Value.str x t) its ws := by
  induction ws generalizing its with
  | nil => cases r; exact .nil
  | cons w ws ih =>
    cases r with
    | cons r1 r2 => exact .cons r1 (ih r2)
theorem vals_each {ws : List Str} {its : List Value} (r : EachIs (fun v x => ∃ t, v = Value.str x t) its ws) : Vals (ws.map V.str) its := by
  induction r with
  | nil => exact .nil
  | cons h _ ih => exact .cons h ih
/-- what sorted(xs, key=f) asks, f telling (-len(word), word) -/
def rSortedKey (K : PySem.W.Frag) (f : Addr) : List V → List V → Hp → VK → Prop := fun vs zs H Q => ∃ (a : Addr) (ws : List Str), vs = [V.ref a] ∧ zs = [V.ref f] ∧ SqL K H a (ws.map V.str) ∧ (∀ w ∈ ws, w.length ≤ sizeLine) ∧
  ∀ p, H p = none → Q (.ref p) (upd H p (.lst ((ordW ws).map V.str)))
theorem cr_sortedKey {kk : _} (F : Fun X.K nm qual st f fd) (S : FnScope [wn] [wn] (defScope st))
    (hbody : defBody st = [.Return (some (.Tuple [.UnaryOp .USub (.Call (.Name "len" p1) [.Name wn p2] [] p3) p4, .Name wn p5] kk p6)) p7])
    (hwn : (defScope st).names.lookup wn = some .local) (hlen : (defScope st).names.lookup ("len" : Str) = some .globalImplicit) (hwd : (wn == ("__debug__" : Str)) = false) (bn : L2.Binds X.K fd [wn] []) (bl : X.mg "len" = none) (hr : Room 3 X.A) :
    CallRK X (.builtin "sorted") [Str.ofString "key"] (rSortedKey X.K f) := by
  intro pins s σ H vs zs us ws Q I r rz h
  obtain ⟨a, xs, rfl, rfl, hs, hx, q⟩ := h
  obtain rfl := Vals.ref1 r
  obtain ⟨w1, rfl, e1⟩ := vals1 rz
  obtain rfl : w1 = Value.ref f := e1
  obtain ⟨its, rv, hl, hz⟩ := I.list hs
  rw [List.length_map] at hz
  refine PySem.W.sorted_key_data (R := fun v x => ∃ t, v = Value.str x t) (bs := xs) (b := false) keyD hl.isList (each_strs rv) (AllAlike.of keyD_alike) (Sortable.tuples fun b => ⟨_, _, rfl⟩) hz (fun x _ => ?_) (PyProof.Rows.ksk_s1 _ _) (fun x => PyProof.Rows.ksk_l1 _ _) (fun x => PyProof.Rows.ksk_t1 f x) (fun v x hv hm h tk kk => ?_) (fun out c h' tk keep _ hget hlen ho => ?_)
  · have := hr.un
    have := keyD_depth x
    omega
  · obtain ⟨t, rfl⟩ := hv
    exact ahead_call F S hbody hwn hlen hwd bn bl I hr.in1.in1 x t (hx x hm) h tk kk
  · have hl2 : ((ordW xs).map V.str).length ≤ sizeLine := by rw [List.length_map, ordW_len]; exact hz
    exact ⟨.ref _, upd H (s.heap.objs.size + 1) (.lst ((ordW xs).map V.str)), I.laid (t' := tk) keep (Nat.le_succ _) ⟨hl2, out, c, vals_each ho, hget⟩, rfl, q _ (I.hok.fresh (Nat.le_succ _))⟩
/-- sorted of a list of pairs (-len(word), word) -/
def rSortedW (K : PySem.W.Frag) : List V → Hp → VK → Prop := fun vs H Q => ∃ (a : Addr) (bs : List (Addr × Str)), vs = [V.ref a] ∧ SqL K H a (bs.map fun b => V.ref b.1) ∧ (∀ b ∈ bs, SqT K H b.1 [.int (-(b.2.length : Int)), .str b.2]) ∧
  ∀ (bs' : List (Addr × Str)) p, bs'.map (·.2) = ordW (bs.map (·.2)) → (∀ b ∈ bs', b ∈ bs) → H p = none → Q (.ref p) (upd H p (.lst (bs'.map fun b => V.ref b.1)))
theorem each_refs {bs : List (Addr × Str)} {its : List Value} (r : Vals (bs.map fun b => V.ref b.1) its) : EachIs (fun v b => v = Value.ref b.1) its bs := by
  induction bs generalizing its with
  | nil => cases r; exact .nil
  | cons w ws ih =>
    cases r with
    | cons r1 r2 => exact .cons r1 (ih r2)
theorem refs_each {bs : List (Addr × Str)} {its : List Value} (r : EachIs (fun v b => v = Value.ref b.1) its bs) : Vals (bs.map fun b => V.ref b.1) its := by
  induction r with
  | nil => exact .nil
  | cons h _ ih => exact .cons h ih
theorem eachIs_imp {α : Type} {R R' : Value → α → Prop} {vs : List Value} {bs : List α} (r : EachIs R vs bs) (h : ∀ v b, b ∈ bs → R v b → R' v b) : EachIs R' vs bs := by
  induction r with
  | nil => exact .nil
  | cons h1 _ ih => exact .cons (h _ _ List.mem_cons_self h1) (ih fun v b hb => h v b (List.mem_cons_of_mem _ hb))
theorem cr_sortedW (hu : X.A.units + 64 < cLine) : CallR X (.builtin "sorted") (rSortedW X.K) := by
  intro pins s σ H vs us Q I r h
  obtain ⟨a, bs, rfl, hs, hx, q⟩ := h
  obtain rfl := Vals.ref1 r
  obtain ⟨its, rv, hl, hz⟩ := I.list hs
  rw [List.length_map] at hz
  have ep := each_refs rv
  have er : EachIs (fun v (b : Addr × Str) => ∃ as, Reads s.heap v (keyD b.2) as) its bs := eachIs_imp ep fun v b hb hv => by
    subst hv
    obtain ⟨us2, r2, ⟨o, ho, hc, n, hd⟩, _⟩ := I.tuple (hx b hb)
    obtain ⟨u1, u2, rfl, ⟨t1, rfl⟩, ⟨t2, rfl⟩⟩ := vals2 r2
    exact ⟨_, .tuple ho hc hd (.cons (.int _ _) (.cons (.str _ _) .nil))⟩
  refine PySem.W.sorted_data (R := fun v b => v = Value.ref b.1) (bs := bs) (enc := fun b => keyD b.2) hl.isList ep er (AllAlike.of fun b b' => keyD_alike b.2 b'.2) (Sortable.tuples fun b => ⟨_, _, rfl⟩) hz (fun b _ => ?_) (fun out hlen ho => ?_)
  · have := keyD_depth b.2
    omega
  · have e1 : (bs.mergeSort (dataLe false fun b => keyD b.2)).map (·.2) = ordW (bs.map (·.2)) := sort_maps (s := leW) (fun b : Addr × Str => b.2) fun _ _ _ _ => rfl
    have hl2 : ((bs.mergeSort (dataLe false fun b => keyD b.2)).map fun b => V.ref b.1).length ≤ sizeLine := by rw [List.length_map, (List.mergeSort_perm _ _).length_eq]; exact hz
    obtain ⟨ep2, he'⟩ := PyProof.Rows.sortedAll_at s.heap its (List.toArray out)
    exact ⟨.ref _, upd H (s.heap.objs.size + 1) (.lst ((bs.mergeSort (dataLe false fun b => keyD b.2)).map fun b => V.ref b.1)), I.laid (t' := s.toks) (fun _ _ => PyProof.Rows.sortedAll_old) (Nat.le_succ _) ⟨hl2, out, ep2, refs_each ho, he'⟩, rfl, q _ _ e1 (fun b hb => (List.mergeSort_perm _ _).mem_iff.mp hb) (I.hok.fresh (Nat.le_succ _))⟩
end
end Fp

/-! == and != of instances with the text's own __eq__, whatever stands on the right. -/
namespace Fp
open PySem PySem.W
section
variable {prog : Program} {w : World} {A : Around} {E : Value → Shared → Prop} {s : Shared} {K : Frag} {x C f : Addr} {ox : Obj} {od : Option Obj} {name : Str} {b tb : Value}
theorem ifBoundB {M : Model} {args : List Value} {id : String} {Q : Option Value → Shared → Prop} (X : K.In s.heap) (I : InstAt s.heap x ox C od) (hs : findIn K (.ref C) name = some (some (.builtin id)))
    (hb : ∀ self, bindSpecial (.builtin id) self = pure (.builtin id, [self]))
    (h : wpAny M A (call (.builtin id) (.ref x :: args)) (fun v => Q (some v)) E s) : wpAny M A (callSpecialIfBound? (.ref x) name args) Q E s := by
  simp only [callSpecialIfBound?, bindSpecialIfBound?]
  refine wpAny_holding (wpAny_bind (wpAny_bind (wpAny_bind (I.type.here ((looks_findIn X hs).here ?_)))))
  simp only [hb]
  refine wpAny_bind (wpAny_askSetting (wpAny_ite ?_))
  have fin : wpAny M A (call (.builtin id) ([.ref x] ++ args) >>= fun v => pure (some v)) Q E s := wpAny_bind (wpAny_mono h (fun v s' h' => wpAny_pure h') fun _ _ h' => h')
  split
  · exact wpAny_bind (wpAny_pure (wpAny_pure fin))
  · exact wpAny_tryCatch (wpAny_bind (wpAny_pure (wpAny_pure fin)))
theorem ne_body (hu : A.units < cLine) (X : K.In s.heap) (I : InstAt s.heap x ox C od) (hs : findIn K (.ref C) "__eq__" = some (some (.ref f))) (hf : isFn K (.ref f) = true) {Q : PySem.Fin → Shared → Prop}
    (hcall : wpAny (model prog w) A (call (.ref f) [.ref x, b]) (fun v s' => ∃ c, v = .bool c ∧ Q (.done (.ret (.bool (!c)))) s') E s) :
    wpAny (model prog w) A (Builtin.«object.__ne__» ⟨[.ref x, b], []⟩) Q E s := by
  obtain ⟨h, g, d, t, os⟩ := s
  unfold Builtin.«object.__ne__»
  repeat (first
    | with_reducible refine wpAny_cRoomFor hu ?_
    | (refine wpAny_bind (m := callSpecialIfBound? (.ref x) (Str.ofString "__eq__") [b])
        (ifBound_K X I hs hf (wpAny_mono hcall (fun r s' hr => by
          obtain ⟨c, rfl, hq⟩ := hr
          repeat (first | exact hq | exact wpAny_pure hq | exact wpAny_truthy_bool hq | (refine wpAny_bind (m := truthy (.bool _)) (wpAny_truthy_bool ?_)) | wp_step)) fun _ _ e => e)))
    | wp_step)
theorem try_eq (X : K.In s.heap) (I : InstAt s.heap x ox C od) (hs : findIn K (.ref C) "__eq__" = some (some (.ref f))) (hf : isFn K (.ref f) = true) {Q : Value → Shared → Prop}
    (hcall : wpAny (model prog w) A (call (.ref f) [.ref x, b]) (fun v s' => ∃ c, v = .bool c ∧ Q (.bool c) s') E s) :
    wpAny (model prog w) A (tryCompare (.ref x) "__eq__" b) (fun r s' => ∃ v, r = some v ∧ Q v s') E s := by
  unfold tryCompare
  refine wpAny_bind (ifBound_K X I hs hf (wpAny_mono hcall (fun v s' hv => ?_) fun _ _ e => e))
  obtain ⟨c, rfl, hq⟩ := hv
  exact wpAny_pure ⟨_, rfl, hq⟩
theorem try_ne (hu : A.units + 1 < cLine) (X : K.In s.heap) (I : InstAt s.heap x ox C od) (hs : findIn K (.ref C) "__eq__" = some (some (.ref f))) (hf : isFn K (.ref f) = true)
    (hn : findIn K (.ref C) "__ne__" = some (some (.builtin "object.__ne__"))) (hm : mroIn K C (.type "object") = some true) {Q : Value → Shared → Prop}
    (hcall : wpAny (model prog w) A.in1 (call (.ref f) [.ref x, b]) (fun v s' => ∃ c, v = .bool c ∧ Q (.bool (!c)) s') E s) :
    wpAny (model prog w) A (tryCompare (.ref x) "__ne__" b) (fun r s' => ∃ v, r = some v ∧ Q v s') E s := by
  unfold tryCompare
  have hinst : Looks (model prog w) s.heap (isInstance (.ref x) (.type "object")) true := I.type.andThen (looks_mroIn X hm)
  refine wpAny_bind (ifBoundB X I hn F.cmp_object.ne.bind (wpAny_call (codeAny_call_builtin F.cmp_object.ne.plain F.cmpEntry_ne
    (check_slot F.cmpKind_ne F.cmpSplit_ne hinst (F.cmpArgs_ne _ _) (ne_body (A := A.in1) hu X I hs hf (wpAny_mono hcall (fun v s' hv => ?_) fun _ _ e => e))))))
  obtain ⟨c, rfl, hq⟩ := hv
  first | exact ⟨c, rfl, wpAny_pure ⟨_, rfl, hq⟩⟩ | exact ⟨c, rfl, _, rfl, wpAny_pure ⟨_, rfl, hq⟩⟩
theorem rich_x {op : CmpOp} {L : Addr} {Q : Value → Shared → Prop} (hu : A.units < cLine) (X : K.In s.heap) (I : InstAt s.heap x ox C od) (hb : Looks (model prog w) s.heap (typeOf b) tb) (hn : notFirst K C tb = true)
    (one : wpAny (model prog w) A (tryCompare (.ref x) (cmpInfo op).2.1 b) (fun r s' => ∃ v, r = some v ∧ Q v s') E s) : wpAny (model prog w) A (richCompare op (.ref x) b) Q E s := by
  unfold richCompare
  simp only [oneThing_ref]
  refine wpAny_holding (wpAny_bind (wpAny_cRoomFor hu ?_))
  refine wpAny_bind (I.type.here (wpAny_bind (hb.here ?_)))
  split
  · rename_i q
    have e : subIn K tb (.ref C) = some false := by
      rcases Bool.or_eq_true_iff.mp hn with e | e
      · rw [beq_iff_eq.mp e] at q; simp at q
      · exact beq_iff_eq.mp e
    refine wpAny_bind ((looks_subIn X e).here ?_)
    simp only [Bool.false_eq_true, if_false]
    refine wpAny_bind (wpAny_mono one (fun r s' z => ?_) fun _ _ e => e)
    obtain ⟨v, rfl, hq⟩ := z
    exact wpAny_pure hq
  · refine wpAny_bind (wpAny_pure ?_)
    simp only [Bool.false_eq_true, if_false]
    refine wpAny_bind (wpAny_mono one (fun r s' z => ?_) fun _ _ e => e)
    obtain ⟨v, rfl, hq⟩ := z
    exact wpAny_pure hq
theorem rich_refl {op : CmpOp} {Dd : Addr} {Q : Value → Shared → Prop} (hu : A.units < cLine) (X : K.In s.heap) (I : InstAt s.heap x ox C od) (hb : Looks (model prog w) s.heap (typeOf b) (.ref Dd)) (hne : Dd ≠ C) (hs : subIn K (.ref Dd) (.ref C) = some true)
    (one : wpAny (model prog w) A (tryCompare b (cmpInfo op).2.2 (.ref x)) (fun r s' => ∃ v, r = some v ∧ Q v s') E s) : wpAny (model prog w) A (richCompare op (.ref x) b) Q E s := by
  unfold richCompare
  simp only [oneThing_ref]
  refine wpAny_holding (wpAny_bind (wpAny_cRoomFor hu ?_))
  refine wpAny_bind (I.type.here (wpAny_bind (hb.here ?_)))
  have q : (Value.ref C != Value.ref Dd) = true := by simp; exact fun z => hne z.symm
  rw [if_pos q]
  refine wpAny_bind ((looks_subIn X hs).here ?_)
  simp only [if_true]
  refine wpAny_bind (wpAny_mono one (fun r s' z => ?_) fun _ _ e => e)
  obtain ⟨v, rfl, hq⟩ := z
  repeat (first | exact hq | exact wpAny_pure hq | wp_step)
end
section
open L2
variable {X : L2.Cx} {n : Nat} {f : Addr} {fd : FuncData} {ps : List Str} {sp : L2.Sp} {CX : L2.CXT}
/-- the own def, called by the interpreter -/
theorem run_fnA {A : Around} {pins : List (Addr × Obj)} {σ : L2.St} {H : Hp} {s : Shared} {Q : VK} {us : List Value} {vs : List V} {E : XK} (sb : L2.Sub X n A) (Fo : L2.FnOk X.prog X.w X.K X.mg X.base CX n f fd ps sp) (hb : L2.Binds X.K fd ps []) (hx : L2.Passes CX X E)
    (I : Inv X pins σ H s) (r : Vals vs us) (h : sp vs H Q E) : wpAny (model X.prog X.w) A (call (.ref f) us) (EP X pins σ Q) X.xe s := by
  have hl := Fo.len _ _ _ _ h
  have e0 : Env0 X.prog X.w X.K X.mg X.base A X.stack s H := by
    have e := I.env0
    exact ⟨by rw [sb.fr]; exact e.frames, e.mod, e.bs, e.bsz, e.funs, e.frf, e.hok, e.bare⟩
  have hlu : us.length = ps.length := by rw [← r.length]; exact hl
  refine wpAny_call (codeAny_mono (Fo.run A X.stack s H ⟨us, []⟩ us vs Q E sb.room e0 (by
    have := hb s us I.kIn (by simpa using hlu)
    simpa using this) r h) fun r s' hq => ?_)
  cases r with
  | error e => exact hx pins σ H s e s' I hq
  | ok fl =>
    cases fl with
    | ret u => exact I.after hq
    | next => exact False.elim hq
    | brk => exact False.elim hq
    | cont => exact False.elim hq
/-- what the classes with the own == have -/
structure EqCls (K : Frag) (f : Addr) (Cs : Addr → Prop) : Prop where
  eq : ∀ C, Cs C → findIn K (.ref C) "__eq__" = some (some (.ref f))
  ne : ∀ C, Cs C → findIn K (.ref C) "__ne__" = some (some (.builtin "object.__ne__"))
  ob : ∀ C, Cs C → mroIn K C (.type "object") = some true
  fn : isFn K (.ref f) = true
/-- x == y (neg: !=), x an instance -/
def rBagEq (K : Frag) (sp : L2.Sp) (Cs : Addr → Prop) (neg : Bool) : R2 := fun x y H Q =>
  (∃ a C dx fs t, x = .ref a ∧ H a = some (.ins C dx fs) ∧ Cs C ∧ TyX K H y t ∧ notFirst K C t = true ∧ sp [x, y] H (fun v H' => ∃ c, v = .bl c ∧ Q (.bl (if neg = true then !c else c)) H') E0) ∨
  (∃ a b C D dx fs dy gs, x = .ref a ∧ y = .ref b ∧ H a = some (.ins C dx fs) ∧ H b = some (.ins D dy gs) ∧ Cs C ∧ Cs D ∧ D ≠ C ∧ subIn K (.ref D) (.ref C) = some true ∧
    sp [y, x] H (fun v H' => ∃ c, v = .bl c ∧ Q (.bl (if neg = true then !c else c)) H') E0)
theorem op_eqBag {Cs : Addr → Prop} (Fo : L2.FnOk X.prog X.w X.K X.mg X.base CX n f fd ps sp) (ec : EqCls X.K f Cs) (hb : L2.Binds X.K fd ps []) (hx : L2.Passes CX X E0) (hr : Room (n + 1) X.A) : OpR X (compareOp .Eq) (rBagEq X.K sp Cs false) := by
  intro pins s σ H x y v u Q I rx ry h
  show wpAny (model X.prog X.w) X.A (richCompare .Eq v u) (EP X pins σ Q) X.xe s
  have back : ∀ (x y : V) (a : Addr) (v u : Value), RelV x v → RelV y u → sp [x, y] H (fun v H' => ∃ c, v = .bl c ∧ Q (.bl (if false = true then !c else c)) H') E0 →
      wpAny (model X.prog X.w) X.A (call (.ref f) [v, u]) (fun v s' => ∃ c, v = .bool c ∧ EP X pins σ Q (.bool c) s') X.xe s := fun x y a v u rx ry h =>
    wpAny_mono (run_fnA (A := X.A) ⟨hr.mono (Nat.le_succ _), rfl⟩ Fo hb hx I (.cons rx (.cons ry .nil)) h) (fun v s' ⟨z, H', I', rz, c, ez, q⟩ => by
      subst ez
      cases rz
      rw [if_neg Bool.false_ne_true] at q
      exact ⟨c, rfl, .bl _, H', I', rfl, q⟩) fun _ _ e => e
  rcases h with ⟨a, C, dx, fs, t, rfl, ha, hc, ty, hn, h⟩ | ⟨a, b, C, D, dx, fs, dy, gs, rfl, rfl, ha, hb', hc, hd, hne, hsub, h⟩
  · cases rx
    obtain ⟨mA, J, _⟩ := ins_get I.hok ha
    obtain ⟨od, J, _⟩ := J.look
    obtain ⟨P, Z, p, _⟩ := kit_of I ry ty
    exact rich_x (L := a) hr.units0 I.kIn J (Z.ty _ _ I.kIn p) hn (try_eq I.kIn J (ec.eq C hc) ec.fn (back (.ref a) y a _ _ rfl ry h))
  · cases rx
    cases ry
    obtain ⟨mA, J, _⟩ := ins_get I.hok ha
    obtain ⟨od, J, _⟩ := J.look
    obtain ⟨mB, J', _⟩ := ins_get I.hok hb'
    obtain ⟨od', J', _⟩ := J'.look
    exact rich_refl hr.units0 I.kIn J J'.type hne hsub (try_eq I.kIn J' (ec.eq D hd) ec.fn (back (.ref b) (.ref a) a _ _ rfl rfl h))
theorem op_neBag {Cs : Addr → Prop} (Fo : L2.FnOk X.prog X.w X.K X.mg X.base CX n f fd ps sp) (ec : EqCls X.K f Cs) (hb : L2.Binds X.K fd ps []) (hx : L2.Passes CX X E0) (hr : Room (n + 1) X.A) : OpR X (compareOp .NotEq) (rBagEq X.K sp Cs true) := by
  intro pins s σ H x y v u Q I rx ry h
  show wpAny (model X.prog X.w) X.A (richCompare .NotEq v u) (EP X pins σ Q) X.xe s
  have back : ∀ (x y : V) (a : Addr) (v u : Value), RelV x v → RelV y u → sp [x, y] H (fun v H' => ∃ c, v = .bl c ∧ Q (.bl (if true = true then !c else c)) H') E0 →
      wpAny (model X.prog X.w) X.A.in1 (call (.ref f) [v, u]) (fun v s' => ∃ c, v = .bool c ∧ EP X pins σ Q (.bool (!c)) s') X.xe s := fun x y a v u rx ry h =>
    wpAny_mono (run_fnA (A := X.A.in1) ⟨hr.in1, rfl⟩ Fo hb hx I (.cons rx (.cons ry .nil)) h) (fun v s' ⟨z, H', I', rz, c, ez, q⟩ => by
      subst ez
      cases rz
      rw [if_pos rfl] at q
      exact ⟨c, rfl, .bl _, H', I', rfl, q⟩) fun _ _ e => e
  have hu1 : X.A.units + 1 < cLine := hu_of hr
  rcases h with ⟨a, C, dx, fs, t, rfl, ha, hc, ty, hn, h⟩ | ⟨a, b, C, D, dx, fs, dy, gs, rfl, rfl, ha, hb', hc, hd, hne, hsub, h⟩
  · cases rx
    obtain ⟨mA, J, _⟩ := ins_get I.hok ha
    obtain ⟨od, J, _⟩ := J.look
    obtain ⟨P, Z, p, _⟩ := kit_of I ry ty
    exact rich_x (L := a) hr.units0 I.kIn J (Z.ty _ _ I.kIn p) hn (try_ne hu1 I.kIn J (ec.eq C hc) ec.fn (ec.ne C hc) (ec.ob C hc) (back (.ref a) y a _ _ rfl ry h))
  · cases rx
    cases ry
    obtain ⟨mA, J, _⟩ := ins_get I.hok ha
    obtain ⟨od, J, _⟩ := J.look
    obtain ⟨mB, J', _⟩ := ins_get I.hok hb'
    obtain ⟨od', J', _⟩ := J'.look
    exact rich_refl hr.units0 I.kIn J J'.type hne hsub (try_ne hu1 I.kIn J' (ec.eq D hd) ec.fn (ec.ne D hd) (ec.ob D hd) (back (.ref b) (.ref a) a _ _ rfl rfl h))
end
end Fp

/-! How bags stand in the heap. -/
namespace Fp
open PySem L2

/-! ### == of data, whatever its texts -/
def rEqP (K : PySem.W.Frag) (neg : Bool) : R2 := fun x y H Q => ∃ d e, Dp K H x d ∧ Dp K H y e ∧ d.plain = true ∧ e.plain = true ∧ d.depth ≤ 60 ∧ Q (.bl (if neg = true then !PyData.eqv d e else PyData.eqv d e)) H
theorem op_eqP {X : Cx} (hu : X.A.units + 64 < cLine) : OpR X (compareOp .Eq) (rEqP X.K false) := by
  intro pins s σ H x y v u Q I rx ry h
  obtain ⟨d, e, hd, he, sd, se, hz, q⟩ := h
  obtain ⟨as, r1⟩ := Dp.reads I d x v hd rx
  obtain ⟨bs, r2⟩ := Dp.reads I e y u he ry
  rw [if_neg Bool.false_ne_true] at q
  exact SeqAt.eq_plain r1 r2 sd se (by omega) ⟨.bl _, H, I, rfl, q⟩
theorem op_neP {X : Cx} (hu : X.A.units + 64 < cLine) : OpR X (compareOp .NotEq) (rEqP X.K true) := by
  intro pins s σ H x y v u Q I rx ry h
  obtain ⟨d, e, hd, he, sd, se, hz, q⟩ := h
  obtain ⟨as, r1⟩ := Dp.reads I d x v hd rx
  obtain ⟨bs, r2⟩ := Dp.reads I e y u he ry
  rw [if_pos rfl] at q
  exact SeqAt.ne_plain r1 r2 sd se (by omega) ⟨.bl _, H, I, rfl, q⟩

/-! ### dicts of words -/
def toK (s : Bg) : List (Key × V) := s.map fun kv => ((Sum.inr kv.1 : Key), V.int kv.2)
theorem toK_nil : toK [] = [] := rfl
theorem toK_cons (q : Str × Int) (s : Bg) : toK (q :: s) = ((Sum.inr q.1 : Key), V.int q.2) :: toK s := rfl
theorem toK_len (s : Bg) : (toK s).length = s.length := by unfold toK; rw [List.length_map]
theorem valV_toK (w : Str) : ∀ s : Bg, valV (toK s) (Sum.inr w : Key) = (getS s w).map V.int
  | [] => rfl
  | q :: r => by
    rw [toK_cons]
    by_cases e : q.1 = w
    · rw [getS_pos e, valV_pos (p := ((Sum.inr q.1 : Key), V.int q.2)) (by rw [e])]
      rfl
    · rw [getS_neg e, valV_neg (p := ((Sum.inr q.1 : Key), V.int q.2)) (fun z => e (Sum.inr.inj z))]
      exact valV_toK w r
theorem getD_toK (s : Bg) (w : Str) : (valV (toK s) (Sum.inr w : Key)).getD (.int 0) = .int (cf s w) := by
  rw [valV_toK]
  unfold cf
  cases getS s w <;> rfl
theorem putK_toK (s : Bg) (w : Str) (n : Int) : putK (toK s) (Sum.inr w : Key) (.int n) = toK (putS s w n) := by
  unfold putK putS
  have e1 : ((toK s).any fun kv => decide (kv.1 = (Sum.inr w : Key))) = s.any fun kv => decide (kv.1 = w) := by
    unfold toK
    rw [List.any_map]
    congr 1
    funext kv
    simp
  rw [e1]
  split
  · unfold toK
    rw [List.map_map, List.map_map]
    refine List.map_congr_left fun kv _ => ?_
    simp only [Function.comp]
    by_cases h : kv.1 = w
    · simp [h]
    · simp [h]
  · unfold toK
    rw [List.map_append]
    rfl
theorem dropK_toK (s : Bg) (w : Str) : dropK (toK s) (Sum.inr w : Key) = toK (dropS s w) := by
  unfold dropK dropS toK
  rw [List.filter_map]
  congr 1
  refine List.filter_congr fun kv _ => ?_
  simp
theorem toK_keys (s : Bg) : (toK s).map (fun kv => kV kv.1) = (keys s).map V.str := by
  unfold toK keys
  rw [List.map_map, List.map_map]
  rfl
theorem toK_get {s : Bg} {i : Nat} {kv : Key × V} (h : (toK s)[i]? = some kv) : ∃ w n, s[i]? = some (w, n) ∧ kv = (Sum.inr w, .int n) := by
  unfold toK at h
  rw [List.getElem?_map] at h
  cases e : s[i]? with
  | none => rw [e] at h; cases h
  | some q => rw [e] at h; exact ⟨q.1, q.2, rfl, (Option.some.inj h).symm⟩
theorem toK_inj {s t : Bg} (h : toK s = toK t) : s = t := by
  unfold toK at h
  exact List.map_inj_right (f := fun kv : Str × Int => ((Sum.inr kv.1 : Key), V.int kv.2)) (fun a b e => by
    obtain ⟨a1, a2⟩ := a
    obtain ⟨b1, b2⟩ := b
    simp at e
    rw [e.1, e.2]) |>.mp h

/-! ### the tuple of pairs -/
structure WordsAt (H : Hp) (t : Addr) (l : Bg) : Prop where
  ex : ∃ (qs : List Addr) (o : Obj), H t = some (.frz o (.tup (qs.map V.ref))) ∧ o.dict = none ∧ Paired (fun q kv => H q = some (.tup [.str kv.1, .int kv.2])) qs l
theorem WordsAt.ex' {H H' : Hp} {t : Addr} {l : Bg} (e : Ex H H') (h : WordsAt H t l) : WordsAt H' t l := by
  obtain ⟨qs, o, h1, hd, h2⟩ := h.ex
  exact ⟨qs, o, e _ _ h1, hd, Paired.mapP h2 fun _ _ z => e _ _ z⟩
def pairD (kv : Str × Int) : PyData := .tuple [.str kv.1, .int kv.2]
def wordsD (l : Bg) : PyData := .tuple (l.map pairD)
theorem dpAll_words {K : PySem.W.Frag} {H : Hp} {qs : List Addr} {l : Bg} (h : Paired (fun q kv => H q = some (.tup [.str kv.1, .int kv.2])) qs l) : DpAll K H (qs.map V.ref) (l.map pairD) := by
  induction h with
  | nil => exact .nil
  | cons h1 _ ih => exact .cons (.tup (SqT.of h1) (.cons (.str _) (.cons (.int _) .nil))) ih
theorem WordsAt.dp {K : PySem.W.Frag} {H : Hp} {t : Addr} {l : Bg} (h : WordsAt H t l) : Dp K H (.ref t) (wordsD l) := by
  obtain ⟨qs, o, h1, _, h2⟩ := h.ex
  exact .tup (.inl (.inr ⟨o, h1⟩)) (dpAll_words h2)
theorem plainAll_words (l : Bg) : PyData.plainAll (l.map pairD) = true := by
  induction l with
  | nil => rfl
  | cons q r ih => rw [List.map_cons, PyData.plainAll, ih]; simp [pairD, PyData.plain, PyData.plainAll]
theorem plain_words (l : Bg) : (wordsD l).plain = true := by
  show PyData.plainAll (l.map pairD) = true
  exact plainAll_words l
theorem depthAll_words (l : Bg) : PyData.depthAll (l.map pairD) ≤ 1 := by
  induction l with
  | nil => simp [PyData.depthAll]
  | cons q r ih =>
    rw [List.map_cons, PyData.depthAll]
    have : (pairD q).depth = 1 := by simp [pairD, PyData.depth, PyData.depthAll]
    omega
theorem depth_words (l : Bg) : (wordsD l).depth ≤ 60 := by
  have := depthAll_words l
  simp only [wordsD, PyData.depth]
  omega
theorem eqv_pair (a b : Str × Int) : PyData.eqv (pairD a) (pairD b) = decide (a = b) := by
  obtain ⟨a1, a2⟩ := a
  obtain ⟨b1, b2⟩ := b
  simp only [pairD, PyData.eqv, PyData.eqvAll, Bool.and_true]
  rw [Bool.eq_iff_iff]
  simp
theorem eqvAll_words : ∀ l m : Bg, PyData.eqvAll (l.map pairD) (m.map pairD) = decide (l = m)
  | [], [] => by simp [PyData.eqvAll]
  | [], b :: m => by simp [PyData.eqvAll]
  | a :: l, [] => by simp [PyData.eqvAll]
  | a :: l, b :: m => by
    rw [List.map_cons, List.map_cons, PyData.eqvAll, eqv_pair, eqvAll_words l m]
    rw [Bool.eq_iff_iff]
    simp
theorem eqv_words (l m : Bg) : PyData.eqv (wordsD l) (wordsD m) = decide (l = m) := by
  show PyData.eqvAll (l.map pairD) (m.map pairD) = _
  exact eqvAll_words l m

/-! ### bags -/
theorem k_sc : ¬ (("clock" : Str) = "sparse") := by decide +kernel
theorem k_kc : ¬ (("clock" : Str) = "kept") := by decide +kernel
theorem k_wc : ¬ (("clock" : Str) = "words") := by decide +kernel
theorem k_ks : ¬ (("sparse" : Str) = "kept") := by decide +kernel
theorem k_ws : ¬ (("sparse" : Str) = "words") := by decide +kernel
theorem k_wk : ¬ (("kept" : Str) = "words") := by decide +kernel
def bagF (p : Int) (d k t : Addr) : List (Str × V) := [("clock", .int p), ("sparse", .ref d), ("kept", .ref k), ("words", .ref t)]
theorem bagF_made (p : Int) (d k t : Addr) : putF "words" (.ref t) (putF "kept" (.ref k) (putF "sparse" (.ref d) (putF "clock" (.int p) []))) = bagF p d k t := by
  unfold bagF
  have e1 : putF ("clock" : Str) (V.int p) [] = [(("clock" : Str), V.int p)] := rfl
  have e2 : putF ("sparse" : Str) (V.ref d) [(("clock" : Str), V.int p)] = [(("clock" : Str), V.int p), ("sparse", .ref d)] := by
    show (if ("clock" : Str) = "sparse" then _ else (("clock" : Str), V.int p) :: putF "sparse" (V.ref d) []) = _
    rw [if_neg k_sc]; rfl
  have e3 : putF ("kept" : Str) (V.ref k) [(("clock" : Str), V.int p), ("sparse", .ref d)] = [(("clock" : Str), V.int p), ("sparse", .ref d), ("kept", .ref k)] := by
    show (if ("clock" : Str) = "kept" then _ else (("clock" : Str), V.int p) :: (if ("sparse" : Str) = "kept" then _ else (("sparse" : Str), V.ref d) :: putF "kept" (V.ref k) [])) = _
    rw [if_neg k_kc, if_neg k_ks]; rfl
  rw [e1, e2, e3]
  show (if ("clock" : Str) = "words" then _ else (("clock" : Str), V.int p) :: (if ("sparse" : Str) = "words" then _ else (("sparse" : Str), V.ref d) :: (if ("kept" : Str) = "words" then _ else (("kept" : Str), V.ref k) :: putF "words" (V.ref t) []))) = _
  rw [if_neg k_wc, if_neg k_ws, if_neg k_wk]; rfl
theorem lk_cons {f g : Str} {v : V} {r : List (Str × V)} (h : ¬ f = g) : ((g, v) :: r).lookup f = r.lookup f := by
  rw [List.lookup_cons]
  have : (f == g) = false := by simp [h]
  rw [this]
theorem lk_pos {f : Str} {v : V} {r : List (Str × V)} : ((f, v) :: r).lookup f = some v := by
  rw [List.lookup_cons]
  simp
theorem bagF_clock (p : Int) (d k t : Addr) : (bagF p d k t).lookup ("clock" : Str) = some (.int p) := lk_pos
theorem bagF_sparse (p : Int) (d k t : Addr) : (bagF p d k t).lookup ("sparse" : Str) = some (.ref d) := by
  unfold bagF
  rw [lk_cons (fun z => k_sc z.symm), lk_pos]
theorem bagF_kept (p : Int) (d k t : Addr) : (bagF p d k t).lookup ("kept" : Str) = some (.ref k) := by
  unfold bagF
  rw [lk_cons (fun z => k_kc z.symm), lk_cons (fun z => k_ks z.symm), lk_pos]
theorem bagF_words (p : Int) (d k t : Addr) : (bagF p d k t).lookup ("words" : Str) = some (.ref t) := by
  unfold bagF
  rw [lk_cons (fun z => k_wc z.symm), lk_cons (fun z => k_ws z.symm), lk_cons (fun z => k_wk z.symm), lk_pos]
/-- a bag by the clock p with the words s stands at a; Cs: the classes of bags -/
structure BagAt (Cs : Addr → Prop) (H : Hp) (a : Addr) (p : Int) (s : Bg) : Prop where
  ex : ∃ C dx d k t, Cs C ∧ H a = some (.ins C dx (bagF p d k t)) ∧ H d = some (.dK (toK s)) ∧ WordsAt H t (wordsS s)
theorem BagAt.ex' {Cs : Addr → Prop} {H H' : Hp} {a : Addr} {p : Int} {s : Bg} (e : Ex H H') (h : BagAt Cs H a p s) : BagAt Cs H' a p s := by
  obtain ⟨C, dx, d, k, t, h0, h1, h2, h3⟩ := h.ex
  exact ⟨C, dx, d, k, t, h0, e _ _ h1, e _ _ h2, h3.ex' e⟩
end Fp

/-! Loops and comprehensions in short. -/
namespace Fp
open PySem L2

/-! ### what stands but one object -/
def ExB (f : Addr) (H H' : Hp) : Prop := ∀ a o, a ≠ f → H a = some o → H' a = some o
theorem ExB.refl (f : Addr) (H : Hp) : ExB f H H := fun _ _ _ h => h
theorem ExB.trans {f : Addr} {H H1 H2 : Hp} (a : ExB f H H1) (b : ExB f H1 H2) : ExB f H H2 := fun x o n h => b x o n (a x o n h)
theorem Ex.exb {f : Addr} {H H' : Hp} (e : Ex H H') : ExB f H H' := fun a o _ h => e a o h
theorem ExB.ex {f : Addr} {H0 H H' : Hp} (e : Ex H0 H) (b : ExB f H H') (h : H0 f = none) : Ex H0 H' := fun a o q => b a o (ne_of_none q h) (e a o q)
theorem ExB.ex0 {f : Addr} {H H' : Hp} (b : ExB f H H') (h : H f = none) : Ex H H' := fun a o q => b a o (ne_of_none q h) q
theorem ExB.upd {f : Addr} {H H' : Hp} {o : HO} (b : ExB f H H') : ExB f H (upd H' f o) := fun a u n q => by rw [upd_ne n]; exact b a u n q
theorem ExB.new {f : Addr} {H H' : Hp} {p : Addr} {o : HO} (b : ExB f H H') (h : H' p = none) : ExB f H (L2.upd H' p o) := fun a u n q => by
  have := b a u n q
  rw [upd_ne (ne_of_none this h)]
  exact this
theorem ExB.rd {f : Addr} {H H' : Hp} {a : Addr} {u : HO} (e : ExB f H H') (n : a ≠ f) (h : Rd H a u) : Rd H' a u := by
  rcases h with h | ⟨o, h⟩
  · exact .inl (e a _ n h)
  · exact .inr ⟨o, e a _ n h⟩
theorem ExB.sql {K : PySem.W.Frag} {f : Addr} {H H' : Hp} {a : Addr} {xs : List V} (e : ExB f H H') (n : a ≠ f) (h : SqL K H a xs) : SqL K H' a xs := h.elim (fun h => .inl (e.rd n h)) .inr
theorem rd_ne {H : Hp} {a b : Addr} {u o : HO} (h : Rd H a u) (hb : H b = some o) (h1 : u ≠ o) (h2 : ∀ x, o ≠ .frz x u) : a ≠ b := by
  rintro rfl
  rcases h with h | ⟨x, h⟩
  · rw [h] at hb; exact h1 (Option.some.inj hb)
  · rw [h] at hb; exact h2 x (Option.some.inj hb).symm

/-! ### a comprehension that only makes objects -/
section
variable {J : It} {n : Nat} {G : Hp → Prop} {Y : Nat → Hp → V → Hp → Prop}
theorem lc_pure (w : Walk J n G Y) {j : Nat} {te : TE} {vs : List Nat} {σ : St} {H1 : Hp} {Q : VK} (ys : List V) (hl : ys.length = n) (hn : n ≤ sizeLine) (hG : ∀ H, Ex H1 H → G H)
    (hw : ∀ x, wipe ((wipe σ vs).set j x) vs = wipe σ vs)
    (hs : ∀ i x y H H' (K : VK), i < n → Ex H1 H → Y i H x H' → ys[i]? = some y → (∀ H4, Ex H H4 → K y H4) → te ((wipe σ vs).set j (some x)) H' K)
    (hd : ∀ D H', H1 D = none → Ex H1 H' → H' D = some (.lst ys) → Q (.ref D) H') :
    LcG J (gName j) tYes te vs σ H1 Q := by
  intro D hD
  refine lc_it w (fun i H => Ex H1 H ∧ H D = some (.lst (ys.take i))) ⟨Ex.new hD, upd_same⟩ (fun i H _ p => hG H p.1) ?_ (fun H p => ?_)
  · rintro i x H H' hi ⟨e, hacc⟩ hy
    have hi' : i < ys.length := by omega
    obtain ⟨y, hyi⟩ : ∃ y, ys[i]? = some y := ⟨ys[i], by simp [hi']⟩
    refine ⟨hw _, ?_⟩
    unfold tYes
    dsimp only
    rw [if_pos rfl]
    refine hs i x y H H' _ hi e hy hyi fun H4 e4 => ⟨ys.take i, e4 _ _ hacc, by rw [List.length_take]; omega, ?_, ?_⟩
    · exact Ex.mut (e.trans e4) hD
    · rw [upd_same, List.take_add_one, hyi]
      rfl
  · obtain ⟨e, h⟩ := p
    rw [← hl, List.take_length] at h
    exact hd D H hD e h
end

/-! ### a loop over a dict -/
/-- while the dict at d is walked, f's object turns -/
structure LoopEx (d f : Addr) (s : Bg) (H H' : Hp) : Prop where
  keep : ∀ a o, a ≠ f → a ≠ d → H a = some o → H' a = some o
  self : Rd H' d (.dK (toK s))
theorem LoopEx.rd {d f : Addr} {s : Bg} {H H' : Hp} (l : LoopEx d f s H H') (hd : Rd H d (.dK (toK s))) {b : Addr} {t : Bg} (h : Rd H b (.dK (toK t))) (n : b ≠ f) : Rd H' b (.dK (toK t)) := by
  by_cases e : b = d
  · subst e
    have : toK t = toK s := by
      rcases h with h | ⟨o, h⟩ <;> rcases hd with hd | ⟨o', hd⟩
      · exact HO.dK.inj (Option.some.inj (h.symm.trans hd))
      · exact absurd (Option.some.inj (h.symm.trans hd)) (by simp)
      · exact absurd (Option.some.inj (h.symm.trans hd)) (by simp)
      · have := Option.some.inj (h.symm.trans hd)
        injection this with _ e2
        exact HO.dK.inj e2
    rw [this]
    exact l.self
  · rcases h with h | ⟨o, h⟩
    · exact .inl (l.keep b _ n e h)
    · exact .inr ⟨o, l.keep b _ n e h⟩
theorem LoopEx.exb {d f : Addr} {s : Bg} {H H' H'' : Hp} (l : LoopEx d f s H H') (n : d ≠ f) (b : ExB f H' H'') : LoopEx d f s H H'' := ⟨fun a o h1 h2 q => b a o h1 (l.keep a o h1 h2 q), b.rd n l.self⟩
theorem for_keys {σ : St} {H : Hp} {D : Ends} {d f : Addr} {s : Bg} {o0 : HO} {te : TE} {j : Nat} {tb : TS} (hd : Rd H d (.dK (toK s))) (hf : H f = some o0) (hne : d ≠ f)
    (he : ∀ (H' : Hp) (Q : VK), LoopEx d f s H H' → Q (.ref d) H' → te σ H' Q)
    (I : Nat → St → HO → Prop) (h0 : I 0 σ o0)
    (hs : ∀ i w n σ' H' o (E : Ends), s[i]? = some (w, n) → I i σ' o → LoopEx d f s H H' → H' f = some o → (∀ v H1, ExB f H' H1 → (∀ H2, ExB f H H2 → H2 f = H1 f → D.rt v H2) → E.rt v H1) →
      (∀ σ'' H'' o', I (i + 1) σ'' o' → ExB f H' H'' → H'' f = some o' → E.nx σ'' H'') → tb E (σ'.set j (some (.str w))) H')
    (hend : ∀ σ' H' o, I s.length σ' o → ExB f H H' → H' f = some o → D.nx σ' H') : tLockR (tFor (iKeys te) (gName j) tb) D σ H := by
  -- the loop itself, over a heap in which d is locked
  have core : ∀ (Hl : Hp) (od : Obj) (E : Ends), Hl d = some (.frz od (.dK (toK s))) → (∀ a o, a ≠ d → (H a = some o ↔ Hl a = some o)) →
      (∀ σ' H' o, I s.length σ' o → ExB f Hl H' → H' f = some o → E.nx σ' H') → (∀ v H', ExB f Hl H' → (∀ H2, ExB f H H2 → H2 f = H' f → D.rt v H2) → E.rt v H') → tFor (iKeys te) (gName j) tb E σ Hl := by
    intro Hl od E hl hsame hE hrt
    have l0 : LoopEx d f s H Hl := ⟨fun a o _ h2 q => (hsame a o h2).mp q, .inr ⟨od, hl⟩⟩
    refine he Hl _ l0 ⟨d, od, rfl, .inl ⟨toK s, hl, ?_⟩⟩
    refine for_it walk_keys (fun i σ' H' => ∃ o, I i σ' o ∧ ExB f Hl H' ∧ H' f = some o) ⟨o0, h0, ExB.refl f Hl, (hsame f o0 (Ne.symm hne)).mp hf⟩ (fun i σ' H' _ p => ?_) ?_ (fun σ' H' p => ?_)
    · obtain ⟨o, _, e, _⟩ := p
      exact e d _ hne hl
    · rintro i x σ' H' H1 hi ⟨o, hI, e, hfo⟩ ⟨rfl, k, v, hk, rfl⟩
      obtain ⟨w, n, hw, ekv⟩ := toK_get hk
      cases ekv
      have le : LoopEx d f s H H1 := ⟨fun a o h1 h2 q => e a o h1 ((hsame a o h2).mp q), .inr ⟨od, e d _ hne hl⟩⟩
      exact hs i w n σ' H1 o _ hw hI le hfo (fun v H2 e2 hq => hrt v H2 (e.trans e2) hq) fun σ'' H'' o' hI' e' hf' => ⟨o', hI', e.trans e', hf'⟩
    · obtain ⟨o, hI, e, hfo⟩ := p
      rw [toK_len] at hI
      exact hE σ' H' o hI e hfo
  rcases hd with hd | ⟨od, hd⟩
  · refine .inl ⟨d, _, hd, trivial, fun od => ?_⟩
    have back : ∀ H', ExB f (upd H d (.frz od (.dK (toK s)))) H' → H' d = some (.frz od (.dK (toK s))) ∧ ExB f H (upd H' d (.dK (toK s))) := fun H' e => by
      refine ⟨e d _ hne upd_same, fun a o h1 q => ?_⟩
      by_cases ha : a = d
      · subst ha
        rw [hd] at q
        cases q
        exact upd_same
      · rw [upd_ne ha]
        exact e a o h1 (by rw [upd_ne ha]; exact q)
    refine core _ od _ upd_same (fun a o ha => by rw [upd_ne ha]) (fun σ' H' o hI e hfo => ?_) (fun v H' e hq => ?_)
    · obtain ⟨b1, b2⟩ := back H' e
      exact ⟨b1, hend σ' _ o hI b2 (by rw [upd_ne (Ne.symm hne)]; exact hfo)⟩
    · obtain ⟨b1, b2⟩ := back H' e
      exact ⟨b1, hq _ b2 (by rw [upd_ne (Ne.symm hne)])⟩
  · exact .inr (core H od D hd (fun a o _ => Iff.rfl) hend fun v H' e hq => hq H' e rfl)
end Fp

/-! More steps of a reading. -/
namespace Fp
open PySem L2
theorem ps_never {X : Cx} {st : Stmt} : PS X st (fun _ _ _ => False) := ⟨fun pins s σ H D I h => h.elim⟩
section
variable {σ : St} {H H1 : Hp} {Q : VK} {D : Ends} {i : Nat} {v x y : V} {ta tb te tc td ty : TE} {K : PySem.W.Frag} {tt tu : TT} {t u : TS} {QB : Bool → Hp → Prop} {tA : TA}
theorem g_chain {r r' : R2} (h : ta σ H fun x H1 => tb σ H1 fun y H2 => r x y H2 fun z H3 => ∃ k, z = .bl k ∧ (if k = true then tc σ H3 fun w' H4 => r' y w' H4 Q else Q (.bl false) H3)) : tChain r r' ta tb tc σ H Q := h
theorem g_dget (h : td σ H fun x H1 => ty σ H1 fun y H2 => ∃ a v, x = .ref a ∧ DGet H2 a y (some v) ∧ Q v H2) : tDGet td ty σ H Q := h
theorem g_dput {tv : TE} (h : tv σ H fun v H1 => td σ H1 fun x H2 => ty σ H2 fun y H3 => ∃ a H4, x = .ref a ∧ DPut H3 a y v H4 ∧ D.nx σ H4) : sDPut td ty tv D σ H := h
theorem g_dget2 {tx : TE} (h : td σ H fun x H1 => ∃ a, x = .ref a ∧ IsD H1 a ∧ ty σ H1 fun y H2 => tx σ H2 fun z H3 => ∃ o, DGet H3 a y o ∧ Q (o.getD z) H3) : tDGet2 td ty tx σ H Q := h
theorem g_dpop2 {tx : TE} (h : td σ H fun x H1 => ∃ a, x = .ref a ∧ IsD H1 a ∧ ty σ H1 fun y H2 => tx σ H2 fun z H3 => ∃ kvs k, H3 a = some (.dK kvs) ∧ y = kV k ∧
  (∀ v, valV kvs k = some v → Q v (upd H3 a (.dK (dropK kvs k)))) ∧ (valV kvs k = none → Q z H3)) : tDPop2 td ty tx σ H Q := h
theorem g_fld {f : Str} (h : ta σ H fun x H1 => ∃ a C dx fs v, x = .ref a ∧ H1 a = some (.ins C dx fs) ∧ Cls K C ∧ NoAttr K C f ∧ fs.lookup f = some v ∧ Q v H1) : tFld K ta f σ H Q := h
theorem g_sfld {tv : TE} {f : Str} (h : tv σ H fun y H1 => ta σ H1 fun x H2 => ∃ a C dx fs, x = .ref a ∧ H2 a = some (.ins C dx fs) ∧ Cls K C ∧ NoAttr K C f ∧ fs.length < 1000 ∧
  D.nx σ (upd H2 a (.ins C dx (putF f y fs)))) : sFld K ta tv f D σ H := h
theorem g_make {C : Addr} {sp : Sp} {E : XK} (h : tA σ H fun vs H1 => ∀ x dx, H1 x = none → H1 dx = none → dx ≠ x →
  sp (.ref x :: (vs ++ [])) (upd (upd H1 dx (.own x)) x (.ins C dx [])) (fun v H2 => v = .non ∧ Q (.ref x) H2) E) : tMake C sp [] E tA σ H Q := h
theorem g_meth {C : Addr} {m : Str} {sp : Sp} {E : XK} (h : ta σ H fun x H1 => ∃ a dx fs, x = .ref a ∧ H1 a = some (.ins C dx fs) ∧ fs.lookup m = none ∧
  tA σ H1 fun vs H2 => sp (x :: (vs ++ [])) H2 Q E) : tMeth C m sp [] E ta tA σ H Q := h
theorem g_bm {T : String} {r : V → List V → Hp → VK → Prop} (h : ta σ H fun x H1 => tyV K T x H1 ∧ tA σ H1 fun xs H2 => r x xs H2 Q) : tBM K T r ta tA σ H Q := h
theorem g_m1 {r : V → List V → Hp → VK → Prop} (h : ta σ H fun x H1 => (∃ a, x = .str a) ∧ te σ H1 fun y H2 => r x [y] H2 Q) : tM1 r ta te σ H Q := h
theorem g_itNT {A B : Prop} (h : B) : if (!true) = true then A else B := g_iff rfl h
theorem g_itNF {A B : Prop} (h : A) : if (!false) = true then A else B := g_ift rfl h
theorem g_revL (h : te σ H fun x H1 => ∃ a xs, x = .ref a ∧ SqL K H1 a xs ∧ ∀ p, H1 p = none → Q (.ref p) (upd H1 p (.lst xs.reverse))) : tRevL K te σ H Q := h
theorem g_kw {r : List V → List V → Hp → VK → Prop} {tk : TA} (h : tA σ H fun vs H1 => tk σ H1 fun zs H2 => r vs zs H2 Q) : tCKw r tA tk σ H Q := h
theorem g_gsub {to ti : TE} {s : TSet} {QS : St → Hp → Prop} (h : to σ H fun o H1 => ti σ H1 fun i H2 => s o i v H2 fun H3 => QS σ H3) : gSub to ti s v σ H QS := h
theorem g_for {wi : TI} {g : TG} (h : wi σ H fun J H1 => ForG J g t D σ H1) : tFor wi g t D σ H := h
theorem g_iList {R : It → Hp → Prop} (h : te σ H fun x H1 => ∃ a, x = .ref a ∧ (∃ xs, SqL K H1 a xs) ∧ R (Itl K a) H1) : iList K te σ H R := h
theorem g_iTup {R : It → Hp → Prop} (h : te σ H fun x H1 => ∃ a, x = .ref a ∧ (∃ xs, SqT K H1 a xs) ∧ R (Itt K a) H1) : iTup K te σ H R := h
theorem g_iRng1 {R : It → Hp → Prop} (h : tA σ H fun vs H1 => ∃ j : Int, vs = [.int j] ∧ -(2 ^ 62) ≤ j ∧ j < 2 ^ 62 ∧ R (Itr 0 j.toNat) H1) : iRng1 tA σ H R := h
theorem g_iRng2 {R : It → Hp → Prop} (h : tA σ H fun vs H1 => ∃ i j : Int, vs = [.int i, .int j] ∧ (-(2 ^ 62) ≤ i ∧ i < 2 ^ 62 ∧ -(2 ^ 62) ≤ j ∧ j < 2 ^ 62) ∧ R (Itr i (j - i).toNat) H1) : iRng2 tA σ H R := h
theorem g_sl {r : V → Option Int → Option Int → Hp → VK → Prop} {tl th : TO} (h : te σ H fun x H1 => tl σ H1 fun l H2 => th σ H2 fun u H3 => r x l u H3 Q) : tSl r te tl th σ H Q := h
theorem g_part {QO : Option Int → Hp → Prop} (h : te σ H fun x H1 => ∃ i, x = .int i ∧ QO (some i) H1) : tPart te σ H QO := h
theorem g_noPart {QO : Option Int → Hp → Prop} (h : QO none H) : tNoPart σ H QO := h
theorem g_exi {z : Int} {R : Int → Prop} (h : R z) : ∃ i, (V.int z) = .int i ∧ R i := ⟨z, rfl, h⟩
theorem g_exr {z : Addr} {R : Addr → Prop} (h : R z) : ∃ i, (V.ref z) = .ref i ∧ R i := ⟨z, rfl, h⟩
theorem g_exb {z : Bool} {R : Bool → Prop} (h : R z) : ∃ i, (V.bl z) = .bl i ∧ R i := ⟨z, rfl, h⟩
theorem g_dnew (h : ∀ p, H p = none → Q (.ref p) (upd H p (.dK []))) : tDNewK σ H Q := h
theorem g_disp {trs : List (TE × TE)} (h : ∀ p, H p = none → tPairs trs σ (upd H p (.dK [])) fun ps H2 => H2 p = some (.dK []) ∧ ∃ kvs : List (Key × V), ps = kvs.map (fun kv => (kV kv.1, kv.2)) ∧ kvs.length ≤ 15 ∧ Q (.ref p) (upd H2 p (.dK (mergeK [] kvs)))) : tDisp trs σ H Q := h
theorem g_prs0 {R : List (V × V) → Hp → Prop} (h : R [] H) : tPairs [] σ H R := h
theorem g_prs {tk tv : TE} {r : List (TE × TE)} {R : List (V × V) → Hp → Prop} (h : tk σ H fun x H1 => tv σ H1 fun y H2 => tPairs r σ H2 fun ps H3 => R ((x, y) :: ps) H3) : tPairs ((tk, tv) :: r) σ H R := h
theorem g_cut {R : St → Hp → Prop} (h1 : ∀ N : St → Hp → Prop, (∀ σ' H', R σ' H' → N σ' H') → t { D with nx := N } σ H) (h2 : ∀ σ' H', R σ' H' → u D σ' H') : tSeq t u D σ H := h1 (u D) h2
theorem g_nxt (h : D.nx σ H) : tNext D σ H := h
/-! the readings of things -/
theorem g_int {i : Int} (h : Q (.int i) H) : (∃ j, [V.int i] = [.int j] ∧ Q (.int j) H) ∨ ∃ k, [V.int i] = [.bl k] ∧ Q (.int (if k then 1 else 0)) H := .inl ⟨i, rfl, h⟩
theorem g_ixl {p : Addr} {xs : List V} {k : Int} (hs : SqL K H p xs) (ha : atI xs k = some v) (h : Q v H) : rIxL K (.ref p) (.int k) H Q := ⟨p, xs, k, v, rfl, rfl, hs, ha, h⟩
theorem g_ixt {p : Addr} {xs : List V} {k : Int} (hs : SqT K H p xs) (ha : atI xs k = some v) (h : Q v H) : rIxT K (.ref p) (.int k) H Q := ⟨p, xs, k, v, rfl, rfl, hs, ha, h⟩
theorem g_ixs {z : Str} {k : Int} {c : Nat} (hz : z.length ≤ sizeLine) (ha : atI z.cps.toList k = some c) (h : Q (.str ⟨#[c]⟩) H) : rIxS (.str z) (.int k) H Q := ⟨z, k, c, rfl, rfl, hz, ha, h⟩
theorem g_setl {p : Addr} {xs : List V} {k : Int} {j : Nat} {R : Hp → Prop} (hs : H p = some (.lst xs)) (ha : ixN xs.length k = some j) (h : R (upd H p (.lst (xs.set j v)))) : rSetL (.ref p) (.int k) v H R := ⟨p, xs, k, j, rfl, rfl, hs, ha, h⟩
theorem g_dg {a : Addr} {s : Bg} {w : Str} {n : Int} {R : V → Prop} (hd : Rd H a (.dK (toK s))) (hw : getS s w = some n) (h : R (.int n)) : ∃ b v, V.ref a = .ref b ∧ DGet H b (.str w) (some v) ∧ R v :=
  ⟨a, .int n, rfl, .inl ⟨toK s, .inr w, hd, rfl, by rw [valV_toK, hw]; rfl⟩, h⟩
theorem g_dp {a : Addr} {s : Bg} {w : Str} {n : Int} {R : Hp → Prop} (hd : H a = some (.dK (toK s))) (hl : s.length < sizeLine) (h : R (upd H a (.dK (toK (putS s w n))))) : ∃ b H4, V.ref a = .ref b ∧ DPut H b (.str w) (.int n) H4 ∧ R H4 :=
  ⟨a, _, rfl, DPut.k (k := (Sum.inr w : Key)) hd (by rw [toK_len]; exact hl), by rw [putK_toK]; exact h⟩
theorem atI_get {α : Type} {xs : List α} {k : Int} {v : α} (h0 : 0 ≤ k) (h : xs[k.toNat]? = some v) : atI xs k = some v := by
  have hlt : k.toNat < xs.length := by
    rcases Nat.lt_or_ge k.toNat xs.length with q | q
    · exact q
    · rw [List.getElem?_eq_none q] at h; cases h
  unfold atI ixN
  rw [if_pos h0, if_pos (by omega)]
  exact h
/-- a text of at most so many signs -/
theorem line5 {n : Nat} (h : n ≤ 10000000) : n ≤ sizeLine := Nat.le_trans h (by decide)
theorem mem_fr {s : Bg} {w : Str} {n : Int} {i : Nat} (h : s[i]? = some (w, n)) : (w, n) ∈ s := List.mem_of_getElem? h
theorem getS_at {s : Bg} {w : Str} {n : Int} {i : Nat} (hn : (keys s).Nodup) (h : s[i]? = some (w, n)) : getS s w = some n := getS_of_mem hn (mem_fr h)
end
end Fp

/-! Comprehensions that make things. -/
namespace Fp
open PySem L2

/-! ### what stays while lists grow and dicts are unlocked: tuples -/
def TupS (H H' : Hp) : Prop := ∀ a xs, H a = some (.tup xs) → H' a = some (.tup xs)
theorem TupS.trans {H H1 H2 : Hp} (a : TupS H H1) (b : TupS H1 H2) : TupS H H2 := fun x o h => b x o (a x o h)
theorem Ex.tups {H H' : Hp} (e : Ex H H') : TupS H H' := fun a xs h => e a _ h
theorem TupS.upd {H : Hp} {a : Addr} {o u : HO} (h : H a = some u) (hu : ∀ xs, u ≠ .tup xs) : TupS H (upd H a o) := fun b xs q => by
  rw [upd_ne (fun e => by subst e; rw [h] at q; exact hu xs (Option.some.inj q))]
  exact q
theorem TupS.new {H : Hp} {a : Addr} {o : HO} (h : H a = none) : TupS H (L2.upd H a o) := (Ex.new h).tups

/-! ### Paired -/
section
variable {α β : Type} {F : α → β → Prop}
theorem paired_eq {xs : List V} {es : List V} (h : Paired (fun x e => x = e) xs es) : xs = es := by
  induction h with
  | nil => rfl
  | cons h1 _ ih => rw [h1, ih]
theorem paired_map {G : β → α} {xs : List α} {es : List β} (h : Paired (fun x e => x = G e) xs es) : xs = es.map G := by
  induction h with
  | nil => rfl
  | cons h1 _ ih => rw [h1, ih]; rfl
theorem paired_refs {P : Addr → β → Prop} {xs : List V} {es : List β} (h : Paired (fun x e => ∃ a, x = V.ref a ∧ P a e) xs es) : ∃ as : List Addr, xs = as.map V.ref ∧ Paired P as es := by
  induction h with
  | nil => exact ⟨[], rfl, .nil⟩
  | cons h1 _ ih =>
    obtain ⟨a, rfl, ha⟩ := h1
    obtain ⟨as, rfl, hs⟩ := ih
    exact ⟨a :: as, rfl, .cons ha hs⟩
theorem paired_get {xs : List α} {es : List β} (h : Paired F xs es) : ∀ {i : Nat} {x : α}, xs[i]? = some x → ∃ e, es[i]? = some e ∧ F x e := by
  induction h with
  | nil => intro i x e; simp at e
  | cons h1 _ ih =>
    intro i x e
    cases i with
    | zero => exact ⟨_, rfl, by have := Option.some.inj e; subst this; exact h1⟩
    | succ i => exact ih e
theorem paired_mapr {γ : Type} {g : β → γ} {G : α → γ → Prop} {xs : List α} {es : List β} (h : Paired F xs es) (hg : ∀ a b, F a b → G a (g b)) : Paired G xs (es.map g) := by
  induction h with
  | nil => exact .nil
  | cons h1 _ ih => exact .cons (hg _ _ h1) ih
end
section
variable {J : It} {n : Nat} {G : Hp → Prop} {Y : Nat → Hp → V → Hp → Prop} {α : Type}
/-- a comprehension whose elements stand to es as R says -/
theorem lc_rel (w : Walk J n G Y) {j : Nat} {te : TE} {vs : List Nat} {σ : St} {H1 : Hp} {Q : VK} (es : List α) (hl : es.length = n) (hn : n ≤ sizeLine) (hG : ∀ H, Ex H1 H → G H)
    (R : α → V → Hp → Prop) (hR : ∀ e y H H', TupS H H' → R e y H → R e y H') (hw : ∀ x, wipe ((wipe σ vs).set j x) vs = wipe σ vs)
    (hs : ∀ i x e H H' (K : VK), i < n → Ex H1 H → Y i H x H' → es[i]? = some e → (∀ y H4, Ex H H4 → R e y H4 → K y H4) → te ((wipe σ vs).set j (some x)) H' K)
    (hd : ∀ D H' ys, H1 D = none → Ex H1 H' → H' D = some (.lst ys) → Paired (fun y e => R e y H') ys es → Q (.ref D) H') :
    LcG J (gName j) tYes te vs σ H1 Q := by
  intro D hD
  refine lc_it w (fun i H => Ex H1 H ∧ ∃ ys, H D = some (.lst ys) ∧ Paired (fun y e => R e y H) ys (es.take i)) ⟨Ex.new hD, [], upd_same, .nil⟩ (fun i H _ p => hG H p.1) ?_ (fun H p => ?_)
  · rintro i x H H' hi ⟨e, ys, hacc, hp⟩ hy
    have hi' : i < es.length := by omega
    obtain ⟨y, hyi⟩ : ∃ y, es[i]? = some y := ⟨es[i], by simp [hi']⟩
    refine ⟨hw _, ?_⟩
    unfold tYes
    dsimp only
    rw [if_pos rfl]
    have hlen : ys.length = i := by rw [hp.length, List.length_take]; omega
    refine hs i x y H H' _ hi e hy hyi fun z H4 e4 rz => ⟨ys, e4 _ _ hacc, by omega, ?_, ys ++ [z], upd_same, ?_⟩
    · exact Ex.mut (e.trans e4) hD
    · have tu : TupS H4 (upd H4 D (.lst (ys ++ [z]))) := TupS.upd (e4 _ _ hacc) (fun _ => by simp)
      rw [List.take_add_one, hyi]
      exact Paired.snoc (Paired.mapP hp fun a b q => hR _ _ _ _ (e4.tups.trans tu) q) (hR _ _ _ _ tu rz)
  · obtain ⟨e, ys, h, hp⟩ := p
    rw [← hl, List.take_length] at hp
    exact hd D H ys hD e h hp
end
/-- while the dict at d is walked -/
structure LkEx (d : Addr) (s : Bg) (H H' : Hp) : Prop where
  keep : ∀ a o, a ≠ d → H a = some o → H' a = some o
  self : Rd H' d (.dK (toK s))
theorem LkEx.rd {d : Addr} {s : Bg} {H H' : Hp} (l : LkEx d s H H') (hd : Rd H d (.dK (toK s))) {b : Addr} {t : Bg} (h : Rd H b (.dK (toK t))) : Rd H' b (.dK (toK t)) := by
  by_cases e : b = d
  · subst e
    have : toK t = toK s := by
      rcases h with h | ⟨o, h⟩ <;> rcases hd with hd | ⟨o', hd⟩
      · exact HO.dK.inj (Option.some.inj (h.symm.trans hd))
      · exact absurd (Option.some.inj (h.symm.trans hd)) (by simp)
      · exact absurd (Option.some.inj (h.symm.trans hd)) (by simp)
      · have := Option.some.inj (h.symm.trans hd)
        injection this with _ e2
        exact HO.dK.inj e2
    rw [this]
    exact l.self
  · rcases h with h | ⟨o, h⟩
    · exact .inl (l.keep b _ e h)
    · exact .inr ⟨o, l.keep b _ e h⟩
theorem LkEx.ex {d : Addr} {s : Bg} {H H' H'' : Hp} (l : LkEx d s H H') (e : Ex H' H'') : LkEx d s H H'' := ⟨fun a o n h => e _ _ (l.keep a o n h), e.rd l.self⟩
/-- a comprehension over a dict's keys -/
theorem lcd_rel {σ : St} {H : Hp} {Q : VK} {d : Addr} {s : Bg} {te0 te : TE} {j : Nat} {vs : List Nat} (hd : Rd H d (.dK (toK s))) (hz : s.length ≤ sizeLine)
    (he : ∀ (H' : Hp) (Q : VK), LkEx d s H H' → Q (.ref d) H' → te0 σ H' Q)
    (R : Str × Int → V → Hp → Prop) (hR : ∀ e y H H', TupS H H' → R e y H → R e y H') (hw : ∀ x, wipe ((wipe σ vs).set j x) vs = wipe σ vs)
    (hs : ∀ (i : Nat) (w : Str) (n : Int) (H' : Hp) (K : VK), s[i]? = some (w, n) → LkEx d s H H' → (∀ y H4, Ex H' H4 → R (w, n) y H4 → K y H4) → te ((wipe σ vs).set j (some (.str w))) H' K)
    (hend : ∀ D H' ys, H D = none → Ex H H' → H' D = some (.lst ys) → Paired (fun y e => R e y H') ys s → Q (.ref D) H') : tLockRE (tLc (iKeys te0) (gName j) tYes te vs) σ H Q := by
  have core : ∀ (Hl : Hp) (od : Obj) (Q' : VK), Hl d = some (.frz od (.dK (toK s))) → (∀ a o, a ≠ d → (H a = some o ↔ Hl a = some o)) → (∀ a, Hl a = none → H a = none) →
      (∀ D H' ys, H D = none → Ex Hl H' → H' D = some (.lst ys) → Paired (fun y e => R e y H') ys s → Q' (.ref D) H') → tLc (iKeys te0) (gName j) tYes te vs σ Hl Q' := by
    intro Hl od Q' hl hsame hnone hE
    have l0 : LkEx d s H Hl := ⟨fun a o h2 q => (hsame a o h2).mp q, .inr ⟨od, hl⟩⟩
    refine he Hl _ l0 ⟨d, od, rfl, .inl ⟨toK s, hl, ?_⟩⟩
    show LcG _ _ _ _ _ _ _ _
    refine lc_rel walk_keys s (toK_len s).symm (by rw [toK_len]; exact hz) (fun H' e => e _ _ hl) R hR hw ?_ (fun D H' ys hD => hE D H' ys (hnone D hD))
    rintro i x e H2 H3 K hi e2 ⟨rfl, k, v, hk, rfl⟩ hei hK
    obtain ⟨w, n, hw', ekv⟩ := toK_get hk
    cases ekv
    rw [hw'] at hei
    obtain rfl := (Option.some.inj hei).symm
    exact hs i w n H3 K hw' (l0.ex e2) hK
  rcases hd with hd | ⟨od, hd⟩
  · refine .inl ⟨d, _, hd, trivial, fun od => ?_⟩
    refine core _ od _ upd_same (fun a o ha => by rw [upd_ne ha]) (fun a ha => ?_) (fun D H' ys hD e hl hp => ?_)
    · by_cases q : a = d
      · subst q; rw [upd_same] at ha; cases ha
      · rw [upd_ne q] at ha; exact ha
    · have hdl : H' d = some (.frz od (.dK (toK s))) := e _ _ upd_same
      have hne : D ≠ d := fun q => by subst q; rw [hd] at hD; cases hD
      refine ⟨hdl, hend D _ ys hD (fun a o q => ?_) (by rw [upd_ne hne]; exact hl) (Paired.mapP hp fun a b q => hR _ _ _ _ (TupS.upd hdl fun _ => by simp) q)⟩
      by_cases ha : a = d
      · subst ha
        rw [hd] at q
        cases q
        exact upd_same
      · rw [upd_ne ha]
        exact e a o (by rw [upd_ne ha]; exact q)
  · exact .inr (core H od Q hd (fun a o _ => Iff.rfl) (fun _ h => h) hend)
/-- a comprehension that turns f's object meanwhile -/
theorem lc_mut {J : It} {n : Nat} {G : Hp → Prop} {Y : Nat → Hp → V → Hp → Prop} (w : Walk J n G Y) {f : Addr} {o0 : HO} {j : Nat} {te : TE} {vs : List Nat} {σ : St} {H1 : Hp} {Q : VK} (hf : H1 f = some o0) (hn : n ≤ sizeLine) (I : Hp → Prop) (h0 : I H1)
    (hI : ∀ H D o, H1 D = none → I H → I (upd H D o)) (hG : ∀ H, ExB f H1 H → I H → G H) (P : V → Prop) (hw : ∀ x, wipe ((wipe σ vs).set j x) vs = wipe σ vs)
    (hs : ∀ i x H H' (K : VK), i < n → ExB f H1 H → I H → Y i H x H' → (∀ y H4, ExB f H H4 → I H4 → P y → K y H4) → te ((wipe σ vs).set j (some x)) H' K)
    (hd : ∀ D H' ys, H1 D = none → ExB f H1 H' → I H' → H' D = some (.lst ys) → ys.length = n → (∀ y ∈ ys, P y) → Q (.ref D) H') :
    LcG J (gName j) tYes te vs σ H1 Q := by
  intro D hD
  have hDf : D ≠ f := Ne.symm (ne_of_none hf hD)
  refine lc_it w (fun i H => ExB f H1 H ∧ I H ∧ ∃ ys, H D = some (.lst ys) ∧ ys.length = i ∧ ∀ y ∈ ys, P y) ⟨(Ex.new hD).exb, hI _ _ _ hD h0, [], upd_same, rfl, fun _ h => nomatch h⟩ (fun i H _ p => hG H p.1 p.2.1) ?_ (fun H p => ?_)
  · rintro i x H H' hi ⟨e, hi1, ys, hacc, hl, hp⟩ hy
    refine ⟨hw _, ?_⟩
    unfold tYes
    dsimp only
    rw [if_pos rfl]
    refine hs i x H H' _ hi e hi1 hy fun z H4 e4 i4 pz => ⟨ys, e4 _ _ hDf hacc, by omega, ?_, hI _ _ _ hD i4, ys ++ [z], upd_same, by rw [List.length_append, hl]; rfl, fun y hy => ?_⟩
    · exact fun a o hne q => by rw [upd_ne (ne_of_none q hD)]; exact e4 a o hne (e a o hne q)
    · rcases List.mem_append.mp hy with h | h
      · exact hp y h
      · rw [List.mem_singleton.mp h]; exact pz
  · obtain ⟨e, hi, ys, h, hl, hp⟩ := p
    exact hd D H ys hD e hi h hl hp
end Fp

/-! Displays of dicts and lists of them; how big a dict is. -/
namespace Fp
open PySem L2
theorem forG {J : It} {n : Nat} {G : Hp → Prop} {Y : Nat → Hp → V → Hp → Prop} (w : Walk J n G Y) {g : TG} {tb : TS} {D : Ends} {σ : St} {H : Hp} (Pv : Nat → St → Hp → Prop) (h0 : Pv 0 σ H) (hG : ∀ i σ H, i ≤ n → Pv i σ H → G H)
    (hs : ∀ i x σ H H', i < n → Pv i σ H → Y i H x H' → g x σ H' fun σ2 H2 => tb { D with nx := Pv (i + 1), ct := Pv (i + 1), bk := D.nx } σ2 H2) (hd : ∀ σ H, Pv n σ H → D.nx σ H) : ForG J g tb D σ H := for_it w Pv h0 hG hs hd
theorem mergeK_app (a : List (Key × V)) : ∀ b : List (Key × V), ((a ++ b).map (·.1)).Nodup → mergeK a b = a ++ b
  | [], _ => (List.append_nil a).symm
  | q :: r, h => by
    show mergeK (putK a q.1 q.2) r = a ++ q :: r
    have hn : valV a q.1 = none := by
      cases e : valV a q.1 with
      | none => rfl
      | some x =>
        unfold valV at e
        cases f : a.find? fun kv => decide (kv.1 = q.1) with
        | none => rw [f] at e; cases e
        | some y =>
          have h1 := List.mem_of_find?_eq_some f
          have h2 := List.find?_some f
          rw [List.map_append, List.nodup_append] at h
          exact absurd (of_decide_eq_true h2) (h.2.2 y.1 (List.mem_map.mpr ⟨y, h1, rfl⟩) q.1 (by simp))
    rw [putK_new q.2 hn, mergeK_app (a ++ [(q.1, q.2)]) r (by rw [List.append_assoc]; exact h), List.append_assoc]
    rfl
theorem mergeK_toK {s : Bg} (h : (keys s).Nodup) : mergeK [] (toK s) = toK s := by
  refine (mergeK_app [] (toK s) ?_)
  rw [List.nil_append]
  unfold toK
  rw [List.map_map]
  have e : ((fun x : Key × V => x.1) ∘ fun kv : Str × Int => ((Sum.inr kv.1 : Key), V.int kv.2)) = (Sum.inr : Str → Key) ∘ (·.1) := rfl
  rw [e, ← List.map_map]
  exact List.Pairwise.map _ (fun a b q e => q (Sum.inr.inj e)) h
/-- a display tells the new dict s -/
def DispOk (te : TE) (σ : St) (s : Bg) : Prop := ∀ (H : Hp) (Q : VK), (∀ p H', Ex H H' → H p = none → H' p = some (.dK (toK s)) → Q (.ref p) H') → te σ H Q
def PureT (te : TE) (σ : St) (v : V) : Prop := ∀ (H : Hp) (Q : VK), Q v H → te σ H Q
theorem pure_c {v : V} {σ : St} : PureT (tC v) σ v := fun _ _ q => q
theorem pure_v {v : V} {σ : St} {i : Nat} (h : σ[i]? = some (some v)) : PureT (tVar i) σ v := fun _ _ q => ⟨v, h, q⟩
def PairsOk : List (TE × TE) → St → Bg → Prop
  | [], _, [] => True
  | t :: r, σ, q :: s => PureT t.1 σ (.str q.1) ∧ PureT t.2 σ (.int q.2) ∧ PairsOk r σ s
  | _, _, _ => False
theorem pairs_ok {σ : St} : ∀ {trs : List (TE × TE)} {s : Bg} {H : Hp} {R : List (V × V) → Hp → Prop}, PairsOk trs σ s → R ((toK s).map fun kv => (kV kv.1, kv.2)) H → tPairs trs σ H R
  | [], [], _, _, _, h => h
  | [], _ :: _, _, _, ok, _ => ok.elim
  | _ :: _, [], _, _, ok, _ => ok.elim
  | (tk, tv) :: r, q :: s, H, R, ok, h => ok.1 H _ (ok.2.1 H _ (pairs_ok (R := fun ps H => R ((V.str q.1, V.int q.2) :: ps) H) ok.2.2 h))
theorem disp_ok {trs : List (TE × TE)} {σ : St} {s : Bg} (ok : PairsOk trs σ s) (hn : (keys s).Nodup) (hl : s.length ≤ 15) : DispOk (tDisp trs) σ s := fun H Q q p hp => by
  refine pairs_ok ok ⟨upd_same, toK s, rfl, by rw [toK_len]; exact hl, ?_⟩
  rw [mergeK_toK hn]
  exact q p _ (Ex.mut (Ex.new hp) hp) hp upd_same
def ArgsOk (tA : TA) (σ : St) (ss : List Bg) : Prop := ∀ (H : Hp) (QA : List V → Hp → Prop), (∀ (ps : List Addr) H', Ex H H' → Paired (fun p s => H p = none ∧ H' p = some (.dK (toK s))) ps ss → QA (ps.map V.ref) H') → tA σ H QA
theorem args_nil {σ : St} : ArgsOk tNil σ [] := fun H QA q => q [] H (Ex.refl H) .nil
theorem args_cons {σ : St} {te : TE} {tA : TA} {s : Bg} {ss : List Bg} (h : DispOk te σ s) (h2 : ArgsOk tA σ ss) : ArgsOk (tCons te tA) σ (s :: ss) := fun H QA q =>
  h H _ fun p H1 e1 hp0 hp => h2 H1 _ fun ps H2 e2 hps => q (p :: ps) H2 (e1.trans e2) (.cons ⟨hp0, e2 _ _ hp⟩ (Paired.mapP hps fun _ _ z => ⟨e1.free z.1, z.2⟩))
theorem paired_app {α β : Type} {F : α → β → Prop} {a : List α} {b : List β} {c : List α} {d : List β} (h : Paired F a b) (h2 : Paired F c d) : Paired F (a ++ c) (b ++ d) := by
  induction h with
  | nil => exact h2
  | cons q _ ih => exact .cons q ih
theorem paired_nth {α β : Type} {F : α → β → Prop} {a : List α} {b : List β} (h : Paired F a b) : ∀ {i : Nat}, i < b.length → ∃ x y, a[i]? = some x ∧ y ∈ b ∧ F x y := by
  induction h with
  | nil => intro i hi; exact absurd hi (Nat.not_lt_zero _)
  | @cons x y _ _ q _ ih =>
    intro i hi
    cases i with
    | zero => exact ⟨x, y, rfl, List.mem_cons_self, q⟩
    | succ i =>
      obtain ⟨x', y', h1, h2, h3⟩ := ih (i := i) (by rw [List.length_cons] at hi; omega)
      exact ⟨x', y', h1, List.mem_cons_of_mem _ h2, h3⟩
end Fp

/-! tuple(list), its object known; dict(that tuple of pairs). -/
namespace Fp
open PySem L2 PyProof.Rows
section
variable {X : Cx}
/-- tuple(list): a tuple without a dict -/
def rTupleZ (K : PySem.W.Frag) : List V → Hp → VK → Prop := fun xs H Q => ∃ p ys, xs = [V.ref p] ∧ SqL K H p ys ∧ ∀ l (o : Obj), H l = none → o.dict = none → Q (.ref l) (upd H l (.frz o (.tup ys)))
theorem call_tupleZ : CallR X (.type "tuple") (rTupleZ X.K) := by
  intro pins s σ H xs us Q I r h
  obtain ⟨p, ys, rfl, hq, q⟩ := h
  obtain ⟨u, rfl, rx⟩ := vals1 r
  cases rx
  obtain ⟨its, r', pl, hz⟩ := I.list hq
  have hlen := r'.length
  refine PySem.call_tuple_list pl.isList (fun h' kp => ?_) (by simp only [List.size_toArray] <;> omega)
  have I1 : Inv X pins σ H { s with heap := h' } := I.kept (t' := s.toks) kp
  have I2 : Inv X pins σ (upd H h'.objs.size (.frz { cls := .type "tuple", data := .seq its.toArray } (.tup ys))) { s with heap := h'.push { cls := .type "tuple", data := .seq its.toArray } } :=
    I1.laid (t' := s.toks) (fun b o e => Heap.get?_push_of_some _ e) (Nat.le_refl _) (show ObjOk X.prog X.w _ _ _ (.frz _ (.tup ys)) from ⟨Heap.get?_push_size _ rfl, hz, its, r', IsTup.new _ _⟩)
  exact ⟨.ref h'.objs.size, _, I2, rfl, q _ _ (I1.hok.fresh (Nat.le_refl _)) rfl⟩
theorem pairs_ofV {pins : List (Addr × Obj)} {σ : L2.St} {H : Hp} {s : Shared} (I : Inv X pins σ H s) : ∀ {ps : List Addr} {kvs : List (Key × V)}, Paired (fun p kv => SqT X.K H p [kV kv.1, kv.2]) ps kvs →
    ∃ (prs : List (Key × Value)) (ws : List (Value × Value)), KV kvs prs ∧ prs.length = ps.length ∧ ws.length = ps.length ∧ ∀ (j : Nat) (k v : Value), ws[j]? = some (k, v) → ∃ (b : Addr) (key : Key), ps[j]? = some b ∧ IsTup s.heap b #[k, v] ∧ prs[j]? = some (key, v) ∧ (mixKind X.prog X.w).is key k = true
  | _, _, .nil => ⟨[], [], .nil, rfl, rfl, fun j k v e => by simp at e⟩
  | _, _, .cons (a := p) (b := kv) h t => by
    obtain ⟨prs, ws, r, hl, hl2, hp⟩ := pairs_ofV I t
    obtain ⟨its, rv, ht, _⟩ := I.tuple h
    obtain ⟨u, y, ei, ru, ry⟩ := vals2 rv
    subst ei
    refine ⟨(kv.1, y) :: prs, (u, y) :: ws, .cons ⟨rfl, ry⟩ r, by rw [List.length_cons, List.length_cons, hl], by rw [List.length_cons, List.length_cons, hl2], fun j k v e => ?_⟩
    cases j with
    | zero =>
      have e' : (u, y) = (k, v) := Option.some.inj e
      cases e'
      exact ⟨p, kv.1, rfl, ht, rfl, kV_is (P := X.prog) (w := X.w) ru⟩
    | succ j =>
      obtain ⟨b, key, e1, e2, e3, e4⟩ := hp j k v (by simpa using e)
      exact ⟨b, key, by simpa using e1, e2, by simpa using e3, e4⟩
def rDictT (K : PySem.W.Frag) : List V → Hp → VK → Prop := fun xs H Q => ∃ (a : Addr) (o : Obj) (ps : List Addr) (kvs : List (Key × V)), xs = [.ref a] ∧ H a = some (.frz o (.tup (ps.map V.ref))) ∧ o.dict = none ∧ Paired (fun p kv => SqT K H p [kV kv.1, kv.2]) ps kvs ∧
    ∀ p, H p = none → Q (.ref p) (upd H p (.dK (mergeK [] kvs)))
theorem call_dictT (hcalm : X.calm = true) : CallR X (.type "dict") (rDictT X.K) := by
  intro pins s σ H xs us Q I r q
  obtain ⟨a, o, ps, kvs, ex, ha, hod, hp, q⟩ := q
  subst ex
  obtain ⟨u, eu, rx⟩ := vals1 r
  subst eu
  cases rx
  obtain ⟨hg, hz, its, rv, o', ho', hc, n, hdat⟩ := (show ObjOk X.prog X.w H s.heap a (.frz o (.tup (ps.map V.ref))) from I.hok a _ ha)
  rw [hg] at ho'
  cases ho'
  have ei := refs_at rv
  subst ei
  rw [List.length_map] at hz
  obtain ⟨prs, ws, rel, hl, hl2, hpr⟩ := pairs_ofV I hp
  have ok : PlainSeq "tuple" s.heap a (ps.map Value.ref).toArray ∧ PairItems s.heap (ps.map Value.ref).toArray (fun j => ps.getD j 0) ws := by
    refine ⟨⟨o, n, hg, hc, hod, hdat⟩, by simp [hl2], fun j k v e => ?_⟩
    obtain ⟨b, key, e1, e2, e3, e4⟩ := hpr j k v e
    refine ⟨by simp [e1, List.getD], .inl ?_⟩
    have : ps.getD j 0 = b := by simp [List.getD, e1]
    show s.heap.IsTuple (ps.getD j 0) #[k, v]
    rw [this]
    obtain ⟨ob, h1, h2, n2, h3⟩ := e2
    exact ⟨ob, h1, h2, n2, h3⟩
  refine call_dict_pairs (knd := mixKind X.prog X.w) (kvs := prs) (PairArg.tuple a (ps.map Value.ref).toArray (fun j => ps.getD j 0) ws) (I.ok.hd hcalm) ok ⟨by rw [hl, hl2], fun i key v e => ?_⟩ (by rw [hl2]; exact hz) fun h' tk hd' k => ?_
  · obtain ⟨b, key', e1, e2, e3, e4⟩ := hpr i key v e
    exact ⟨key', e3, e4⟩
  · have hm : (s.heap.objs.size == sysModules) = false := beq_eq_false_iff_ne.mpr (Nat.ne_of_gt I.big)
    have hlen : (mergeK [] kvs).length ≤ sizeLine := by
      refine Nat.le_trans (length_mergeK kvs []) ?_
      rw [List.length_nil, Nat.zero_add, rel.length, hl]
      exact hz
    exact ⟨.ref s.heap.objs.size, upd H s.heap.objs.size (.dK (mergeK [] kvs)), I.laid (t' := tk) (fun b u e => k b u (fun h => nomatch h) e) (Nat.le_refl _) (show ObjOk X.prog X.w _ _ _ (.dK (mergeK [] kvs)) from ⟨hlen, hm, merged [] prs, KV.merge rel .nil, hd'⟩), rfl, q _ (I.hok.fresh (Nat.le_refl _))⟩
end
end Fp

/-! Own errors without a message. -/
namespace Fp
open PySem L2 PyProof.Rows
section
variable {X : Cx} {C : Addr} {bmB : List Value} {B newId initId : String}
/-- X() -/
theorem pmk_own0 {x : Str} {p pos : Pos} (F : ExcBaseFacts B newId initId bmB) (q : PySem.W.excIn X.K C bmB newId = true) (gC : X.mg x = some (.ref C)) (kC : PySem.W.keepIn X.K (.ref C) = true) (r : Raises X (.ref C)) (hg : Gl X x)
    (hdb : (x == ("__debug__" : Str)) = false := by decide) : PMk X (.Call (.Name x p) [] [] pos) (fun _ H Q => Q (.ref C) none H) := by
  intro pins s σ H Q I h
  refine wpAny_Call_Name_kw (ld_glob I hg gC ?_ hdb)
  refine PySem.W.callWith_K0 I.kIn kC ?_
  show wpAny _ _ (call (.ref C) []) _ _ _
  obtain ⟨bm, N, nm, qn, bs, hdct, sn, sub, ab, col, dd, k0, k1, k2, k3, k5, mN, hC, hN, hni, T⟩ := exc_obj I.kIn q
  refine wpAny_call_exc_subT F T hC hN hni (fun h' e hm => ?_) (Nat.zero_le _)
  exact mk_of I hm r h (I.hok.gone hm.new)
/-- an own error's class: the facts -/
structure ErrC (K : PySem.W.Frag) (mg : Str → Option Value) (nm : Str) (C : Addr) : Prop where
  g : mg nm = some (.ref C)
  q : PySem.W.excIn K C [.type "ValueError", .type "Exception", .type "BaseException", .type "object"] "ValueError.__new__" = true
  k : PySem.W.keepIn K (.ref C) = true
  b : PySem.W.subIn K (.ref C) (.type "BaseException") = some true
  t : PySem.W.typeIn K (.ref C) = some (.type "type")
theorem ps_err {W : WX} {x : Str} {p pos pos' : Pos} (hc : X.calm = true) (tk : Takes X W) (D : ErrC X.K X.mg x C) (hg : Gl X x) (hdb : (x == ("__debug__" : Str)) = false := by decide) :
    PS X (.Raise (some (.Call (.Name x p) [] [] pos)) none pos') (fun _ σ H => W (.ref C) none σ H) :=
  L2.ps_raise hc tk (pmk_own0 PySem.F.excBase_ValueError D.q D.g D.k (raises_own D.b D.t) hg hdb)
/-- a def that raises: called where the error is let out or caught -/
theorem pe_callDX {W : WX} {k : Nat} {ps : List Str} {sp : Sp} {x : Str} {p pos : Pos} {e : Expr} {es : List Expr} {t : TA} (D : DefOk X.prog X.w X.K X.mg X.base (L2.CX X.prog X.w) k x ps sp) (hr : Room k X.A) (hg : Gl X x) (tk : Takes X W) (ha : PA X (e :: es) t)
    (hdb : (x == ("__debug__" : Str)) = false := by decide) (he : starEach (e :: es) X.env = (false, eval e X.env) :: starEach es X.env := by rfl) (hpl : (backTo pos (starEach es X.env)).any (·.1) = false := by rfl) :
    PE X (.Call (.Name x p) (e :: es) [] pos) (tCallS sp (WE W) t) := by
  obtain ⟨f, fd, hm, hk, hb, F⟩ := D.ex
  exact pe_callS F hr hg hm hk hb (fun σ => passAt tk σ) ha hdb he hpl
theorem g_callS {sp : Sp} {E : L2.St → XK} {tA : TA} {σ : L2.St} {H : Hp} {Q : VK} (h : tA σ H fun vs H1 => sp vs H1 Q (E σ)) : tCallS sp E tA σ H Q := h
/-- a list or a tuple -/
def iSeq (K : PySem.W.Frag) (te : TE) : TI := fun σ H R => iList K te σ H R ∨ iTup K te σ H R
theorem pi_seq {tg l : Expr} {tl : TE} (hl : PE X l tl) : PI X tg l (iSeq X.K tl) := ⟨fun pins s σ H R I q => q.elim ((pi_list hl).run pins s σ H R I) ((pi_tup hl).run pins s σ H R I)⟩
theorem pi_seqK {K : PySem.W.Frag} (hK : X.K = K) {tg l : Expr} {tl : TE} (hl : PE X l tl) : PI X tg l (iSeq K tl) := hK ▸ pi_seq hl
theorem pe_fldK {K : PySem.W.Frag} (hK : X.K = K) {e : Expr} {f : Str} {pos : Pos} {ta : TE} (he : PE X e ta) (hb : attributeBase e f X.env (eval e X.env) = eval e X.env) : PE X (.Attribute e f pos) (tFld K ta f) := hK ▸ pe_fld he hb
end
end Fp

namespace Fp
open PySem L2
def top (i : Nat) : Stmt := PySem.Challenge.pw_frontparts_k13_whole_rests_by_a_row.main.body.getD i (.Pass ⟨0, 0, 0, 0⟩)
abbrev s_BadBag_init : Stmt := inClass (top 2) 0
abbrev N_BadBag_init : List Str := ["self", "part"]
theorem st_BadBag_init : ∀ v0 v1 : V, start N_BadBag_init [v0, v1] = [some v0, some v1] := fun _ _ => rfl
abbrev s_is_integer : Stmt := top 10
abbrev N_is_integer : List Str := ["thing"]
theorem st_is_integer : ∀ v0 : V, start N_is_integer [v0] = [some v0] := fun _ => rfl
theorem sc_is_integer : FnScope N_is_integer ["thing"] (defScope s_is_integer) := ⟨rfl, rfl, rfl, by decide +kernel, rfl, by decide +kernel, by decide +kernel⟩
abbrev s_is_within : Stmt := top 11
abbrev N_is_within : List Str := ["thing", "least", "most"]
theorem st_is_within : ∀ v0 v1 v2 : V, start N_is_within [v0, v1, v2] = [some v0, some v1, some v2] := fun _ _ _ => rfl
theorem sc_is_within : FnScope N_is_within ["thing", "least", "most"] (defScope s_is_within) := ⟨rfl, rfl, rfl, by decide +kernel, rfl, by decide +kernel, by decide +kernel⟩
abbrev s_is_listed : Stmt := top 12
abbrev N_is_listed : List Str := ["thing"]
theorem st_is_listed : ∀ v0 : V, start N_is_listed [v0] = [some v0] := fun _ => rfl
theorem sc_is_listed : FnScope N_is_listed ["thing"] (defScope s_is_listed) := ⟨rfl, rfl, rfl, by decide +kernel, rfl, by decide +kernel, by decide +kernel⟩
abbrev s_is_clock : Stmt := top 13
abbrev N_is_clock : List Str := ["thing"]
theorem st_is_clock : ∀ v0 : V, start N_is_clock [v0] = [some v0] := fun _ => rfl
theorem sc_is_clock : FnScope N_is_clock ["thing"] (defScope s_is_clock) := ⟨rfl, rfl, rfl, by decide +kernel, rfl, by decide +kernel, by decide +kernel⟩
abbrev s_is_word : Stmt := top 14
abbrev N_is_word : List Str := ["thing", "letter"]
theorem st_is_word : ∀ v0 : V, start N_is_word [v0] = [some v0, none] := fun _ => rfl
theorem sc_is_word : FnScope N_is_word ["thing"] (defScope s_is_word) := ⟨rfl, rfl, rfl, by decide +kernel, rfl, by decide +kernel, by decide +kernel⟩
abbrev s_is_short_word : Stmt := top 15
abbrev N_is_short_word : List Str := ["thing"]
theorem st_is_short_word : ∀ v0 : V, start N_is_short_word [v0] = [some v0] := fun _ => rfl
theorem sc_is_short_word : FnScope N_is_short_word ["thing"] (defScope s_is_short_word) := ⟨rfl, rfl, rfl, by decide +kernel, rfl, by decide +kernel, by decide +kernel⟩
abbrev s_inverse : Stmt := top 17
abbrev N_inverse : List Str := ["clock", "number", "found", "step"]
theorem st_inverse : ∀ v0 v1 : V, start N_inverse [v0, v1] = [some v0, some v1, none, none] := fun _ _ => rfl
theorem sc_inverse : FnScope N_inverse ["clock", "number"] (defScope s_inverse) := ⟨rfl, rfl, rfl, by decide +kernel, rfl, by decide +kernel, by decide +kernel⟩
abbrev s_ahead_key : Stmt := top 18
abbrev N_ahead_key : List Str := ["word"]
theorem st_ahead_key : ∀ v0 : V, start N_ahead_key [v0] = [some v0] := fun _ => rfl
theorem sc_ahead_key : FnScope N_ahead_key ["word"] (defScope s_ahead_key) := ⟨rfl, rfl, rfl, by decide +kernel, rfl, by decide +kernel, by decide +kernel⟩
abbrev s_words_in_order : Stmt := top 19
abbrev N_words_in_order : List Str := ["sparse"]
theorem st_words_in_order : ∀ v0 : V, start N_words_in_order [v0] = [some v0] := fun _ => rfl
theorem sc_words_in_order : FnScope N_words_in_order ["sparse"] (defScope s_words_in_order) := ⟨rfl, rfl, rfl, by decide +kernel, rfl, by decide +kernel, by decide +kernel⟩
abbrev s_first_word : Stmt := top 20
abbrev N_first_word : List Str := ["sparse"]
theorem st_first_word : ∀ v0 : V, start N_first_word [v0] = [some v0] := fun _ => rfl
theorem sc_first_word : FnScope N_first_word ["sparse"] (defScope s_first_word) := ⟨rfl, rfl, rfl, by decide +kernel, rfl, by decide +kernel, by decide +kernel⟩
abbrev s_put_to : Stmt := top 21
abbrev N_put_to : List Str := ["clock", "sparse", "word", "number", "total"]
theorem st_put_to : ∀ v0 v1 v2 v3 : V, start N_put_to [v0, v1, v2, v3] = [some v0, some v1, some v2, some v3, none] := fun _ _ _ _ => rfl
theorem sc_put_to : FnScope N_put_to ["clock", "sparse", "word", "number"] (defScope s_put_to) := ⟨rfl, rfl, rfl, by decide +kernel, rfl, by decide +kernel, by decide +kernel⟩
abbrev s_added : Stmt := top 22
abbrev N_added : List Str := ["clock", "one", "other", "factor", "found", "word"]
theorem st_added : ∀ v0 v1 v2 v3 : V, start N_added [v0, v1, v2, v3] = [some v0, some v1, some v2, some v3, none, none] := fun _ _ _ _ => rfl
theorem sc_added : FnScope N_added ["clock", "one", "other", "factor"] (defScope s_added) := ⟨rfl, rfl, rfl, by decide +kernel, rfl, by decide +kernel, by decide +kernel⟩
abbrev s_scaled : Stmt := top 23
abbrev N_scaled : List Str := ["clock", "sparse", "factor"]
theorem st_scaled : ∀ v0 v1 v2 : V, start N_scaled [v0, v1, v2] = [some v0, some v1, some v2] := fun _ _ _ => rfl
theorem sc_scaled : FnScope N_scaled ["clock", "sparse", "factor"] (defScope s_scaled) := ⟨rfl, rfl, rfl, by decide +kernel, rfl, by decide +kernel, by decide +kernel⟩
abbrev s_with_behind : Stmt := top 24
abbrev N_with_behind : List Str := ["clock", "sparse", "word", "number", "front"]
theorem st_with_behind : ∀ v0 v1 v2 v3 : V, start N_with_behind [v0, v1, v2, v3] = [some v0, some v1, some v2, some v3, none] := fun _ _ _ _ => rfl
theorem sc_with_behind : FnScope N_with_behind ["clock", "sparse", "word", "number"] (defScope s_with_behind) := ⟨rfl, rfl, rfl, by decide +kernel, rfl, by decide +kernel, by decide +kernel⟩
abbrev s_are_words : Stmt := top 26
abbrev N_are_words : List Str := ["clock", "thing", "word"]
theorem st_are_words : ∀ v0 v1 : V, start N_are_words [v0, v1] = [some v0, some v1, none] := fun _ _ => rfl
theorem sc_are_words : FnScope N_are_words ["clock", "thing"] (defScope s_are_words) := ⟨rfl, rfl, rfl, by decide +kernel, rfl, by decide +kernel, by decide +kernel⟩
abbrev s_Bag_init : Stmt := inClass (top 27) 0
abbrev N_Bag_init : List Str := ["self", "clock", "words"]
theorem st_Bag_init : ∀ v0 v1 v2 : V, start N_Bag_init [v0, v1, v2] = [some v0, some v1, some v2] := fun _ _ _ => rfl
theorem sc_Bag_init : FnScope N_Bag_init ["self", "clock", "words"] (defScope s_Bag_init) := ⟨rfl, rfl, rfl, by decide +kernel, rfl, by decide +kernel, by decide +kernel⟩
abbrev s_Bag_keep : Stmt := inClass (top 27) 1
abbrev N_Bag_keep : List Str := ["self", "clock", "sparse", "word"]
theorem st_Bag_keep : ∀ v0 v1 v2 : V, start N_Bag_keep [v0, v1, v2] = [some v0, some v1, some v2, none] := fun _ _ _ => rfl
theorem sc_Bag_keep : FnScope N_Bag_keep ["self", "clock", "sparse"] (defScope s_Bag_keep) := ⟨rfl, rfl, rfl, by decide +kernel, rfl, by decide +kernel, by decide +kernel⟩
abbrev s_Bag_eq : Stmt := inClass (top 27) 2
abbrev N_Bag_eq : List Str := ["self", "other"]
theorem st_Bag_eq : ∀ v0 v1 : V, start N_Bag_eq [v0, v1] = [some v0, some v1] := fun _ _ => rfl
theorem sc_Bag_eq : FnScope N_Bag_eq ["self", "other"] (defScope s_Bag_eq) := ⟨rfl, rfl, rfl, by decide +kernel, rfl, by decide +kernel, by decide +kernel⟩
abbrev s_RawBag_init : Stmt := inClass (top 28) 0
abbrev N_RawBag_init : List Str := ["self", "clock", "sparse"]
theorem st_RawBag_init : ∀ v0 v1 v2 : V, start N_RawBag_init [v0, v1, v2] = [some v0, some v1, some v2] := fun _ _ _ => rfl
theorem sc_RawBag_init : FnScope N_RawBag_init ["self", "clock", "sparse"] (defScope s_RawBag_init) := ⟨rfl, rfl, rfl, by decide +kernel, rfl, by decide +kernel, by decide +kernel⟩
abbrev s_raw : Stmt := top 29
abbrev N_raw : List Str := ["clock", "sparse"]
theorem st_raw : ∀ v0 v1 : V, start N_raw [v0, v1] = [some v0, some v1] := fun _ _ => rfl
theorem sc_raw : FnScope N_raw ["clock", "sparse"] (defScope s_raw) := ⟨rfl, rfl, rfl, by decide +kernel, rfl, by decide +kernel, by decide +kernel⟩
abbrev s_check_clocks : Stmt := top 30
abbrev N_check_clocks : List Str := ["one", "other"]
theorem st_check_clocks : ∀ v0 v1 : V, start N_check_clocks [v0, v1] = [some v0, some v1] := fun _ _ => rfl
theorem sc_check_clocks : FnScope N_check_clocks ["one", "other"] (defScope s_check_clocks) := ⟨rfl, rfl, rfl, by decide +kernel, rfl, by decide +kernel, by decide +kernel⟩
abbrev s_together : Stmt := top 31
abbrev N_together : List Str := ["one", "other"]
theorem st_together : ∀ v0 v1 : V, start N_together [v0, v1] = [some v0, some v1] := fun _ _ => rfl
theorem sc_together : FnScope N_together ["one", "other"] (defScope s_together) := ⟨rfl, rfl, rfl, by decide +kernel, rfl, by decide +kernel, by decide +kernel⟩
abbrev s_is_idle : Stmt := top 33
abbrev N_is_idle : List Str := ["row", "place"]
theorem st_is_idle : ∀ v0 : V, start N_is_idle [v0] = [some v0, none] := fun _ => rfl
theorem sc_is_idle : FnScope N_is_idle ["row"] (defScope s_is_idle) := ⟨rfl, rfl, rfl, by decide +kernel, rfl, by decide +kernel, by decide +kernel⟩
abbrev s_leading : Stmt := top 34
abbrev N_leading : List Str := ["row", "at", "place"]
theorem st_leading : ∀ v0 : V, start N_leading [v0] = [some v0, none, none] := fun _ => rfl
theorem sc_leading : FnScope N_leading ["row"] (defScope s_leading) := ⟨rfl, rfl, rfl, by decide +kernel, rfl, by decide +kernel, by decide +kernel⟩
abbrev s_leading_key : Stmt := top 35
abbrev N_leading_key : List Str := ["row", "at", "word"]
theorem st_leading_key : ∀ v0 : V, start N_leading_key [v0] = [some v0, none, none] := fun _ => rfl
theorem sc_leading_key : FnScope N_leading_key ["row"] (defScope s_leading_key) := ⟨rfl, rfl, rfl, by decide +kernel, rfl, by decide +kernel, by decide +kernel⟩
abbrev s_made_leading : Stmt := top 36
abbrev N_made_leading : List Str := ["clock", "row", "at", "word", "factor", "place"]
theorem st_made_leading : ∀ v0 v1 : V, start N_made_leading [v0, v1] = [some v0, some v1, none, none, none, none] := fun _ _ => rfl
theorem sc_made_leading : FnScope N_made_leading ["clock", "row"] (defScope s_made_leading) := ⟨rfl, rfl, rfl, by decide +kernel, rfl, by decide +kernel, by decide +kernel⟩
abbrev s_taken_off : Stmt := top 37
abbrev N_taken_off : List Str := ["clock", "row", "other", "tail", "number", "rows", "one", "two"]
theorem st_taken_off : ∀ v0 v1 v2 v3 v4 : V, start N_taken_off [v0, v1, v2, v3, v4] = [some v0, some v1, some v2, some v3, some v4, none, none, none] := fun _ _ _ _ _ => rfl
theorem sc_taken_off : FnScope N_taken_off ["clock", "row", "other", "tail", "number"] (defScope s_taken_off) := ⟨rfl, rfl, rfl, by decide +kernel, rfl, by decide +kernel, by decide +kernel⟩
abbrev s_hit_by : Stmt := top 38
abbrev N_hit_by : List Str := ["base", "at", "word", "other", "place", "lead"]
theorem st_hit_by : ∀ v0 v1 v2 : V, start N_hit_by [v0, v1, v2] = [some v0, some v1, some v2, none, none, none] := fun _ _ _ => rfl
theorem sc_hit_by : FnScope N_hit_by ["base", "at", "word"] (defScope s_hit_by) := ⟨rfl, rfl, rfl, by decide +kernel, rfl, by decide +kernel, by decide +kernel⟩
abbrev s_first_hit : Stmt := top 39
abbrev N_first_hit : List Str := ["base", "row", "at", "place", "word", "hit"]
theorem st_first_hit : ∀ v0 v1 : V, start N_first_hit [v0, v1] = [some v0, some v1, none, none, none, none] := fun _ _ => rfl
theorem sc_first_hit : FnScope N_first_hit ["base", "row"] (defScope s_first_hit) := ⟨rfl, rfl, rfl, by decide +kernel, rfl, by decide +kernel, by decide +kernel⟩
abbrev s_reduced : Stmt := top 40
abbrev N_reduced : List Str := ["clock", "base", "row", "hit", "at", "word", "other", "tail"]
theorem st_reduced : ∀ v0 v1 v2 : V, start N_reduced [v0, v1, v2] = [some v0, some v1, some v2, none, none, none, none, none] := fun _ _ _ => rfl
theorem sc_reduced : FnScope N_reduced ["clock", "base", "row"] (defScope s_reduced) := ⟨rfl, rfl, rfl, by decide +kernel, rfl, by decide +kernel, by decide +kernel⟩
abbrev s_led_free : Stmt := top 41
abbrev N_led_free : List Str := ["clock", "rows", "found", "todo", "row", "at", "word", "hit", "longer", "other"]
theorem st_led_free : ∀ v0 v1 : V, start N_led_free [v0, v1] = [some v0, some v1, none, none, none, none, none, none, none, none] := fun _ _ => rfl
theorem sc_led_free : FnScope N_led_free ["clock", "rows"] (defScope s_led_free) := ⟨rfl, rfl, rfl, by decide +kernel, rfl, by decide +kernel, by decide +kernel⟩
abbrev s_reduced_base : Stmt := top 42
abbrev N_reduced_base : List Str := ["clock", "rows", "found", "at", "others"]
theorem st_reduced_base : ∀ v0 v1 : V, start N_reduced_base [v0, v1] = [some v0, some v1, none, none, none] := fun _ _ => rfl
theorem sc_reduced_base : FnScope N_reduced_base ["clock", "rows"] (defScope s_reduced_base) := ⟨rfl, rfl, rfl, by decide +kernel, rfl, by decide +kernel, by decide +kernel⟩
abbrev s_are_bags_alike : Stmt := top 45
abbrev N_are_bags_alike : List Str := ["thing", "most", "bag"]
theorem st_are_bags_alike : ∀ v0 v1 : V, start N_are_bags_alike [v0, v1] = [some v0, some v1, none] := fun _ _ => rfl
theorem sc_are_bags_alike : FnScope N_are_bags_alike ["thing", "most"] (defScope s_are_bags_alike) := ⟨rfl, rfl, rfl, by decide +kernel, rfl, by decide +kernel, by decide +kernel⟩
abbrev s_check_row : Stmt := top 46
abbrev N_check_row : List Str := ["thing"]
theorem st_check_row : ∀ v0 : V, start N_check_row [v0] = [some v0] := fun _ => rfl
theorem sc_check_row : FnScope N_check_row ["thing"] (defScope s_check_row) := ⟨rfl, rfl, rfl, by decide +kernel, rfl, by decide +kernel, by decide +kernel⟩
abbrev s_row_base : Stmt := top 47
abbrev N_row_base : List Str := ["bags", "row", "bag"]
theorem st_row_base : ∀ v0 : V, start N_row_base [v0] = [some v0, none, none] := fun _ => rfl
theorem sc_row_base : FnScope N_row_base ["bags"] (defScope s_row_base) := ⟨rfl, rfl, rfl, by decide +kernel, rfl, by decide +kernel, by decide +kernel⟩
abbrev s_rest : Stmt := top 48
abbrev N_rest : List Str := ["row", "bag", "clock", "sparse"]
theorem st_rest : ∀ v0 v1 : V, start N_rest [v0, v1] = [some v0, some v1, none, none] := fun _ _ => rfl
theorem sc_rest : FnScope N_rest ["row", "bag"] (defScope s_rest) := ⟨rfl, rfl, rfl, by decide +kernel, rfl, by decide +kernel, by decide +kernel⟩
abbrev s_law_hand : Stmt := top 50
abbrev N_law_hand : List Str := ["_law_script", "_law_cells", "_law_cell"]
theorem st_law_hand : ∀ v0 : V, start N_law_hand [v0] = [some v0, none, none] := fun _ => rfl
theorem sc_law_hand : FnScope N_law_hand ["_law_script"] (defScope s_law_hand) := ⟨rfl, rfl, rfl, by decide +kernel, rfl, by decide +kernel, by decide +kernel⟩
abbrev s_law_draw : Stmt := top 51
abbrev N_law_draw : List Str := ["_law_hand_here", "_law_many", "_law_cell", "_law_digit", "_law_number"]
theorem st_law_draw : ∀ v0 v1 : V, start N_law_draw [v0, v1] = [some v0, some v1, none, none, none] := fun _ _ => rfl
theorem sc_law_draw : FnScope N_law_draw ["_law_hand_here", "_law_many"] (defScope s_law_draw) := ⟨rfl, rfl, rfl, by decide +kernel, rfl, by decide +kernel, by decide +kernel⟩
abbrev s_law_put : Stmt := top 52
abbrev N_law_put : List Str := ["_law_clock_here", "_law_bag", "_law_word_here", "_law_number", "_law_total"]
theorem st_law_put : ∀ v0 v1 v2 v3 : V, start N_law_put [v0, v1, v2, v3] = [some v0, some v1, some v2, some v3, none] := fun _ _ _ _ => rfl
theorem sc_law_put : FnScope N_law_put ["_law_clock_here", "_law_bag", "_law_word_here", "_law_number"] (defScope s_law_put) := ⟨rfl, rfl, rfl, by decide +kernel, rfl, by decide +kernel, by decide +kernel⟩
abbrev s_law_plus : Stmt := top 53
abbrev N_law_plus : List Str := ["_law_clock_here", "_law_one", "_law_other", "_law_factor", "_law_found", "_law_word_here"]
theorem st_law_plus : ∀ v0 v1 v2 v3 : V, start N_law_plus [v0, v1, v2, v3] = [some v0, some v1, some v2, some v3, none, none] := fun _ _ _ _ => rfl
theorem sc_law_plus : FnScope N_law_plus ["_law_clock_here", "_law_one", "_law_other", "_law_factor"] (defScope s_law_plus) := ⟨rfl, rfl, rfl, by decide +kernel, rfl, by decide +kernel, by decide +kernel⟩
abbrev s_law_product : Stmt := top 54
abbrev N_law_product : List Str := ["_law_clock_here", "_law_one", "_law_other", "_law_found", "_law_front", "_law_back"]
theorem st_law_product : ∀ v0 v1 v2 : V, start N_law_product [v0, v1, v2] = [some v0, some v1, some v2, none, none, none] := fun _ _ _ => rfl
theorem sc_law_product : FnScope N_law_product ["_law_clock_here", "_law_one", "_law_other"] (defScope s_law_product) := ⟨rfl, rfl, rfl, by decide +kernel, rfl, by decide +kernel, by decide +kernel⟩
abbrev s_law_order : Stmt := top 55
abbrev N_law_order : List Str := ["_law_bag", "_law_pair", "_law_word_here"]
theorem st_law_order : ∀ v0 : V, start N_law_order [v0] = [some v0, none, none] := fun _ => rfl
theorem sc_law_order : FnScope N_law_order ["_law_bag"] (defScope s_law_order) := ⟨rfl, rfl, rfl, by decide +kernel, rfl, by decide +kernel, by decide +kernel⟩
abbrev s_law_words : Stmt := top 56
abbrev N_law_words : List Str := ["_law_bag", "_law_word_here"]
theorem st_law_words : ∀ v0 : V, start N_law_words [v0] = [some v0, none] := fun _ => rfl
theorem sc_law_words : FnScope N_law_words ["_law_bag"] (defScope s_law_words) := ⟨rfl, rfl, rfl, by decide +kernel, rfl, by decide +kernel, by decide +kernel⟩
abbrev s_law_plain : Stmt := top 57
abbrev N_law_plain : List Str := ["_law_clock_here", "_law_bag", "_law_lead", "_law_number"]
theorem st_law_plain : ∀ v0 v1 : V, start N_law_plain [v0, v1] = [some v0, some v1, none, none] := fun _ _ => rfl
theorem sc_law_plain : FnScope N_law_plain ["_law_clock_here", "_law_bag"] (defScope s_law_plain) := ⟨rfl, rfl, rfl, by decide +kernel, rfl, by decide +kernel, by decide +kernel⟩
abbrev s_law_is : Stmt := top 58
abbrev N_law_is : List Str := ["_law_told", "_law_clock_here", "_law_bag"]
theorem st_law_is : ∀ v0 v1 v2 : V, start N_law_is [v0, v1, v2] = [some v0, some v1, some v2] := fun _ _ _ => rfl
theorem sc_law_is : FnScope N_law_is ["_law_told", "_law_clock_here", "_law_bag"] (defScope s_law_is) := ⟨rfl, rfl, rfl, by decide +kernel, rfl, by decide +kernel, by decide +kernel⟩
abbrev s_law_clock : Stmt := top 59
abbrev N_law_clock : List Str := ["_law_hand_here"]
theorem st_law_clock : ∀ v0 : V, start N_law_clock [v0] = [some v0] := fun _ => rfl
theorem sc_law_clock : FnScope N_law_clock ["_law_hand_here"] (defScope s_law_clock) := ⟨rfl, rfl, rfl, by decide +kernel, rfl, by decide +kernel, by decide +kernel⟩
abbrev s_law_word : Stmt := top 60
abbrev N_law_word : List Str := ["_law_hand_here", "_law_letters", "_law_most", "_law_turn"]
theorem st_law_word : ∀ v0 v1 v2 : V, start N_law_word [v0, v1, v2] = [some v0, some v1, some v2, none] := fun _ _ _ => rfl
theorem sc_law_word : FnScope N_law_word ["_law_hand_here", "_law_letters", "_law_most"] (defScope s_law_word) := ⟨rfl, rfl, rfl, by decide +kernel, rfl, by decide +kernel, by decide +kernel⟩
abbrev s_law_lot : Stmt := top 61
abbrev N_law_lot : List Str := ["_law_hand_here", "_law_clock_here", "_law_letters", "_law_most", "_law_many", "_law_found", "_law_turn"]
theorem st_law_lot : ∀ v0 v1 v2 v3 v4 : V, start N_law_lot [v0, v1, v2, v3, v4] = [some v0, some v1, some v2, some v3, some v4, none, none] := fun _ _ _ _ _ => rfl
theorem sc_law_lot : FnScope N_law_lot ["_law_hand_here", "_law_clock_here", "_law_letters", "_law_most", "_law_many"] (defScope s_law_lot) := ⟨rfl, rfl, rfl, by decide +kernel, rfl, by decide +kernel, by decide +kernel⟩
abbrev s_law_small : Stmt := top 62
abbrev N_law_small : List Str := ["_law_hand_here", "_law_clock_here", "_law_number", "_law_some"]
theorem st_law_small : ∀ v0 v1 : V, start N_law_small [v0, v1] = [some v0, some v1, none, none] := fun _ _ => rfl
theorem sc_law_small : FnScope N_law_small ["_law_hand_here", "_law_clock_here"] (defScope s_law_small) := ⟨rfl, rfl, rfl, by decide +kernel, rfl, by decide +kernel, by decide +kernel⟩
abbrev s_law_starts : Stmt := top 63
abbrev N_law_starts : List Str := ["_law_words_here", "_law_word_here", "_law_lead"]
theorem st_law_starts : ∀ v0 v1 : V, start N_law_starts [v0, v1] = [some v0, some v1, none] := fun _ _ => rfl
theorem sc_law_starts : FnScope N_law_starts ["_law_words_here", "_law_word_here"] (defScope s_law_starts) := ⟨rfl, rfl, rfl, by decide +kernel, rfl, by decide +kernel, by decide +kernel⟩
abbrev s_law_reduced : Stmt := top 64
abbrev N_law_reduced : List Str := ["_law_clock_here", "_law_heads", "_law_bag", "_law_left", "_law_going", "_law_word_here", "_law_lead"]
theorem st_law_reduced : ∀ v0 v1 v2 : V, start N_law_reduced [v0, v1, v2] = [some v0, some v1, some v2, none, none, none, none] := fun _ _ _ => rfl
theorem sc_law_reduced : FnScope N_law_reduced ["_law_clock_here", "_law_heads", "_law_bag"] (defScope s_law_reduced) := ⟨rfl, rfl, rfl, by decide +kernel, rfl, by decide +kernel, by decide +kernel⟩
abbrev s_law_base : Stmt := top 65
abbrev N_law_base : List Str := ["_law_clock_here", "_law_rows", "_law_found", "_law_todo", "_law_row_here", "_law_bag", "_law_word_here", "_law_lead", "_law_other", "_law_others"]
theorem st_law_base : ∀ v0 v1 : V, start N_law_base [v0, v1] = [some v0, some v1, none, none, none, none, none, none, none, none] := fun _ _ => rfl
theorem sc_law_base : FnScope N_law_base ["_law_clock_here", "_law_rows"] (defScope s_law_base) := ⟨rfl, rfl, rfl, by decide +kernel, rfl, by decide +kernel, by decide +kernel⟩
abbrev s_law_sum : Stmt := top 66
abbrev N_law_sum : List Str := ["_law_clock_here", "_law_rows", "_law_bags", "_law_found", "_law_one", "_law_other"]
theorem st_law_sum : ∀ v0 v1 v2 : V, start N_law_sum [v0, v1, v2] = [some v0, some v1, some v2, none, none, none] := fun _ _ _ => rfl
theorem sc_law_sum : FnScope N_law_sum ["_law_clock_here", "_law_rows", "_law_bags"] (defScope s_law_sum) := ⟨rfl, rfl, rfl, by decide +kernel, rfl, by decide +kernel, by decide +kernel⟩
abbrev s_law_row : Stmt := top 67
abbrev N_law_row : List Str := ["_law_hand_here", "_law_clock_here", "_law_found", "_law_turn", "_law_six", "_law_words_here", "_law_one", "_law_more"]
theorem st_law_row : ∀ v0 v1 : V, start N_law_row [v0, v1] = [some v0, some v1, none, none, none, none, none, none] := fun _ _ => rfl
theorem sc_law_row : FnScope N_law_row ["_law_hand_here", "_law_clock_here"] (defScope s_law_row) := ⟨rfl, rfl, rfl, by decide +kernel, rfl, by decide +kernel, by decide +kernel⟩
abbrev s_law_part : Stmt := top 68
abbrev N_law_part : List Str := ["_law_hand_here", "_law_clock_here"]
theorem st_law_part : ∀ v0 v1 : V, start N_law_part [v0, v1] = [some v0, some v1] := fun _ _ => rfl
theorem sc_law_part : FnScope N_law_part ["_law_hand_here", "_law_clock_here"] (defScope s_law_part) := ⟨rfl, rfl, rfl, by decide +kernel, rfl, by decide +kernel, by decide +kernel⟩
abbrev s_law : Stmt := top 69
abbrev N_law : List Str := ["_law_script", "_law_hand_here", "_law_turn", "_law_clock_here", "_law_rows", "_law_bags", "_law_words_here", "_law_due", "_law_one", "_law_two", "_law_told", "_law_more", "_law_step", "_law_other"]
theorem st_law : ∀ v0 : V, start N_law [v0] = [some v0, none, none, none, none, none, none, none, none, none, none, none, none, none] := fun _ => rfl
theorem sc_law : FnScope N_law ["_law_script"] (defScope s_law) := ⟨rfl, rfl, rfl, by decide +kernel, rfl, by decide +kernel, by decide +kernel⟩
local macro_rules | `(tactic| walk_at "hp") => `(tactic| first | assumption | rfl)
local macro_rules | `(tactic| walk_at "cond") => `(tactic| first | assumption | decide | omega | (unfold CMul; omega) | (refine ⟨?_, ?_⟩ <;> omega) | (unfold CDiv; omega) | (unfold CPow; omega))
local macro_rules | `(tactic| walk_at "g1") => `(tactic| first
  | with_reducible first
    | refine g_seq ?_ | refine g_asg ?_ | refine g_name ?_ | refine g_ret ?_ | refine g_retN ?_ | refine g_drop ?_ | refine g_ifs ?_
    | refine g_c ?_ | refine g_op ?_ | refine g_un ?_ | refine g_I0 ?_ | refine g_U ?_
    | refine g_test ?_ | refine g_tB ?_ | refine g_bl ?_ | refine g_and ?_ | refine g_or ?_ | refine g_not ?_
    | refine g_andV ?_ | refine g_orV ?_ | refine g_notV ?_ | refine g_if ?_ | refine g_nil ?_ | refine g_cons ?_ | refine g_cb ?_ | refine g_call ?_
    | refine g_lst ?_ | refine g_tup ?_ | refine g_itT ?_ | refine g_itF ?_ | refine g_itNT ?_ | refine g_itNF ?_ | refine g_lc ?_ | refine g_iStr ?_ | refine g_yes ?_ | refine g_exs ?_
    | refine g_chain ?_ | refine g_dget ?_ | refine g_dput ?_ | refine g_dget2 ?_ | refine g_dpop2 ?_ | refine g_fld ?_ | refine g_sfld ?_ | refine g_make ?_ | refine g_meth ?_
    | refine g_bm ?_ | refine g_kw ?_ | refine g_callS ?_ | refine g_revL ?_ | refine g_m1 ?_ | refine g_gsub ?_ | refine g_for ?_ | refine g_iList ?_ | refine g_iTup ?_ | refine g_iRng1 ?_ | refine g_iRng2 ?_ | refine g_sl ?_ | refine g_part ?_ | refine g_noPart ?_
    | refine g_exi ?_ | refine g_exr ?_ | refine g_dnew ?_ | refine g_disp ?_ | refine g_prs0 ?_ | refine g_prs ?_ | refine g_nxt ?_
  | ((with_reducible refine g_var (v := ?vv) ?gv ?_); (case gv => exact rfl))
  | ((with_reducible refine g_I ?gc ?_); (case gc => walk_at "cond"))
  | ((with_reducible refine g_eq ?ge ?_); (case ge => exact rfl))
  | ((with_reducible refine g_ne ?ge ?_); (case ge => exact rfl))
  | (refine g_ixl (SqL.of (by first | assumption | exact upd_same)) rfl ?_)
  | (refine g_setl (by first | assumption | exact upd_same) rfl ?_)
  | ((with_reducible show (∃ i, [V.int _] = [V.int i] ∧ _) ∨ _); refine Or.inl ⟨_, rfl, ?_⟩)
  | ((with_reducible show ∃ i, [V.int _] = [V.int i] ∧ _); refine ⟨_, rfl, ?_⟩)
  | dsimp only)
local macro_rules | `(tactic| walk_at "go") => `(tactic| repeat (walk_at "g1"))

/-! ### what stands in the module -/
structure Blt (mg : Str → Option Value) : Prop where
  b_isinstance : mg "isinstance" = none
  b_int : mg "int" = none
  b_bool : mg "bool" = none
  b_str : mg "str" = none
  b_dict : mg "dict" = none
  b_list : mg "list" = none
  b_tuple : mg "tuple" = none
  b_len : mg "len" = none
  b_abs : mg "abs" = none
  b_all : mg "all" = none
  b_any : mg "any" = none
  b_max : mg "max" = none
  b_min : mg "min" = none
  b_range : mg "range" = none
  b_sorted : mg "sorted" = none
  b_sum : mg "sum" = none
  b_zip : mg "zip" = none
  b_enumerate : mg "enumerate" = none
  b_repr : mg "repr" = none
  b_set : mg "set" = none
structure Txt (K : PySem.W.Frag) (mg : Str → Option Value) (C_Bag : Addr) (Cs : Addr → Prop) : Prop extends Blt mg where
  g_LETTERS : ∃ t, mg "LETTERS" = some (.str "xyz" t)
  g_MOST_LETTERS : ∃ t, mg "MOST_LETTERS" = some (.int 12 t)
  g_MOST_WORDS : ∃ t, mg "MOST_WORDS" = some (.int 300 t)
  g_CLOCKS : ∃ a, mg "CLOCKS" = some (.ref a) ∧ SqT K (fun _ => none) a [.int 2, .int 3, .int 5, .int 7]
  c_Bag : mg "Bag" = some (.ref C_Bag)
  cls : ∀ C, Cs C → Cls K C
  n_clock : ∀ C, Cs C → NoAttr K C "clock"
  n_sparse : ∀ C, Cs C → NoAttr K C "sparse"
  n_kept : ∀ C, Cs C → NoAttr K C "kept"
  n_words : ∀ C, Cs C → NoAttr K C "words"
  c_class : ∀ C, Cs C → PySem.W.findIn K (.ref C) "__class__" = some (some (.builtin "object.__class__"))
  c_get : PySem.W.specialIn K (.builtin "object.__class__") "__get__" = some (some (.builtin "getset_descriptor.__get__"))
  c_takes : PySem.W.takesIn K (.builtin "object.__class__") = some true
  c_obj : ∀ C, Cs C → PySem.W.mroIn K C (.type "object") = some true
  c_isB : ∀ C, Cs C → PySem.W.kitOne K (.ref C) (.ref C_Bag) = some true
  c_base : Cs C_Bag
  c_pl : ∀ C, Cs C → ∀ t ∈ (["NoneType", "bool", "int", "str", "list", "tuple", "dict"] : List String), PySem.W.notFirst K C (.type t) = true
  c_two : ∀ C D, Cs C → Cs D → PySem.W.notFirst K C (.ref D) = true ∨ (D ≠ C ∧ PySem.W.subIn K (.ref D) (.ref C) = some true)
  c_nb : ∀ t ∈ (["NoneType", "bool", "int", "str", "list", "tuple", "dict"] : List String), PySem.W.kitOne K (.type t) (.ref C_Bag) = some false
section
variable {P : Program} {w : World} {K : PySem.W.Frag} {mg : Str → Option Value} {base : Heap} {C_Bag : Addr} {Cs : Addr → Prop}
theorem g_isi {x : V} {n : String} {t : Value} {b : Bool} {H : Hp} {Q : VK} (ht : TyX K H x t) (hk : PySem.W.kitOne K t (.type n) = some b) (h : Q (.bl b) H) : rIsi K [x, .ty n] H Q := ⟨x, .ty n, t, _, b, rfl, .ty n, ht, hk, h⟩
theorem g_isC {x : V} {C : Addr} {t : Value} {b : Bool} {H : Hp} {Q : VK} (ht : TyX K H x t) (hk : PySem.W.kitOne K t (.ref C) = some b) (h : Q (.bl b) H) : rIsi K [x, .ref C] H Q := ⟨x, .ref C, t, _, b, rfl, .own C, ht, hk, h⟩
/-- the type of a bag -/
theorem bag_ty (T : Txt K mg C_Bag Cs) {H : Hp} {a C dx : Addr} {fs : List (Str × V)} (hc : Cs C) (h : H a = some (.ins C dx fs)) : TyX K H (.ref a) (.ref C) :=
  .base (.ins h (T.cls C hc) (T.c_class C hc) T.c_get T.c_takes (T.c_obj C hc))
/-! ### what things are -/
/-- an integer, or no integer -/
def IntIs (K : PySem.W.Frag) (H : Hp) (x : V) (b : Bool) : Prop := (∃ i, x = .int i ∧ b = true) ∨ (∃ c, x = .bl c ∧ b = false) ∨ (∃ t, TyX K H x t ∧ PySem.W.kitOne K t (.type "int") = some false ∧ b = false)
def WithinIs (K : PySem.W.Frag) (H : Hp) (x : V) (lo hi : Int) (b : Bool) : Prop := (∃ i, x = .int i ∧ b = (decide (lo ≤ i) && decide (i ≤ hi))) ∨ (IntIs K H x false ∧ b = false)
def ClockIs (K : PySem.W.Frag) (H : Hp) (x : V) (b : Bool) : Prop := (∃ i, x = .int i ∧ b = decide (i = 2 ∨ i = 3 ∨ i = 5 ∨ i = 7)) ∨ (IntIs K H x false ∧ b = false)
def isW (w : Str) : Bool := w.cps.toList.all fun c => decide (c ∈ ("xyz" : Str).cps.toList)
def WordIs (K : PySem.W.Frag) (H : Hp) (x : V) (b : Bool) : Prop := (∃ w : Str, x = .str w ∧ w.length ≤ 10000000 ∧ b = isW w) ∨ (∃ t, TyX K H x t ∧ PySem.W.kitOne K t (.type "str") = some false ∧ b = false)
def isSW (w : Str) : Bool := isW w && decide (w.length ≤ 12)
def ShortIs (K : PySem.W.Frag) (H : Hp) (x : V) (b : Bool) : Prop := (∃ w : Str, x = .str w ∧ w.length ≤ 10000000 ∧ b = isSW w) ∨ (∃ t, TyX K H x t ∧ PySem.W.kitOne K t (.type "str") = some false ∧ b = false)
def sp_is_integer (K : PySem.W.Frag) : Sp := fun vs H Q _ => ∃ x b, vs = [x] ∧ IntIs K H x b ∧ Q (.bl b) H
def sp_is_within (K : PySem.W.Frag) : Sp := fun vs H Q _ => ∃ x lo hi b, vs = [x, .int lo, .int hi] ∧ WithinIs K H x lo hi b ∧ Q (.bl b) H
def sp_is_clock (K : PySem.W.Frag) : Sp := fun vs H Q _ => ∃ x b, vs = [x] ∧ ClockIs K H x b ∧ Q (.bl b) H
def sp_is_word (K : PySem.W.Frag) : Sp := fun vs H Q _ => ∃ x b, vs = [x] ∧ WordIs K H x b ∧ ∀ H', Ex H H' → Q (.bl b) H'
def sp_is_short_word (K : PySem.W.Frag) : Sp := fun vs H Q _ => ∃ x b, vs = [x] ∧ ShortIs K H x b ∧ ∀ H', Ex H H' → Q (.bl b) H'
/-! ### checks -/
theorem ok_is_integer {f : Addr} {fd : FuncData} (F : Fun K "is_integer" "is_integer" s_is_integer f fd) (T : Txt K mg C_Bag Cs) : FnOk P w K mg base CX0 1 f fd ["thing"] (sp_is_integer K) := by
  refine F.ok sc_is_integer (fun vs H Q E h => ?_) (fun cdv A outer s H vs Q E hr h => ?_)
  · obtain ⟨x, b, rfl, _⟩ := h
    rfl
  · obtain ⟨x, b, rfl, hi, k⟩ := h
    have hu := hu_of hr; have hu64 := L2.Room.units hr; refine ⟨_, (pss_one (ps_ret (pe_and (pe_callB (r := rIsi K) call_isi (by rfl) T.b_isinstance (by decide +kernel) (pa_cons (pv 0) (pa_cons (pe_bltn (v := .ty "int") rfl T.b_int (by decide +kernel) rfl) pa_nil))) (pe_one (pe_not (pe_callB (r := rIsi K) call_isi (by rfl) T.b_isinstance (by decide +kernel) (pa_cons (pv 0) (pa_cons (pe_bltn (v := .ty "bool") rfl T.b_bool (by decide +kernel) rfl) pa_nil)))))))), ?_⟩; rw [st_is_integer]; (try dsimp only [cxOf]); walk_at "go"
    rcases hi with ⟨i, rfl, rfl⟩ | ⟨c, rfl, rfl⟩ | ⟨t, ht, hk, rfl⟩
    · refine g_isi (n := "int") (t := .type "int") (b := true) (.base (.int i)) (kit_ty (by decide +kernel)) ?_
      walk_at "go"
      refine g_isi (n := "bool") (t := .type "int") (b := false) (.base (.int i)) (kit_ty (by decide +kernel)) ?_
      walk_at "go"
      exact k
    · refine g_isi (n := "int") (t := .type "bool") (b := true) (.base (.bl c)) (kit_ty (by decide +kernel)) ?_
      walk_at "go"
      refine g_isi (n := "bool") (t := .type "bool") (b := true) (.base (.bl c)) (kit_ty (by decide +kernel)) ?_
      walk_at "go"
      exact k
    · refine g_isi (b := false) ht hk ?_
      walk_at "go"
      exact k
theorem ok_is_within {f : Addr} {fd : FuncData} (F : Fun K "is_within" "is_within" s_is_within f fd) (T : Txt K mg C_Bag Cs) (D_is_integer : DefOk P w K mg base CX0 1 "is_integer" ["thing"] (sp_is_integer K)) : FnOk P w K mg base CX0 2 f fd ["thing", "least", "most"] (sp_is_within K) := by
  refine F.ok sc_is_within (fun vs H Q E h => ?_) (fun cdv A outer s H vs Q E hr h => ?_)
  · obtain ⟨x, lo, hi, b, rfl, _⟩ := h
    rfl
  · obtain ⟨x, lo, hi, b, rfl, hi', k⟩ := h
    have hu := hu_of hr; have hu64 := L2.Room.units hr; refine ⟨_, (pss_one (ps_ret (pe_and (pe_callD D_is_integer (hr.mono (by decide)) rfl pass0 (pa_cons (pv 0) pa_nil)) (pe_one (pe_chain op_le op_le (pv 1) (pv 0) (pv 2)))))), ?_⟩; rw [st_is_within]; (try dsimp only [cxOf]); walk_at "go"
    rcases hi' with ⟨i, rfl, rfl⟩ | ⟨hi', rfl⟩
    · refine ⟨_, true, rfl, .inl ⟨i, rfl, rfl⟩, ?_⟩
      walk_at "go"
      by_cases h1 : lo ≤ i
      · rw [decide_eq_true h1] at k ⊢
        walk_at "go"
        exact k
      · rw [decide_eq_false h1] at k ⊢
        walk_at "go"
        exact k
    · refine ⟨_, false, rfl, hi', ?_⟩
      walk_at "go"
      exact k
theorem inV_clocks (i : Int) : inV (.int i) [.int 2, .int 3, .int 5, .int 7] = decide (i = 2 ∨ i = 3 ∨ i = 5 ∨ i = 7) := by
  rw [Bool.eq_iff_iff]
  simp [inV, eqV]
  omega
theorem ok_is_clock {f : Addr} {fd : FuncData} (F : Fun K "is_clock" "is_clock" s_is_clock f fd) (T : Txt K mg C_Bag Cs) (D_is_integer : DefOk P w K mg base CX0 1 "is_integer" ["thing"] (sp_is_integer K)) : FnOk P w K mg base CX0 2 f fd ["thing"] (sp_is_clock K) := by
  refine F.ok sc_is_clock (fun vs H Q E h => ?_) (fun cdv A outer s H vs Q E hr h => ?_)
  · obtain ⟨x, b, rfl, _⟩ := h
    rfl
  · obtain ⟨x, b, rfl, hi', k⟩ := h
    obtain ⟨a_CLOCKS, T_CLOCKS, hC⟩ := T.g_CLOCKS
    have hu := hu_of hr; have hu64 := L2.Room.units hr; refine ⟨_, (pss_one (ps_ret (pe_and (pe_callD D_is_integer (hr.mono (by decide)) rfl pass0 (pa_cons (pv 0) pa_nil)) (pe_one (pe_cmpR op_in_seq (pv 0) (pe_glob (v := .ref a_CLOCKS) rfl T_CLOCKS rfl) (by rfl)))))), ?_⟩; rw [st_is_clock]; (try dsimp only [cxOf]); walk_at "go"
    rcases hi' with ⟨i, rfl, rfl⟩ | ⟨hi', rfl⟩
    · refine ⟨_, true, rfl, .inl ⟨i, rfl, rfl⟩, ?_⟩
      walk_at "go"
      have hC' : SqT K H a_CLOCKS [.int 2, .int 3, .int 5, .int 7] := hC.elim (fun h => h.elim (fun h => nomatch h) fun ⟨_, h⟩ => nomatch h) .inr
      refine ⟨a_CLOCKS, _, rfl, .inr hC', rfl, rfl, ?_⟩
      rw [if_neg Bool.false_ne_true, inV_clocks]
      exact k
    · refine ⟨_, false, rfl, hi', ?_⟩
      walk_at "go"
      exact k
theorem ok_is_word {f : Addr} {fd : FuncData} (F : Fun K "is_word" "is_word" s_is_word f fd) (T : Txt K mg C_Bag Cs) : FnOk P w K mg base CX0 1 f fd ["thing"] (sp_is_word K) := by
  refine F.ok sc_is_word (fun vs H Q E h => ?_) (fun cdv A outer s H vs Q E hr h => ?_)
  · obtain ⟨x, b, rfl, _⟩ := h
    rfl
  · obtain ⟨x, b, rfl, hi', k⟩ := h
    obtain ⟨tL, T_LETTERS⟩ := T.g_LETTERS
    have hu := hu_of hr; have hu64 := L2.Room.units hr; refine ⟨_, (pss_one (ps_ret (pe_and (pe_callB (r := rIsi K) call_isi (by rfl) T.b_isinstance (by decide +kernel) (pa_cons (pv 0) (pa_cons (pe_bltn (v := .ty "str") rfl T.b_str (by decide +kernel) rfl) pa_nil))) (pe_one (pe_callB (r := rAll K) (cr_all rfl) (by rfl) T.b_all (by decide +kernel) (pa_cons (pe_lc (own := [("letter", 1)]) (g := (gName 1)) (tt := tYes) rfl sc_is_word.nd (pi_str (pv 0)) (blkOk_by (N := N_is_word) (sc := defScope s_is_word) (by decide +kernel)) (fun _ _ _ _ _ => (pg_name (i := 1) sc_is_word.nd rfl (by first | exact Or.inl rfl | exact Or.inr rfl))) (fun _ _ _ _ _ => pts_nil) (fun _ _ _ _ _ => (pe_cmpR op_in_sign (pv 1) (pe_glob (v := .str "xyz") rfl T_LETTERS ⟨_, rfl⟩) (by rfl)))) pa_nil)))))), ?_⟩; rw [st_is_word]; (try dsimp only [cxOf]); walk_at "go"
    rcases hi' with ⟨z, rfl, hz, rfl⟩ | ⟨t, ht, hk, rfl⟩
    · refine g_isi (n := "str") (t := .type "str") (b := true) (.base (.str z)) (kit_ty (by decide +kernel)) ?_
      walk_at "go"
      have hsz : z.cps.size ≤ sizeLine := Nat.le_trans hz (by decide)
      refine lc_pure (j := 1) walk_str (z.cps.toList.map fun c => V.bl (decide (c ∈ ("xyz" : Str).cps.toList))) (by simp) hsz (fun _ _ => trivial) (fun _ => rfl) ?_ ?_
      · rintro i x y H1 H2 Kc hi e ⟨rfl, c, hc, rfl⟩ hy hk
        walk_at "go"
        have hy' : y = V.bl (decide (c ∈ ("xyz" : Str).cps.toList)) := by
          rw [List.getElem?_map, Array.getElem?_toList, hc] at hy
          exact (Option.some.inj hy).symm
        subst hy'
        exact ⟨c, _, rfl, rfl, hk _ (Ex.refl _)⟩
      · intro D H' hD e hl
        walk_at "go"
        refine ⟨D, z.cps.toList.map fun c => decide (c ∈ ("xyz" : Str).cps.toList), rfl, SqL.of (by rw [List.map_map]; exact hl), ?_⟩
        have e2 : ((z.cps.toList.map fun c => decide (c ∈ ("xyz" : Str).cps.toList)).all id) = isW z := by
          unfold isW
          rw [List.all_map]
          rfl
        rw [e2]
        exact k _ e
    · refine g_isi (b := false) ht hk ?_
      walk_at "go"
      exact k _ (Ex.refl _)
theorem ok_is_short_word {f : Addr} {fd : FuncData} (F : Fun K "is_short_word" "is_short_word" s_is_short_word f fd) (T : Txt K mg C_Bag Cs) (D_is_word : DefOk P w K mg base CX0 1 "is_word" ["thing"] (sp_is_word K)) : FnOk P w K mg base CX0 2 f fd ["thing"] (sp_is_short_word K) := by
  refine F.ok sc_is_short_word (fun vs H Q E h => ?_) (fun cdv A outer s H vs Q E hr h => ?_)
  · obtain ⟨x, b, rfl, _⟩ := h
    rfl
  · obtain ⟨x, b, rfl, hi', k⟩ := h
    obtain ⟨tL, T_MOST_LETTERS⟩ := T.g_MOST_LETTERS
    have hu := hu_of hr; have hu64 := L2.Room.units hr; refine ⟨_, (pss_one (ps_ret (pe_and (pe_callD D_is_word (hr.mono (by decide)) rfl pass0 (pa_cons (pv 0) pa_nil)) (pe_one (pe_cmpR op_le (pe_callB call_len_str (by rfl) T.b_len (by decide +kernel) (pa_cons (pv 0) pa_nil)) (pe_glob (v := .int 12) rfl T_MOST_LETTERS ⟨_, rfl⟩) (nomark _)))))), ?_⟩; rw [st_is_short_word]; (try dsimp only [cxOf]); walk_at "go"
    rcases hi' with ⟨z, rfl, hz, rfl⟩ | ⟨t, ht, hk, rfl⟩
    · refine ⟨_, _, rfl, .inl ⟨z, rfl, hz, rfl⟩, fun H' e => ?_⟩
      walk_at "go"
      have k' := k H' e
      unfold isSW at k'
      cases hb : isW z
      · rw [hb] at k'
        walk_at "go"
        exact k'
      · rw [hb] at k'
        walk_at "go"
        refine ⟨z, rfl, Nat.le_trans hz (by decide), ?_⟩
        walk_at "go"
        have e3 : decide ((z.length : Int) ≤ 12) = decide (z.length ≤ 12) := by
          rw [Bool.eq_iff_iff]; simp; omega
        rw [e3]
        exact k'
    · refine ⟨_, _, rfl, .inr ⟨t, ht, hk, rfl⟩, fun H' e => ?_⟩
      walk_at "go"
      exact k _ e
end

end Fp

namespace Fp
open PySem L2
section
variable {P : Program} {w : World} {K : PySem.W.Frag} {mg : Str → Option Value} {base : Heap} {C_Bag : Addr} {Cs : Addr → Prop}
local macro_rules | `(tactic| walk_at "hp") => `(tactic| first | assumption | rfl)
local macro_rules | `(tactic| walk_at "cond") => `(tactic| first | assumption | decide | omega | (unfold CMul; omega) | (refine ⟨?_, ?_⟩ <;> omega) | (unfold CDiv; omega) | (unfold CPow; omega))
local macro_rules | `(tactic| walk_at "g1") => `(tactic| first
  | with_reducible first
    | refine g_seq ?_ | refine g_asg ?_ | refine g_name ?_ | refine g_ret ?_ | refine g_retN ?_ | refine g_drop ?_ | refine g_ifs ?_
    | refine g_c ?_ | refine g_op ?_ | refine g_un ?_ | refine g_I0 ?_ | refine g_U ?_
    | refine g_test ?_ | refine g_tB ?_ | refine g_bl ?_ | refine g_and ?_ | refine g_or ?_ | refine g_not ?_
    | refine g_andV ?_ | refine g_orV ?_ | refine g_notV ?_ | refine g_if ?_ | refine g_nil ?_ | refine g_cons ?_ | refine g_cb ?_ | refine g_call ?_
    | refine g_lst ?_ | refine g_tup ?_ | refine g_itT ?_ | refine g_itF ?_ | refine g_itNT ?_ | refine g_itNF ?_ | refine g_lc ?_ | refine g_iStr ?_ | refine g_yes ?_ | refine g_exs ?_
    | refine g_chain ?_ | refine g_dget ?_ | refine g_dput ?_ | refine g_dget2 ?_ | refine g_dpop2 ?_ | refine g_fld ?_ | refine g_sfld ?_ | refine g_make ?_ | refine g_meth ?_
    | refine g_bm ?_ | refine g_kw ?_ | refine g_callS ?_ | refine g_revL ?_ | refine g_m1 ?_ | refine g_gsub ?_ | refine g_for ?_ | refine g_iList ?_ | refine g_iTup ?_ | refine g_iRng1 ?_ | refine g_iRng2 ?_ | refine g_sl ?_ | refine g_part ?_ | refine g_noPart ?_
    | refine g_exi ?_ | refine g_exr ?_ | refine g_dnew ?_ | refine g_disp ?_ | refine g_prs0 ?_ | refine g_prs ?_ | refine g_nxt ?_
  | ((with_reducible refine g_var (v := ?vv) ?gv ?_); (case gv => exact rfl))
  | ((with_reducible refine g_I ?gc ?_); (case gc => walk_at "cond"))
  | ((with_reducible refine g_eq ?ge ?_); (case ge => exact rfl))
  | ((with_reducible refine g_ne ?ge ?_); (case ge => exact rfl))
  | (refine g_ixl (SqL.of (by first | assumption | exact upd_same)) rfl ?_)
  | (refine g_setl (by first | assumption | exact upd_same) rfl ?_)
  | ((with_reducible show (∃ i, [V.int _] = [V.int i] ∧ _) ∨ _); refine Or.inl ⟨_, rfl, ?_⟩)
  | ((with_reducible show ∃ i, [V.int _] = [V.int i] ∧ _); refine ⟨_, rfl, ?_⟩)
  | dsimp only)
local macro_rules | `(tactic| walk_at "go") => `(tactic| repeat (walk_at "g1"))

/-! ### the law's hand -/
structure HandAt (H : Hp) (h c : Addr) : Prop where
  ex : ∃ (i b m n : Int), H h = some (.lst [.ref c, .int i, .int b, .int m, .int n]) ∧ 0 ≤ i
  cs : ∃ cs : List Int, H c = some (.lst (cs.map V.int))
  ne : c ≠ h
theorem HandAt.ex' {H H' : Hp} {h c : Addr} (e : Ex H H') (x : HandAt H h c) : HandAt H' h c := by
  obtain ⟨⟨i, b, m, n, h1, h2⟩, ⟨cs, h3⟩, h4⟩ := x
  exact ⟨⟨i, b, m, n, e _ _ h1, h2⟩, ⟨cs, e _ _ h3⟩, h4⟩
theorem HandAt.kind {H : Hp} {h c : Addr} (x : HandAt H h c) : ∃ xs, H h = some (.lst xs) := by
  obtain ⟨⟨i, b, m, n, h1, h2⟩, _⟩ := x
  exact ⟨_, h1⟩
theorem HandAt.upd {H : Hp} {h c d : Addr} {o : HO} (x : HandAt H h c) (hd : d ≠ h) (hc : d ≠ c) : HandAt (upd H d o) h c := by
  obtain ⟨⟨i, b, m, n, h1, h2⟩, ⟨cs, h3⟩, h4⟩ := x
  exact ⟨⟨i, b, m, n, by rw [upd_ne (Ne.symm hd)]; exact h1, h2⟩, ⟨cs, by rw [upd_ne (Ne.symm hc)]; exact h3⟩, h4⟩
/-- but f's object all stands, and f is neither of the hand's -/
theorem HandAt.exb {H H' : Hp} {h c f : Addr} (e : ExB f H H') (x : HandAt H h c) (hf : f ≠ h) (hc : f ≠ c) : HandAt H' h c := by
  obtain ⟨⟨i, b, m, n, h1, h2⟩, ⟨cs, h3⟩, h4⟩ := x
  exact ⟨⟨i, b, m, n, e _ _ (Ne.symm hf) h1, h2⟩, ⟨cs, e _ _ (Ne.symm hc) h3⟩, h4⟩
theorem HandAt.new {H : Hp} {h c p : Addr} (x : HandAt H h c) (hp : H p = none) : p ≠ h ∧ p ≠ c := by
  obtain ⟨⟨i, b, m, n, h1, h2⟩, ⟨cs, h3⟩, h4⟩ := x
  exact ⟨Ne.symm (ne_of_none h1 hp), Ne.symm (ne_of_none h3 hp)⟩
def sp_law_hand (K : PySem.W.Frag) : Sp := fun vs H Q _ => ∃ (a : Addr) (ns : List Int), vs = [.ref a] ∧ SqL K H a (ns.map V.int) ∧ ∀ h c H', Ex H H' → H h = none → HandAt H' h c → Q (.ref h) H'
def sp_law_draw : Sp := fun vs H Q _ => ∃ (h c : Addr) (m : Int), vs = [.ref h, .int m] ∧ HandAt H h c ∧ 0 < m ∧ m ≤ 1000000 ∧ ∀ v H', 0 ≤ v → v < m → ExB h H H' → HandAt H' h c → Q (.int v) H'
theorem cutV_int (ns : List Int) (lo hi : Option Int) : ∃ ms : List Int, cutV (ns.map V.int) lo hi = ms.map V.int := by
  unfold cutV
  exact ⟨(ns.drop _).take _, by rw [List.map_take, List.map_drop]⟩
theorem ok_law_hand {f : Addr} {fd : FuncData} (F : Fun K "_law_hand" "_law_hand" s_law_hand f fd) (T : Txt K mg C_Bag Cs) : FnOk P w K mg base CX0 1 f fd ["_law_script"] (sp_law_hand K) := by
  refine F.ok sc_law_hand (fun vs H Q E h => ?_) (fun cdv A outer s H vs Q E hr h => ?_)
  · obtain ⟨a, ns, rfl, _⟩ := h
    rfl
  · obtain ⟨a, ns, rfl, hs, k⟩ := h
    have hu := hu_of hr; have hu64 := L2.Room.units hr; refine ⟨_, (pss_cons (ps_setLc (i := 1) (own := [("_law_cell", 2)]) (g := (gName 2)) (tt := tYes) rfl sc_law_hand.nd rfl rfl rfl (pi_list (pe_slice sl_list (pv 0) po_none (po_some pe_int))) (blkOk_by (N := N_law_hand) (sc := defScope s_law_hand) (by decide +kernel)) (fun _ _ _ _ _ => (pg_name (i := 2) sc_law_hand.nd rfl (by first | exact Or.inl rfl | exact Or.inr rfl))) (fun _ _ _ _ _ => pts_nil) (fun _ _ _ _ _ => (pe_callB call_abs (by rfl) T.b_abs (by decide +kernel) (pa_cons (pe_callTy call_int1 (by rfl) T.b_int (by decide +kernel) (pa_cons (pv 2) pa_nil)) pa_nil)))) (pss_one (ps_ret (pe_lst (pa_cons (pv 1) (pa_cons pe_int (pa_cons pe_int (pa_cons (pe_op op_add pe_int (pe_callB call_len_seq (by rfl) T.b_len (by decide +kernel) (pa_cons (pv 1) pa_nil))) (pa_cons pe_int pa_nil))))))))), ?_⟩; rw [st_law_hand]; (try dsimp only [cxOf]); walk_at "go"
    obtain ⟨ms, hms⟩ := cutV_int ns none (some 63)
    refine ⟨_, _, rfl, hs, fun p hp => ?_⟩
    rw [hms]
    walk_at "go"
    refine ⟨⟨_, SqL.of upd_same⟩, ?_⟩
    have e0 : Ex H (upd H p (.lst (ms.map V.int))) := Ex.new hp
    have hz : ms.length ≤ 63 := by
      have : (cutV (ns.map V.int) none (some 63)).length = ms.length := by rw [hms, List.length_map]
      rw [← this]
      unfold cutV
      rw [List.length_take]
      have : HT.sIx (ns.map V.int).length (ns.map V.int).length (some 63) ≤ 63 := by
        unfold HT.sIx
        simp
        omega
      omega
    refine lc_pure (j := 2) walk_list (ms.map fun i => V.int (if i < 0 then -i else i)) (by simp) (by rw [List.length_map]; exact Nat.le_trans hz (by decide)) (fun H' e => SqL.of (e _ _ upd_same)) (fun _ => rfl) ?_ ?_
    · rintro i x y H1 H2 Kc hi e ⟨rfl, hx⟩ hy hk
      rw [List.getElem?_map] at hx hy
      cases hm : ms[i]? with
      | none => rw [hm] at hx; cases hx
      | some z =>
        rw [hm] at hx hy
        obtain rfl := (Option.some.inj hx).symm
        obtain rfl := (Option.some.inj hy).symm
        walk_at "go"
        exact hk _ (Ex.refl _)
    · intro D H' hD e hl
      walk_at "go"
      have hl' : H' D = some (.lst ((ms.map fun i => if i < 0 then -i else i).map V.int)) := by rw [hl, List.map_map]; rfl
      refine ⟨_, _, rfl, .inl (SqL.of hl), ?_⟩
      walk_at "go"
      refine ⟨Nat.le_of_ble_eq_true rfl, fun q hq => ?_⟩
      have hn : D ≠ q := ne_of_none hl' hq
      exact k _ _ _ ((e0.trans e).trans (Ex.new hq)) ((e0.trans e).free hq) ⟨⟨0, 0, _, 0, upd_same, Int.le_refl _⟩, ⟨_, by rw [upd_ne hn]; exact hl'⟩, hn⟩
theorem ok_law_draw {f : Addr} {fd : FuncData} (F : Fun K "_law_draw" "_law_draw" s_law_draw f fd) (T : Txt K mg C_Bag Cs) : FnOk P w K mg base CX0 1 f fd ["_law_hand_here", "_law_many"] sp_law_draw := by
  refine F.ok sc_law_draw (fun vs H Q E h => ?_) (fun cdv A outer s H vs Q E hr h => ?_)
  · obtain ⟨a, c, m, rfl, _⟩ := h
    rfl
  · obtain ⟨h, c, m, rfl, hh, hm0, hm1, k⟩ := h
    obtain ⟨⟨i, b, mm, n, h1, h4⟩, ⟨cs, h2⟩, h3⟩ := hh
    have hu := hu_of hr; have hu64 := L2.Room.units hr; refine ⟨_, (pss_cons (ps_if (PW.pt (pw_and (pt_cmpR op_eq (pe_ix (r := rIxL K) ix_list (pv 0) pe_int (fun _ _ => rfl)) pe_int (nomark _)) (pw_and1 (pt_cmpR op_lt (pe_ix (r := rIxL K) ix_list (pv 0) pe_int (fun _ _ => rfl)) (pe_callB call_len_seq (by rfl) T.b_len (by decide +kernel) (pa_cons (pe_ix (r := rIxL K) ix_list (pv 0) pe_int (fun _ _ => rfl)) pa_nil)) (nomark _))))) (pss_cons (ps_set (i := 2) sc_law_draw.nd rfl (by first | exact Or.inl rfl | exact Or.inr rfl) (pe_ix (r := rIxL K) ix_list (pe_ix (r := rIxL K) ix_list (pv 0) pe_int (fun _ _ => rfl)) (pe_ix (r := rIxL K) ix_list (pv 0) pe_int (fun _ _ => rfl)) (fun _ _ => rfl))) (pss_cons (ps_asg (pe_op op_add (pe_ix (r := rIxL K) ix_list (pv 0) pe_int (fun _ _ => rfl)) pe_int) (pg_sub (pv 0) pe_int set_list)) (pss_cons (ps_asg (pe_op op_mod (pe_callTy call_int1 (by rfl) T.b_int (by decide +kernel) (pa_cons (pe_op op_add (pe_op op_add (pe_op op_mul (pe_ix (r := rIxL K) ix_list (pv 0) pe_int (fun _ _ => rfl)) pe_int) (pv 2)) pe_int) pa_nil)) pe_int) (pg_sub (pv 0) pe_int set_list)) (pss_one (ps_if (pt_cmpR op_ge (pv 2) (pe_op op_pow pe_int pe_int) (nomark _)) (pss_one (ps_asg (pv 2) (pg_sub (pv 0) pe_int set_list))) pss_nil))))) pss_nil) (pss_cons (ps_if (pt_cmpR op_gt (pe_ix (r := rIxL K) ix_list (pv 0) pe_int (fun _ _ => rfl)) pe_int (nomark _)) (pss_cons (ps_set (i := 3) sc_law_draw.nd rfl (by first | exact Or.inl rfl | exact Or.inr rfl) (pe_op op_mod (pe_callTy call_int1 (by rfl) T.b_int (by decide +kernel) (pa_cons (pe_ix (r := rIxL K) ix_list (pv 0) pe_int (fun _ _ => rfl)) pa_nil)) (pv 1))) (pss_cons (ps_asg (pe_op op_fdiv (pe_ix (r := rIxL K) ix_list (pv 0) pe_int (fun _ _ => rfl)) (pv 1)) (pg_sub (pv 0) pe_int set_list)) (pss_one (ps_ret (pv 3))))) pss_nil) (pss_cons (ps_asg (pe_op op_add (pe_ix (r := rIxL K) ix_list (pv 0) pe_int (fun _ _ => rfl)) pe_int) (pg_sub (pv 0) pe_int set_list)) (pss_cons (ps_set (i := 4) sc_law_draw.nd rfl (by first | exact Or.inl rfl | exact Or.inr rfl) (pe_op op_mod (pe_callTy call_int1 (by rfl) T.b_int (by decide +kernel) (pa_cons (pe_op op_mul (pe_callTy call_int1 (by rfl) T.b_int (by decide +kernel) (pa_cons (pe_op op_add (pe_ix (r := rIxL K) ix_list (pv 0) pe_int (fun _ _ => rfl)) (pe_op op_mul pe_int (pe_ix (r := rIxL K) ix_list (pv 0) pe_int (fun _ _ => rfl)))) pa_nil)) pe_int) pa_nil)) pe_int)) (pss_cons (ps_set (i := 4) sc_law_draw.nd rfl (by first | exact Or.inl rfl | exact Or.inr rfl) (pe_op op_mod (pe_callTy call_int1 (by rfl) T.b_int (by decide +kernel) (pa_cons (pe_op op_mul (pv 4) (pe_op op_add (pe_op op_fdiv (pv 4) pe_int) pe_int)) pa_nil)) pe_int)) (pss_cons (ps_set (i := 4) sc_law_draw.nd rfl (by first | exact Or.inl rfl | exact Or.inr rfl) (pe_op op_mod (pe_callTy call_int1 (by rfl) T.b_int (by decide +kernel) (pa_cons (pe_op op_mul (pv 4) (pe_op op_add (pe_op op_fdiv (pv 4) pe_int) pe_int)) pa_nil)) pe_int)) (pss_one (ps_ret (pe_op op_mod (pe_callTy call_int1 (by rfl) T.b_int (by decide +kernel) (pa_cons (pe_op op_fdiv (pv 4) pe_int) pa_nil)) (pv 1)))))))))), ?_⟩; rw [st_law_draw]; (try dsimp only [cxOf])
    refine g_cut (R := fun σ' H' => ∃ x i b mm n, σ' = [some (.ref h), some (.int m), x, none, none] ∧ H' h = some (.lst [.ref c, .int i, .int b, .int mm, .int n]) ∧ H' c = some (.lst (cs.map V.int)) ∧ 0 ≤ i ∧ ExB h H H') (fun N hN => ?_) ?_
    · walk_at "go"
      have hsame : N [some (.ref h), some (.int m), none, none, none] H := hN _ _ ⟨none, i, b, mm, n, rfl, h1, h2, h4, ExB.refl _ _⟩
      by_cases hb : V.int b = V.int 0
      · rw [decide_eq_true hb]
        walk_at "go"
        refine ⟨c, cs.map V.int, rfl, .inl (SqL.of h2), ?_⟩
        walk_at "go"
        by_cases hi : i < ((cs.map V.int).length : Int)
        · rw [decide_eq_true hi]
          walk_at "go"
          have hi' : i.toNat < cs.length := by rw [List.length_map] at hi; omega
          refine g_ixl (SqL.of h2) (atI_get h4 (by rw [List.getElem?_map, List.getElem?_eq_getElem hi']; rfl)) ?_
          walk_at "go"
          have ew : ExB h H (upd (upd H h (HO.lst [V.ref c, V.int (i + 1), V.int b, V.int mm, V.int n])) h (.lst [V.ref c, V.int (i + 1), V.int b, V.int ((mm * 69621 + cs[i.toNat] + 11) % 2147483629), V.int n])) := ((ExB.refl h H).upd).upd
          refine g_ite (fun _ => ?_) fun _ => ?_
          · walk_at "go"
            refine hN _ _ ⟨some (.int cs[i.toNat]), i + 1, _, _, n, rfl, upd_same, ?_, by omega, ew.upd⟩
            rw [upd_ne h3, upd_ne h3, upd_ne h3]
            exact h2
          · walk_at "go"
            refine hN _ _ ⟨some (.int cs[i.toNat]), i + 1, b, _, n, rfl, upd_same, ?_, by omega, ew⟩
            rw [upd_ne h3, upd_ne h3]
            exact h2
        · rw [decide_eq_false hi]
          walk_at "go"
          exact hsame
      · rw [decide_eq_false hb]
        walk_at "go"
        exact hsame
    · rintro σ' H' ⟨x, i, b, mm, n, rfl, h1, h2, h4, e⟩
      walk_at "go"
      by_cases hb : 0 < b
      · rw [decide_eq_true hb]
        walk_at "go"
        exact k _ _ (Int.emod_nonneg _ (by omega)) (Int.emod_lt_of_pos _ hm0) e.upd ⟨⟨i, _, mm, n, upd_same, h4⟩, ⟨cs, by rw [upd_ne h3]; exact h2⟩, h3⟩
      · rw [decide_eq_false hb]
        walk_at "go"
        exact k _ _ (Int.emod_nonneg _ (by omega)) (Int.emod_lt_of_pos _ hm0) e.upd ⟨⟨i, b, mm, _, upd_same, h4⟩, ⟨cs, by rw [upd_ne h3]; exact h2⟩, h3⟩
/-! ### the law's sums and products -/
def sp_law_put : Sp := fun vs H Q _ => ∃ (p : Int) (d : Addr) (s : Bg) (z : Str) (n : Int), vs = [.int p, .ref d, .str z, .int n] ∧ H d = some (.dK (toK s)) ∧ s.length < 10000000 ∧ 0 < p ∧
  Q .non (upd H d (.dK (toK (addTo p s z n))))
theorem ok_law_put {f : Addr} {fd : FuncData} (F : Fun K "_law_put" "_law_put" s_law_put f fd) (T : Txt K mg C_Bag Cs) : FnOk P w K mg base CX0 1 f fd ["_law_clock_here", "_law_bag", "_law_word_here", "_law_number"] sp_law_put := by
  refine F.ok sc_law_put (fun vs H Q E h => ?_) (fun cdv A outer s H vs Q E hr h => ?_)
  · obtain ⟨p, d, s, z, n, rfl, _⟩ := h
    rfl
  · obtain ⟨p, d, s, z, n, rfl, hd, hl, hp, k⟩ := h
    have hu := hu_of hr; have hu64 := L2.Room.units hr; refine ⟨_, (pss_cons (ps_set (i := 4) sc_law_put.nd rfl (by first | exact Or.inl rfl | exact Or.inr rfl) (pe_op op_mod (pe_callTy call_int1 (by rfl) T.b_int (by decide +kernel) (pa_cons (pe_op op_add (pe_dget2 hu (pv 1) (pv 2) pe_int ⟨rfl, rfl, rfl, rfl⟩) (pv 3)) pa_nil)) (pv 0))) (pss_one (ps_if (pt_cmpR op_eq (pv 4) pe_int (nomark _)) (pss_one (ps_expr (pe_dpop2 (pv 1) (pv 2) pe_int ⟨rfl, rfl, rfl, rfl⟩))) (pss_one (ps_dput hu (pv 1) (pv 2) (pv 4) rfl))))), ?_⟩; rw [st_law_put]; (try dsimp only [cxOf]); walk_at "go"
    refine ⟨.inl ⟨_, .inl hd⟩, ?_⟩
    walk_at "go"
    refine ⟨_, .inl ⟨toK s, .inr z, .inl hd, rfl, rfl⟩, ?_⟩
    rw [getD_toK]
    walk_at "go"
    by_cases hz : (cf s z + n) % p = 0
    · rw [decide_eq_true (by rw [hz])]
      walk_at "go"
      refine ⟨.inl ⟨_, .inl hd⟩, ?_⟩
      walk_at "go"
      have hk : Q .non (upd H d (.dK (dropK (toK s) (Sum.inr z : Key)))) := by
        rw [dropK_toK]
        unfold addTo at k
        rw [if_pos hz] at k
        exact k
      refine ⟨toK s, .inr z, hd, rfl, fun v _ => hk, fun hn => ?_⟩
      have he : upd H d (.dK (dropK (toK s) (Sum.inr z : Key))) = H := by
        have e2 : dropK (toK s) (Sum.inr z : Key) = toK s := by
          rw [dropK_toK]
          unfold dropS
          rw [valV_toK] at hn
          have hn' : getS s z = none := by cases q : getS s z with | none => rfl | some x => rw [q] at hn; cases hn
          rw [List.filter_eq_self.mpr]
          intro kv hkv
          refine decide_eq_true fun e => getS_none.mp hn' ?_
          rw [← e]
          exact mem_keys.mpr ⟨kv.2, hkv⟩
        rw [e2]
        funext a
        by_cases ha : a = d
        · subst ha; rw [upd_same, hd]
        · rw [upd_ne ha]
      rw [he] at hk
      exact hk
    · rw [decide_eq_false (fun e => hz (V.int.inj e))]
      walk_at "go"
      refine g_dp hd (Nat.lt_trans hl (by decide)) ?_
      unfold addTo at k
      rw [if_neg hz] at k
      exact k
def sp_law_plus : Sp := fun vs H Q _ => ∃ (p : Int) (a b : Addr) (s t : Bg) (f : Int), vs = [.int p, .ref a, .ref b, .int f] ∧ Rd H a (.dK (toK s)) ∧ Rd H b (.dK (toK t)) ∧ (keys t).Nodup ∧ s.length + t.length < 10000000 ∧ 0 < p ∧ (-1000000 < f ∧ f < 1000000) ∧
  ∀ d H', Ex H H' → H d = none → H' d = some (.dK (toK (plusS p s t f))) → Q (.ref d) H'
theorem foldl_take {α β : Type} (g : β → α → β) (l : List α) (i : Nat) (a : α) (x : β) (h : l[i]? = some a) : (l.take (i + 1)).foldl g x = g ((l.take i).foldl g x) a := by
  rw [List.take_add_one, h, List.foldl_append]
  rfl
theorem ok_law_plus {f : Addr} {fd : FuncData} (F : Fun K "_law_plus" "_law_plus" s_law_plus f fd) (T : Txt K mg C_Bag Cs) (D_law_put : DefOk P w K mg base CX0 1 "_law_put" ["_law_clock_here", "_law_bag", "_law_word_here", "_law_number"] sp_law_put) : FnOk P w K mg base CX0 2 f fd ["_law_clock_here", "_law_one", "_law_other", "_law_factor"] sp_law_plus := by
  refine F.ok sc_law_plus (fun vs H Q E h => ?_) (fun cdv A outer s H vs Q E hr h => ?_)
  · obtain ⟨p, a, b, s, t, f, rfl, _⟩ := h
    rfl
  · obtain ⟨p, a, b, s, t, f, rfl, ha, hb, hn, hl, hp, hf, k⟩ := h
    have hu := hu_of hr; have hu64 := L2.Room.units hr; refine ⟨_, (pss_cons (ps_set (i := 4) sc_law_plus.nd rfl (by first | exact Or.inl rfl | exact Or.inr rfl) (pe_callTy call_dictD (by rfl) T.b_dict (by decide +kernel) (pa_cons (pv 1) pa_nil))) (pss_cons (ps_lockR (ps_for PassesOwn.never rfl (pi_keys (pv 2)) (pg_name (i := 5) sc_law_plus.nd rfl (by first | exact Or.inl rfl | exact Or.inr rfl)) (pss_one (ps_expr (pe_callD D_law_put (hr.mono (by decide)) rfl pass0 (pa_cons (pv 0) (pa_cons (pv 4) (pa_cons (pv 5) (pa_cons (pe_op op_mul (pv 3) (pe_dget hu (pv 2) (pv 5) (fun _ _ => rfl))) pa_nil))))))))) (pss_one (ps_ret (pv 4))))), ?_⟩; rw [st_law_plus]; (try dsimp only [cxOf]); walk_at "go"
    refine ⟨a, toK s, rfl, ha, fun d hd => ?_⟩
    walk_at "go"
    have hbd : b ≠ d := fun e => by subst e; rcases hb with h | ⟨o, h⟩ <;> rw [hd] at h <;> cases h
    have hb' : Rd (upd H d (.dK (toK s))) b (.dK (toK t)) := (Ex.new hd).rd hb
    refine for_keys hb' upd_same hbd (fun H' Q' _ q => ⟨_, rfl, q⟩) (fun i σ' o => (∃ x, σ' = [some (.int p), some (.ref a), some (.ref b), some (.int f), some (.ref d), x]) ∧ o = .dK (toK (plusS p s (t.take i) f))) ⟨⟨none, rfl⟩, rfl⟩ ?_ ?_
    · rintro i z n σ' H' o E hi ⟨⟨x, rfl⟩, rfl⟩ le hfo _ hE
      walk_at "go"
      refine g_dg le.self (getS_at hn hi) ?_
      walk_at "go"
      refine ⟨p, d, _, z, f * n, rfl, hfo, ?_, hp, ?_⟩
      · have h1 := len_plus (p := p) (s := s) (t := t.take i) f
        have h2 := List.length_take_le i t
        have h3 : (t.take i).length ≤ t.length := by rw [List.length_take]; omega
        omega
      · refine hE _ _ _ ⟨⟨_, rfl⟩, rfl⟩ ((ExB.refl d _).upd) ?_
        rw [upd_same]
        unfold plusS
        rw [foldl_take _ _ _ _ _ hi]
    · rintro σ' H' o ⟨⟨x, rfl⟩, rfl⟩ e ho
      walk_at "go"
      rw [List.take_length] at ho
      exact k d H' (fun a' o' h' => e a' o' (ne_of_none h' hd) (Ex.new hd a' o' h')) hd ho
def sp_law_product : Sp := fun vs H Q _ => ∃ (p : Int) (a b : Addr) (s t : Bg), vs = [.int p, .ref a, .ref b] ∧ Rd H a (.dK (toK s)) ∧ Rd H b (.dK (toK t)) ∧ (keys s).Nodup ∧ (keys t).Nodup ∧ s.length * t.length < 10000000 ∧ 0 < p ∧ Good 1000000 s ∧
  (∀ u ∈ keys s, u.length ≤ 5000000) ∧ (∀ u ∈ keys t, u.length ≤ 5000000) ∧ ∀ d H', Ex H H' → H d = none → H' d = some (.dK (toK (prodS p s t))) → Q (.ref d) H'
theorem ok_law_product {f : Addr} {fd : FuncData} (F : Fun K "_law_product" "_law_product" s_law_product f fd) (T : Txt K mg C_Bag Cs) (D_law_put : DefOk P w K mg base CX0 1 "_law_put" ["_law_clock_here", "_law_bag", "_law_word_here", "_law_number"] sp_law_put) : FnOk P w K mg base CX0 2 f fd ["_law_clock_here", "_law_one", "_law_other"] sp_law_product := by
  refine F.ok sc_law_product (fun vs H Q E h => ?_) (fun cdv A outer s H vs Q E hr h => ?_)
  · obtain ⟨p, a, b, s, t, rfl, _⟩ := h
    rfl
  · obtain ⟨p, a, b, s, t, rfl, ha, hb, hns, hnt, hl, hp, hg, hsl, htl, k⟩ := h
    have hu := hu_of hr; have hu64 := L2.Room.units hr; refine ⟨_, (pss_cons (ps_set (i := 3) sc_law_product.nd rfl (by first | exact Or.inl rfl | exact Or.inr rfl) pe_dnewK) (pss_cons (ps_lockR (ps_for PassesOwn.never rfl (pi_keys (pv 1)) (pg_name (i := 4) sc_law_product.nd rfl (by first | exact Or.inl rfl | exact Or.inr rfl)) (pss_one (ps_lockR (ps_for PassesOwn.never rfl (pi_keys (pv 2)) (pg_name (i := 5) sc_law_product.nd rfl (by first | exact Or.inl rfl | exact Or.inr rfl)) (pss_one (ps_expr (pe_callD D_law_put (hr.mono (by decide)) rfl pass0 (pa_cons (pv 0) (pa_cons (pv 3) (pa_cons (pe_op op_add_str (pv 4) (pv 5)) (pa_cons (pe_op op_mul (pe_dget hu (pv 1) (pv 4) (fun _ _ => rfl)) (pe_dget hu (pv 2) (pv 5) (fun _ _ => rfl))) pa_nil)))))))))))) (pss_one (ps_ret (pv 3))))), ?_⟩; rw [st_law_product]; (try dsimp only [cxOf]); walk_at "go"
    intro d hd
    walk_at "go"
    have had : a ≠ d := fun e => by subst e; rcases ha with h | ⟨o, h⟩ <;> rw [hd] at h <;> cases h
    have hbd : b ≠ d := fun e => by subst e; rcases hb with h | ⟨o, h⟩ <;> rw [hd] at h <;> cases h
    have ha' : Rd (upd H d (.dK (toK []))) a (.dK (toK s)) := (Ex.new hd).rd ha
    have hb' : Rd (upd H d (.dK (toK []))) b (.dK (toK t)) := (Ex.new hd).rd hb
    have hlen : ∀ i j, i < s.length → (prodS p (s.take i) t).length + (t.take j).length < 10000000 := fun i j hi => by
      have h1 := len_prod (p := p) (s := s.take i) (t := t)
      have h2 : (s.take i).length = i := by rw [List.length_take]; omega
      have h3 : (t.take j).length ≤ t.length := by rw [List.length_take]; omega
      rw [h2] at h1
      have h4 : (i + 1) * t.length ≤ s.length * t.length := Nat.mul_le_mul_right _ hi
      rw [Nat.succ_mul] at h4
      omega
    refine for_keys (o0 := .dK (toK [])) ha' upd_same had (fun H' Q' _ q => ⟨_, rfl, q⟩) (fun i σ' o => (∃ x y, σ' = [some (.int p), some (.ref a), some (.ref b), some (.ref d), x, y]) ∧ o = .dK (toK (prodS p (s.take i) t))) ⟨⟨none, none, rfl⟩, rfl⟩ ?_ ?_
    · rintro i z n σ' H' o E hi ⟨⟨x, y, rfl⟩, rfl⟩ le hfo _ hE
      have hil : i < s.length := by
        rcases Nat.lt_or_ge i s.length with h | h
        · exact h
        · rw [List.getElem?_eq_none h] at hi; cases hi
      have hb2 : Rd H' b (.dK (toK t)) := le.rd ha' hb' hbd
      refine for_keys hb2 hfo hbd (fun H' Q' _ q => ⟨_, rfl, q⟩) (fun j σ' o => (∃ y, σ' = [some (.int p), some (.ref a), some (.ref b), some (.ref d), some (.str z), y]) ∧ o = .dK (toK (prodRow p (prodS p (s.take i) t) (z, n) (t.take j)))) ⟨⟨y, rfl⟩, rfl⟩ ?_ ?_
      · rintro j u m σ' H2 o E2 hj ⟨⟨y, rfl⟩, rfl⟩ le2 hfo2 _ hE2
        have ha3 : Rd H2 a (.dK (toK s)) := le2.rd hb2 le.self had
        walk_at "go"
        have hz := hsl z (mem_keys.mpr ⟨n, mem_fr hi⟩)
        have hu' := htl u (mem_keys.mpr ⟨m, mem_fr hj⟩)
        refine ⟨z, u, rfl, rfl, line5 (by omega), ?_⟩
        walk_at "go"
        refine g_dg ha3 (getS_at hns hi) ?_
        walk_at "go"
        refine g_dg le2.self (getS_at hnt hj) ?_
        have c1 := hg.lo _ (mem_fr hi)
        have c2 := hg.hi _ (mem_fr hi)
        dsimp only at c1 c2
        walk_at "go"
        refine ⟨p, d, _, z ++ u, n * m, rfl, hfo2, ?_, hp, ?_⟩
        · have h1 := len_row (p := p) (s := prodS p (s.take i) t) (t := t.take j) (z, n)
          have h2 := hlen i j hil
          omega
        · refine hE2 _ _ _ ⟨⟨_, rfl⟩, rfl⟩ ((ExB.refl d _).upd) ?_
          rw [upd_same]
          unfold prodRow
          rw [foldl_take _ _ _ _ _ hj]
      · rintro σ' H2 o ⟨⟨y, rfl⟩, rfl⟩ e2 ho
        refine hE _ _ _ ⟨⟨_, _, rfl⟩, rfl⟩ e2 ?_
        rw [ho, List.take_length]
        unfold prodS
        rw [foldl_take _ _ _ _ _ hi]
    · rintro σ' H' o ⟨⟨x, y, rfl⟩, rfl⟩ e ho
      walk_at "go"
      rw [List.take_length] at ho
      exact k d H' (fun a' o' h' => e a' o' (ne_of_none h' hd) (Ex.new hd a' o' h')) hd ho

end
end Fp

namespace Fp
open PySem L2
section
variable {P : Program} {w : World} {K : PySem.W.Frag} {mg : Str → Option Value} {base : Heap} {C_Bag : Addr} {Cs : Addr → Prop}
local macro_rules | `(tactic| walk_at "hp") => `(tactic| first | assumption | rfl)
local macro_rules | `(tactic| walk_at "cond") => `(tactic| first | assumption | decide | omega | (unfold CMul; omega) | (refine ⟨?_, ?_⟩ <;> omega) | (unfold CDiv; omega) | (unfold CPow; omega))
local macro_rules | `(tactic| walk_at "g1") => `(tactic| first
  | with_reducible first
    | refine g_seq ?_ | refine g_asg ?_ | refine g_name ?_ | refine g_ret ?_ | refine g_retN ?_ | refine g_drop ?_ | refine g_ifs ?_
    | refine g_c ?_ | refine g_op ?_ | refine g_un ?_ | refine g_I0 ?_ | refine g_U ?_
    | refine g_test ?_ | refine g_tB ?_ | refine g_bl ?_ | refine g_and ?_ | refine g_or ?_ | refine g_not ?_
    | refine g_andV ?_ | refine g_orV ?_ | refine g_notV ?_ | refine g_if ?_ | refine g_nil ?_ | refine g_cons ?_ | refine g_cb ?_ | refine g_call ?_
    | refine g_lst ?_ | refine g_tup ?_ | refine g_itT ?_ | refine g_itF ?_ | refine g_itNT ?_ | refine g_itNF ?_ | refine g_lc ?_ | refine g_iStr ?_ | refine g_yes ?_ | refine g_exs ?_
    | refine g_chain ?_ | refine g_dget ?_ | refine g_dput ?_ | refine g_dget2 ?_ | refine g_dpop2 ?_ | refine g_fld ?_ | refine g_sfld ?_ | refine g_make ?_ | refine g_meth ?_
    | refine g_bm ?_ | refine g_kw ?_ | refine g_callS ?_ | refine g_revL ?_ | refine g_m1 ?_ | refine g_gsub ?_ | refine g_for ?_ | refine g_iList ?_ | refine g_iTup ?_ | refine g_iRng1 ?_ | refine g_iRng2 ?_ | refine g_sl ?_ | refine g_part ?_ | refine g_noPart ?_
    | refine g_exi ?_ | refine g_exr ?_ | refine g_dnew ?_ | refine g_disp ?_ | refine g_prs0 ?_ | refine g_prs ?_ | refine g_nxt ?_
  | ((with_reducible refine g_var (v := ?vv) ?gv ?_); (case gv => exact rfl))
  | ((with_reducible refine g_I ?gc ?_); (case gc => walk_at "cond"))
  | ((with_reducible refine g_eq ?ge ?_); (case ge => exact rfl))
  | ((with_reducible refine g_ne ?ge ?_); (case ge => exact rfl))
  | (refine g_ixl (SqL.of (by first | assumption | exact upd_same)) rfl ?_)
  | (refine g_setl (by first | assumption | exact upd_same) rfl ?_)
  | ((with_reducible show (∃ i, [V.int _] = [V.int i] ∧ _) ∨ _); refine Or.inl ⟨_, rfl, ?_⟩)
  | ((with_reducible show ∃ i, [V.int _] = [V.int i] ∧ _); refine ⟨_, rfl, ?_⟩)
  | dsimp only)
local macro_rules | `(tactic| walk_at "go") => `(tactic| repeat (walk_at "g1"))

/-! ### words in order -/
def sp_law_order : Sp := fun vs H Q _ => ∃ (d : Addr) (s : Bg), vs = [.ref d] ∧ Rd H d (.dK (toK s)) ∧ s.length ≤ 10000000 ∧ (∀ u ∈ keys s, u.length ≤ 10000000) ∧
  ∀ l H', Ex H H' → H l = none → H' l = some (.lst ((ordW (keys s)).map V.str)) → Q (.ref l) H'
def sp_law_words : Sp := fun vs H Q _ => ∃ (d : Addr) (s : Bg), vs = [.ref d] ∧ Rd H d (.dK (toK s)) ∧ s.length ≤ 10000000 ∧ (∀ u ∈ keys s, u.length ≤ 10000000) ∧ (keys s).Nodup ∧
  ∀ t H', Ex H H' → H t = none → WordsAt H' t (wordsS s) → Q (.ref t) H'
theorem bs_of {H : Hp} {as : List Addr} {es : Bg} (h : Paired (fun a (e : Str × Int) => H a = some (.tup [.int (-(e.1.length : Int)), .str e.1])) as es) :
    ∃ bs : List (Addr × Str), as.map V.ref = bs.map (fun b => V.ref b.1) ∧ bs.map (·.2) = keys es ∧ ∀ b ∈ bs, H b.1 = some (.tup [.int (-(b.2.length : Int)), .str b.2]) := by
  induction h with
  | nil => exact ⟨[], rfl, rfl, fun _ h => nomatch h⟩
  | @cons a e as es h1 _ ih =>
    obtain ⟨bs, h2, h3, h4⟩ := ih
    refine ⟨(a, e.1) :: bs, by rw [List.map_cons, List.map_cons, h2], by rw [List.map_cons, h3]; rfl, fun b hb => ?_⟩
    rcases List.mem_cons.mp hb with rfl | hb
    · exact h1
    · exact h4 b hb
theorem ok_law_order {f : Addr} {fd : FuncData} (F : Fun K "_law_order" "_law_order" s_law_order f fd) (T : Txt K mg C_Bag Cs) : FnOk P w K mg base CX0 1 f fd ["_law_bag"] sp_law_order := by
  refine F.ok sc_law_order (fun vs H Q E h => ?_) (fun cdv A outer s H vs Q E hr h => ?_)
  · obtain ⟨d, s, rfl, _⟩ := h
    rfl
  · obtain ⟨d, s, rfl, hd, hz, hw, k⟩ := h
    have hu := hu_of hr; have hu64 := L2.Room.units hr; refine ⟨_, (pss_one (ps_ret (pe_lc (own := [("_law_pair", 1)]) (g := (gName 1)) (tt := tYes) rfl sc_law_order.nd (pi_list (pe_callB (cr_sortedW hu64) (by rfl) T.b_sorted (by decide +kernel) (pa_cons (pe_lockR (pe_lc (own := [("_law_word_here", 2)]) (g := (gName 2)) (tt := tYes) rfl sc_law_order.nd (pi_keys (pv 0)) (blkOk_by (N := N_law_order) (sc := defScope s_law_order) (by decide +kernel)) (fun _ _ _ _ _ => (pg_name (i := 2) sc_law_order.nd rfl (by first | exact Or.inl rfl | exact Or.inr rfl))) (fun _ _ _ _ _ => pts_nil) (fun _ _ _ _ _ => (pe_tup (pa_cons (pe_un un_neg (pe_callB call_len_str (by rfl) T.b_len (by decide +kernel) (pa_cons (pv 2) pa_nil))) (pa_cons (pv 2) pa_nil)))))) pa_nil))) (blkOk_by (N := N_law_order) (sc := defScope s_law_order) (by decide +kernel)) (fun _ _ _ _ _ => (pg_name (i := 1) sc_law_order.nd rfl (by first | exact Or.inl rfl | exact Or.inr rfl))) (fun _ _ _ _ _ => pts_nil) (fun _ _ _ _ _ => (pe_ix (r := rIxT K) ix_tup (pv 1) pe_int (fun _ _ => rfl)))))), ?_⟩; rw [st_law_order]; (try dsimp only [cxOf]); walk_at "go"
    refine lcd_rel hd (line5 hz) (fun H' Q' _ q => ⟨_, rfl, q⟩) (fun e y H => ∃ a, y = V.ref a ∧ H a = some (.tup [.int (-(e.1.length : Int)), .str e.1])) (fun e y H H' t ⟨a, h1, h2⟩ => ⟨a, h1, t _ _ h2⟩) (fun _ => rfl) ?_ ?_
    · intro i z n H1 Kc hi le hk
      walk_at "go"
      refine ⟨z, rfl, line5 (hw z (mem_keys.mpr ⟨n, mem_fr hi⟩)), ?_⟩
      walk_at "go"
      exact ⟨Nat.le_of_ble_eq_true rfl, fun q hq => hk _ _ (Ex.new hq) ⟨q, rfl, upd_same⟩⟩
    · intro D H1 ys hD e hl hp
      obtain ⟨as, rfl, hp'⟩ := paired_refs hp
      obtain ⟨bs, hb1, hb2, hb3⟩ := bs_of hp'
      walk_at "go"
      refine ⟨D, bs, rfl, SqL.of (by rw [← hb1]; exact hl), fun b hb => SqT.of (hb3 b hb), fun bs' p hbs hin hp => ?_⟩
      walk_at "go"
      refine ⟨⟨_, SqL.of upd_same⟩, ?_⟩
      have hlen : bs'.length = s.length := by
        have h1 : (bs'.map (·.2)).length = bs'.length := List.length_map _
        rw [← h1, hbs, ordW_len, hb2]
        unfold keys
        rw [List.length_map]
      have e1 : Ex H (upd H1 p (.lst (bs'.map fun b => V.ref b.1))) := e.trans (Ex.new hp)
      refine lc_pure (j := 1) walk_list ((ordW (keys s)).map V.str) (by rw [List.length_map, List.length_map, ← hb2, ← hbs, List.length_map]) (by rw [List.length_map, hlen]; exact line5 hz) (fun H' e => SqL.of (e _ _ upd_same)) (fun _ => rfl) ?_ ?_
      · rintro i x y H2 H3 Kc hi e2 ⟨rfl, hx⟩ hy hk
        rw [List.getElem?_map] at hx hy
        rw [← hb2, ← hbs, List.getElem?_map] at hy
        cases hm : bs'[i]? with
        | none => rw [hm] at hx; cases hx
        | some b =>
          rw [hm] at hx hy
          obtain rfl := (Option.some.inj hx).symm
          obtain rfl := (Option.some.inj hy).symm
          have hb := hb3 b (hin b (List.mem_of_getElem? hm))
          walk_at "go"
          refine g_ixt (SqT.of (e2 _ _ (Ex.new hp _ _ hb))) rfl ?_
          exact hk _ (Ex.refl _)
      · intro D2 H2 hD2 e2 hl2
        walk_at "go"
        exact k _ _ (e1.trans e2) (e1.free hD2) hl2
theorem pairs_at {s : Bg} {ws : List Str} {H : Hp} {as : List Addr} (h : Paired (fun a z => H a = some (.tup [.str z, .int (cf s z)])) as ws) : Paired (fun a (kv : Str × Int) => H a = some (.tup [.str kv.1, .int kv.2])) as (ws.map fun z => (z, cf s z)) :=
  paired_mapr h fun _ _ q => q
theorem getS_cf {s : Bg} {z : Str} (h : z ∈ keys s) : getS s z = some (cf s z) := by
  unfold cf
  cases q : getS s z with
  | none => exact absurd h (getS_none.mp q)
  | some n => rfl
theorem ok_law_words {f : Addr} {fd : FuncData} (F : Fun K "_law_words" "_law_words" s_law_words f fd) (T : Txt K mg C_Bag Cs) (D_law_order : DefOk P w K mg base CX0 1 "_law_order" ["_law_bag"] sp_law_order) : FnOk P w K mg base CX0 2 f fd ["_law_bag"] sp_law_words := by
  refine F.ok sc_law_words (fun vs H Q E h => ?_) (fun cdv A outer s H vs Q E hr h => ?_)
  · obtain ⟨d, s, rfl, _⟩ := h
    rfl
  · obtain ⟨d, s, rfl, hd, hz, hw, hn, k⟩ := h
    have hu := hu_of hr; have hu64 := L2.Room.units hr; refine ⟨_, (pss_one (ps_ret (pe_callTy (r := rTupleZ K) call_tupleZ (by rfl) T.b_tuple (by decide +kernel) (pa_cons (pe_lc (own := [("_law_word_here", 1)]) (g := (gName 1)) (tt := tYes) rfl sc_law_words.nd (pi_list (pe_callD D_law_order (hr.mono (by decide)) rfl pass0 (pa_cons (pv 0) pa_nil))) (blkOk_by (N := N_law_words) (sc := defScope s_law_words) (by decide +kernel)) (fun _ _ _ _ _ => (pg_name (i := 1) sc_law_words.nd rfl (by first | exact Or.inl rfl | exact Or.inr rfl))) (fun _ _ _ _ _ => pts_nil) (fun _ _ _ _ _ => (pe_tup (pa_cons (pv 1) (pa_cons (pe_dget hu (pv 0) (pv 1) (fun _ _ => rfl)) pa_nil))))) pa_nil)))), ?_⟩; rw [st_law_words]; (try dsimp only [cxOf]); walk_at "go"
    refine ⟨d, s, rfl, hd, hz, hw, fun l H1 e1 hl1 hl => ?_⟩
    walk_at "go"
    refine ⟨⟨_, SqL.of hl⟩, ?_⟩
    have hlen : (ordW (keys s)).length = s.length := by rw [ordW_len]; unfold keys; rw [List.length_map]
    refine lc_rel (j := 1) walk_list (ordW (keys s)) (by rw [List.length_map]) (by rw [List.length_map, hlen]; exact line5 hz) (fun H' e => SqL.of (e _ _ hl)) (fun z y H => ∃ a, y = V.ref a ∧ H a = some (.tup [.str z, .int (cf s z)])) (fun e y H H' t ⟨a, h1, h2⟩ => ⟨a, h1, t _ _ h2⟩) (fun _ => rfl) ?_ ?_
    · rintro i x z H2 H3 Kc hi e2 ⟨rfl, hx⟩ hz2 hk
      rw [List.getElem?_map, hz2] at hx
      obtain rfl := (Option.some.inj hx).symm
      walk_at "go"
      refine g_dg ((e1.trans e2).rd hd) (getS_cf ((ordW_perm _).mem_iff.mp (List.mem_of_getElem? hz2))) ?_
      walk_at "go"
      exact ⟨Nat.le_of_ble_eq_true rfl, fun q hq => hk _ _ (Ex.new hq) ⟨q, rfl, upd_same⟩⟩
    · intro D H2 ys hD e2 hlD hp
      obtain ⟨as, rfl, hp'⟩ := paired_refs hp
      walk_at "go"
      refine ⟨D, _, rfl, SqL.of hlD, fun t o ht ho => ?_⟩
      have e3 : Ex H (upd H2 t (.frz o (.tup (as.map V.ref)))) := (e1.trans e2).trans (Ex.new ht)
      exact k _ _ e3 ((e1.trans e2).free ht) ⟨as, o, upd_same, ho, Paired.mapP (pairs_at hp') fun a b q => Ex.new ht _ _ q⟩
/-! ### clocks and words at random -/
def sp_law_clock : Sp := fun vs H Q _ => ∃ (h c : Addr), vs = [.ref h] ∧ HandAt H h c ∧ ∀ p H', (p = 2 ∨ p = 3 ∨ p = 5 ∨ p = 7) → ExB h H H' → HandAt H' h c → Q (.int p) H'
def sp_law_word : Sp := fun vs H Q _ => ∃ (h c : Addr) (z : Str) (m : Int), vs = [.ref h, .str z, .int m] ∧ HandAt H h c ∧ 0 < z.length ∧ z.length ≤ 100 ∧ isW z = true ∧ 0 ≤ m ∧ m ≤ 1000 ∧
  ∀ u H', (u.length : Int) ≤ m → isW u = true → ExB h H H' → HandAt H' h c → Q (.str u) H'
theorem ok_law_clock {f : Addr} {fd : FuncData} (F : Fun K "_law_clock" "_law_clock" s_law_clock f fd) (T : Txt K mg C_Bag Cs) (D_law_draw : DefOk P w K mg base CX0 1 "_law_draw" ["_law_hand_here", "_law_many"] sp_law_draw) : FnOk P w K mg base CX0 2 f fd ["_law_hand_here"] sp_law_clock := by
  refine F.ok sc_law_clock (fun vs H Q E h => ?_) (fun cdv A outer s H vs Q E hr h => ?_)
  · obtain ⟨h, c, rfl, _⟩ := h
    rfl
  · obtain ⟨h, c, rfl, hh, k⟩ := h
    have hu := hu_of hr; have hu64 := L2.Room.units hr; refine ⟨_, (pss_one (ps_ret (pe_ix (r := rIxL K) ix_list (pe_lst (pa_cons pe_int (pa_cons pe_int (pa_cons pe_int (pa_cons pe_int (pa_cons pe_int (pa_cons pe_int (pa_cons pe_int (pa_cons pe_int pa_nil))))))))) (pe_callD D_law_draw (hr.mono (by decide)) rfl pass0 (pa_cons (pv 0) (pa_cons pe_int pa_nil))) (fun _ _ => rfl)))), ?_⟩; rw [st_law_clock]; (try dsimp only [cxOf]); walk_at "go"
    refine ⟨Nat.le_of_ble_eq_true rfl, fun l hl => ?_⟩
    walk_at "go"
    refine ⟨h, c, 8, rfl, hh.ex' (Ex.new hl), by decide, by decide, fun v H' h0 h1 e hh' => ?_⟩
    obtain ⟨xs, hx⟩ := hh.kind
    have hlh : l ≠ h := fun q => by subst q; rw [hl] at hx; cases hx
    have hL : H' l = some (.lst [.int 2, .int 3, .int 2, .int 3, .int 2, .int 3, .int 5, .int 7]) := e _ _ hlh upd_same
    have eH : ExB h H H' := (Ex.new hl).exb.trans e
    obtain ⟨i, hi, rfl⟩ : ∃ i : Nat, i < 8 ∧ v = i := ⟨v.toNat, by omega, by omega⟩
    match i, hi with
    | 0, _ => exact g_ixl (SqL.of hL) rfl (k _ _ (by decide) eH hh')
    | 1, _ => exact g_ixl (SqL.of hL) rfl (k _ _ (by decide) eH hh')
    | 2, _ => exact g_ixl (SqL.of hL) rfl (k _ _ (by decide) eH hh')
    | 3, _ => exact g_ixl (SqL.of hL) rfl (k _ _ (by decide) eH hh')
    | 4, _ => exact g_ixl (SqL.of hL) rfl (k _ _ (by decide) eH hh')
    | 5, _ => exact g_ixl (SqL.of hL) rfl (k _ _ (by decide) eH hh')
    | 6, _ => exact g_ixl (SqL.of hL) rfl (k _ _ (by decide) eH hh')
    | 7, _ => exact g_ixl (SqL.of hL) rfl (k _ _ (by decide) eH hh')
    | (n + 8), h => omega

end
end Fp

namespace Fp
open PySem L2
section
variable {P : Program} {w : World} {K : PySem.W.Frag} {mg : Str → Option Value} {base : Heap} {C_Bag : Addr} {Cs : Addr → Prop}
local macro_rules | `(tactic| walk_at "hp") => `(tactic| first | assumption | rfl)
local macro_rules | `(tactic| walk_at "cond") => `(tactic| first | assumption | decide | omega | (unfold CMul; omega) | (refine ⟨?_, ?_⟩ <;> omega) | (unfold CDiv; omega) | (unfold CPow; omega))
local macro_rules | `(tactic| walk_at "g1") => `(tactic| first
  | with_reducible first
    | refine g_seq ?_ | refine g_asg ?_ | refine g_name ?_ | refine g_ret ?_ | refine g_retN ?_ | refine g_drop ?_ | refine g_ifs ?_
    | refine g_c ?_ | refine g_op ?_ | refine g_un ?_ | refine g_I0 ?_ | refine g_U ?_
    | refine g_test ?_ | refine g_tB ?_ | refine g_bl ?_ | refine g_and ?_ | refine g_or ?_ | refine g_not ?_
    | refine g_andV ?_ | refine g_orV ?_ | refine g_notV ?_ | refine g_if ?_ | refine g_nil ?_ | refine g_cons ?_ | refine g_cb ?_ | refine g_call ?_
    | refine g_lst ?_ | refine g_tup ?_ | refine g_itT ?_ | refine g_itF ?_ | refine g_itNT ?_ | refine g_itNF ?_ | refine g_lc ?_ | refine g_iStr ?_ | refine g_yes ?_ | refine g_exs ?_
    | refine g_chain ?_ | refine g_dget ?_ | refine g_dput ?_ | refine g_dget2 ?_ | refine g_dpop2 ?_ | refine g_fld ?_ | refine g_sfld ?_ | refine g_make ?_ | refine g_meth ?_
    | refine g_bm ?_ | refine g_kw ?_ | refine g_callS ?_ | refine g_revL ?_ | refine g_m1 ?_ | refine g_gsub ?_ | refine g_for ?_ | refine g_iList ?_ | refine g_iTup ?_ | refine g_iRng1 ?_ | refine g_iRng2 ?_ | refine g_sl ?_ | refine g_part ?_ | refine g_noPart ?_
    | refine g_exi ?_ | refine g_exr ?_ | refine g_dnew ?_ | refine g_disp ?_ | refine g_prs0 ?_ | refine g_prs ?_ | refine g_nxt ?_
  | ((with_reducible refine g_var (v := ?vv) ?gv ?_); (case gv => exact rfl))
  | ((with_reducible refine g_I ?gc ?_); (case gc => walk_at "cond"))
  | ((with_reducible refine g_eq ?ge ?_); (case ge => exact rfl))
  | ((with_reducible refine g_ne ?ge ?_); (case ge => exact rfl))
  | (refine g_ixl (SqL.of (by first | assumption | exact upd_same)) rfl ?_)
  | (refine g_setl (by first | assumption | exact upd_same) rfl ?_)
  | ((with_reducible show (∃ i, [V.int _] = [V.int i] ∧ _) ∨ _); refine Or.inl ⟨_, rfl, ?_⟩)
  | ((with_reducible show ∃ i, [V.int _] = [V.int i] ∧ _); refine ⟨_, rfl, ?_⟩)
  | dsimp only)
local macro_rules | `(tactic| walk_at "go") => `(tactic| repeat (walk_at "g1"))

theorem isW_app {a b : Str} (ha : isW a = true) (hb : isW b = true) : isW (a ++ b) = true := by
  unfold isW at *
  rw [app_toList, List.all_append, ha, hb]
  rfl
theorem isW_empty : isW Str.empty = true := rfl
theorem isW_one {z : Str} {c : Nat} (hz : isW z = true) (h : c ∈ z.cps.toList) : isW ⟨#[c]⟩ = true := by
  unfold isW at *
  have := List.all_eq_true.mp hz c h
  show List.all [c] _ = true
  rw [List.all_cons, this]
  rfl
theorem join_ones : ∀ ys : List Str, (∀ y ∈ ys, y.length = 1 ∧ isW y = true) → (Str.join ("" : Str) ys).length = ys.length ∧ isW (Str.join ("" : Str) ys) = true
  | [], _ => ⟨rfl, rfl⟩
  | [x], h => ⟨(h x List.mem_cons_self).1, (h x List.mem_cons_self).2⟩
  | x :: y :: r, h => by
    have ih := join_ones (y :: r) fun z hz => h z (List.mem_cons_of_mem _ hz)
    have hx := h x List.mem_cons_self
    show (x ++ ("" : Str) ++ Str.join ("" : Str) (y :: r)).length = _ ∧ isW (x ++ ("" : Str) ++ Str.join ("" : Str) (y :: r)) = true
    have e0 : ("" : Str).length = 0 := rfl
    refine ⟨?_, isW_app (isW_app hx.2 rfl) ih.2⟩
    rw [len_app, len_app, hx.1, ih.1, e0]
    simp only [List.length_cons]
    omega
theorem sum_ones {α : Type} : ∀ l : List α, (l.map fun _ => 1).sum = l.length
  | [] => rfl
  | a :: r => by rw [List.map_cons, List.sum_cons, sum_ones r, List.length_cons, Nat.add_comm]
theorem strs_of : ∀ {ys : List V} {Pz : Str → Prop}, (∀ y ∈ ys, ∃ z, y = V.str z ∧ Pz z) → ∃ zs : List Str, ys = zs.map V.str ∧ ∀ z ∈ zs, Pz z
  | [], _, _ => ⟨[], rfl, fun _ h => nomatch h⟩
  | y :: r, Pz, h => by
    obtain ⟨zs, e, hz⟩ := strs_of (ys := r) fun y hy => h y (List.mem_cons_of_mem _ hy)
    obtain ⟨z, e1, h1⟩ := h y List.mem_cons_self
    refine ⟨z :: zs, by rw [e1, e]; rfl, fun u hu => ?_⟩
    rcases List.mem_cons.mp hu with q | q
    · rw [q]; exact h1
    · exact hz u q
theorem ok_law_word {f : Addr} {fd : FuncData} (F : Fun K "_law_word" "_law_word" s_law_word f fd) (T : Txt K mg C_Bag Cs) (D_law_draw : DefOk P w K mg base CX0 1 "_law_draw" ["_law_hand_here", "_law_many"] sp_law_draw) : FnOk P w K mg base CX0 2 f fd ["_law_hand_here", "_law_letters", "_law_most"] sp_law_word := by
  refine F.ok sc_law_word (fun vs H Q E h => ?_) (fun cdv A outer s H vs Q E hr h => ?_)
  · obtain ⟨h, c, z, m, rfl, _⟩ := h
    rfl
  · obtain ⟨h, c, z, m, rfl, hh, hz0, hz1, hzw, hm0, hm1, k⟩ := h
    have hu := hu_of hr; have hu64 := L2.Room.units hr; refine ⟨_, (pss_one (ps_ret (pe_join pe_str (pe_lc (own := [("_law_turn", 3)]) (g := (gName 3)) (tt := tYes) rfl sc_law_word.nd (pi_range1 rfl T.b_range (pa_cons (pe_callD D_law_draw (hr.mono (by decide)) rfl pass0 (pa_cons (pv 0) (pa_cons (pe_op op_add (pv 2) pe_int) pa_nil))) pa_nil)) (blkOk_by (N := N_law_word) (sc := defScope s_law_word) (by decide +kernel)) (fun _ _ _ _ _ => (pg_name (i := 3) sc_law_word.nd rfl (by first | exact Or.inl rfl | exact Or.inr rfl))) (fun _ _ _ _ _ => pts_nil) (fun _ _ _ _ _ => (pe_ix (r := rIxS) ix_str (pv 1) (pe_callD D_law_draw (hr.mono (by decide)) rfl pass0 (pa_cons (pv 0) (pa_cons (pe_callB call_len_str (by rfl) T.b_len (by decide +kernel) (pa_cons (pv 1) pa_nil)) pa_nil))) (fun _ _ => rfl))))))), ?_⟩; rw [st_law_word]; (try dsimp only [cxOf]); walk_at "go"
    refine ⟨⟨_, rfl⟩, ?_⟩
    walk_at "go"
    refine ⟨h, c, m + 1, rfl, hh, by omega, by omega, fun v H1 hv0 hv1 e1 hh1 => ?_⟩
    walk_at "go"
    refine ⟨by omega, by omega, ?_⟩
    obtain ⟨o0, ho⟩ := hh1.kind
    refine lc_mut (f := h) (j := 3) walk_range ho (Nat.le_trans (by omega : v.toNat ≤ 1000) (by decide)) (fun H => HandAt H h c) hh1 (fun H D o hD x => x.upd (hh1.new hD).1 (hh1.new hD).2) (fun _ _ _ => trivial) (fun y => ∃ u : Str, y = V.str u ∧ u.length = 1 ∧ isW u = true) (fun _ => rfl) ?_ ?_
    · rintro i x H2 H3 Kc hi e2 hh2 ⟨rfl, rfl⟩ hk
      walk_at "go"
      refine ⟨z, rfl, Nat.le_trans hz1 (by decide), ?_⟩
      walk_at "go"
      refine ⟨h, c, z.length, rfl, hh2, by omega, by omega, fun q H4 hq0 hq1 e4 hh4 => ?_⟩
      have hql : q.toNat < z.cps.toList.length := by
        have : z.cps.toList.length = z.length := Array.length_toList
        omega
      refine g_ixs (Nat.le_trans hz1 (by decide)) (atI_get hq0 (List.getElem?_eq_getElem hql)) ?_
      exact hk _ _ e4 hh4 ⟨_, rfl, rfl, isW_one hzw (List.getElem_mem hql)⟩
    · intro D H2 ys hD e2 hh2 hl2 hlen hp
      obtain ⟨zs, rfl, hzs⟩ := strs_of hp
      rw [List.length_map] at hlen
      have hsum : (zs.map (·.length)).sum = zs.length := by
        have : zs.map (·.length) = zs.map fun _ => 1 := List.map_congr_left fun u hu => (hzs u hu).1
        rw [this]
        exact sum_ones zs
      obtain ⟨j1, j2⟩ := join_ones zs hzs
      refine ⟨_, D, zs, rfl, rfl, .inl (SqL.of hl2), ?_, ?_⟩
      · rw [hsum]
        have : ("" : Str).length = 0 := rfl
        rw [this]
        omega
      · have e3 : Txt.join ("" : Str) zs = Str.join ("" : Str) zs := TL.join_eq _ _
        rw [e3]
        exact k _ _ (by rw [j1]; omega) j2 (e1.trans e2) hh2

end
end Fp

namespace Fp
open PySem L2
section
variable {P : Program} {w : World} {K : PySem.W.Frag} {mg : Str → Option Value} {base : Heap} {C_Bag : Addr} {Cs : Addr → Prop}
local macro_rules | `(tactic| walk_at "hp") => `(tactic| first | assumption | rfl)
local macro_rules | `(tactic| walk_at "cond") => `(tactic| first | assumption | decide | omega | (unfold CMul; omega) | (refine ⟨?_, ?_⟩ <;> omega) | (unfold CDiv; omega) | (unfold CPow; omega))
local macro_rules | `(tactic| walk_at "g1") => `(tactic| first
  | with_reducible first
    | refine g_seq ?_ | refine g_asg ?_ | refine g_name ?_ | refine g_ret ?_ | refine g_retN ?_ | refine g_drop ?_ | refine g_ifs ?_
    | refine g_c ?_ | refine g_op ?_ | refine g_un ?_ | refine g_I0 ?_ | refine g_U ?_
    | refine g_test ?_ | refine g_tB ?_ | refine g_bl ?_ | refine g_and ?_ | refine g_or ?_ | refine g_not ?_
    | refine g_andV ?_ | refine g_orV ?_ | refine g_notV ?_ | refine g_if ?_ | refine g_nil ?_ | refine g_cons ?_ | refine g_cb ?_ | refine g_call ?_
    | refine g_lst ?_ | refine g_tup ?_ | refine g_itT ?_ | refine g_itF ?_ | refine g_itNT ?_ | refine g_itNF ?_ | refine g_lc ?_ | refine g_iStr ?_ | refine g_yes ?_ | refine g_exs ?_
    | refine g_chain ?_ | refine g_dget ?_ | refine g_dput ?_ | refine g_dget2 ?_ | refine g_dpop2 ?_ | refine g_fld ?_ | refine g_sfld ?_ | refine g_make ?_ | refine g_meth ?_
    | refine g_bm ?_ | refine g_kw ?_ | refine g_callS ?_ | refine g_revL ?_ | refine g_m1 ?_ | refine g_gsub ?_ | refine g_for ?_ | refine g_iList ?_ | refine g_iTup ?_ | refine g_iRng1 ?_ | refine g_iRng2 ?_ | refine g_sl ?_ | refine g_part ?_ | refine g_noPart ?_
    | refine g_exi ?_ | refine g_exr ?_ | refine g_dnew ?_ | refine g_disp ?_ | refine g_prs0 ?_ | refine g_prs ?_ | refine g_nxt ?_
  | ((with_reducible refine g_var (v := ?vv) ?gv ?_); (case gv => exact rfl))
  | ((with_reducible refine g_I ?gc ?_); (case gc => walk_at "cond"))
  | ((with_reducible refine g_eq ?ge ?_); (case ge => exact rfl))
  | ((with_reducible refine g_ne ?ge ?_); (case ge => exact rfl))
  | (refine g_ixl (SqL.of (by first | assumption | exact upd_same)) rfl ?_)
  | (refine g_setl (by first | assumption | exact upd_same) rfl ?_)
  | ((with_reducible show (∃ i, [V.int _] = [V.int i] ∧ _) ∨ _); refine Or.inl ⟨_, rfl, ?_⟩)
  | ((with_reducible show ∃ i, [V.int _] = [V.int i] ∧ _); refine ⟨_, rfl, ?_⟩)
  | dsimp only)
local macro_rules | `(tactic| walk_at "go") => `(tactic| repeat (walk_at "g1"))

/-- a dict of words, how many and how long -/
structure Lot (p : Int) (s : Bg) (a b : Nat) : Prop where
  g : Good p s
  n : s.length ≤ a
  l : ∀ u ∈ keys s, u.length ≤ b ∧ isW u = true
theorem Lot.mono {p : Int} {s : Bg} {a b a' b' : Nat} (l : Lot p s a b) (h1 : a ≤ a') (h2 : b ≤ b') : Lot p s a' b' := ⟨l.g, Nat.le_trans l.n h1, fun u hu => ⟨Nat.le_trans (l.l u hu).1 h2, (l.l u hu).2⟩⟩
theorem Lot.nil {p : Int} {a b : Nat} : Lot p [] a b := ⟨Good.nil, Nat.zero_le _, fun _ h => nomatch h⟩
theorem Lot.prod {p : Int} {s t : Bg} {a b c d : Nat} (hp : 0 < p) (l : Lot p s a b) (m : Lot p t c d) : Lot p (prodS p s t) (a * c) (b + d) :=
  ⟨Good.prod hp s t, Nat.le_trans (len_prod (p := p)) (Nat.mul_le_mul l.n m.n), fun u hu => by
    obtain ⟨x, hx, y, hy, rfl⟩ := keys_prod hu
    rw [len_app]
    exact ⟨Nat.add_le_add (l.l x hx).1 (m.l y hy).1, isW_app (l.l x hx).2 (m.l y hy).2⟩⟩
theorem Lot.plus {p : Int} {s t : Bg} {f : Int} {a b c d e : Nat} (hp : 0 < p) (l : Lot p s a b) (m : Lot p t c d) (hb : b ≤ e) (hd : d ≤ e) : Lot p (plusS p s t f) (a + c) e :=
  ⟨Good.plus hp l.g t, Nat.le_trans (len_plus f) (Nat.add_le_add l.n m.n), fun u hu => by
    rcases keys_plus hu with h | h
    · exact ⟨Nat.le_trans (l.l u h).1 hb, (l.l u h).2⟩
    · exact ⟨Nat.le_trans (m.l u h).1 hd, (m.l u h).2⟩⟩
theorem Lot.put {p : Int} {s : Bg} {z : Str} {n : Int} {a b : Nat} (l : Lot p s a b) (h0 : 0 < n) (h1 : n < p) (hz : z.length ≤ b) (hw : isW z = true) : Lot p (putS s z n) (a + 1) b :=
  ⟨l.g.put h0 h1, Nat.le_trans (len_put s z n) (Nat.add_le_add_right l.n 1), fun u hu => by
    rw [keys_put] at hu
    split at hu
    · exact l.l u hu
    · rcases List.mem_append.mp hu with h | h
      · exact l.l u h
      · rw [List.mem_singleton.mp h]; exact ⟨hz, hw⟩⟩
/-- of a few words that are known -/
theorem Lot.of {p : Int} {s : Bg} {a b : Nat} (hn : (keys s).Nodup) (hl : s.length ≤ a) (hk : ∀ u ∈ keys s, u.length ≤ b ∧ isW u = true) (hv : ∀ kv ∈ s, 0 < kv.2 ∧ kv.2 < p) : Lot p s a b :=
  ⟨⟨hn, fun kv h => (hv kv h).1, fun kv h => (hv kv h).2⟩, hl, hk⟩
def sp_law_lot : Sp := fun vs H Q _ => ∃ (h c : Addr) (p : Int) (z : Str) (m n : Nat), vs = [.ref h, .int p, .str z, .int m, .int n] ∧ HandAt H h c ∧ 2 ≤ p ∧ p ≤ 1000 ∧ 0 < z.length ∧ z.length ≤ 100 ∧ isW z = true ∧ m ≤ 999 ∧ n ≤ 999 ∧
  ∀ d s H', ExB h H H' → H d = none → H' d = some (.dK (toK s)) → Lot p s n m → HandAt H' h c → Q (.ref d) H'
def sp_law_small : Sp := fun vs H Q _ => ∃ (h c : Addr) (p : Int), vs = [.ref h, .int p] ∧ HandAt H h c ∧ 2 ≤ p ∧ p ≤ 1000 ∧
  ∀ d s H', ExB h H H' → H d = none → H' d = some (.dK (toK s)) → Lot p s 3 2 → HandAt H' h c → Q (.ref d) H'
def sp_law_woven : Sp := fun vs H Q _ => ∃ (h c : Addr) (p m : Int), vs = [.ref h, .int p, .int m] ∧ HandAt H h c ∧ 2 ≤ p ∧ p ≤ 1000 ∧ 0 < m ∧ m ≤ 1000 ∧
  ∀ d s H', ExB h H H' → H d = none → H' d = some (.dK (toK s)) → Lot p s 120 7 → HandAt H' h c → Q (.ref d) H'
def sp_law_some : Sp := fun vs H Q _ => ∃ (h c : Addr) (p : Int), vs = [.ref h, .int p] ∧ HandAt H h c ∧ 2 ≤ p ∧ p ≤ 1000 ∧
  ∀ d s H', ExB h H H' → H d = none → H' d = some (.dK (toK s)) → Lot p s 120 7 → HandAt H' h c → Q (.ref d) H'
theorem ExB.one {f d : Addr} {H H' : Hp} {o : HO} (e : ExB f (L2.upd H d o) H') (hd : H d = none) : ExB f H H' := (Ex.new hd).exb.trans e
theorem ok_law_lot {f : Addr} {fd : FuncData} (F : Fun K "_law_lot" "_law_lot" s_law_lot f fd) (T : Txt K mg C_Bag Cs) (D_law_draw : DefOk P w K mg base CX0 1 "_law_draw" ["_law_hand_here", "_law_many"] sp_law_draw) (D_law_word : DefOk P w K mg base CX0 2 "_law_word" ["_law_hand_here", "_law_letters", "_law_most"] sp_law_word) : FnOk P w K mg base CX0 3 f fd ["_law_hand_here", "_law_clock_here", "_law_letters", "_law_most", "_law_many"] sp_law_lot := by
  refine F.ok sc_law_lot (fun vs H Q E h => ?_) (fun cdv A outer s H vs Q E hr h => ?_)
  · obtain ⟨h, c, p, z, m, n, rfl, _⟩ := h
    rfl
  · obtain ⟨h, c, p, z, m, n, rfl, hh, hp0, hp1, hz0, hz1, hzw, hm, hn, k⟩ := h
    have hu := hu_of hr; have hu64 := L2.Room.units hr; refine ⟨_, (pss_cons (ps_set (i := 5) sc_law_lot.nd rfl (by first | exact Or.inl rfl | exact Or.inr rfl) pe_dnewK) (pss_cons (ps_for PassesOwn.never rfl (pi_range1 rfl T.b_range (pa_cons (pe_callD D_law_draw (hr.mono (by decide)) rfl pass0 (pa_cons (pv 0) (pa_cons (pe_op op_add (pv 4) pe_int) pa_nil))) pa_nil)) (pg_name (i := 6) sc_law_lot.nd rfl (by first | exact Or.inl rfl | exact Or.inr rfl)) (pss_one (ps_dput hu (pv 5) (pe_callD D_law_word (hr.mono (by decide)) rfl pass0 (pa_cons (pv 0) (pa_cons (pv 2) (pa_cons (pv 3) pa_nil)))) (pe_op op_add pe_int (pe_callD D_law_draw (hr.mono (by decide)) rfl pass0 (pa_cons (pv 0) (pa_cons (pe_op op_sub (pv 1) pe_int) pa_nil)))) rfl))) (pss_one (ps_ret (pv 5))))), ?_⟩; rw [st_law_lot]; (try dsimp only [cxOf]); walk_at "go"
    intro d hd
    walk_at "go"
    obtain ⟨hdh, hdc⟩ := hh.new hd
    refine ⟨h, c, n + 1, rfl, hh.upd hdh hdc, by omega, by omega, fun v H1 hv0 hv1 e1 hh1 => ?_⟩
    walk_at "go"
    refine ⟨by omega, by omega, ?_⟩
    refine forG walk_range (fun i σ' H' => (∃ x, σ' = [some (.ref h), some (.int p), some (.str z), some (.int m), some (.int n), some (.ref d), x]) ∧ ExB h H H' ∧ HandAt H' h c ∧ ∃ s, H' d = some (.dK (toK s)) ∧ Lot p s i m) ⟨⟨none, rfl⟩, (Ex.new hd).exb.trans e1, hh1, [], e1 _ _ hdh upd_same, Lot.nil⟩ (fun _ _ _ _ _ => trivial) ?_ ?_
    · rintro i x σ' H2 H3 hi ⟨⟨y, rfl⟩, e2, hh2, s, hs, hl⟩ ⟨rfl, rfl⟩
      walk_at "go"
      refine ⟨h, c, p - 1, rfl, hh2, by omega, by omega, fun v2 H4 h1 h2 e4 hh4 => ?_⟩
      walk_at "go"
      refine ⟨h, c, z, m, rfl, hh4, hz0, hz1, hzw, by omega, by omega, fun u H5 hu1 hu2 e5 hh5 => ?_⟩
      have hs5 := e5 _ _ hdh (e4 _ _ hdh hs)
      refine g_dp hs5 (Nat.lt_of_le_of_lt hl.n (Nat.lt_of_lt_of_le (by omega : i < 1000) (by decide))) ?_
      refine ⟨⟨_, rfl⟩, ?_, hh5.upd hdh hdc, _, upd_same, hl.put (by omega) (by omega) (by omega) hu2⟩
      exact fun a o hne q => by rw [upd_ne (ne_of_none q hd)]; exact e5 _ _ hne (e4 _ _ hne (e2 _ _ hne q))
    · rintro σ' H2 ⟨⟨y, rfl⟩, e2, hh2, s, hs, hl⟩
      walk_at "go"
      exact k d s H2 e2 hd hs (hl.mono (by omega) (Nat.le_refl _)) hh2
def small1 (n : Int) : List Bg := [[("x", 1)], [("y", 1)], [("x", 1), ("", n)], [("y", n), ("", 1)], [("x", 1), ("y", n)]]
def small2 (n : Int) : List Bg := [[("xy", 1), ("", n)], [("yx", 1), ("", n)], [("xx", 1), ("y", n)], [("xy", 1), ("yx", n)]]
def small3 (n : Int) : List Bg := [[("xy", n), ("x", 1), ("", 1)], [("", n)], [("z", 1), ("x", n)]]
def okWords (ks : List Str) : Bool := decide ks.Nodup && decide (ks.length ≤ 3) && ks.all fun u => decide (u.length ≤ 2) && isW u
theorem lot_of_ok {p n : Int} {s : Bg} (h : okWords (keys s) = true) (hn0 : 0 < n) (hn1 : n < p) (hv : ∀ kv ∈ s, kv.2 = 1 ∨ kv.2 = n) : Lot p s 3 2 := by
  unfold okWords at h
  simp only [Bool.and_eq_true, decide_eq_true_eq] at h
  obtain ⟨⟨h1, h2⟩, h3⟩ := h
  refine Lot.of h1 (by unfold keys at h2; rw [List.length_map] at h2; exact h2) (fun u hu => ?_) fun kv hkv => ?_
  · have := List.all_eq_true.mp h3 u hu
    simpa using this
  · rcases hv kv hkv with e | e <;> omega
theorem small_lot {p n : Int} (hn0 : 0 < n) (hn1 : n < p) : ∀ s ∈ small1 n ++ small2 n ++ small3 n, Lot p s 3 2 := by
  intro s hs
  have hk : ((small1 n ++ small2 n ++ small3 n).map keys).all okWords = true := by
    show ((small1 0 ++ small2 0 ++ small3 0).map keys).all okWords = true
    decide +kernel
  refine lot_of_ok (List.all_eq_true.mp hk _ (List.mem_map_of_mem hs)) hn0 hn1 ?_
  have hv : ∀ s ∈ small1 n ++ small2 n ++ small3 n, ∀ kv ∈ s, kv.2 = 1 ∨ kv.2 = n := by
    intro s hs kv hkv
    simp only [small1, small2, small3, List.mem_append, List.mem_cons, List.not_mem_nil, or_false] at hs
    rcases hs with ((rfl | rfl | rfl | rfl | rfl) | rfl | rfl | rfl | rfl) | rfl | rfl | rfl <;> simp only [List.mem_cons, List.not_mem_nil, or_false] at hkv
    all_goals first
      | (rcases hkv with rfl | rfl | rfl <;> first | exact .inl rfl | exact .inr rfl)
      | (rcases hkv with rfl | rfl <;> first | exact .inl rfl | exact .inr rfl)
      | (subst hkv; first | exact .inl rfl | exact .inr rfl)
  exact hv s hs
theorem lst_ok {tA : TA} {σ : St} {ss : List Bg} {H : Hp} {Q : VK} (h : ArgsOk tA σ ss) (hz : ss.length ≤ 1000) (q : ∀ l ps H', Ex H H' → H l = none → H' l = some (.lst (ps.map V.ref)) → Paired (fun p s => H p = none ∧ H' p = some (.dK (toK s))) ps ss → Q (.ref l) H') : tLst tA σ H Q :=
  h H _ fun ps H' e hp => ⟨by rw [List.length_map, hp.length]; exact Nat.le_trans hz (by decide), fun l hl => q l ps _ (e.trans (Ex.new hl)) (e.free hl) upd_same (Paired.mapP hp fun _ _ z => ⟨z.1, Ex.new hl _ _ z.2⟩)⟩
theorem small_ne {v : Int} (s : Bg) (hs : s ∈ small1 v ++ small2 v ++ small3 v) : s ≠ [] := by
  unfold small1 small2 small3 at hs
  simp only [List.cons_append, List.nil_append, List.mem_cons, List.not_mem_nil, or_false] at hs
  rcases hs with rfl | rfl | rfl | rfl | rfl | rfl | rfl | rfl | rfl | rfl | rfl | rfl <;> exact List.cons_ne_nil _ _
/-- few words, or three of which two are beginnings -/
def SmK (s : Bg) : Prop := s.length ≤ 2 ∨ keys s = (["xy", "x", ""] : List Str)
theorem small_K {v : Int} (s : Bg) (hs : s ∈ small1 v ++ small2 v ++ small3 v) : SmK s := by
  unfold small1 small2 small3 at hs
  simp only [List.cons_append, List.nil_append, List.mem_cons, List.not_mem_nil, or_false] at hs
  rcases hs with rfl | rfl | rfl | rfl | rfl | rfl | rfl | rfl | rfl | rfl | rfl | rfl <;> first | exact .inl (Nat.le_of_ble_eq_true rfl) | exact .inr rfl
/-- small bags are not nothing -/
def sp_law_smallN : Sp := fun vs H Q _ => ∃ (h c : Addr) (p : Int), vs = [.ref h, .int p] ∧ HandAt H h c ∧ 2 ≤ p ∧ p ≤ 1000 ∧
  ∀ d s H', ExB h H H' → H d = none → H' d = some (.dK (toK s)) → Lot p s 3 2 → s ≠ [] → HandAt H' h c → Q (.ref d) H'
def sp_law_smallI : Sp := fun vs H Q _ => ∃ (h c : Addr) (p : Int), vs = [.ref h, .int p] ∧ HandAt H h c ∧ 2 ≤ p ∧ p ≤ 1000 ∧
  ∀ d s H', ExB h H H' → H d = none → H' d = some (.dK (toK s)) → Lot p s 3 2 → s ≠ [] → SmK s → HandAt H' h c → Q (.ref d) H'
theorem ok_law_smallI {f : Addr} {fd : FuncData} (F : Fun K "_law_small" "_law_small" s_law_small f fd) (T : Txt K mg C_Bag Cs) (D_law_draw : DefOk P w K mg base CX0 1 "_law_draw" ["_law_hand_here", "_law_many"] sp_law_draw) : FnOk P w K mg base CX0 2 f fd ["_law_hand_here", "_law_clock_here"] sp_law_smallI := by
  refine F.ok sc_law_small (fun vs H Q E h => ?_) (fun cdv A outer s H vs Q E hr h => ?_)
  · obtain ⟨h, c, p, rfl, _⟩ := h
    rfl
  · obtain ⟨h, c, p, rfl, hh, hp0, hp1, k⟩ := h
    have hu := hu_of hr; have hu64 := L2.Room.units hr; refine ⟨_, (pss_cons (ps_set (i := 2) sc_law_small.nd rfl (by first | exact Or.inl rfl | exact Or.inr rfl) (pe_op op_add pe_int (pe_callD D_law_draw (hr.mono (by decide)) rfl pass0 (pa_cons (pv 0) (pa_cons (pe_op op_sub (pv 1) pe_int) pa_nil))))) (pss_cons (ps_set (i := 3) sc_law_small.nd rfl (by first | exact Or.inl rfl | exact Or.inr rfl) (pe_lst (pa_cons (pe_disp (pps_cons pe_str pe_int pps_nil) rfl rfl (List.cons_ne_nil _ _) (Nat.le_of_ble_eq_true rfl)) (pa_cons (pe_disp (pps_cons pe_str pe_int pps_nil) rfl rfl (List.cons_ne_nil _ _) (Nat.le_of_ble_eq_true rfl)) (pa_cons (pe_disp (pps_cons pe_str pe_int (pps_cons pe_str (pv 2) pps_nil)) rfl rfl (List.cons_ne_nil _ _) (Nat.le_of_ble_eq_true rfl)) (pa_cons (pe_disp (pps_cons pe_str (pv 2) (pps_cons pe_str pe_int pps_nil)) rfl rfl (List.cons_ne_nil _ _) (Nat.le_of_ble_eq_true rfl)) (pa_cons (pe_disp (pps_cons pe_str pe_int (pps_cons pe_str (pv 2) pps_nil)) rfl rfl (List.cons_ne_nil _ _) (Nat.le_of_ble_eq_true rfl)) pa_nil))))))) (pss_cons (ps_set (i := 3) sc_law_small.nd rfl (by first | exact Or.inl rfl | exact Or.inr rfl) (pe_op op_cat (pv 3) (pe_lst (pa_cons (pe_disp (pps_cons pe_str pe_int (pps_cons pe_str (pv 2) pps_nil)) rfl rfl (List.cons_ne_nil _ _) (Nat.le_of_ble_eq_true rfl)) (pa_cons (pe_disp (pps_cons pe_str pe_int (pps_cons pe_str (pv 2) pps_nil)) rfl rfl (List.cons_ne_nil _ _) (Nat.le_of_ble_eq_true rfl)) (pa_cons (pe_disp (pps_cons pe_str pe_int (pps_cons pe_str (pv 2) pps_nil)) rfl rfl (List.cons_ne_nil _ _) (Nat.le_of_ble_eq_true rfl)) (pa_cons (pe_disp (pps_cons pe_str pe_int (pps_cons pe_str (pv 2) pps_nil)) rfl rfl (List.cons_ne_nil _ _) (Nat.le_of_ble_eq_true rfl)) pa_nil))))))) (pss_cons (ps_set (i := 3) sc_law_small.nd rfl (by first | exact Or.inl rfl | exact Or.inr rfl) (pe_op op_cat (pv 3) (pe_lst (pa_cons (pe_disp (pps_cons pe_str (pv 2) (pps_cons pe_str pe_int (pps_cons pe_str pe_int pps_nil))) rfl rfl (List.cons_ne_nil _ _) (Nat.le_of_ble_eq_true rfl)) (pa_cons (pe_disp (pps_cons pe_str (pv 2) pps_nil) rfl rfl (List.cons_ne_nil _ _) (Nat.le_of_ble_eq_true rfl)) (pa_cons (pe_disp (pps_cons pe_str pe_int (pps_cons pe_str (pv 2) pps_nil)) rfl rfl (List.cons_ne_nil _ _) (Nat.le_of_ble_eq_true rfl)) pa_nil)))))) (pss_one (ps_ret (pe_ix (r := rIxL K) ix_list (pv 3) (pe_callD D_law_draw (hr.mono (by decide)) rfl pass0 (pa_cons (pv 0) (pa_cons pe_int pa_nil))) (fun _ _ => rfl)))))))), ?_⟩; rw [st_law_small]; (try dsimp only [cxOf])
    refine g_seq (g_asg ?_)
    walk_at "go"
    refine ⟨h, c, p - 1, rfl, hh, by omega, by omega, fun v H1 hv0 hv1 e1 hh1 => ?_⟩
    refine g_I0 (g_name ?_)
    (try dsimp only)
    refine g_seq (g_asg ?_)
    have d1 : ∀ (σ : St), σ[2]? = some (some (.int (1 + v))) → True := fun _ _ => trivial
    refine lst_ok (ss := small1 (1 + v)) (args_cons (disp_ok ⟨pure_c, pure_c, trivial⟩ (by decide +kernel) (Nat.le_of_ble_eq_true rfl)) (args_cons (disp_ok ⟨pure_c, pure_c, trivial⟩ (by decide +kernel) (Nat.le_of_ble_eq_true rfl)) (args_cons (disp_ok ⟨pure_c, pure_c, pure_c, pure_v rfl, trivial⟩ (show (["x", ""] : List Str).Nodup by decide +kernel) (Nat.le_of_ble_eq_true rfl))
      (args_cons (disp_ok ⟨pure_c, pure_v rfl, pure_c, pure_c, trivial⟩ (show (["y", ""] : List Str).Nodup by decide +kernel) (Nat.le_of_ble_eq_true rfl)) (args_cons (disp_ok ⟨pure_c, pure_c, pure_c, pure_v rfl, trivial⟩ (show (["x", "y"] : List Str).Nodup by decide +kernel) (Nat.le_of_ble_eq_true rfl)) args_nil))))) (Nat.le_of_ble_eq_true rfl) fun l1 ps1 H2 e2 hl1 hq1 hps1 => ?_
    refine g_name ?_
    (try dsimp only)
    refine g_seq (g_asg ?_)
    refine g_op (g_var rfl ?_)
    refine lst_ok (ss := small2 (1 + v)) (args_cons (disp_ok ⟨pure_c, pure_c, pure_c, pure_v rfl, trivial⟩ (show (["xy", ""] : List Str).Nodup by decide +kernel) (Nat.le_of_ble_eq_true rfl)) (args_cons (disp_ok ⟨pure_c, pure_c, pure_c, pure_v rfl, trivial⟩ (show (["yx", ""] : List Str).Nodup by decide +kernel) (Nat.le_of_ble_eq_true rfl)) (args_cons (disp_ok ⟨pure_c, pure_c, pure_c, pure_v rfl, trivial⟩ (show (["xx", "y"] : List Str).Nodup by decide +kernel) (Nat.le_of_ble_eq_true rfl))
      (args_cons (disp_ok ⟨pure_c, pure_c, pure_c, pure_v rfl, trivial⟩ (show (["xy", "yx"] : List Str).Nodup by decide +kernel) (Nat.le_of_ble_eq_true rfl)) args_nil)))) (Nat.le_of_ble_eq_true rfl) fun l2 ps2 H3 e3 hl2 hq2 hps2 => ?_
    have n1 := hps1.length
    have n2 := hps2.length
    refine ⟨l1, l2, _, _, rfl, rfl, e3 _ _ hq1, hq2, by rw [List.length_map, List.length_map, n1, n2]; exact Nat.le_of_ble_eq_true rfl, fun l3 hl3 => ?_⟩
    refine g_name ?_
    (try dsimp only)
    refine g_seq (g_asg ?_)
    refine g_op (g_var rfl ?_)
    refine lst_ok (ss := small3 (1 + v)) (args_cons (disp_ok ⟨pure_c, pure_v rfl, pure_c, pure_c, pure_c, pure_c, trivial⟩ (show (["xy", "x", ""] : List Str).Nodup by decide +kernel) (Nat.le_of_ble_eq_true rfl)) (args_cons (disp_ok ⟨pure_c, pure_v rfl, trivial⟩ (show ([""] : List Str).Nodup by decide +kernel) (Nat.le_of_ble_eq_true rfl)) (args_cons (disp_ok ⟨pure_c, pure_c, pure_c, pure_v rfl, trivial⟩ (show (["z", "x"] : List Str).Nodup by decide +kernel) (Nat.le_of_ble_eq_true rfl)) args_nil))) (Nat.le_of_ble_eq_true rfl) fun l4 ps3 H4 e4 hl4 hq4 hps3 => ?_
    have n3 := hps3.length
    refine ⟨l3, l4, _, _, rfl, rfl, e4 _ _ upd_same, hq4, by rw [List.length_append, List.length_map, List.length_map, List.length_map, n1, n2, n3]; exact Nat.le_of_ble_eq_true rfl, fun l5 hl5 => ?_⟩
    refine g_name ?_
    walk_at "go"
    have e13 : Ex H1 H4 := (e2.trans e3).trans ((Ex.new hl3).trans e4)
    have e15 : Ex H1 (upd H4 l5 (.lst (ps1.map V.ref ++ ps2.map V.ref ++ ps3.map V.ref))) := e13.trans (Ex.new hl5)
    have eH : ExB h H (upd H4 l5 (.lst (ps1.map V.ref ++ ps2.map V.ref ++ ps3.map V.ref))) := e1.trans e15.exb
    have hh5 : HandAt (upd H4 l5 (.lst (ps1.map V.ref ++ ps2.map V.ref ++ ps3.map V.ref))) h c := hh1.ex' e15
    refine ⟨h, c, 12, rfl, hh5, by decide, by decide, fun q H6 hq0 hq1 e6 hh6 => ?_⟩
    have hall : Paired (fun p s => H p = none ∧ upd H4 l5 (.lst (ps1.map V.ref ++ ps2.map V.ref ++ ps3.map V.ref)) p = some (.dK (toK s))) (ps1 ++ ps2 ++ ps3) (small1 (1 + v) ++ small2 (1 + v) ++ small3 (1 + v)) := by
      have hn : ∀ p, H1 p = none → H p = none := fun p h1 => by
        cases q : H p with
        | none => rfl
        | some o =>
          by_cases hph : p = h
          · subst hph; obtain ⟨xs, hx⟩ := hh1.kind; rw [h1] at hx; cases hx
          · rw [e1 p o hph q] at h1; cases h1
      refine paired_app (paired_app (Paired.mapP hps1 fun _ _ z => ⟨hn _ z.1, ?_⟩) (Paired.mapP hps2 fun _ _ z => ⟨hn _ (e2.free z.1), ?_⟩)) (Paired.mapP hps3 fun _ _ z => ⟨hn _ ((e2.trans e3).free ((Ex.new hl3).free z.1)), ?_⟩)
      · exact Ex.new hl5 _ _ (e4 _ _ (Ex.new hl3 _ _ (e3 _ _ z.2)))
      · exact Ex.new hl5 _ _ (e4 _ _ (Ex.new hl3 _ _ z.2))
      · exact Ex.new hl5 _ _ z.2
    obtain ⟨d, s, hd, hs, hd0, hd1⟩ := paired_nth (i := q.toNat) hall (by show q.toNat < 12; omega)
    have hlh : l5 ≠ h := Ne.symm (ne_of_none (show H4 h = some _ from (hh1.ex' e13).kind.choose_spec) hl5)
    have hdh : d ≠ h := by
      obtain ⟨xs, hx⟩ := hh.kind
      exact Ne.symm (ne_of_none hx hd0)
    refine g_ixl (SqL.of (e6 _ _ hlh upd_same)) (atI_get hq0 (v := .ref d) ?_) ?_
    · have : ps1.map V.ref ++ ps2.map V.ref ++ ps3.map V.ref = (ps1 ++ ps2 ++ ps3).map V.ref := by rw [List.map_append, List.map_append]
      rw [this, List.getElem?_map, hd]
      rfl
    · exact k d s H6 (eH.trans e6) hd0 (e6 _ _ hdh hd1) (small_lot (by omega) (by omega) s hs) (small_ne s hs) (small_K s hs) hh6
theorem ok_law_smallN {f : Addr} {fd : FuncData} (F : Fun K "_law_small" "_law_small" s_law_small f fd) (T : Txt K mg C_Bag Cs) (D_law_draw : DefOk P w K mg base CX0 1 "_law_draw" ["_law_hand_here", "_law_many"] sp_law_draw) : FnOk P w K mg base CX0 2 f fd ["_law_hand_here", "_law_clock_here"] sp_law_smallN :=
  (ok_law_smallI F T D_law_draw).imp fun vs H Q E ⟨h, c, p, e, hh, h1, h2, k⟩ => ⟨h, c, p, e, hh, h1, h2, fun d s H' e1 hd hd' hl hn _ hh' => k d s H' e1 hd hd' hl hn hh'⟩
theorem ok_law_small {f : Addr} {fd : FuncData} (F : Fun K "_law_small" "_law_small" s_law_small f fd) (T : Txt K mg C_Bag Cs) (D_law_draw : DefOk P w K mg base CX0 1 "_law_draw" ["_law_hand_here", "_law_many"] sp_law_draw) : FnOk P w K mg base CX0 2 f fd ["_law_hand_here", "_law_clock_here"] sp_law_small :=
  (ok_law_smallN F T D_law_draw).imp fun vs H Q E ⟨h, c, p, e, hh, h1, h2, k⟩ => ⟨h, c, p, e, hh, h1, h2, fun d s H' e1 hd hd' hl _ hh' => k d s H' e1 hd hd' hl hh'⟩

end
end Fp

namespace Fp
open PySem L2
section
variable {P : Program} {w : World} {K : PySem.W.Frag} {mg : Str → Option Value} {base : Heap} {C_Bag : Addr} {Cs : Addr → Prop}
local macro_rules | `(tactic| walk_at "hp") => `(tactic| first | assumption | rfl)
local macro_rules | `(tactic| walk_at "cond") => `(tactic| first | assumption | decide | omega | (unfold CMul; omega) | (refine ⟨?_, ?_⟩ <;> omega) | (unfold CDiv; omega) | (unfold CPow; omega))
local macro_rules | `(tactic| walk_at "g1") => `(tactic| first
  | with_reducible first
    | refine g_seq ?_ | refine g_asg ?_ | refine g_name ?_ | refine g_ret ?_ | refine g_retN ?_ | refine g_drop ?_ | refine g_ifs ?_
    | refine g_c ?_ | refine g_op ?_ | refine g_un ?_ | refine g_I0 ?_ | refine g_U ?_
    | refine g_test ?_ | refine g_tB ?_ | refine g_bl ?_ | refine g_and ?_ | refine g_or ?_ | refine g_not ?_
    | refine g_andV ?_ | refine g_orV ?_ | refine g_notV ?_ | refine g_if ?_ | refine g_nil ?_ | refine g_cons ?_ | refine g_cb ?_ | refine g_call ?_
    | refine g_lst ?_ | refine g_tup ?_ | refine g_itT ?_ | refine g_itF ?_ | refine g_itNT ?_ | refine g_itNF ?_ | refine g_lc ?_ | refine g_iStr ?_ | refine g_yes ?_ | refine g_exs ?_
    | refine g_chain ?_ | refine g_dget ?_ | refine g_dput ?_ | refine g_dget2 ?_ | refine g_dpop2 ?_ | refine g_fld ?_ | refine g_sfld ?_ | refine g_make ?_ | refine g_meth ?_
    | refine g_bm ?_ | refine g_kw ?_ | refine g_callS ?_ | refine g_revL ?_ | refine g_m1 ?_ | refine g_gsub ?_ | refine g_for ?_ | refine g_iList ?_ | refine g_iTup ?_ | refine g_iRng1 ?_ | refine g_iRng2 ?_ | refine g_sl ?_ | refine g_part ?_ | refine g_noPart ?_
    | refine g_exi ?_ | refine g_exr ?_ | refine g_dnew ?_ | refine g_disp ?_ | refine g_prs0 ?_ | refine g_prs ?_ | refine g_nxt ?_
  | ((with_reducible refine g_var (v := ?vv) ?gv ?_); (case gv => exact rfl))
  | ((with_reducible refine g_I ?gc ?_); (case gc => walk_at "cond"))
  | ((with_reducible refine g_eq ?ge ?_); (case ge => exact rfl))
  | ((with_reducible refine g_ne ?ge ?_); (case ge => exact rfl))
  | (refine g_ixl (SqL.of (by first | assumption | exact upd_same)) rfl ?_)
  | (refine g_setl (by first | assumption | exact upd_same) rfl ?_)
  | ((with_reducible show (∃ i, [V.int _] = [V.int i] ∧ _) ∨ _); refine Or.inl ⟨_, rfl, ?_⟩)
  | ((with_reducible show ∃ i, [V.int _] = [V.int i] ∧ _); refine ⟨_, rfl, ?_⟩)
  | dsimp only)
local macro_rules | `(tactic| walk_at "go") => `(tactic| repeat (walk_at "g1"))

theorem Good.up {p q : Int} {s : Bg} (g : Good p s) (h : p ≤ q) : Good q s := ⟨g.nd, g.lo, fun kv hk => by have := g.hi kv hk; omega⟩
end
end Fp

namespace Fp
open PySem L2
section
variable {P : Program} {w : World} {K : PySem.W.Frag} {mg : Str → Option Value} {base : Heap} {C_Bag : Addr} {Cs : Addr → Prop}
local macro_rules | `(tactic| walk_at "hp") => `(tactic| first | assumption | rfl)
local macro_rules | `(tactic| walk_at "cond") => `(tactic| first | assumption | decide | omega | (unfold CMul; omega) | (refine ⟨?_, ?_⟩ <;> omega) | (unfold CDiv; omega) | (unfold CPow; omega))
local macro_rules | `(tactic| walk_at "g1") => `(tactic| first
  | with_reducible first
    | refine g_seq ?_ | refine g_asg ?_ | refine g_name ?_ | refine g_ret ?_ | refine g_retN ?_ | refine g_drop ?_ | refine g_ifs ?_
    | refine g_c ?_ | refine g_op ?_ | refine g_un ?_ | refine g_I0 ?_ | refine g_U ?_
    | refine g_test ?_ | refine g_tB ?_ | refine g_bl ?_ | refine g_and ?_ | refine g_or ?_ | refine g_not ?_
    | refine g_andV ?_ | refine g_orV ?_ | refine g_notV ?_ | refine g_if ?_ | refine g_nil ?_ | refine g_cons ?_ | refine g_cb ?_ | refine g_call ?_
    | refine g_lst ?_ | refine g_tup ?_ | refine g_itT ?_ | refine g_itF ?_ | refine g_itNT ?_ | refine g_itNF ?_ | refine g_lc ?_ | refine g_iStr ?_ | refine g_yes ?_ | refine g_exs ?_
    | refine g_chain ?_ | refine g_dget ?_ | refine g_dput ?_ | refine g_dget2 ?_ | refine g_dpop2 ?_ | refine g_fld ?_ | refine g_sfld ?_ | refine g_make ?_ | refine g_meth ?_
    | refine g_bm ?_ | refine g_kw ?_ | refine g_callS ?_ | refine g_revL ?_ | refine g_m1 ?_ | refine g_gsub ?_ | refine g_for ?_ | refine g_iList ?_ | refine g_iTup ?_ | refine g_iRng1 ?_ | refine g_iRng2 ?_ | refine g_sl ?_ | refine g_part ?_ | refine g_noPart ?_
    | refine g_exi ?_ | refine g_exr ?_ | refine g_dnew ?_ | refine g_disp ?_ | refine g_prs0 ?_ | refine g_prs ?_ | refine g_nxt ?_
  | ((with_reducible refine g_var (v := ?vv) ?gv ?_); (case gv => exact rfl))
  | ((with_reducible refine g_I ?gc ?_); (case gc => walk_at "cond"))
  | ((with_reducible refine g_eq ?ge ?_); (case ge => exact rfl))
  | ((with_reducible refine g_ne ?ge ?_); (case ge => exact rfl))
  | (refine g_ixl (SqL.of (by first | assumption | exact upd_same)) rfl ?_)
  | (refine g_setl (by first | assumption | exact upd_same) rfl ?_)
  | ((with_reducible show (∃ i, [V.int _] = [V.int i] ∧ _) ∨ _); refine Or.inl ⟨_, rfl, ?_⟩)
  | ((with_reducible show ∃ i, [V.int _] = [V.int i] ∧ _); refine ⟨_, rfl, ?_⟩)
  | dsimp only)
local macro_rules | `(tactic| walk_at "go") => `(tactic| repeat (walk_at "g1"))

/-! ### the bags -/
structure KeyFn (K : PySem.W.Frag) (mg : Str → Option Value) : Prop where
  ex : ∃ f fd, Fun K "ahead_key" "ahead_key" s_ahead_key f fd ∧ mg "ahead_key" = some (.ref f) ∧ Binds K fd ["word"] []
theorem ok_words_in_order {f : Addr} {fd : FuncData} (F : Fun K "words_in_order" "words_in_order" s_words_in_order f fd) (T : Txt K mg C_Bag Cs) (KF : KeyFn K mg) : FnOk P w K mg base CX0 4 f fd ["sparse"] sp_law_order := by
  refine F.ok sc_words_in_order (fun vs H Q E h => ?_) (fun cdv A outer s H vs Q E hr h => ?_)
  · obtain ⟨d, s, rfl, _⟩ := h
    rfl
  · obtain ⟨d, s, rfl, hd, hz, hw, k⟩ := h
    obtain ⟨f_ahead_key, fd_ahead_key, F_ahead_key, M_ahead_key, B_ahead_key⟩ := KF.ex
    have hu := hu_of hr; have hu64 := L2.Room.units hr; refine ⟨_, (pss_one (ps_ret (pe_callBK (cr_sortedKey F_ahead_key sc_ahead_key rfl rfl rfl rfl B_ahead_key T.b_len (hr.mono (by decide))) (by rfl) T.b_sorted (by decide +kernel) (pa_cons (pe_callTy (call_listD rfl) (by rfl) T.b_list (by decide +kernel) (pa_cons (pv 0) pa_nil)) pa_nil) (pk_cons (pe_glob (v := .ref f_ahead_key) rfl M_ahead_key rfl) pk_nil)))), ?_⟩; rw [st_words_in_order]; (try dsimp only [cxOf]); walk_at "go"
    refine ⟨d, toK s, rfl, hd, fun p hp => ?_⟩
    rw [toK_keys]
    walk_at "go"
    refine ⟨p, keys s, rfl, rfl, SqL.of upd_same, fun w hw' => line5 (hw w hw'), fun q hq => ?_⟩
    exact k q _ ((Ex.new hp).trans (Ex.new hq)) ((Ex.new hp).free hq) upd_same
def sp_are_words : Sp := fun vs H Q _ => ∃ (p : Int) (d : Addr) (s : Bg), vs = [.int p, .ref d] ∧ H d = some (.dK (toK s)) ∧ Lot p s 300 12 ∧ ∀ H', Ex H H' → Q (.bl true) H'
theorem ok_are_words {f : Addr} {fd : FuncData} (F : Fun K "are_words" "are_words" s_are_words f fd) (T : Txt K mg C_Bag Cs) (D_is_short_word : DefOk P w K mg base CX0 2 "is_short_word" ["thing"] (sp_is_short_word K)) (D_is_within : DefOk P w K mg base CX0 2 "is_within" ["thing", "least", "most"] (sp_is_within K)) : FnOk P w K mg base CX0 3 f fd ["clock", "thing"] sp_are_words := by
  refine F.ok sc_are_words (fun vs H Q E h => ?_) (fun cdv A outer s H vs Q E hr h => ?_)
  · obtain ⟨p, d, s, rfl, _⟩ := h
    rfl
  · obtain ⟨p, d, s, rfl, hd, hl, k⟩ := h
    obtain ⟨tM, T_MOST_WORDS⟩ := T.g_MOST_WORDS
    have hu := hu_of hr; have hu64 := L2.Room.units hr; refine ⟨_, (pss_cons (ps_if (PW.pt (pw_or (pt_not (pt_val (pe_callB (r := rIsi K) call_isi (by rfl) T.b_isinstance (by decide +kernel) (pa_cons (pv 1) (pa_cons (pe_bltn (v := .ty "dict") rfl T.b_dict (by decide +kernel) rfl) pa_nil))))) (pw_or1 (pt_cmpR op_gt (pe_callB call_lenD (by rfl) T.b_len (by decide +kernel) (pa_cons (pv 1) pa_nil)) (pe_glob (v := .int 300) rfl T_MOST_WORDS ⟨_, rfl⟩) (nomark _))))) (pss_one (ps_ret pe_bl)) pss_nil) (pss_one (ps_ret (pe_callB (r := rAll K) (cr_all rfl) (by rfl) T.b_all (by decide +kernel) (pa_cons (pe_lockR (pe_lc (own := [("word", 2)]) (g := (gName 2)) (tt := tYes) rfl sc_are_words.nd (pi_keys (pv 1)) (blkOk_by (N := N_are_words) (sc := defScope s_are_words) (by decide +kernel)) (fun _ _ _ _ _ => (pg_name (i := 2) sc_are_words.nd rfl (by first | exact Or.inl rfl | exact Or.inr rfl))) (fun _ _ _ _ _ => pts_nil) (fun _ _ _ _ _ => (pe_and (pe_callD D_is_short_word (hr.mono (by decide)) rfl pass0 (pa_cons (pv 2) pa_nil)) (pe_one (pe_callD D_is_within (hr.mono (by decide)) rfl pass0 (pa_cons (pe_dget hu (pv 1) (pv 2) (fun _ _ => rfl)) (pa_cons pe_int (pa_cons (pe_op op_sub (pv 0) pe_int) pa_nil))))))))) pa_nil))))), ?_⟩; rw [st_are_words]; (try dsimp only [cxOf]); walk_at "go"
    refine g_isi (n := "dict") (t := .type "dict") (b := true) (.base (.dK hd)) (kit_ty (by decide +kernel)) ?_
    walk_at "go"
    refine ⟨d, _, rfl, hd, ?_⟩
    rw [toK_len]
    walk_at "go"
    have h3 : ¬ ((300 : Int) < (s.length : Int)) := by have := hl.n; omega
    rw [decide_eq_false h3]
    walk_at "go"
    refine lcd_rel (.inl hd) (line5 (Nat.le_trans hl.n (by decide))) (fun H' Q' _ q => ⟨_, rfl, q⟩) (fun e y H => y = V.bl true) (fun e y H H' t h1 => h1) (fun _ => rfl) ?_ ?_
    · intro i z n H1 Kc hi le hk
      obtain ⟨l1, l2⟩ := hl.l z (mem_keys.mpr ⟨n, mem_fr hi⟩)
      have hsw : isSW z = true := by unfold isSW; rw [l2, decide_eq_true l1]; rfl
      walk_at "go"
      refine ⟨_, true, rfl, .inl ⟨z, rfl, by omega, hsw.symm⟩, fun H2 e2 => ?_⟩
      walk_at "go"
      refine g_dg (e2.rd le.self) (getS_at hl.g.nd hi) ?_
      walk_at "go"
      have c1 := hl.g.lo _ (mem_fr hi)
      have c2 := hl.g.hi _ (mem_fr hi)
      dsimp only at c1 c2
      refine ⟨_, 1, p - 1, true, rfl, .inl ⟨n, rfl, ?_⟩, hk _ _ e2 rfl⟩
      rw [decide_eq_true (by omega : (1 : Int) ≤ n), decide_eq_true (by omega : n ≤ p - 1)]
      rfl
    · intro D H1 ys hD e hl1 hp
      have hys := paired_map (G := fun e : Str × Int => V.bl true) hp
      subst hys
      walk_at "go"
      refine ⟨D, s.map fun _ => true, rfl, SqL.of (by rw [hl1, List.map_map]; rfl), ?_⟩
      have : (s.map fun _ => true).all id = true := by rw [List.all_map]; exact List.all_eq_true.mpr fun _ _ => rfl
      rw [this]
      exact k _ e
theorem putF_len (f : Str) (v : V) : ∀ fs : List (Str × V), (putF f v fs).length ≤ fs.length + 1
  | [] => Nat.le_refl _
  | q :: r => by
    obtain ⟨g, u⟩ := q
    unfold putF
    split
    · simp
    · have := putF_len f v r
      simp only [List.length_cons]
      omega
theorem putF_lt {n k : Nat} (h : n ≤ k) (hk : k < 1000) : n < 1000 := Nat.lt_of_le_of_lt h hk
def sp_keep (Cs : Addr → Prop) : Sp := fun vs H Q _ => ∃ (x d : Addr) (p : Int) (s : Bg) (C dx : Addr), vs = [.ref x, .int p, .ref d] ∧ H x = some (.ins C dx []) ∧ Cs C ∧ H d = some (.dK (toK s)) ∧ s.length ≤ 10000000 ∧ (∀ u ∈ keys s, u.length ≤ 10000000) ∧ (keys s).Nodup ∧
  ∀ k t H', ExB x H H' → H' x = some (.ins C dx (bagF p d k t)) → WordsAt H' t (wordsS s) → Q .non H'
theorem ok_keep {f : Addr} {fd : FuncData} (F : Fun K "keep" "Bag.keep" s_Bag_keep f fd) (T : Txt K mg C_Bag Cs) (D_words_in_order : DefOk P w K mg base CX0 4 "words_in_order" ["sparse"] sp_law_order) : FnOk P w K mg base CX0 5 f fd ["self", "clock", "sparse"] (sp_keep Cs) := by
  refine F.ok sc_Bag_keep (fun vs H Q E h => ?_) (fun cdv A outer s H vs Q E hr h => ?_)
  · obtain ⟨x, d, p, s, C, dx, rfl, _⟩ := h
    rfl
  · obtain ⟨x, d, p, s, C, dx, rfl, hx, hc, hd, hz, hw, hn, k⟩ := h
    have hxd : d ≠ x := fun e => by subst e; rw [hx] at hd; cases hd
    have hu := hu_of hr; have hu64 := L2.Room.units hr; refine ⟨_, (pss_cons (ps_fld (pv 0) (pv 1) rfl) (pss_cons (ps_fld (pv 0) (pv 2) rfl) (pss_cons (ps_fld (pv 0) pe_dnewK rfl) (pss_one (ps_fld (pv 0) (pe_callTy (r := rTupleZ K) call_tupleZ (by rfl) T.b_tuple (by decide +kernel) (pa_cons (pe_lc (own := [("word", 3)]) (g := (gName 3)) (tt := tYes) rfl sc_Bag_keep.nd (pi_list (pe_callD D_words_in_order (hr.mono (by decide)) rfl pass0 (pa_cons (pv 2) pa_nil))) (blkOk_by (N := N_Bag_keep) (sc := defScope s_Bag_keep) (by decide +kernel)) (fun _ _ _ _ _ => (pg_name (i := 3) sc_Bag_keep.nd rfl (by first | exact Or.inl rfl | exact Or.inr rfl))) (fun _ _ _ _ _ => pts_nil) (fun _ _ _ _ _ => (pe_tup (pa_cons (pv 3) (pa_cons (pe_dget hu (pv 2) (pv 3) (fun _ _ => rfl)) pa_nil))))) pa_nil)) rfl))))), ?_⟩; rw [st_Bag_keep]; (try dsimp only [cxOf]); walk_at "go"
    refine ⟨x, C, dx, _, rfl, hx, T.cls C hc, T.n_clock C hc, by decide, ?_⟩
    walk_at "go"
    refine ⟨x, C, dx, _, rfl, upd_same, T.cls C hc, T.n_sparse C hc, putF_lt (putF_len _ _ _) (by decide), ?_⟩
    rw [upd_upd]
    walk_at "go"
    intro k1 hk1
    have hk1x : k1 ≠ x := fun e => by subst e; rw [upd_same] at hk1; cases hk1
    walk_at "go"
    refine ⟨x, C, dx, _, rfl, by rw [upd_ne (Ne.symm hk1x)]; exact upd_same, T.cls C hc, T.n_kept C hc, putF_lt (Nat.le_trans (putF_len _ _ _) (Nat.succ_le_succ (putF_len _ _ _))) (by decide), ?_⟩
    walk_at "go"
    have e0 : ExB x H (upd (upd (upd H x (.ins C dx (putF "sparse" (V.ref d) (putF "clock" (V.int p) [])))) k1 (.dK [])) x (.ins C dx (putF "kept" (V.ref k1) (putF "sparse" (V.ref d) (putF "clock" (V.int p) []))))) := (((ExB.refl x H).upd).new hk1).upd
    have hx0 := upd_same (H := upd (upd H x (.ins C dx (putF "sparse" (V.ref d) (putF "clock" (V.int p) [])))) k1 (.dK [])) (a := x) (o := .ins C dx (putF "kept" (V.ref k1) (putF "sparse" (V.ref d) (putF "clock" (V.int p) []))))
    generalize upd (upd (upd H x (.ins C dx (putF "sparse" (V.ref d) (putF "clock" (V.int p) [])))) k1 (.dK [])) x (.ins C dx (putF "kept" (V.ref k1) (putF "sparse" (V.ref d) (putF "clock" (V.int p) [])))) = H0 at e0 hx0 ⊢
    have hd0 := e0 _ _ hxd hd
    refine ⟨d, s, rfl, .inl hd0, hz, hw, fun l H1 e1 hl1 hl => ?_⟩
    walk_at "go"
    refine ⟨⟨_, SqL.of hl⟩, ?_⟩
    have hlen : (ordW (keys s)).length = s.length := by rw [ordW_len]; unfold keys; rw [List.length_map]
    refine lc_rel (j := 3) walk_list (ordW (keys s)) (by rw [List.length_map]) (by rw [List.length_map, hlen]; exact line5 hz) (fun H' e => SqL.of (e _ _ hl)) (fun z y H => ∃ a, y = V.ref a ∧ H a = some (.tup [.str z, .int (cf s z)])) (fun e y H H' t ⟨a, h1, h2⟩ => ⟨a, h1, t _ _ h2⟩) (fun _ => rfl) ?_ ?_
    · rintro i x z H2 H3 Kc hi e2 ⟨rfl, hx⟩ hz2 hk
      rw [List.getElem?_map, hz2] at hx
      obtain rfl := (Option.some.inj hx).symm
      walk_at "go"
      refine g_dg (.inl ((e1.trans e2) _ _ hd0)) (getS_cf ((ordW_perm _).mem_iff.mp (List.mem_of_getElem? hz2))) ?_
      walk_at "go"
      exact ⟨Nat.le_of_ble_eq_true rfl, fun q hq => hk _ _ (Ex.new hq) ⟨q, rfl, upd_same⟩⟩
    · intro D H2 ys hD e2 hlD hp
      obtain ⟨as, rfl, hp'⟩ := paired_refs hp
      walk_at "go"
      refine ⟨D, _, rfl, SqL.of hlD, fun t o ht ho => ?_⟩
      have e3 : Ex H0 (upd H2 t (.frz o (.tup (as.map V.ref)))) := (e1.trans e2).trans (Ex.new ht)
      have htx : t ≠ x := Ne.symm (ne_of_none ((e1.trans e2) _ _ hx0) ht)
      walk_at "go"
      refine ⟨x, C, dx, _, rfl, e3 _ _ hx0, T.cls C hc, T.n_words C hc, putF_lt (Nat.le_trans (putF_len _ _ _) (Nat.succ_le_succ (Nat.le_trans (putF_len _ _ _) (Nat.succ_le_succ (putF_len _ _ _))))) (by decide), ?_⟩
      refine k k1 t _ ((e0.trans e3.exb).upd) (by rw [upd_same, bagF_made]) ⟨as, o, by rw [upd_ne htx]; exact upd_same, ho, Paired.mapP (pairs_at hp') fun a b q => ?_⟩
      have hax : a ≠ x := fun e => by
        subst e
        have h1 := (e1.trans e2) _ _ hx0
        rw [h1] at q
        cases q
      rw [upd_ne hax]
      exact Ex.new ht _ _ q

end
end Fp

namespace Fp
open PySem L2
section
variable {P : Program} {w : World} {K : PySem.W.Frag} {mg : Str → Option Value} {base : Heap} {C_Bag : Addr} {Cs : Addr → Prop}
local macro_rules | `(tactic| walk_at "hp") => `(tactic| first | assumption | rfl)
local macro_rules | `(tactic| walk_at "cond") => `(tactic| first | assumption | decide | omega | (unfold CMul; omega) | (refine ⟨?_, ?_⟩ <;> omega) | (unfold CDiv; omega) | (unfold CPow; omega))
local macro_rules | `(tactic| walk_at "g1") => `(tactic| first
  | with_reducible first
    | refine g_seq ?_ | refine g_asg ?_ | refine g_name ?_ | refine g_ret ?_ | refine g_retN ?_ | refine g_drop ?_ | refine g_ifs ?_
    | refine g_c ?_ | refine g_op ?_ | refine g_un ?_ | refine g_I0 ?_ | refine g_U ?_
    | refine g_test ?_ | refine g_tB ?_ | refine g_bl ?_ | refine g_and ?_ | refine g_or ?_ | refine g_not ?_
    | refine g_andV ?_ | refine g_orV ?_ | refine g_notV ?_ | refine g_if ?_ | refine g_nil ?_ | refine g_cons ?_ | refine g_cb ?_ | refine g_call ?_
    | refine g_lst ?_ | refine g_tup ?_ | refine g_itT ?_ | refine g_itF ?_ | refine g_itNT ?_ | refine g_itNF ?_ | refine g_lc ?_ | refine g_iStr ?_ | refine g_yes ?_ | refine g_exs ?_
    | refine g_chain ?_ | refine g_dget ?_ | refine g_dput ?_ | refine g_dget2 ?_ | refine g_dpop2 ?_ | refine g_fld ?_ | refine g_sfld ?_ | refine g_make ?_ | refine g_meth ?_
    | refine g_bm ?_ | refine g_kw ?_ | refine g_callS ?_ | refine g_revL ?_ | refine g_m1 ?_ | refine g_gsub ?_ | refine g_for ?_ | refine g_iList ?_ | refine g_iTup ?_ | refine g_iRng1 ?_ | refine g_iRng2 ?_ | refine g_sl ?_ | refine g_part ?_ | refine g_noPart ?_
    | refine g_exi ?_ | refine g_exr ?_ | refine g_dnew ?_ | refine g_disp ?_ | refine g_prs0 ?_ | refine g_prs ?_ | refine g_nxt ?_
  | ((with_reducible refine g_var (v := ?vv) ?gv ?_); (case gv => exact rfl))
  | ((with_reducible refine g_I ?gc ?_); (case gc => walk_at "cond"))
  | ((with_reducible refine g_eq ?ge ?_); (case ge => exact rfl))
  | ((with_reducible refine g_ne ?ge ?_); (case ge => exact rfl))
  | (refine g_ixl (SqL.of (by first | assumption | exact upd_same)) rfl ?_)
  | (refine g_setl (by first | assumption | exact upd_same) rfl ?_)
  | ((with_reducible show (∃ i, [V.int _] = [V.int i] ∧ _) ∨ _); refine Or.inl ⟨_, rfl, ?_⟩)
  | ((with_reducible show ∃ i, [V.int _] = [V.int i] ∧ _); refine ⟨_, rfl, ?_⟩)
  | dsimp only)
local macro_rules | `(tactic| walk_at "go") => `(tactic| repeat (walk_at "g1"))

def Clk (p : Int) : Prop := p = 2 ∨ p = 3 ∨ p = 5 ∨ p = 7
theorem Clk.lo {p : Int} (h : Clk p) : 2 ≤ p := by rcases h with h | h | h | h <;> omega
theorem Clk.hi {p : Int} (h : Clk p) : p ≤ 7 := by rcases h with h | h | h | h <;> omega
def sp_bag_init (C_Bag : Addr) (Cs : Addr → Prop) : Sp := fun vs H Q _ => ∃ (x d : Addr) (p : Int) (s : Bg) (dx : Addr), vs = [.ref x, .int p, .ref d] ∧ H x = some (.ins C_Bag dx []) ∧ Clk p ∧ H d = some (.dK (toK s)) ∧ Lot p s 300 12 ∧
  ∀ H', ExB x H H' → BagAt Cs H' x p s → Q .non H'
theorem ok_bag_init {f : Addr} {fd : FuncData} (F : Fun K "__init__" "Bag.__init__" s_Bag_init f fd) (T : Txt K mg C_Bag Cs) (D_is_clock : DefOk P w K mg base CX0 2 "is_clock" ["thing"] (sp_is_clock K))
    (D_are_words : DefOk P w K mg base CX0 3 "are_words" ["clock", "thing"] sp_are_words) (D_mt_Bag_keep : MtOk P w K mg base CX0 5 C_Bag "keep" ["self", "clock", "sparse"] (sp_keep Cs)) : FnOk P w K mg base CX0 6 f fd ["self", "clock", "words"] (sp_bag_init C_Bag Cs) := by
  refine F.ok sc_Bag_init (fun vs H Q E h => ?_) (fun cdv A outer s H vs Q E hr h => ?_)
  · obtain ⟨x, d, p, s, dx, rfl, _⟩ := h
    rfl
  · obtain ⟨x, d, p, s, dx, rfl, hx, hp, hd, hl, k⟩ := h
    have hxd : d ≠ x := fun e => by subst e; rw [hx] at hd; cases hd
    have hu := hu_of hr; have hu64 := L2.Room.units hr; refine ⟨_, (pss_cons (ps_if (pt_not (pt_val (pe_callD D_is_clock (hr.mono (by decide)) rfl pass0 (pa_cons (pv 1) pa_nil)))) (pss_one ps_never) pss_nil) (pss_cons (ps_if (pt_not (pt_val (pe_callD D_are_words (hr.mono (by decide)) rfl pass0 (pa_cons (pv 1) (pa_cons (pv 2) pa_nil))))) (pss_one ps_never) pss_nil) (pss_one (ps_expr (pe_mtD D_mt_Bag_keep (hr.mono (by decide)) pass0 (pv 0) (pa_cons (pv 1) (pa_cons (pe_callTy call_dictD (by rfl) T.b_dict (by decide +kernel) (pa_cons (pv 2) pa_nil)) pa_nil))))))), ?_⟩; rw [st_Bag_init]; (try dsimp only [cxOf]); walk_at "go"
    refine ⟨_, true, rfl, .inl ⟨p, rfl, (decide_eq_true (show p = 2 ∨ p = 3 ∨ p = 5 ∨ p = 7 from hp)).symm⟩, ?_⟩
    walk_at "go"
    refine ⟨p, d, s, rfl, hd, hl, fun H1 e1 => ?_⟩
    walk_at "go"
    refine ⟨x, dx, [], rfl, e1 _ _ hx, rfl, ?_⟩
    walk_at "go"
    refine ⟨d, toK s, rfl, .inl (e1 _ _ hd), fun d2 hd2 => ?_⟩
    walk_at "go"
    have hd2x : d2 ≠ x := Ne.symm (ne_of_none (e1 _ _ hx) hd2)
    refine ⟨x, d2, p, s, C_Bag, dx, rfl, Ex.new hd2 _ _ (e1 _ _ hx), T.c_base, upd_same, Nat.le_trans hl.n (by decide), fun u hu => Nat.le_trans (hl.l u hu).1 (by decide), hl.g.nd, fun k1 t H2 e2 h2 hw => ?_⟩
    exact k H2 ((e1.trans (Ex.new hd2)).exb.trans e2) ⟨C_Bag, dx, d2, k1, t, T.c_base, h2, e2 _ _ hd2x upd_same, hw⟩
/-- what == with a bag says -/
def EqIs (K : PySem.W.Frag) (C_Bag : Addr) (Cs : Addr → Prop) (H : Hp) (p : Int) (s : Bg) (y : V) (b : Bool) : Prop :=
  (∃ c q t, y = .ref c ∧ BagAt Cs H c q t ∧ b = (decide (p = q) && decide (wordsS s = wordsS t))) ∨ (∃ ty, TyX K H y ty ∧ PySem.W.kitOne K ty (.ref C_Bag) = some false ∧ b = false)
def sp_bag_eq (K : PySem.W.Frag) (C_Bag : Addr) (Cs : Addr → Prop) : Sp := fun vs H Q _ => ∃ (x : Addr) (p : Int) (s : Bg) (y : V) (b : Bool), vs = [.ref x, y] ∧ BagAt Cs H x p s ∧ EqIs K C_Bag Cs H p s y b ∧ Q (.bl b) H
theorem ok_bag_eq {f : Addr} {fd : FuncData} (F : Fun K "__eq__" "Bag.__eq__" s_Bag_eq f fd) (T : Txt K mg C_Bag Cs) : FnOk P w K mg base CX0 1 f fd ["self", "other"] (sp_bag_eq K C_Bag Cs) := by
  refine F.ok sc_Bag_eq (fun vs H Q E h => ?_) (fun cdv A outer s H vs Q E hr h => ?_)
  · obtain ⟨x, p, s, y, b, rfl, _⟩ := h
    rfl
  · obtain ⟨x, p, s, y, b, rfl, hx, he, k⟩ := h
    obtain ⟨C, dx, d, k1, t1, hc, h1, h2, h3⟩ := hx.ex
    have hu := hu_of hr; have hu64 := L2.Room.units hr; refine ⟨_, (pss_one (ps_ret (pe_and (pe_callB (r := rIsi K) call_isi (by rfl) T.b_isinstance (by decide +kernel) (pa_cons (pv 1) (pa_cons (pe_glob (v := .ref C_Bag) rfl T.c_Bag rfl) pa_nil))) (pe_and (pe_cmpR op_eq (pe_fldK (K := K) rfl (pv 0) rfl) (pe_fldK (K := K) rfl (pv 1) rfl) (nomark _)) (pe_one (pe_cmpR (r := rEqP K false) (op_eqP hu64) (pe_fldK (K := K) rfl (pv 0) rfl) (pe_fldK (K := K) rfl (pv 1) rfl) (nomark _))))))), ?_⟩; rw [st_Bag_eq]; (try dsimp only [cxOf]); walk_at "go"
    rcases he with ⟨c, q, t, rfl, hy, rfl⟩ | ⟨ty, hty, hk, rfl⟩
    · obtain ⟨C', dx', d', k1', t1', hc', h1', h2', h3'⟩ := hy.ex
      refine g_isC (b := true) (bag_ty T hc' h1') (T.c_isB C' hc') ?_
      walk_at "go"
      refine ⟨x, C, dx, _, _, rfl, h1, T.cls C hc, T.n_clock C hc, bagF_clock _ _ _ _, ?_⟩
      walk_at "go"
      refine ⟨c, C', dx', _, _, rfl, h1', T.cls C' hc', T.n_clock C' hc', bagF_clock _ _ _ _, ?_⟩
      walk_at "go"
      by_cases hpq : p = q
      · rw [decide_eq_true (by rw [hpq])]
        rw [decide_eq_true hpq] at k
        walk_at "go"
        refine ⟨x, C, dx, _, _, rfl, h1, T.cls C hc, T.n_words C hc, bagF_words _ _ _ _, ?_⟩
        walk_at "go"
        refine ⟨c, C', dx', _, _, rfl, h1', T.cls C' hc', T.n_words C' hc', bagF_words _ _ _ _, ?_⟩
        refine ⟨_, _, h3.dp, h3'.dp, plain_words _, plain_words _, depth_words _, ?_⟩
        rw [if_neg Bool.false_ne_true, eqv_words]
        exact k
      · rw [decide_eq_false (fun e => hpq (V.int.inj e))]
        rw [decide_eq_false hpq] at k
        walk_at "go"
        exact k
    · refine g_isC (b := false) hty hk ?_
      walk_at "go"
      exact k
structure EqOk (P : Program) (w : World) (K : PySem.W.Frag) (mg : Str → Option Value) (base : Heap) (C_Bag : Addr) (Cs : Addr → Prop) : Prop where
  ex : ∃ f fd, FnOk P w K mg base CX0 1 f fd ["self", "other"] (sp_bag_eq K C_Bag Cs) ∧ EqCls K f Cs ∧ Binds K fd ["self", "other"] []
theorem op_eqBagD {X : Cx} (D : EqOk X.prog X.w X.K X.mg X.base C_Bag Cs) (hr : Room 2 X.A) : OpR X (compareOp .Eq) (rBagEq X.K (sp_bag_eq X.K C_Bag Cs) Cs false) := by
  obtain ⟨f, fd, F, ec, hb⟩ := D.ex
  exact op_eqBag F ec hb pass0 hr
theorem op_neBagD {X : Cx} (D : EqOk X.prog X.w X.K X.mg X.base C_Bag Cs) (hr : Room 2 X.A) : OpR X (compareOp .NotEq) (rBagEq X.K (sp_bag_eq X.K C_Bag Cs) Cs true) := by
  obtain ⟨f, fd, F, ec, hb⟩ := D.ex
  exact op_neBag F ec hb pass0 hr
/-- a bag == a bag -/
theorem g_beq (T : Txt K mg C_Bag Cs) {H : Hp} {a c : Addr} {p q : Int} {s t : Bg} {neg : Bool} {Q : VK} (hx : BagAt Cs H a p s) (hy : BagAt Cs H c q t)
    (h : Q (.bl (if neg = true then !(decide (p = q) && decide (wordsS s = wordsS t)) else (decide (p = q) && decide (wordsS s = wordsS t)))) H) : rBagEq K (sp_bag_eq K C_Bag Cs) Cs neg (.ref a) (.ref c) H Q := by
  obtain ⟨C, dx, d, k1, t1, hc, h1, h2, h3⟩ := hx.ex
  obtain ⟨C', dx', d', k1', t1', hc', h1', h2', h3'⟩ := hy.ex
  rcases T.c_two C C' hc hc' with n | ⟨n1, n2⟩
  · exact .inl ⟨a, C, dx, _, .ref C', rfl, h1, hc, bag_ty T hc' h1', n, a, p, s, .ref c, _, rfl, hx, .inl ⟨c, q, t, rfl, hy, rfl⟩, _, rfl, h⟩
  · have e : (decide (q = p) && decide (wordsS t = wordsS s)) = (decide (p = q) && decide (wordsS s = wordsS t)) := by
      rw [Bool.eq_iff_iff]
      simp only [Bool.and_eq_true, decide_eq_true_eq]
      exact ⟨fun z => ⟨z.1.symm, z.2.symm⟩, fun z => ⟨z.1.symm, z.2.symm⟩⟩
    refine .inr ⟨a, c, C, C', dx, _, dx', _, rfl, rfl, h1, h1', hc, hc', n1, n2, c, q, t, .ref a, _, rfl, hy, .inl ⟨a, p, s, rfl, hx, rfl⟩, _, rfl, ?_⟩
    rw [e]
    exact h
/-- a bag == another thing -/
theorem g_bne (T : Txt K mg C_Bag Cs) {H : Hp} {a : Addr} {y : V} {p : Int} {s : Bg} {neg : Bool} {Q : VK} {ty : String} (hx : BagAt Cs H a p s) (hy : TyX K H y (.type ty)) (ht : ty ∈ (["NoneType", "bool", "int", "str", "list", "tuple", "dict"] : List String))
    (h : Q (.bl (if neg = true then !false else false)) H) : rBagEq K (sp_bag_eq K C_Bag Cs) Cs neg (.ref a) y H Q := by
  obtain ⟨C, dx, d, k1, t1, hc, h1, h2, h3⟩ := hx.ex
  exact .inl ⟨a, C, dx, _, .type ty, rfl, h1, hc, hy, T.c_pl C hc ty ht, a, p, s, y, false, rfl, hx, .inr ⟨_, hy, T.c_nb ty ht, rfl⟩, _, rfl, h⟩
/-- Bag(p, d) -/
theorem g_mkBag {H : Hp} {R : Addr → Hp → Prop} {p : Int} {d : Addr} {s : Bg} {E : XK} (hp : Clk p) (hd : H d = some (.dK (toK s))) (hl : Lot p s 300 12) (k : ∀ x H', Ex H H' → H x = none → BagAt Cs H' x p s → R x H') :
    ∀ x dx, H x = none → H dx = none → dx ≠ x → sp_bag_init C_Bag Cs (.ref x :: ([.int p, .ref d] ++ [])) (upd (upd H dx (.own x)) x (.ins C_Bag dx [])) (fun v H2 => v = .non ∧ R x H2) E := by
  intro x dx hx hdx hne
  have hx1 : upd H dx (.own x) x = none := by rw [upd_ne (Ne.symm hne)]; exact hx
  have e1 : Ex H (upd (upd H dx (.own x)) x (.ins C_Bag dx [])) := (Ex.new hdx).trans (Ex.new hx1)
  exact ⟨x, d, p, s, dx, rfl, upd_same, hp, e1 _ _ hd, hl, fun H' e hb => ⟨rfl, k x H' (fun a o q => e a o (ne_of_none q hx) (e1 _ _ q)) hx hb⟩⟩
/-- the same words in any order -/
theorem words_of_perm {s t : Bg} {p : Int} (gs : Good p s) (gt : Good p t) (h : ∀ kv, kv ∈ s ↔ kv ∈ t) : wordsS s = wordsS t := by
  refine wordsS_congr gs gt fun w => ?_
  by_cases hw : w ∈ keys s
  · obtain ⟨n, hn⟩ := mem_keys.mp hw
    rw [cf_of_mem gs.nd hn, cf_of_mem gt.nd ((h _).mp hn)]
  · have hw2 : w ∉ keys t := fun q => by
      obtain ⟨n, hn⟩ := mem_keys.mp q
      exact hw (mem_keys.mpr ⟨n, (h _).mpr hn⟩)
    rw [cf_not_mem hw, cf_not_mem hw2]
/-! ### facts of classes -/
theorem kit_self {K : PySem.W.Frag} {C : Addr} : PySem.W.kitOne K (.ref C) (.ref C) = some true := by
  unfold PySem.W.kitOne
  rw [if_pos (beq_self_eq_true _)]
theorem first_self {K : PySem.W.Frag} {C : Addr} : PySem.W.notFirst K C (.ref C) = true := by
  unfold PySem.W.notFirst
  rw [beq_self_eq_true]
  rfl
theorem first_not {K : PySem.W.Frag} {C : Addr} {t : Value} (h : PySem.W.subIn K t (.ref C) = some false) : PySem.W.notFirst K C t = true := by
  unfold PySem.W.notFirst
  rw [h]
  exact Bool.or_true _
theorem kit_not {K : PySem.W.Frag} {C : Addr} {t : String} (hc : PySem.W.isClsIn K C = true) (ht : PySem.W.typeIn K (.ref C) = some (.type "type")) (hs : PySem.W.subIn K (.type t) (.ref C) = some false) : PySem.W.kitOne K (.type t) (.ref C) = some false := by
  unfold PySem.W.kitOne PySem.W.kitCls
  have hc' : (PySem.W.clsIn K C).isSome = true := hc
  have e : ((Value.type t) == (Value.ref C)) = false := rfl
  rw [e, if_neg Bool.false_ne_true]
  dsimp only
  rw [hc', ht, hs]
  rfl

end
end Fp

/-! The algebra of bags, word by word. -/
namespace Fp
open PySem
/-- the same numbers -/
def Eqv (s t : Bg) : Prop := ∀ l, cl s l = cl t l
theorem Eqv.refl (s : Bg) : Eqv s s := fun _ => rfl
theorem Eqv.symm {s t : Bg} (h : Eqv s t) : Eqv t s := fun l => (h l).symm
theorem Eqv.trans {s t u : Bg} (h : Eqv s t) (h2 : Eqv t u) : Eqv s u := fun l => (h l).trans (h2 l)
section
variable {p : Int} {s t u s' t' : Bg}
theorem Eqv.words (gs : Good p s) (gt : Good p t) (h : Eqv s t) : wordsS s = wordsS t := words_cl gs gt h
theorem Eqv.of_words (hs : (keys s).Nodup) (ht : (keys t).Nodup) (h : wordsS s = wordsS t) : Eqv s t := fun l => cf_congr_words hs ht h _
theorem prod_congr (hp : 0 < p) (hs : (keys s).Nodup) (ht : (keys t).Nodup) (hs' : (keys s').Nodup) (ht' : (keys t').Nodup) (h1 : Eqv s s') (h2 : Eqv t t') : Eqv (prodS p s t) (prodS p s' t') := fun l => by
  rw [cl_prod hp hs ht, cl_prod hp hs' ht', conv_congr h1 h2]
theorem plus_congr (hp : 0 < p) (gs : Good p s) (ht : (keys t).Nodup) (gs' : Good p s') (ht' : (keys t').Nodup) (f : Int) (h1 : Eqv s s') (h2 : Eqv t t') : Eqv (plusS p s t f) (plusS p s' t' f) := fun l => by
  rw [cl_plus hp gs ht, cl_plus hp gs' ht', h1 l, h2 l]
theorem assoc_eqv (hp : 0 < p) (gs : Good p s) (gt : Good p t) (gu : Good p u) : Eqv (prodS p (prodS p s t) u) (prodS p s (prodS p t u)) :=
  .of_words (Good.prod hp _ _).nd (Good.prod hp _ _).nd (prod_assoc hp gs gt gu)
def one1 : Bg := [("", 1)]
theorem one1_good (hp : 1 < p) : Good p one1 := ⟨by decide +kernel, fun kv h => by rw [List.mem_singleton.mp h]; decide, fun kv h => by rw [List.mem_singleton.mp h]; exact hp⟩
def delta (l : List Nat) : Int := if l = [] then 1 else 0
theorem cl_one (l : List Nat) : cl one1 l = delta l := by
  unfold cl delta
  by_cases h : l = []
  · subst h
    rfl
  · rw [if_neg h]
    refine cf_not_mem fun q => h ?_
    have : ofL l = ("" : Str) := List.mem_singleton.mp q
    exact ofL_inj.mp (this.trans (show ("" : Str) = ofL [] from rfl))
theorem conv_zero_l (G : List Nat → Int) : ∀ v, conv (fun _ => 0) G v = 0
  | [] => by rw [conv_nil, Int.zero_mul]
  | c :: v => by rw [conv_cons, Int.zero_mul, conv_zero_l G v]; rfl
theorem conv_delta_l (G : List Nat → Int) : ∀ v, conv delta G v = G v
  | [] => by rw [conv_nil]; exact Int.one_mul _
  | c :: v => by
    rw [conv_cons]
    have : (fun x => delta (c :: x)) = fun _ => (0 : Int) := rfl
    rw [this, conv_zero_l, show delta [] = 1 from rfl, Int.one_mul, Int.add_zero]
theorem conv_delta_r : ∀ (v : List Nat) (G : List Nat → Int), conv G delta v = G v
  | [], G => by rw [conv_nil]; exact Int.mul_one _
  | c :: v, G => by rw [conv_cons, conv_delta_r v, show delta (c :: v) = 0 from rfl, Int.mul_zero, Int.zero_add]
theorem one_prod (hp : 1 < p) (g : Good p s) : Eqv (prodS p one1 s) s := fun l => by
  rw [cl_prod (by omega) (one1_good hp).nd g.nd, conv_congr cl_one (fun _ => rfl), conv_delta_l, cl_mod (by omega) g]
theorem prod_one (hp : 1 < p) (g : Good p s) : Eqv (prodS p s one1) s := fun l => by
  rw [cl_prod (by omega) g.nd (one1_good hp).nd, conv_congr (fun _ => rfl) cl_one, conv_delta_r, cl_mod (by omega) g]
theorem prod_nil : prodS p s [] = [] := by
  unfold prodS
  have : ∀ (l acc : Bg), l.foldl (fun acc a => prodRow p acc a []) acc = acc := by
    intro l
    induction l with
    | nil => intro acc; rfl
    | cons a r ih => intro acc; exact ih acc
  exact this s []
theorem distrib_r (hp : 0 < p) (gs : Good p s) (gt : Good p t) (gu : Good p u) (f : Int) : Eqv (prodS p s (plusS p t u f)) (plusS p (prodS p s t) (prodS p s u) f) := fun l => by
  rw [cl_prod hp gs.nd (Good.plus hp gt u).nd, cl_plus hp (Good.prod hp s t) (Good.prod hp s u).nd, cl_prod hp gs.nd gt.nd, cl_prod hp gs.nd gu.nd]
  have h1 : conv (cl s) (cl (plusS p t u f)) l % p = conv (cl s) (fun x => cl t x + f * cl u x) l % p := conv_mod (fun _ => rfl) (fun x => by rw [cl_plus hp gt gu.nd, Int.emod_emod_of_dvd _ (Int.dvd_refl p)]) l
  rw [h1, conv_addr, conv_mulr]
  simp [Int.add_emod, Int.mul_emod]
theorem distrib_l (hp : 0 < p) (gs : Good p s) (gt : Good p t) (gu : Good p u) (f : Int) : Eqv (prodS p (plusS p t u f) s) (plusS p (prodS p t s) (prodS p u s) f) := fun l => by
  rw [cl_prod hp (Good.plus hp gt u).nd gs.nd, cl_plus hp (Good.prod hp t s) (Good.prod hp u s).nd, cl_prod hp gt.nd gs.nd, cl_prod hp gu.nd gs.nd]
  have h1 : conv (cl (plusS p t u f)) (cl s) l % p = conv (fun x => cl t x + f * cl u x) (cl s) l % p := conv_mod (fun x => by rw [cl_plus hp gt gu.nd, Int.emod_emod_of_dvd _ (Int.dvd_refl p)]) (fun _ => rfl) l
  rw [h1, conv_addl, conv_mull]
  simp [Int.add_emod, Int.mul_emod]
end
end Fp

/-! Lists of bags. -/
namespace Fp
open PySem L2
/-- all but lists stand -/
def ExL (H H' : Hp) : Prop := ∀ a o, (∀ xs, o ≠ .lst xs) → H a = some o → H' a = some o
theorem ExL.trans {H H1 H2 : Hp} (a : ExL H H1) (b : ExL H1 H2) : ExL H H2 := fun x o n h => b x o n (a x o n h)
theorem Ex.exl {H H' : Hp} (e : Ex H H') : ExL H H' := fun a o _ h => e a o h
theorem ExL.upd {H : Hp} {a : Addr} {o : HO} {xs : List V} (h : H a = some (.lst xs)) : ExL H (L2.upd H a o) := fun b u n q => by
  rw [upd_ne (fun e => by subst e; rw [h] at q; exact n xs (Option.some.inj q).symm)]
  exact q
theorem BagAt.exl {Cs : Addr → Prop} {H H' : Hp} {a : Addr} {p : Int} {s : Bg} (e : ExL H H') (b : BagAt Cs H a p s) : BagAt Cs H' a p s := by
  obtain ⟨C, dx, d, k, t, h0, h1, h2, ⟨qs, o, h3, h4, h5⟩⟩ := b.ex
  exact ⟨C, dx, d, k, t, h0, e _ _ (fun _ z => nomatch z) h1, e _ _ (fun _ z => nomatch z) h2, ⟨qs, o, e _ _ (fun _ z => nomatch z) h3, h4, Paired.mapP h5 fun q kv z => e _ _ (fun _ z => nomatch z) z⟩⟩
theorem WordsAt.exl {H H' : Hp} {t : Addr} {l : Bg} (e : ExL H H') (h : WordsAt H t l) : WordsAt H' t l := by
  obtain ⟨qs, o, h1, hd, h2⟩ := h.ex
  exact ⟨qs, o, e _ _ (fun _ z => nomatch z) h1, hd, Paired.mapP h2 fun _ _ z => e _ _ (fun _ z => nomatch z) z⟩
section
variable {J : It} {n : Nat} {G : Hp → Prop} {Y : Nat → Hp → V → Hp → Prop} {α : Type}
theorem lc_relL (w : Walk J n G Y) {j : Nat} {te : TE} {vs : List Nat} {σ : St} {H1 : Hp} {Q : VK} (es : List α) (hl : es.length = n) (hn : n ≤ sizeLine) (hG : ∀ H, Ex H1 H → G H)
    (R : α → V → Hp → Prop) (hR : ∀ e y H H', ExL H H' → R e y H → R e y H') (hw : ∀ x, wipe ((wipe σ vs).set j x) vs = wipe σ vs)
    (hs : ∀ i x e H H' (K : VK), i < n → Ex H1 H → Y i H x H' → es[i]? = some e → (∀ y H4, Ex H H4 → R e y H4 → K y H4) → te ((wipe σ vs).set j (some x)) H' K)
    (hd : ∀ D H' ys, H1 D = none → Ex H1 H' → H' D = some (.lst ys) → Paired (fun y e => R e y H') ys es → Q (.ref D) H') :
    LcG J (gName j) tYes te vs σ H1 Q := by
  intro D hD
  refine lc_it w (fun i H => Ex H1 H ∧ ∃ ys, H D = some (.lst ys) ∧ Paired (fun y e => R e y H) ys (es.take i)) ⟨Ex.new hD, [], upd_same, .nil⟩ (fun i H _ p => hG H p.1) ?_ (fun H p => ?_)
  · rintro i x H H' hi ⟨e, ys, hacc, hp⟩ hy
    have hi' : i < es.length := by omega
    obtain ⟨y, hyi⟩ : ∃ y, es[i]? = some y := ⟨es[i], by simp [hi']⟩
    refine ⟨hw _, ?_⟩
    unfold tYes
    dsimp only
    rw [if_pos rfl]
    have hlen : ys.length = i := by rw [hp.length, List.length_take]; omega
    refine hs i x y H H' _ hi e hy hyi fun z H4 e4 rz => ⟨ys, e4 _ _ hacc, by omega, ?_, ys ++ [z], upd_same, ?_⟩
    · exact Ex.mut (e.trans e4) hD
    · have tu : ExL H4 (L2.upd H4 D (.lst (ys ++ [z]))) := ExL.upd (e4 _ _ hacc)
      rw [List.take_add_one, hyi]
      exact Paired.snoc (Paired.mapP hp fun a b q => hR _ _ _ _ (e4.exl.trans tu) q) (hR _ _ _ _ tu rz)
  · obtain ⟨e, ys, h, hp⟩ := p
    rw [← hl, List.take_length] at hp
    exact hd D H ys hD e h hp
end
theorem pe_bmK {X : Cx} {K : PySem.W.Frag} (hK : X.K = K) {ex : Expr} {T : String} {to : TE} {t : TA} {r : V → List V → Hp → VK → Prop} (h : PE X ex (tBM X.K T r to t)) : PE X ex (tBM K T r to t) := hK ▸ h
/-! ### lists of words -/
theorem dpAll_wordss {K : PySem.W.Frag} {H : Hp} {ts : List Addr} {ls : List Bg} (h : Paired (fun t l => WordsAt H t l) ts ls) : DpAll K H (ts.map V.ref) (ls.map wordsD) := by
  induction h with
  | nil => exact .nil
  | cons h1 _ ih => exact .cons h1.dp ih
theorem plainAll_wordss (ls : List Bg) : PyData.plainAll (ls.map wordsD) = true := by
  induction ls with
  | nil => rfl
  | cons q r ih => rw [List.map_cons, PyData.plainAll, ih, plain_words]; rfl
theorem depthAll_wordss (ls : List Bg) : PyData.depthAll (ls.map wordsD) ≤ 2 := by
  induction ls with
  | nil => simp [PyData.depthAll]
  | cons q r ih =>
    rw [List.map_cons, PyData.depthAll]
    have h1 := depthAll_words q
    have h2 : (wordsD q).depth ≤ 2 := by simp only [wordsD, PyData.depth]; omega
    omega
theorem eqvAll_wordss : ∀ l m : List Bg, PyData.eqvAll (l.map wordsD) (m.map wordsD) = decide (l = m)
  | [], [] => by simp [PyData.eqvAll]
  | [], b :: m => by simp [PyData.eqvAll]
  | a :: l, [] => by simp [PyData.eqvAll]
  | a :: l, b :: m => by
    rw [List.map_cons, List.map_cons, PyData.eqvAll, eqv_words, eqvAll_wordss l m]
    rw [Bool.eq_iff_iff]
    simp
/-- two lists of words are compared -/
theorem g_eqWs {K : PySem.W.Frag} {H : Hp} {a b : Addr} {ts us : List Addr} {ls ms : List Bg} {neg : Bool} {Q : VK} (ha : SqL K H a (ts.map V.ref)) (hb : SqL K H b (us.map V.ref)) (h1 : Paired (fun t l => WordsAt H t l) ts ls) (h2 : Paired (fun t l => WordsAt H t l) us ms)
    (h : Q (.bl (if neg = true then !decide (ls = ms) else decide (ls = ms))) H) : rEqP K neg (.ref a) (.ref b) H Q := by
  refine ⟨.list (ls.map wordsD), .list (ms.map wordsD), .lst ha (dpAll_wordss h1), .lst hb (dpAll_wordss h2), plainAll_wordss _, plainAll_wordss _, ?_, ?_⟩
  · have := depthAll_wordss ls
    simp only [PyData.depth]
    omega
  · have e : PyData.eqv (.list (ls.map wordsD)) (.list (ms.map wordsD)) = decide (ls = ms) := eqvAll_wordss ls ms
    rw [e]
    exact h
end Fp

namespace Fp
open PySem L2
section
variable {P : Program} {w : World} {K : PySem.W.Frag} {mg : Str → Option Value} {base : Heap} {C_Bag : Addr} {Cs : Addr → Prop}
local macro_rules | `(tactic| walk_at "hp") => `(tactic| first | assumption | rfl)
local macro_rules | `(tactic| walk_at "cond") => `(tactic| first | assumption | decide | omega | (unfold CMul; omega) | (refine ⟨?_, ?_⟩ <;> omega) | (unfold CDiv; omega) | (unfold CPow; omega))
local macro_rules | `(tactic| walk_at "g1") => `(tactic| first
  | with_reducible first
    | refine g_seq ?_ | refine g_asg ?_ | refine g_name ?_ | refine g_ret ?_ | refine g_retN ?_ | refine g_drop ?_ | refine g_ifs ?_
    | refine g_c ?_ | refine g_op ?_ | refine g_un ?_ | refine g_I0 ?_ | refine g_U ?_
    | refine g_test ?_ | refine g_tB ?_ | refine g_bl ?_ | refine g_and ?_ | refine g_or ?_ | refine g_not ?_
    | refine g_andV ?_ | refine g_orV ?_ | refine g_notV ?_ | refine g_if ?_ | refine g_nil ?_ | refine g_cons ?_ | refine g_cb ?_ | refine g_call ?_
    | refine g_lst ?_ | refine g_tup ?_ | refine g_itT ?_ | refine g_itF ?_ | refine g_itNT ?_ | refine g_itNF ?_ | refine g_lc ?_ | refine g_iStr ?_ | refine g_yes ?_ | refine g_exs ?_
    | refine g_chain ?_ | refine g_dget ?_ | refine g_dput ?_ | refine g_dget2 ?_ | refine g_dpop2 ?_ | refine g_fld ?_ | refine g_sfld ?_ | refine g_make ?_ | refine g_meth ?_
    | refine g_bm ?_ | refine g_kw ?_ | refine g_callS ?_ | refine g_revL ?_ | refine g_m1 ?_ | refine g_gsub ?_ | refine g_for ?_ | refine g_iList ?_ | refine g_iTup ?_ | refine g_iRng1 ?_ | refine g_iRng2 ?_ | refine g_sl ?_ | refine g_part ?_ | refine g_noPart ?_
    | refine g_exi ?_ | refine g_exr ?_ | refine g_dnew ?_ | refine g_disp ?_ | refine g_prs0 ?_ | refine g_prs ?_ | refine g_nxt ?_
  | ((with_reducible refine g_var (v := ?vv) ?gv ?_); (case gv => exact rfl))
  | ((with_reducible refine g_I ?gc ?_); (case gc => walk_at "cond"))
  | ((with_reducible refine g_eq ?ge ?_); (case ge => exact rfl))
  | ((with_reducible refine g_ne ?ge ?_); (case ge => exact rfl))
  | (refine g_ixl (SqL.of (by first | assumption | exact upd_same)) rfl ?_)
  | (refine g_setl (by first | assumption | exact upd_same) rfl ?_)
  | ((with_reducible show (∃ i, [V.int _] = [V.int i] ∧ _) ∨ _); refine Or.inl ⟨_, rfl, ?_⟩)
  | ((with_reducible show ∃ i, [V.int _] = [V.int i] ∧ _); refine ⟨_, rfl, ?_⟩)
  | dsimp only)
local macro_rules | `(tactic| walk_at "go") => `(tactic| repeat (walk_at "g1"))

/-! ### the program's own sums -/
theorem ok_put_to {f : Addr} {fd : FuncData} (F : Fun K "put_to" "put_to" s_put_to f fd) (T : Txt K mg C_Bag Cs) : FnOk P w K mg base CX0 1 f fd ["clock", "sparse", "word", "number"] sp_law_put := by
  refine F.ok sc_put_to (fun vs H Q E h => ?_) (fun cdv A outer s H vs Q E hr h => ?_)
  · obtain ⟨p, d, s, z, n, rfl, _⟩ := h
    rfl
  · obtain ⟨p, d, s, z, n, rfl, hd, hl, hp, k⟩ := h
    have hu := hu_of hr; have hu64 := L2.Room.units hr; refine ⟨_, (pss_cons (ps_set (i := 4) sc_put_to.nd rfl (by first | exact Or.inl rfl | exact Or.inr rfl) (pe_op op_mod (pe_callTy call_int1 (by rfl) T.b_int (by decide +kernel) (pa_cons (pe_op op_add (pe_dget2 hu (pv 1) (pv 2) pe_int ⟨rfl, rfl, rfl, rfl⟩) (pv 3)) pa_nil)) (pv 0))) (pss_one (ps_if (pt_cmpR op_eq (pv 4) pe_int (nomark _)) (pss_one (ps_expr (pe_dpop2 (pv 1) (pv 2) pe_int ⟨rfl, rfl, rfl, rfl⟩))) (pss_one (ps_dput hu (pv 1) (pv 2) (pv 4) rfl))))), ?_⟩; rw [st_put_to]; (try dsimp only [cxOf]); walk_at "go"
    refine ⟨.inl ⟨_, .inl hd⟩, ?_⟩
    walk_at "go"
    refine ⟨_, .inl ⟨toK s, .inr z, .inl hd, rfl, rfl⟩, ?_⟩
    rw [getD_toK]
    walk_at "go"
    by_cases hz : (cf s z + n) % p = 0
    · rw [decide_eq_true (by rw [hz])]
      walk_at "go"
      refine ⟨.inl ⟨_, .inl hd⟩, ?_⟩
      walk_at "go"
      have hk : Q .non (upd H d (.dK (dropK (toK s) (Sum.inr z : Key)))) := by
        rw [dropK_toK]
        unfold addTo at k
        rw [if_pos hz] at k
        exact k
      refine ⟨toK s, .inr z, hd, rfl, fun v _ => hk, fun hn => ?_⟩
      have he : upd H d (.dK (dropK (toK s) (Sum.inr z : Key))) = H := by
        have e2 : dropK (toK s) (Sum.inr z : Key) = toK s := by
          rw [dropK_toK]
          unfold dropS
          rw [valV_toK] at hn
          have hn' : getS s z = none := by cases q : getS s z with | none => rfl | some x => rw [q] at hn; cases hn
          rw [List.filter_eq_self.mpr]
          intro kv hkv
          refine decide_eq_true fun e => getS_none.mp hn' ?_
          rw [← e]
          exact mem_keys.mpr ⟨kv.2, hkv⟩
        rw [e2]
        funext a
        by_cases ha : a = d
        · subst ha; rw [upd_same, hd]
        · rw [upd_ne ha]
      rw [he] at hk
      exact hk
    · rw [decide_eq_false (fun e => hz (V.int.inj e))]
      walk_at "go"
      refine g_dp hd (Nat.lt_trans hl (by decide)) ?_
      unfold addTo at k
      rw [if_neg hz] at k
      exact k
theorem ok_added {f : Addr} {fd : FuncData} (F : Fun K "added" "added" s_added f fd) (T : Txt K mg C_Bag Cs) (D_put_to : DefOk P w K mg base CX0 1 "put_to" ["clock", "sparse", "word", "number"] sp_law_put) : FnOk P w K mg base CX0 2 f fd ["clock", "one", "other", "factor"] sp_law_plus := by
  refine F.ok sc_added (fun vs H Q E h => ?_) (fun cdv A outer s H vs Q E hr h => ?_)
  · obtain ⟨p, a, b, s, t, f, rfl, _⟩ := h
    rfl
  · obtain ⟨p, a, b, s, t, f, rfl, ha, hb, hn, hl, hp, hf, k⟩ := h
    have hu := hu_of hr; have hu64 := L2.Room.units hr; refine ⟨_, (pss_cons (ps_set (i := 4) sc_added.nd rfl (by first | exact Or.inl rfl | exact Or.inr rfl) (pe_callTy call_dictD (by rfl) T.b_dict (by decide +kernel) (pa_cons (pv 1) pa_nil))) (pss_cons (ps_lockR (ps_for PassesOwn.never rfl (pi_keys (pv 2)) (pg_name (i := 5) sc_added.nd rfl (by first | exact Or.inl rfl | exact Or.inr rfl)) (pss_one (ps_expr (pe_callD D_put_to (hr.mono (by decide)) rfl pass0 (pa_cons (pv 0) (pa_cons (pv 4) (pa_cons (pv 5) (pa_cons (pe_op op_mul (pv 3) (pe_dget hu (pv 2) (pv 5) (fun _ _ => rfl))) pa_nil))))))))) (pss_one (ps_ret (pv 4))))), ?_⟩; rw [st_added]; (try dsimp only [cxOf]); walk_at "go"
    refine ⟨a, toK s, rfl, ha, fun d hd => ?_⟩
    walk_at "go"
    have hbd : b ≠ d := fun e => by subst e; rcases hb with h | ⟨o, h⟩ <;> rw [hd] at h <;> cases h
    have hb' : Rd (upd H d (.dK (toK s))) b (.dK (toK t)) := (Ex.new hd).rd hb
    refine for_keys hb' upd_same hbd (fun H' Q' _ q => ⟨_, rfl, q⟩) (fun i σ' o => (∃ x, σ' = [some (.int p), some (.ref a), some (.ref b), some (.int f), some (.ref d), x]) ∧ o = .dK (toK (plusS p s (t.take i) f))) ⟨⟨none, rfl⟩, rfl⟩ ?_ ?_
    · rintro i z n σ' H' o E hi ⟨⟨x, rfl⟩, rfl⟩ le hfo _ hE
      walk_at "go"
      refine g_dg le.self (getS_at hn hi) ?_
      walk_at "go"
      refine ⟨p, d, _, z, f * n, rfl, hfo, ?_, hp, ?_⟩
      · have h1 := len_plus (p := p) (s := s) (t := t.take i) f
        have h2 := List.length_take_le i t
        have h3 : (t.take i).length ≤ t.length := by rw [List.length_take]; omega
        omega
      · refine hE _ _ _ ⟨⟨_, rfl⟩, rfl⟩ ((ExB.refl d _).upd) ?_
        rw [upd_same]
        unfold plusS
        rw [foldl_take _ _ _ _ _ hi]
    · rintro σ' H' o ⟨⟨x, rfl⟩, rfl⟩ e ho
      walk_at "go"
      rw [List.take_length] at ho
      exact k d H' (fun a' o' h' => e a' o' (ne_of_none h' hd) (Ex.new hd a' o' h')) hd ho

/-! ### the program's own products -/
/-! ### bags that are made raw -/
def sp_raw_init (C_Raw : Addr) (Cs : Addr → Prop) : Sp := fun vs H Q _ => ∃ (x d : Addr) (p : Int) (s : Bg) (dx : Addr), vs = [.ref x, .int p, .ref d] ∧ H x = some (.ins C_Raw dx []) ∧ H d = some (.dK (toK s)) ∧ s.length ≤ 10000000 ∧ (∀ u ∈ keys s, u.length ≤ 10000000) ∧ (keys s).Nodup ∧
  ∀ H', ExB x H H' → BagAt Cs H' x p s → Q .non H'
theorem ok_raw_init {C_Raw : Addr} {f : Addr} {fd : FuncData} (F : Fun K "__init__" "RawBag.__init__" s_RawBag_init f fd) (T : Txt K mg C_Bag Cs) (hR : Cs C_Raw) (D_mt_RawBag_keep : MtOk P w K mg base CX0 5 C_Raw "keep" ["self", "clock", "sparse"] (sp_keep Cs)) : FnOk P w K mg base CX0 6 f fd ["self", "clock", "sparse"] (sp_raw_init C_Raw Cs) := by
  refine F.ok sc_RawBag_init (fun vs H Q E h => ?_) (fun cdv A outer s H vs Q E hr h => ?_)
  · obtain ⟨x, d, p, s, dx, rfl, _⟩ := h
    rfl
  · obtain ⟨x, d, p, s, dx, rfl, hx, hd, hz, hw, hn, k⟩ := h
    have hxd : d ≠ x := fun e => by subst e; rw [hx] at hd; cases hd
    have hu := hu_of hr; have hu64 := L2.Room.units hr; refine ⟨_, (pss_one (ps_expr (pe_mtD D_mt_RawBag_keep (hr.mono (by decide)) pass0 (pv 0) (pa_cons (pv 1) (pa_cons (pv 2) pa_nil))))), ?_⟩; rw [st_RawBag_init]; (try dsimp only [cxOf]); walk_at "go"
    refine ⟨x, dx, [], rfl, hx, rfl, ?_⟩
    walk_at "go"
    refine ⟨x, d, p, s, C_Raw, dx, rfl, hx, hR, hd, hz, hw, hn, fun k1 t H2 e2 h2 hw' => ?_⟩
    exact k H2 e2 ⟨C_Raw, dx, d, k1, t, hR, h2, e2 _ _ hxd hd, hw'⟩
def sp_raw (Cs : Addr → Prop) : Sp := fun vs H Q _ => ∃ (d : Addr) (p : Int) (s : Bg), vs = [.int p, .ref d] ∧ H d = some (.dK (toK s)) ∧ s.length ≤ 10000000 ∧ (∀ u ∈ keys s, u.length ≤ 10000000) ∧ (keys s).Nodup ∧
  ∀ x H', Ex H H' → H x = none → BagAt Cs H' x p s → Q (.ref x) H'
theorem ok_raw {C_RawBag : Addr} {f : Addr} {fd : FuncData} (F : Fun K "raw" "raw" s_raw f fd) (T : Txt K mg C_Bag Cs) (D_mk_RawBag : MkOk P w K mg base CX0 6 "RawBag" C_RawBag ["self", "clock", "sparse"] (sp_raw_init C_RawBag Cs)) : FnOk P w K mg base CX0 8 f fd ["clock", "sparse"] (sp_raw Cs) := by
  refine F.ok sc_raw (fun vs H Q E h => ?_) (fun cdv A outer s H vs Q E hr h => ?_)
  · obtain ⟨d, p, s, rfl, _⟩ := h
    rfl
  · obtain ⟨d, p, s, rfl, hd, hz, hw, hn, k⟩ := h
    have hu := hu_of hr; have hu64 := L2.Room.units hr; refine ⟨_, (pss_one (ps_ret (pe_mkD D_mk_RawBag (hr.mono (by decide)) rfl pass0 (pa_cons (pv 0) (pa_cons (pv 1) pa_nil))))), ?_⟩; rw [st_raw]; (try dsimp only [cxOf]); walk_at "go"
    intro x dx hx hdx hne
    have hx1 : upd H dx (.own x) x = none := by rw [upd_ne (Ne.symm hne)]; exact hx
    have e1 : Ex H (upd (upd H dx (.own x)) x (.ins C_RawBag dx [])) := (Ex.new hdx).trans (Ex.new hx1)
    exact ⟨x, d, p, s, dx, rfl, upd_same, e1 _ _ hd, hz, hw, hn, fun H' e hb => ⟨rfl, k x H' (fun a o q => e a o (ne_of_none q hx) (e1 _ _ q)) hx hb⟩⟩
/-- two bags by one clock -/
def sp_check_clocks (Cs : Addr → Prop) : Sp := fun vs H Q _ => ∃ (a b : Addr) (p : Int) (s t : Bg), vs = [.ref a, .ref b] ∧ BagAt Cs H a p s ∧ BagAt Cs H b p t ∧ Q .non H
theorem ok_check_clocks {f : Addr} {fd : FuncData} (F : Fun K "check_clocks" "check_clocks" s_check_clocks f fd) (T : Txt K mg C_Bag Cs) : FnOk P w K mg base CX0 1 f fd ["one", "other"] (sp_check_clocks Cs) := by
  refine F.ok sc_check_clocks (fun vs H Q E h => ?_) (fun cdv A outer s H vs Q E hr h => ?_)
  · obtain ⟨a, b, p, s, t, rfl, _⟩ := h
    rfl
  · obtain ⟨a, b, p, s, t, rfl, ha, hb, k⟩ := h
    obtain ⟨C, dx, d, k1, t1, hc, h1, h2, h3⟩ := ha.ex
    obtain ⟨C', dx', d', k1', t1', hc', h1', h2', h3'⟩ := hb.ex
    have hu := hu_of hr; have hu64 := L2.Room.units hr; refine ⟨_, (pss_one (ps_if (pt_cmpR op_ne (pe_fldK (K := K) rfl (pv 0) rfl) (pe_fldK (K := K) rfl (pv 1) rfl) (nomark _)) (pss_one ps_never) pss_nil)), ?_⟩; rw [st_check_clocks]; (try dsimp only [cxOf]); walk_at "go"
    refine ⟨a, C, dx, _, _, rfl, h1, T.cls C hc, T.n_clock C hc, bagF_clock _ _ _ _, ?_⟩
    walk_at "go"
    refine ⟨b, C', dx', _, _, rfl, h1', T.cls C' hc', T.n_clock C' hc', bagF_clock _ _ _ _, ?_⟩
    walk_at "go"
    rw [decide_eq_true rfl]
    walk_at "go"
    exact k

end
end Fp

namespace Fp
open PySem L2
section
variable {P : Program} {w : World} {K : PySem.W.Frag} {mg : Str → Option Value} {base : Heap} {C_Bag : Addr} {Cs : Addr → Prop}
local macro_rules | `(tactic| walk_at "hp") => `(tactic| first | assumption | rfl)
local macro_rules | `(tactic| walk_at "cond") => `(tactic| first | assumption | decide | omega | (unfold CMul; omega) | (refine ⟨?_, ?_⟩ <;> omega) | (unfold CDiv; omega) | (unfold CPow; omega))
local macro_rules | `(tactic| walk_at "g1") => `(tactic| first
  | with_reducible first
    | refine g_seq ?_ | refine g_asg ?_ | refine g_name ?_ | refine g_ret ?_ | refine g_retN ?_ | refine g_drop ?_ | refine g_ifs ?_
    | refine g_c ?_ | refine g_op ?_ | refine g_un ?_ | refine g_I0 ?_ | refine g_U ?_
    | refine g_test ?_ | refine g_tB ?_ | refine g_bl ?_ | refine g_and ?_ | refine g_or ?_ | refine g_not ?_
    | refine g_andV ?_ | refine g_orV ?_ | refine g_notV ?_ | refine g_if ?_ | refine g_nil ?_ | refine g_cons ?_ | refine g_cb ?_ | refine g_call ?_
    | refine g_lst ?_ | refine g_tup ?_ | refine g_itT ?_ | refine g_itF ?_ | refine g_itNT ?_ | refine g_itNF ?_ | refine g_lc ?_ | refine g_iStr ?_ | refine g_yes ?_ | refine g_exs ?_
    | refine g_chain ?_ | refine g_dget ?_ | refine g_dput ?_ | refine g_dget2 ?_ | refine g_dpop2 ?_ | refine g_fld ?_ | refine g_sfld ?_ | refine g_make ?_ | refine g_meth ?_
    | refine g_bm ?_ | refine g_kw ?_ | refine g_callS ?_ | refine g_revL ?_ | refine g_m1 ?_ | refine g_gsub ?_ | refine g_for ?_ | refine g_iList ?_ | refine g_iTup ?_ | refine g_iRng1 ?_ | refine g_iRng2 ?_ | refine g_sl ?_ | refine g_part ?_ | refine g_noPart ?_
    | refine g_exi ?_ | refine g_exr ?_ | refine g_dnew ?_ | refine g_disp ?_ | refine g_prs0 ?_ | refine g_prs ?_ | refine g_nxt ?_
  | ((with_reducible refine g_var (v := ?vv) ?gv ?_); (case gv => exact rfl))
  | ((with_reducible refine g_I ?gc ?_); (case gc => walk_at "cond"))
  | ((with_reducible refine g_eq ?ge ?_); (case ge => exact rfl))
  | ((with_reducible refine g_ne ?ge ?_); (case ge => exact rfl))
  | (refine g_ixl (SqL.of (by first | assumption | exact upd_same)) rfl ?_)
  | (refine g_setl (by first | assumption | exact upd_same) rfl ?_)
  | ((with_reducible show (∃ i, [V.int _] = [V.int i] ∧ _) ∨ _); refine Or.inl ⟨_, rfl, ?_⟩)
  | ((with_reducible show ∃ i, [V.int _] = [V.int i] ∧ _); refine ⟨_, rfl, ?_⟩)
  | dsimp only)
local macro_rules | `(tactic| walk_at "go") => `(tactic| repeat (walk_at "g1"))

/-! ### together, behind; what the law asks of a bag -/
def sp_sum (f : Int) (Cs : Addr → Prop) : Sp := fun vs H Q _ => ∃ (a b : Addr) (p : Int) (s t : Bg) (n1 l1 n2 l2 : Nat), vs = [.ref a, .ref b] ∧ BagAt Cs H a p s ∧ BagAt Cs H b p t ∧ Lot p s n1 l1 ∧ Lot p t n2 l2 ∧ n1 + n2 < 10000000 ∧ l1 ≤ 10000000 ∧ l2 ≤ 10000000 ∧ 0 < p ∧
  ∀ x H', Ex H H' → H x = none → BagAt Cs H' x p (plusS p s t f) → Q (.ref x) H'
def sp_behind (Cs : Addr → Prop) : Sp := fun vs H Q _ => ∃ (a b : Addr) (p : Int) (s t : Bg) (n1 l1 n2 l2 : Nat), vs = [.ref a, .ref b] ∧ BagAt Cs H a p s ∧ BagAt Cs H b p t ∧ Lot p s n1 l1 ∧ Lot p t n2 l2 ∧ n1 * n2 < 10000000 ∧ l1 ≤ 5000000 ∧ l2 ≤ 5000000 ∧ 0 < p ∧ p ≤ 1000000 ∧
  ∀ x H', Ex H H' → H x = none → BagAt Cs H' x p (prodS p s t) → Q (.ref x) H'
def sp_law_is (Cs : Addr → Prop) : Sp := fun vs H Q _ => ∃ (x d : Addr) (p q : Int) (s t : Bg), vs = [.ref x, .int p, .ref d] ∧ BagAt Cs H x q t ∧ Rd H d (.dK (toK s)) ∧ s.length ≤ 10000000 ∧ (∀ u ∈ keys s, u.length ≤ 10000000) ∧ (keys s).Nodup ∧
  ∀ H', Ex H H' → Q (.bl (decide (q = p) && decide (wordsS t = wordsS s))) H'
theorem ok_together {f : Addr} {fd : FuncData} (F : Fun K "together" "together" s_together f fd) (T : Txt K mg C_Bag Cs) (D_check_clocks : DefOk P w K mg base CX0 1 "check_clocks" ["one", "other"] (sp_check_clocks Cs)) (D_raw : DefOk P w K mg base CX0 8 "raw" ["clock", "sparse"] (sp_raw Cs))
    (D_added : DefOk P w K mg base CX0 2 "added" ["clock", "one", "other", "factor"] sp_law_plus) : FnOk P w K mg base CX0 9 f fd ["one", "other"] (sp_sum 1 Cs) := by
  refine F.ok sc_together (fun vs H Q E h => ?_) (fun cdv A outer s H vs Q E hr h => ?_)
  · obtain ⟨a, b, p, s, t, n1, l1, n2, l2, rfl, _⟩ := h
    rfl
  · obtain ⟨a, b, p, s, t, n1, l1, n2, l2, rfl, ha, hb, hls, hlt, hn, hl1, hl2, hp, k⟩ := h
    obtain ⟨C, dx, d, k1, t1, hc, h1, h2, h3⟩ := ha.ex
    obtain ⟨C', dx', d', k1', t1', hc', h1', h2', h3'⟩ := hb.ex
    have hu := hu_of hr; have hu64 := L2.Room.units hr; refine ⟨_, (pss_cons (ps_expr (pe_callD D_check_clocks (hr.mono (by decide)) rfl pass0 (pa_cons (pv 0) (pa_cons (pv 1) pa_nil)))) (pss_one (ps_ret (pe_callD D_raw (hr.mono (by decide)) rfl pass0 (pa_cons (pe_fldK (K := K) rfl (pv 0) rfl) (pa_cons (pe_callD D_added (hr.mono (by decide)) rfl pass0 (pa_cons (pe_fldK (K := K) rfl (pv 0) rfl) (pa_cons (pe_fldK (K := K) rfl (pv 0) rfl) (pa_cons (pe_fldK (K := K) rfl (pv 1) rfl) (pa_cons pe_int pa_nil))))) pa_nil)))))), ?_⟩; rw [st_together]; (try dsimp only [cxOf]); walk_at "go"
    refine ⟨a, b, p, s, t, rfl, ha, hb, ?_⟩
    walk_at "go"
    refine ⟨a, C, dx, _, _, rfl, h1, T.cls C hc, T.n_clock C hc, bagF_clock _ _ _ _, ?_⟩
    walk_at "go"
    refine ⟨a, C, dx, _, _, rfl, h1, T.cls C hc, T.n_clock C hc, bagF_clock _ _ _ _, ?_⟩
    walk_at "go"
    refine ⟨a, C, dx, _, _, rfl, h1, T.cls C hc, T.n_sparse C hc, bagF_sparse _ _ _ _, ?_⟩
    walk_at "go"
    refine ⟨b, C', dx', _, _, rfl, h1', T.cls C' hc', T.n_sparse C' hc', bagF_sparse _ _ _ _, ?_⟩
    walk_at "go"
    have c1 := hls.n
    have c2 := hlt.n
    refine ⟨p, d, d', s, t, _, rfl, .inl h2, .inl h2', hlt.g.nd, by omega, hp, by decide, fun d2 H1 e1 hd2 hd2' => ?_⟩
    walk_at "go"
    have c3 := len_plus (p := p) (s := s) (t := t) 1
    refine ⟨d2, p, _, rfl, hd2', by omega, fun u hu => ?_, (Good.plus hp hls.g t).nd, fun x H2 e2 hx hb2 => ?_⟩
    · rcases keys_plus hu with q | q
      · exact Nat.le_trans (hls.l u q).1 hl1
      · exact Nat.le_trans (hlt.l u q).1 hl2
    · exact k x H2 (e1.trans e2) (e1.free hx) hb2
theorem ok_law_is {f : Addr} {fd : FuncData} (F : Fun K "_law_is" "_law_is" s_law_is f fd) (T : Txt K mg C_Bag Cs) (D_law_words : DefOk P w K mg base CX0 2 "_law_words" ["_law_bag"] sp_law_words) : FnOk P w K mg base CX0 3 f fd ["_law_told", "_law_clock_here", "_law_bag"] (sp_law_is Cs) := by
  refine F.ok sc_law_is (fun vs H Q E h => ?_) (fun cdv A outer s H vs Q E hr h => ?_)
  · obtain ⟨x, d, p, q, s, t, rfl, _⟩ := h
    rfl
  · obtain ⟨x, d, p, q, s, t, rfl, hx, hd, hz, hw, hn, k⟩ := h
    obtain ⟨C, dx, db, k1, t1, hc, h1, h2, h3⟩ := hx.ex
    have hu := hu_of hr; have hu64 := L2.Room.units hr; refine ⟨_, (pss_one (ps_ret (pe_and (pe_callB (r := rIsi K) call_isi (by rfl) T.b_isinstance (by decide +kernel) (pa_cons (pv 0) (pa_cons (pe_glob (v := .ref C_Bag) rfl T.c_Bag rfl) pa_nil))) (pe_and (pe_cmpR op_eq (pe_fldK (K := K) rfl (pv 0) rfl) (pv 1) (nomark _)) (pe_one (pe_cmpR (r := rEqP K false) (op_eqP hu64) (pe_fldK (K := K) rfl (pv 0) rfl) (pe_callD D_law_words (hr.mono (by decide)) rfl pass0 (pa_cons (pv 2) pa_nil)) (nomark _))))))), ?_⟩; rw [st_law_is]; (try dsimp only [cxOf]); walk_at "go"
    refine g_isC (b := true) (bag_ty T hc h1) (T.c_isB C hc) ?_
    walk_at "go"
    refine ⟨x, C, dx, _, _, rfl, h1, T.cls C hc, T.n_clock C hc, bagF_clock _ _ _ _, ?_⟩
    walk_at "go"
    by_cases hpq : q = p
    · rw [decide_eq_true (by rw [hpq])]
      rw [decide_eq_true hpq] at k
      walk_at "go"
      refine ⟨x, C, dx, _, _, rfl, h1, T.cls C hc, T.n_words C hc, bagF_words _ _ _ _, ?_⟩
      walk_at "go"
      refine ⟨d, s, rfl, hd, hz, hw, hn, fun t2 H1 e1 ht2 hw2 => ?_⟩
      refine ⟨_, _, (h3.ex' e1).dp, hw2.dp, plain_words _, plain_words _, depth_words _, ?_⟩
      rw [if_neg Bool.false_ne_true, eqv_words]
      exact k H1 e1
    · rw [decide_eq_false (fun e => hpq (V.int.inj e))]
      rw [decide_eq_false hpq] at k
      walk_at "go"
      exact k H (Ex.refl _)

end
end Fp

/-! First words, lengths, tops, plain bags. -/
namespace Fp
open PySem PySem.W
/-- the first word -/
def lead (s : Bg) : Str := ((ordW (keys s)).head?).getD ""
theorem ordW_cons {ws : List Str} (h : ws ≠ []) : ∃ w r, ordW ws = w :: r := by
  cases e : ordW ws with
  | nil =>
    have := ordW_len ws
    rw [e] at this
    exact absurd (List.length_eq_zero_iff.mp this.symm) h
  | cons w r => exact ⟨w, r, rfl⟩
theorem keys_ne {s : Bg} (h : s ≠ []) : keys s ≠ [] := fun e => h (List.map_eq_nil_iff.mp e)
theorem lead_head {s : Bg} (h : s ≠ []) : (ordW (keys s)).head? = some (lead s) := by
  obtain ⟨w, r, e⟩ := ordW_cons (keys_ne h)
  unfold lead
  rw [e]
  rfl
theorem lead_mem {s : Bg} (h : s ≠ []) : lead s ∈ keys s := by
  have h1 := lead_head h
  exact (ordW_perm _).mem_iff.mp (List.mem_of_head? h1)
theorem lead_le {s : Bg} {u : Str} (hu : u ∈ keys s) : leW (lead s) u = true := by
  have h : s ≠ [] := fun e => by subst e; cases hu
  have hs := ordW_sorted (keys s)
  have hm := (ordW_perm (keys s)).mem_iff.mpr hu
  unfold lead
  cases e : ordW (keys s) with
  | nil => rw [e] at hm; cases hm
  | cons w r =>
    rw [e] at hs hm
    rcases List.mem_cons.mp hm with z | z
    · subst z; exact (leW_total.total _ _).elim id id
    · exact (List.pairwise_cons.mp hs).1 u z
theorem head_cons_ord {ws : List Str} {m : Str} (h : (ordW ws).head? = some m) : m ∈ ws ∧ ∀ w ∈ ws, leW m w = true := by
  have hs := ordW_sorted ws
  refine ⟨(ordW_perm _).mem_iff.mp (List.mem_of_head? h), fun w hw => ?_⟩
  have hm := (ordW_perm ws).mem_iff.mpr hw
  cases e : ordW ws with
  | nil => rw [e] at hm; cases hm
  | cons x r =>
    rw [e] at hs hm h
    obtain rfl : x = m := Option.some.inj h
    rcases List.mem_cons.mp hm with z | z
    · subst z; exact (leW_total.total _ _).elim id id
    · exact (List.pairwise_cons.mp hs).1 w z
theorem lead_is {s : Bg} {m : Str} (h : m ∈ keys s) (hl : ∀ u ∈ keys s, leW m u = true) : lead s = m := leW_anti (lead_le h) (hl _ (lead_mem fun e => by subst e; cases h))
theorem leW_len {a b : Str} (h : leW a b = true) : b.length ≤ a.length := by
  rw [leW_eq] at h
  rcases of_decide_eq_true h with h | h <;> omega
theorem lead_len {s : Bg} {u : Str} (hu : u ∈ keys s) : u.length ≤ (lead s).length := leW_len (lead_le hu)
theorem str_len (a : Str) : a.cps.toList.length = a.length := by
  show a.cps.toList.length = a.cps.size
  rw [Array.length_toList]
theorem le_app {a b : List Nat} {c d : List Nat} (hl : a.length = c.length) (h1 : a ≤ c) (h2 : b ≤ d) : a ++ b ≤ c ++ d := by
  induction a generalizing c with
  | nil =>
    cases c with
    | nil => exact h2
    | cons x c => cases hl
  | cons y a ih =>
    cases c with
    | nil => cases hl
    | cons x c =>
      rw [List.cons_append, List.cons_append, List.cons_le_cons_iff]
      rcases List.cons_le_cons_iff.mp h1 with h | ⟨h, h3⟩
      · exact .inl h
      · exact .inr ⟨h, ih (by simpa using hl) h3⟩
theorem leW_app {a b c d : Str} (h1 : leW a c = true) (h2 : leW b d = true) : leW (a ++ b) (c ++ d) = true := by
  rw [leW_eq] at h1 h2 ⊢
  refine decide_eq_true ?_
  have k1 := of_decide_eq_true h1
  have k2 := of_decide_eq_true h2
  rw [len_app, len_app]
  by_cases e1 : c.length < a.length
  · left
    rcases k2 with k2 | k2 <;> omega
  · by_cases e2 : d.length < b.length
    · left
      rcases k1 with k1 | k1 <;> omega
    · right
      obtain ⟨l1, m1⟩ := k1.resolve_left e1
      obtain ⟨l2, m2⟩ := k2.resolve_left e2
      refine ⟨by omega, ?_⟩
      rw [app_toList, app_toList]
      exact le_app (by rw [str_len, str_len]; exact l1) m1 m2
theorem app_inj {a b c d : Str} (hl : a.length = c.length) (h : a ++ b = c ++ d) : a = c ∧ b = d := by
  have h1 : a.cps.toList ++ b.cps.toList = c.cps.toList ++ d.cps.toList := by rw [← app_toList, ← app_toList, h]
  have h2 := List.append_inj h1 (by rw [str_len, str_len]; exact hl)
  exact ⟨str_ext h2.1, str_ext h2.2⟩
/-- the coefficient of a product at the first words -/
theorem cvS_lead {s t : Bg} (hs : (keys s).Nodup) (ht : (keys t).Nodup) {a b : Str} (ha : ∀ u ∈ keys s, u.length ≤ a.length) (hb : ∀ u ∈ keys t, u.length ≤ b.length) : cvS s t (a ++ b) = cf s a * cf t b := by
  have e : cvS s t (a ++ b) = sumL s fun x => (if x.1 = a then x.2 else 0) * sumL t fun y => if y.1 = b then y.2 else 0 := by
    unfold cvS
    refine sumL_congr fun x hx => ?_
    rw [← sumL_mul]
    refine sumL_congr fun y hy => ?_
    have hxa := ha x.1 (mem_keys.mpr ⟨x.2, hx⟩)
    have hyb := hb y.1 (mem_keys.mpr ⟨y.2, hy⟩)
    by_cases h : x.1 ++ y.1 = a ++ b
    · have hl : x.1.length = a.length := by
        have := congrArg Str.length h
        rw [len_app, len_app] at this
        omega
      obtain ⟨e1, e2⟩ := app_inj hl h
      rw [if_pos h, if_pos e1, if_pos e2]
    · rw [if_neg h]
      by_cases e1 : x.1 = a
      · by_cases e2 : y.1 = b
        · exact absurd (by rw [e1, e2]) h
        · rw [if_neg e2, Int.mul_zero]
      · rw [if_neg e1, Int.zero_mul]
  rw [e, sumL_mulr, sum_ind hs, sum_ind ht]
/-- the clocks -/
def Prm (p : Int) : Prop := p = 2 ∨ p = 3 ∨ p = 5 ∨ p = 7
theorem Prm.pos {p : Int} (h : Prm p) : 1 < p := by rcases h with rfl | rfl | rfl | rfl <;> decide
theorem rng_cases {x p : Int} (h0 : 0 < x) (h1 : x < p) (hp : p ≤ 7) : x = 1 ∨ x = 2 ∨ x = 3 ∨ x = 4 ∨ x = 5 ∨ x = 6 := by omega
theorem prm_mul {p x y : Int} (hp : Prm p) (hx : 0 < x) (hx1 : x < p) (hy : 0 < y) (hy1 : y < p) : 0 < x * y % p := by
  have h7 : p ≤ 7 := by rcases hp with rfl | rfl | rfl | rfl <;> decide
  rcases hp with rfl | rfl | rfl | rfl <;> rcases rng_cases hx hx1 h7 with rfl | rfl | rfl | rfl | rfl | rfl <;> rcases rng_cases hy hy1 h7 with rfl | rfl | rfl | rfl | rfl | rfl <;> first | decide | omega
/-- the inverse, as the program reckons it -/
def powM (p x : Int) : Nat → Int
  | 0 => 1
  | n + 1 => powM p x n * x % p
def inv (p x : Int) : Int := powM p x (p - 2).toNat
theorem inv_one {p x : Int} (hp : Prm p) (hx : 0 < x) (hx1 : x < p) : inv p x * x % p = 1 ∧ 0 < inv p x ∧ inv p x < p := by
  have h7 : p ≤ 7 := by rcases hp with rfl | rfl | rfl | rfl <;> decide
  rcases hp with rfl | rfl | rfl | rfl <;> rcases rng_cases hx hx1 h7 with rfl | rfl | rfl | rfl | rfl | rfl <;> first | decide | omega
theorem inv_uniq {p x n : Int} (hp : Prm p) (hx : 0 < x) (hx1 : x < p) (hn : 0 < n) (hn1 : n < p) (h : n * x % p = 1) : n = inv p x := by
  have h7 : p ≤ 7 := by rcases hp with rfl | rfl | rfl | rfl <;> decide
  rcases hp with rfl | rfl | rfl | rfl <;> rcases rng_cases hx hx1 h7 with rfl | rfl | rfl | rfl | rfl | rfl <;> rcases rng_cases hn hn1 h7 with rfl | rfl | rfl | rfl | rfl | rfl <;> first | rfl | omega | (revert h; decide)
theorem inv_mul {p x y : Int} (hp : Prm p) (hx : 0 < x) (hx1 : x < p) (hy : 0 < y) (hy1 : y < p) : inv p (x * y % p) % p = inv p x * inv p y % p := by
  have h7 : p ≤ 7 := by rcases hp with rfl | rfl | rfl | rfl <;> decide
  rcases hp with rfl | rfl | rfl | rfl <;> rcases rng_cases hx hx1 h7 with rfl | rfl | rfl | rfl | rfl | rfl <;> rcases rng_cases hy hy1 h7 with rfl | rfl | rfl | rfl | rfl | rfl <;> first | decide | omega
section
variable {p : Int} {s t : Bg}
theorem cf_pos_of {w : Str} (g : Good p s) (h : w ∈ keys s) : 0 < cf s w := by
  obtain ⟨n, hn⟩ := mem_keys.mp h
  rw [cf_of_mem g.nd hn]
  exact g.lo _ hn
theorem cf_lt_of {w : Str} (hp : 0 < p) (g : Good p s) : cf s w < p := cf_lt hp g w
theorem prod_lead (hp : Prm p) (gs : Good p s) (gt : Good p t) (hs : s ≠ []) (ht : t ≠ []) : lead s ++ lead t ∈ keys (prodS p s t) ∧ lead (prodS p s t) = lead s ++ lead t ∧ cf (prodS p s t) (lead s ++ lead t) = cf s (lead s) * cf t (lead t) % p := by
  have hp0 : 0 < p := by have := hp.pos; omega
  have e1 : cf (prodS p s t) (lead s ++ lead t) = cf s (lead s) * cf t (lead t) % p := by
    rw [cf_prod hp0, cvS_lead gs.nd gt.nd (fun u hu => lead_len hu) (fun u hu => lead_len hu)]
  have hm : lead s ++ lead t ∈ keys (prodS p s t) := by
    rw [cf_ne (Good.prod hp0 s t), e1]
    have := prm_mul hp (cf_pos_of gs (lead_mem hs)) (cf_lt_of hp0 gs) (cf_pos_of gt (lead_mem ht)) (cf_lt_of hp0 gt)
    exact (Int.ne_of_lt this).symm
  refine ⟨hm, lead_is hm fun u hu => ?_, e1⟩
  obtain ⟨a, ha, b, hb, rfl⟩ := keys_prod hu
  exact leW_app (lead_le ha) (lead_le hb)
theorem prod_ne (hp : Prm p) (gs : Good p s) (gt : Good p t) (hs : s ≠ []) (ht : t ≠ []) : prodS p s t ≠ [] := fun e => by
  have := (prod_lead hp gs gt hs ht).1
  rw [e] at this
  cases this
/-! ### words of one length -/
def sizedS (s : Bg) (n : Int) : Bg := s.filter fun kv => decide ((kv.1.length : Int) = n)
/-- the length -/
def sizeS (s : Bg) : Int := if s = [] then -1 else (lead s).length
theorem Good.sized (g : Good p s) (n : Int) : Good p (sizedS s n) := ⟨by
    unfold sizedS keys
    exact (List.filter_sublist.map _).nodup g.nd, fun kv h => g.lo kv (List.mem_filter.mp h).1, fun kv h => g.hi kv (List.mem_filter.mp h).1⟩
theorem sumL_filter {α : Type} (l : List α) (q : α → Bool) (f : α → Int) : sumL (l.filter q) f = sumL l fun a => if q a = true then f a else 0 := by
  induction l with
  | nil => rfl
  | cons a l ih =>
    rw [List.filter_cons, sumL_cons]
    by_cases h : q a = true
    · rw [if_pos h, if_pos h, sumL_cons, ih]
    · rw [if_neg h, if_neg h, ih, Int.zero_add]
theorem cf_sized (hn : (keys s).Nodup) (n : Int) (w : Str) : cf (sizedS s n) w = if (w.length : Int) = n then cf s w else 0 := by
  have hn2 : (keys (sizedS s n)).Nodup := by
    unfold sizedS keys
    exact (List.filter_sublist.map _).nodup hn
  rw [← sum_ind hn2 w]
  unfold sizedS
  rw [sumL_filter]
  by_cases h : (w.length : Int) = n
  · rw [if_pos h, ← sum_ind hn w]
    refine sumL_congr fun a ha => ?_
    by_cases e : a.1 = w
    · rw [if_pos e, e, if_pos (decide_eq_true h)]
    · rw [if_neg e, ite_self]
  · rw [if_neg h]
    refine sumL_zero fun a ha => ?_
    by_cases e : a.1 = w
    · rw [e, if_neg (by rw [decide_eq_false h]; exact Bool.false_ne_true)]
    · rw [if_neg e, ite_self]
theorem top_prod (hp : Prm p) (gs : Good p s) (gt : Good p t) (hs : s ≠ []) (ht : t ≠ []) : Eqv (sizedS (prodS p s t) (sizeS (prodS p s t))) (prodS p (sizedS s (sizeS s)) (sizedS t (sizeS t))) := fun l => by
  have hp0 : 0 < p := by have := hp.pos; omega
  obtain ⟨_, e1, _⟩ := prod_lead hp gs gt hs ht
  unfold cl
  rw [cf_sized (Good.prod hp0 s t).nd, cf_prod hp0, cf_prod hp0]
  unfold sizeS
  rw [if_neg hs, if_neg ht, if_neg (prod_ne hp gs gt hs ht), e1, len_app]
  have e : cvS (sizedS s (lead s).length) (sizedS t (lead t).length) (ofL l) = if ((ofL l).length : Int) = ((lead s).length + (lead t).length : Nat) then cvS s t (ofL l) else 0 := by
    unfold cvS sizedS
    rw [sumL_filter]
    have e2 : ∀ x ∈ s, (if decide ((x.1.length : Int) = (lead s).length) = true then sumL (t.filter fun kv => decide ((kv.1.length : Int) = (lead t).length)) (fun b => if x.1 ++ b.1 = ofL l then x.2 * b.2 else 0) else 0) =
        if ((ofL l).length : Int) = ((lead s).length + (lead t).length : Nat) then sumL t (fun b => if x.1 ++ b.1 = ofL l then x.2 * b.2 else 0) else 0 := by
      intro x hx
      have hxl := lead_len (mem_keys.mpr ⟨x.2, hx⟩)
      rw [sumL_filter]
      by_cases h : ((ofL l).length : Int) = ((lead s).length + (lead t).length : Nat)
      · rw [if_pos h]
        by_cases h2 : (x.1.length : Int) = (lead s).length
        · rw [if_pos (decide_eq_true h2)]
          refine sumL_congr fun y hy => ?_
          by_cases h3 : x.1 ++ y.1 = ofL l
          · have h4 := congrArg Str.length h3
            rw [len_app] at h4
            rw [if_pos (decide_eq_true (by omega))]
          · rw [if_neg h3, ite_self]
        · rw [if_neg (by rw [decide_eq_false h2]; exact Bool.false_ne_true)]
          refine (sumL_zero fun y hy => ?_).symm
          have hyl := lead_len (mem_keys.mpr ⟨y.2, hy⟩)
          refine if_neg fun h3 => ?_
          have h4 := congrArg Str.length h3
          rw [len_app] at h4
          omega
      · rw [if_neg h]
        by_cases h2 : (x.1.length : Int) = (lead s).length
        · rw [if_pos (decide_eq_true h2)]
          refine sumL_zero fun y hy => ?_
          by_cases h3 : x.1 ++ y.1 = ofL l
          · have h4 := congrArg Str.length h3
            rw [len_app] at h4
            rw [if_neg]
            intro h5
            have := of_decide_eq_true h5
            omega
          · rw [if_neg h3, ite_self]
        · rw [if_neg (by rw [decide_eq_false h2]; exact Bool.false_ne_true)]
    rw [sumL_congr e2]
    by_cases h : ((ofL l).length : Int) = ((lead s).length + (lead t).length : Nat)
    · simp only [if_pos h]
    · simp only [if_neg h]
      exact sumL_zero fun _ _ => rfl
  rw [e]
  split
  · rfl
  · exact (Int.zero_emod p).symm
/-! ### plain bags -/
def plainS (p : Int) (s : Bg) : Bg := plusS p [] s (inv p (cf s (lead s)))
theorem cf_plain (hp : 0 < p) (hn : (keys s).Nodup) (w : Str) : cf (plainS p s) w = inv p (cf s (lead s)) * cf s w % p := by
  unfold plainS
  rw [cf_plus hp Good.nil hn, cf_nil, Int.zero_add]
theorem plain_prod (hp : Prm p) (gs : Good p s) (gt : Good p t) (hs : s ≠ []) (ht : t ≠ []) : Eqv (plainS p (prodS p s t)) (prodS p (plainS p s) (plainS p t)) := fun l => by
  have hp0 : 0 < p := by have := hp.pos; omega
  obtain ⟨_, e1, e2⟩ := prod_lead hp gs gt hs ht
  have gps : Good p (plainS p s) := Good.plus hp0 Good.nil s
  have gpt : Good p (plainS p t) := Good.plus hp0 Good.nil t
  have h1 : cl (plainS p (prodS p s t)) l = inv p (cf s (lead s) * cf t (lead t) % p) * cl (prodS p s t) l % p := by
    unfold cl
    rw [cf_plain hp0 (Good.prod hp0 s t).nd, e1, e2]
  rw [h1, cl_prod hp0 gs.nd gt.nd, cl_prod hp0 gps.nd gpt.nd]
  have h2 : conv (cl (plainS p s)) (cl (plainS p t)) l % p = conv (fun v => inv p (cf s (lead s)) * cl s v) (fun v => inv p (cf t (lead t)) * cl t v) l % p := conv_mod (fun v => by
      unfold cl
      rw [cf_plain hp0 gs.nd, Int.emod_emod_of_dvd _ (Int.dvd_refl p)]) (fun v => by
      unfold cl
      rw [cf_plain hp0 gt.nd, Int.emod_emod_of_dvd _ (Int.dvd_refl p)]) l
  rw [h2, conv_mull, conv_mulr, ← Int.mul_assoc]
  have h3 := inv_mul hp (cf_pos_of gs (lead_mem hs)) (cf_lt_of hp0 gs) (cf_pos_of gt (lead_mem ht)) (cf_lt_of hp0 gt)
  rw [Int.mul_emod, h3, Int.emod_emod_of_dvd _ (Int.dvd_refl p), ← Int.mul_emod]
end
end Fp

/-! Dividing: what stands behind a front. -/
namespace Fp
open PySem PySem.W
/-! ### a bag with a word behind it -/
def withB (F : Bg) (t : Str) : Bg := F.map fun kv => (kv.1 ++ t, kv.2)
theorem app_cancel {a b t : Str} (h : a ++ t = b ++ t) : a = b := by
  have h1 : a.cps.toList ++ t.cps.toList = b.cps.toList ++ t.cps.toList := by rw [← app_toList, ← app_toList, h]
  exact str_ext (List.append_cancel_right h1)
theorem app_cancel_l {a b t : Str} (h : t ++ a = t ++ b) : a = b := by
  have h1 : t.cps.toList ++ a.cps.toList = t.cps.toList ++ b.cps.toList := by rw [← app_toList, ← app_toList, h]
  exact str_ext (List.append_cancel_left h1)
theorem withB_keys (F : Bg) (t : Str) : keys (withB F t) = (keys F).map fun u => u ++ t := by
  unfold withB keys
  rw [List.map_map, List.map_map]
  rfl
theorem withB_nodup {F : Bg} {t : Str} (h : (keys F).Nodup) : (keys (withB F t)).Nodup := by
  rw [withB_keys]
  exact List.Pairwise.map _ (fun a b q e => q (app_cancel e)) h
theorem withB_one {p : Int} {F : Bg} (t : Str) (hp : 0 < p) (g : Good p F) : (F.map fun kv => (kv.1 ++ t, kv.2 * 1 % p)) = withB F t := by
  unfold withB
  refine List.map_congr_left fun kv h => ?_
  have h1 := g.lo kv h
  have h2 := g.hi kv h
  rw [Int.mul_one, Int.emod_eq_of_lt (by omega) h2]
theorem addTo_new {p : Int} {s : Bg} {w : Str} {n : Int} (h : w ∉ keys s) (h0 : 0 < n) (h1 : n < p) : addTo p s w n = s ++ [(w, n)] := by
  unfold addTo
  have e : cf s w = 0 := cf_not_mem h
  have e2 : (cf s w + n) % p = n := by rw [e, Int.zero_add, Int.emod_eq_of_lt (by omega) h1]
  rw [e2, if_neg (by omega)]
  unfold putS
  rw [if_neg]
  intro z
  rw [List.any_eq_true] at z
  obtain ⟨kv, q1, q2⟩ := z
  exact h (mem_keys.mpr ⟨kv.2, by rw [← of_decide_eq_true q2]; exact q1⟩)
theorem fold_new {p : Int} {t : Str} : ∀ (l acc : Bg), (keys l).Nodup → (∀ kv ∈ l, 0 < kv.2 ∧ kv.2 < p) → (∀ u ∈ keys l, u ++ t ∉ keys acc) → l.foldl (fun acc a => prodRow p acc a [(t, 1)]) acc = acc ++ withB l t
  | [], acc, _, _, _ => (List.append_nil acc).symm
  | a :: l, acc, hn, hv, hd => by
    have hn2 := List.nodup_cons.mp (show (a.1 :: keys l).Nodup from hn)
    have ha := hv a List.mem_cons_self
    have e1 : prodRow p acc a [(t, 1)] = acc ++ [(a.1 ++ t, a.2)] := by
      show addTo p acc (a.1 ++ t) (a.2 * 1) = _
      rw [Int.mul_one]
      exact addTo_new (hd a.1 (show a.1 ∈ a.1 :: keys l from List.mem_cons_self)) ha.1 ha.2
    rw [List.foldl_cons, e1, fold_new l _ hn2.2 (fun kv h => hv kv (List.mem_cons_of_mem _ h)) (fun u hu hm => ?_), List.append_assoc]
    · rfl
    · unfold keys at hm
      rw [List.map_append, List.mem_append] at hm
      rcases hm with hm | hm
      · exact hd u (show u ∈ a.1 :: keys l from List.mem_cons_of_mem _ hu) hm
      · have e := List.mem_singleton.mp hm
        have e2 := app_cancel e
        rw [e2] at hu
        exact hn2.1 hu
theorem prod_word {p : Int} {F : Bg} (t : Str) (g : Good p F) : prodS p F [(t, 1)] = withB F t := by
  unfold prodS
  rw [fold_new F [] g.nd (fun kv h => ⟨g.lo kv h, g.hi kv h⟩) (fun _ _ h => nomatch h)]
  rfl
theorem withB_good {p : Int} {F : Bg} {t : Str} (g : Good p F) : Good p (withB F t) := ⟨withB_nodup g.nd, fun kv h => by
    obtain ⟨q, hq, rfl⟩ := List.mem_map.mp h
    exact g.lo q hq, fun kv h => by
    obtain ⟨q, hq, rfl⟩ := List.mem_map.mp h
    exact g.hi q hq⟩
theorem cf_withB {F : Bg} {t u : Str} (hn : (keys F).Nodup) : cf (withB F t) (u ++ t) = cf F u := by
  by_cases h : u ∈ keys F
  · obtain ⟨n, hm⟩ := mem_keys.mp h
    rw [cf_of_mem hn hm, cf_of_mem (withB_nodup hn) (n := n) (List.mem_map.mpr ⟨(u, n), hm, rfl⟩)]
  · rw [cf_not_mem h, cf_not_mem]
    rw [withB_keys]
    intro z
    obtain ⟨v, hv, e⟩ := List.mem_map.mp z
    exact h (by rw [← app_cancel e]; exact hv)
theorem withB_len (F : Bg) (t : Str) : (withB F t).length = F.length := List.length_map _
/-! ### numbers -/
theorem step_zero {p l x : Int} (hp : Prm p) (hl : 0 < l) (hl1 : l < p) (hx : 0 < x) (hx1 : x < p) : (l + (-(l * inv p x % p)) * x) % p = 0 ∧ 0 < l * inv p x % p ∧ l * inv p x % p < p := by
  have h7 : p ≤ 7 := by rcases hp with rfl | rfl | rfl | rfl <;> decide
  rcases hp with rfl | rfl | rfl | rfl <;> rcases rng_cases hl hl1 h7 with rfl | rfl | rfl | rfl | rfl | rfl <;> rcases rng_cases hx hx1 h7 with rfl | rfl | rfl | rfl | rfl | rfl <;> first | decide | omega
theorem step_only {p l x k : Int} (hp : Prm p) (hl : 0 < l) (hl1 : l < p) (hx : 0 < x) (hx1 : x < p) (hk : 0 < k) (hk1 : k < p) : (k * x - l) % p = 0 ↔ k = l * inv p x % p := by
  have h7 : p ≤ 7 := by rcases hp with rfl | rfl | rfl | rfl <;> decide
  rcases hp with rfl | rfl | rfl | rfl <;> rcases rng_cases hl hl1 h7 with rfl | rfl | rfl | rfl | rfl | rfl <;> rcases rng_cases hx hx1 h7 with rfl | rfl | rfl | rfl | rfl | rfl <;> rcases rng_cases hk hk1 h7 with rfl | rfl | rfl | rfl | rfl | rfl <;> first | decide | omega
theorem step_back {p c x : Int} (hp : Prm p) (hc : 0 < c) (hc1 : c < p) (hx : 0 < x) (hx1 : x < p) : (x * c % p) * inv p x % p = c := by
  have h7 : p ≤ 7 := by rcases hp with rfl | rfl | rfl | rfl <;> decide
  rcases hp with rfl | rfl | rfl | rfl <;> rcases rng_cases hc hc1 h7 with rfl | rfl | rfl | rfl | rfl | rfl <;> rcases rng_cases hx hx1 h7 with rfl | rfl | rfl | rfl | rfl | rfl <;> first | decide | omega
/-! ### the words of so many letters x, y, z -/
def allL : Nat → List (List Nat)
  | 0 => [[]]
  | n + 1 => [] :: ((allL n).map (120 :: ·) ++ ((allL n).map (121 :: ·) ++ (allL n).map (122 :: ·)))
def lenU : Nat → Nat
  | 0 => 1
  | n + 1 => 1 + (lenU n + (lenU n + lenU n))
theorem allL_len : ∀ n, (allL n).length = lenU n
  | 0 => rfl
  | n + 1 => by
    unfold allL lenU
    rw [List.length_cons, List.length_append, List.length_append, List.length_map, List.length_map, List.length_map, allL_len n]
    omega
def Ltr (l : List Nat) : Prop := ∀ c ∈ l, c = 120 ∨ c = 121 ∨ c = 122
theorem mem_allL : ∀ (n : Nat) (l : List Nat), l.length ≤ n → Ltr l → l ∈ allL n
  | 0, [], _, _ => List.mem_singleton.mpr rfl
  | 0, c :: l, h, _ => absurd h (by simp)
  | n + 1, [], _, _ => List.mem_cons_self
  | n + 1, c :: l, h, hl => by
    have ih := mem_allL n l (by simp at h; omega) fun d hd => hl d (List.mem_cons_of_mem _ hd)
    unfold allL
    refine List.mem_cons_of_mem _ ?_
    rcases hl c List.mem_cons_self with rfl | rfl | rfl
    · exact List.mem_append_left _ (List.mem_map.mpr ⟨l, ih, rfl⟩)
    · exact List.mem_append_right _ (List.mem_append_left _ (List.mem_map.mpr ⟨l, ih, rfl⟩))
    · exact List.mem_append_right _ (List.mem_append_right _ (List.mem_map.mpr ⟨l, ih, rfl⟩))
def allW (n : Nat) : List Str := (allL n).map ofL
/-- words of at most so many letters -/
def Bd (n : Nat) (s : Bg) : Prop := ∀ u ∈ keys s, u.length ≤ n ∧ Ltr u.cps.toList
theorem mem_allW {n : Nat} {w : Str} (h : w.length ≤ n) (hl : Ltr w.cps.toList) : w ∈ allW n :=
  List.mem_map.mpr ⟨w.cps.toList, mem_allL n _ (by rw [str_len]; exact h) hl, ofL_toList w⟩
theorem len_sub {α : Type} [DecidableEq α] : ∀ {l m : List α}, l.Nodup → (∀ x ∈ l, x ∈ m) → l.length ≤ m.length
  | [], _, _, _ => Nat.zero_le _
  | a :: l, m, hn, hs => by
    have hn2 := List.nodup_cons.mp hn
    have ha := hs a List.mem_cons_self
    have h1 := len_sub (l := l) (m := m.erase a) hn2.2 fun x hx => by
      have hne : x ≠ a := fun e => by subst e; exact hn2.1 hx
      exact (List.mem_erase_of_ne hne).mpr (hs x (List.mem_cons_of_mem _ hx))
    rw [List.length_erase_of_mem ha] at h1
    have := List.length_pos_of_mem ha
    rw [List.length_cons]
    omega
theorem Bd.len {n : Nat} {s : Bg} (hn : (keys s).Nodup) (h : Bd n s) : s.length ≤ lenU n := by
  have h1 := len_sub hn (m := allW n) fun u hu => mem_allW (h u hu).1 (h u hu).2
  unfold allW at h1
  rw [List.length_map, allL_len] at h1
  unfold keys at h1
  rw [List.length_map] at h1
  exact h1
theorem filter_le {α : Type} {p q : α → Bool} (h : ∀ x, q x = true → p x = true) : ∀ l : List α, (l.filter q).length ≤ (l.filter p).length
  | [] => Nat.le_refl _
  | a :: l => by
    have ih := filter_le h l
    rw [List.filter_cons, List.filter_cons]
    cases hq : q a with
    | true => rw [h a hq, if_pos rfl, if_pos rfl, List.length_cons, List.length_cons]; omega
    | false =>
      rw [if_neg Bool.false_ne_true]
      split
      · rw [List.length_cons]; omega
      · exact ih
theorem filter_lt {α : Type} {p q : α → Bool} (h : ∀ x, q x = true → p x = true) {a : α} (hp : p a = true) (hq : q a = false) : ∀ l : List α, a ∈ l → (l.filter q).length < (l.filter p).length
  | [], hm => nomatch hm
  | b :: l, hm => by
    have ih2 := filter_le h l
    rw [List.filter_cons, List.filter_cons]
    rcases List.mem_cons.mp hm with e | hm2
    · subst e
      rw [hp, hq, if_neg Bool.false_ne_true, if_pos rfl, List.length_cons]
      omega
    · have ih := filter_lt h hp hq l hm2
      cases hqb : q b with
      | true => rw [h b hqb, if_pos rfl, if_pos rfl, List.length_cons, List.length_cons]; omega
      | false =>
        rw [if_neg Bool.false_ne_true]
        split
        · rw [List.length_cons]; omega
        · exact ih
/-- how many words are not ahead of the first word -/
def mu (n : Nat) (L : Bg) : Nat := if L = [] then 0 else ((allW n).filter fun u => leW (lead L) u).length
theorem leW_refl (a : Str) : leW a a = true := (leW_total.total _ _).elim id id
theorem mu_lt {n : Nat} {L L' : Bg} (hL : L ≠ []) (hb : Bd n L) (h : L' ≠ [] → leW (lead L) (lead L') = true ∧ lead L ≠ lead L') : mu n L' < mu n L := by
  have hm := hb _ (lead_mem hL)
  have hin := mem_allW hm.1 hm.2
  unfold mu
  rw [if_neg hL]
  by_cases e : L' = []
  · rw [if_pos e]
    exact List.length_pos_of_mem (List.mem_filter.mpr ⟨hin, leW_refl _⟩)
  · rw [if_neg e]
    obtain ⟨h1, h2⟩ := h e
    refine filter_lt (p := fun u => leW (lead L) u) (q := fun u => leW (lead L') u) (fun u hu => leW_total.trans _ _ _ h1 hu) (a := lead L) (leW_refl _) ?_ _ hin
    show leW (lead L') (lead L) = false
    cases q : leW (lead L') (lead L) with
    | false => rfl
    | true => exact absurd (leW_anti h1 q) h2
/-! ### dividing -/
def divK (p : Int) (F L : Bg) : Int := cf L (lead L) * inv p (cf F (lead F)) % p
def divL (p : Int) (F L : Bg) (t : Str) : Bg := plusS p L (withB F t) (-(divK p F L))
inductive DivR (p : Int) (F : Bg) : Bg → Bg → Option Bg → Prop
  | done {f : Bg} : DivR p F [] f (some f)
  | stop {L f : Bg} : L ≠ [] → (¬ ∃ t, lead L = lead F ++ t) → DivR p F L f none
  | step {L f : Bg} {r : Option Bg} {t : Str} : L ≠ [] → lead L = lead F ++ t → DivR p F (divL p F L t) (putS f t (divK p F L)) r → DivR p F L f r
section
variable {p : Int} {F L : Bg} {t : Str}
theorem divK_bd (hp : Prm p) (gF : Good p F) (gL : Good p L) (hF : F ≠ []) (hL : L ≠ []) : 0 < divK p F L ∧ divK p F L < p := by
  have hp0 : 0 < p := by have := hp.pos; omega
  exact (step_zero hp (cf_pos_of gL (lead_mem hL)) (cf_lt_of hp0 gL) (cf_pos_of gF (lead_mem hF)) (cf_lt_of hp0 gF)).2
theorem divL_good (hp : Prm p) (gL : Good p L) : Good p (divL p F L t) := Good.plus (by have := hp.pos; omega) gL _
theorem divL_keys {u : Str} (h : u ∈ keys (divL p F L t)) : u ∈ keys L ∨ ∃ v ∈ keys F, u = v ++ t := by
  rcases keys_plus h with h | h
  · exact .inl h
  · rw [withB_keys] at h
    obtain ⟨v, hv, rfl⟩ := List.mem_map.mp h
    exact .inr ⟨v, hv, rfl⟩
theorem divL_bd {n : Nat} (hF : Bd n F) (hL : Bd n L) (hne : L ≠ []) (ht : lead L = lead F ++ t) : Bd n (divL p F L t) := fun u hu => by
  rcases divL_keys hu with h | ⟨v, hv, rfl⟩
  · exact hL u h
  · have h1 := hL _ (lead_mem hne)
    have h2 := lead_len hv
    rw [ht, len_app, app_toList] at h1
    rw [len_app, app_toList]
    refine ⟨by omega, fun c hc => ?_⟩
    rcases List.mem_append.mp hc with hc | hc
    · exact (hF v hv).2 c hc
    · exact h1.2 c (List.mem_append_right _ hc)
theorem divL_lead (hp : Prm p) (gF : Good p F) (gL : Good p L) (hF : F ≠ []) (hne : L ≠ []) (ht : lead L = lead F ++ t) : divL p F L t ≠ [] → leW (lead L) (lead (divL p F L t)) = true ∧ lead L ≠ lead (divL p F L t) := fun h => by
  have hp0 : 0 < p := by have := hp.pos; omega
  have hm := lead_mem h
  refine ⟨?_, fun e => ?_⟩
  · rcases divL_keys hm with q | ⟨v, hv, q⟩
    · exact lead_le q
    · rw [q, ht]
      exact leW_app (lead_le hv) (leW_refl _)
  · rw [← e, cf_ne (divL_good hp gL)] at hm
    refine hm ?_
    unfold divL
    rw [cf_plus hp0 gL (withB_nodup gF.nd)]
    have e2 : cf (withB F t) (lead L) = cf F (lead F) := by rw [ht]; exact cf_withB gF.nd
    rw [e2]
    exact (step_zero hp (cf_pos_of gL (lead_mem hne)) (cf_lt_of hp0 gL) (cf_pos_of gF (lead_mem hF)) (cf_lt_of hp0 gF)).1
theorem divL_mu {n : Nat} (hp : Prm p) (gF : Good p F) (gL : Good p L) (hF : F ≠ []) (hne : L ≠ []) (hb : Bd n L) (ht : lead L = lead F ++ t) : mu n (divL p F L t) < mu n L := mu_lt hne hb (divL_lead hp gF gL hF hne ht)
theorem DivR.det {f : Bg} {r r' : Option Bg} (h : DivR p F L f r) (h' : DivR p F L f r') : r = r' := by
  induction h with
  | done => cases h' with
    | done => rfl
    | stop q _ => exact absurd rfl q
    | step q _ _ => exact absurd rfl q
  | stop q1 q2 => cases h' with
    | done => exact absurd rfl q1
    | stop _ _ => rfl
    | step _ q3 _ => exact absurd ⟨_, q3⟩ q2
  | step q1 q2 _ ih => cases h' with
    | done => exact absurd rfl q1
    | stop _ q3 => exact absurd ⟨_, q2⟩ q3
    | step _ q3 q4 =>
      have e := app_cancel_l (q2.symm.trans q3)
      subst e
      exact ih q4
theorem eqv_nil {s : Bg} (g : Good p s) (h : Eqv s []) : s = [] := by
  cases s with
  | nil => rfl
  | cons q r =>
    have h1 := h q.1.cps.toList
    have hm : q.1 ∈ keys (q :: r) := List.mem_cons_self
    rw [cf_ne g] at hm
    unfold cl at h1
    rw [ofL_toList] at h1
    exact absurd h1 hm
theorem eqv_cf {s t : Bg} (h : Eqv s t) (w : Str) : cf s w = cf t w := by
  have := h w.cps.toList
  unfold cl at this
  rwa [ofL_toList] at this
theorem eqv_lead {s t : Bg} (gs : Good p s) (gt : Good p t) (h : Eqv s t) : lead s = lead t := by
  unfold lead
  rw [ordW_congr (keys_perm gs gt (eqv_cf h))]
theorem DivR.congr {f : Bg} {r : Option Bg} (hp : Prm p) (gF : Good p F) (h : DivR p F L f r) : ∀ {M : Bg}, Good p L → Good p M → Eqv L M → DivR p F M f r := by
  have hp0 : 0 < p := by have := hp.pos; omega
  induction h with
  | done =>
    intro M gL gM e
    rw [eqv_nil gM e.symm]
    exact .done
  | stop q1 q2 =>
    intro M gL gM e
    exact .stop (fun z => q1 (by subst z; exact eqv_nil gL e)) (by rw [← eqv_lead gL gM e]; exact q2)
  | @step L f r t q1 q2 _ ih =>
    intro M gL gM e
    have el := eqv_lead gL gM e
    have ek : divK p F M = divK p F L := by unfold divK; rw [← el, eqv_cf e]
    refine .step (t := t) (fun z => q1 (by subst z; exact eqv_nil gL e)) (by rw [← el]; exact q2) ?_
    rw [ek]
    refine ih (divL_good hp gL) (divL_good hp gM) ?_
    unfold divL
    rw [ek]
    exact plus_congr hp0 gL (withB_nodup gF.nd) gM (withB_nodup gF.nd) _ e (Eqv.refl _)
/-- of a product: the second bag is found -/
theorem DivR.planted {f : Bg} {r : Option Bg} (hp : Prm p) (gF : Good p F) (hF : F ≠ []) (h : DivR p F L f r) : ∀ {R : Bg}, Good p L → Good p R → Good p f → Eqv L (prodS p F R) → (∀ u ∈ keys R, u ∉ keys f) → ∃ f', r = some f' ∧ Good p f' ∧ ∀ w, cf f' w = cf f w + cf R w := by
  have hp0 : 0 < p := by have := hp.pos; omega
  induction h with
  | @done f =>
    intro R gL gR gf e hd
    have hR : R = [] := by
      by_cases h : R = []
      · exact h
      · have := prod_ne hp gF gR hF h
        exact absurd (eqv_nil (Good.prod hp0 F R) e.symm) this
    subst hR
    exact ⟨f, rfl, gf, fun w => by rw [cf_nil, Int.add_zero]⟩
  | stop q1 q2 =>
    intro R gL gR gf e hd
    have hR : R ≠ [] := fun z => by
      subst z
      rw [prod_nil] at e
      exact q1 (eqv_nil gL e)
    obtain ⟨_, e1, _⟩ := prod_lead hp gF gR hF hR
    exact absurd ⟨lead R, by rw [eqv_lead gL (Good.prod hp0 F R) e, e1]⟩ q2
  | @step L f r t q1 q2 _ ih =>
    intro R gL gR gf e hd
    have hR : R ≠ [] := fun z => by
      subst z
      rw [prod_nil] at e
      exact q1 (eqv_nil gL e)
    obtain ⟨_, e1, e2⟩ := prod_lead hp gF gR hF hR
    have el : lead L = lead F ++ lead R := by rw [eqv_lead gL (Good.prod hp0 F R) e, e1]
    obtain rfl : t = lead R := app_cancel_l (q2.symm.trans el)
    have ek : divK p F L = cf R (lead R) := by
      unfold divK
      rw [el, eqv_cf e, e2]
      exact step_back hp (cf_pos_of gR (lead_mem hR)) (cf_lt_of hp0 gR) (cf_pos_of gF (lead_mem hF)) (cf_lt_of hp0 gF)
    have hk := divK_bd hp gF gL hF q1
    have gw : Good p [(lead R, (1 : Int))] := ⟨by unfold keys; simp, fun kv h => by rw [List.mem_singleton.mp h]; exact (by decide : (0 : Int) < 1), fun kv h => by rw [List.mem_singleton.mp h]; exact hp.pos⟩
    have hcf : ∀ w, cf (plusS p R [(lead R, 1)] (-(divK p F L))) w = if w = lead R then 0 else cf R w := fun w => by
      rw [cf_plus hp0 gR gw.nd]
      by_cases h : w = lead R
      · subst h
        rw [if_pos rfl, cf_pos rfl, ek, Int.mul_one, Int.add_right_neg]
        exact Int.zero_emod p
      · rw [if_neg h, cf_neg (fun z => h z.symm), cf_nil, Int.mul_zero, Int.add_zero]
        exact cf_mod hp0 gR w
    have hdis : ∀ u ∈ keys (plusS p R [(lead R, 1)] (-(divK p F L))), u ∉ keys (putS f (lead R) (divK p F L)) := fun u hu hm => by
      have hne : u ≠ lead R := fun z => by
        subst z
        rw [cf_ne (Good.plus hp0 gR _), hcf] at hu
        exact hu (if_pos rfl)
      have hu2 : u ∈ keys R := by
        rw [cf_ne (Good.plus hp0 gR _), hcf, if_neg hne] at hu
        exact (cf_ne gR).mpr hu
      rw [keys_put] at hm
      split at hm
      · exact hd u hu2 hm
      · rcases List.mem_append.mp hm with hm | hm
        · exact hd u hu2 hm
        · exact hne (List.mem_singleton.mp hm)
    obtain ⟨f', h1, h2, h3⟩ := ih (R := plusS p R [(lead R, 1)] (-(divK p F L))) (divL_good hp gL) (Good.plus hp0 gR _) (gf.put hk.1 hk.2) (by
      unfold divL
      refine (plus_congr hp0 gL (withB_nodup gF.nd) (Good.prod hp0 F R) (Good.prod hp0 F _).nd _ e ?_).trans (distrib_r hp0 gF gR gw _).symm
      rw [prod_word (lead R) gF]
      exact Eqv.refl _) hdis
    · refine ⟨f', h1, h2, fun w => ?_⟩
      rw [h3 w, cf_put, hcf w]
      by_cases h : w = lead R
      · subst h
        rw [if_pos rfl, if_pos rfl, ek, cf_not_mem (hd _ (lead_mem hR))]
        omega
      · rw [if_neg h, if_neg h]
end
end Fp

/-! Dividing: what it tells is a rest; how big things get; bags told backward. -/
namespace Fp
open PySem PySem.W
section
variable {p : Int} {F L : Bg} {t : Str}
theorem word_good {t : Str} (hp : 1 < p) : Good p [(t, (1 : Int))] := ⟨by unfold keys; simp, fun kv h => by rw [List.mem_singleton.mp h]; exact (by decide : (0 : Int) < 1), fun kv h => by rw [List.mem_singleton.mp h]; exact hp⟩
theorem eqv_len {s u : Bg} (gs : Good p s) (gu : Good p u) (h : Eqv s u) : s.length = u.length := by
  have := (keys_perm gs gu (eqv_cf h)).length_eq
  unfold keys at this
  rwa [List.length_map, List.length_map] at this
theorem eqv_of_cf {s u : Bg} (h : ∀ w, cf s w = cf u w) : Eqv s u := fun l => h _
/-- what dividing tells is a rest -/
theorem DivR.sound {f : Bg} {r : Option Bg} (hp : Prm p) (gF : Good p F) (hF : F ≠ []) (h : DivR p F L f r) : ∀ {g : Bg}, r = some g → Good p L → Good p f → (∀ u ∈ keys f, L ≠ [] → leW (lead F ++ u) (lead L) = true ∧ lead F ++ u ≠ lead L) → Good p g ∧ Eqv (plusS p L (prodS p F f) 1) (prodS p F g) := by
  have hp0 : 0 < p := by have := hp.pos; omega
  induction h with
  | @done f =>
    intro g e gL gf hd
    obtain rfl := Option.some.inj e
    refine ⟨gf, fun l => ?_⟩
    rw [cl_plus hp0 Good.nil (Good.prod hp0 F f).nd]
    have : cl [] l = 0 := rfl
    rw [this, Int.zero_add, Int.one_mul]
    exact cl_mod hp0 (Good.prod hp0 F f) l
  | stop q1 q2 => intro g e; cases e
  | @step L f r t q1 q2 _ ih =>
    intro g e gL gf hd
    have hk := divK_bd hp gF gL hF q1
    have hl := divL_lead hp gF gL hF q1 q2
    have ht : t ∉ keys f := fun z => (hd t z q1).2 q2.symm
    have gf' := gf.put (w := t) hk.1 hk.2
    obtain ⟨gg, e2⟩ := ih e (divL_good hp gL) gf' (fun u hu hne => by
      obtain ⟨l1, l2⟩ := hl hne
      have hu' : u ∈ keys f ∨ u = t := by
        rw [keys_put] at hu
        split at hu
        · exact .inl hu
        · rcases List.mem_append.mp hu with z | z
          · exact .inl z
          · exact .inr (List.mem_singleton.mp z)
      rcases hu' with z | z
      · obtain ⟨m1, m2⟩ := hd u z q1
        refine ⟨leW_total.trans _ _ _ m1 l1, fun e => m2 (leW_anti m1 ?_)⟩
        rw [e]
        exact l1
      · rw [z, ← q2]
        exact ⟨l1, l2⟩)
    refine ⟨gg, Eqv.trans (fun l => ?_) e2⟩
    have gt : Good p [(t, (1 : Int))] := word_good hp.pos
    have ef : Eqv (putS f t (divK p F L)) (plusS p f [(t, 1)] (divK p F L)) := eqv_of_cf fun w => by
      rw [cf_put, cf_plus hp0 gf gt.nd]
      by_cases h : w = t
      · subst h
        rw [if_pos rfl, cf_not_mem ht, cf_pos rfl, Int.zero_add, Int.mul_one, Int.emod_eq_of_lt (by omega) hk.2]
      · rw [if_neg h, cf_neg (fun z => h z.symm), cf_nil, Int.mul_zero, Int.add_zero]
        exact (cf_mod hp0 gf w).symm
    have e3 : Eqv (prodS p F (putS f t (divK p F L))) (plusS p (prodS p F f) (withB F t) (divK p F L)) := by
      refine (prod_congr hp0 gF.nd gf'.nd gF.nd (Good.plus hp0 gf _).nd (Eqv.refl _) ef).trans ?_
      rw [← prod_word t gF]
      exact distrib_r hp0 gF gf gt _
    rw [cl_plus hp0 gL (Good.prod hp0 F f).nd, cl_plus hp0 (divL_good hp gL) (Good.prod hp0 F _).nd, e3 l, cl_plus hp0 (Good.prod hp0 F f) (withB_nodup gF.nd)]
    unfold divL
    rw [cl_plus hp0 gL (withB_nodup gF.nd), Int.one_mul, Int.one_mul, ← Int.add_emod]
    congr 1
    rw [Int.neg_mul]
    omega
/-- dividing comes to an end -/
theorem DivR.ends {n : Nat} (hp : Prm p) (gF : Good p F) (hF : F ≠ []) (bF : Bd n F) : ∀ (m : Nat) {L f : Bg}, mu n L < m → Good p L → Bd n L → ∃ r, DivR p F L f r
  | 0, _, _, h, _, _ => absurd h (Nat.not_lt_zero _)
  | m + 1, L, f, h, gL, bL => by
    by_cases hL : L = []
    · subst hL; exact ⟨_, .done⟩
    · by_cases ht : ∃ t, lead L = lead F ++ t
      · obtain ⟨t, ht⟩ := ht
        have h1 := divL_mu hp gF gL hF hL bL ht
        obtain ⟨r, hr⟩ := DivR.ends hp gF hF bF m (L := divL p F L t) (f := putS f t (divK p F L)) (by omega) (divL_good hp gL) (divL_bd bF bL hL ht)
        exact ⟨r, .step hL ht hr⟩
      · exact ⟨_, .stop hL ht⟩
theorem DivR.sound0 {r : Option Bg} {g : Bg} (hp : Prm p) (gF : Good p F) (hF : F ≠ []) (h : DivR p F L [] r) (e : r = some g) (gL : Good p L) : Good p g ∧ Eqv L (prodS p F g) := by
  have hp0 : 0 < p := by have := hp.pos; omega
  obtain ⟨h1, h2⟩ := h.sound hp gF hF e gL Good.nil (fun _ z => nomatch z)
  refine ⟨h1, Eqv.trans (fun l => ?_) h2⟩
  rw [prod_nil, cl_plus hp0 gL (Good.nil (p := p)).nd]
  have : cl [] l = 0 := rfl
  rw [this, Int.mul_zero, Int.add_zero]
  exact (cl_mod hp0 gL l).symm
theorem DivR.planted0 {r : Option Bg} {R : Bg} (hp : Prm p) (gF : Good p F) (hF : F ≠ []) (h : DivR p F L [] r) (gL : Good p L) (gR : Good p R) (e : Eqv L (prodS p F R)) : ∃ f, r = some f ∧ Good p f ∧ Eqv f R := by
  obtain ⟨f, h1, h2, h3⟩ := h.planted hp gF hF gL gR Good.nil e (fun _ _ z => nomatch z)
  exact ⟨f, h1, h2, eqv_of_cf fun w => by rw [h3 w, cf_nil, Int.zero_add]⟩
/-! ### how big things get -/
structure DivJ (p : Int) (F L : Bg) (J : Bg → Bg → Prop) : Prop where
  start : J L []
  step : ∀ L' f' t, J L' f' → L' ≠ [] → lead L' = lead F ++ t → J (divL p F L' t) (putS f' t (divK p F L'))
  size : ∀ L' f', J L' f' → L'.length ≤ 3000000 ∧ f'.length ≤ 3000000
theorem Bd.put' {n : Nat} {s : Bg} {t : Str} {k : Int} (h : Bd n s) (h1 : t.length ≤ n) (h2 : Ltr t.cps.toList) : Bd n (putS s t k) := fun u hu => by
  rw [keys_put] at hu
  split at hu
  · exact h u hu
  · rcases List.mem_append.mp hu with hu | hu
    · exact h u hu
    · rw [List.mem_singleton.mp hu]; exact ⟨h1, h2⟩
theorem tail_bd {n : Nat} (bL : Bd n L) (hL : L ≠ []) (ht : lead L = lead F ++ t) : t.length ≤ n ∧ Ltr t.cps.toList := by
  have h1 := bL _ (lead_mem hL)
  rw [ht, len_app, app_toList] at h1
  exact ⟨by omega, fun c hc => h1.2 c (List.mem_append_right _ hc)⟩
theorem DivJ.small {n : Nat} (hp : Prm p) (gF : Good p F) (hF : F ≠ []) (gL : Good p L) (bF : Bd n F) (bL : Bd n L) (hU : lenU n ≤ 3000000) : DivJ p F L fun L' f' => Good p L' ∧ Bd n L' ∧ Good p f' ∧ Bd n f' where
  start := ⟨gL, bL, Good.nil, fun _ h => nomatch h⟩
  step := fun L' f' t ⟨g1, b1, g2, b2⟩ hne ht => by
    have hk := divK_bd hp gF g1 hF hne
    obtain ⟨t1, t2⟩ := tail_bd b1 hne ht
    exact ⟨divL_good hp g1, divL_bd bF b1 hne ht, g2.put hk.1 hk.2, b2.put' t1 t2⟩
  size := fun L' f' ⟨g1, b1, g2, b2⟩ => ⟨Nat.le_trans (b1.len g1.nd) hU, Nat.le_trans (b2.len g2.nd) hU⟩
theorem DivJ.stop (h : ¬ ∃ t, lead L = lead F ++ t) (hl : L.length ≤ 3000000) : DivJ p F L fun L' f' => L' = L ∧ f' = [] where
  start := ⟨rfl, rfl⟩
  step := fun L' f' t ⟨e, _⟩ hne ht => absurd ⟨t, by rw [← e]; exact ht⟩ h
  size := fun L' f' ⟨e1, e2⟩ => by rw [e1, e2]; exact ⟨hl, Nat.zero_le _⟩
theorem drop_len {s : Bg} {t : Str} (hn : (keys s).Nodup) (h : t ∈ keys s) : (dropS s t).length + 1 ≤ s.length := by
  have h1 := len_sub (l := t :: keys (dropS s t)) (m := keys s) (List.nodup_cons.mpr ⟨fun z => by
    rw [keys_drop] at z
    exact absurd (List.mem_filter.mp z).2 (by simp), by rw [keys_drop]; exact hn.filter _⟩) (fun u hu => by
    rcases List.mem_cons.mp hu with z | z
    · rw [z]; exact h
    · rw [keys_drop] at z
      exact (List.mem_filter.mp z).1)
  unfold keys at h1
  rw [List.length_cons, List.length_map, List.length_map] at h1
  exact h1
/-- a product and short words more -/
theorem DivJ.long {R S : Bg} (hp : Prm p) (gF : Good p F) (hF : F ≠ []) (gL : Good p L) (gR : Good p R) (gS : Good p S) (hS : ∀ u ∈ keys S, u.length < (lead F).length) (he : Eqv L (plusS p (prodS p F R) S 1)) (hm : F.length * R.length + S.length ≤ 3000000) (hr : R.length ≤ 3000000) :
    DivJ p F L fun L' f' => ∃ R', Good p R' ∧ Good p L' ∧ Eqv L' (plusS p (prodS p F R') S 1) ∧ f'.length + R'.length ≤ R.length where
  start := ⟨R, gR, gL, he, by simp⟩
  step := fun L' f' t ⟨R', gR', gL', he', hlen⟩ hne ht => by
    have hp0 : 0 < p := by have := hp.pos; omega
    have hcf : ∀ w, cf L' w = (cf (prodS p F R') w + cf S w) % p := fun w => by rw [eqv_cf he' w, cf_plus hp0 (Good.prod hp0 F R') gS.nd, Int.one_mul]
    have hlS : ∀ w, (lead F).length ≤ w.length → cf S w = 0 := fun w hw => cf_not_mem fun z => by
      have := hS w z
      omega
    have hcl : ∀ w, (lead F).length ≤ w.length → cf L' w = cf (prodS p F R') w := fun w hw => by rw [hcf w, hlS w hw, Int.add_zero]; exact cf_mod hp0 (Good.prod hp0 F R') w
    have hll : (lead F).length ≤ (lead L').length := by rw [ht, len_app]; omega
    have hmem : lead L' ∈ keys (prodS p F R') := by
      rw [cf_ne (Good.prod hp0 F R'), ← hcl _ hll]
      exact (cf_ne gL').mp (lead_mem hne)
    have hR' : R' ≠ [] := fun z => by
      subst z
      rw [prod_nil] at hmem
      cases hmem
    obtain ⟨m1, m2, m3⟩ := prod_lead hp gF gR' hF hR'
    have hle := lead_len hmem
    have hin : lead (prodS p F R') ∈ keys L' := by
      rw [cf_ne gL', hcl _ (by omega)]
      rw [m2]
      exact (cf_ne (Good.prod hp0 F R')).mp m1
    have el : lead L' = lead (prodS p F R') := leW_anti (lead_le hin) (lead_le hmem)
    obtain rfl : t = lead R' := app_cancel_l (ht.symm.trans (el.trans m2))
    have ek : divK p F L' = cf R' (lead R') := by
      unfold divK
      rw [hcl _ hll, el, m2, m3]
      exact step_back hp (cf_pos_of gR' (lead_mem hR')) (cf_lt_of hp0 gR') (cf_pos_of gF (lead_mem hF)) (cf_lt_of hp0 gF)
    have gw : Good p [(lead R', (1 : Int))] := word_good hp.pos
    have hd : Eqv (dropS R' (lead R')) (plusS p R' [(lead R', 1)] (-(divK p F L'))) := eqv_of_cf fun w => by
      rw [cf_drop, cf_plus hp0 gR' gw.nd]
      by_cases h : w = lead R'
      · subst h
        rw [if_pos rfl, cf_pos rfl, ek, Int.mul_one, Int.add_right_neg]
        exact (Int.zero_emod p).symm
      · rw [if_neg h, cf_neg (fun z => h z.symm), cf_nil, Int.mul_zero, Int.add_zero]
        exact (cf_mod hp0 gR' w).symm
    refine ⟨dropS R' (lead R'), gR'.drop, divL_good hp gL', fun l => ?_, ?_⟩
    · have e3 : Eqv (prodS p F (dropS R' (lead R'))) (plusS p (prodS p F R') (withB F (lead R')) (-(divK p F L'))) := by
        refine (prod_congr hp0 gF.nd gR'.drop.nd gF.nd (Good.plus hp0 gR' _).nd (Eqv.refl _) hd).trans ?_
        rw [← prod_word (lead R') gF]
        exact distrib_r hp0 gF gR' gw _
      unfold divL
      rw [cl_plus hp0 gL' (withB_nodup gF.nd), he' l, cl_plus hp0 (Good.prod hp0 F R') gS.nd, cl_plus hp0 (Good.prod hp0 F _) gS.nd, e3 l, cl_plus hp0 (Good.prod hp0 F R') (withB_nodup gF.nd), Int.emod_add_emod, Int.emod_add_emod]
      congr 1
      omega
    · have h1 := drop_len gR'.nd (lead_mem hR')
      have h2 := len_put f' (lead R') (divK p F L')
      omega
  size := fun L' f' ⟨R', gR', gL', he', hlen⟩ => by
    have hp0 : 0 < p := by have := hp.pos; omega
    have h1 := eqv_len gL' (Good.plus hp0 (Good.prod hp0 F R') S) he'
    have h2 := len_plus (p := p) (s := prodS p F R') (t := S) 1
    have h3 := len_prod (p := p) (s := F) (t := R')
    have h4 : F.length * R'.length ≤ F.length * R.length := Nat.mul_le_mul_left _ (by omega)
    exact ⟨by omega, by omega⟩
end
/-! ### bags told backward -/
def revW (w : Str) : Str := ofL w.cps.toList.reverse
theorem revW_revW (w : Str) : revW (revW w) = w := by
  unfold revW
  rw [toList_ofL, List.reverse_reverse, ofL_toList]
theorem revW_app (a b : Str) : revW (a ++ b) = revW b ++ revW a := by
  unfold revW
  rw [app_toList, List.reverse_append, ofL_app]
theorem revW_inj {a b : Str} (h : revW a = revW b) : a = b := by rw [← revW_revW a, h, revW_revW]
theorem revW_len (w : Str) : (revW w).length = w.length := by
  rw [← str_len, ← str_len]
  unfold revW
  rw [toList_ofL, List.length_reverse]
def turnS (s : Bg) : Bg := s.map fun kv => (revW kv.1, kv.2)
theorem turnS_turnS (s : Bg) : turnS (turnS s) = s := by
  unfold turnS
  rw [List.map_map]
  conv => rhs; rw [← List.map_id s]
  refine List.map_congr_left fun kv _ => ?_
  simp [revW_revW]
theorem turn_keys (s : Bg) : keys (turnS s) = (keys s).map revW := by
  unfold turnS keys
  rw [List.map_map, List.map_map]
  rfl
theorem turn_nodup {s : Bg} (h : (keys s).Nodup) : (keys (turnS s)).Nodup := by
  rw [turn_keys]
  exact List.Pairwise.map _ (fun a b q e => q (revW_inj e)) h
theorem turn_good {p : Int} {s : Bg} (g : Good p s) : Good p (turnS s) := ⟨turn_nodup g.nd, fun kv h => by
    obtain ⟨q, hq, rfl⟩ := List.mem_map.mp h
    exact g.lo q hq, fun kv h => by
    obtain ⟨q, hq, rfl⟩ := List.mem_map.mp h
    exact g.hi q hq⟩
theorem turn_len (s : Bg) : (turnS s).length = s.length := List.length_map _
theorem turn_ne {s : Bg} (h : s ≠ []) : turnS s ≠ [] := fun e => h (List.map_eq_nil_iff.mp e)
theorem cf_turn {s : Bg} (hn : (keys s).Nodup) (w : Str) : cf (turnS s) w = cf s (revW w) := by
  by_cases h : revW w ∈ keys s
  · obtain ⟨n, hm⟩ := mem_keys.mp h
    rw [cf_of_mem hn hm, cf_of_mem (turn_nodup hn) (n := n) (List.mem_map.mpr ⟨_, hm, by simp [revW_revW]⟩)]
  · rw [cf_not_mem h, cf_not_mem]
    rw [turn_keys]
    intro z
    obtain ⟨v, hv, e⟩ := List.mem_map.mp z
    exact h (by rw [← e, revW_revW]; exact hv)
theorem turn_eqv {s u : Bg} (hs : (keys s).Nodup) (hu : (keys u).Nodup) (h : Eqv s u) : Eqv (turnS s) (turnS u) := eqv_of_cf fun w => by rw [cf_turn hs, cf_turn hu, eqv_cf h]
theorem turn_prod {p : Int} {s u : Bg} (hp : 0 < p) : Eqv (turnS (prodS p s u)) (prodS p (turnS u) (turnS s)) := eqv_of_cf fun w => by
  rw [cf_turn (Good.prod hp s u).nd, cf_prod hp, cf_prod hp]
  congr 1
  unfold cvS turnS
  rw [sumL_map, sumL_swap]
  refine sumL_congr fun b _ => ?_
  rw [sumL_map]
  refine sumL_congr fun a _ => ?_
  by_cases h : a.1 ++ b.1 = revW w
  · rw [if_pos h, if_pos]
    · exact Int.mul_comm _ _
    · show revW b.1 ++ revW a.1 = w
      rw [← revW_app, h, revW_revW]
  · rw [if_neg h, if_neg]
    intro e
    refine h ?_
    rw [← e]
    show _ = revW (revW b.1 ++ revW a.1)
    rw [← revW_app, revW_revW]
theorem turn_bd {n : Nat} {s : Bg} (h : Bd n s) : Bd n (turnS s) := fun u hu => by
  rw [turn_keys] at hu
  obtain ⟨v, hv, rfl⟩ := List.mem_map.mp hu
  rw [revW_len]
  refine ⟨(h v hv).1, fun c hc => (h v hv).2 c ?_⟩
  unfold revW at hc
  rw [toList_ofL] at hc
  exact List.mem_reverse.mp hc
end Fp

/-! Full bags: what the numbers of the beginnings of words come to. -/
namespace Fp
open PySem L2
/-- what the numbers at the beginnings of a word come to -/
def pf (F : List Nat → Int) (l : List Nat) : Int := conv F (fun _ => 1) l
theorem pf_nil (F : List Nat → Int) : pf F [] = F [] := by unfold pf; rw [conv_nil, Int.mul_one]
theorem pf_cons (F : List Nat → Int) (c : Nat) (v : List Nat) : pf F (c :: v) = F [] + pf (fun x => F (c :: x)) v := by unfold pf; rw [conv_cons, Int.mul_one]
theorem pf_snoc (c : Nat) : ∀ (a : List Nat) (F : List Nat → Int), pf F (a ++ [c]) = pf F a + F (a ++ [c])
  | [], F => by rw [List.nil_append, pf_cons, pf_nil, pf_nil]
  | d :: a, F => by
    rw [List.cons_append, pf_cons, pf_cons, pf_snoc c a]
    show _ = _ + F (d :: (a ++ [c]))
    omega
theorem pf_zero : ∀ (m : List Nat) (F : List Nat → Int), (∀ x, x <+: m → F x = 0) → pf F m = 0
  | [], F, h => by rw [pf_nil]; exact h [] (List.prefix_refl _)
  | c :: m, F, h => by
    rw [pf_cons, h [] (List.nil_prefix), pf_zero m _ fun x hx => h (c :: x) (List.cons_prefix_cons.mpr ⟨rfl, hx⟩)]
    rfl
/-- nothing comes behind a -/
theorem pf_app (m : List Nat) : ∀ (a : List Nat) (F : List Nat → Int), (∀ x, x ≠ [] → x <+: m → F (a ++ x) = 0) → pf F (a ++ m) = pf F a
  | [], F, h => by
    cases m with
    | nil => rfl
    | cons c m =>
      have e0 : pf (fun x => F (c :: x)) m = 0 := pf_zero m _ fun x hx => h (c :: x) (List.cons_ne_nil _ _) (List.cons_prefix_cons.mpr ⟨rfl, hx⟩)
      rw [List.nil_append, pf_cons, pf_nil, e0]
      omega
  | d :: a, F, h => by
    rw [List.cons_append, pf_cons, pf_cons, pf_app m a _ fun x h1 h2 => h x h1 h2]
theorem pf_add (F G : List Nat → Int) (l : List Nat) : pf (fun x => F x + G x) l = pf F l + pf G l := conv_addl F G _ l
theorem pf_mul (k : Int) (F : List Nat → Int) (l : List Nat) : pf (fun x => k * F x) l = k * pf F l := conv_mull k F _ l
theorem pf_mod {p : Int} {F G : List Nat → Int} (h : ∀ x, F x % p = G x % p) (l : List Nat) : pf F l % p = pf G l % p := conv_mod h (fun _ => rfl) l
/-- the same as a sum over a word's beginnings -/
theorem pf_range (F : List Nat → Int) (l : List Nat) : ((List.range (l.length + 1)).map fun k => F (l.take k)).sum = pf F l := by
  have key : ∀ n, n ≤ l.length → ((List.range (n + 1)).map fun k => F (l.take k)).sum = pf F (l.take n) := by
    intro n
    induction n with
    | zero => intro _; rw [List.take_zero, pf_nil]; simp
    | succ n ih =>
      intro hn
      rw [List.range_succ, List.map_append, List.sum_append, ih (by omega)]
      obtain ⟨c, hc⟩ : ∃ c, l[n]? = some c := ⟨l[n], by rw [List.getElem?_eq_getElem]⟩
      rw [List.take_add_one, hc]
      simp only [Option.toList_some]
      rw [pf_snoc]
      simp only [List.map_cons, List.map_nil, List.sum_cons, List.sum_nil]
      rw [List.take_add_one, hc]
      simp only [Option.toList_some]
      omega
  rw [key l.length (Nat.le_refl _), List.take_length]
/-! ### full -/
def OverL (z l : List Nat) : Prop := ∀ c ∈ l, c ∈ z
theorem OverL.app {z a b : List Nat} (h : OverL z a) (h2 : OverL z b) : OverL z (a ++ b) := fun c hc => (List.mem_append.mp hc).elim (h c) (h2 c)
theorem OverL.rep {z : List Nat} {c : Nat} (h : c ∈ z) (n : Nat) : OverL z (List.replicate n c) := fun d hd => by rw [(List.mem_replicate.mp hd).2]; exact h
theorem OverL.left {z a b : List Nat} (h : OverL z (a ++ b)) : OverL z a := fun c hc => h c (List.mem_append_left _ hc)
theorem OverL.take {z l : List Nat} (h : OverL z l) (n : Nat) : OverL z (l.take n) := fun c hc => h c (List.mem_of_mem_take hc)
/-- F has no word of more than n letters -/
def Len (F : List Nat → Int) (n : Nat) : Prop := ∀ l, n < l.length → F l = 0
def Full (p : Int) (z : List Nat) (F : List Nat → Int) : Prop := ∃ n, ∀ l, OverL z l → n ≤ l.length → pf F l % p = 1
theorem pf_len {F : List Nat → Int} {n : Nat} (h : Len F n) {l m : List Nat} (hl : n ≤ l.length) : pf F (l ++ m) = pf F l :=
  pf_app m l F fun x hx _ => h _ (by rw [List.length_append]; have := List.length_pos_iff.mpr hx; omega)
theorem Full.at {p : Int} {z : List Nat} {F : List Nat → Int} {c n : Nat} (h : Full p z F) (hc : c ∈ z) (hn : Len F n) {l : List Nat} (hl : OverL z l) (hll : n ≤ l.length) : pf F l % p = 1 := by
  obtain ⟨N, h⟩ := h
  rw [← pf_len (m := List.replicate N c) hn hll]
  exact h _ (hl.app (OverL.rep hc N)) (by rw [List.length_append, List.length_replicate]; omega)
/-- at the words of just so many letters, as many as the longest has, alone -/
theorem full_iff {p : Int} {z : List Nat} {F : List Nat → Int} {c n m : Nat} (hc : c ∈ z) (hn : Len F n) (hm : n ≤ m) : Full p z F ↔ ∀ l, OverL z l → l.length = m → pf F l % p = 1 := by
  refine ⟨fun h l h1 h2 => h.at hc hn h1 (by omega), fun h => ⟨m, fun l h1 h2 => ?_⟩⟩
  rw [← List.take_append_drop m l, pf_len hn (by rw [List.length_take]; omega)]
  exact h _ (h1.take m) (by rw [List.length_take]; omega)
/-- K: words that go with their beginnings, all words of F among them -/
structure Tree (F : List Nat → Int) (K : List Nat → Prop) : Prop where
  nil : K []
  pre : ∀ a c, K (a ++ [c]) → K a
  has : ∀ l, F l ≠ 0 → K l
theorem Tree.pre' {F : List Nat → Int} {K : List Nat → Prop} (t : Tree F K) : ∀ (m a : List Nat), K (a ++ m) → K a
  | [], a, h => by rwa [List.append_nil] at h
  | c :: m, a, h => t.pre _ _ (t.pre' m (a ++ [c]) (by rw [List.append_assoc]; exact h))
theorem Tree.out {F : List Nat → Int} {K : List Nat → Prop} (t : Tree F K) {a : List Nat} {c : Nat} (h : ¬ K (a ++ [c])) (m : List Nat) : pf F (a ++ c :: m) = pf F a := by
  refine pf_app _ _ _ fun x hx hp => ?_
  cases x with
  | nil => exact absurd rfl hx
  | cons d x =>
    obtain rfl := (List.cons_prefix_cons.mp hp).1
    refine Classical.byContradiction fun h0 => h ?_
    have := t.has _ h0
    rw [show a ++ d :: x = a ++ [d] ++ x from by simp] at this
    exact t.pre' _ _ this
theorem full_tree {p : Int} {z : List Nat} {F : List Nat → Int} {K : List Nat → Prop} {c n : Nat} (hc : c ∈ z) (hn : Len F n) (t : Tree F K) (hK : ∀ l, K l → l.length ≤ n) :
    Full p z F ↔ ∀ l, OverL z l → K l → pf F l % p = 1 ∨ ∀ d ∈ z, K (l ++ [d]) := by
  constructor
  · intro h l hl hk
    by_cases hd : ∀ d ∈ z, K (l ++ [d])
    · exact .inr hd
    · refine .inl ?_
      obtain ⟨d, hd⟩ := Classical.not_forall.mp hd
      obtain ⟨hdz, hdk⟩ := Classical.not_imp.mp hd
      rw [← t.out hdk (List.replicate n d)]
      refine h.at hc hn ((hl.app fun e he => ?_)) ?_
      · rcases List.mem_cons.mp he with q | q
        · rw [q]; exact hdz
        · rw [(List.mem_replicate.mp q).2]; exact hdz
      · rw [List.length_append, List.length_cons, List.length_replicate]
        omega
  · intro h
    refine (full_iff hc hn (Nat.le_refl n)).mpr fun l hl hll => ?_
    have key : ∀ m a, OverL z (a ++ m) → n ≤ (a ++ m).length → K a → pf F (a ++ m) % p = 1 := by
      intro m
      induction m with
      | nil =>
        intro a ha hal hk
        rw [List.append_nil] at ha hal ⊢
        rcases h a ha hk with q | q
        · exact q
        · have := hK _ (q c hc)
          rw [List.length_append, List.length_singleton] at this
          omega
      | cons d m ih =>
        intro a ha hal hk
        by_cases hdk : K (a ++ [d])
        · have := ih (a ++ [d]) (by simpa using ha) (by simpa using hal) hdk
          simpa using this
        · rw [t.out hdk m]
          rcases h a ha.left hk with q | q
          · exact q
          · exact absurd (q d (ha d (by simp))) hdk
    exact key l [] hl (by rw [List.nil_append]; omega) t.nil
/-! ### grown -/
def dl (l : List Nat) : Int := if l = [] then 1 else 0
def lets (z : List Nat) (l : List Nat) : Int := if ∃ c ∈ z, l = [c] then 1 else 0
def Grown (p : Int) (z : List Nat) (P A : List Nat → Int) : Prop := ∀ l, P l % p = (dl l - A l + conv A (lets z) l) % p
theorem pf_dl : ∀ l, pf dl l = 1
  | [] => by rw [pf_nil]; rfl
  | c :: l => by
    have e0 : pf (fun x => dl (c :: x)) l = 0 := pf_zero l _ fun x _ => if_neg (List.cons_ne_nil _ _)
    rw [pf_cons, e0]
    rfl
theorem pf_lets {z : List Nat} {l : List Nat} (h : OverL z l) : pf (lets z) l = 1 - dl l := by
  cases l with
  | nil => rw [pf_nil]; unfold lets dl; rw [if_neg (by rintro ⟨c, _, e⟩; cases e), if_pos rfl]; rfl
  | cons c l =>
    have h1 : (fun x => lets z (c :: x)) = dl := by
      funext x
      unfold lets dl
      by_cases hx : x = []
      · subst hx
        rw [if_pos ⟨c, h c List.mem_cons_self, rfl⟩, if_pos rfl]
      · rw [if_neg hx, if_neg]
        rintro ⟨d, _, e⟩
        exact hx (List.cons.inj e).2
    have h2 : lets z [] = 0 := by unfold lets; rw [if_neg (by rintro ⟨c, _, e⟩; cases e)]
    rw [pf_cons, h1, pf_dl, h2]
    unfold dl
    rw [if_neg (List.cons_ne_nil _ _)]
    rfl
theorem conv_dl (A : List Nat → Int) (l : List Nat) : conv A dl l = A l := by
  induction l generalizing A with
  | nil => rw [conv_nil]; unfold dl; rw [if_pos rfl, Int.mul_one]
  | cons c l ih =>
    rw [conv_cons, ih]
    unfold dl
    rw [if_neg (List.cons_ne_nil _ _)]
    omega
theorem conv_over {A G G' : List Nat → Int} {z : List Nat} : ∀ {l : List Nat}, OverL z l → (∀ x, OverL z x → G x = G' x) → conv A G l = conv A G' l := by
  intro l
  induction l generalizing A with
  | nil => intro _ h; rw [conv_nil, conv_nil, h [] (fun _ z => nomatch z)]
  | cons c l ih =>
    intro hl h
    rw [conv_cons, conv_cons, h _ hl, ih (fun d hd => hl d (List.mem_cons_of_mem _ hd)) h]
theorem Grown.pfx {p : Int} {z : List Nat} {P A : List Nat → Int} (g : Grown p z P A) {l : List Nat} (hl : OverL z l) : pf P l % p = (1 - A l) % p := by
  have e1 : pf P l % p = pf (fun l => dl l + ((-1) * A l + conv A (lets z) l)) l % p := pf_mod (fun x => by rw [g x]; congr 1; omega) l
  rw [e1, pf_add, pf_add, pf_mul, pf_dl]
  have e2 : pf (conv A (lets z)) l = pf A l - A l := by
    unfold pf
    rw [conv_assoc, conv_over (G' := fun x => 1 + (-1) * dl x) hl (fun x hx => by have := pf_lets hx; unfold pf at this; rw [this]; omega), conv_addr, conv_mulr, conv_dl]
    omega
  rw [e2]
  congr 1
  omega
theorem Grown.full {p : Int} {z : List Nat} {P A : List Nat → Int} {n : Nat} (hp : 1 < p) (g : Grown p z P A) (hA : Len A n) : Full p z P :=
  ⟨n + 1, fun l hl hll => by rw [g.pfx hl, hA l (by omega)]; exact Int.emod_eq_of_lt (by omega) (by omega)⟩
/-- with the number of a word changed -/
theorem not_full {p k : Int} {z : List Nat} {F G : List Nat → Int} {c n : Nat} {w : List Nat} (hp : 1 < p) (hc : c ∈ z) (hn : Len F n) (hw : OverL z w) (hk : 0 < k) (hk1 : k < p) (hG : ∀ l, G l % p = (F l + k * (if l = w then 1 else 0)) % p)
    (h : Full p z F) (h2 : Full p z G) : False := by
  obtain ⟨N, h2⟩ := h2
  have hl : OverL z (w ++ List.replicate (N + n) c) := hw.app (OverL.rep hc _)
  have hlen : (w ++ List.replicate (N + n) c).length = w.length + (N + n) := by rw [List.length_append, List.length_replicate]
  have h3 := h2 _ hl (by omega)
  have h4 := h.at hc hn hl (by omega)
  rw [pf_mod hG, pf_add, pf_mul] at h3
  have h5 : ∀ (u : List Nat) (m : List Nat), pf (fun l => if l = u then (1 : Int) else 0) (u ++ m) = 1 := by
    intro u m
    induction u with
    | nil => exact pf_dl m
    | cons d u ih =>
      rw [List.cons_append, pf_cons, if_neg (by simp)]
      have : (fun x => if d :: x = d :: u then (1 : Int) else 0) = fun x => if x = u then 1 else 0 := by
        funext x
        by_cases q : x = u
        · rw [if_pos (by rw [q]), if_pos q]
        · rw [if_neg (fun e => q (List.cons.inj e).2), if_neg q]
      rw [this, ih]
      rfl
  rw [h5, Int.mul_one] at h3
  have h6 : (1 + k) % p = 1 := by
    have : (pf F (w ++ List.replicate (N + n) c) + k) % p = (pf F (w ++ List.replicate (N + n) c) % p + k) % p := by rw [Int.emod_add_emod]
    rw [this, h4] at h3
    exact h3
  by_cases q : 1 + k < p
  · rw [Int.emod_eq_of_lt (by omega) q] at h6; omega
  · have : 1 + k = p := by omega
    rw [this, Int.emod_self] at h6
    cases h6
end Fp

/-! Comprehensions that choose; dict comprehensions over a dict; dict(pairs). -/
namespace Fp
open PySem L2
section
variable {J : It} {n : Nat} {G : Hp → Prop} {Y : Nat → Hp → V → Hp → Prop} {α : Type}
/-- a comprehension that chooses: its elements stand to the chosen es as R says -/
theorem lc_relF (w : Walk J n G Y) {j : Nat} {te : TE} {tt : TT} {vs : List Nat} {σ : St} {H1 : Hp} {Q : VK} (es : List α) (sel : α → Bool) (hl : es.length = n) (hn : n ≤ sizeLine) (hG : ∀ H, Ex H1 H → G H)
    (R : α → V → Hp → Prop) (hR : ∀ e y H H', ExL H H' → R e y H → R e y H') (hw : ∀ x, wipe ((wipe σ vs).set j x) vs = wipe σ vs)
    (hs : ∀ i x e H H' (K : VK) (N : Hp → Prop), i < n → Ex H1 H → Y i H x H' → es[i]? = some e → (sel e = true → ∀ y H4, Ex H H4 → R e y H4 → K y H4) → (sel e = false → ∀ H4, Ex H H4 → N H4) →
      tt ((wipe σ vs).set j (some x)) H' fun b H3 => if b = true then te ((wipe σ vs).set j (some x)) H3 K else N H3)
    (hd : ∀ D H' ys, H1 D = none → Ex H1 H' → H' D = some (.lst ys) → Paired (fun y e => R e y H') ys (es.filter sel) → Q (.ref D) H') :
    LcG J (gName j) tt te vs σ H1 Q := by
  intro D hD
  refine lc_it w (fun i H => Ex H1 H ∧ ∃ ys, H D = some (.lst ys) ∧ Paired (fun y e => R e y H) ys ((es.take i).filter sel)) ⟨Ex.new hD, [], upd_same, .nil⟩ (fun i H _ p => hG H p.1) ?_ (fun H p => ?_)
  · rintro i x H H' hi ⟨e, ys, hacc, hp⟩ hy
    have hi' : i < es.length := by omega
    obtain ⟨y, hyi⟩ : ∃ y, es[i]? = some y := ⟨es[i], by simp [hi']⟩
    refine ⟨hw _, ?_⟩
    have hlen : ys.length ≤ i := by
      rw [hp.length]
      refine Nat.le_trans (List.length_filter_le _ _) ?_
      rw [List.length_take]
      omega
    refine hs i x y H H' _ _ hi e hy hyi (fun hsel z H4 e4 rz => ⟨ys, e4 _ _ hacc, by omega, ?_, ys ++ [z], upd_same, ?_⟩) fun hsel H4 e4 => ⟨e.trans e4, ys, e4 _ _ hacc, ?_⟩
    · exact Ex.mut (e.trans e4) hD
    · have tu : ExL H4 (L2.upd H4 D (.lst (ys ++ [z]))) := ExL.upd (e4 _ _ hacc)
      rw [List.take_add_one, hyi, List.filter_append]
      have : List.filter sel (some y).toList = [y] := by simp [hsel]
      rw [this]
      exact Paired.snoc (Paired.mapP hp fun a b q => hR _ _ _ _ (e4.exl.trans tu) q) (hR _ _ _ _ tu rz)
    · rw [List.take_add_one, hyi, List.filter_append]
      have : List.filter sel (some y).toList = [] := by simp [hsel]
      rw [this, List.append_nil]
      exact Paired.mapP hp fun a b q => hR _ _ _ _ e4.exl q
  · obtain ⟨e, ys, h, hp⟩ := p
    rw [← hl, List.take_length] at hp
    exact hd D H ys hD e h hp
end
/-- ExL to a heap in which a dict is unlocked -/
def ExT (H H' : Hp) : Prop := TupS H H'
section
variable {σ : St} {H : Hp} {Q : VK} {d : Addr} {s : Bg}
/-- a loop of any kind over a dict's keys: the dict locked, then unlocked -/
theorem lock_any {t : TE} (hd : Rd H d (.dK (toK s)))
    (core : ∀ (Hl : Hp) (od : Obj) (Q' : VK), Hl d = some (.frz od (.dK (toK s))) → LkEx d s H Hl → (∀ a, Hl a = none → H a = none) →
      (∀ v H', (∀ D, v = .ref D → H D = none) → Ex Hl H' → (∀ H2, Ex H H2 → (∀ a, a ≠ d → H2 a = H' a) → TupS H' H2 → Q v H2) → Q' v H') → t σ Hl Q') : tLockRE t σ H Q := by
  rcases hd with hd | ⟨od, hd⟩
  · refine .inl ⟨d, _, hd, trivial, fun od => ?_⟩
    refine core _ od _ upd_same ⟨fun a o ha q => by rw [upd_ne ha]; exact q, .inr ⟨od, upd_same⟩⟩ (fun a ha => ?_) fun v H' hv e hq => ?_
    · by_cases q : a = d
      · subst q; rw [upd_same] at ha; cases ha
      · rw [upd_ne q] at ha; exact ha
    · have hdl : H' d = some (.frz od (.dK (toK s))) := e _ _ upd_same
      refine ⟨hdl, hq _ (fun a o q => ?_) (fun a ha => by rw [upd_ne ha]) (TupS.upd hdl fun _ => by simp)⟩
      by_cases ha : a = d
      · subst ha
        rw [hd] at q
        cases q
        exact upd_same
      · rw [upd_ne ha]
        exact e a o (by rw [upd_ne ha]; exact q)
  · exact .inr (core H od Q hd ⟨fun a o _ h => h, .inr ⟨od, hd⟩⟩ (fun _ h => h) fun v H' hv e hq => hq H' e (fun _ _ => rfl) fun _ _ h => h)
end
/-- a comprehension over a dict's keys that chooses -/
theorem lcd_relF {σ : St} {H : Hp} {Q : VK} {d : Addr} {s : Bg} {te0 te : TE} {tt : TT} {j : Nat} {vs : List Nat} (hd : Rd H d (.dK (toK s))) (hz : s.length ≤ sizeLine)
    (he : ∀ (H' : Hp) (Q : VK), LkEx d s H H' → Q (.ref d) H' → te0 σ H' Q) (sel : Str × Int → Bool)
    (R : Str × Int → V → Hp → Prop) (hR : ∀ e y H H', TupS H H' → R e y H → R e y H') (hw : ∀ x, wipe ((wipe σ vs).set j x) vs = wipe σ vs)
    (hs : ∀ (i : Nat) (w : Str) (n : Int) (H' : Hp) (K : VK) (N : Hp → Prop), s[i]? = some (w, n) → LkEx d s H H' → (sel (w, n) = true → ∀ y H4, Ex H' H4 → R (w, n) y H4 → K y H4) → (sel (w, n) = false → ∀ H4, Ex H' H4 → N H4) →
      tt ((wipe σ vs).set j (some (.str w))) H' fun b H3 => if b = true then te ((wipe σ vs).set j (some (.str w))) H3 K else N H3)
    (hend : ∀ D H' ys, H D = none → Ex H H' → H' D = some (.lst ys) → Paired (fun y e => R e y H') ys (s.filter sel) → Q (.ref D) H') : tLockRE (tLc (iKeys te0) (gName j) tt te vs) σ H Q := by
  refine lock_any hd fun Hl od Q' hl l0 hnone hq => ?_
  refine he Hl _ l0 ⟨d, od, rfl, .inl ⟨toK s, hl, ?_⟩⟩
  show LcG _ _ _ _ _ _ _ _
  refine lc_relF walk_keys s sel (toK_len s).symm (by rw [toK_len]; exact hz) (fun H' e => e _ _ hl) R (fun e y H H' t => hR e y H H' fun a xs h => t a _ (fun _ z => nomatch z) h) hw ?_ (fun D H' ys hD e hl2 hp => ?_)
  · rintro i x e H2 H3 K N hi e2 ⟨rfl, k, v, hk, rfl⟩ hei hK hN
    obtain ⟨w, n, hw', ekv⟩ := toK_get hk
    cases ekv
    rw [hw'] at hei
    obtain rfl := (Option.some.inj hei).symm
    exact hs i w n H3 K N hw' (l0.ex e2) hK hN
  · have hDd : D ≠ d := fun z => by subst z; rw [hl] at hD; cases hD
    refine hq _ H' (fun D' z => by cases z; exact hnone _ hD) e fun H2 e2 hs2 ht => hend D H2 ys (hnone _ hD) e2 (by rw [hs2 D hDd]; exact hl2) (Paired.mapP hp fun a b q => hR _ _ _ _ ht q)
theorem putS_new {t : Bg} {w : Str} {n : Int} (h : w ∉ keys t) : putS t w n = t ++ [(w, n)] := by
  unfold putS
  rw [if_neg]
  intro z
  rw [List.any_eq_true] at z
  obtain ⟨kv, h1, h2⟩ := z
  exact h (mem_keys.mpr ⟨kv.2, by rw [← of_decide_eq_true h2]; exact h1⟩)
/-- a dict comprehension over a dict's keys: the pairs that f makes of them -/
theorem dcd_rel {σ : St} {H : Hp} {Q : VK} {d : Addr} {s : Bg} {te0 tk tv : TE} {tt : TT} {j : Nat} {vs : List Nat} (hd : Rd H d (.dK (toK s))) (hz : s.length < sizeLine)
    (he : ∀ (H' : Hp) (Q : VK), LkEx d s H H' → Q (.ref d) H' → te0 σ H' Q) (f : Str × Int → Option (Str × Int)) (hnd : (keys (s.filterMap f)).Nodup) (hw : ∀ x, wipe ((wipe σ vs).set j x) vs = wipe σ vs)
    (hs : ∀ (i : Nat) (w : Str) (n : Int) (H' : Hp) (K : V → V → Hp → Prop) (N : Hp → Prop), s[i]? = some (w, n) → LkEx d s H H' → (∀ w' n' H5, f (w, n) = some (w', n') → Ex H' H5 → K (.str w') (.int n') H5) → (f (w, n) = none → ∀ H4, Ex H' H4 → N H4) →
      tt ((wipe σ vs).set j (some (.str w))) H' fun b H3 => if b = true then tk ((wipe σ vs).set j (some (.str w))) H3 fun y H4 => tv ((wipe σ vs).set j (some (.str w))) H4 fun z H5 => K y z H5 else N H3)
    (hend : ∀ D H', H D = none → Ex H H' → H' D = some (.dK (toK (s.filterMap f))) → Q (.ref D) H') : tLockRE (tDc (iKeys te0) (gName j) tt tk tv vs) σ H Q := by
  refine lock_any hd fun Hl od Q' hl l0 hnone hq => ?_
  refine he Hl _ l0 ⟨d, od, rfl, .inl ⟨toK s, hl, fun D hD => ?_⟩⟩
  have hDd : D ≠ d := fun z => by subst z; rw [hl] at hD; cases hD
  refine ⟨fun i m H' => m = s.length - i ∧ i ≤ s.length ∧ Ex Hl H' ∧ H' D = some (.dK (toK ((s.take i).filterMap f))), ⟨s.length, by simp, Nat.zero_le _, Ex.new hD, upd_same⟩, ?_⟩
  rintro i m H2 ⟨rfl, hi, e2, hD2⟩
  have hl2 := e2 _ _ hl
  by_cases hlt : i < s.length
  · refine .inr ⟨⟨hl2, by rw [toK_len]; exact hlt⟩, fun H' => Ex Hl H' ∧ H' D = some (.dK (toK ((s.take (i + 1)).filterMap f))), fun H' p => ⟨s.length - (i + 1), by omega, rfl, hlt, p.1, p.2⟩, ?_⟩
    rintro x H' ⟨rfl, k, v, hk, rfl⟩
    obtain ⟨w, n, hw', ekv⟩ := toK_get hk
    cases ekv
    have etk : s.take (i + 1) = s.take i ++ [(w, n)] := by rw [List.take_add_one, hw']; rfl
    refine ⟨hw _, ?_⟩
    refine hs i w n H' _ _ hw' (l0.ex e2) (fun w' n' H5 hf e5 => ⟨toK ((s.take i).filterMap f), Sum.inr w', rfl, e5 _ _ hD2, ?_, Ex.mut (e2.trans e5) hD, ?_⟩) fun hf H4 e4 => ⟨e2.trans e4, ?_⟩
    · rw [toK_len]
      exact Nat.lt_of_le_of_lt (Nat.le_trans (List.length_filterMap_le _ _) (by rw [List.length_take]; omega)) hz
    · rw [upd_same, putK_toK, etk, List.filterMap_append]
      have e3 : List.filterMap f [(w, n)] = [(w', n')] := by simp [hf]
      rw [e3, putS_new]
      intro hmem
      have hsub : keys ((s.take (i + 1)).filterMap f) = keys ((s.take i).filterMap f) ++ [w'] := by
        rw [etk, List.filterMap_append, e3]
        unfold keys
        rw [List.map_append]
        rfl
      have hnd2 : (keys ((s.take (i + 1)).filterMap f)).Nodup := by
        unfold keys at hnd ⊢
        refine List.Sublist.nodup (List.Sublist.map _ ?_) hnd
        exact List.Sublist.filterMap _ (List.take_sublist _ _)
      rw [hsub, List.nodup_append] at hnd2
      exact hnd2.2.2 _ hmem _ (by simp) rfl
    · rw [e4 _ _ hD2, etk, List.filterMap_append]
      have e3 : List.filterMap f [(w, n)] = [] := by simp [hf]
      rw [e3, List.append_nil]
  · have ei : i = s.length := by omega
    subst ei
    rw [List.take_length] at hD2
    refine .inl ⟨⟨hl2, by rw [toK_len]; exact Nat.le_refl _⟩, ?_⟩
    exact hq _ H2 (fun D' z => by cases z; exact hnone _ hD) e2 fun H3 e3 hs3 ht => hend D H3 (hnone _ hD) e3 (by rw [hs3 D hDd]; exact hD2)
/-! ### dict(list of pairs) -/
def rDictP (K : PySem.W.Frag) : List V → Hp → VK → Prop := fun xs H Q => ∃ (a : Addr) (ps : List Addr) (kvs : List (Key × V)), xs = [.ref a] ∧ SqL K H a (ps.map V.ref) ∧ Paired (fun p kv => SqT K H p [kV kv.1, kv.2]) ps kvs ∧
    ∀ p, H p = none → Q (.ref p) (upd H p (.dK (mergeK [] kvs)))
theorem call_dictQ {X : Cx} (h : X.calm = true) : CallR X (.type "dict") (rDictP X.K) := call_dictP h
/-- a list of tuples (word, number) -/
theorem g_dictP {K : PySem.W.Frag} {H : Hp} {a : Addr} {ps : List Addr} {s : Bg} {Q : VK} (hl : SqL K H a (ps.map V.ref)) (hp : Paired (fun p (kv : Str × Int) => SqT K H p [.str kv.1, .int kv.2]) ps s) (hn : (keys s).Nodup)
    (h : ∀ p, H p = none → Q (.ref p) (upd H p (.dK (toK s)))) : rDictP K [.ref a] H Q := by
  refine ⟨a, ps, toK s, rfl, hl, ?_, ?_⟩
  · exact paired_mapr hp fun a b z => z
  · rw [mergeK_toK hn]
    exact h
end Fp

/-! A dict comprehension of two clauses without tests: {k: v for t0 in i0 for t1 in i1}. -/
namespace Fp
open PySem PySem.Spec PyProof.Rows L2
/-- the two clauses -/
abbrev gens2 (t0 i0 t1 i1 : Expr) : List Comprehension := [⟨t0, i0, [], 0⟩, ⟨t1, i1, [], 0⟩]
theorem turn_out (kx vx t0 i0 t1 i1 : Expr) (scope : Scope) (pos : Pos) (it acc : Value) (env : Env) :
    compTurn (.DictComp kx vx (gens2 t0 i0 t1 i1) scope pos) 0 it acc env = (do
      standAt i0.pos
      match ← pyNext it with
      | none => pure (.done .next)
      | some v =>
        letOwnedTupleGo t0 it v
        assign t0 env v
        let x ← eval i1 env
        standAt i1.pos
        let x ← foldedSetIterable i1 env x
        let _ ← runOwn (.compStart (.DictComp kx vx (gens2 t0 i0 t1 i1) scope pos) 1 (← holding [x] (pyIter x)) acc env) env
        again (.compLoop (.DictComp kx vx (gens2 t0 i0 t1 i1) scope pos) 0 it acc env)) := by rfl
theorem turn_in (kx vx t0 i0 t1 i1 : Expr) (scope : Scope) (pos : Pos) (it : Value) (D : Addr) (env : Env) :
    compTurn (.DictComp kx vx (gens2 t0 i0 t1 i1) scope pos) 1 it (.ref D) env = (do
      standAt i1.pos
      match ← pyNext it with
      | none => pure (.done .next)
      | some v =>
        letOwnedTupleGo t1 it v
        assign t1 env v
        (do
          let kv ← eval kx env
          let vv ← holding [kv] (eval vx env)
          standAt { kx.pos with endLine := vx.pos.endLine, endCol := vx.pos.endCol }
          holding [kv, vv] (dictSet D kv vv))
        again (.compLoop (.DictComp kx vx (gens2 t0 i0 t1 i1) scope pos) 1 it (.ref D) env)) := by rfl
section
variable {prog : Program} {w : World} {A : Around} {R : Result → Shared → Prop} {s : Shared} {kx vx t0 i0 t1 i1 : Expr} {scope : Scope} {pos : Pos} {it acc : Value} {D : Addr} {env : Env}
abbrev nb (prog : Program) (w : World) (A : Around) (env : Env) (R : Result → Shared → Prop) : Value → Shared → Prop := notedBy (model prog w) A env fun e s' => R (.error e) s'
theorem loop_out (hs : ∀ x, foldedSetIterable i1 env x = pure x) (I : Nat → Shared → Prop)
    (turn : ∀ n s, I n s → wpAny (model prog w) A (pyNext it) (fun r s₁ => match r with
      | none => R (.ok .next) s₁
      | some v => wpAny (model prog w) A (letOwnedTupleGo t0 it v) (fun _ s₂ => wpAny (model prog w) A (assign t0 env v) (fun _ s₃ =>
          wpAny (model prog w) A (eval i1 env) (fun x s₄ => wpAny (model prog w) A (pyIter x) (fun it1 s₅ =>
            codeAny (model prog w) A (.compStart (.DictComp kx vx (gens2 t0 i0 t1 i1) scope pos) 1 it1 acc env) (fun r s' => match r with
              | .ok _ => ∃ m, m < n ∧ I m s'
              | .error _ => False) s₅) (nb prog w A env R) s₄) (nb prog w A env R) s₃) (nb prog w A env R) s₂) (nb prog w A env R) s₁) (nb prog w A env R) s)
    (n : Nat) (h : I n s) : codeAny (model prog w) A (.compLoop (.DictComp kx vx (gens2 t0 i0 t1 i1) scope pos) 0 it acc env) R s := by
  refine codeAny_loop rfl I (fun n s hI => ?_) n h
  show wpAny _ A ((compTurn (.DictComp kx vx (gens2 t0 i0 t1 i1) scope pos) 0 it acc env).onRaise (fun x => do noteFrame x env; theTreesLotGoes x)) _ _ s
  refine wpAny_noted ?_
  rw [turn_out]
  refine wpAny_bind (wpAny_standAt (wpAny_bind (wpAny_mono (turn n s hI) (fun r s₁ h₁ => ?_) fun _ _ h' => h')))
  cases r with
  | none => exact wpAny_pure h₁
  | some v =>
    refine wpAny_bind (wpAny_mono h₁ (fun _ s₂ h₂ => wpAny_bind (wpAny_mono h₂ (fun _ s₃ h₃ => wpAny_bind (wpAny_mono h₃ (fun x s₄ h₄ => ?_) fun _ _ h' => h')) fun _ _ h' => h')) fun _ _ h' => h')
    refine wpAny_bind (wpAny_standAt (wpAny_bind (wpAny_of_eq (hs x) (wpAny_bind (wpAny_holding (wpAny_mono h₄ (fun it1 s₅ h₅ => ?_) fun _ _ h' => h'))))))
    refine wpAny_bind (wpAny_runOwn ?_)
    rw [Around.mark_none]
    refine codeAny_mono h₅ fun r s' hr => ?_
    cases r with
    | ok f => exact wpAny_pure ⟨rfl, hr⟩
    | error e => exact hr.elim
theorem loop_in (I : Nat → Shared → Prop)
    (turn : ∀ n s, I n s → wpAny (model prog w) A (pyNext it) (fun r s₁ => match r with
      | none => R (.ok .next) s₁
      | some v => wpAny (model prog w) A (letOwnedTupleGo t1 it v) (fun _ s₂ => wpAny (model prog w) A (assign t1 env v) (fun _ s₃ =>
          wpAny (model prog w) A (eval kx env) (fun kv s₄ => wpAny (model prog w) A (eval vx env) (fun vv s₅ =>
            wpAny (model prog w) A (dictSet D kv vv) (fun _ s₆ => ∃ m, m < n ∧ I m s₆) (nb prog w A env R) s₅) (nb prog w A env R) s₄) (nb prog w A env R) s₃) (nb prog w A env R) s₂) (nb prog w A env R) s₁) (nb prog w A env R) s)
    (n : Nat) (h : I n s) : codeAny (model prog w) A (.compLoop (.DictComp kx vx (gens2 t0 i0 t1 i1) scope pos) 1 it (.ref D) env) R s := by
  refine codeAny_loop rfl I (fun n s hI => ?_) n h
  show wpAny _ A ((compTurn (.DictComp kx vx (gens2 t0 i0 t1 i1) scope pos) 1 it (.ref D) env).onRaise (fun x => do noteFrame x env; theTreesLotGoes x)) _ _ s
  refine wpAny_noted ?_
  rw [turn_in]
  refine wpAny_bind (wpAny_standAt (wpAny_bind (wpAny_mono (turn n s hI) (fun r s₁ h₁ => ?_) fun _ _ h' => h')))
  cases r with
  | none => exact wpAny_pure h₁
  | some v =>
    refine wpAny_bind (wpAny_mono h₁ (fun _ s₂ h₂ => wpAny_bind (wpAny_mono h₂ (fun _ s₃ h₃ => ?_) fun _ _ h' => h')) fun _ _ h' => h')
    exact wpAny_bind (wpAny_bind (wpAny_mono h₃ (fun kv s₄ h₄ => wpAny_bind (wpAny_holding (wpAny_mono h₄ (fun vv s₅ h₅ => wpAny_bind (wpAny_standAt (wpAny_holding (wpAny_mono h₅ (fun _ s₆ h₆ => wpAny_pure ⟨rfl, h₆⟩) fun _ _ h' => h')))) fun _ _ h' => h'))) fun _ _ h' => h'))
theorem start_in (h0 : codeAny (model prog w) A (.compLoop (.DictComp kx vx (gens2 t0 i0 t1 i1) scope pos) 1 it acc env) R s)
    (h : wpAny (model prog w) A (pyIter it) (fun it' s' => codeAny (model prog w) A (.compLoop (.DictComp kx vx (gens2 t0 i0 t1 i1) scope pos) 1 it' acc env) R s') (nb prog w A env R) s) :
    codeAny (model prog w) A (.compStart (.DictComp kx vx (gens2 t0 i0 t1 i1) scope pos) 1 it acc env) R s := by
  refine codeAny_of_tree ?_
  show wpAny _ _ ((compStart (.DictComp kx vx (gens2 t0 i0 t1 i1) scope pos) 1 it acc env).onRaise (fun x => do noteFrame x env; standAt theWindowsPlace)) _ _ s
  refine wpAny_notedAt ?_
  unfold compStart
  show wpAny _ _ (ask >>= _) _ _ s
  refine wpAny_bind (wpAny_askSetting (wpAny_ite ?_))
  split
  · first
      | exact wpAny_bind (wpAny_pure (wpAny_pure (And.intro rfl h0)))
      | exact wpAny_pure (And.intro rfl h0)
  · first
      | exact wpAny_bind (wpAny_rule (wpAny_bind (wpAny_standAt (wpAny_bind (wpAny_mono h (fun it' s' h' => wpAny_pure (And.intro rfl h')) fun _ _ x => x)))))
      | (refine wpAny_bind (wpAny_rule ?_); show wpAny _ _ (standAt i1.pos >>= _) _ _ s; exact wpAny_bind (wpAny_standAt (wpAny_bind (wpAny_mono h (fun it' s' h' => wpAny_pure (And.intro rfl h')) fun _ _ x => x))))
end
section
variable {X : Cx}
/-- behind the first clause's store the second source's own loop, from which Nx is reached; vs: the block's names, vs1: those of the second target -/
def tDc2 (wi : TI) (g : TG) (wi1 : TI) (g1 : TG) (tk tv : TE) (vs vs1 : List Nat) : TE := fun σ H Q => wi σ H fun J H1 => ∀ D, H1 D = none → ∃ W : Nat → Nat → Hp → Prop, (∃ m, W 0 m (upd H1 D (.dK []))) ∧ ∀ i m H, W i m H →
  (J.stop i H ∧ Q (.ref D) H) ∨ (J.go i H ∧ ∃ Nx : Hp → Prop, (∀ H', Nx H' → ∃ m', m' < m ∧ W (i + 1) m' H') ∧ ∀ x H', J.yld i H x H' → g x (wipe σ vs) H' fun σ2 H3 => wipe σ2 vs = wipe σ vs ∧
    wi1 σ2 H3 fun J1 H4 => ∃ W1 : Nat → Nat → Hp → Prop, (∃ m, W1 0 m H4) ∧ ∀ j k H, W1 j k H →
      (J1.stop j H ∧ Nx H) ∨ (J1.go j H ∧ ∃ Nx1 : Hp → Prop, (∀ H', Nx1 H' → ∃ k', k' < k ∧ W1 (j + 1) k' H') ∧ ∀ x H', J1.yld j H x H' → g1 x (wipe σ2 vs1) H' fun σ3 H5 => wipe σ3 vs1 = wipe σ2 vs1 ∧
        tk σ3 H5 fun y H6 => tv σ3 H6 fun z H7 => ∃ kvs ky, y = kV ky ∧ H7 D = some (.dK kvs) ∧ kvs.length < sizeLine ∧ Nx1 (upd H7 D (.dK (putK kvs ky z)))))
theorem pe_dc2 {kx vx tg iter tg1 iter1 : Expr} {scope : Scope} {own : List (Str × Nat)} {vs1 : List Nat} {pos : Pos} {wi wi1 : TI} {g g1 : TG} {tk tv : TE} (hc : X.calm = true) (hN : X.N.Nodup) (hi : PI X tg iter wi) (ok : BlkOk X.N X.env.scope scope own) (hv : ∀ i ∈ vs1, i ∈ own.map (·.2))
    (hg : ∀ (s : Shared) (H : Hp) (C : Addr) (cl : List (Str × Addr)) (fp : List Addr), PG (X.blk s H scope (compEnvC scope cl C X.env) fp) tg g)
    (hi1 : ∀ (s : Shared) (H : Hp) (C : Addr) (cl : List (Str × Addr)) (fp : List Addr), PI (X.blk s H scope (compEnvC scope cl C X.env) fp) tg1 iter1 wi1)
    (hg1 : ∀ (s : Shared) (H : Hp) (C : Addr) (cl : List (Str × Addr)) (fp : List Addr), PG (X.blk s H scope (compEnvC scope cl C X.env) fp) tg1 g1)
    (hk : ∀ (s : Shared) (H : Hp) (C : Addr) (cl : List (Str × Addr)) (fp : List Addr), PE (X.blk s H scope (compEnvC scope cl C X.env) fp) kx tk)
    (he : ∀ (s : Shared) (H : Hp) (C : Addr) (cl : List (Str × Addr)) (fp : List Addr), PE (X.blk s H scope (compEnvC scope cl C X.env) fp) vx tv) (hs : ∀ x, foldedSetIterable iter X.env x = pure x := by intro _; rfl) (hs1 : ∀ env x, foldedSetIterable iter1 env x = pure x := by intro _ _; rfl) :
    PE X (.DictComp kx vx (gens2 tg iter tg1 iter1) scope pos) (tDc2 wi g wi1 g1 tk tv (own.map (·.2)) vs1) := by
  refine ⟨fun pins s σ H Q I h => ?_⟩
  rw [arm_eval_DictComp]
  have hfree : ∀ y ∈ scope.names, y.2 = .free → ∃ c, X.env.cells.lookup y.1 = some c := fun y hy e => (ok.free y hy e).elim (fun k => I.ok.has _ (.inl k)) fun k => I.ok.has _ (.inr k)
  refine wpAny_comprehension_free rfl hs (closure_ok hfree) ok.kind (fun y hy e => by rw [ok.uniq y hy, e]) (thn (hi.run pins s σ H _ I h) fun xv s1 hx => thn hx fun itv s2 h2 => ?_)
  obtain ⟨it, fp, tn, J, H2, e, I2, T, st2, f2, q⟩ := h2
  subst e
  refine wpAny_newObj_type (newEnv_comp ?_)
  generalize hD : s2.heap.objs.size = D
  obtain ⟨W, ⟨m0, w0⟩, turn⟩ := q D (I2.hok.fresh (Nat.le_of_eq hD))
  -- the new dict
  generalize hs3 : ({ s2 with heap := s2.heap.push { cls := .type "dict", data := .dict #[] } } : Shared) = s3
  have I3 : Inv X pins σ (upd H2 D (.dK [])) s3 := by
    rw [← hs3]
    refine I2.laid (t' := s2.toks) (fun b o e => Heap.get?_push_of_some _ e) (Nat.le_of_eq hD) ?_
    rw [← hD]
    exact dk_empty s2.heap I2.big
  have h3 : s3.heap = s2.heap.push { cls := .type "dict", data := .dict #[] } := by rw [← hs3]
  have f3 : ∀ b ∈ fp, FpOk X pins (upd H2 D (.dK [])) b ∧ b < s3.heap.objs.size := fun b hb => by
    obtain ⟨o, e, _⟩ := T.obj _ _ st2 b hb
    have hlt := Heap.lt_size e
    refine ⟨⟨?_, (f2 b hb).2⟩, by rw [h3, Heap.size_push]; exact Nat.lt_succ_of_lt hlt⟩
    rw [upd_ne (by rw [← hD]; exact Nat.ne_of_lt hlt)]
    exact (f2 b hb).1
  have st3 : tn 0 s3.heap := T.keep _ _ _ st2 fun b _ o e => by rw [h3]; exact Heap.get?_push_of_some _ e
  have I4 := block_start I3 ok hN f3
  have pg := hg s3 (upd H2 D (.dK [])) s3.heap.objs.size (cellsFrom (s3.heap.objs.size + 1) scope.names (cloFrom X.env.cells scope.names [])) fp
  have pi1 := hi1 s3 (upd H2 D (.dK [])) s3.heap.objs.size (cellsFrom (s3.heap.objs.size + 1) scope.names (cloFrom X.env.cells scope.names [])) fp
  have pg1 := hg1 s3 (upd H2 D (.dK [])) s3.heap.objs.size (cellsFrom (s3.heap.objs.size + 1) scope.names (cloFrom X.env.cells scope.names [])) fp
  have pk := hk s3 (upd H2 D (.dK [])) s3.heap.objs.size (cellsFrom (s3.heap.objs.size + 1) scope.names (cloFrom X.env.cells scope.names [])) fp
  have pe := he s3 (upd H2 D (.dK [])) s3.heap.objs.size (cellsFrom (s3.heap.objs.size + 1) scope.names (cloFrom X.env.cells scope.names [])) fp
  have nfp : ∀ b ∈ fp, (upd H2 D (.dK [])) b = none := fun b hb => (f3 b hb).1.1
  have fin0 : ∀ s' m H', Inv X pins σ H' s' → Q (.ref D) H' → s'.heap.Ns s3.heap.objs.size m → FpOk X pins H' s3.heap.objs.size → compPost (model X.prog X.w) X.A X.xe none (EP X pins σ Q) (.ref D) s3.heap.objs.size (.ok .next) s' := fun s' m H' I' q hn f => ⟨m, hn, fun h'' sb => by
    obtain ⟨f0, f1, f2, f3, f4, f5⟩ := f
    exact ⟨.ref D, H', I'.turned (t' := s'.toks) (fun b o hb e => (sb.2 b hb).trans e) f0 f1 f3 f4 f5, rfl, q⟩⟩
  show codeAny _ _ (.compStart (.DictComp kx vx (gens2 tg iter tg1 iter1) scope pos) 0 (.ref it) (.ref D) (compEnvC scope (cellsFrom (s3.heap.objs.size + 1) scope.names (cloFrom X.env.cells scope.names [])) s3.heap.objs.size X.env)) (compPost (model X.prog X.w) X.A X.xe none (EP X pins σ Q) (.ref D) s3.heap.objs.size) { s3 with heap := pushCells (s3.heap.push { cls := .type "dict", data := .dict #[] }) scope.names }
  generalize hce : compEnvC scope (cellsFrom (s3.heap.objs.size + 1) scope.names (cloFrom X.env.cells scope.names [])) s3.heap.objs.size X.env = ce at I4 pg pk pe pi1 pg1 ⊢
  have cL : ce.locals = s3.heap.objs.size := by subst hce; rfl
  generalize hH3 : upd H2 D (.dK []) = H3 at I3 I4 pg pk pe pi1 pg1 w0 nfp f3
  generalize hs4 : ({ s3 with heap := pushCells (s3.heap.push { cls := .type "dict", data := .dict #[] }) scope.names } : Shared) = s4 at I4 ⊢
  have st4 : tn 0 s4.heap := T.keep _ _ _ st3 fun b _ o e => by rw [← hs4]; exact pushCells_keeps _ _ _ _ (Heap.get?_push_of_some _ e)
  have stat : ∀ {σ' : L2.St} {H' : Hp} {s' : Shared}, Inv (X.blk s3 H3 scope ce fp) [] σ' H' s' → (∀ b ∈ fp, H' b = none) → ∀ b ∈ fp, FpOk (X.blk s3 H3 scope ce fp) [] H' b := fun {σ' H' s'} I' hn b hb =>
    ⟨hn b hb, (I'.ok.exf b hb).1, I'.ok.exfs b hb, .inl hb, fun x c e => (I'.ok.exf b hb).2 x c e, fun p hp => absurd (show p ∈ ([] : List (Addr × Obj)) ++ [] from hp) (by simp)⟩
  have loop : codeAny (model X.prog X.w) X.A (.compLoop (.DictComp kx vx (gens2 tg iter tg1 iter1) scope pos) 0 (.ref it) (.ref D) ce) (compPost (model X.prog X.w) X.A X.xe none (EP X pins σ Q) (.ref D) s3.heap.objs.size) s4 := by
    refine loop_out (hs1 ce) (fun n s' => ∃ i H', Inv (X.blk s3 H3 scope ce fp) [] (wipe σ (own.map (·.2))) H' s' ∧ tn i s'.heap ∧ (∀ b ∈ fp, H' b = none) ∧ W i n H') ?_ m0 ⟨0, H3, I4, st4, nfp, w0⟩
    rintro n s5 ⟨i, H5, I5, st5, n5, w5⟩
    rcases turn i n H5 w5 with ⟨stop, qq⟩ | ⟨go, Nx, hNx, step⟩
    · refine thnF (T.done (X.blk s3 H3 scope ce fp) rfl rfl rfl hc i [] s5 _ H5 (fun _ _ => False) I5 (stat I5 n5) st5 stop) fun r s6 ⟨hr, I6⟩ => ?_
      subst hr
      have I7 : Inv X pins σ H5 s6 := I3.call' (ch := fp) I6.os I6.base I6.hok I6.bare fun b hb => ⟨(f3 b hb).1.2.2.2.1, (f3 b hb).1.2.1, (f3 b hb).1.2.2.2.2.1, (f3 b hb).1.2.2.2.2.2⟩
      have nC : H5 s3.heap.objs.size = none := by
        have z : H5 ce.locals = none := I6.free
        rwa [cL] at z
      obtain ⟨m, hn, _⟩ := I6.loc
      have hn : s6.heap.Ns ce.locals m := hn
      rw [cL] at hn
      exact fin0 s6 m H5 I7 qq hn (I3.fpOk (Nat.le_refl _) nC)
    · refine thnF (T.item (X.blk s3 H3 scope ce fp) rfl rfl rfl hc i [] s5 _ H5 (fun _ _ => False) I5 (stat I5 n5) st5 go) fun r s6 ⟨u, hr, h6⟩ => ?_
      subst hr
      refine thnF h6 fun _ s7 ⟨x, H7, I7, r7, y7, st7, n7⟩ => ?_
      have I7' := I7.pinned (stat I7 n7) (T.obj _ _ st7)
      refine thnF (pg.run _ s7 _ H7 x u _ I7' r7 (step x H7 y7)) fun _ s8 ⟨σ8, H8, I8, hw8, q8⟩ => ?_
      have fin : ∀ {σ9 : L2.St} {s' : Shared} {H' : Hp}, Inv (X.blk s3 H3 scope ce fp) ([] ++ pinsAt fp s7.heap) σ9 H' s' → (wipe σ (own.map (·.2))).length = σ9.length → (∀ (j : Nat) v, (wipe σ (own.map (·.2)))[j]? = some (some v) → σ9[j]? = some (some v)) → Nx H' →
          ∃ m, m < n ∧ ∃ i H', Inv (X.blk s3 H3 scope ce fp) [] (wipe σ (own.map (·.2))) H' s' ∧ tn i s'.heap ∧ (∀ b ∈ fp, H' b = none) ∧ W i m H' := fun {σ9 s' H'} I' hl hk nx => by
        obtain ⟨m', hm, w'⟩ := hNx H' nx
        have pin' : ∀ b ∈ fp, ∀ o, s7.heap.get? b = some o → s'.heap.get? b = some o ∧ H' b = none := fun b hb o e =>
          let z := I'.pin (b, o) (List.mem_append_right _ (List.mem_append_right _ (mem_pinsAt hb e)))
          ⟨z.1, z.2.1⟩
        refine ⟨m', hm, i + 1, H', (I'.unpinned (pins := [])).weak hl hk, T.keep _ _ _ st7 fun b hb o e => (pin' b hb o e).1, fun b hb => ?_, w'⟩
        obtain ⟨o, e, _⟩ := T.obj _ _ st7 b hb
        exact (pin' b hb o e).2
      have hl8 : (wipe σ (own.map (·.2))).length = σ8.length := by rw [← hw8, wipe_length]
      have hk9 : ∀ (j : Nat) v, (wipe σ (own.map (·.2)))[j]? = some (some v) → (wipe σ8 vs1)[j]? = some (some v) := fun j v e => by
        rw [← hw8] at e
        obtain ⟨e1, e2⟩ := wipe_some e
        rw [wipe_out fun z => e2 (hv j z)]
        exact e1
      refine thnF (pi1.run _ s8 σ8 H8 _ I8 q8) fun xv s10 hx => thnF hx fun itv s11 h11 => ?_
      obtain ⟨it1, fp1, tn1, J1, H11, e1, I11, T1, st11, f11, W1, ⟨m1, w1⟩, turn1⟩ := h11
      subst e1
      have stat1 : ∀ {H' : Hp}, (∀ b ∈ fp1, H' b = none) → ∀ b ∈ fp1, FpOk (X.blk s3 H3 scope ce fp) ([] ++ pinsAt fp s7.heap) H' b := fun hn b hb => ⟨hn b hb, (f11 b hb).2⟩
      have loop1 : codeAny (model X.prog X.w) X.A (.compLoop (.DictComp kx vx (gens2 tg iter tg1 iter1) scope pos) 1 (.ref it1) (.ref D) ce)
          (fun r s' => match r with
            | .ok _ => ∃ m, m < n ∧ ∃ i H', Inv (X.blk s3 H3 scope ce fp) [] (wipe σ (own.map (·.2))) H' s' ∧ tn i s'.heap ∧ (∀ b ∈ fp, H' b = none) ∧ W i m H'
            | .error _ => False) s11 := by
        refine loop_in (fun k s' => ∃ j H', Inv (X.blk s3 H3 scope ce fp) ([] ++ pinsAt fp s7.heap) (wipe σ8 vs1) H' s' ∧ tn1 j s'.heap ∧ (∀ b ∈ fp1, H' b = none) ∧ W1 j k H') ?_ m1 ⟨0, H11, I11.weak (wipe_length _ _) (fun j v e => (wipe_some e).1), st11, fun b hb => (f11 b hb).1, w1⟩
        rintro k s12 ⟨j, H12, I12, st12, n12, w12⟩
        rcases turn1 j k H12 w12 with ⟨stop1, nx1⟩ | ⟨go1, Nx1, hNx1, step1⟩
        · refine thnF (T1.done (X.blk s3 H3 scope ce fp) rfl rfl rfl hc j _ s12 (wipe σ8 vs1) H12 (fun _ _ => False) I12 (stat1 n12) st12 stop1) fun r s13 ⟨hr, I13⟩ => ?_
          subst hr
          exact fin I13 (hl8.trans (wipe_length σ8 vs1).symm) hk9 nx1
        · refine thnF (T1.item (X.blk s3 H3 scope ce fp) rfl rfl rfl hc j _ s12 (wipe σ8 vs1) H12 (fun _ _ => False) I12 (stat1 n12) st12 go1) fun r s13 ⟨u1, hr, h13⟩ => ?_
          subst hr
          refine thnF h13 fun _ s14 ⟨x1, H14, I14, r14, y14, st14, n14⟩ => ?_
          have I14' := I14.pinned (stat1 n14) (T1.obj _ _ st14)
          refine thnF (pg1.run _ s14 (wipe σ8 vs1) H14 x1 u1 _ I14' r14 (step1 x1 H14 y14)) fun _ s15 ⟨σ15, H15, I15, hw15, q15⟩ => ?_
          have fin1 : ∀ {s' : Shared} {H' : Hp}, Inv (X.blk s3 H3 scope ce fp) (([] ++ pinsAt fp s7.heap) ++ pinsAt fp1 s14.heap) σ15 H' s' → Nx1 H' → ∃ m, m < k ∧ ∃ j H', Inv (X.blk s3 H3 scope ce fp) ([] ++ pinsAt fp s7.heap) (wipe σ8 vs1) H' s' ∧ tn1 j s'.heap ∧ (∀ b ∈ fp1, H' b = none) ∧ W1 j m H' := fun {s' H'} I' nx => by
            obtain ⟨m', hm, w'⟩ := hNx1 H' nx
            have pin' : ∀ b ∈ fp1, ∀ o, s14.heap.get? b = some o → s'.heap.get? b = some o ∧ H' b = none := fun b hb o e =>
              let z := I'.pin (b, o) (List.mem_append_right _ (List.mem_append_right _ (mem_pinsAt hb e)))
              ⟨z.1, z.2.1⟩
            refine ⟨m', hm, j + 1, H', I'.unpinned.weak (by rw [← hw15, wipe_length]) (fun j v e => by rw [← hw15] at e; exact (wipe_some e).1), T1.keep _ _ _ st14 fun b hb o e => (pin' b hb o e).1, fun b hb => ?_, w'⟩
            obtain ⟨o, e, _⟩ := T1.obj _ _ st14 b hb
            exact (pin' b hb o e).2
          refine thnF (pk.run _ s15 σ15 H15 _ I15 q15) fun z s16 ⟨yk, H16, I16, r16, q16⟩ => ?_
          refine thnF (pe.run _ s16 σ15 H16 _ I16 q16) fun z2 s17 ⟨yv, H17, I17, r17, kvs, ky, ek, hD17, hz17, nx⟩ => ?_
          subst ek
          exact d_dictSet (X := X.blk s3 H3 scope ce fp) I17 hD17 hz17 r16 r17 fun s18 I18 => fin1 I18 nx
      exact start_in loop1 (T1.self X.A 0 _ _ _ st11 loop1)
  exact codeAny_compStart_dict loop (T.self X.A 0 _ _ _ st4 loop)
end
end Fp

/-! A comprehension whose elements are made while the hand turns. -/
namespace Fp
open PySem L2
theorem lc_mutR {J : It} {n : Nat} {G : Hp → Prop} {Y : Nat → Hp → V → Hp → Prop} (w : Walk J n G Y) {f : Addr} {o0 : HO} {j : Nat} {te : TE} {vs : List Nat} {σ : St} {H1 : Hp} {Q : VK} (hf : H1 f = some o0) (hn : n ≤ sizeLine) (I : Hp → Prop) (h0 : I H1)
    (hI : ∀ H D o, H1 D = none → I H → I (upd H D o)) (hG : ∀ H, ExB f H1 H → I H → G H) (R : Nat → V → Hp → Prop) (hR : ∀ i y H H', ExB f H H' → I H → R i y H → R i y H') (hRu : ∀ i y H D ys zs, H D = some (.lst ys) → R i y H → R i y (upd H D (.lst zs))) (hw : ∀ x, wipe ((wipe σ vs).set j x) vs = wipe σ vs)
    (hs : ∀ i x H H' (K : VK), i < n → ExB f H1 H → I H → Y i H x H' → (∀ y H4, ExB f H H4 → I H4 → R i y H4 → K y H4) → te ((wipe σ vs).set j (some x)) H' K)
    (hd : ∀ D H' ys, H1 D = none → ExB f H1 H' → I H' → H' D = some (.lst ys) → ys.length = n → (∀ (i : Nat) (y : V), ys[i]? = some y → R i y H') → Q (.ref D) H') :
    LcG J (gName j) tYes te vs σ H1 Q := by
  intro D hD
  have hDf : D ≠ f := Ne.symm (ne_of_none hf hD)
  refine lc_it w (fun i H => ExB f H1 H ∧ I H ∧ ∃ ys, H D = some (.lst ys) ∧ ys.length = i ∧ ∀ i y, ys[i]? = some y → R i y H) ⟨(Ex.new hD).exb, hI _ _ _ hD h0, [], upd_same, rfl, fun _ _ h => nomatch h⟩ (fun i H _ p => hG H p.1 p.2.1) ?_ (fun H p => ?_)
  · rintro i x H H' hi ⟨e, hi1, ys, hacc, hl, hp⟩ hy
    refine ⟨hw _, ?_⟩
    unfold tYes
    dsimp only
    rw [if_pos rfl]
    refine hs i x H H' _ hi e hi1 hy fun z H4 e4 i4 pz => ⟨ys, e4 _ _ hDf hacc, by omega, ?_, hI _ _ _ hD i4, ys ++ [z], upd_same, by rw [List.length_append, hl]; rfl, fun k y hy => ?_⟩
    · exact fun a o hne q => by rw [upd_ne (ne_of_none q hD)]; exact e4 a o hne (e a o hne q)
    · refine hRu _ _ _ _ _ _ (e4 _ _ hDf hacc) ?_
      rcases Nat.lt_or_ge k ys.length with hk | hk
      · rw [List.getElem?_append_left hk] at hy
        exact hR _ _ _ _ e4 hi1 (hp k y hy)
      · rw [List.getElem?_append_right hk] at hy
        have hk2 : k - ys.length = 0 := by
          rcases Nat.eq_zero_or_pos (k - ys.length) with q | q
          · exact q
          · rw [List.getElem?_eq_none (by simp; omega)] at hy; cases hy
        rw [hk2] at hy
        obtain rfl : z = y := Option.some.inj hy
        have : k = i := by omega
        subst this
        exact pz
  · obtain ⟨e, hi, ys, h, hl, hp⟩ := p
    exact hd D H ys hD e hi h hl hp
/-- each is one of such: they are so in pairs -/
theorem paired_all {α β : Type} {F : α → β → Prop} {g : α → V} : ∀ {ys : List V}, (∀ (i : Nat) (y : V), ys[i]? = some y → ∃ a b, y = g a ∧ F a b) → ∃ as bs, ys = List.map g as ∧ Paired F as bs
  | [], _ => ⟨[], [], rfl, .nil⟩
  | y :: ys, h => by
    obtain ⟨a, b, rfl, hab⟩ := h 0 y rfl
    obtain ⟨as, bs, rfl, hp⟩ := paired_all (ys := ys) fun i z hz => h (i + 1) z hz
    exact ⟨a :: as, b :: bs, rfl, .cons hab hp⟩
end Fp

/-! Dicts of any values by texts: comprehensions over their keys; loops over a dict's keys that change no object. -/
namespace Fp
open PySem L2
/-- all but d's object and lists stand -/
def ExD (d : Addr) (H H' : Hp) : Prop := ∀ a o, a ≠ d → (∀ xs, o ≠ .lst xs) → H a = some o → H' a = some o
theorem ExD.trans {d : Addr} {H H1 H2 : Hp} (a : ExD d H H1) (b : ExD d H1 H2) : ExD d H H2 := fun x o n m h => b x o n m (a x o n m h)
theorem Ex.exd {d : Addr} {H H' : Hp} (e : Ex H H') : ExD d H H' := fun a o _ _ h => e a o h
theorem ExD.upd {d : Addr} {H : Hp} {a : Addr} {o : HO} {xs : List V} (h : H a = some (.lst xs)) : ExD d H (L2.upd H a o) := fun b u _ n q => by
  rw [upd_ne (fun e => by subst e; rw [h] at q; exact n xs (Option.some.inj q).symm)]
  exact q
/-- a bag stands, whatever a locked dict's object becomes -/
theorem BagAt.exd {Cs : Addr → Prop} {d : Addr} {od : Obj} {kvs : List (Key × V)} {H H' : Hp} {a : Addr} {p : Int} {s : Bg} (e : ExD d H H') (hd : H d = some (.frz od (.dK kvs))) (b : BagAt Cs H a p s) : BagAt Cs H' a p s := by
  obtain ⟨C, dx, d', k, t, h0, h1, h2, ⟨qs, o, h3, h4, h5⟩⟩ := b.ex
  refine ⟨C, dx, d', k, t, h0, e _ _ (ne_of h1 hd (fun z => nomatch z)) (fun _ z => nomatch z) h1, e _ _ (ne_of h2 hd (fun z => nomatch z)) (fun _ z => nomatch z) h2, ⟨qs, o, e _ _ (ne_of h3 hd (fun z => by injection z with _ z2; cases z2)) (fun _ z => nomatch z) h3, h4, Paired.mapP h5 fun q kv z => e _ _ (ne_of z hd (fun z => nomatch z)) (fun _ z => nomatch z) z⟩⟩
/-- while the dict at d is walked -/
structure LkK (d : Addr) (kvs : List (Key × V)) (H H' : Hp) : Prop where
  keep : ∀ a o, a ≠ d → H a = some o → H' a = some o
  self : ∃ od, H' d = some (.frz od (.dK kvs))
theorem LkK.ex {d : Addr} {kvs : List (Key × V)} {H H' H'' : Hp} (l : LkK d kvs H H') (e : Ex H' H'') : LkK d kvs H H'' := ⟨fun a o n h => e _ _ (l.keep a o n h), let ⟨od, h⟩ := l.self; ⟨od, e _ _ h⟩⟩
theorem LkK.rd {d : Addr} {kvs : List (Key × V)} {H H' : Hp} (l : LkK d kvs H H') : Rd H' d (.dK kvs) := .inr l.self
/-- a bag stands while another dict is walked -/
theorem BagAt.lk {Cs : Addr → Prop} {d : Addr} {kvs : List (Key × V)} {H H' : Hp} {a : Addr} {p : Int} {s : Bg} (l : LkK d kvs H H') (hd : H d = some (.dK kvs)) (hk : kvs ≠ toK s) (b : BagAt Cs H a p s) : BagAt Cs H' a p s := by
  obtain ⟨C, dx, d', k, t, h0, h1, h2, ⟨qs, o, h3, h4, h5⟩⟩ := b.ex
  exact ⟨C, dx, d', k, t, h0, l.keep _ _ (ne_of h1 hd (fun z => nomatch z)) h1, l.keep _ _ (ne_of h2 hd (fun z => hk (HO.dK.inj z).symm)) h2, ⟨qs, o, l.keep _ _ (ne_of h3 hd (fun z => nomatch z)) h3, h4, Paired.mapP h5 fun q kv z => l.keep _ _ (ne_of z hd (fun z => nomatch z)) z⟩⟩
/-- anything over a dict's keys: the dict locked, then unlocked; it was unlocked -/
theorem lockK {σ : St} {H : Hp} {Q : VK} {d : Addr} {kvs : List (Key × V)} {t : TE} (hd : H d = some (.dK kvs))
    (core : ∀ (Hl : Hp) (od : Obj) (Q' : VK), Hl d = some (.frz od (.dK kvs)) → LkK d kvs H Hl → (∀ a, Hl a = none → H a = none) →
      (∀ v H', Ex Hl H' → (∀ H2, Ex H H2 → (∀ a, a ≠ d → H2 a = H' a) → ExD d H' H2 → Q v H2) → Q' v H') → t σ Hl Q') : tLockRE t σ H Q := by
  refine .inl ⟨d, _, hd, trivial, fun od => ?_⟩
  refine core _ od _ upd_same ⟨fun a o ha q => by rw [upd_ne ha]; exact q, od, upd_same⟩ (fun a ha => ?_) fun v H' e hq => ?_
  · by_cases q : a = d
    · subst q; rw [upd_same] at ha; cases ha
    · rw [upd_ne q] at ha; exact ha
  · have hdl : H' d = some (.frz od (.dK kvs)) := e _ _ upd_same
    refine ⟨hdl, hq _ (fun a o q => ?_) (fun a ha => by rw [upd_ne ha]) (fun a o n _ q => by rw [upd_ne n]; exact q)⟩
    by_cases ha : a = d
    · subst ha
      rw [hd] at q
      cases q
      exact upd_same
    · rw [upd_ne ha]
      exact e a o (by rw [upd_ne ha]; exact q)
theorem lcK_rel {σ : St} {H : Hp} {Q : VK} {d : Addr} {kvs : List (Key × V)} {te0 te : TE} {j : Nat} {vs : List Nat} (hd : H d = some (.dK kvs)) (hz : kvs.length ≤ sizeLine)
    (he : ∀ (H' : Hp) (Q : VK), LkK d kvs H H' → Q (.ref d) H' → te0 σ H' Q)
    (R : Key × V → V → Hp → Prop) (hR : ∀ e y H H', (∃ od, H d = some (.frz od (.dK kvs))) → ExD d H H' → R e y H → R e y H') (hw : ∀ x, wipe ((wipe σ vs).set j x) vs = wipe σ vs)
    (hs : ∀ (i : Nat) (k : Key) (v : V) (H' : Hp) (K : VK), kvs[i]? = some (k, v) → LkK d kvs H H' → (∀ y H4, Ex H' H4 → R (k, v) y H4 → K y H4) → te ((wipe σ vs).set j (some (kV k))) H' K)
    (hend : ∀ D H' ys, H D = none → Ex H H' → H' D = some (.lst ys) → Paired (fun y e => R e y H') ys kvs → Q (.ref D) H') : tLockRE (tLc (iKeys te0) (gName j) tYes te vs) σ H Q := by
  refine lockK hd fun Hl od Q' hl l0 hnone hq => ?_
  refine he Hl _ l0 ⟨d, od, rfl, .inl ⟨kvs, hl, ?_⟩⟩
  intro D hD
  refine lc_it walk_keys (fun i H => Ex Hl H ∧ ∃ ys, H D = some (.lst ys) ∧ Paired (fun y e => R e y H) ys (kvs.take i)) ⟨Ex.new hD, [], upd_same, .nil⟩ (fun i H _ p => p.1 _ _ hl) ?_ (fun H p => ?_)
  · rintro i x H1 H' hi ⟨e, ys, hacc, hp⟩ ⟨rfl, k, v, hk, rfl⟩
    refine ⟨hw _, ?_⟩
    unfold tYes
    dsimp only
    rw [if_pos rfl]
    have hlen : ys.length = i := by rw [hp.length, List.length_take]; omega
    refine hs i k v H' _ hk (l0.ex e) fun z H4 e4 rz => ⟨ys, e4 _ _ hacc, by omega, ?_, ys ++ [z], upd_same, ?_⟩
    · exact Ex.mut (e.trans e4) hD
    · have tu : ExD d H4 (L2.upd H4 D (.lst (ys ++ [z]))) := ExD.upd (e4 _ _ hacc)
      have hdl : H' d = some (.frz od (.dK kvs)) := e _ _ hl
      have hdl4 := e4 _ _ hdl
      have etk : kvs.take (i + 1) = kvs.take i ++ [(k, v)] := by rw [List.take_add_one, hk]; rfl
      rw [etk]
      exact Paired.snoc (Paired.mapP hp fun a b q => hR _ _ _ _ ⟨od, hdl⟩ (e4.exd.trans tu) q) (hR _ _ _ _ ⟨od, hdl4⟩ tu rz)
  · obtain ⟨e, ys, h, hp⟩ := p
    rw [List.take_length] at hp
    have hDd : D ≠ d := fun z => by subst z; rw [hl] at hD; cases hD
    exact hq _ H e fun H2 e2 hs2 ht => hend D H2 ys (hnone _ hD) e2 (by rw [hs2 D hDd]; exact h) (Paired.mapP hp fun a b q => hR _ _ _ _ ⟨od, e _ _ hl⟩ ht q)
/-- a loop over a dict's keys that changes no object that was there -/
theorem for_keysE {σ : St} {H : Hp} {D : Ends} {d : Addr} {s : Bg} {te : TE} {j : Nat} {tb : TS} (hd : Rd H d (.dK (toK s)))
    (he : ∀ (H' : Hp) (Q : VK), LkEx d s H H' → Q (.ref d) H' → te σ H' Q)
    (I : Nat → St → Hp → Prop) (h0 : I 0 σ H) (hI : ∀ i σ H H', (∀ a o, a ≠ d → H a = some o → H' a = some o) → I i σ H → I i σ H')
    (hs : ∀ i w n σ' H' (E : Ends), s[i]? = some (w, n) → I i σ' H' → LkEx d s H H' → (∀ σ'' H'', I (i + 1) σ'' H'' → Ex H' H'' → E.nx σ'' H'') → tb E (σ'.set j (some (.str w))) H')
    (hend : ∀ σ' H', I s.length σ' H' → Ex H H' → D.nx σ' H') : tLockR (tFor (iKeys te) (gName j) tb) D σ H := by
  have core : ∀ (Hl : Hp) (od : Obj) (E : Ends), Hl d = some (.frz od (.dK (toK s))) → LkEx d s H Hl → I 0 σ Hl → (∀ σ' H', I s.length σ' H' → Ex Hl H' → E.nx σ' H') → tFor (iKeys te) (gName j) tb E σ Hl := by
    intro Hl od E hl l0 hI0 hE
    refine he Hl _ l0 ⟨d, od, rfl, .inl ⟨toK s, hl, ?_⟩⟩
    refine for_it walk_keys (fun i σ' H' => I i σ' H' ∧ Ex Hl H') ⟨hI0, Ex.refl _⟩ (fun i σ' H' _ p => p.2 _ _ hl) ?_ (fun σ' H' p => ?_)
    · rintro i x σ' H' H1 hi ⟨hi1, e⟩ ⟨rfl, k, v, hk, rfl⟩
      obtain ⟨w, n, hw, ekv⟩ := toK_get hk
      cases ekv
      exact hs i w n σ' H1 _ hw hi1 (l0.ex e) fun σ'' H'' i2 e2 => ⟨i2, e.trans e2⟩
    · obtain ⟨hi1, e⟩ := p
      rw [toK_len] at hi1
      exact hE σ' H' hi1 e
  rcases hd with hd | ⟨od, hd⟩
  · refine .inl ⟨d, _, hd, trivial, fun od => ?_⟩
    refine core _ od _ upd_same ⟨fun a o ha q => by rw [upd_ne ha]; exact q, .inr ⟨od, upd_same⟩⟩ (hI _ _ _ _ (fun a o ha q => by rw [upd_ne ha]; exact q) h0) (fun σ' H' hi1 e => ?_)
    have hdl : H' d = some (.frz od (.dK (toK s))) := e _ _ upd_same
    refine ⟨hdl, hend σ' _ (hI _ _ _ _ (fun a o ha q => by rw [upd_ne ha]; exact q) hi1) (fun a o q => ?_)⟩
    by_cases ha : a = d
    · subst ha
      rw [hd] at q
      cases q
      exact upd_same
    · rw [upd_ne ha]
      exact e a o (by rw [upd_ne ha]; exact q)
  · exact .inr (core H od D hd ⟨fun a o _ h => h, .inr ⟨od, hd⟩⟩ h0 hend)
/-! ### the letters of words -/
def chS (c : Nat) : Str := ⟨#[c]⟩
theorem chS_inj {a b : Nat} (h : chS a = chS b) : a = b := by
  have := congrArg (fun z : Str => z.cps.toList) h
  simpa [chS] using this
/-- a dict of some letters of the words ws -/
def LetK (ws : List Str) (kvs : List (Key × V)) : Prop := ∃ cs : List Nat, kvs = cs.map (fun c => ((Sum.inr (chS c) : Key), V.bl true)) ∧ cs.Nodup ∧ ∀ c ∈ cs, ∃ w ∈ ws, c ∈ w.cps.toList
theorem LetK.put {ws : List Str} {kvs : List (Key × V)} {c : Nat} {w : Str} (h : LetK ws kvs) (hw : w ∈ ws) (hc : c ∈ w.cps.toList) : LetK ws (putK kvs (Sum.inr (chS c)) (.bl true)) := by
  obtain ⟨cs, rfl, hn, hm⟩ := h
  by_cases hcs : c ∈ cs
  · refine ⟨cs, ?_, hn, hm⟩
    unfold putK
    rw [if_pos]
    · rw [List.map_map]
      refine List.map_congr_left fun d _ => ?_
      show (if (Sum.inr (chS d) : Key) = Sum.inr (chS c) then ((Sum.inr (chS d) : Key), V.bl true) else ((Sum.inr (chS d) : Key), V.bl true)) = _
      split <;> rfl
    · exact List.any_eq_true.mpr ⟨_, List.mem_map.mpr ⟨c, hcs, rfl⟩, decide_eq_true rfl⟩
  · refine ⟨cs ++ [c], ?_, ?_, fun d hd => ?_⟩
    · unfold putK
      rw [if_neg, List.map_append]
      · rfl
      · intro z
        obtain ⟨kv, h1, h2⟩ := List.any_eq_true.mp z
        obtain ⟨d, hd, rfl⟩ := List.mem_map.mp h1
        have := chS_inj (Sum.inr.inj (of_decide_eq_true h2))
        rw [this] at hd
        exact hcs hd
    · rw [List.nodup_append]
      exact ⟨hn, by simp, fun a ha b hb e => by rw [List.mem_singleton.mp hb] at e; rw [e] at ha; exact hcs ha⟩
    · rcases List.mem_append.mp hd with h | h
      · exact hm d h
      · rw [List.mem_singleton.mp h]; exact ⟨w, hw, hc⟩
/-- {letter: True for word in s for letter in word} -/
theorem dc2_letters {σ : St} {H : Hp} {Q : VK} {d : Addr} {s : Bg} {te0 te1 tk tv : TE} {j j1 : Nat} {vs vs1 : List Nat} (hd : Rd H d (.dK (toK s))) (hz : ∀ u ∈ keys s, ∀ c ∈ u.cps.toList, c = 120 ∨ c = 121 ∨ c = 122)
    (he : ∀ (H' : Hp) (Q : VK), Q (.ref d) H' → te0 σ H' Q) (hw : ∀ x, wipe ((wipe σ vs).set j x) vs = wipe σ vs)
    (h1 : ∀ (w : Str) (H' : Hp) (R : It → Hp → Prop), R (Its w) H' → iStr te1 ((wipe σ vs).set j (some (.str w))) H' R) (hw1 : ∀ (w : Str) x, wipe ((wipe ((wipe σ vs).set j (some (.str w))) vs1).set j1 x) vs1 = wipe ((wipe σ vs).set j (some (.str w))) vs1)
    (hk : ∀ (w : Str) (c : Nat) (H' : Hp) (Q : VK), Q (.str (chS c)) H' → tk ((wipe ((wipe σ vs).set j (some (.str w))) vs1).set j1 (some (.str (chS c)))) H' Q)
    (hv : ∀ (w : Str) (c : Nat) (H' : Hp) (Q : VK), Q (.bl true) H' → tv ((wipe ((wipe σ vs).set j (some (.str w))) vs1).set j1 (some (.str (chS c)))) H' Q)
    (hend : ∀ D H' kvs, H D = none → Ex H H' → H' D = some (.dK kvs) → LetK (keys s) kvs → Q (.ref D) H') : tLockRE (tDc2 (iKeys te0) (gName j) (iStr te1) (gName j1) tk tv vs vs1) σ H Q := by
  refine lock_any hd fun Hl od Q' hl l0 hnone hq => ?_
  refine he Hl _ ⟨d, od, rfl, .inl ⟨toK s, hl, fun D hD => ?_⟩⟩
  have hDd : D ≠ d := fun z => by subst z; rw [hl] at hD; cases hD
  have small : ∀ kvs, LetK (keys s) kvs → kvs.length < sizeLine := fun kvs ⟨cs, e, hn, hm⟩ => by
    rw [e, List.length_map]
    have := len_sub hn (m := [120, 121, 122]) fun c hc => by
      obtain ⟨w, hw, hcw⟩ := hm c hc
      rcases hz w hw c hcw with rfl | rfl | rfl <;> simp
    exact Nat.lt_of_le_of_lt this (by decide)
  refine ⟨fun i m H' => m = s.length - i ∧ i ≤ s.length ∧ Ex Hl H' ∧ ∃ kvs, H' D = some (.dK kvs) ∧ LetK (keys s) kvs, ⟨s.length, by simp, Nat.zero_le _, Ex.new hD, [], upd_same, [], rfl, List.nodup_nil, fun _ z => nomatch z⟩, ?_⟩
  rintro i m H2 ⟨rfl, hi, e2, kvs, hD2, hL⟩
  have hl2 := e2 _ _ hl
  by_cases hlt : i < s.length
  · refine .inr ⟨⟨hl2, by rw [toK_len]; exact hlt⟩, fun H' => Ex Hl H' ∧ ∃ kvs, H' D = some (.dK kvs) ∧ LetK (keys s) kvs, fun H' p => ⟨s.length - (i + 1), by omega, rfl, hlt, p.1, p.2⟩, ?_⟩
    rintro x H' ⟨rfl, k, v, hk', rfl⟩
    obtain ⟨w, n, hw', ekv⟩ := toK_get hk'
    cases ekv
    have hmem : w ∈ keys s := mem_keys.mpr ⟨n, List.mem_of_getElem? hw'⟩
    refine ⟨hw _, ?_⟩
    refine h1 w H' _ ?_
    refine ⟨fun j k H3 => k = w.cps.size - j ∧ j ≤ w.cps.size ∧ Ex Hl H3 ∧ ∃ kvs, H3 D = some (.dK kvs) ∧ LetK (keys s) kvs, ⟨w.cps.size, by simp, Nat.zero_le _, e2, kvs, hD2, hL⟩, ?_⟩
    rintro a b H3 ⟨rfl, ha, e3, kvs3, hD3, hL3⟩
    by_cases hla : a < w.cps.size
    · refine .inr ⟨hla, fun H' => Ex Hl H' ∧ ∃ kvs, H' D = some (.dK kvs) ∧ LetK (keys s) kvs, fun H' p => ⟨w.cps.size - (a + 1), by omega, rfl, hla, p.1, p.2⟩, ?_⟩
      rintro x H4 ⟨rfl, c, hc, rfl⟩
      refine ⟨hw1 w _, ?_⟩
      refine hk w c H4 _ (hv w c H4 _ ⟨kvs3, Sum.inr (chS c), rfl, hD3, small _ hL3, Ex.mut e3 hD, _, upd_same, hL3.put hmem ?_⟩)
      have : w.cps.toList[a]? = some c := by rw [Array.getElem?_toList]; exact hc
      exact List.mem_of_getElem? this
    · exact .inl ⟨by show w.cps.size ≤ a; omega, e3, kvs3, hD3, hL3⟩
  · have ei : i = s.length := by omega
    subst ei
    refine .inl ⟨⟨hl2, by rw [toK_len]; exact Nat.le_refl _⟩, ?_⟩
    exact hq _ H2 (fun D' z => by cases z; exact hnone _ hD) e2 fun H3 e3 hs3 ht => hend D H3 kvs (hnone _ hD) e3 (by rw [hs3 D hDd]; exact hD2) hL
end Fp

/-! A caught error's class asked; beginnings of texts. -/
namespace Fp
open PySem L2 PyProof.Rows
section
variable {X : Cx}
/-- isinstance(e, c), e the error that the suite holds, of a class without own fields -/
def rIsEx (K : PySem.W.Frag) (cls : Value) (d : Option Addr) (a : Addr) : List V → Hp → VK → Prop := fun xs H Q => ∃ (D : Addr) (c : V) (cv : Value) (b : Bool), cls = .ref D ∧ d = none ∧ ExcC K D ∧ xs = [.ref a, c] ∧ (∀ u, RelV c u → u = cv) ∧ PySem.W.kitOne K (.ref D) cv = some b ∧ Q (.bl b) H
theorem call_isEx {a : Addr} {oe : Obj} {cls : Value} {d : Option Addr} {pn : List (Addr × Obj)} (hz : Zc cls d oe) (hf : ∃ vs, oe.data = .fields vs) : CallR (X.suite a ((a, oe) :: pn)) (.builtin "isinstance") (rIsEx X.K cls d a) := by
  intro pins s σ H xs us Q I r h
  obtain ⟨D, c, cv, b, rfl, rfl, C, rfl, hcv, e, q⟩ := h
  exact call_isE C hz hf pins s σ H _ us Q I r ⟨c, cv, b, rfl, hcv, e, q⟩
theorem g_isEx {K : PySem.W.Frag} {a D C : Addr} {b : Bool} {H : Hp} {Q : VK} (hD : ExcC K D) (hk : PySem.W.kitOne K (.ref D) (.ref C) = some b) (h : Q (.bl b) H) : rIsEx K (.ref D) none a [.ref a, .ref C] H Q :=
  ⟨D, .ref C, .ref C, b, rfl, rfl, hD, rfl, fun u r => by cases r; rfl, hk, h⟩
end
/-! ### beginnings -/
theorem startswith_iff (x y : Str) : Txt.startswith x y = true ↔ ∃ t, x = y ++ t := by
  unfold Txt.startswith
  rw [Bool.and_eq_true, decide_eq_true_iff, PySem.StrLaws.subAt_eq, List.drop_zero, beq_iff_eq]
  constructor
  · rintro ⟨h1, h2⟩
    refine ⟨ofL (x.cps.toList.drop y.length), str_ext ?_⟩
    rw [app_toList, toList_ofL, ← h2, List.take_append_drop]
  · rintro ⟨t, rfl⟩
    rw [len_app, app_toList]
    refine ⟨by omega, ?_⟩
    rw [← str_len y, List.take_left']
    rfl
theorem cutS_front (x y : Str) : cutS (x ++ y) none (some (x.length : Int)) = x := by
  refine str_ext ?_
  unfold cutS
  show ((((x ++ y).cps.toList.drop (HT.sIx (x ++ y).length 0 none)).take (HT.sIx (x ++ y).length (x ++ y).length (some (x.length : Int)) - HT.sIx (x ++ y).length 0 none)).toArray).toList = _
  rw [HT.sIx_none, HT.sIx_nat, List.drop_zero, len_app, Nat.min_eq_left (by omega), Nat.sub_zero, List.toList_toArray, app_toList, ← str_len x, List.take_left']
  rfl
theorem cutS_back (x y : Str) : cutS (x ++ y) (some (x.length : Int)) none = y := by
  refine str_ext ?_
  unfold cutS
  show ((((x ++ y).cps.toList.drop (HT.sIx (x ++ y).length 0 (some (x.length : Int)))).take (HT.sIx (x ++ y).length (x ++ y).length none - HT.sIx (x ++ y).length 0 (some (x.length : Int)))).toArray).toList = _
  rw [HT.sIx_none, HT.sIx_nat, len_app, Nat.min_eq_left (by omega), List.toList_toArray, app_toList, ← str_len x, List.drop_left']
  · rw [str_len, show x.length + y.length - x.length = y.length from by omega, ← str_len y, List.take_length]
  · rfl
theorem cutS_pre {w x : Str} (h : cutS w none (some (x.length : Int)) = x) : ∃ t, w = x ++ t := by
  have h1 : ((w.cps.toList.drop (HT.sIx w.length 0 none)).take (HT.sIx w.length w.length (some (x.length : Int)) - HT.sIx w.length 0 none)) = x.cps.toList := by
    have := congrArg (fun z : Str => z.cps.toList) h
    unfold cutS at this
    simpa using this
  rw [HT.sIx_none, HT.sIx_nat, List.drop_zero, Nat.sub_zero] at h1
  have h2 := congrArg List.length h1
  rw [List.length_take, str_len, str_len] at h2
  refine ⟨ofL (w.cps.toList.drop x.length), str_ext ?_⟩
  rw [app_toList, toList_ofL]
  have h3 : min x.length w.length = x.length := by omega
  rw [h3] at h1
  rw [← h1, List.take_append_drop]
end Fp

/-! Rules for beginnings of words: sorted by len, comprehensions of two clauses over a dict's words. -/
namespace Fp
open PySem L2 PySem.W
/-! ### cuts -/
theorem cutS_take (w : Str) {k : Nat} (hk : k ≤ w.length) : cutS w none (some (k : Int)) = ofL (w.cps.toList.take k) := by
  have e : w = ofL (w.cps.toList.take k) ++ ofL (w.cps.toList.drop k) := by rw [← ofL_app, List.take_append_drop, ofL_toList]
  have hl : (ofL (w.cps.toList.take k)).length = k := by
    rw [← str_len, toList_ofL, List.length_take, str_len]
    omega
  have := cutS_front (ofL (w.cps.toList.take k)) (ofL (w.cps.toList.drop k))
  rw [hl, ← e] at this
  exact this
theorem cutS_last (w : Str) : cutS w none (some (-1)) = ofL w.cps.toList.dropLast := by
  refine str_ext ?_
  unfold cutS
  show ((((w).cps.toList.drop (HT.sIx (w).length 0 none)).take (HT.sIx (w).length (w).length (some (-1)) - HT.sIx (w).length 0 none)).toArray).toList = w.cps.toList.dropLast
  rw [HT.sIx_none, List.drop_zero, List.toList_toArray, List.dropLast_eq_take]
  congr 1
  have h := str_len w
  show (if (-1 : Int) < 0 then ((-1 : Int) + (w.length : Int)).toNat else min (-1 : Int).toNat w.length) - 0 = _
  rw [if_pos (by decide)]
  omega
/-! ### sorted(xs, key=len) -/
def lenD (w : Str) : PyData := .int (w.length : Int)
def ordL (ws : List Str) : List Str := ws.mergeSort (dataLe false lenD)
theorem ordL_perm (ws : List Str) : (ordL ws).Perm ws := List.mergeSort_perm _ _
theorem lenD_eq : dataLe false lenD = fun a b : Str => decide ((a.length : Int) ≤ b.length) := dataLe_int fun w : Str => (w.length : Int)
theorem ordL_sorted (ws : List Str) : (ordL ws).Pairwise (fun a b => a.length ≤ b.length) := by
  have h : TotalLe (dataLe false lenD) := by
    rw [lenD_eq]
    exact ⟨fun a b c h1 h2 => by have := of_decide_eq_true h1; have := of_decide_eq_true h2; exact decide_eq_true (by omega), fun a b => (Nat.le_total a.length b.length).imp (fun h => decide_eq_true (by omega)) fun h => decide_eq_true (by omega)⟩
  refine (sort_pairwise h ws).imp fun {a b} q => ?_
  rw [lenD_eq] at q
  have := of_decide_eq_true q
  omega
def tSortLen (K : PySem.W.Frag) (te : TE) : TE := fun σ H Q => te σ H fun x H1 => ∃ (a : Addr) (ws : List Str), [x] = [V.ref a] ∧ SqL K H1 a (ws.map V.str) ∧ (∀ w ∈ ws, w.length ≤ sizeLine) ∧
  ∀ q, H1 q = none → Q (.ref q) (upd H1 q (.lst ((ordL ws).map V.str)))
theorem pe_sortLen {X : L2.Cx} {e : Expr} {te : TE} {p p2 pos kpos : Pos} (hg : Gl X "sorted") (hm : X.mg "sorted" = none) (hv : bootBuiltins "sorted" = some (.builtin "sorted")) (hg2 : Gl X "len") (hm2 : X.mg "len" = none) (hv2 : bootBuiltins "len" = some (.builtin "len")) (hr : Room 3 X.A) (he : PE X e te)
    (h0 : starEach [e] X.env = (false, eval e X.env) :: starEach [] X.env := by rfl) (h1 : backTo pos (starEach [e] X.env) = (false, eval e X.env) :: backTo pos (starEach [] X.env) := by rfl) (h2 : (backTo pos (starEach [e] X.env)).any (·.1) = false := by rfl) :
    PE X (.Call (.Name "sorted" p) [e] [⟨some "key", .Name "len" p2, kpos⟩] pos) (tSortLen X.K te) := by
  refine ⟨fun pins s σ H Q I h => ?_⟩
  refine wpAny_Call_Name_kw (ld_blt I hg hm hv ?_)
  have ha : PA X [e] (tCons te tNil) := pa_cons he pa_nil h0
  refine PyProof.Rows.callWith_kw (thn (ha.run pos pins s σ H (fun vs H1 => ∃ (a : Addr) (ws : List Str), vs = [.ref a] ∧ SqL X.K H1 a (ws.map V.str) ∧ (∀ w ∈ ws, w.length ≤ sizeLine) ∧
    ∀ q, H1 q = none → Q (.ref q) (upd H1 q (.lst ((ordL ws).map V.str)))) I ?_) fun us s1 ⟨vs, H1, I1, r1, q1⟩ => ?_) h1 h2 rfl rfl
  · exact h
  · show wpAny _ _ (evalAll ((do let v ← eval (.Name "len" p2) X.env; standAt pos; pure v) :: [])) _ _ s1
    refine wpAny_evalAll_cons (wpAny_bind (ld_blt I1 hg2 hm2 hv2 (wpAny_bind (wpAny_standAt (wpAny_pure (wpAny_evalAll_nil ?_))))))
    obtain ⟨a, ws, rfl, hs, hx, q⟩ := q1
    obtain rfl := Vals.ref1 r1
    obtain ⟨its, rv, hl, hz⟩ := I1.list hs
    rw [List.length_map] at hz
    show wpAny _ _ (call (.builtin "sorted") [.ref a] [(Str.ofString "key", .builtin "len")]) _ _ _
    refine PySem.W.sorted_key_data (R := fun v x => ∃ t, v = Value.str x t) (bs := ws) (b := false) lenD hl.isList (each_strs rv) (AllAlike.of fun _ _ => rfl) (Sortable.others fun b => ⟨(fun z => nomatch z), (fun xs z => nomatch z)⟩) hz (fun x _ => ?_) (PyProof.Rows.ksk_s1 _ _) (fun x => PyProof.Rows.ksk_l1 _ _) (fun x => PyProof.Rows.ksk_t4 "len" x) (fun v x hv hm h tk kk => ?_) (fun out c h' tk keep _ hget hlen ho => ?_)
    · have := hr.un
      show _ + 2 + 0 < _
      omega
    · obtain ⟨t, rfl⟩ := hv
      have := hx x hm
      have hn := L2.line63
      refine PyProof.Rows.len_str (by omega) ?_
      exact ⟨_, _, rfl, fun _ _ z => z, .int _ _⟩
    · have hl2 : ((ordL ws).map V.str).length ≤ sizeLine := by rw [List.length_map, (ordL_perm ws).length_eq]; exact hz
      exact ⟨.ref _, upd H1 (s1.heap.objs.size + 1) (.lst ((ordL ws).map V.str)), I1.laid (t' := tk) keep (Nat.le_succ _) ⟨hl2, out, c, vals_each ho, hget⟩, rfl, q _ (I1.hok.fresh (Nat.le_succ _))⟩
/-! ### the beginnings of a dict's words -/
def trueK (ws : List Str) : List (Key × V) := ws.map fun u => ((Sum.inr u : Key), V.bl true)
theorem putK_true (ws : List Str) (u : Str) : putK (trueK ws) (Sum.inr u) (.bl true) = trueK (if u ∈ ws then ws else ws ++ [u]) := by
  by_cases h : u ∈ ws
  · rw [if_pos h]
    unfold putK
    rw [if_pos]
    · unfold trueK
      rw [List.map_map]
      refine List.map_congr_left fun v _ => ?_
      show (if (Sum.inr v : Key) = Sum.inr u then ((Sum.inr v : Key), V.bl true) else ((Sum.inr v : Key), V.bl true)) = _
      split <;> rfl
    · exact List.any_eq_true.mpr ⟨_, List.mem_map.mpr ⟨u, h, rfl⟩, decide_eq_true rfl⟩
  · rw [if_neg h]
    unfold putK
    rw [if_neg]
    · unfold trueK
      rw [List.map_append]
      rfl
    · intro z
      obtain ⟨kv, h1, h2⟩ := List.any_eq_true.mp z
      obtain ⟨v, hv, rfl⟩ := List.mem_map.mp h1
      have e : v = u := Sum.inr.inj (of_decide_eq_true h2)
      rw [e] at hv
      exact h hv
/-- so far: all beginnings of the words us, and those of w of fewer than a letters -/
structure Pre (us : List Str) (w : Str) (a : Nat) (ws : List Str) : Prop where
  nd : ws.Nodup
  mem : ∀ u, u ∈ ws ↔ (∃ v ∈ us, u.cps.toList <+: v.cps.toList) ∨ ∃ k, k < a ∧ u = ofL (w.cps.toList.take k)
theorem Pre.put {us : List Str} {w : Str} {a : Nat} {ws : List Str} (h : Pre us w a ws) : Pre us w (a + 1) (if ofL (w.cps.toList.take a) ∈ ws then ws else ws ++ [ofL (w.cps.toList.take a)]) := by
  by_cases hm : ofL (w.cps.toList.take a) ∈ ws
  · rw [if_pos hm]
    refine ⟨h.nd, fun u => ⟨fun q => ((h.mem u).mp q).imp id fun ⟨k, h1, h2⟩ => ⟨k, by omega, h2⟩, fun q => ?_⟩⟩
    rcases q with q | ⟨k, h1, h2⟩
    · exact (h.mem u).mpr (.inl q)
    · by_cases e : k = a
      · subst e; rw [h2]; exact hm
      · exact (h.mem u).mpr (.inr ⟨k, by omega, h2⟩)
  · rw [if_neg hm]
    refine ⟨?_, fun u => ⟨fun q => ?_, fun q => ?_⟩⟩
    · rw [List.nodup_append]
      exact ⟨h.nd, by simp, fun a ha b hb e => by rw [List.mem_singleton.mp hb] at e; rw [e] at ha; exact hm ha⟩
    · rcases List.mem_append.mp q with q | q
      · exact ((h.mem u).mp q).imp id fun ⟨k, h1, h2⟩ => ⟨k, by omega, h2⟩
      · exact .inr ⟨a, by omega, List.mem_singleton.mp q⟩
    · rcases q with q | ⟨k, h1, h2⟩
      · exact List.mem_append_left _ ((h.mem u).mpr (.inl q))
      · by_cases e : k = a
        · subst e; rw [h2]; exact List.mem_append_right _ List.mem_cons_self
        · exact List.mem_append_left _ ((h.mem u).mpr (.inr ⟨k, by omega, h2⟩))
theorem take_prefix (l : List Nat) (k : Nat) : l.take k <+: l := List.take_prefix k l
theorem Pre.next {us : List Str} {w : Str} {ws : List Str} (h : Pre us w (w.length + 1) ws) (v : Str) : Pre (us ++ [w]) v 0 ws := by
  refine ⟨h.nd, fun u => ⟨fun q => .inl ?_, fun q => (h.mem u).mpr ?_⟩⟩
  · rcases (h.mem u).mp q with ⟨x, h1, h2⟩ | ⟨k, h1, h2⟩
    · exact ⟨x, List.mem_append_left _ h1, h2⟩
    · exact ⟨w, List.mem_append_right _ List.mem_cons_self, by rw [h2]; exact take_prefix _ _⟩
  · rcases q with ⟨x, h1, h2⟩ | ⟨k, h1, _⟩
    · rcases List.mem_append.mp h1 with h1 | h1
      · exact .inl ⟨x, h1, h2⟩
      · obtain rfl := List.mem_singleton.mp h1
        refine .inr ⟨u.length, ?_, ?_⟩
        · have := h2.length_le
          rw [str_len, str_len] at this
          omega
        · refine str_ext ?_
          rw [toList_ofL, ← str_len u]
          exact (List.prefix_iff_eq_take.mp h2)
    · omega
theorem Pre.other {us : List Str} {w v : Str} {ws : List Str} (h : Pre us w 0 ws) : Pre us v 0 ws :=
  ⟨h.nd, fun u => ⟨fun q => ((h.mem u).mp q).imp id fun ⟨k, h1, _⟩ => absurd h1 (by omega), fun q => (h.mem u).mpr (q.imp id fun ⟨k, h1, _⟩ => absurd h1 (by omega))⟩⟩
theorem put_len (ws : List Str) (u : Str) : (if u ∈ ws then ws else ws ++ [u]).length ≤ ws.length + 1 := by
  by_cases h : u ∈ ws
  · rw [if_pos h]; omega
  · rw [if_neg h, List.length_append, List.length_singleton]; omega
/-- {w[:k]: True for w in s for k in range(len(w) + 1)} -/
theorem dc2_pre {σ : St} {H : Hp} {Q : VK} {d : Addr} {s : Bg} {te0 tk tv : TE} {tA : TA} {j j1 : Nat} {vs vs1 : List Nat} (hd : Rd H d (.dK (toK s))) (hz : ∀ u ∈ keys s, u.length ≤ 1000) (hn : s.length ≤ 1000)
    (he : ∀ (H' : Hp) (Q : VK), LkEx d s H H' → Q (.ref d) H' → te0 σ H' Q) (hw : ∀ x, wipe ((wipe σ vs).set j x) vs = wipe σ vs)
    (h1 : ∀ (w : Str) (H' : Hp) (R : It → Hp → Prop), w.length ≤ 1000 → R (Itr 0 (w.length + 1)) H' → iRng1 tA ((wipe σ vs).set j (some (.str w))) H' R) (hw1 : ∀ (w : Str) x, wipe ((wipe ((wipe σ vs).set j (some (.str w))) vs1).set j1 x) vs1 = wipe ((wipe σ vs).set j (some (.str w))) vs1)
    (hk : ∀ (w : Str) (k : Nat) (H' : Hp) (Q : VK), w.length ≤ 1000 → k ≤ w.length → Q (.str (ofL (w.cps.toList.take k))) H' → tk ((wipe ((wipe σ vs).set j (some (.str w))) vs1).set j1 (some (.int (k : Int)))) H' Q)
    (hv : ∀ (w : Str) (k : Nat) (H' : Hp) (Q : VK), Q (.bl true) H' → tv ((wipe ((wipe σ vs).set j (some (.str w))) vs1).set j1 (some (.int (k : Int)))) H' Q)
    (hend : ∀ D H' ws, H D = none → Ex H H' → H' D = some (.dK (trueK ws)) → ws.Nodup → (∀ u, u ∈ ws ↔ ∃ v ∈ keys s, u.cps.toList <+: v.cps.toList) → ws.length ≤ 1001000 → Q (.ref D) H') : tLockRE (tDc2 (iKeys te0) (gName j) (iRng1 tA) (gName j1) tk tv vs vs1) σ H Q := by
  refine lock_any hd fun Hl od Q' hl l0 hnone hq => ?_
  refine he Hl _ l0 ⟨d, od, rfl, .inl ⟨toK s, hl, fun D hD => ?_⟩⟩
  have hDd : D ≠ d := fun z => by subst z; rw [hl] at hD; cases hD
  refine ⟨fun i m H' => m = s.length - i ∧ i ≤ s.length ∧ Ex Hl H' ∧ ∃ ws, H' D = some (.dK (trueK ws)) ∧ Pre (keys (s.take i)) Str.empty 0 ws ∧ ws.length ≤ i * 1001, ⟨s.length, by simp, Nat.zero_le _, Ex.new hD, [], upd_same, ⟨List.nodup_nil, fun u => ⟨(fun z => nomatch z), fun z => ?_⟩⟩, Nat.zero_le _⟩, ?_⟩
  · rcases z with ⟨v, h1, _⟩ | ⟨k, h1, _⟩
    · cases h1
    · omega
  rintro i m H2 ⟨rfl, hi, e2, ws, hD2, hP, hL⟩
  have hl2 := e2 _ _ hl
  by_cases hlt : i < s.length
  · refine .inr ⟨⟨hl2, by rw [toK_len]; exact hlt⟩, fun H' => Ex Hl H' ∧ ∃ ws, H' D = some (.dK (trueK ws)) ∧ Pre (keys (s.take (i + 1))) Str.empty 0 ws ∧ ws.length ≤ (i + 1) * 1001, fun H' p => ⟨s.length - (i + 1), by omega, rfl, hlt, p.1, p.2⟩, ?_⟩
    rintro x H' ⟨rfl, k, v, hk', rfl⟩
    obtain ⟨w, n, hw', ekv⟩ := toK_get hk'
    cases ekv
    have hmem : w ∈ keys s := mem_keys.mpr ⟨n, List.mem_of_getElem? hw'⟩
    have hwl := hz w hmem
    refine ⟨hw _, ?_⟩
    refine h1 w H' _ hwl ?_
    refine ⟨fun a k H3 => k = w.length + 1 - a ∧ a ≤ w.length + 1 ∧ Ex Hl H3 ∧ ∃ ws, H3 D = some (.dK (trueK ws)) ∧ Pre (keys (s.take i)) w a ws ∧ ws.length ≤ i * 1001 + a, ⟨w.length + 1, by simp, Nat.zero_le _, e2, ws, hD2, hP.other, by omega⟩, ?_⟩
    rintro a b H3 ⟨rfl, ha, e3, ws3, hD3, hP3, hL3⟩
    by_cases hla : a < w.length + 1
    · refine .inr ⟨hla, fun H' => Ex Hl H' ∧ ∃ ws, H' D = some (.dK (trueK ws)) ∧ Pre (keys (s.take i)) w (a + 1) ws ∧ ws.length ≤ i * 1001 + (a + 1), fun H' p => ⟨w.length + 1 - (a + 1), by omega, rfl, hla, p.1, p.2⟩, ?_⟩
      rintro x H4 ⟨rfl, rfl⟩
      rw [Int.zero_add]
      refine ⟨hw1 w _, ?_⟩
      have hbig : (trueK ws3).length < sizeLine := by
        unfold trueK
        rw [List.length_map]
        have : i * 1001 ≤ 1000 * 1001 := Nat.mul_le_mul_right _ (by omega)
        show _ < 2 ^ 24
        omega
      refine hk w a H4 _ hwl (by omega) (hv w a H4 _ ⟨_, Sum.inr (ofL (w.cps.toList.take a)), rfl, hD3, hbig, Ex.mut e3 hD, _, ?_, hP3.put, ?_⟩)
      · rw [upd_same, putK_true]
      · have := put_len ws3 (ofL (w.cps.toList.take a))
        omega
    · have ea : a = w.length + 1 := by omega
      subst ea
      refine .inl ⟨Nat.le_refl _, e3, ws3, hD3, ?_, by rw [Nat.succ_mul]; omega⟩
      have := hP3.next Str.empty
      have e : keys (s.take (i + 1)) = keys (s.take i) ++ [w] := by
        unfold keys
        rw [List.take_add_one, hw', List.map_append]
        rfl
      rw [e]
      exact this
  · have ei : i = s.length := by omega
    subst ei
    rw [List.take_length] at hP
    refine .inl ⟨⟨hl2, by rw [toK_len]; exact Nat.le_refl _⟩, ?_⟩
    refine hq _ H2 (fun D' z => by cases z; exact hnone _ hD) e2 fun H3 e3 hs3 ht => hend D H3 ws (hnone _ hD) e3 (by rw [hs3 D hDd]; exact hD2) hP.nd (fun u => (hP.mem u).trans ⟨fun q => q.elim id fun ⟨k, h1, _⟩ => absurd h1 (by omega), .inl⟩) ?_
    have : s.length * 1001 ≤ 1000 * 1001 := Nat.mul_le_mul_right _ hn
    omega
/-! ### flags of all letters of a dict's words -/
/-- [f(c) for w in s for c in w] -/
theorem lc2_flags {σ : St} {H : Hp} {Q : VK} {d : Addr} {s : Bg} {te0 te1 te : TE} {j j1 : Nat} {vs vs1 : List Nat} (f : Nat → Bool) (hd : Rd H d (.dK (toK s))) (hz : ∀ u ∈ keys s, u.length ≤ 1000) (hn : s.length ≤ 1000)
    (he : ∀ (H' : Hp) (Q : VK), LkEx d s H H' → Q (.ref d) H' → te0 σ H' Q) (hw : ∀ x, wipe ((wipe σ vs).set j x) vs = wipe σ vs)
    (h1 : ∀ (w : Str) (H' : Hp) (R : It → Hp → Prop), R (Its w) H' → iStr te1 ((wipe σ vs).set j (some (.str w))) H' R) (hw1 : ∀ (w : Str) x, wipe ((wipe ((wipe σ vs).set j (some (.str w))) vs1).set j1 x) vs1 = wipe ((wipe σ vs).set j (some (.str w))) vs1)
    (hk : ∀ (w : Str) (c : Nat) (H' : Hp) (Q : VK), Q (.bl (f c)) H' → te ((wipe ((wipe σ vs).set j (some (.str w))) vs1).set j1 (some (.str (chS c)))) H' Q)
    (hend : ∀ D H' (bs : List Bool), H D = none → Ex H H' → H' D = some (.lst (bs.map V.bl)) → bs = (keys s).flatMap (fun w => w.cps.toList.map f) → Q (.ref D) H') : tLockRE (tLc2 (iKeys te0) (gName j) tYes (iStr te1) (gName j1) tYes te vs vs1) σ H Q := by
  refine lock_any hd fun Hl od Q' hl l0 hnone hq => ?_
  refine he Hl _ l0 ⟨d, od, rfl, .inl ⟨toK s, hl, fun D hD => ?_⟩⟩
  have hDd : D ≠ d := fun z => by subst z; rw [hl] at hD; cases hD
  refine ⟨fun i m H' => m = s.length - i ∧ i ≤ s.length ∧ Ex Hl H' ∧ ∃ bs : List Bool, H' D = some (.lst (bs.map V.bl)) ∧ bs = (keys (s.take i)).flatMap (fun w => w.cps.toList.map f) ∧ bs.length ≤ i * 1000, ⟨s.length, by simp, Nat.zero_le _, Ex.new hD, [], upd_same, rfl, Nat.zero_le _⟩, ?_⟩
  rintro i m H2 ⟨rfl, hi, e2, bs, hD2, hP, hL⟩
  have hl2 := e2 _ _ hl
  by_cases hlt : i < s.length
  · refine .inr ⟨⟨hl2, by rw [toK_len]; exact hlt⟩, fun H' => Ex Hl H' ∧ ∃ bs : List Bool, H' D = some (.lst (bs.map V.bl)) ∧ bs = (keys (s.take (i + 1))).flatMap (fun w => w.cps.toList.map f) ∧ bs.length ≤ (i + 1) * 1000, fun H' p => ⟨s.length - (i + 1), by omega, rfl, hlt, p.1, p.2⟩, ?_⟩
    rintro x H' ⟨rfl, k, v, hk', rfl⟩
    obtain ⟨w, n, hw', ekv⟩ := toK_get hk'
    cases ekv
    have hmem : w ∈ keys s := mem_keys.mpr ⟨n, List.mem_of_getElem? hw'⟩
    have hwl := hz w hmem
    refine ⟨hw _, ?_⟩
    unfold tYes
    dsimp only
    rw [if_pos rfl]
    refine h1 w H' _ ?_
    refine ⟨fun a k H3 => k = w.cps.size - a ∧ a ≤ w.cps.size ∧ Ex Hl H3 ∧ ∃ bs : List Bool, H3 D = some (.lst (bs.map V.bl)) ∧ bs = (keys (s.take i)).flatMap (fun w => w.cps.toList.map f) ++ (w.cps.toList.take a).map f ∧ bs.length ≤ i * 1000 + a, ⟨w.cps.size, by simp, Nat.zero_le _, e2, bs, hD2, by rw [hP]; simp, by omega⟩, ?_⟩
    rintro a b H3 ⟨rfl, ha, e3, bs3, hD3, hP3, hL3⟩
    by_cases hla : a < w.cps.size
    · refine .inr ⟨hla, fun H' => Ex Hl H' ∧ ∃ bs : List Bool, H' D = some (.lst (bs.map V.bl)) ∧ bs = (keys (s.take i)).flatMap (fun w => w.cps.toList.map f) ++ (w.cps.toList.take (a + 1)).map f ∧ bs.length ≤ i * 1000 + (a + 1), fun H' p => ⟨w.cps.size - (a + 1), by omega, rfl, hla, p.1, p.2⟩, ?_⟩
      rintro x H4 ⟨rfl, c, hc, rfl⟩
      refine ⟨hw1 w _, ?_⟩
      dsimp only
      rw [if_pos rfl]
      have hwl' : w.cps.size ≤ 1000 := hwl
      refine hk w c H4 _ ⟨_, hD3, ?_, Ex.mut e3 hD, bs3 ++ [f c], by rw [upd_same, List.map_append]; rfl, ?_, by rw [List.length_append, List.length_singleton]; omega⟩
      · rw [List.length_map]
        have : i * 1000 ≤ 1000 * 1000 := Nat.mul_le_mul_right _ (by omega)
        show _ < 2 ^ 24
        omega
      · have hc' : w.cps.toList[a]? = some c := by rw [Array.getElem?_toList]; exact hc
        rw [hP3, List.take_add_one, hc', List.map_append, List.append_assoc]
        rfl
    · have ea : a = w.cps.size := by omega
      subst ea
      refine .inl ⟨Nat.le_refl _, e3, bs3, hD3, ?_, ?_⟩
      · have e : keys (s.take (i + 1)) = keys (s.take i) ++ [w] := by
          unfold keys
          rw [List.take_add_one, hw', List.map_append]
          rfl
        have e2' : w.cps.toList.take w.cps.size = w.cps.toList := by
          have : w.cps.size = w.cps.toList.length := Array.length_toList.symm
          rw [this, List.take_length]
        rw [hP3, e, List.flatMap_append, e2']
        simp
      · have hwl' : w.cps.size ≤ 1000 := hwl
        rw [Nat.succ_mul]
        omega
  · have ei : i = s.length := by omega
    subst ei
    rw [List.take_length] at hP
    refine .inl ⟨⟨hl2, by rw [toK_len]; exact Nat.le_refl _⟩, ?_⟩
    exact hq _ H2 (fun D' z => by cases z; exact hnone _ hD) e2 fun H3 e3 hs3 ht => hend D H3 bs (hnone _ hD) e3 (by rw [hs3 D hDd]; exact hD2) hP
end Fp

namespace Fp
open PySem L2
/-! ### rows: tuples of bags -/
abbrev Row := List Bg
/-- the least place that is not nothing, and the first word there -/
def leadR : Row → Option (Nat × Str)
  | [] => none
  | b :: r => if b = [] then (leadR r).map fun q => (q.1 + 1, q.2) else some (0, lead b)
def idleR (r : Row) : Bool := r.all fun b => decide (b = [])
def atR (r : Row) (i : Nat) : Bg := (r[i]?).getD []
def takeR (p : Int) (r o : Row) (t : Str) (n : Int) : Row := (r.zip o).map fun q => plusS p q.1 (withB q.2 t) (-n)
def scaleR (p : Int) (r : Row) (f : Int) : Row := r.map fun b => plusS p [] b f
def plainR (p : Int) (r : Row) : Row := match leadR r with
  | none => r
  | some (i, w) => scaleR p r (inv p (cf (atR r i) w))
def hitR (i : Nat) (w : Str) (o : Row) : Option Str := match leadR o with
  | none => none
  | some (j, l) => if j = i ∧ Txt.startswith w l = true then some (cutS w (some (l.length : Int)) none) else none
def hitB (B : List Row) (i : Nat) (w : Str) : Option (Row × Str) := B.findSome? fun o => (hitR i w o).map fun t => (o, t)
def hitW (B : List Row) (i : Nat) (ws : List Str) : Option (Str × Row × Str) := ws.findSome? fun w => (hitB B i w).map fun q => (w, q.1, q.2)
def hitF (B : List Row) : Nat → Row → Option (Nat × Str × Row × Str)
  | _, [] => none
  | i, b :: r => match hitW B i (ordW (keys b)) with
    | some (w, o, t) => some (i, w, o, t)
    | none => hitF B (i + 1) r
structure Fit (p : Int) (r : Row) : Prop where
  g : ∀ b ∈ r, Good p b
  n : ∀ b ∈ r, b.length ≤ 3000000
  l : ∀ b ∈ r, ∀ u ∈ keys b, u.length ≤ 1000000
  k : r.length ≤ 1000
theorem leadR_none {r : Row} : leadR r = none ↔ idleR r = true := by
  induction r with
  | nil => exact ⟨fun _ => rfl, fun _ => rfl⟩
  | cons b r ih =>
    unfold leadR idleR
    rw [List.all_cons, Bool.and_eq_true, decide_eq_true_iff]
    by_cases h : b = []
    · rw [if_pos h, Option.map_eq_none_iff, ih]
      exact ⟨fun z => ⟨h, z⟩, fun z => z.2⟩
    · rw [if_neg h]
      exact ⟨fun z => (nomatch z), fun z => absurd z.1 h⟩
theorem leadR_at {r : Row} : ∀ {i : Nat} {w : Str}, leadR r = some (i, w) → ∃ b, r[i]? = some b ∧ b ≠ [] ∧ w = lead b ∧ ∀ j, j < i → r[j]? = some [] := by
  induction r with
  | nil => intro i w h; cases h
  | cons b r ih =>
    intro i w h
    unfold leadR at h
    by_cases hb : b = []
    · rw [if_pos hb] at h
      cases hl : leadR r with
      | none => rw [hl] at h; cases h
      | some q =>
        rw [hl] at h
        cases Option.some.inj h
        obtain ⟨b', h1, h2, h3, h4⟩ := ih (i := q.1) (w := q.2) hl
        refine ⟨b', h1, h2, h3, fun j hj => ?_⟩
        cases j with
        | zero => rw [hb]; rfl
        | succ j => exact h4 j (by omega)
    · rw [if_neg hb] at h
      cases Option.some.inj h
      exact ⟨b, rfl, hb, rfl, fun j hj => absurd hj (Nat.not_lt_zero _)⟩
theorem leadR_of {r : Row} : ∀ {i : Nat} {b : Bg}, r[i]? = some b → b ≠ [] → (∀ j, j < i → r[j]? = some []) → leadR r = some (i, lead b) := by
  induction r with
  | nil => intro i b h; cases h
  | cons c r ih =>
    intro i b h hb hj
    unfold leadR
    cases i with
    | zero => cases Option.some.inj h; rw [if_neg hb]
    | succ i =>
      rw [if_pos (Option.some.inj (hj 0 (Nat.succ_pos _))), ih (i := i) h hb fun j hj' => hj (j + 1) (Nat.succ_lt_succ hj')]
      rfl
theorem atR_mem {r : Row} {i : Nat} {b : Bg} (h : r[i]? = some b) : atR r i = b ∧ b ∈ r := ⟨by unfold atR; rw [h]; rfl, List.mem_of_getElem? h⟩
theorem hitB_none {B : List Row} {i : Nat} {w : Str} : hitB B i w = none ↔ ∀ o ∈ B, hitR i w o = none := by
  unfold hitB
  rw [List.findSome?_eq_none_iff]
  exact ⟨fun h o ho => by have := h o ho; rwa [Option.map_eq_none_iff] at this, fun h o ho => by rw [h o ho]; rfl⟩
theorem hitB_some {B : List Row} {i : Nat} {w : Str} {o : Row} {t : Str} (h : hitB B i w = some (o, t)) : o ∈ B ∧ hitR i w o = some t := by
  unfold hitB at h
  obtain ⟨a, ha, e⟩ := List.exists_of_findSome?_eq_some h
  cases h9 : hitR i w a with
  | none => rw [h9] at e; cases e
  | some t' =>
    rw [h9] at e
    cases Option.some.inj e
    exact ⟨ha, h9⟩
theorem hitR_some {i : Nat} {w : Str} {o : Row} {t : Str} (h : hitR i w o = some t) : ∃ l, leadR o = some (i, l) ∧ w = l ++ t := by
  unfold hitR at h
  cases hl : leadR o with
  | none => rw [hl] at h; cases h
  | some q =>
    obtain ⟨j, l⟩ := q
    rw [hl] at h
    dsimp only at h
    split at h
    · rename_i hc
      obtain ⟨rfl, hs⟩ := hc
      obtain ⟨t', ht⟩ := (startswith_iff _ _).mp hs
      refine ⟨l, rfl, ?_⟩
      cases Option.some.inj h
      rw [ht, cutS_back]
    · cases h
theorem hitR_of {i : Nat} {w l : Str} {o : Row} {t : Str} (hl : leadR o = some (i, l)) (hw : w = l ++ t) : hitR i w o = some t := by
  unfold hitR
  rw [hl]
  dsimp only
  rw [if_pos ⟨rfl, (startswith_iff _ _).mpr ⟨t, hw⟩⟩, hw, cutS_back]
end Fp

/-! == and != of dicts of words, whatever the order, both answers. -/
namespace Fp
open PySem L2
theorem rel_none {o : Option Value} (h : RelO (none : Option V) o) : o = none := by
  cases o with
  | none => rfl
  | some y => exact absurd h (by intro z; exact z)
theorem hitsS {A : Around} {s : Shared} {t : Bg} {vb : List (Key × Value)} (rb : KV (toK t) vb) : ∀ {r : Bg} {va : List (Key × Value)}, KV (toK r) va →
    ∃ b, PySem.W.KeqHits A s vb va b ∧ (b = true ↔ ∀ q ∈ r, getS t q.1 = some q.2)
  | [], va, ra => by
    have e : va = [] := by
      have := ra.length
      exact List.length_eq_zero_iff.mp this.symm
    subst e
    exact ⟨true, .nil, fun _ q hq => (nomatch hq), fun _ => rfl⟩
  | q :: r, va, ra => by
    cases va with
    | nil => exact absurd ra.length (by rw [toK_len]; exact Nat.succ_ne_zero _)
    | cons kv va =>
      obtain ⟨k, v⟩ := kv
      have ra' := ra
      unfold KV at ra'
      rw [toK_cons] at ra'
      cases ra' with
      | cons h tl =>
        obtain ⟨h1, h2⟩ := h
        obtain ⟨b, hb, hbi⟩ := hitsS rb (r := r) (va := va) tl
        have h1' : (Sum.inr q.1 : Key) = k := h1
        have rv := rb.val k
        rw [← h1', valV_toK] at rv
        obtain ⟨tk, h2'⟩ : ∃ tk, v = .int q.2 tk := h2
        cases hg : getS t q.1 with
        | none =>
          rw [hg] at rv
          refine ⟨false, .miss (by rw [← h1']; exact rel_none rv), (nomatch ·), fun h9 => ?_⟩
          have := h9 q List.mem_cons_self
          rw [hg] at this
          cases this
        | some n =>
          rw [hg] at rv
          obtain ⟨y, hy, ry⟩ := RelO.some_of rv
          obtain ⟨tn, hy'⟩ : ∃ tn, y = .int n tn := ry
          subst h2' hy'
          obtain ⟨e, he, hei⟩ := HT.eqAt_int A s q.2 tk n tn
          refine ⟨e && b, .hit (by rw [← h1']; exact hy) he hb, ?_⟩
          rw [Bool.and_eq_true, hei, hbi]
          constructor
          · rintro ⟨rfl, h9⟩ z hz
            rcases List.mem_cons.mp hz with rfl | hz
            · exact hg
            · exact h9 z hz
          · intro h9
            exact ⟨(Option.some.inj (hg.symm.trans (h9 q List.mem_cons_self))).symm, fun z hz => h9 z (List.mem_cons_of_mem _ hz)⟩
theorem same_dict {s t : Bg} (hs : (keys s).Nodup) (ht : (keys t).Nodup) : (s.length = t.length ∧ ∀ q ∈ s, getS t q.1 = some q.2) ↔ ∀ w, cf s w = cf t w ∧ (w ∈ keys s ↔ w ∈ keys t) := by
  have key : (∀ w, getS s w = getS t w) ↔ ∀ w, cf s w = cf t w ∧ (w ∈ keys s ↔ w ∈ keys t) := by
    constructor
    · intro h w
      refine ⟨by unfold cf; rw [h], ?_⟩
      rw [← Decidable.not_iff_not, ← getS_none, ← getS_none, h]
    · intro h w
      obtain ⟨h1, h2⟩ := h w
      unfold cf at h1
      by_cases hw : w ∈ keys s
      · obtain ⟨n, hn⟩ := mem_keys.mp hw
        obtain ⟨m, hm⟩ := mem_keys.mp (h2.mp hw)
        rw [getS_of_mem hs hn, getS_of_mem ht hm] at h1 ⊢
        exact congrArg some h1
      · rw [getS_none.mpr hw, getS_none.mpr fun z => hw (h2.mpr z)]
  rw [← key]
  constructor
  · rintro ⟨hl, h⟩ w
    have sub : ∀ u ∈ keys s, u ∈ keys t := fun u hu => by
      obtain ⟨n, hn⟩ := mem_keys.mp hu
      exact mem_keys.mpr ⟨n, getS_mem (h _ hn)⟩
    have sup : ∀ u ∈ keys t, u ∈ keys s := fun u hu => by
      false_or_by_contra
      rename_i h9
      have := len_sub (l := u :: keys s) (m := keys t) (List.nodup_cons.mpr ⟨h9, hs⟩) fun x hx => by
        rcases List.mem_cons.mp hx with rfl | hx
        · exact hu
        · exact sub _ hx
      unfold keys at this
      rw [List.length_cons, List.length_map, List.length_map] at this
      omega
    by_cases hw : w ∈ keys s
    · obtain ⟨n, hn⟩ := mem_keys.mp hw
      rw [getS_of_mem hs hn]
      exact (h _ hn).symm
    · rw [getS_none.mpr hw, getS_none.mpr fun z => hw (sup _ z)]
  · intro h
    have hp : (keys s).Perm (keys t) := (List.perm_ext_iff_of_nodup hs ht).mpr fun w => by
      rw [← Decidable.not_iff_not, ← getS_none, ← getS_none, h]
    refine ⟨by have := hp.length_eq; unfold keys at this; rwa [List.length_map, List.length_map] at this, fun q hq => ?_⟩
    rw [← h]
    exact getS_of_mem hs hq
theorem same_good {p : Int} {s t : Bg} (gs : Good p s) (gt : Good p t) : (s.length = t.length ∧ ∀ q ∈ s, getS t q.1 = some q.2) ↔ ∀ w, cf s w = cf t w := by
  rw [same_dict gs.nd gt.nd]
  exact ⟨fun h w => (h w).1, fun h w => ⟨h w, by rw [cf_ne gs, cf_ne gt, h]⟩⟩
def rEqDS (neg : Bool) : R2 := fun x y H Q => ∃ a b s t, x = .ref a ∧ y = .ref b ∧ H a = some (.dK (toK s)) ∧ H b = some (.dK (toK t)) ∧ ∀ f : Bool, (f = true ↔ s.length = t.length ∧ ∀ q ∈ s, getS t q.1 = some q.2) → Q (.bl (if neg = true then !f else f)) H
theorem op_eqDS {X : Cx} (hu : X.A.units < cLine) : OpR X (compareOp .Eq) (rEqDS false) := by
  intro pins s σ H x y v u Q I rx ry h
  obtain ⟨a, b, s1, t1, rfl, rfl, ea, eb, q⟩ := h
  obtain rfl : v = Value.ref a := rx
  obtain rfl : u = Value.ref b := ry
  obtain ⟨_, ya, va, ra, da⟩ := (show ObjOk X.prog X.w H s.heap a (.dK (toK s1)) from I.hok a _ ea)
  obtain ⟨_, yb, vb, rb, db⟩ := (show ObjOk X.prog X.w H s.heap b (.dK (toK t1)) from I.hok b _ eb)
  obtain ⟨f, hf, hfi⟩ := hitsS (A := X.A.in1) (s := s) rb (r := s1) ra
  refine PySem.W.keq_eq (knd := mixKind X.prog X.w) (r := f) ya yb da db hu (fun _ => hf) ⟨.bl (va.length == vb.length && f), H, I, rfl, ?_⟩
  have := q (va.length == vb.length && f) (by
    rw [Bool.and_eq_true, hfi, beq_iff_eq, ← ra.length, ← rb.length, toK_len, toK_len])
  rwa [if_neg Bool.false_ne_true] at this
theorem op_neDS {X : Cx} (hu : X.A.units < cLine) : OpR X (compareOp .NotEq) (rEqDS true) := by
  intro pins s σ H x y v u Q I rx ry h
  obtain ⟨a, b, s1, t1, rfl, rfl, ea, eb, q⟩ := h
  obtain rfl : v = Value.ref a := rx
  obtain rfl : u = Value.ref b := ry
  obtain ⟨_, ya, va, ra, da⟩ := (show ObjOk X.prog X.w H s.heap a (.dK (toK s1)) from I.hok a _ ea)
  obtain ⟨_, yb, vb, rb, db⟩ := (show ObjOk X.prog X.w H s.heap b (.dK (toK t1)) from I.hok b _ eb)
  obtain ⟨f, hf, hfi⟩ := hitsS (A := X.A.in1) (s := s) rb (r := s1) ra
  refine PySem.W.keq_ne (knd := mixKind X.prog X.w) (r := f) ya yb da db hu (fun _ => hf) ⟨.bl (!(va.length == vb.length && f)), H, I, rfl, ?_⟩
  have := q (va.length == vb.length && f) (by
    rw [Bool.and_eq_true, hfi, beq_iff_eq, ← ra.length, ← rb.length, toK_len, toK_len])
  rwa [if_pos rfl] at this
end Fp

namespace Fp
open PySem L2
theorem g_gcons {t : TG} {u : TGs} {v : V} {r : List V} {σ : St} {H : Hp} {Q : St → Hp → Prop} (h : t v σ H fun σ' H' => u r σ' H' Q) : gCons t u (v :: r) σ H Q := ⟨v, r, rfl, h⟩
theorem g_gnil {σ : St} {H : Hp} {Q : St → Hp → Prop} (h : Q σ H) : gNil [] σ H Q := ⟨rfl, h⟩
theorem g_gtup {K : PySem.W.Frag} {n : Nat} {t : TGs} {a : Addr} {xs : List V} {σ : St} {H : Hp} {Q : St → Hp → Prop} (ht : SqT K H a xs) (hn : xs.length = n) (h : t xs σ H Q) : gTup K n t (.ref a) σ H Q := ⟨a, xs, rfl, ht, hn, h⟩
theorem g_zip {K : PySem.W.Frag} {i j : Nat} {σ : St} {H : Hp} {a b : Addr} {xs ys : List V} {R : It → Hp → Prop} (hi : σ[i]? = some (some (.ref a))) (hj : σ[j]? = some (some (.ref b))) (h1 : SqL K H a xs) (h2 : SqL K H b ys) (h : R (Itz K a b) H) : iZip K (tCons (tVar i) (tCons (tVar j) tNil)) σ H R := ⟨_, hi, _, hj, a, b, xs, ys, rfl, h1, h2, h⟩
end Fp

/-! zip(t, u) of two tuples, kept under a name, and a walk over it. -/
namespace Fp
open PySem PySem.Spec PyProof.Rows L2 RZ ItX
/-- the five objects of a zip over two tuples, at its start -/
structure ZV (n : Nat) (a b z : Addr) (H0 H : Hp) : Prop where
  ex : ∃ TI TO i1 i2 : Addr, ZipApart z TI TO i1 i2 a b ∧ H z = some (.ext fun h => IsZip h z TI TO .none) ∧ H TI = some (.ext fun h => IsPair h TI (.ref i1) (.ref i2)) ∧ H TO = some (.ext fun h => IsPair h TO .none .none) ∧
    H i1 = some (.ext fun h => h.IsTupleIter i1 a 0) ∧ H i2 = some (.ext fun h => h.IsTupleIter i2 b 0) ∧ (∀ c ∈ [z, TI, TO, i1, i2], n ≤ c ∧ H0 c = none) ∧ ∀ c, c ∉ [z, TI, TO, i1, i2] → H c = H0 c
def rZipV (K : PySem.W.Frag) (n : Nat) : List V → Hp → VK → Prop := fun vs H Q => ∃ (a b : Addr) (xs ys : List V), vs = [.ref a, .ref b] ∧ SqT K H a xs ∧ SqT K H b ys ∧ ∀ z H', Ex H H' → ZV n a b z H H' → Q (.ref z) H'
theorem ext_ok {P : Program} {w : World} {H : Hp} {h : Heap} {a : Addr} {ob : Obj} (e : h.get? a = some ob) : ObjOk P w H h a (.ext fun h => h.get? a = some ob) := ⟨e, ⟨ob, e⟩, fun _ _ q k => k _ q⟩
theorem iter_ok {P : Program} {w : World} {H : Hp} {h : Heap} {i l : Addr} (e : h.IsTupleIter i l 0) : ObjOk P w H h i (.ext fun h => h.IsTupleIter i l 0) := by
  obtain ⟨o, h1, h2⟩ := id e
  exact ⟨e, ⟨o, h1⟩, fun _ _ q k => q.at fun o z => k o z⟩
section
variable {X : Cx} {pins : List (Addr × Obj)} {σ : L2.St} {H : Hp} {s : Shared} {h' : Heap}
/-- several new objects at once -/
theorem Inv.laidMany {H' : Hp} {t' : Nat} (I : Inv X pins σ H s) (k : ∀ b u, s.heap.get? b = some u → h'.get? b = some u) (old : ∀ b, b < s.heap.objs.size → H' b = H b) (e : Ex H H')
    (new : ∀ b o, H' b = some o → H b = none → ∃ φ, o = .ext φ ∧ ObjOk X.prog X.w H' h' b (.ext φ)) : Inv X pins σ H' { s with heap := h', toks := t' } := by
  refine I.un ⟨fun b u q _ _ _ => k b u q, fun b u q _ _ _ => ⟨u.slots, k b u q⟩, fun b u q n _ => by rw [old b (Heap.lt_size q)]; exact n, fun b u q _ => ⟨u, k b u q⟩, fun b xs q => e _ _ q, fun b u xs q => e _ _ q, fun b ps q => ⟨#[], by rw [e _ _ q]; simp⟩⟩ ?_
  intro b o hb
  by_cases hn : H b = none
  · obtain ⟨φ, rfl, ok⟩ := new b o hb hn
    exact ok
  · cases h9 : H b with
    | none => exact absurd h9 hn
    | some u =>
      have := e _ _ h9
      rw [this] at hb
      cases hb
      exact (I.hok b _ h9).stay (fun c v _ q => k c v q) (fun c q => e _ _ q) fun c xs q => e _ _ q
end
section
variable {X : Cx}
theorem call_zipV : CallR X (.type "zip") (rZipV X.K X.s_0.heap.objs.size) := by
  intro pins s σ H xs us Q I r h
  obtain ⟨a, b, xs1, ys1, rfl, hqx, hqy, q⟩ := h
  cases r with
  | cons r rr =>
    cases rr with
    | cons r' rr =>
      cases rr
      cases r
      cases r'
      obtain ⟨its, rv, p1, _⟩ := I.tuple hqx
      obtain ⟨its2, rv2, p2, _⟩ := I.tuple hqy
      obtain ⟨o1, ho1, _⟩ := id p1
      obtain ⟨o2, ho2, _⟩ := id p2
      refine call_zipT (show s.heap.IsTuple a its.toArray from p1) (show s.heap.IsTuple b its2.toArray from p2) fun h' hz hTI hTO h1 h2 hsz hk => ?_
      have D := PySem.W.ktu_apart s.heap.objs.size a b (Heap.lt_size ho1) (Heap.lt_size ho2)
      generalize hN : s.heap.objs.size = N at hz hTI hTO h1 h2 hsz D ⊢
      let H' : Hp := upd (upd (upd (upd (upd H (N + 4) (.ext fun h => IsZip h (N + 4) (N + 2) (N + 3) .none)) (N + 2) (.ext fun h => IsPair h (N + 2) (.ref N) (.ref (N + 1)))) (N + 3) (.ext fun h => IsPair h (N + 3) .none .none)) N (.ext fun h => h.IsTupleIter N a 0)) (N + 1) (.ext fun h => h.IsTupleIter (N + 1) b 0)
      have fr : ∀ c, N ≤ c → H c = none := fun c hc => I.hok.fresh (by rw [hN]; exact hc)
      have x4 : H' (N + 4) = some (.ext fun h => IsZip h (N + 4) (N + 2) (N + 3) .none) := by
        show upd (upd (upd (upd (upd H _ _) _ _) _ _) _ _) _ _ _ = _
        rw [upd_ne (Ne.symm D.i2z), upd_ne (Ne.symm D.i1z), upd_ne (Ne.symm D.TOz), upd_ne (Ne.symm D.TIz), upd_same]
      have x2 : H' (N + 2) = some (.ext fun h => IsPair h (N + 2) (.ref N) (.ref (N + 1))) := by
        show upd (upd (upd (upd (upd H _ _) _ _) _ _) _ _) _ _ _ = _
        rw [upd_ne D.TIi2, upd_ne D.TIi1, upd_ne D.TITO, upd_same]
      have x3 : H' (N + 3) = some (.ext fun h => IsPair h (N + 3) .none .none) := by
        show upd (upd (upd (upd (upd H _ _) _ _) _ _) _ _) _ _ _ = _
        rw [upd_ne D.TOi2, upd_ne D.TOi1, upd_same]
      have x0 : H' N = some (.ext fun h => h.IsTupleIter N a 0) := by
        show upd (upd (upd (upd (upd H _ _) _ _) _ _) _ _) _ _ _ = _
        rw [upd_ne D.i12, upd_same]
      have x1 : H' (N + 1) = some (.ext fun h => h.IsTupleIter (N + 1) b 0) := by
        show upd (upd (upd (upd (upd H _ _) _ _) _ _) _ _) _ _ _ = _
        rw [upd_same]
      have off : ∀ c, c ∉ [N + 4, N + 2, N + 3, N, N + 1] → H' c = H c := fun c hc => by
        simp only [List.mem_cons, List.not_mem_nil, or_false, not_or] at hc
        obtain ⟨c4, c2, c3, c0, c1⟩ := hc
        show upd (upd (upd (upd (upd H _ _) _ _) _ _) _ _) _ _ _ = _
        rw [upd_ne c1, upd_ne c0, upd_ne c3, upd_ne c2, upd_ne c4]
      have hge : ∀ c ∈ [N + 4, N + 2, N + 3, N, N + 1], N ≤ c := fun c hc => by
        simp only [List.mem_cons, List.not_mem_nil, or_false] at hc
        rcases hc with rfl | rfl | rfl | rfl | rfl
        · exact Nat.le_add_right _ _
        · exact Nat.le_add_right _ _
        · exact Nat.le_add_right _ _
        · exact Nat.le_refl _
        · exact Nat.le_add_right _ _
      clear_value H'
      have e : Ex H H' := fun c o hc => by
        rw [off c fun hm => by rw [fr c (hge c hm)] at hc; cases hc]
        exact hc
      refine ⟨.ref (N + 4), H', Inv.laidMany (t' := s.toks) I hk (fun c hc => off c fun hm => Nat.lt_irrefl _ (Nat.lt_of_lt_of_le hc (by rw [hN]; exact hge c hm))) e ?_, rfl, q _ H' e ⟨N + 2, N + 3, N, N + 1, D, x4, x2, x3, x0, x1, fun c hc => ⟨Nat.le_trans I.sz (by rw [hN]; exact hge c hc), fr c (hge c hc)⟩, off⟩⟩
      intro c o hc hcn
      by_cases hm : c ∈ [N + 4, N + 2, N + 3, N, N + 1]
      · simp only [List.mem_cons, List.not_mem_nil, or_false] at hm
        rcases hm with rfl | rfl | rfl | rfl | rfl
        · rw [x4] at hc; cases hc; exact ⟨_, rfl, ext_ok hz⟩
        · rw [x2] at hc; cases hc; exact ⟨_, rfl, ext_ok hTI⟩
        · rw [x3] at hc; cases hc; exact ⟨_, rfl, ext_ok hTO⟩
        · rw [x0] at hc; cases hc; exact ⟨_, rfl, iter_ok h1⟩
        · rw [x1] at hc; cases hc; exact ⟨_, rfl, iter_ok h2⟩
      · rw [off c hm, hcn] at hc
        cases hc
/-- behind the walk's start the zip is forgotten -/
def iZipV (K : PySem.W.Frag) (n : Nat) (k : Nat) : TI := fun σ H R => ∃ (z a b : Addr) (H0 : Hp), σ[k]? = some (some (.ref z)) ∧ ZV n a b z H0 H ∧ R (ItzT K a b) H0
variable {elts : List Expr} {kk : Nat} {tpos : Pos} {k : Nat} {x : Str} {p : Pos}
theorem pi_zipv (hN : X.N[k]? = some x) (hv : Vis X.env.scope x) (hd : (x == ("__debug__" : Str)) = false := by decide) (hcd : (x == ("__classdict__" : Str)) = false := by decide) : PI X (.Tuple elts kk tpos) (.Name x p) (iZipV X.K X.s_0.heap.objs.size k) := by
  refine ⟨fun pins s σ H R I h => ?_⟩
  obtain ⟨z, a, b, H0, hs, zv, q⟩ := h
  refine thn ((pe_var (pos := p) (i := k) hN hv hd hcd).run pins s σ H (fun v H1 => v = .ref z ∧ H1 = H) I ⟨.ref z, hs, rfl, rfl⟩) fun u s1 ⟨v, H1, I1, r1, ev, eH⟩ => ?_
  subst ev
  rw [eH] at I1
  cases r1
  obtain ⟨TI, TO, i1, i2, D, hz, hTI, hTO, h1, h2, hfive, hoff⟩ := zv.ex
  have gz : IsZip s1.heap z TI TO .none := (I1.hok z _ hz).1
  have gTI : IsPair s1.heap TI (.ref i1) (.ref i2) := (I1.hok TI _ hTI).1
  have gTO : IsPair s1.heap TO .none .none := (I1.hok TO _ hTO).1
  have g1 : s1.heap.IsTupleIter i1 a 0 := (I1.hok i1 _ h1).1
  have g2 : s1.heap.IsTupleIter i2 b 0 := (I1.hok i2 _ h2).1
  have J1 := inv_drop I1 hz
  have J2 := inv_drop J1 (a := TI) (by rw [dropH_ne D.TIz]; exact hTI)
  have J3 := inv_drop J2 (a := TO) (by rw [dropH_ne (Ne.symm D.TITO), dropH_ne D.TOz]; exact hTO)
  have J4 := inv_drop J3 (a := i1) (by rw [dropH_ne (Ne.symm D.TOi1), dropH_ne (Ne.symm D.TIi1), dropH_ne D.i1z]; exact h1)
  have J5 := inv_drop J4 (a := i2) (by rw [dropH_ne (Ne.symm D.i12), dropH_ne (Ne.symm D.TOi2), dropH_ne (Ne.symm D.TIi2), dropH_ne D.i2z]; exact h2)
  have eH0 : dropH (dropH (dropH (dropH (dropH H z) TI) TO) i1) i2 = H0 := by
    funext c
    by_cases hc : c ∈ [z, TI, TO, i1, i2]
    · rw [(hfive c hc).2]
      simp only [List.mem_cons, List.not_mem_nil, or_false] at hc
      unfold dropH
      rcases hc with rfl | rfl | rfl | rfl | rfl <;> simp
    · rw [← hoff c hc]
      simp only [List.mem_cons, List.not_mem_nil, or_false, not_or] at hc
      obtain ⟨c1, c2, c3, c4, c5⟩ := hc
      rw [dropH_ne c5, dropH_ne c4, dropH_ne c3, dropH_ne c2, dropH_ne c1]
  rw [eH0] at J5
  have fpok : ∀ c ∈ [z, TI, TO, i1, i2], ∀ u, H c = some u → FpOk X pins H0 c := fun c hc u hu => by
    have hcn := (hfive c hc).1
    obtain ⟨f1, f2, f3, f4, f5, f6⟩ := inv_fp I1 hu hcn
    exact ⟨(hfive c hc).2, f2, f3, f4, f5, f6⟩
  refine wpAny_pyIter_zip gz ?_
  refine ⟨z, [z, TI, TO, i1, i2], _, _, H0, rfl, J5, turn_zipT D, ⟨gz, gTI, ⟨_, _, gTO⟩, g1, g2⟩, fun c hc => ?_, q⟩
  have hc' := hc
  simp only [List.mem_cons, List.not_mem_nil, or_false] at hc'
  rcases hc' with rfl | rfl | rfl | rfl | rfl
  · exact fpok _ hc _ hz
  · exact fpok _ hc _ hTI
  · exact fpok _ hc _ hTO
  · exact fpok _ hc _ h1
  · exact fpok _ hc _ h2
end
end Fp

/-! enumerate of a tuple. -/
namespace Fp
open PySem PySem.Spec PyProof.Rows L2 RZ ItX
theorem meets_enumerate_newT (l : Addr) (items : Array Value) :
    Meets (Builtin.«enumerate.__new__» ⟨[.type "enumerate", .ref l], []⟩) (fun _ R s => s.heap.IsTuple l items ∧
      R (.ok (.ret (.ref (s.heap.push { cls := .type "tuple_iterator", data := .fields #[.ref l, .int 0 0] }).objs.size)))
        { s with heap := (s.heap.push { cls := .type "tuple_iterator", data := .fields #[.ref l, .int 0 0] }).push { cls := .type "enumerate", data := .fields #[.none, .bool false, .ref s.heap.objs.size, rawInt 0, .none, .none] } }) :=
  .of_wp fun prog w A R s h => by
    obtain ⟨hp, g, d, tk, os⟩ := s; obtain ⟨hL0, h⟩ := h
    have hsub := sub_enumerate
    have hL : Heap.IsTuple (Shared.heap ⟨hp, g, d, tk, os⟩) l items := hL0
    have q1 : ∀ {A' : Around} {E : Value → Shared → Prop} {Q : Value → Shared → Prop}, Q (.ref hp.objs.size) ⟨(hp.push { cls := .type "tuple_iterator", data := .fields #[.ref l, .int 0 0] }), g, d, tk, os⟩ → wpAny (model prog w) A' (pyIter (.ref l)) Q E ⟨hp, g, d, tk, os⟩ :=
      fun q => wpAny_pyIter_tuple hL q
    obtain ⟨o, ho, hrest⟩ := hL0
    wp_walk using q1
    refine wpAny_stack_any fun st => wpAny_pure ?_
    split
    · rename_i c _ _ _ _ _
      cases (c == Value.type "enumerate")
      · wp_walk using q1
        exact ⟨_, rfl, h⟩
      · wp_walk using q1
        exact ⟨_, rfl, h⟩
    · wp_walk using q1
      exact ⟨_, rfl, h⟩
section
variable {prog : Program} {w : World} {A : Around} {E : Value → Shared → Prop} {s : Shared}
theorem call_enumerate_tuple {l : Addr} {items : Array Value} {Q : Value → Shared → Prop} (hL : s.heap.IsTuple l items)
    (h : ∀ h', IsEnum h' (s.heap.objs.size + 1) s.heap.objs.size 0 .none → h'.IsTupleIter s.heap.objs.size l 0 → h'.objs.size = s.heap.objs.size + 2 →
      (∀ b o, s.heap.get? b = some o → h'.get? b = some o) → Q (.ref (s.heap.objs.size + 1)) { s with heap := h' }) :
    wpAny (model prog w) A (call (.type "enumerate") [.ref l]) Q E s := by
  refine callType_new F.called_enumerate (by decide) (F.typeCall_enumerate_1 _) (F.newCall_enumerate_1 _) (fun obj => F.args_object_init_2 obj _) F.entry_enumerate_new
    (meets_enumerate_newT l items) ⟨hL, ?_⟩
  have hz : (s.heap.push { cls := .type "tuple_iterator", data := .fields #[.ref l, .int 0 0] }).objs.size = s.heap.objs.size + 1 := Heap.size_push ..
  show _ ∧ _
  rw [hz]
  have he : IsEnum ((s.heap.push { cls := .type "tuple_iterator", data := .fields #[.ref l, .int 0 0] }).push
      { cls := .type "enumerate", data := .fields #[.none, .bool false, .ref s.heap.objs.size, rawInt 0, .none, .none] }) (s.heap.objs.size + 1) s.heap.objs.size 0 .none := by
    have := Heap.get?_push_size (s.heap.push { cls := .type "tuple_iterator", data := .fields #[.ref l, .int 0 0] })
      (o := { cls := .type "enumerate", data := .fields #[.none, .bool false, .ref s.heap.objs.size, rawInt 0, .none, .none] }) rfl
    rw [hz] at this; exact this
  refine ⟨⟨_, he, rfl⟩, h _ he ⟨_, Heap.get?_push_of_some _ (Heap.get?_push_size _ rfl), rfl, rfl⟩ (by rw [Heap.size_push, hz]) fun b o x => Heap.get?_push_of_some _ (Heap.get?_push_of_some _ x)⟩
end
def IteT (K : PySem.W.Frag) (a : Addr) : It :=
  ⟨fun i H => ∃ (xs : List V) (x : V), SqT K H a xs ∧ xs[i]? = some x, fun i H v H' => ∃ T x, v = .ref T ∧ H T = none ∧ H' = upd H T (.tup [.int (i : Nat), x]) ∧ ∀ xs, SqT K H a xs → xs[i]? = some x, fun i H => ∃ xs : List V, SqT K H a xs ∧ xs.length = i⟩
theorem turn_enumT {P : Program} {w : World} {K : PySem.W.Frag} {elts : List Expr} {kk : Nat} {tpos : Pos} (a e it : Addr) :
    Turn P w K (.Tuple elts kk tpos) (IteT K a) [e, it] e (fun i h => (∃ old, IsEnum h e it ((i : Nat) : Int) old) ∧ h.IsTupleIter it a i ∧ e ≠ it ∧ a ≠ it ∧ a ≠ e) where
  mem := by simp
  obj := fun i h st b hb => by
    obtain ⟨⟨old, he⟩, ⟨o, ho, hc, hd⟩, _⟩ := st
    have e' : b = e ∨ b = it := by simpa using hb
    rcases e' with z | z
    · rw [z]; exact ⟨_, he, fun v q => nomatch q⟩
    · rw [z]; exact ⟨o, ho, fun v q => by rw [hd] at q; cases q⟩
  keep := fun i h h' st k => let ⟨⟨old, he⟩, hi, hne⟩ := st; ⟨⟨old, k e (by simp) _ he⟩, hi.at fun o q => k it (by simp) o q, hne⟩
  item := by
    intro X hP hw hK hc i pins s σ H E I hf st hg
    subst hP hw hK
    obtain ⟨⟨old, he⟩, hit, hne, hai, hae⟩ := st
    obtain ⟨xs, x, hq, hx⟩ := hg
    obtain ⟨its, rv, p, hz⟩ := I.tuple hq
    obtain ⟨u, hu, ru⟩ := rv.get hx
    have hel : e < s.heap.objs.size := Heap.lt_size he
    have hil : it < s.heap.objs.size := by obtain ⟨_, q, _⟩ := hit; exact Heap.lt_size q
    have hlt : i < its.toArray.size := by
      have := List.getElem?_eq_some_iff.mp hu
      simpa using this.1
    have tupA : s.heap.IsTuple a its.toArray := p
    have hue : its.toArray[i]? = some u := by simpa using hu
    refine wpAny_pyNext_enum_itemD (Draws.tuple (show X.A.in1.handled = none from I.ok.hd hc) it a hai its.toArray) he (i := i) ⟨hit, tupA⟩ hlt hne (by simp [hne, Ne.symm hae]) fun x' h' tk hP ho hst' hT hsz hk => ?_
    have hx' : x' = u := Option.some.inj (hP.symm.trans hue)
    subst hx'
    obtain ⟨hit', _⟩ := hst'
    refine ⟨_, rfl, wpAny_letOwnedTupleGo_enum (s := { s with heap := h', toks := tk + 1 }) ho fun h'' he' sb => ?_⟩
    have hT2 : h''.get? s.heap.objs.size = some { cls := .type "tuple", data := .seq #[.int i tk, x'] } := (sb.2 _ (Nat.ne_of_gt hel)).trans hT
    have new : ObjOk X.prog X.w (upd H s.heap.objs.size (.tup [.int (i : Nat), x])) h'' s.heap.objs.size (.tup [.int (i : Nat), x]) :=
      ⟨by show 2 ≤ sizeLine; decide, [.int i tk, x'], .cons ⟨_, rfl⟩ (.cons ru .nil), ⟨_, hT2, rfl, _, rfl⟩⟩
    have I1 : Inv X pins σ (upd H s.heap.objs.size (.tup [.int (i : Nat), x])) { s with heap := h'', toks := tk + 1 } :=
      I.turnedNew (ch := [e, it]) (fun b ob hb q => (sb.2 b (fun z => hb (by simp [z]))).trans (hk b ob (fun z => hb (by simp [z])) (fun z => hb (by simp [z])) q)) hf (Nat.le_refl _) new
    refine ⟨.ref s.heap.objs.size, _, I1, rfl, ⟨_, x, rfl, I.hok.fresh (Nat.le_refl _), rfl, fun ys hy => by rw [I.tuple_inj hy hq]; exact hx⟩, ⟨⟨x', ?_⟩, hit'.at fun o q => (sb.2 it (Ne.symm hne)).trans q, hne, hai, hae⟩, fun b hb => ?_⟩
    · have e1 : ((i + 1 : Nat) : Int) = (i : Int) + 1 := by omega
      rw [e1]; exact he'
    · have hb' : b < s.heap.objs.size := by
        have e' : b = e ∨ b = it := by simpa using hb
        rcases e' with z | z
        · rw [z]; exact hel
        · rw [z]; exact hil
      rw [upd_ne (Nat.ne_of_lt hb')]
      exact (hf b hb).1
  done := by
    intro X hP hw hK hc i pins s σ H E I hf st hg
    subst hP hw hK
    obtain ⟨⟨old, he⟩, hit, hne, hai, hae⟩ := st
    obtain ⟨xs, hq, hx⟩ := hg
    obtain ⟨its, rv, p, hz⟩ := I.tuple hq
    obtain ⟨f0, f1, f2, f3, f4, f5⟩ := hf it (by simp)
    have hl := rv.length
    have tupA : s.heap.IsTuple a its.toArray := p
    have hsz : i = its.toArray.size := by rw [List.size_toArray, ← hl, hx]
    refine wpAny_pyNext_enum_endD (i := ((i : Nat) : Int)) (Draws.tuple (show X.A.in1.handled = none from I.ok.hd hc) it a hai its.toArray) he ⟨by rw [← hsz]; exact hit, tupA⟩ fun h' eb => ⟨rfl, I.turned (t' := s.toks) (fun b o hb q => eb b o hb q) f0 f1 f3 f4 f5⟩
  self := fun A i s Q E st h => let ⟨⟨_, he⟩, _⟩ := st; wpAny_pyIter_enum he h
def iEnumT (K : PySem.W.Frag) (ta : TA) : TI := fun σ H R => ta σ H fun vs H1 => ∃ a xs, vs = [.ref a] ∧ SqT K H1 a xs ∧ R (IteT K a) H1
theorem pi_enumT {X : Cx} {e : Expr} {ta : TA} {p pos tpos : Pos} {elts : List Expr} {kk : Nat} (hg : Gl X "enumerate") (hm : X.mg "enumerate" = none) (ha : PA X [e] ta) (hs : starEach [e] X.env = [(false, eval e X.env)] := by rfl) :
    PI X (.Tuple elts kk tpos) (.Call (.Name "enumerate" p) [e] [] pos) (iEnumT X.K ta) := by
  refine ⟨fun pins s σ H R I h => ?_⟩
  refine Call_ (ld_blt I hg hm boot_enumerate (PyProof.Rows.callWith_type1 (thn (ha.run pos pins s σ H _ I h) fun us s1 ⟨vs, H1, I1, r1, q1⟩ => ?_) hs rfl))
  obtain ⟨a, xs, ex, hq, q⟩ := q1
  subst ex
  cases r1 with
  | cons r rr =>
    cases rr
    cases r
    obtain ⟨its, rv, p', hz⟩ := I1.tuple hq
    obtain ⟨o1, ho1, _⟩ := id p'
    have hlt := Heap.lt_size ho1
    refine call_enumerate_tuple (show s1.heap.IsTuple a its.toArray from p') fun h' he hit hsz hk => wpAny_pyIter_enum he ?_
    have I2 : Inv X pins σ H1 { s1 with heap := h' } := I1.kept (t' := s1.toks) hk
    refine ⟨s1.heap.objs.size + 1, [s1.heap.objs.size + 1, s1.heap.objs.size], _, _, H1, rfl, I2, turn_enumT a (s1.heap.objs.size + 1) s1.heap.objs.size, ⟨⟨.none, he⟩, hit, Nat.succ_ne_self _, Nat.ne_of_lt hlt, Nat.ne_of_lt (Nat.lt_succ_of_lt hlt)⟩, fun b hb => ?_, q⟩
    have e' : b = s1.heap.objs.size + 1 ∨ b = s1.heap.objs.size := by simpa using hb
    have hle : s1.heap.objs.size ≤ b := by
      rcases e' with z | z
      · rw [z]; exact Nat.le_add_right _ _
      · rw [z]; exact Nat.le_refl _
    exact I1.fpOk hle (I1.hok.fresh hle)
theorem walk_enumT {K : PySem.W.Frag} {a : Addr} {xs : List V} : Walk (IteT K a) xs.length (fun H => SqT K H a xs) (YPair (fun i => some (.int (i : Nat))) (fun i => xs[i]?)) := by
  refine ⟨fun i _ hi q => ⟨xs, xs[i], q, by simp [hi]⟩, fun _ q => ⟨xs, q, rfl⟩, fun i H v H' _ q y => ?_⟩
  obtain ⟨T, x, h1, h2, h3, h4⟩ := y
  exact ⟨T, .int (i : Nat), x, h1, h2, h3, rfl, h4 xs q⟩
theorem walk_zipT {K : PySem.W.Frag} {a b : Addr} {xs ys : List V} {n : Nat} (hn : n = min xs.length ys.length) : Walk (ItzT K a b) n (fun H => SqT K H a xs ∧ SqT K H b ys) (YPair (fun i => xs[i]?) (fun i => ys[i]?)) := by
  subst hn
  refine ⟨fun i _ hi q => ?_, fun _ q => ⟨xs, ys, q.1, q.2, by omega⟩, fun i H v H' _ q y => ?_⟩
  · have h1 : i < xs.length := by omega
    have h2 : i < ys.length := by omega
    exact ⟨xs, ys, xs[i], ys[i], q.1, q.2, by simp [h1], by simp [h2]⟩
  · obtain ⟨T, x, z, h1, h2, h3, h4, h5⟩ := y
    exact ⟨T, x, z, h1, h2, h3, h4 xs q.1, h5 ys q.2⟩
end Fp

/-! min(d, key=f) over a dict of words, f telling (-len(word), word). -/
namespace Fp
open PySem L2 PySem.W
theorem argBest_leW (f : Nat → Str) : ∀ k, argBest (fun i j => dataLt (keyD (f i)) (keyD (f j))) k ≤ k ∧ ∀ j, j ≤ k → leW (f (argBest (fun i j => dataLt (keyD (f i)) (keyD (f j))) k)) (f j) = true
  | 0 => ⟨Nat.le_refl _, fun j hj => by
      have : j = 0 := by omega
      subst this
      exact (leW_total.total _ _).elim id id⟩
  | k + 1 => by
    obtain ⟨h1, h2⟩ := argBest_leW f k
    by_cases hb : dataLt (keyD (f (k + 1))) (keyD (f (argBest (fun i j => dataLt (keyD (f i)) (keyD (f j))) k))) = true
    · have e : argBest (fun i j => dataLt (keyD (f i)) (keyD (f j))) (k + 1) = k + 1 := if_pos hb
      rw [e]
      have hn : leW (f (argBest (fun i j => dataLt (keyD (f i)) (keyD (f j))) k)) (f (k + 1)) = false := by
        show (!dataLt (keyD (f (k + 1))) (keyD (f (argBest (fun i j => dataLt (keyD (f i)) (keyD (f j))) k)))) = false
        rw [hb]; rfl
      have hy : leW (f (k + 1)) (f (argBest (fun i j => dataLt (keyD (f i)) (keyD (f j))) k)) = true := (leW_total.total _ _).elim id (fun z => by rw [hn] at z; cases z)
      refine ⟨Nat.le_refl _, fun j hj => ?_⟩
      rcases Nat.lt_or_ge j (k + 1) with hlt | hge
      · exact leW_total.trans _ _ _ hy (h2 j (by omega))
      · have : j = k + 1 := by omega
        subst this
        exact (leW_total.total _ _).elim id id
    · have e : argBest (fun i j => dataLt (keyD (f i)) (keyD (f j))) (k + 1) = argBest (fun i j => dataLt (keyD (f i)) (keyD (f j))) k := if_neg hb
      rw [e]
      refine ⟨by omega, fun j hj => ?_⟩
      rcases Nat.lt_or_ge j (k + 1) with hlt | hge
      · exact h2 j (by omega)
      · have : j = k + 1 := by omega
        subst this
        show (!dataLt (keyD (f (k + 1))) (keyD (f (argBest (fun i j => dataLt (keyD (f i)) (keyD (f j))) k)))) = true
        cases q : dataLt (keyD (f (k + 1))) (keyD (f (argBest (fun i j => dataLt (keyD (f i)) (keyD (f j))) k))) with
        | false => rfl
        | true => exact absurd q hb
/-- the first word of a row that is not empty -/
theorem ordW_head {ws : List Str} {m : Str} (hm : m ∈ ws) (hl : ∀ w ∈ ws, leW m w = true) : (ordW ws).head? = some m := by
  have hp := ordW_perm ws
  have hs := ordW_sorted ws
  cases e : ordW ws with
  | nil => rw [e] at hp; exact absurd (hp.mem_iff.mpr hm) (by simp)
  | cons w r =>
    rw [e] at hp hs
    have hw : w ∈ ws := hp.mem_iff.mp List.mem_cons_self
    have h1 := hl w hw
    have h2 : leW w m = true := by
      rcases List.mem_cons.mp (hp.mem_iff.mpr hm) with z | z
      · rw [z]; exact (leW_total.total _ _).elim id id
      · exact (List.pairwise_cons.mp hs).1 m z
    rw [leW_anti h2 h1]
    rfl
section
variable {X : L2.Cx} {wn nm qual : Str} {st : PySem.Stmt} {f : Addr} {fd : FuncData} {pins : List (Addr × Obj)} {σ : St} {H : Hp} {s : Shared} {p1 p2 p3 p4 p5 p6 p7 : Pos} 
/-- a new tuple (-len(word), word) -/
def KeyNew (x : Str) (s1 : Shared) (v : Value) (s2 : Shared) : Prop := ∃ h' tk b t1 t2, s2 = { s1 with heap := h', toks := tk } ∧ v = .ref b ∧ s1.heap.get? b = none ∧ (∀ a o, s1.heap.get? a = some o → h'.get? a = some o) ∧ h'.get? b = some { cls := .type "tuple", data := .seq #[.int (-(x.length : Int)) t1, .str x t2] }
theorem ahead_new {kk : _} (F : Fun X.K nm qual st f fd) (S : FnScope [wn] [wn] (defScope st))
    (hbody : defBody st = [.Return (some (.Tuple [.UnaryOp .USub (.Call (.Name "len" p1) [.Name wn p2] [] p3) p4, .Name wn p5] kk p6)) p7])
    (hwn : (defScope st).names.lookup wn = some .local) (hlen : (defScope st).names.lookup ("len" : Str) = some .globalImplicit) (hwd : (wn == ("__debug__" : Str)) = false) (bn : Binds X.K fd [wn] []) (bl : X.mg "len" = none) (I : Inv X pins σ H s) {A' : Around} (hr : Room 1 A')
    (x : Str) (t : Tok) (hx : x.length ≤ sizeLine) (h : Heap) (tk : Nat) (keep : ∀ b o, s.heap.get? b = some o → h.get? b = some o) :
    wpAny (model X.prog X.w) A' (call (.ref f) [.str x t]) (KeyNew x { s with heap := h, toks := tk }) (fun _ _ => False) { s with heap := h, toks := tk } := by
  obtain ⟨oc, od, kV, doc, pm, an, cdv, ct, osl, rfl, lk, hcd⟩ := F.ex
  have KX : X.K.In h := I.kIn.keeps keep
  have lim : h.NoLimit := I.nolimit.keeps keep
  have hb := bn { s with heap := h, toks := tk } [.str x t] KX rfl
  refine wpAny_call (codeAny_call_function hr.depth (KX _ _ lk) rfl S.co S.gen rfl (PySem.W.codeRec_of KX hcd) (hb _ _ _ _ ?_))
  have hkind : ∀ y ∈ [wn].zip ([Value.str x t] ++ []), (defScope st).names.lookup y.1 = some .local ∨ ((defScope st).names.lookup y.1 = some .cell ∧ ((cellsFrom (h.objs.size + 1) (defScope st).names []).lookup y.1).isSome = true) := fun y hy => by
    have e : y = (wn, Value.str x t) := by simpa using hy
    rw [e]
    exact .inl hwn
  refine wpAny_newFunctionEnv_cells S.kind hkind fun env he s1 xx => ?_
  have htk := xx.toInCall
  obtain ⟨h1, tk1, rfl, hk1⟩ := xx.done
  have hns := xx.toInCall.ns
  refine ⟨lim.keeps hk1, codeAny_func ?_⟩
  have henv : env.scope = defScope st ∧ env.globals = mainGlobals ∧ env.builtins = builtinsNs := by rw [he]; exact ⟨rfl, rfl, rfl⟩
  obtain ⟨e1, e2, e3⟩ := henv
  have kw : env.kindOf wn = some .local := by unfold Env.kindOf; rw [e1]; exact hwn
  have kl : env.kindOf "len" = some .globalImplicit := by unfold Env.kindOf; rw [e1]; exact hlen
  have mw : bindL env.kindOf ([wn].zip ([Value.str x t] ++ [])) (fun _ => none) wn = some (.str x t) := by
    show bindL env.kindOf [(wn, Value.str x t)] (fun _ => none) wn = _
    unfold bindL
    simp [bindL, kw]
  have keep1 : ∀ b o, s.heap.get? b = some o → h1.get? b = some o := fun b o q => hk1 b o (keep b o q)
  obtain ⟨mb, b1, b2⟩ := I.mod.blt
  rw [hbody]
  refine wpAny_execs_cons (wpAny_Return_some (wpAny_Tuple_spliced ?_))
  refine Calls.spliced_cons (PyProof.Rows.UnaryOp_ (wpAny_Call_Name_kw (Calls.Name_function_global (by rw [e1]; exact S.kind) kl (Calls.loadGlobal_builtin (by rw [e2]; exact I.mod.glob.keeps fun b o q => keep1 b o (I.bk b o q)) bl
    (by rw [e3]; exact b1.keeps fun b o q => keep1 b o (I.bk b o q)) ((b2 ("len" : Str) (by decide)).trans PySem.boot_len) ?_))))
  refine PyProof.Rows.callWith_builtin1 (Calls.spliced_cons (wpAny_Name (wpAny_loadName_local (by rw [e1]; exact S.kind) kw hns mw (Calls.spliced_nil ?_)) hwd))
  have hn := L2.line63
  refine PyProof.Rows.len_str (by omega) (PyProof.Rows.neg_int ?_)
  refine Calls.spliced_cons (wpAny_Name (wpAny_loadName_local (by rw [e1]; exact S.kind) kw hns mw (Calls.spliced_nil ⟨by show 2 ≤ sizeLine; decide, ?_⟩)) hwd)
  refine ⟨_, _, _, _, _, rfl, rfl, ?_, fun b o q => Heap.get?_push_of_some _ (hk1 b o q), Heap.get?_push_size _ rfl⟩
  show h.get? h1.objs.size = none
  cases q : h.get? h1.objs.size with
  | none => rfl
  | some o => exact absurd (Heap.lt_size (hk1 _ o q)) (Nat.lt_irrefl _)
/-- what min(d, key=f) asks, f telling (-len(word), word) -/
def rMinKey (f : Addr) : List V → List V → Hp → VK → Prop := fun vs zs H Q => ∃ (a : Addr) (s : Bg), vs = [V.ref a] ∧ zs = [V.ref f] ∧ H a = some (.dK (toK s)) ∧ s ≠ [] ∧ (∀ w ∈ keys s, w.length ≤ sizeLine) ∧
  ∀ w, (ordW (keys s)).head? = some w → Q (.str w) H
theorem cr_minKey {kk : _} (F : Fun X.K nm qual st f fd) (S : FnScope [wn] [wn] (defScope st))
    (hbody : defBody st = [.Return (some (.Tuple [.UnaryOp .USub (.Call (.Name "len" p1) [.Name wn p2] [] p3) p4, .Name wn p5] kk p6)) p7])
    (hwn : (defScope st).names.lookup wn = some .local) (hlen : (defScope st).names.lookup ("len" : Str) = some .globalImplicit) (hwd : (wn == ("__debug__" : Str)) = false) (bn : L2.Binds X.K fd [wn] []) (bl : X.mg "len" = none) (hr : Room 2 X.A) (hc : X.calm = true) :
    CallRK X (.builtin "min") [Str.ofString "key"] (rMinKey f) := by
  intro pins s σ H vs zs us ws Q I r rz h
  obtain ⟨a, sp, rfl, rfl, ha, hne, hx, q⟩ := h
  obtain rfl := Vals.ref1 r
  obtain ⟨w1, rfl, e1⟩ := vals1 rz
  obtain rfl : w1 = Value.ref f := e1
  obtain ⟨_, hsys, vs, rel, dof⟩ := dk_of I.hok ha
  obtain ⟨ep, dat⟩ := dof.dictAt
  obtain ⟨ob, es, ho, hex, hdat, hko, hpr, hnd⟩ := id dat
  have hlt : a < s.heap.objs.size := Heap.lt_size ho
  have hkeys : vs.map (·.1) = (keys sp).map Sum.inr := (KV.keys rel).symm.trans (by unfold toK keys; rw [List.map_map, List.map_map]; rfl)
  have hlv : vs.length = (keys sp).length := by
    have e1 := congrArg List.length hkeys
    rw [List.length_map, List.length_map] at e1
    exact e1
  have hpos : 0 < vs.length := by
    rw [hlv]
    unfold keys
    rw [List.length_map]
    exact List.length_pos_iff.mpr hne
  have hval : ∀ (i : Nat) (v : Value), (∃ k x, vs[i]? = some (k, x) ∧ (mixKind X.prog X.w).is k v = true) → ∃ t, v = Value.str ((keys sp).getD i "") t := fun i v ⟨k, x, hk, hkey⟩ => by
    have e1 : (vs.map (·.1))[i]? = some k := by rw [List.getElem?_map, hk] <;> rfl
    rw [hkeys, List.getElem?_map] at e1
    obtain ⟨j, hj, e2⟩ := Option.map_eq_some_iff.mp e1
    subst e2
    have hi : keyIs (Sum.inr j) v = true := hkey
    rcases keyIs_shape hi with ⟨z, t, z1, z2⟩ | ⟨z, t, z1, z2⟩
    · cases z1
    · cases z1
      refine ⟨t, ?_⟩
      rw [z2, List.getD_eq_getElem?_getD, hj] <;> rfl
  refine call_min_walkK (wpAny_pyIter_dict (knd := mixKind X.prog X.w) hsys dat ?_)
  have W := (Walks.dictKeys (knd := mixKind X.prog X.w) (A := X.A.in1) (I.ok.hd hc) s.heap.objs.size a (Nat.ne_of_lt hlt) vs ep).toS
  have hleq : vs.length = (keys sp).length := hlv
  generalize hs2 : ({ s with heap := s.heap.push { cls := .type "dict_keyiterator", data := .fields #[.ref a, .int 0 0, .int (vs.length : Nat) 0, .int (ep : Nat) 0] }, toks := s.toks } : Shared) = s2
  have hsz : s2.heap.objs.size = s.heap.objs.size + 1 := by rw [← hs2]; exact Heap.size_push _ _
  have hkp : ∀ b o, s.heap.get? b = some o → s2.heap.get? b = some o := fun b o e => by rw [← hs2]; exact Heap.get?_push_of_some _ e
  have hst : s2.heap.IsKeyIter s.heap.objs.size a 0 vs.length ep ∧ s2.heap.DictAt (mixKind X.prog X.w) a vs ep := by
    rw [← hs2]
    exact ⟨⟨_, Heap.get?_push_size _ rfl, rfl, rfl⟩, dat.keep fun b u e => Heap.get?_push_of_some _ e⟩
  have hgen : s2.gens = s.gens ∧ s2.drawn = s.drawn ∧ s2.os = s.os := by rw [← hs2]; exact ⟨rfl, rfl, rfl⟩
  refine ⟨_, _, _, _, _, _, _, fun m => Moved [s2.heap.objs.size, s.heap.objs.size] (fun a b => b = a) s2 m, fun i k m => ∃ b t1 t2, k = .ref b ∧ b ≠ s2.heap.objs.size ∧ b ≠ s.heap.objs.size ∧ m.heap.get? b = some { cls := .type "tuple", data := .seq #[.int (-((((keys sp).getD i "").length : Nat) : Int)) t1, .str ((keys sp).getD i "") t2] }, fun i j => dataLt (keyD ((keys sp).getD i "")) (keyD ((keys sp).getD j "")), rfl, W, hst, fun b hb => ?_, hpos, ?_, Moved.refl (fun _ => rfl), fun v s' hP hk => ?_⟩
  · rw [hsz]
    rcases List.mem_cons.mp hb with e | hb
    · rw [e]
      exact Nat.lt_succ_self _
    · rw [List.mem_singleton.mp hb]
      exact Nat.lt_succ_of_lt hlt
  · refine ⟨fun m m' hm hmv => Moved.trans (fun _ _ _ h1 h2 => h2.trans h1) hm hmv, fun i k m m' hv hmv => ?_, fun i v m o Q2 E2 hi hP hm hst2 hS q2 => ?_, fun i j ki kj m Q2 E2 hm hv1 hv2 q2 => ?_⟩
    · obtain ⟨b, t1, t2, rfl, n1, n2, hb⟩ := hv
      refine ⟨b, t1, t2, rfl, n1, n2, hmv.heap b _ (fun z => ?_) hb⟩
      rcases List.mem_cons.mp z with z | z
      · exact n1 z
      · exact n2 (List.mem_singleton.mp z)
    · obtain ⟨t, rfl⟩ := hval i v hP
      have hx2 : ((keys sp).getD i "").length ≤ sizeLine := by
        have hi2 : i < (keys sp).length := by omega
        rw [List.getD_eq_getElem?_getD, List.getElem?_eq_getElem hi2]
        exact hx _ (List.getElem_mem hi2)
      have Im : Inv X pins σ H m := by
        have hm' : m = { s with heap := m.heap, toks := m.toks } := by
          obtain ⟨_, g1, g2, g3, _⟩ := hm
          obtain ⟨g4, g5, g6⟩ := hgen
          cases m
          simp only at g1 g2 g3 ⊢
          rw [g1, g2, g3, g4, g5, g6]
        rw [hm']
        refine I.kept (t' := m.toks) fun b u e => hm.heap b u (fun z => ?_) (hkp b u e)
        have e2 := Heap.lt_size e
        rcases List.mem_cons.mp z with z | z
        · rw [z, hsz] at e2; exact absurd e2 (Nat.not_lt.mpr (Nat.le_succ _))
        · rw [List.mem_singleton.mp z] at e2; exact absurd e2 (Nat.lt_irrefl _)
      refine wpAny_mono (wpAny_toks (ahead_new F S hbody hwn hlen hwd bn bl Im hr.in1 ((keys sp).getD i "") t hx2 m.heap m.toks fun _ _ e => e)) (fun k m2 hk => ?_) fun _ _ z => z.2.elim
      obtain ⟨htk, h', tk, b, t1, t2, rfl, rfl, hb0, hke, hbt⟩ := hk
      have hbS : b ≠ s2.heap.objs.size := fun z => by
        rw [z] at hb0
        rw [show m.heap.get? s2.heap.objs.size = some o from hS] at hb0
        cases hb0
      have hbI : b ≠ s.heap.objs.size := fun z => by
        rw [z] at hb0
        obtain ⟨o2, ho2, _⟩ := hst2.1
        rw [show m.heap.get? s.heap.objs.size = some o2 from ho2] at hb0
        cases hb0
      refine q2 _ _ (Moved.then_heap hm htk fun b o _ e => hke b o e) (W.frame _ m h' tk hst2 htk fun b _ o e => hke b o e) (hke _ _ hS) ⟨b, t1, t2, rfl, hbS, hbI, hbt⟩ fun j k' hv => ?_
      obtain ⟨b', u1, u2, rfl, n1, n2, hb'⟩ := hv
      exact ⟨b', u1, u2, rfl, n1, n2, hke _ _ hb'⟩
    · obtain ⟨b, t1, t2, rfl, n1, n2, hb⟩ := hv1
      obtain ⟨b', t1', t2', rfl, n1', n2', hb'⟩ := hv2
      have hu := (hr.in1).un
      have hd := keyD_depth ((keys sp).getD i "")
      exact rcLt_alike _ _ _ _ _ _ _ _ (.tuple hb rfl rfl (.cons (.int _ _) (.cons (.str _ _) .nil))) (.tuple hb' rfl rfl (.cons (.int _ _) (.cons (.str _ _) .nil))) (keyD_alike _ _) (fun z => by cases z) (Nat.lt_of_le_of_lt (Nat.add_le_add_left (Nat.le_trans (Nat.min_le_left _ _) hd) _) (by omega)) _ _ _ _ q2
  · obtain ⟨t, rfl⟩ := hval _ v hP
    obtain ⟨b1, b2⟩ := argBest_leW (fun i => (keys sp).getD i "") (vs.length - 1)
    have hm' : s' = { s with heap := s'.heap, toks := s'.toks } := by
      obtain ⟨_, g1, g2, g3, _⟩ := hk
      obtain ⟨g4, g5, g6⟩ := hgen
      cases s'
      simp only at g1 g2 g3 ⊢
      rw [g1, g2, g3, g4, g5, g6]
    have Is : Inv X pins σ H s' := by
      rw [hm']
      refine I.kept (t' := s'.toks) fun b u e => hk.heap b u (fun z => ?_) (hkp b u e)
      have e2 := Heap.lt_size e
      rcases List.mem_cons.mp z with z | z
      · rw [z, hsz] at e2; exact absurd e2 (Nat.not_lt.mpr (Nat.le_succ _))
      · rw [List.mem_singleton.mp z] at e2; exact absurd e2 (Nat.lt_irrefl _)
    refine ⟨.str _, H, Is, ⟨t, rfl⟩, q _ (ordW_head ?_ fun w hw => ?_)⟩
    · have hb : argBest (fun i j => dataLt (keyD ((keys sp).getD i "")) (keyD ((keys sp).getD j ""))) (vs.length - 1) < (keys sp).length := by omega
      rw [List.getD_eq_getElem?_getD, List.getElem?_eq_getElem hb]
      exact List.getElem_mem hb
    · obtain ⟨i, hi, e⟩ := List.mem_iff_getElem.mp hw
      have e2 : (keys sp).getD i "" = w := by rw [List.getD_eq_getElem?_getD, List.getElem?_eq_getElem hi, ← e] <;> rfl
      rw [← e2]
      exact b2 i (by omega)
end
end Fp

namespace Fp
open PySem L2
section
variable {P : Program} {w : World} {K : PySem.W.Frag} {mg : Str → Option Value} {base : Heap} {C_Bag : Addr} {Cs : Addr → Prop}
local macro_rules | `(tactic| walk_at "hp") => `(tactic| first | assumption | rfl)
local macro_rules | `(tactic| walk_at "cond") => `(tactic| first | assumption | decide | omega | (unfold CMul; omega) | (refine ⟨?_, ?_⟩ <;> omega) | (unfold CDiv; omega) | (unfold CPow; omega))
local macro_rules | `(tactic| walk_at "g1") => `(tactic| first
  | with_reducible first
    | refine g_seq ?_ | refine g_asg ?_ | refine g_name ?_ | refine g_ret ?_ | refine g_retN ?_ | refine g_drop ?_ | refine g_ifs ?_
    | refine g_c ?_ | refine g_op ?_ | refine g_un ?_ | refine g_I0 ?_ | refine g_U ?_
    | refine g_test ?_ | refine g_tB ?_ | refine g_bl ?_ | refine g_and ?_ | refine g_or ?_ | refine g_not ?_
    | refine g_andV ?_ | refine g_orV ?_ | refine g_notV ?_ | refine g_if ?_ | refine g_nil ?_ | refine g_cons ?_ | refine g_cb ?_ | refine g_call ?_
    | refine g_lst ?_ | refine g_tup ?_ | refine g_itT ?_ | refine g_itF ?_ | refine g_itNT ?_ | refine g_itNF ?_ | refine g_lc ?_ | refine g_iStr ?_ | refine g_yes ?_ | refine g_exs ?_
    | refine g_chain ?_ | refine g_dget ?_ | refine g_dput ?_ | refine g_dget2 ?_ | refine g_dpop2 ?_ | refine g_fld ?_ | refine g_sfld ?_ | refine g_make ?_ | refine g_meth ?_
    | refine g_bm ?_ | refine g_kw ?_ | refine g_callS ?_ | refine g_revL ?_ | refine g_m1 ?_ | refine g_gsub ?_ | refine g_for ?_ | refine g_iList ?_ | refine g_iTup ?_ | refine g_iRng1 ?_ | refine g_iRng2 ?_ | refine g_sl ?_ | refine g_part ?_ | refine g_noPart ?_
    | refine g_exi ?_ | refine g_exr ?_ | refine g_dnew ?_ | refine g_disp ?_ | refine g_prs0 ?_ | refine g_prs ?_ | refine g_nxt ?_
  | ((with_reducible refine g_var (v := ?vv) ?gv ?_); (case gv => exact rfl))
  | ((with_reducible refine g_I ?gc ?_); (case gc => walk_at "cond"))
  | ((with_reducible refine g_eq ?ge ?_); (case ge => exact rfl))
  | ((with_reducible refine g_ne ?ge ?_); (case ge => exact rfl))
  | (refine g_ixl (SqL.of (by first | assumption | exact upd_same)) rfl ?_)
  | (refine g_setl (by first | assumption | exact upd_same) rfl ?_)
  | ((with_reducible show (∃ i, [V.int _] = [V.int i] ∧ _) ∨ _); refine Or.inl ⟨_, rfl, ?_⟩)
  | ((with_reducible show ∃ i, [V.int _] = [V.int i] ∧ _); refine ⟨_, rfl, ?_⟩)
  | dsimp only)
local macro_rules | `(tactic| walk_at "go") => `(tactic| repeat (walk_at "g1"))

local macro_rules | `(tactic| walk_at "g1") => `(tactic| with_reducible first | refine g_gcons ?_ | refine g_gnil ?_)

/-! ### inverses, first words, lengths, words of one length, plain bags -/
theorem powM_bd {p x : Int} (hp : 0 < p) (hp2 : p ≤ 1000) : ∀ n, 0 ≤ powM p x n ∧ powM p x n ≤ 1000
  | 0 => ⟨by unfold powM; decide, by unfold powM; decide⟩
  | n + 1 => by
    unfold powM
    have h1 := Int.emod_nonneg (powM p x n * x) (by omega : p ≠ 0)
    have h2 := Int.emod_lt_of_pos (powM p x n * x) hp
    omega
def sp_inverse : Sp := fun vs H Q _ => ∃ (p x : Int), vs = [.int p, .int x] ∧ 2 ≤ p ∧ p ≤ 1000 ∧ Q (.int (inv p x)) H
theorem ok_inverse {f : Addr} {fd : FuncData} (F : Fun K "inverse" "inverse" s_inverse f fd) (T : Txt K mg C_Bag Cs) : FnOk P w K mg base CX0 1 f fd ["clock", "number"] sp_inverse := by
  refine F.ok sc_inverse (fun vs H Q E h => ?_) (fun cdv A outer s H vs Q E hr h => ?_)
  · obtain ⟨p, x, rfl, _⟩ := h
    rfl
  · obtain ⟨p, x, rfl, hp, hp2, k⟩ := h
    have hu := hu_of hr; have hu64 := L2.Room.units hr; refine ⟨_, (pss_cons (ps_set (i := 2) sc_inverse.nd rfl (by first | exact Or.inl rfl | exact Or.inr rfl) pe_int) (pss_cons (ps_for PassesOwn.never rfl (pi_range1 rfl T.b_range (pa_cons (pe_op op_sub (pv 0) pe_int) pa_nil)) (pg_name (i := 3) sc_inverse.nd rfl (by first | exact Or.inl rfl | exact Or.inr rfl)) (pss_one (ps_set (i := 2) sc_inverse.nd rfl (by first | exact Or.inl rfl | exact Or.inr rfl) (pe_op op_mod (pe_callTy call_int1 (by rfl) T.b_int (by decide +kernel) (pa_cons (pe_op op_mul (pv 2) (pv 1)) pa_nil)) (pv 0))))) (pss_one (ps_ret (pv 2))))), ?_⟩; rw [st_inverse]; (try dsimp only [cxOf]); walk_at "go"
    refine ⟨by omega, by omega, ?_⟩
    refine forG walk_range (fun i σ' H' => ∃ y, σ' = [some (.int p), some (.int x), some (.int (powM p x i)), y] ∧ H' = H) ⟨none, rfl, rfl⟩ (fun _ _ _ _ _ => trivial) ?_ ?_
    · rintro i z σ' H1 H2 hi ⟨y, rfl, rfl⟩ ⟨rfl, rfl⟩
      obtain ⟨c1, c2⟩ := powM_bd (x := x) (by omega : 0 < p) hp2 i
      walk_at "go"
      exact ⟨_, rfl, rfl⟩
    · rintro σ' H1 ⟨y, rfl, rfl⟩
      walk_at "go"
      exact k
def sp_first_word : Sp := fun vs H Q _ => ∃ (d : Addr) (s : Bg), vs = [.ref d] ∧ H d = some (.dK (toK s)) ∧ s ≠ [] ∧ (∀ u ∈ keys s, u.length ≤ 10000000) ∧ Q (.str (lead s)) H
theorem ok_first_word {f : Addr} {fd : FuncData} (F : Fun K "first_word" "first_word" s_first_word f fd) (T : Txt K mg C_Bag Cs) (KF : KeyFn K mg) : FnOk P w K mg base CX0 4 f fd ["sparse"] sp_first_word := by
  refine F.ok sc_first_word (fun vs H Q E h => ?_) (fun cdv A outer s H vs Q E hr h => ?_)
  · obtain ⟨d, s, rfl, _⟩ := h
    rfl
  · obtain ⟨d, s, rfl, hd, hne, hw, k⟩ := h
    obtain ⟨f_ahead_key, fd_ahead_key, F_ahead_key, M_ahead_key, B_ahead_key⟩ := KF.ex
    have hu := hu_of hr; have hu64 := L2.Room.units hr; refine ⟨_, (pss_one (ps_ret (pe_callBK (cr_minKey F_ahead_key sc_ahead_key rfl rfl rfl rfl B_ahead_key T.b_len (hr.mono (by decide)) rfl) (by rfl) T.b_min (by decide +kernel) (pa_cons (pv 0) pa_nil) (pk_cons (pe_glob (v := .ref f_ahead_key) rfl M_ahead_key rfl) pk_nil)))), ?_⟩; rw [st_first_word]; (try dsimp only [cxOf]); walk_at "go"
    refine ⟨d, s, rfl, rfl, hd, hne, fun u hu => line5 (hw u hu), fun z hz => ?_⟩
    rw [lead_head hne] at hz
    obtain rfl := Option.some.inj hz
    exact k

/-! ### so many times -/
def sp_scaled : Sp := fun vs H Q _ => ∃ (d : Addr) (p : Int) (s : Bg) (f : Int), vs = [.int p, .ref d, .int f] ∧ Rd H d (.dK (toK s)) ∧ (keys s).Nodup ∧ s.length < 10000000 ∧ 0 < p ∧ (-1000000 < f ∧ f < 1000000) ∧
  ∀ x H', Ex H H' → H x = none → H' x = some (.dK (toK (plusS p [] s f))) → Q (.ref x) H'
theorem ok_scaled {f : Addr} {fd : FuncData} (F : Fun K "scaled" "scaled" s_scaled f fd) (T : Txt K mg C_Bag Cs) (D_added : DefOk P w K mg base CX0 2 "added" ["clock", "one", "other", "factor"] sp_law_plus) : FnOk P w K mg base CX0 3 f fd ["clock", "sparse", "factor"] sp_scaled := by
  refine F.ok sc_scaled (fun vs H Q E h => ?_) (fun cdv A outer s H vs Q E hr h => ?_)
  · obtain ⟨d, p, s, n, rfl, _⟩ := h
    rfl
  · obtain ⟨d, p, s, n, rfl, hd, hnd, hl, hp, hf, k⟩ := h
    have hu := hu_of hr; have hu64 := L2.Room.units hr; refine ⟨_, (pss_one (ps_ret (pe_callD D_added (hr.mono (by decide)) rfl pass0 (pa_cons (pv 0) (pa_cons pe_dnewK (pa_cons (pv 1) (pa_cons (pv 2) pa_nil))))))), ?_⟩; rw [st_scaled]; (try dsimp only [cxOf]); walk_at "go"
    intro q hq
    walk_at "go"
    have e0 : Ex H (upd H q (.dK [])) := Ex.new hq
    refine ⟨p, q, d, [], s, n, rfl, .inl upd_same, e0.rd hd, hnd, by rw [List.length_nil]; omega, hp, hf, fun x H1 e1 hx hx1 => ?_⟩
    exact k x H1 (e0.trans e1) (e0.free hx) hx1

/-! ### dividing -/
theorem g_while {c : TT} {tb : TS} {D : Ends} {σ : St} {H : Hp} (W : Nat → St → Hp → Prop) (m : Nat) (h0 : W m σ H) (hs : ∀ m σ H, W m σ H → c σ H fun b H1 => if b = true then ∃ N : St → Hp → Prop, (∀ σ' H', N σ' H' → ∃ m', m' < m ∧ W m' σ' H') ∧ tb { D with nx := N, ct := N, bk := D.nx } σ H1 else D.nx σ H1) : tWhile c tb D σ H := ⟨W, ⟨m, h0⟩, hs⟩
theorem isW_ltr {u : Str} (h : isW u = true) : Ltr u.cps.toList := fun c hc => by
  unfold isW at h
  have := of_decide_eq_true (List.all_eq_true.mp h c hc)
  have e : ("xyz" : Str).cps.toList = [120, 121, 122] := by decide +kernel
  rw [e] at this
  simpa using this
theorem ltr_isW {u : Str} (h : Ltr u.cps.toList) : isW u = true := by
  unfold isW
  refine List.all_eq_true.mpr fun c hc => decide_eq_true ?_
  have e : ("xyz" : Str).cps.toList = [120, 121, 122] := by decide +kernel
  rw [e]
  simpa using h c hc
theorem Lot.bd {p : Int} {s : Bg} {a b : Nat} (l : Lot p s a b) : Bd b s := fun u hu => ⟨(l.l u hu).1, isW_ltr (l.l u hu).2⟩
theorem Bd.mono {n m : Nat} {s : Bg} (h : Bd n s) (hm : n ≤ m) : Bd m s := fun u hu => ⟨Nat.le_trans (h u hu).1 hm, (h u hu).2⟩
theorem Bd.put {n : Nat} {s : Bg} {t : Str} {k : Int} (h : Bd n s) (h1 : t.length ≤ n) (h2 : Ltr t.cps.toList) : Bd n (putS s t k) := fun u hu => by
  rw [keys_put] at hu
  split at hu
  · exact h u hu
  · rcases List.mem_append.mp hu with hu | hu
    · exact h u hu
    · rw [List.mem_singleton.mp hu]; exact ⟨h1, h2⟩
def sp_with_behind : Sp := fun vs H Q _ => ∃ (d : Addr) (p : Int) (s : Bg) (t : Str) (m : Int), vs = [.int p, .ref d, .str t, .int m] ∧ Rd H d (.dK (toK s)) ∧ (keys s).Nodup ∧ s.length < 10000000 ∧ (∀ u ∈ keys s, u.length ≤ 5000000) ∧ t.length ≤ 5000000 ∧ 0 < p ∧ (-1000000 < m ∧ m < 1000000) ∧
  ∀ x H', Ex H H' → H x = none → H' x = some (.dK (toK (s.map fun kv => (kv.1 ++ t, kv.2 * m % p)))) → Q (.ref x) H'
theorem ok_with_behind {f : Addr} {fd : FuncData} (F : Fun K "with_behind" "with_behind" s_with_behind f fd) (T : Txt K mg C_Bag Cs) : FnOk P w K mg base CX0 1 f fd ["clock", "sparse", "word", "number"] sp_with_behind := by
  refine F.ok sc_with_behind (fun vs H Q E h => ?_) (fun cdv A outer s H vs Q E hr h => ?_)
  · obtain ⟨d, p, s, t, m, rfl, _⟩ := h
    rfl
  · obtain ⟨d, p, s, t, m, rfl, hd, hnd, hl, hw, ht, hp, hm, k⟩ := h
    have efm : s.filterMap (fun kv : Str × Int => some (kv.1 ++ t, kv.2 * m % p)) = s.map fun kv => (kv.1 ++ t, kv.2 * m % p) := by rw [← List.filterMap_eq_map]; rfl
    have hu := hu_of hr; have hu64 := L2.Room.units hr; refine ⟨_, (pss_one (ps_ret (pe_lockR (pe_dc (own := [("front", 4)]) (g := (gName 4)) (tt := tYes) rfl sc_with_behind.nd (pi_keys (pv 1)) (blkOk_by (N := N_with_behind) (sc := defScope s_with_behind) (by decide +kernel)) (fun _ _ _ _ _ => (pg_name (i := 4) sc_with_behind.nd rfl (by first | exact Or.inl rfl | exact Or.inr rfl))) (fun _ _ _ _ _ => pts_nil) (fun _ _ _ _ _ => (pe_op op_add_str (pv 4) (pv 2))) (fun _ _ _ _ _ => (pe_op op_mod (pe_callTy call_int1 (by rfl) T.b_int (by decide +kernel) (pa_cons (pe_op op_mul (pe_dget hu (pv 1) (pv 4) (fun _ _ => rfl)) (pv 3)) pa_nil)) (pv 0))))))), ?_⟩; rw [st_with_behind]; (try dsimp only [cxOf]); walk_at "go"
    refine dcd_rel hd (Nat.lt_trans hl (by decide)) (fun H' Q' _ q => ⟨_, rfl, q⟩) (fun kv => some (kv.1 ++ t, kv.2 * m % p)) ?_ (fun _ => rfl) ?_ ?_
    · rw [efm]
      have : keys (s.map fun kv : Str × Int => (kv.1 ++ t, kv.2 * m % p)) = (keys s).map fun u => u ++ t := by
        unfold keys
        rw [List.map_map, List.map_map]
        rfl
      rw [this]
      exact List.Pairwise.map _ (fun a b q e => q (app_cancel e)) hnd
    · intro i z n H1 Kc N hi le hk hN
      walk_at "go"
      have hz := hw z (mem_keys.mpr ⟨n, mem_fr hi⟩)
      refine ⟨z, t, rfl, rfl, line5 (by omega), ?_⟩
      walk_at "go"
      refine g_dg le.self (getS_at hnd hi) ?_
      walk_at "go"
      exact hk _ _ _ rfl (Ex.refl _)
    · intro D H1 hD e hD1
      rw [efm] at hD1
      exact k D H1 e hD hD1
/-- what both dividings ask -/
def sp_divided : Sp := fun vs H Q _ => ∃ (a b : Addr) (p : Int) (F L : Bg) (n : Nat), vs = [.int p, .ref a, .ref b] ∧ H a = some (.dK (toK F)) ∧ H b = some (.dK (toK L)) ∧ Prm p ∧ Good p F ∧ Good p L ∧ F ≠ [] ∧ Bd n F ∧ Bd n L ∧ n ≤ 1000 ∧ lenU n ≤ 3000000 ∧
  (∀ H', DivR p F L [] none → Ex H H' → Q .non H') ∧ (∀ f x H', DivR p F L [] (some f) → Ex H H' → H x = none → H' x = some (.dK (toK f)) → Good p f → Bd n f → Q (.ref x) H')
/-- the same, by a measure of how big things get -/
def sp_dividedJ : Sp := fun vs H Q _ => ∃ (a b : Addr) (p : Int) (F L : Bg) (n : Nat) (J : Bg → Bg → Prop), vs = [.int p, .ref a, .ref b] ∧ H a = some (.dK (toK F)) ∧ H b = some (.dK (toK L)) ∧ Prm p ∧ Good p F ∧ Good p L ∧ F ≠ [] ∧ Bd n F ∧ Bd n L ∧ n ≤ 1000 ∧ F.length ≤ 3000000 ∧ DivJ p F L J ∧
  (∀ H', DivR p F L [] none → Ex H H' → Q .non H') ∧ (∀ f x H', DivR p F L [] (some f) → Ex H H' → H x = none → H' x = some (.dK (toK f)) → Good p f → Bd n f → f.length ≤ 3000000 → Q (.ref x) H')
theorem imp_divided {k : Nat} {f : Addr} {fd : FuncData} {ps : List Str} (h : FnOk P w K mg base CX0 k f fd ps sp_dividedJ) : FnOk P w K mg base CX0 k f fd ps sp_divided :=
  h.imp fun vs H Q E ⟨a, b, p, F, L, n, e, ha, hb, hp, gF, gL, hF, bF, bL, hn, hU, k1, k2⟩ => ⟨a, b, p, F, L, n, _, e, ha, hb, hp, gF, gL, hF, bF, bL, hn, Nat.le_trans (bF.len gF.nd) hU, DivJ.small hp gF hF gL bF bL hU, k1, fun f x H' h1 h2 h3 h4 h5 h6 _ => k2 f x H' h1 h2 h3 h4 h5 h6⟩

/-! ### calls in short -/
theorem mkProd {H : Hp} {p : Int} {a b : Addr} {s t : Bg} {n1 l1 n2 l2 : Nat} {Q : VK} {E : XK} (h1 : Rd H a (.dK (toK s))) (h2 : Rd H b (.dK (toK t))) (L1 : Lot p s n1 l1) (M1 : Lot p t n2 l2) (hn : n1 * n2 < 10000000) (hl1 : l1 ≤ 5000000) (hl2 : l2 ≤ 5000000) (hp : 1 < p) (hp2 : p ≤ 1000000)
    (k : ∀ d H', Ex H H' → H d = none → H' d = some (.dK (toK (prodS p s t))) → Lot p (prodS p s t) (n1 * n2) (l1 + l2) → Q (.ref d) H') : sp_law_product [.int p, .ref a, .ref b] H Q E :=
  ⟨p, a, b, s, t, rfl, h1, h2, L1.g.nd, M1.g.nd, Nat.lt_of_le_of_lt (Nat.mul_le_mul L1.n M1.n) hn, by omega, L1.g.up hp2, fun u hu => Nat.le_trans (L1.l u hu).1 hl1, fun u hu => Nat.le_trans (M1.l u hu).1 hl2, fun d H' e hd hd' => k d H' e hd hd' (Lot.prod (by omega) L1 M1)⟩
theorem mkBehind {H : Hp} {p : Int} {a b : Addr} {s t : Bg} {n1 l1 n2 l2 : Nat} {Q : VK} {E : XK} (h1 : BagAt Cs H a p s) (h2 : BagAt Cs H b p t) (L1 : Lot p s n1 l1) (M1 : Lot p t n2 l2) (hn : n1 * n2 < 10000000) (hl1 : l1 ≤ 5000000) (hl2 : l2 ≤ 5000000) (hp : 1 < p) (hp2 : p ≤ 1000000)
    (k : ∀ x H', Ex H H' → H x = none → BagAt Cs H' x p (prodS p s t) → Lot p (prodS p s t) (n1 * n2) (l1 + l2) → Q (.ref x) H') : sp_behind Cs [.ref a, .ref b] H Q E :=
  ⟨a, b, p, s, t, n1, l1, n2, l2, rfl, h1, h2, L1, M1, hn, hl1, hl2, by omega, hp2, fun x H' e hx hb => k x H' e hx hb (Lot.prod (by omega) L1 M1)⟩
theorem mkSum {H : Hp} {p f : Int} {a b : Addr} {s t : Bg} {n1 l1 n2 l2 : Nat} {Q : VK} {E : XK} (h1 : BagAt Cs H a p s) (h2 : BagAt Cs H b p t) (L1 : Lot p s n1 l1) (M1 : Lot p t n2 l2) (hn : n1 + n2 < 10000000) (hl1 : l1 ≤ 10000000) (hl2 : l2 ≤ 10000000) (hp : 1 < p)
    (k : ∀ x H', Ex H H' → H x = none → BagAt Cs H' x p (plusS p s t f) → Lot p (plusS p s t f) (n1 + n2) (max l1 l2) → Q (.ref x) H') : sp_sum f Cs [.ref a, .ref b] H Q E :=
  ⟨a, b, p, s, t, n1, l1, n2, l2, rfl, h1, h2, L1, M1, hn, hl1, hl2, by omega, fun x H' e hx hb => k x H' e hx hb (Lot.plus (by omega) L1 M1 (Nat.le_max_left _ _) (Nat.le_max_right _ _))⟩
theorem mkIs {H : Hp} {p : Int} {x d : Addr} {s t : Bg} {n l : Nat} {Q : VK} {E : XK} (hx : BagAt Cs H x p t) (hd : Rd H d (.dK (toK s))) (L : Lot p s n l) (hn : n ≤ 10000000) (hl : l ≤ 10000000) (hw : wordsS t = wordsS s) (k : ∀ H', Ex H H' → Q (.bl true) H') : sp_law_is Cs [.ref x, .int p, .ref d] H Q E :=
  ⟨x, d, p, p, s, t, rfl, hx, hd, Nat.le_trans L.n hn, fun u hu => Nat.le_trans (L.l u hu).1 hl, L.g.nd, fun H' e => by rw [decide_eq_true rfl, decide_eq_true hw]; exact k H' e⟩
/-- equal bags by one clock: == tells True, != tells False -/
theorem g_beqT (T : Txt K mg C_Bag Cs) {H : Hp} {a c : Addr} {p : Int} {s t : Bg} {neg : Bool} {Q : VK} (hx : BagAt Cs H a p s) (hy : BagAt Cs H c p t) (hw : wordsS s = wordsS t) (h : Q (.bl (!neg)) H) : rBagEq K (sp_bag_eq K C_Bag Cs) Cs neg (.ref a) (.ref c) H Q := by
  refine g_beq T hx hy ?_
  rw [decide_eq_true rfl, decide_eq_true hw]
  cases neg with
  | true => rw [if_pos rfl]; exact h
  | false => rw [if_neg Bool.false_ne_true]; exact h
/-- all but a list's object stands -/
theorem BagAt.exh {Cs : Addr → Prop} {H H' : Hp} {h a : Addr} {p : Int} {s : Bg} {xs : List V} (e : ExB h H H') (hh : H h = some (.lst xs)) (b : BagAt Cs H a p s) : BagAt Cs H' a p s := by
  obtain ⟨C, dx, d, k, t, h0, h1, h2, ⟨qs, o, h3, h4, h5⟩⟩ := b.ex
  exact ⟨C, dx, d, k, t, h0, e _ _ (ne_of h1 hh (fun z => nomatch z)) h1, e _ _ (ne_of h2 hh (fun z => nomatch z)) h2, ⟨qs, o, e _ _ (ne_of h3 hh (fun z => nomatch z)) h3, h4, Paired.mapP h5 fun q kv z => e _ _ (ne_of z hh (fun z => nomatch z)) z⟩⟩
/-- a new dict of one pair, and what it is: {'': 1} -/
theorem ne_list {H : Hp} {a b : Addr} {xs ys : List V} (h : H a = some (.lst xs)) (h' : H b = some (.lst ys)) (d : xs ≠ ys) : a ≠ b := ne_of h h' (fun e => d (HO.lst.inj e))
theorem kit_sub {K : PySem.W.Frag} {C : Addr} {t : Value} (hc : PySem.W.isClsIn K C = true) (ht : PySem.W.typeIn K (.ref C) = some (.type "type")) (hs : PySem.W.subIn K t (.ref C) = some true) : PySem.W.kitOne K t (.ref C) = some true := by
  unfold PySem.W.kitOne PySem.W.kitCls
  have hc' : (PySem.W.clsIn K C).isSome = true := hc
  split
  · rfl
  · dsimp only
    rw [hc', ht, hs]
    rfl
theorem exm_self {K : PySem.W.Frag} {C : Addr} {t : Value} (hb : PySem.W.subIn K (.ref C) (.type "BaseException") = some true) (hc : PySem.W.isClsIn K C = true) (ht : PySem.W.typeIn K (.ref C) = some (.type "type")) (hs : PySem.W.subIn K t (.ref C) = some true) : PySem.W.exmOne K t (.ref C) = some true := by
  unfold PySem.W.exmOne PySem.W.kitCls
  have hc' : (PySem.W.clsIn K C).isSome = true := hc
  rw [hb]
  dsimp only
  rw [hc', ht, hs]
  rfl

structure RowAt (H : Hp) (t : Addr) (r : Row) : Prop where
  ex : ∃ ds : List Addr, Rd H t (.tup (ds.map V.ref)) ∧ Paired (fun d b => H d = some (.dK (toK b))) ds r
theorem RowAt.ex' {H H' : Hp} {t : Addr} {r : Row} (e : Ex H H') (h : RowAt H t r) : RowAt H' t r := by
  obtain ⟨ds, h1, h2⟩ := h.ex
  exact ⟨ds, e.rd h1, Paired.mapP h2 fun _ _ z => e _ _ z⟩
def sp_is_idle : Sp := fun vs H Q _ => ∃ (t : Addr) (r : Row), vs = [.ref t] ∧ RowAt H t r ∧ r.length ≤ 1000 ∧ ∀ H', Ex H H' → Q (.bl (idleR r)) H'
theorem ok_is_idle {f : Addr} {fd : FuncData} (F : Fun K "is_idle" "is_idle" s_is_idle f fd) (T : Txt K mg C_Bag Cs) : FnOk P w K mg base CX0 1 f fd ["row"] sp_is_idle := by
  refine F.ok sc_is_idle (fun vs H Q E h => ?_) (fun cdv A outer s H vs Q E hr h => ?_)
  · obtain ⟨t, r, rfl, _⟩ := h
    rfl
  · obtain ⟨t, r, rfl, ht, hl, k⟩ := h
    obtain ⟨ds, h1, h2⟩ := ht.ex
    have hlen := h2.length
    have hu := hu_of hr; have hu64 := L2.Room.units hr; refine ⟨_, (pss_one (ps_ret (pe_callB (r := rAll K) (cr_all rfl) (by rfl) T.b_all (by decide +kernel) (pa_cons (pe_lc (own := [("place", 1)]) (g := (gName 1)) (tt := tYes) rfl sc_is_idle.nd (pi_tup (pv 0)) (blkOk_by (N := N_is_idle) (sc := defScope s_is_idle) (by decide +kernel)) (fun _ _ _ _ _ => (pg_name (i := 1) sc_is_idle.nd rfl (by first | exact Or.inl rfl | exact Or.inr rfl))) (fun _ _ _ _ _ => pts_nil) (fun _ _ _ _ _ => (pe_cmpR op_eq (pe_callB call_lenD (by rfl) T.b_len (by decide +kernel) (pa_cons (pv 1) pa_nil)) pe_int (nomark _)))) pa_nil)))), ?_⟩; rw [st_is_idle]; (try dsimp only [cxOf]); walk_at "go"
    refine ⟨⟨_, .inl h1⟩, ?_⟩
    refine lc_pure walk_tup (r.map fun b => V.bl (decide (b = []))) (by rw [List.length_map, List.length_map, hlen]) (by rw [List.length_map, hlen]; exact line5 (by omega)) (fun H' e => .inl (e.rd h1)) (fun _ => rfl) ?_ ?_
    · rintro i z y H13 H13' Kc hi e13 ⟨rfl, hz⟩ hy hk
      rw [List.getElem?_map] at hz hy
      cases hq : ds[i]? with
      | none => rw [hq] at hz; cases hz
      | some q =>
        rw [hq] at hz
        cases Option.some.inj hz
        obtain ⟨b, hb, hqb⟩ := paired_get h2 hq
        rw [hb] at hy
        cases Option.some.inj hy
        walk_at "go"
        refine ⟨q, toK b, rfl, e13 _ _ hqb, ?_⟩
        rw [toK_len]
        walk_at "go"
        have e9 : decide (V.int (b.length : Int) = V.int 0) = decide (b = []) := by
          by_cases h9 : b = []
          · subst h9; rfl
          · rw [decide_eq_false h9, decide_eq_false]
            intro e8
            have := V.int.inj e8
            exact h9 (List.length_eq_zero_iff.mp (by omega))
        rw [e9]
        exact hk _ (Ex.refl _)
    · intro D H13 hD e13 hl13
      refine ⟨D, r.map fun b => decide (b = []), rfl, SqL.of (by rw [hl13, List.map_map]; rfl), ?_⟩
      rw [show (r.map fun b => decide (b = [])).all id = idleR r from by unfold idleR; rw [List.all_map]; rfl]
      exact k H13 e13
def LeadIs (H H' : Hp) (v : V) : Option (Nat × Str) → Prop
  | none => v = .non
  | some (i, w) => ∃ q, v = .ref q ∧ H q = none ∧ H' q = some (.tup [.int (i : Nat), .str w])
def sp_leading : Sp := fun vs H Q _ => ∃ (t : Addr) (r : Row), vs = [.ref t] ∧ RowAt H t r ∧ r.length ≤ 1000 ∧ (∀ b ∈ r, ∀ u ∈ keys b, u.length ≤ 10000000) ∧ ∀ v H', Ex H H' → LeadIs H H' v (leadR r) → Q v H'
theorem ok_leading {f : Addr} {fd : FuncData} (F : Fun K "leading" "leading" s_leading f fd) (T : Txt K mg C_Bag Cs) (D_first_word : DefOk P w K mg base CX0 4 "first_word" ["sparse"] sp_first_word) : FnOk P w K mg base CX0 5 f fd ["row"] sp_leading := by
  refine F.ok sc_leading (fun vs H Q E h => ?_) (fun cdv A outer s H vs Q E hr h => ?_)
  · obtain ⟨t, r, rfl, _⟩ := h
    rfl
  · obtain ⟨t, r, rfl, ht, hl, hw, k⟩ := h
    obtain ⟨ds, h1, h2⟩ := ht.ex
    have hlen := h2.length
    have hu := hu_of hr; have hu64 := L2.Room.units hr; refine ⟨_, (pss_cons (ps_for PassesOwn.never rfl (pi_enumT rfl T.b_enumerate (pa_cons (pv 0) pa_nil)) (pg_tup rfl (pgs_cons (pg_name (i := 1) sc_leading.nd rfl (by first | exact Or.inl rfl | exact Or.inr rfl)) (pgs_cons (pg_name (i := 2) sc_leading.nd rfl (by first | exact Or.inl rfl | exact Or.inr rfl)) pgs_nil))) (pss_one (ps_if (pt_cmpR op_gt (pe_callB call_lenD (by rfl) T.b_len (by decide +kernel) (pa_cons (pv 2) pa_nil)) pe_int (nomark _)) (pss_one (ps_ret (pe_tup (pa_cons (pv 1) (pa_cons (pe_callD D_first_word (hr.mono (by decide)) rfl pass0 (pa_cons (pv 2) pa_nil)) pa_nil))))) pss_nil))) (pss_one (ps_ret pe_non))), ?_⟩; rw [st_leading]; (try dsimp only [cxOf]); walk_at "go"
    refine ⟨_, rfl, t, _, rfl, .inl h1, ?_⟩
    refine forG (walk_enumT (xs := ds.map V.ref)) (fun i σ' H' => (∃ x y, σ' = [some (.ref t), x, y]) ∧ Ex H H' ∧ ∀ j, j < i → r[j]? = some []) ⟨⟨none, none, rfl⟩, Ex.refl _, fun j hj => absurd hj (Nat.not_lt_zero _)⟩ (fun i σ' H' _ q => .inl (q.2.1.rd h1)) ?_ ?_
    · rintro i x σ' H1 H2 hi ⟨⟨x0, y0, rfl⟩, e1, hj⟩ ⟨T', x1, y1, rfl, hT, rfl, hx1, hy1⟩
      cases Option.some.inj hx1
      have hy1 : (ds.map V.ref)[i]? = some y1 := hy1
      rw [List.getElem?_map] at hy1
      cases hq : ds[i]? with
      | none => rw [hq] at hy1; cases hy1
      | some q =>
        rw [hq] at hy1
        cases Option.some.inj hy1
        obtain ⟨b, hb, hqb⟩ := paired_get h2 hq
        have eT : Ex H1 (upd H1 T' (.tup [.int (i : Nat), .ref q])) := Ex.new hT
        have hq2 := eT _ _ (e1 _ _ hqb)
        walk_at "go"
        refine ⟨T', _, rfl, SqT.of upd_same, rfl, ?_⟩
        walk_at "go"
        refine ⟨q, toK b, rfl, hq2, ?_⟩
        rw [toK_len]
        walk_at "go"
        by_cases hb0 : b = []
        · subst hb0
          refine g_iff (decide_eq_false (by simp)) ?_
          walk_at "go"
          refine ⟨⟨_, _, rfl⟩, e1.trans eT, fun j hj' => ?_⟩
          rcases Nat.lt_or_ge j i with h9 | h9
          · exact hj j h9
          · rw [show j = i from by omega]; exact hb
        · refine g_ift (decide_eq_true (by have := List.length_pos_iff.mpr hb0; omega)) ?_
          walk_at "go"
          refine ⟨q, b, rfl, hq2, hb0, fun u hu => hw b (List.mem_of_getElem? hb) u hu, ?_⟩
          walk_at "go"
          refine ⟨Nat.le_of_ble_eq_true rfl, fun T2 hT2 => ?_⟩
          have eB := (e1.trans eT).trans (Ex.new (o := .tup [.int (i : Nat), .str (lead b)]) hT2)
          refine k (.ref T2) _ eB ?_
          rw [leadR_of hb hb0 hj]
          exact ⟨T2, rfl, (e1.trans eT).free hT2, upd_same⟩
    · rintro σ' H1 ⟨⟨x0, y0, rfl⟩, e1, hj⟩
      walk_at "go"
      refine k .non H1 e1 ?_
      rw [leadR_none.mpr]
      · rfl
      · unfold idleR
        rw [List.all_eq_true]
        intro b hb
        obtain ⟨i, hi, he⟩ := List.getElem_of_mem hb
        have := hj i (by rw [List.length_map, hlen]; exact hi)
        rw [List.getElem?_eq_getElem hi, he] at this
        exact decide_eq_true (Option.some.inj this)

end
end Fp

namespace Fp
open PySem L2
/-- taking off, step by step -/
inductive RedN (p : Int) (B : List Row) : Nat → Row → Row → Prop
  | stop {r : Row} : hitF B 0 r = none → RedN p B 0 r r
  | step {n : Nat} {r o r' : Row} {i : Nat} {w t : Str} : hitF B 0 r = some (i, w, o, t) → Fit p (takeR p r o t (cf (atR r i) w)) → RedN p B n (takeR p r o t (cf (atR r i) w)) r' → RedN p B (n + 1) r r'
/-- whether a row leads by a word that begins with the leading one of another -/
def longQ (row o : Row) : Bool := match leadR o with
  | none => false
  | some (j, l) => (hitB [row] j l).isSome
inductive LedN (p : Int) : Nat → List Row → List Row → List Row → Prop
  | stop {found : List Row} : LedN p 0 [] found found
  | hit {n : Nat} {todo found res : List Row} {row o : Row} {i : Nat} {w t : Str} : leadR row = some (i, w) → hitB found i w = some (o, t) → Fit p (takeR p row o t (cf (atR row i) w)) →
      LedN p n (if idleR (takeR p row o t (cf (atR row i) w)) = true then todo else todo ++ [takeR p row o t (cf (atR row i) w)]) found res → LedN p (n + 1) (todo ++ [row]) found res
  | add {n : Nat} {todo found res : List Row} {row : Row} {i : Nat} {w : Str} : leadR row = some (i, w) → hitB found i w = none →
      LedN p n (todo ++ found.filter (longQ (plainR p row))) (found.filter (fun o => !longQ (plainR p row) o) ++ [plainR p row]) res → LedN p (n + 1) (todo ++ [row]) found res
theorem takeR_len {p : Int} {r o : Row} {t : Str} {n : Int} (h : r.length = o.length) : (takeR p r o t n).length = r.length := by
  unfold takeR
  rw [List.length_map, List.length_zip]
  omega
theorem scaleR_len (p : Int) (r : Row) (f : Int) : (scaleR p r f).length = r.length := List.length_map _
theorem plainR_len (p : Int) (r : Row) : (plainR p r).length = r.length := by
  unfold plainR
  cases leadR r with
  | none => rfl
  | some z => exact scaleR_len _ _ _
theorem scale_cf {p f : Int} {b : Bg} (hp : 0 < p) (hb : (keys b).Nodup) (w : Str) : cf (plusS p [] b f) w = f * cf b w % p := by
  rw [cf_plus hp Good.nil hb, cf_nil, Int.zero_add]
theorem prm_ne {p f x : Int} (hp : Prm p) (hf : 0 < f) (hf1 : f < p) (hx : 0 ≤ x) (hx1 : x < p) : f * x % p = 0 ↔ x = 0 := by
  constructor
  · intro h
    false_or_by_contra
    rename_i h9
    have := prm_mul hp hf hf1 (show 0 < x by omega) hx1
    omega
  · intro h
    rw [h, Int.mul_zero, Int.zero_emod]
theorem scale_keys {p f : Int} {b : Bg} (hp : Prm p) (hf : 0 < f) (hf1 : f < p) (gb : Good p b) (w : Str) : w ∈ keys (plusS p [] b f) ↔ w ∈ keys b := by
  have h0 : 0 < p := by have := hp.pos; omega
  rw [cf_ne (Good.plus h0 Good.nil b), cf_ne gb, scale_cf h0 gb.nd]
  exact not_congr (prm_ne hp hf hf1 (cf_nonneg gb w) (cf_lt h0 gb w))
theorem keys_nil_iff {b : Bg} : b = [] ↔ ∀ w, w ∉ keys b := by
  constructor
  · rintro rfl w h
    cases h
  · intro h
    cases b with
    | nil => rfl
    | cons q r => exact absurd List.mem_cons_self (h q.1)
theorem scale_nil {p f : Int} {b : Bg} (hp : Prm p) (hf : 0 < f) (hf1 : f < p) (gb : Good p b) : plusS p [] b f = [] ↔ b = [] := by
  rw [keys_nil_iff, keys_nil_iff]
  exact ⟨fun h w hw => h w ((scale_keys hp hf hf1 gb w).mpr hw), fun h w hw => h w ((scale_keys hp hf hf1 gb w).mp hw)⟩
theorem scale_lead {p f : Int} {b : Bg} (hp : Prm p) (hf : 0 < f) (hf1 : f < p) (gb : Good p b) (hb : b ≠ []) : lead (plusS p [] b f) = lead b :=
  lead_is ((scale_keys hp hf hf1 gb _).mpr (lead_mem hb)) fun u hu => lead_le ((scale_keys hp hf hf1 gb u).mp hu)
theorem leadR_scale {p f : Int} (hp : Prm p) (hf : 0 < f) (hf1 : f < p) : ∀ {r : Row}, (∀ b ∈ r, Good p b) → leadR (scaleR p r f) = leadR r
  | [], _ => rfl
  | b :: r, h => by
    have gb := h b List.mem_cons_self
    have ih := leadR_scale hp hf hf1 (r := r) fun c hc => h c (List.mem_cons_of_mem _ hc)
    show leadR (plusS p [] b f :: scaleR p r f) = leadR (b :: r)
    unfold leadR
    by_cases hb : b = []
    · rw [if_pos hb, if_pos ((scale_nil hp hf hf1 gb).mpr hb), ih]
    · rw [if_neg hb, if_neg (fun z => hb ((scale_nil hp hf hf1 gb).mp z)), scale_lead hp hf hf1 gb hb]
theorem lead_cf {p : Int} {r : Row} {i : Nat} {w : Str} (hp : 0 < p) (hg : ∀ b ∈ r, Good p b) (h : leadR r = some (i, w)) : 0 < cf (atR r i) w ∧ cf (atR r i) w < p ∧ ∃ b, r[i]? = some b ∧ atR r i = b ∧ b ≠ [] ∧ w = lead b ∧ b ∈ r := by
  obtain ⟨b, h1, h2, h3, _⟩ := leadR_at h
  obtain ⟨h4, h5⟩ := atR_mem h1
  rw [h4, h3]
  exact ⟨cf_pos_of (hg b h5) (lead_mem h2), cf_lt hp (hg b h5) _, b, h1, rfl, h2, rfl, h5⟩
theorem leadR_plain {p : Int} {r : Row} (hp : Prm p) (hg : ∀ b ∈ r, Good p b) : leadR (plainR p r) = leadR r := by
  unfold plainR
  cases h : leadR r with
  | none => exact h
  | some z =>
    obtain ⟨i, w⟩ := z
    obtain ⟨h1, h2, _⟩ := lead_cf (by have := hp.pos; omega) hg h
    have := inv_one hp h1 h2
    dsimp only
    rw [leadR_scale hp this.2.1 this.2.2 hg, h]
theorem scale_len {p f : Int} {b : Bg} : (plusS p [] b f).length ≤ b.length := by
  have := len_plus (p := p) (s := []) (t := b) f
  rwa [List.length_nil, Nat.zero_add] at this
theorem Fit.scale {p f : Int} {r : Row} (hp : 0 < p) (h : Fit p r) : Fit p (scaleR p r f) := by
  refine ⟨fun b hb => ?_, fun b hb => ?_, fun b hb u hu => ?_, by rw [scaleR_len]; exact h.k⟩
  · obtain ⟨c, hc, rfl⟩ := List.mem_map.mp hb
    exact Good.plus hp Good.nil c
  · obtain ⟨c, hc, rfl⟩ := List.mem_map.mp hb
    exact Nat.le_trans scale_len (h.n c hc)
  · obtain ⟨c, hc, rfl⟩ := List.mem_map.mp hb
    rcases keys_plus hu with h9 | h9
    · cases h9
    · exact h.l c hc u h9
theorem Fit.plain {p : Int} {r : Row} (hp : 0 < p) (h : Fit p r) : Fit p (plainR p r) := by
  unfold plainR
  cases leadR r with
  | none => exact h
  | some z => exact Fit.scale hp h
structure LedR (p : Int) (m : Nat) (B : List Row) : Prop where
  f : ∀ o ∈ B, Fit p o ∧ leadR o ≠ none ∧ o.length = m
/-- all rows reduced, one after the other, each by the others -/
inductive RedAll (p : Int) (m : Nat) : Nat → List Row → List Row → Prop
  | stop {i : Nat} {B : List Row} : i = B.length → LedR p m B → RedAll p m i B B
  | step {i n : Nat} {r r' : Row} {B C : List Row} : LedR p m B → B[i]? = some r → RedN p (B.take i ++ B.drop (i + 1)) n r r' → RedAll p m (i + 1) (B.set i r') C → RedAll p m i B C
theorem filter_both {α : Type} (q : α → Bool) (xs : List α) : (xs.filter q).length + (xs.filter fun o => !q o).length = xs.length := by
  induction xs with
  | nil => rfl
  | cons a r ih => by_cases h : q a = true <;> simp [List.filter_cons, h] <;> omega
end Fp

/-! sorted(xs, key=f), f a def of our own that calls others: its promise tells the key, and that all that is tracked stands. -/
namespace Fp
open PySem L2 PySem.W PyProof.Rows
theorem eachIs_get {α β : Type} {R : α → β → Prop} : ∀ {vs : List α} {ds : List β}, vs.length = ds.length → (∀ (i : Nat) (v : α) (d : β), vs[i]? = some v → ds[i]? = some d → R v d) → EachIs R vs ds
  | [], [], _, _ => .nil
  | [], _ :: _, h, _ => nomatch h
  | _ :: _, [], h, _ => nomatch h
  | v :: vs, d :: ds, h, hr => .cons (hr 0 v d rfl rfl) (eachIs_get (by simpa using h) fun i v' d' h1 h2 => hr (i + 1) v' d' h1 h2)
theorem vals_byFst {bs : List (V × PyData)} {out : List Value} (h : EachIs (fun (v : Value) (b : V × PyData) => RelV b.1 v) out bs) : Vals (bs.map Prod.fst) out := by
  induction h with
  | nil => exact .nil
  | cons h1 _ ih => exact .cons h1 ih
/-- the values of a row, put in the order of their keys -/
def byKey (xs : List V) (ks : List PyData) : List V := ((xs.zip ks).mergeSort (dataLe false Prod.snd)).map Prod.fst
/-- what sorted(xs, key=f) asks -/
def rSortK (K : PySem.W.Frag) (f : Addr) (sp : Sp) : List V → List V → Hp → VK → Prop := fun vs zs H Q => ∃ (a : Addr) (xs : List V) (ks : List PyData) (KR : Nat → V → Hp → Prop), vs = [V.ref a] ∧ zs = [V.ref f] ∧ SqL K H a xs ∧ ks.length = xs.length ∧ AllAlike ks ∧ Sortable ks ∧ (∀ d ∈ ks, d.depth ≤ 8) ∧
  (∀ i v H H', ExL H H' → KR i v H → KR i v H') ∧ (∀ i d v H, ks[i]? = some d → KR i v H → Dp K H v d) ∧
  (∀ i x H1, xs[i]? = some x → Ex H H1 → sp [x] H1 (fun v H2 => Ex H1 H2 ∧ KR i v H2) E0) ∧
  ∀ p H', H p = none → Ex H H' → H' p = some (.lst (byKey xs ks)) → Q (.ref p) H'
section
variable {X : L2.Cx} {k : Nat} {f : Addr} {fd : FuncData} {ps : List Str} {sp : Sp} {pins : List (Addr × Obj)} {σ : L2.St}
/-- the callee runs, two built-ins deeper -/
theorem turn_fn {H : Hp} {s : Shared} {Q : VK} {us : List Value} {vs : List V} {E : XK} {E' : Value → Shared → Prop} (F : FnOk X.prog X.w X.K X.mg X.base CX0 k f fd ps sp) (hr : Room (k + 2) X.A) (hb : L2.Binds X.K fd ps [])
    (I : Inv X pins σ H s) (r : Vals vs us) (h : sp vs H Q E) : wpAny (model X.prog X.w) X.A.in1.in1 (call (.ref f) us) (EP X pins σ Q) E' s := by
  have hl : us.length = ps.length := by rw [← r.length]; exact F.len _ _ _ _ h
  have hb2 : BindsTo s fd ⟨us, []⟩ (ps.zip us) := by
    have := hb s us I.kIn (by rw [List.append_nil]; exact hl)
    rw [List.append_nil] at this
    exact this
  refine wpAny_call (codeAny_mono (F.run X.A.in1.in1 X.stack s H ⟨us, []⟩ us vs Q E hr.in1.in1 I.env0.in1.in1 hb2 r h) fun r s' hq => ?_)
  cases r with
  | error e => exact hq.elim
  | ok fl =>
    cases fl with
    | ret u => exact I.after hq
    | next => exact False.elim hq
    | brk => exact False.elim hq
    | cont => exact False.elim hq
/-- an untracked object that is ours may be anything -/
def hide1 (h : Heap) (a : Addr) : Heap := PySem.W.hideAll h [a]
theorem hide1_get {h : Heap} {a b : Addr} {o : Obj} (e : h.get? b = some o) (n : b ≠ a) : (hide1 h a).get? b = some o := PySem.W.hideAll_get _ e (by simpa using n)
theorem hide1_none {h : Heap} {a : Addr} : (hide1 h a).get? a = none := PySem.W.hideAll_none [a] (by simp)
theorem of_hide1 {h : Heap} {a b : Addr} {o : Obj} (e : (hide1 h a).get? b = some o) : b ≠ a ∧ h.get? b = some o := by
  refine ⟨fun z => ?_, PySem.W.of_hideAll [a] e⟩
  subst z
  rw [hide1_none] at e
  cases e
theorem cr_sortK (F : FnOk X.prog X.w X.K X.mg X.base CX0 k f fd ps sp) (hb : L2.Binds X.K fd ps []) (hr : Room (k + 2) X.A) : CallRK X (.builtin "sorted") [Str.ofString "key"] (rSortK X.K f sp) := by
  intro pins s σ H vs zs us ws Q I r rz h
  obtain ⟨a, xs, ks, KR, rfl, rfl, hs, hlen, hal, hsk, hdp, hmono, hdat, hturn, q⟩ := h
  obtain rfl := Vals.ref1 r
  obtain ⟨w1, rfl, e1⟩ := vals1 rz
  obtain rfl : w1 = Value.ref f := e1
  obtain ⟨its, rv, hl, hz⟩ := I.list hs
  have hil : its.length = xs.length := rv.length.symm
  have hizl : its.length ≤ sizeLine := by omega
  refine sorted_of_sort hl.isList hizl (ksk_s1 _ _) (fun _ => ksk_l1 _ _) fun E' => ?_
  show wpAny _ _ (ksk_tree (s.heap.objs.size + 1) (.ref f) false) _ _ _
  have hLs : s.heap.objs.size ≤ s.heap.objs.size + 1 := Nat.le_succ _
  generalize hL : s.heap.objs.size + 1 = L at *
  have hcs : (copyHeap s.heap its).get? L = some (seqObj "list" its.toArray 0) := by rw [← hL]; exact copyHeap_at s.heap its
  obtain ⟨e1, ho1⟩ : ∃ e1, ((copyHeap s.heap its).update L (Obj.mapSeq fun _ => (#[] : Array Value))).get? L = some (seqObj "list" #[] e1) := ⟨_, get?_update_seq hcs fun _ => #[]⟩
  unfold ksk_tree
  refine wpAny_bind (listItems_at hcs rfl ?_)
  refine wpAny_bind (listUpdate_at hcs rfl ?_ (by rw [List.size_toArray]; exact hizl) (Nat.zero_le _))
  refine wpAny_bind (seqEpoch_at ho1 rfl ?_)
  refine wpAny_bind (wpAny_newTuple ?_ (by show its.length ≤ _; exact hizl))
  refine wpAny_bind (wpAny_newList ?_ (Nat.zero_le _))
  refine wpAny_holding ?_
  dsimp only
  generalize hh1 : ((copyHeap s.heap its).update L (Obj.mapSeq fun _ => (#[] : Array Value))).push { cls := .type "tuple", data := .seq (its.toArray.toList).toArray } = h1
  have hk1 : ∀ b u, s.heap.get? b = some u → h1.get? b = some u := fun b u e => by
    have hb : b ≠ L := by rw [← hL]; exact Nat.ne_of_lt (Nat.lt_succ_of_lt (Heap.lt_size e))
    rw [← hh1]
    exact Heap.get?_push_of_some _ (by rw [Heap.get?_update_ne _ _ _ _ hb]; exact copyHeap_old e)
  have hLo : h1.get? L = some (seqObj "list" #[] e1) := by rw [← hh1]; exact Heap.get?_push_of_some _ ho1
  have hLn : s.heap.get? L = none := Heap.get?_none_of_le hLs
  have hHL : H L = none := I.hok.fresh hLs
  have I1 : Inv X pins σ H { s with heap := h1 } := I.kept (t' := s.toks) hk1
  have hlocL : L ≠ X.env.locals := Nat.ne_of_gt (Nat.lt_of_lt_of_le I.lt hLs)
  have hLc : ∀ x c, X.env.cells.lookup x = some c → c ≠ L := fun x c e z => by
    obtain ⟨v, o, ho, _⟩ := I.cell x c e
    rw [z, hLn] at ho
    cases ho
  have I1p : Inv X ((L, seqObj "list" #[] e1) :: pins) σ H { s with heap := h1 } := I1.pins_of fun p hp => by
    rcases List.mem_cons.mp hp with rfl | hp
    · exact ⟨hLo, hHL, hlocL, I.nofs hLs, fun v z => nomatch z⟩
    · exact I1.pin p (List.mem_append_right _ hp)
  have I2 := I1p.lnew (its := []) (ys := []) (t' := s.toks) .nil (Nat.zero_le _)
  have hkL : h1.objs.size ≠ L := Nat.ne_of_gt (Heap.lt_size hLo)
  have hks : s.heap.objs.size ≤ h1.objs.size := Nat.le_of_lt (by rw [← hL] at hLo; exact Nat.lt_of_succ_lt (Heap.lt_size hLo))
  have hHk : H h1.objs.size = none := I.hok.fresh hks
  have hn1 : h1.get? h1.objs.size = none := Heap.get?_none_of_le (Nat.le_refl _)
  generalize hh2 : h1.push { cls := .type "list", data := .seq ([] : List Value).toArray } = h2 at I2 ⊢
  generalize hkS : h1.objs.size = kS at *
  unfold ksk_rest
  refine wpAny_bind (wpAny_rule ?_)
  first
    | rw [List.forIn_toArray]
    | (rw [← Array.forIn_toList]; simp only [List.toList_toArray])
    | rw [← Array.forIn_toList]
  refine wpAny_bind (ksk_fold (fun i s' => ∃ H' ys, Inv X ((L, seqObj "list" #[] e1) :: pins) σ H' s' ∧ Ex H H' ∧ H' kS = some (.lst ys) ∧ ys.length = i ∧ ∀ (j : Nat) (y : V), ys[j]? = some y → KR j y H') its 0 _
    ⟨_, [], I2, Ex.new hHk, upd_same, rfl, fun j y e => nomatch e⟩ ?step ?done)
  case step =>
    rintro j v s' hv ⟨H', ys, I', e, hk, hy, hr'⟩
    simp only [Nat.zero_add] at hy ⊢
    obtain ⟨x, hx, rx⟩ : ∃ x, xs[j]? = some x ∧ RelV x v := by
      have hj : j < its.length := (List.getElem?_eq_some_iff.mp hv).1
      have hx : xs[j]? = some xs[j] := List.getElem?_eq_getElem (by omega)
      obtain ⟨u, hu, ru⟩ := rv.get hx
      rw [hv] at hu
      cases hu
      exact ⟨_, hx, ru⟩
    refine wpAny_bind (wpAny_attempt (wpAny_mono (turn_fn F hr hb I' (.cons rx .nil) (hturn j x H' hx e)) (fun u s'' he => ?_) fun _ _ hF => hF))
    obtain ⟨y, H'', I'', ry, e'', hky⟩ := he
    have hk2 := e'' _ _ hk
    obtain ⟨z, its2, n2, r2, hl2, e2⟩ := I''.lstM hk2
    have hyz : ys.length < sizeLine + 1 := by omega
    have hj : j < its.length := (List.getElem?_eq_some_iff.mp hv).1
    have hsz : (its2.toArray.push u).size ≤ sizeLine := by rw [Array.size_push, List.size_toArray]; omega
    try dsimp only
    refine wpAny_bind (listUpdate_at e2 rfl ?_ (by rw [List.size_toArray]; omega) (by omega))
    have I3 := I''.lset (f := (·.push u)) (its' := its2 ++ [u]) (t' := s''.toks) hk2 e2 (by simp) (r2.append (.cons ry .nil)) (by rw [List.length_append, List.length_singleton]; omega)
    refine wpAny_pure ⟨rfl, _, ys ++ [y], I3, Ex.mut (e.trans e'') hHk, upd_same, by rw [List.length_append, List.length_singleton, hy], fun i w hw => ?_⟩
    rcases Nat.lt_or_ge i ys.length with q1 | q1
    · rw [List.getElem?_append_left q1] at hw
      exact hmono _ _ _ _ (ExL.trans (Ex.exl e'') (ExL.upd hk2)) (hr' i w hw)
    · rw [List.getElem?_append_right q1] at hw
      have q2 : i - ys.length = 0 := by
        have := (List.getElem?_eq_some_iff.mp hw).1
        simp at this
        omega
      rw [q2] at hw
      cases hw
      have : i = j := by omega
      subst this
      exact hmono _ _ _ _ (ExL.upd hk2) hky
  case done =>
    rintro s' ⟨H', ys, I', e, hk, hy, hr'⟩
    simp only [Nat.zero_add] at hy
    obtain ⟨z, its2, n2, r2, hl2, e2⟩ := I'.lstM hk
    have hLp := (I'.pin (L, seqObj "list" #[] e1) (List.mem_append_right _ List.mem_cons_self))
    have eks : EachIs (fun v d => ∃ as, Reads s'.heap v d as) its2 ks := eachIs_get (by omega) fun i v d hv hd => by
      have hi : i < ys.length := by have := (List.getElem?_eq_some_iff.mp hv).1; omega
      have hyi : ys[i]? = some ys[i] := List.getElem?_eq_getElem hi
      obtain ⟨u, hu, ru⟩ := Vals.get r2 hyi
      rw [hv] at hu
      cases hu
      exact Dp.reads I' d _ _ (hdat i d _ H' hd (hr' i _ hyi)) ru
    try dsimp only
    refine wpAny_bind (listItems_at e2 rfl ?_)
    refine keyH_end (κ := dataKind s'.heap ks) (h₁ := hide1 s'.heap kS) (fun b o _ q => (of_hide1 q).2) hide1_none e2 hLp.1 hkL
      (SortsAt.data (s := s') eks hal hsk fun d hd => by
        have h1 := hr.un
        have h2 := hdp d hd
        show X.A.units + 1 + 1 + d.depth < cLine
        omega) (by rw [List.size_toArray]; omega) hizl fun h3 tk3 c k3 n3 => ⟨rfl, ?_⟩
    have hmz : (xs.zip ks).map Prod.snd = ks := by rw [List.map_snd_zip (by omega)]
    have ko : KeyedOut false ((xs.zip ks).map Prod.snd) its (sortVals (dataKind s'.heap ks) false its2.toArray.toList its) := by
      rw [hmz]
      exact ⟨s'.heap, its2.toArray.toList, hal, rfl, eks⟩
    have eR : EachIs (fun (v : Value) (b : V × PyData) => RelV b.1 v) its (xs.zip ks) := eachIs_get (by rw [List.length_zip]; omega) fun i v b hv hb' => by
      obtain ⟨h4, h5⟩ := List.getElem?_zip_eq_some.mp (show (xs.zip ks)[i]? = some (b.1, b.2) from hb')
      obtain ⟨u, hu, ru⟩ := rv.get h4
      rw [hv] at hu
      cases hu
      exact ru
    have eO := keyedOut_each Prod.snd ko eR
    generalize sortVals (dataKind s'.heap ks) false its2.toArray.toList its = out at n3 eO
    have vO : Vals (byKey xs ks) out := vals_byFst eO
    have hbl : (byKey xs ks).length ≤ sizeLine := by
      unfold byKey
      rw [List.length_map, (List.mergeSort_perm _ _).length_eq, List.length_zip]
      omega
    have hLn' : H' L = none := hLp.2.1
    have kp : ∀ b o, b ≠ L → b ≠ kS → s'.heap.get? b = some o → h3.get? b = some o := fun b o h4 h5 h6 => k3 b o h4 (hide1_get h6 h5)
    have fin : Inv X pins σ (upd (fun b => if b = kS then none else H' b) L (.lst (byKey xs ks))) { s' with heap := h3, gens := s'.gens, drawn := s'.drawn, toks := tk3 } := by
      have Ip : Inv X pins σ H' s' := I'.pins_of fun p hp => I'.pin p (List.mem_append_right _ (List.mem_cons_of_mem _ hp))
      have hf : ∀ b u, b ≠ L → b ≠ kS → H' b = u → upd (fun b => if b = kS then none else H' b) L (.lst (byKey xs ks)) b = u := fun b u h4 h5 h6 => by
        rw [upd_ne h4]
        show (if b = kS then none else H' b) = u
        rw [if_neg h5]
        exact h6
      have nL : ∀ b u, H' b = some u → b ≠ L := fun b u h4 z => by rw [z, hLn'] at h4; cases h4
      have nK : ∀ b u, H' b = some u → (∀ ys, u ≠ .lst ys) → b ≠ kS := fun b u h4 h5 z => by rw [z, hk] at h4; exact h5 _ (Option.some.inj h4).symm
      have old : ∀ b, b = L ∨ b = kS → s.heap.objs.size ≤ b := fun b h4 => by
        rcases h4 with rfl | rfl
        · exact hLs
        · exact hks
      refine Ip.step (ch := [kS, L]) (fun b hb' => ?_) (fun b o h4 h5 h6 h7 h8 => kp b o (fun z => h6 (by simp [z])) (fun z => h6 (by simp [z])) h7) (fun b o h4 h5 h6 h7 h8 => ⟨o.slots, kp b o (fun z => h6 (by simp [z])) (fun z => h6 (by simp [z])) h7⟩)
        (fun b o h4 h5 h6 => hf b _ (fun z => h4 (by simp [z])) (fun z => h4 (by simp [z])) h6) (fun b o h4 h5 => ⟨o, kp b o (fun z => h4 (by simp [z])) (fun z => h4 (by simp [z])) h5⟩)
        (fun b xs' h4 => hf b _ (nL _ _ h4) (nK _ _ h4 fun _ z => nomatch z) h4) (fun b o u h4 => hf b _ (nL _ _ h4) (nK _ _ h4 fun _ z => nomatch z) h4) (fun b ps' h4 => ⟨#[], by rw [hf b _ (nL _ _ h4) (nK _ _ h4 fun _ z => nomatch z) h4]; simp⟩)
        (fun m hm => ?_) (fun b u h4 => ?_) I'.bare
      · have hb2 : b = L ∨ b = kS := by
          rcases List.mem_cons.mp hb' with z | z
          · exact .inr z
          · exact .inl (List.mem_singleton.mp z)
        have hb3 := old b hb2
        refine ⟨.inr (Nat.le_trans I.sz hb3), Nat.ne_of_gt (Nat.lt_of_lt_of_le I.lt hb3), fun x c' h4 z => ?_, fun p hp z => ?_⟩
        · obtain ⟨v, o, ho, _⟩ := I.cell x c' h4
          rw [z] at ho
          exact absurd (Heap.lt_size ho) (Nat.not_lt.mpr hb3)
        · have ho := (I.pin p hp).1
          rw [z] at ho
          exact absurd (Heap.lt_size ho) (Nat.not_lt.mpr hb3)
      · obtain ⟨o, es, ep, ho, hr⟩ := hm
        refine ⟨o, es, ep, kp _ o (Ne.symm hlocL) (fun z => ?_) ho, hr⟩
        have := I.lt
        rw [z] at this
        exact absurd this (Nat.not_lt.mpr hks)
      · by_cases hbL : b = L
        · subst hbL
          rw [upd_same] at h4
          cases h4
          exact ⟨hbl, out, c, vO, n3⟩
        · rw [upd_ne hbL] at h4
          have h5 : b ≠ kS := fun z => by
            have : (if b = kS then none else H' b) = some u := h4
            rw [if_pos z] at this
            cases this
          have h6 : H' b = some u := by
            have : (if b = kS then none else H' b) = some u := h4
            rw [if_neg h5] at this
            exact this
          refine (Ip.hok b u h6).stay (fun c' v hc' q' => ?_) (fun c' q' => hf c' _ (nL _ _ q') (nK _ _ q' fun _ z => nomatch z) q') fun c' xs' q' => hf c' _ (nL _ _ q') (nK _ _ q' fun _ z => nomatch z) q'
          rcases hc' with z | z
          · subst z
            exact kp _ v hbL h5 q'
          · exact kp _ v (nL _ _ z) (nK _ _ z fun _ z => nomatch z) q'
    refine ⟨.ref L, _, fin, rfl, q L _ hHL (fun b o h4 => ?_) upd_same⟩
    have h5 := e _ _ h4
    rw [upd_ne (ne_of_none h4 hHL)]
    show (if b = kS then none else H' b) = some o
    rw [if_neg (ne_of_none h4 hHk)]
    exact h5
theorem dpAll_get {K : PySem.W.Frag} {H : Hp} : ∀ {xs : List V} {ds : List PyData}, DpAll K H xs ds → ∀ {i : Nat} {x : V} {d : PyData}, xs[i]? = some x → ds[i]? = some d → Dp K H x d
  | _, _, .cons h t, 0, x, d, h1, h2 => by
    cases Option.some.inj h1
    cases Option.some.inj h2
    exact h
  | _, _, .cons h t, i + 1, x, d, h1, h2 => dpAll_get t (i := i) h1 h2
  | _, _, .nil, i, x, d, h1, _ => by simp at h1
/-- what sorted(xs) asks of alike data -/
def rSortedD (K : PySem.W.Frag) : List V → Hp → VK → Prop := fun vs H Q => ∃ (a : Addr) (xs : List V) (ks : List PyData), vs = [V.ref a] ∧ SqL K H a xs ∧ ks.length = xs.length ∧ AllAlike ks ∧ Sortable ks ∧ (∀ d ∈ ks, d.depth ≤ 8) ∧ DpAll K H xs ks ∧
  ∀ p, H p = none → Q (.ref p) (upd H p (.lst (byKey xs ks)))
theorem cr_sortedD (hu : X.A.units + 64 < cLine) : CallR X (.builtin "sorted") (rSortedD X.K) := by
  intro pins s σ H vs us Q I r h
  obtain ⟨a, xs, ks, rfl, hs, hlen, hal, hsk, hdp, hdat, q⟩ := h
  obtain rfl := Vals.ref1 r
  obtain ⟨its, rv, hl, hz⟩ := I.list hs
  have hil : its.length = xs.length := rv.length.symm
  have eR : EachIs (fun (v : Value) (b : V × PyData) => RelV b.1 v) its (xs.zip ks) := eachIs_get (by rw [List.length_zip]; omega) fun i v b hv hb' => by
    obtain ⟨h4, h5⟩ := List.getElem?_zip_eq_some.mp (show (xs.zip ks)[i]? = some (b.1, b.2) from hb')
    obtain ⟨u, hu, ru⟩ := rv.get h4
    rw [hv] at hu
    cases hu
    exact ru
  have eD : EachIs (fun (v : Value) (b : V × PyData) => ∃ as, Reads s.heap v b.2 as) its (xs.zip ks) := eachIs_get (by rw [List.length_zip]; omega) fun i v b hv hb' => by
    obtain ⟨h4, h5⟩ := List.getElem?_zip_eq_some.mp (show (xs.zip ks)[i]? = some (b.1, b.2) from hb')
    obtain ⟨u, hu, ru⟩ := rv.get h4
    rw [hv] at hu
    cases hu
    exact Dp.reads I _ _ _ (dpAll_get hdat h4 h5) ru
  have hmz : (xs.zip ks).map Prod.snd = ks := by rw [List.map_snd_zip (by omega)]
  refine PySem.W.sorted_data (enc := Prod.snd) hl.isList eR eD (by rw [hmz]; exact hal) (by rw [hmz]; exact hsk) (by rw [List.length_zip]; omega) (fun b hb' => ?_) fun out ho eO => ?_
  · have h1 : b.2 ∈ ks := by rw [← hmz]; exact List.mem_map.mpr ⟨b, hb', rfl⟩
    have h2 := hdp _ h1
    omega
  · have vO : Vals (byKey xs ks) out := vals_byFst eO
    have hbl : (byKey xs ks).length ≤ sizeLine := by
      unfold byKey
      rw [List.length_map, (List.mergeSort_perm _ _).length_eq, List.length_zip]
      omega
    obtain ⟨ep2, he'⟩ := PyProof.Rows.sortedAll_at s.heap its (List.toArray out)
    exact ⟨.ref _, upd H (s.heap.objs.size + 1) (.lst (byKey xs ks)), I.laid (t' := s.toks) (fun _ _ => PyProof.Rows.sortedAll_old) (Nat.le_succ _) ⟨hbl, out, ep2, vO, he'⟩, rfl, q _ (I.hok.fresh (Nat.le_succ _))⟩
/-- x (not) in a list of data, whatever its texts -/
def rInP (K : PySem.W.Frag) (neg : Bool) : R2 := fun x y H Q => ∃ d ds, Dp K H x d ∧ Dp K H y (.list ds) ∧ d.plain = true ∧ PyData.plainAll ds = true ∧ d.depth ≤ 60 ∧ Q (.bl (if neg = true then !ds.any fun z => PyData.eqv z d else ds.any fun z => PyData.eqv z d)) H
theorem op_inP (hu : X.A.units + 65 < cLine) : OpR X (compareOp .In) (rInP X.K false) := by
  intro pins s σ H x y v u Q I rx ry h
  obtain ⟨d, ds, hd, he, sd, se, hz, q⟩ := h
  obtain ⟨as, r1⟩ := Dp.reads I d x v hd rx
  obtain ⟨bs, r2⟩ := Dp.reads I (.list ds) y u he ry
  rw [if_neg Bool.false_ne_true] at q
  exact SeqAt.in_list_data r2 r1 se sd (by omega) ⟨.bl _, H, I, rfl, q⟩
theorem op_notInP (hu : X.A.units + 65 < cLine) : OpR X (compareOp .NotIn) (rInP X.K true) := by
  intro pins s σ H x y v u Q I rx ry h
  obtain ⟨d, ds, hd, he, sd, se, hz, q⟩ := h
  obtain ⟨as, r1⟩ := Dp.reads I d x v hd rx
  obtain ⟨bs, r2⟩ := Dp.reads I (.list ds) y u he ry
  rw [if_pos rfl] at q
  exact SeqAt.notIn_list_data r2 r1 se sd (by omega) ⟨.bl _, H, I, rfl, q⟩
end
end Fp

/-! Bags in order: by their lengths, then by their words; each once. -/
namespace Fp
open PySem PySem.W
/-- what bag_key tells -/
def bagD (s : Bg) : PyData := .tuple [.int (sizeS s), wordsD (wordsS s)]
theorem alike_pairs : ∀ l m : Bg, alikeAll (l.map pairD) (m.map pairD) = true
  | [], _ => by simp [alikeAll]
  | _ :: _, [] => by simp [alikeAll]
  | a :: l, b :: m => by
    rw [List.map_cons, List.map_cons]
    unfold alikeAll
    rw [alike_pairs l m]
    simp [pairD, alike, alikeAll]
theorem alike_words (l m : Bg) : alike (wordsD l) (wordsD m) = true := by
  show alikeAll (l.map pairD) (m.map pairD) = true
  exact alike_pairs l m
theorem bagD_alike (s t : Bg) : alike (bagD s) (bagD t) = true := by
  unfold bagD
  simp [alike, alikeAll, alike_words]
theorem bagD_depth (s : Bg) : (bagD s).depth ≤ 8 := by
  have := depthAll_words (wordsS s)
  simp only [bagD, wordsD, PyData.depth, PyData.depthAll]
  omega
theorem pair_tri {a b : Str × Int} (h1 : dataLt (pairD a) (pairD b) = false) (h2 : dataLt (pairD b) (pairD a) = false) : a = b := by
  obtain ⟨a1, a2⟩ := a
  obtain ⟨b1, b2⟩ := b
  unfold pairD at h1 h2
  rw [dataLt_pair (by simp [alike]) (by simp [alike]), dataLt_str, dataLt_int] at h1 h2
  simp only [PyData.eqv, beq_iff_eq] at h1 h2
  by_cases e1 : a1 = b1
  · subst e1
    rw [if_pos rfl] at h1 h2
    by_cases e2 : a2 = b2
    · rw [e2]
    · rw [if_neg e2] at h1
      rw [if_neg (Ne.symm e2)] at h2
      have := of_decide_eq_false h1
      have := of_decide_eq_false h2
      omega
  · rw [if_neg e1] at h1
    rw [if_neg (Ne.symm e1)] at h2
    have h3 := of_decide_eq_false h1
    have h4 := of_decide_eq_false h2
    exact absurd (str_ext (List.le_antisymm (List.not_lt.mp h4) (List.not_lt.mp h3))) e1
theorem row_nil (b : Str × Int) (m : Bg) : rowLt (([] : Bg).map pairD) ((b :: m).map pairD) = true := by
  unfold rowLt
  rw [List.map_nil, List.map_cons]
  unfold keyToksAll
  exact (lex_atom (by simp) _ _).trans (by decide +kernel)
theorem words_tri : ∀ {l m : Bg}, rowLt (l.map pairD) (m.map pairD) = false → rowLt (m.map pairD) (l.map pairD) = false → l = m
  | [], [], _, _ => rfl
  | [], b :: m, h1, _ => by
    exact absurd (row_nil b m) (by rw [h1]; decide)
  | a :: l, [], _, h2 => by
    exact absurd (row_nil a l) (by rw [h2]; decide)
  | a :: l, b :: m, h1, h2 => by
    unfold rowLt at h1 h2
    rw [List.map_cons, List.map_cons, dataLt_cons (by simp [pairD, alike, alikeAll])] at h1 h2
    rw [eqv_pair] at h1 h2
    by_cases e : a = b
    · subst e
      rw [if_pos (decide_eq_true rfl)] at h1 h2
      rw [words_tri h1 h2]
    · rw [if_neg (by simpa using e)] at h1
      rw [if_neg (by simpa using Ne.symm e)] at h2
      exact absurd (pair_tri h1 h2) e
def leB : Bg → Bg → Bool := dataLe false bagD
theorem leB_total : TotalLe leB := by
  unfold leB dataLe
  exact sortLe_total _ _ _
theorem leB_anti {s t : Bg} (h1 : leB s t = true) (h2 : leB t s = true) : wordsS s = wordsS t := by
  have h3 : dataLt (bagD t) (bagD s) = false := by
    have : (!dataLt (bagD t) (bagD s)) = true := h1
    simpa using this
  have h4 : dataLt (bagD s) (bagD t) = false := by
    have : (!dataLt (bagD s) (bagD t)) = true := h2
    simpa using this
  unfold bagD at h3 h4
  rw [dataLt_pair (by simp [alike]) (alike_words _ _), dataLt_int] at h3 h4
  simp only [PyData.eqv, beq_iff_eq, eqv_words] at h3 h4
  by_cases e1 : sizeS s = sizeS t
  · rw [if_pos e1.symm] at h3
    rw [if_pos e1] at h4
    by_cases e2 : wordsS s = wordsS t
    · exact e2
    · rw [if_neg (by simpa using Ne.symm e2)] at h3
      rw [if_neg (by simpa using e2)] at h4
      unfold wordsD at h3 h4
      rw [dataLt_tuple] at h3 h4
      exact words_tri h4 h3
  · rw [if_neg (Ne.symm e1)] at h3
    rw [if_neg e1] at h4
    have := of_decide_eq_false h3
    have := of_decide_eq_false h4
    omega
/-- each once, as the program does it: beside the last one -/
def dedB (l : List Bg) : List Bg := l.foldl (fun acc s => if acc.getLast?.map wordsS = some (wordsS s) then acc else acc ++ [s]) []
/-- each once, as the law does it: among all so far -/
def dedM (l : List Bg) : List Bg := l.foldl (fun acc s => if (acc.any fun t => decide (wordsS t = wordsS s)) = true then acc else acc ++ [s]) []
theorem sizeS_words {s t : Bg} (h : wordsS s = wordsS t) : sizeS s = sizeS t := by
  have h1 : ordW (keys s) = ordW (keys t) := by rw [← wordsS_keys, ← wordsS_keys, h]
  have h2 : s = [] ↔ t = [] := by
    have := congrArg List.length h
    rw [wordsS_len, wordsS_len] at this
    rw [← List.length_eq_zero_iff, ← List.length_eq_zero_iff, this]
  unfold sizeS
  by_cases e : s = []
  · rw [if_pos e, if_pos (h2.mp e)]
  · rw [if_neg e, if_neg (fun z => e (h2.mpr z))]
    have h3 := lead_head e
    have h4 := lead_head (fun z => e (h2.mpr z) : t ≠ [])
    rw [h1, h4] at h3
    rw [Option.some.inj h3]
theorem bagD_words {s t : Bg} (h : wordsS s = wordsS t) : bagD s = bagD t := by
  unfold bagD
  rw [h, sizeS_words h]
theorem leB_congr {s t u : Bg} (h : wordsS s = wordsS t) : leB s u = leB t u := by
  show (!dataLt (bagD u) (bagD s)) = (!dataLt (bagD u) (bagD t))
  rw [bagD_words h]
theorem ded_fold : ∀ (l acc : List Bg), (acc ++ l).Pairwise (fun a b => leB a b = true) →
    l.foldl (fun acc s => if acc.getLast?.map wordsS = some (wordsS s) then acc else acc ++ [s]) acc = l.foldl (fun acc s => if (acc.any fun t => decide (wordsS t = wordsS s)) = true then acc else acc ++ [s]) acc
  | [], _, _ => rfl
  | s :: l, acc, h => by
    have e : (acc.getLast?.map wordsS = some (wordsS s)) ↔ (acc.any fun t => decide (wordsS t = wordsS s)) = true := by
      constructor
      · intro h1
        obtain ⟨u, hu, hw⟩ := Option.map_eq_some_iff.mp h1
        exact List.any_eq_true.mpr ⟨u, List.mem_of_getLast? hu, decide_eq_true hw⟩
      · intro h1
        obtain ⟨t, ht, hw⟩ := List.any_eq_true.mp h1
        have hw := of_decide_eq_true hw
        have hne : acc ≠ [] := List.ne_nil_of_mem ht
        obtain ⟨init, u, rfl⟩ : ∃ init u, acc = init ++ [u] := ⟨acc.dropLast, acc.getLast hne, (List.dropLast_concat_getLast hne).symm⟩
        rw [List.getLast?_concat]
        show some (wordsS u) = _
        have hp := List.pairwise_append.mp h
        have hus : leB u s = true := hp.2.2 u (by simp) s List.mem_cons_self
        rcases List.mem_append.mp ht with z | z
        · have htu : leB t u = true := (List.pairwise_append.mp hp.1).2.2 t z u (by simp)
          rw [leB_congr hw] at htu
          rw [leB_anti hus htu]
        · rw [← List.mem_singleton.mp z, hw]
    rw [List.foldl_cons, List.foldl_cons]
    by_cases h1 : (acc.any fun t => decide (wordsS t = wordsS s)) = true
    · rw [if_pos (e.mpr h1), if_pos h1]
      refine ded_fold l acc (h.sublist ?_)
      exact List.Sublist.append (List.Sublist.refl _) (List.sublist_cons_self _ _)
    · rw [if_neg (fun z => h1 (e.mp z)), if_neg h1]
      refine ded_fold l (acc ++ [s]) ?_
      rw [List.append_assoc]
      exact h
def sortB (ss : List Bg) : List Bg := ss.mergeSort leB
theorem ded_eq (ss : List Bg) : dedB (sortB ss) = dedM (sortB ss) := ded_fold _ [] (by rw [List.nil_append]; exact sort_pairwise leB_total ss)
theorem paired_fst_snd {α β : Type} {F : α → β → Prop} : ∀ {l : List (α × β)}, (∀ z ∈ l, F z.1 z.2) → Paired F (l.map Prod.fst) (l.map Prod.snd)
  | [], _ => .nil
  | z :: l, h => .cons (h z List.mem_cons_self) (paired_fst_snd fun y hy => h y (List.mem_cons_of_mem _ hy))
theorem paired_zip {α β : Type} {F : α → β → Prop} {xs : List α} {ys : List β} (h : Paired F xs ys) : ∀ z ∈ xs.zip ys, F z.1 z.2 := by
  induction h with
  | nil => intro z hz; cases hz
  | cons h1 _ ih =>
    intro z hz
    rcases List.mem_cons.mp hz with rfl | hz
    · exact h1
    · exact ih z hz
theorem byKey_paired {F : L2.V → Bg → Prop} {xs : List L2.V} {ss : List Bg} (h : Paired F xs ss) : Paired F (byKey xs (ss.map bagD)) (sortB ss) := by
  have e1 : ((xs.zip ss).mergeSort fun a b => leB a.2 b.2).map Prod.snd = sortB ss := by
    rw [sort_maps (s := leB) Prod.snd fun _ _ _ _ => rfl, List.map_snd_zip (by rw [h.length]; exact Nat.le_refl _)]
    rfl
  have e2 : byKey xs (ss.map bagD) = ((xs.zip ss).mergeSort fun a b => leB a.2 b.2).map Prod.fst := by
    unfold byKey
    have e3 : xs.zip (ss.map bagD) = (xs.zip ss).map fun z => (z.1, bagD z.2) := by
      rw [List.zip_map_right]
      rfl
    rw [e3, ← sort_maps (r := fun a b => leB a.2 b.2) (s := dataLe false Prod.snd) (fun z : L2.V × Bg => (z.1, bagD z.2)) fun _ _ _ _ => rfl, List.map_map]
    rfl
  rw [e1.symm, e2]
  exact paired_fst_snd fun z hz => paired_zip h z ((List.mergeSort_perm _ _).mem_iff.mp hz)
theorem bagD_plain (s : Bg) : (bagD s).plain = true := by
  have := plainAll_words (wordsS s)
  simp [bagD, wordsD, PyData.plain, PyData.plainAll, this]
theorem eqv_bagD (s t : Bg) : PyData.eqv (bagD s) (bagD t) = decide (wordsS s = wordsS t) := by
  show PyData.eqvAll [.int (sizeS s), wordsD (wordsS s)] [.int (sizeS t), wordsD (wordsS t)] = _
  simp only [PyData.eqvAll, PyData.eqv, eqv_words, Bool.and_true]
  rw [Bool.eq_iff_iff]
  by_cases h : wordsS s = wordsS t
  · simp [h, sizeS_words h]
  · simp [h]
end Fp

namespace Fp
open PySem PySem.W
/-! ### rows in the order of their leads -/
def keyR (q : Nat × Str) : PyData := .tuple [.int (q.1 : Nat), .tuple [.int (-(q.2.length : Int)), .str q.2]]
def rowD (r : Row) : PyData := keyR ((leadR r).getD (0, ""))
def leRow : Row → Row → Bool := dataLe false rowD
theorem leRow_total : TotalLe leRow := by
  unfold leRow dataLe
  exact sortLe_total _ _ _
def sortR (B : List Row) : List Row := B.mergeSort leRow
theorem sortR_perm (B : List Row) : (sortR B).Perm B := List.mergeSort_perm _ _
theorem keyR_alike (a b : Nat × Str) : alike (keyR a) (keyR b) = true := by
  unfold keyR
  simp [alike, alikeAll]
theorem rowD_alike (r o : Row) : alike (rowD r) (rowD o) = true := keyR_alike _ _
theorem rowD_depth (r : Row) : (rowD r).depth ≤ 8 := by
  unfold rowD keyR
  simp [PyData.depth, PyData.depthAll]
theorem byKeyR_paired {F : L2.V → Row → Prop} {xs : List L2.V} {ss : List Row} (h : Paired F xs ss) : Paired F (byKey xs (ss.map rowD)) (sortR ss) := by
  have e1 : ((xs.zip ss).mergeSort fun a b => leRow a.2 b.2).map Prod.snd = sortR ss := by
    rw [sort_maps (s := leRow) Prod.snd fun _ _ _ _ => rfl, List.map_snd_zip (by rw [h.length]; exact Nat.le_refl _)]
    rfl
  have e2 : byKey xs (ss.map rowD) = ((xs.zip ss).mergeSort fun a b => leRow a.2 b.2).map Prod.fst := by
    unfold byKey
    have e3 : xs.zip (ss.map rowD) = (xs.zip ss).map fun z => (z.1, rowD z.2) := by
      rw [List.zip_map_right]
      rfl
    rw [e3, ← sort_maps (r := fun a b => leRow a.2 b.2) (s := dataLe false Prod.snd) (fun z : L2.V × Row => (z.1, rowD z.2)) fun _ _ _ _ => rfl, List.map_map]
    rfl
  rw [e1.symm, e2]
  exact paired_fst_snd fun z hz => paired_zip h z ((List.mergeSort_perm _ _).mem_iff.mp hz)
end Fp

namespace Fp
open PySem L2
section
variable {P : Program} {w : World} {K : PySem.W.Frag} {mg : Str → Option Value} {base : Heap} {C_Bag : Addr} {Cs : Addr → Prop}
local macro_rules | `(tactic| walk_at "hp") => `(tactic| first | assumption | rfl)
local macro_rules | `(tactic| walk_at "cond") => `(tactic| first | assumption | decide | omega | (unfold CMul; omega) | (refine ⟨?_, ?_⟩ <;> omega) | (unfold CDiv; omega) | (unfold CPow; omega))
local macro_rules | `(tactic| walk_at "g1") => `(tactic| first
  | with_reducible first
    | refine g_seq ?_ | refine g_asg ?_ | refine g_name ?_ | refine g_ret ?_ | refine g_retN ?_ | refine g_drop ?_ | refine g_ifs ?_
    | refine g_c ?_ | refine g_op ?_ | refine g_un ?_ | refine g_I0 ?_ | refine g_U ?_
    | refine g_test ?_ | refine g_tB ?_ | refine g_bl ?_ | refine g_and ?_ | refine g_or ?_ | refine g_not ?_
    | refine g_andV ?_ | refine g_orV ?_ | refine g_notV ?_ | refine g_if ?_ | refine g_nil ?_ | refine g_cons ?_ | refine g_cb ?_ | refine g_call ?_
    | refine g_lst ?_ | refine g_tup ?_ | refine g_itT ?_ | refine g_itF ?_ | refine g_itNT ?_ | refine g_itNF ?_ | refine g_lc ?_ | refine g_iStr ?_ | refine g_yes ?_ | refine g_exs ?_
    | refine g_chain ?_ | refine g_dget ?_ | refine g_dput ?_ | refine g_dget2 ?_ | refine g_dpop2 ?_ | refine g_fld ?_ | refine g_sfld ?_ | refine g_make ?_ | refine g_meth ?_
    | refine g_bm ?_ | refine g_kw ?_ | refine g_callS ?_ | refine g_revL ?_ | refine g_m1 ?_ | refine g_gsub ?_ | refine g_for ?_ | refine g_iList ?_ | refine g_iTup ?_ | refine g_iRng1 ?_ | refine g_iRng2 ?_ | refine g_sl ?_ | refine g_part ?_ | refine g_noPart ?_
    | refine g_exi ?_ | refine g_exr ?_ | refine g_dnew ?_ | refine g_disp ?_ | refine g_prs0 ?_ | refine g_prs ?_ | refine g_nxt ?_
  | ((with_reducible refine g_var (v := ?vv) ?gv ?_); (case gv => exact rfl))
  | ((with_reducible refine g_I ?gc ?_); (case gc => walk_at "cond"))
  | ((with_reducible refine g_eq ?ge ?_); (case ge => exact rfl))
  | ((with_reducible refine g_ne ?ge ?_); (case ge => exact rfl))
  | (refine g_ixl (SqL.of (by first | assumption | exact upd_same)) rfl ?_)
  | (refine g_setl (by first | assumption | exact upd_same) rfl ?_)
  | ((with_reducible show (∃ i, [V.int _] = [V.int i] ∧ _) ∨ _); refine Or.inl ⟨_, rfl, ?_⟩)
  | ((with_reducible show ∃ i, [V.int _] = [V.int i] ∧ _); refine ⟨_, rfl, ?_⟩)
  | dsimp only)
local macro_rules | `(tactic| walk_at "go") => `(tactic| repeat (walk_at "g1"))

local macro_rules | `(tactic| walk_at "g1") => `(tactic| with_reducible first | refine g_gcons ?_ | refine g_gnil ?_)

def sp_ahead_key : Sp := fun vs H Q _ => ∃ w : Str, vs = [.str w] ∧ w.length ≤ 10000000 ∧ ∀ q H', Ex H H' → H q = none → H' q = some (.tup [.int (-(w.length : Int)), .str w]) → Q (.ref q) H'
theorem ok_ahead_key {f : Addr} {fd : FuncData} (F : Fun K "ahead_key" "ahead_key" s_ahead_key f fd) (T : Txt K mg C_Bag Cs) : FnOk P w K mg base CX0 1 f fd ["word"] sp_ahead_key := by
  refine F.ok sc_ahead_key (fun vs H Q E h => ?_) (fun cdv A outer s H vs Q E hr h => ?_)
  · obtain ⟨w, rfl, _⟩ := h
    rfl
  · obtain ⟨w, rfl, hw, k⟩ := h
    have hu := hu_of hr; have hu64 := L2.Room.units hr; refine ⟨_, (pss_one (ps_ret (pe_tup (pa_cons (pe_un un_neg (pe_callB call_len_str (by rfl) T.b_len (by decide +kernel) (pa_cons (pv 0) pa_nil))) (pa_cons (pv 0) pa_nil))))), ?_⟩; rw [st_ahead_key]; (try dsimp only [cxOf]); walk_at "go"
    refine ⟨w, rfl, line5 hw, ?_⟩
    walk_at "go"
    exact ⟨Nat.le_of_ble_eq_true rfl, fun q hq => k q _ (Ex.new hq) hq upd_same⟩
/-- the key of a row that leads -/
def KeyAt (H : Hp) (v : V) (q : Nat × Str) : Prop := ∃ a b : Addr, v = .ref a ∧ H a = some (.tup [.int (q.1 : Nat), .ref b]) ∧ H b = some (.tup [.int (-(q.2.length : Int)), .str q.2])
def sp_leading_key : Sp := fun vs H Q _ => ∃ (t : Addr) (r : Row) (z : Nat × Str), vs = [.ref t] ∧ RowAt H t r ∧ r.length ≤ 1000 ∧ (∀ b ∈ r, ∀ u ∈ keys b, u.length ≤ 10000000) ∧ leadR r = some z ∧ ∀ v H', Ex H H' → KeyAt H' v z → Q v H'
theorem lead_len_of {r : Row} {z : Nat × Str} (h : leadR r = some z) {n : Nat} (hw : ∀ b ∈ r, ∀ u ∈ keys b, u.length ≤ n) : z.2.length ≤ n := by
  obtain ⟨b, h1, h2, h3, _⟩ := leadR_at (i := z.1) (w := z.2) h
  rw [h3]
  exact hw b (List.mem_of_getElem? h1) _ (lead_mem h2)
theorem ok_leading_key {f : Addr} {fd : FuncData} (F : Fun K "leading_key" "leading_key" s_leading_key f fd) (T : Txt K mg C_Bag Cs) (D_leading : DefOk P w K mg base CX0 5 "leading" ["row"] sp_leading) (D_ahead_key : DefOk P w K mg base CX0 1 "ahead_key" ["word"] sp_ahead_key) : FnOk P w K mg base CX0 6 f fd ["row"] sp_leading_key := by
  refine F.ok sc_leading_key (fun vs H Q E h => ?_) (fun cdv A outer s H vs Q E hr h => ?_)
  · obtain ⟨t, r, z, rfl, _⟩ := h
    rfl
  · obtain ⟨t, r, z, rfl, ht, hl, hw, hz, k⟩ := h
    have hu := hu_of hr; have hu64 := L2.Room.units hr; refine ⟨_, (pss_cons (ps_asg (pe_callD D_leading (hr.mono (by decide)) rfl pass0 (pa_cons (pv 0) pa_nil)) (pg_tup rfl (pgs_cons (pg_name (i := 1) sc_leading_key.nd rfl (by first | exact Or.inl rfl | exact Or.inr rfl)) (pgs_cons (pg_name (i := 2) sc_leading_key.nd rfl (by first | exact Or.inl rfl | exact Or.inr rfl)) pgs_nil)))) (pss_one (ps_ret (pe_tup (pa_cons (pv 1) (pa_cons (pe_callD D_ahead_key (hr.mono (by decide)) rfl pass0 (pa_cons (pv 2) pa_nil)) pa_nil)))))), ?_⟩; rw [st_leading_key]; (try dsimp only [cxOf]); walk_at "go"
    refine ⟨t, r, rfl, ht, hl, hw, fun v H1 e1 hv => ?_⟩
    rw [hz] at hv
    obtain ⟨q, rfl, hq0, hq1⟩ := hv
    refine ⟨q, _, rfl, SqT.of hq1, rfl, ?_⟩
    walk_at "go"
    refine ⟨z.2, rfl, lead_len_of hz hw, fun kt H2 e2 hk0 hk1 => ?_⟩
    walk_at "go"
    exact ⟨Nat.le_of_ble_eq_true rfl, fun q2 hq2 => k _ _ ((e1.trans e2).trans (Ex.new hq2)) ⟨q2, kt, rfl, upd_same, Ex.new hq2 _ _ hk1⟩⟩
def sp_made_leading : Sp := fun vs H Q _ => ∃ (p : Int) (t : Addr) (r : Row) (z : Nat × Str), vs = [.int p, .ref t] ∧ RowAt H t r ∧ Fit p r ∧ leadR r = some z ∧ 2 ≤ p ∧ p ≤ 1000 ∧ ∀ t' H', Ex H H' → H t' = none → RowAt H' t' (plainR p r) → Q (.ref t') H'
theorem ok_made_leading {f : Addr} {fd : FuncData} (F : Fun K "made_leading" "made_leading" s_made_leading f fd) (T : Txt K mg C_Bag Cs) (D_leading : DefOk P w K mg base CX0 5 "leading" ["row"] sp_leading) (D_inverse : DefOk P w K mg base CX0 1 "inverse" ["clock", "number"] sp_inverse)
    (D_scaled : DefOk P w K mg base CX0 3 "scaled" ["clock", "sparse", "factor"] sp_scaled) : FnOk P w K mg base CX0 6 f fd ["clock", "row"] sp_made_leading := by
  refine F.ok sc_made_leading (fun vs H Q E h => ?_) (fun cdv A outer s H vs Q E hr h => ?_)
  · obtain ⟨p, t, r, z, rfl, _⟩ := h
    rfl
  · obtain ⟨p, t, r, z, rfl, ht, hf, hz, hp, hp1, k⟩ := h
    obtain ⟨ds, h1, h2⟩ := ht.ex
    have hlen := h2.length
    have hk := hf.k
    have hu := hu_of hr; have hu64 := L2.Room.units hr; refine ⟨_, (pss_cons (ps_asg (pe_callD D_leading (hr.mono (by decide)) rfl pass0 (pa_cons (pv 1) pa_nil)) (pg_tup rfl (pgs_cons (pg_name (i := 2) sc_made_leading.nd rfl (by first | exact Or.inl rfl | exact Or.inr rfl)) (pgs_cons (pg_name (i := 3) sc_made_leading.nd rfl (by first | exact Or.inl rfl | exact Or.inr rfl)) pgs_nil)))) (pss_cons (ps_set (i := 4) sc_made_leading.nd rfl (by first | exact Or.inl rfl | exact Or.inr rfl) (pe_callD D_inverse (hr.mono (by decide)) rfl pass0 (pa_cons (pv 0) (pa_cons (pe_dget hu (pe_ix (r := rIxT K) ix_tup (pv 1) (pv 2) (fun _ _ => rfl)) (pv 3) (fun _ _ => rfl)) pa_nil)))) (pss_one (ps_ret (pe_callTy (r := rTupleZ K) call_tupleZ (by rfl) T.b_tuple (by decide +kernel) (pa_cons (pe_lc (own := [("place", 5)]) (g := (gName 5)) (tt := tYes) rfl sc_made_leading.nd (pi_tup (pv 1)) (blkOk_by (N := N_made_leading) (sc := defScope s_made_leading) (by decide +kernel)) (fun _ _ _ _ _ => (pg_name (i := 5) sc_made_leading.nd rfl (by first | exact Or.inl rfl | exact Or.inr rfl))) (fun _ _ _ _ _ => pts_nil) (fun _ _ _ _ _ => (pe_callD D_scaled (hr.mono (by decide)) rfl pass0 (pa_cons (pv 0) (pa_cons (pv 5) (pa_cons (pv 4) pa_nil)))))) pa_nil)))))), ?_⟩; rw [st_made_leading]; (try dsimp only [cxOf]); walk_at "go"
    refine ⟨t, r, rfl, ht, hf.k, fun b hb u hu => Nat.le_trans (hf.l b hb u hu) (by decide), fun v H1 e1 hv => ?_⟩
    rw [hz] at hv
    obtain ⟨q, rfl, hq0, hq1⟩ := hv
    refine ⟨q, _, rfl, SqT.of hq1, rfl, ?_⟩
    walk_at "go"
    obtain ⟨b, hb1, hb2, hb3, _⟩ := leadR_at (i := z.1) (w := z.2) hz
    obtain ⟨d, hd⟩ : ∃ d, ds[z.1]? = some d := by
      have : z.1 < ds.length := by
        have := (List.getElem?_eq_some_iff.mp hb1).1
        omega
      exact ⟨_, List.getElem?_eq_getElem this⟩
    obtain ⟨b', hb', hdb⟩ := paired_get h2 hd
    rw [hb1] at hb'
    cases Option.some.inj hb'
    refine g_ixt (v := .ref d) (.inl (e1.rd h1)) (atI_get (by omega) (by rw [show ((z.1 : Nat) : Int).toNat = z.1 from by omega, List.getElem?_map, hd]; rfl)) ?_
    walk_at "go"
    have gb := hf.g b (List.mem_of_getElem? hb1)
    obtain ⟨n, hn⟩ := mem_keys.mp (lead_mem hb2)
    have hcf := cf_of_mem gb.nd hn
    rw [hb3]
    refine g_dg (.inl (e1 _ _ hdb)) (getS_of_mem gb.nd hn) ?_
    walk_at "go"
    refine ⟨p, n, rfl, hp, hp1, ?_⟩
    walk_at "go"
    have hinv := powM_bd (x := n) (by omega : 0 < p) hp1 (p - 2).toNat
    refine ⟨⟨_, .inl (e1.rd h1)⟩, ?_⟩
    refine lc_relL walk_tup r (by rw [List.length_map, hlen]) (by rw [List.length_map, hlen]; exact line5 (by omega)) (fun H' e => .inl ((e1.trans e).rd h1)) (fun c y H => ∃ x, y = V.ref x ∧ H x = some (.dK (toK (plusS p [] c (inv p n))))) (fun c y H H' e ⟨x, h8, h9⟩ => ⟨x, h8, e _ _ (fun _ z => nomatch z) h9⟩) (fun _ => rfl) ?_ ?_
    · rintro i x c H2 H2' Kc hi e2 ⟨rfl, hx⟩ hc hk
      rw [List.getElem?_map] at hx
      cases hq : ds[i]? with
      | none => rw [hq] at hx; cases hx
      | some dq =>
        rw [hq] at hx
        cases Option.some.inj hx
        obtain ⟨c', hc', hdc⟩ := paired_get h2 hq
        rw [hc] at hc'
        cases Option.some.inj hc'
        have gc := hf.g c (List.mem_of_getElem? hc)
        have nc := hf.n c (List.mem_of_getElem? hc)
        walk_at "go"
        refine ⟨dq, p, c, inv p n, rfl, .inl (e2 _ _ (e1 _ _ hdc)), gc.nd, by omega, by omega, ⟨by show _ < powM p n _; omega, by show powM p n _ < _; omega⟩, fun x H3 e3 hx hx3 => ?_⟩
        exact hk _ _ e3 ⟨x, rfl, hx3⟩
    · intro D H2 ys hD e2 hD2 hp2
      obtain ⟨xs, rfl, hxs⟩ := paired_refs hp2
      walk_at "go"
      refine ⟨D, _, rfl, SqL.of hD2, fun t' o ht' ho => ?_⟩
      have e3 : Ex H2 (upd H2 t' (.frz o (.tup (xs.map V.ref)))) := Ex.new ht'
      refine k t' _ ((e1.trans e2).trans e3) ((e1.trans e2).free ht') ?_
      unfold plainR
      rw [hz]
      refine ⟨xs, .inr ⟨o, upd_same⟩, ?_⟩
      have ha : atR r z.1 = b := (atR_mem hb1).1
      show Paired _ xs (scaleR p r (inv p (cf (atR r z.1) z.2)))
      rw [ha, hb3, hcf]
      exact paired_mapr hxs fun _ _ z => e3 _ _ z

end
end Fp

/-! Comprehensions with a target (a, b); comprehensions with a test over lists. -/
namespace Fp
open PySem L2
section
variable {J : It} {n : Nat} {G : Hp → Prop} {Y : Nat → Hp → V → Hp → Prop} {α : Type} {fx fy : Nat → Option V}
theorem lc_relP {K : PySem.W.Frag} (w : Walk J n G (YPair fx fy)) {i j : Nat} {te : TE} {vs : List Nat} {σ : St} {H1 : Hp} {Q : VK} (es : List α) (hl : es.length = n) (hn : n ≤ sizeLine) (hG : ∀ H, Ex H1 H → G H)
    (R : α → V → Hp → Prop) (hR : ∀ e y H H', ExL H H' → R e y H → R e y H') (hw : ∀ x y, wipe (((wipe σ vs).set i x).set j y) vs = wipe σ vs)
    (hs : ∀ k x y e H (Kc : VK), k < n → Ex H1 H → fx k = some x → fy k = some y → es[k]? = some e → (∀ z H4, Ex H H4 → R e z H4 → Kc z H4) → te (((wipe σ vs).set i (some x)).set j (some y)) H Kc)
    (hd : ∀ D H' ys, H1 D = none → Ex H1 H' → H' D = some (.lst ys) → Paired (fun y e => R e y H') ys es → Q (.ref D) H') :
    LcG J (gTup K 2 (gCons (gName i) (gCons (gName j) gNil))) tYes te vs σ H1 Q := by
  intro D hD
  refine lc_it w (fun i H => Ex H1 H ∧ ∃ ys, H D = some (.lst ys) ∧ Paired (fun y e => R e y H) ys (es.take i)) ⟨Ex.new hD, [], upd_same, .nil⟩ (fun i H _ p => hG H p.1) ?_ (fun H p => ?_)
  · rintro k x H H' hi ⟨e, ys, hacc, hp⟩ ⟨T, x1, y1, rfl, hT, rfl, hx1, hy1⟩
    have hi' : k < es.length := by omega
    obtain ⟨c, hc⟩ : ∃ c, es[k]? = some c := ⟨es[k], by simp [hi']⟩
    have eT : Ex H (upd H T (.tup [x1, y1])) := Ex.new hT
    have hlen : ys.length = k := by rw [hp.length, List.length_take]; omega
    refine g_gtup (SqT.of upd_same) rfl (g_gcons ?_)
    (try dsimp only [gName])
    refine g_gcons ?_
    (try dsimp only [gName])
    refine g_gnil ⟨hw _ _, ?_⟩
    unfold tYes
    dsimp only
    rw [if_pos rfl]
    refine hs k x1 y1 c _ _ hi (e.trans eT) hx1 hy1 hc fun z H4 e4 rz => ⟨ys, e4 _ _ (eT _ _ hacc), by omega, ?_, ys ++ [z], upd_same, ?_⟩
    · exact Ex.mut ((e.trans eT).trans e4) hD
    · have tu : ExL H4 (L2.upd H4 D (.lst (ys ++ [z]))) := ExL.upd (e4 _ _ (eT _ _ hacc))
      rw [List.take_add_one, hc]
      exact Paired.snoc (Paired.mapP hp fun a b q => hR _ _ _ _ ((eT.trans e4).exl.trans tu) q) (hR _ _ _ _ tu rz)
  · obtain ⟨e, ys, h, hp⟩ := p
    rw [← hl, List.take_length] at hp
    exact hd D H ys hD e h hp
theorem lc_selL (w : Walk J n G Y) {j : Nat} {tt : TT} {te : TE} {vs : List Nat} {σ : St} {H1 : Hp} {Q : VK} (es : List α) (hl : es.length = n) (hn : n ≤ sizeLine) (hG : ∀ H, Ex H1 H → G H)
    (R : α → V → Hp → Prop) (hR : ∀ e y H H', ExL H H' → R e y H → R e y H') (q : α → Bool) (hw : ∀ x, wipe ((wipe σ vs).set j x) vs = wipe σ vs)
    (hs : ∀ i x e H H' (KT : Hp → Prop) (KY : VK), i < n → Ex H1 H → Y i H x H' → es[i]? = some e → (q e = false → ∀ H3, Ex H H3 → KT H3) → (q e = true → ∀ y H4, Ex H H4 → R e y H4 → KY y H4) →
      tt ((wipe σ vs).set j (some x)) H' fun b H3 => if b = true then te ((wipe σ vs).set j (some x)) H3 KY else KT H3)
    (hd : ∀ D H' ys, H1 D = none → Ex H1 H' → H' D = some (.lst ys) → Paired (fun y e => R e y H') ys (es.filter q) → Q (.ref D) H') :
    LcG J (gName j) tt te vs σ H1 Q := by
  intro D hD
  refine lc_it w (fun i H => Ex H1 H ∧ ∃ ys, H D = some (.lst ys) ∧ Paired (fun y e => R e y H) ys ((es.take i).filter q)) ⟨Ex.new hD, [], upd_same, .nil⟩ (fun i H _ p => hG H p.1) ?_ (fun H p => ?_)
  · rintro i x H H' hi ⟨e, ys, hacc, hp⟩ hy
    have hi' : i < es.length := by omega
    obtain ⟨c, hc⟩ : ∃ c, es[i]? = some c := ⟨es[i], by simp [hi']⟩
    have hlen : ys.length ≤ i := by
      rw [hp.length]
      exact Nat.le_trans (List.length_filter_le _ _) (by rw [List.length_take]; omega)
    refine ⟨hw _, ?_⟩
    refine hs i x c H H' _ _ hi e hy hc (fun hq H3 e3 => ⟨e.trans e3, ys, e3 _ _ hacc, ?_⟩) fun hq y H4 e4 rz => ⟨ys, e4 _ _ hacc, by omega, Ex.mut (e.trans e4) hD, ys ++ [y], upd_same, ?_⟩
    · rw [List.take_add_one, hc, List.filter_append]
      have : (Option.toList (some c)).filter q = [] := by
        show [c].filter q = []
        rw [List.filter_cons, hq, if_neg Bool.false_ne_true]
        rfl
      rw [this, List.append_nil]
      exact Paired.mapP hp fun a b z => hR _ _ _ _ e3.exl z
    · have tu : ExL H4 (L2.upd H4 D (.lst (ys ++ [y]))) := ExL.upd (e4 _ _ hacc)
      rw [List.take_add_one, hc, List.filter_append]
      have : (Option.toList (some c)).filter q = [c] := by
        show [c].filter q = [c]
        rw [List.filter_cons, hq, if_pos rfl]
        rfl
      rw [this]
      exact Paired.snoc (Paired.mapP hp fun a b z => hR _ _ _ _ (e4.exl.trans tu) z) (hR _ _ _ _ tu rz)
  · obtain ⟨e, ys, h, hp⟩ := p
    rw [← hl, List.take_length] at hp
    exact hd D H ys hD e h hp
end
end Fp

namespace Fp
open PySem L2
section
variable {P : Program} {w : World} {K : PySem.W.Frag} {mg : Str → Option Value} {base : Heap} {C_Bag : Addr} {Cs : Addr → Prop}
local macro_rules | `(tactic| walk_at "hp") => `(tactic| first | assumption | rfl)
local macro_rules | `(tactic| walk_at "cond") => `(tactic| first | assumption | decide | omega | (unfold CMul; omega) | (refine ⟨?_, ?_⟩ <;> omega) | (unfold CDiv; omega) | (unfold CPow; omega))
local macro_rules | `(tactic| walk_at "g1") => `(tactic| first
  | with_reducible first
    | refine g_seq ?_ | refine g_asg ?_ | refine g_name ?_ | refine g_ret ?_ | refine g_retN ?_ | refine g_drop ?_ | refine g_ifs ?_
    | refine g_c ?_ | refine g_op ?_ | refine g_un ?_ | refine g_I0 ?_ | refine g_U ?_
    | refine g_test ?_ | refine g_tB ?_ | refine g_bl ?_ | refine g_and ?_ | refine g_or ?_ | refine g_not ?_
    | refine g_andV ?_ | refine g_orV ?_ | refine g_notV ?_ | refine g_if ?_ | refine g_nil ?_ | refine g_cons ?_ | refine g_cb ?_ | refine g_call ?_
    | refine g_lst ?_ | refine g_tup ?_ | refine g_itT ?_ | refine g_itF ?_ | refine g_itNT ?_ | refine g_itNF ?_ | refine g_lc ?_ | refine g_iStr ?_ | refine g_yes ?_ | refine g_exs ?_
    | refine g_chain ?_ | refine g_dget ?_ | refine g_dput ?_ | refine g_dget2 ?_ | refine g_dpop2 ?_ | refine g_fld ?_ | refine g_sfld ?_ | refine g_make ?_ | refine g_meth ?_
    | refine g_bm ?_ | refine g_kw ?_ | refine g_callS ?_ | refine g_revL ?_ | refine g_m1 ?_ | refine g_gsub ?_ | refine g_for ?_ | refine g_iList ?_ | refine g_iTup ?_ | refine g_iRng1 ?_ | refine g_iRng2 ?_ | refine g_sl ?_ | refine g_part ?_ | refine g_noPart ?_
    | refine g_exi ?_ | refine g_exr ?_ | refine g_dnew ?_ | refine g_disp ?_ | refine g_prs0 ?_ | refine g_prs ?_ | refine g_nxt ?_
  | ((with_reducible refine g_var (v := ?vv) ?gv ?_); (case gv => exact rfl))
  | ((with_reducible refine g_I ?gc ?_); (case gc => walk_at "cond"))
  | ((with_reducible refine g_eq ?ge ?_); (case ge => exact rfl))
  | ((with_reducible refine g_ne ?ge ?_); (case ge => exact rfl))
  | (refine g_ixl (SqL.of (by first | assumption | exact upd_same)) rfl ?_)
  | (refine g_setl (by first | assumption | exact upd_same) rfl ?_)
  | ((with_reducible show (∃ i, [V.int _] = [V.int i] ∧ _) ∨ _); refine Or.inl ⟨_, rfl, ?_⟩)
  | ((with_reducible show ∃ i, [V.int _] = [V.int i] ∧ _); refine ⟨_, rfl, ?_⟩)
  | dsimp only)
local macro_rules | `(tactic| walk_at "go") => `(tactic| repeat (walk_at "g1"))

local macro_rules | `(tactic| walk_at "g1") => `(tactic| with_reducible first | refine g_gcons ?_ | refine g_gnil ?_)

def sp_taken_off : Sp := fun vs H Q _ => ∃ (p : Int) (a b : Addr) (r o : Row) (t : Str) (n : Int), vs = [.int p, .ref a, .ref b, .str t, .int n] ∧ RowAt H a r ∧ RowAt H b o ∧ r.length = o.length ∧ Fit p r ∧ Fit p o ∧ t.length ≤ 1000000 ∧ 0 < p ∧ (-1000000 < n ∧ n < 1000000) ∧
  ∀ t' H', Ex H H' → H t' = none → RowAt H' t' (takeR p r o t n) → Q (.ref t') H'
theorem ok_taken_off {f : Addr} {fd : FuncData} (F : Fun K "taken_off" "taken_off" s_taken_off f fd) (T : Txt K mg C_Bag Cs) (D_added : DefOk P w K mg base CX0 2 "added" ["clock", "one", "other", "factor"] sp_law_plus)
    (D_with_behind : DefOk P w K mg base CX0 1 "with_behind" ["clock", "sparse", "word", "number"] sp_with_behind) : FnOk P w K mg base CX0 3 f fd ["clock", "row", "other", "tail", "number"] sp_taken_off := by
  refine F.ok sc_taken_off (fun vs H Q E h => ?_) (fun cdv A outer s H vs Q E hr h => ?_)
  · obtain ⟨p, a, b, r, o, t, n, rfl, _⟩ := h
    rfl
  · obtain ⟨p, a, b, r, o, t, n, rfl, ha, hb, hlo, fr, fo, htl, hp, hn, k⟩ := h
    obtain ⟨ds, h1, h2⟩ := ha.ex
    obtain ⟨es, h3, h4⟩ := hb.ex
    have l1 := h2.length
    have l2 := h4.length
    have hk := fr.k
    have hu := hu_of hr; have hu64 := L2.Room.units hr; refine ⟨_, (pss_cons (ps_set (i := 5) sc_taken_off.nd rfl (by first | exact Or.inl rfl | exact Or.inr rfl) (pe_callTy (r := rZipV K _) call_zipV (by rfl) T.b_zip (by decide +kernel) (pa_cons (pv 1) (pa_cons (pv 2) pa_nil)))) (pss_one (ps_ret (pe_callTy (r := rTupleZ K) call_tupleZ (by rfl) T.b_tuple (by decide +kernel) (pa_cons (pe_lc (own := [("one", 6), ("two", 7)]) (g := (gTup K 2 (gCons (gName 6) (gCons (gName 7) gNil)))) (tt := tYes) rfl sc_taken_off.nd (pi_zipv (k := 5) rfl (by first | exact Or.inl rfl | exact Or.inr (Or.inl rfl) | exact Or.inr (Or.inr rfl))) (blkOk_by (N := N_taken_off) (sc := defScope s_taken_off) (by decide +kernel)) (fun _ _ _ _ _ => (pg_tup rfl (pgs_cons (pg_name (i := 6) sc_taken_off.nd rfl (by first | exact Or.inl rfl | exact Or.inr rfl)) (pgs_cons (pg_name (i := 7) sc_taken_off.nd rfl (by first | exact Or.inl rfl | exact Or.inr rfl)) pgs_nil)))) (fun _ _ _ _ _ => pts_nil) (fun _ _ _ _ _ => (pe_callD D_added (hr.mono (by decide)) rfl pass0 (pa_cons (pv 0) (pa_cons (pv 6) (pa_cons (pe_callD D_with_behind (hr.mono (by decide)) rfl pass0 (pa_cons (pv 0) (pa_cons (pv 7) (pa_cons (pv 3) (pa_cons pe_int pa_nil))))) (pa_cons (pe_un un_neg (pv 4)) pa_nil))))))) pa_nil))))), ?_⟩; rw [st_taken_off]; (try dsimp only [cxOf]); walk_at "go"
    refine ⟨a, b, _, _, rfl, .inl h1, .inl h3, fun z H1 e1 zv => ?_⟩
    walk_at "go"
    refine ⟨z, a, b, H, rfl, zv, ?_⟩
    refine lc_relP (walk_zipT (n := r.length) (xs := ds.map V.ref) (ys := es.map V.ref) (by rw [List.length_map, List.length_map]; omega)) (r.zip o) (by rw [List.length_zip]; omega) (line5 (by omega)) (fun H' e => ⟨.inl (e.rd h1), .inl (e.rd h3)⟩)
      (fun q y H => ∃ x, y = V.ref x ∧ H x = some (.dK (toK (plusS p q.1 (withB q.2 t) (-n))))) (fun q y H H' e ⟨x, h8, h9⟩ => ⟨x, h8, e _ _ (fun _ z => nomatch z) h9⟩) (fun _ _ => rfl) ?_ ?_
    · rintro i x y q H2 Kc hi e2 hx hy hq hk2
      have hx : (ds.map V.ref)[i]? = some x := hx
      have hy : (es.map V.ref)[i]? = some y := hy
      rw [List.getElem?_map] at hx hy
      cases hd1 : ds[i]? with
      | none => rw [hd1] at hx; cases hx
      | some d1 =>
        cases hd2 : es[i]? with
        | none => rw [hd2] at hy; cases hy
        | some d2 =>
          rw [hd1] at hx
          rw [hd2] at hy
          cases Option.some.inj hx
          cases Option.some.inj hy
          obtain ⟨c1, hc1, x1⟩ := paired_get h2 hd1
          obtain ⟨c2, hc2, x2⟩ := paired_get h4 hd2
          have hq' : q = (c1, c2) := by
            rw [(List.getElem?_zip_eq_some (z := (c1, c2))).mpr ⟨hc1, hc2⟩] at hq
            exact (Option.some.inj hq).symm
          subst hq'
          have g1 := fr.g c1 (List.mem_of_getElem? hc1)
          have g2 := fo.g c2 (List.mem_of_getElem? hc2)
          have n1 := fr.n c1 (List.mem_of_getElem? hc1)
          have n2 := fo.n c2 (List.mem_of_getElem? hc2)
          have w2 := fo.l c2 (List.mem_of_getElem? hc2)
          walk_at "go"
          refine ⟨d2, p, c2, t, 1, rfl, .inl (e2 _ _ x2), g2.nd, by omega, fun u hu => Nat.le_trans (w2 u hu) (by decide), by omega, hp, by decide, fun dw H3 e3 hdw hdw3 => ?_⟩
          rw [withB_one t hp g2] at hdw3
          walk_at "go"
          refine ⟨p, d1, dw, c1, withB c2 t, -n, rfl, .inl (e3 _ _ (e2 _ _ x1)), .inl hdw3, withB_nodup g2.nd, by rw [withB_len]; omega, hp, by omega, fun d3 H4 e4 hd3 hd4 => ?_⟩
          exact hk2 _ _ (e3.trans e4) ⟨d3, rfl, hd4⟩
    · intro D H2 ys hD e2 hD2 hp2
      obtain ⟨xs, rfl, hxs⟩ := paired_refs hp2
      walk_at "go"
      refine ⟨D, _, rfl, SqL.of hD2, fun t' ob ht' ho => ?_⟩
      have e3 : Ex H2 (upd H2 t' (.frz ob (.tup (xs.map V.ref)))) := Ex.new ht'
      refine k t' _ (e2.trans e3) (e2.free ht') ⟨xs, .inr ⟨ob, upd_same⟩, ?_⟩
      exact paired_mapr hxs fun _ _ z => e3 _ _ z
/-- a list of rows -/
structure RowsAt (H : Hp) (ts : List Addr) (B : List Row) : Prop where
  p : Paired (fun t r => RowAt H t r) ts B
theorem RowsAt.ex' {H H' : Hp} {ts : List Addr} {B : List Row} (e : Ex H H') (h : RowsAt H ts B) : RowsAt H' ts B := ⟨Paired.mapP h.p fun _ _ z => z.ex' e⟩
structure Led (p : Int) (m : Nat) (B : List Row) : Prop where
  f : ∀ o ∈ B, Fit p o ∧ leadR o ≠ none ∧ o.length = m
def HitIs (H H' : Hp) (v : V) : Option (Row × Str) → Prop
  | none => v = .non
  | some (o, t) => ∃ q tj, v = .ref q ∧ H q = none ∧ H' q = some (.tup [.ref tj, .str t]) ∧ RowAt H' tj o
def sp_hit_by (K : PySem.W.Frag) : Sp := fun vs H Q _ => ∃ (lb : Addr) (ts : List Addr) (B : List Row) (i : Nat) (w : Str), vs = [.ref lb, .int (i : Nat), .str w] ∧ SqL K H lb (ts.map V.ref) ∧ RowsAt H ts B ∧ (∀ o ∈ B, o.length ≤ 1000 ∧ (∀ b ∈ o, ∀ u ∈ keys b, u.length ≤ 10000000) ∧ leadR o ≠ none) ∧ w.length ≤ 10000000 ∧
  ∀ v H', Ex H H' → HitIs H H' v (hitB B i w) → Q v H'
theorem findSome_at {α β : Type} {f : α → Option β} {l : List α} {i : Nat} {a : α} {b : β} (h : l[i]? = some a) (hf : f a = some b) (hn : ∀ j c, j < i → l[j]? = some c → f c = none) : l.findSome? f = some b := by
  induction l generalizing i with
  | nil => cases h
  | cons x r ih =>
    rw [List.findSome?_cons]
    cases i with
    | zero => cases Option.some.inj h; rw [hf]
    | succ i =>
      rw [hn 0 x (Nat.succ_pos _) rfl]
      exact ih h fun j c hj hc => hn (j + 1) c (Nat.succ_lt_succ hj) hc
theorem ok_hit_by {f : Addr} {fd : FuncData} (F : Fun K "hit_by" "hit_by" s_hit_by f fd) (T : Txt K mg C_Bag Cs) (D_leading : DefOk P w K mg base CX0 5 "leading" ["row"] sp_leading) : FnOk P w K mg base CX0 6 f fd ["base", "at", "word"] (sp_hit_by K) := by
  refine F.ok sc_hit_by (fun vs H Q E h => ?_) (fun cdv A outer s H vs Q E hr h => ?_)
  · obtain ⟨lb, ts, B, i, w, rfl, _⟩ := h
    rfl
  · obtain ⟨lb, ts, B, i, w, rfl, hlb, hts, hB, hw, k⟩ := h
    have hlen := hts.p.length
    have hu := hu_of hr; have hu64 := L2.Room.units hr; refine ⟨_, (pss_cons (ps_for PassesOwn.never rfl (pi_list (pv 0)) (pg_name (i := 3) sc_hit_by.nd rfl (by first | exact Or.inl rfl | exact Or.inr rfl)) (pss_cons (ps_asg (pe_callD D_leading (hr.mono (by decide)) rfl pass0 (pa_cons (pv 3) pa_nil)) (pg_tup rfl (pgs_cons (pg_name (i := 4) sc_hit_by.nd rfl (by first | exact Or.inl rfl | exact Or.inr rfl)) (pgs_cons (pg_name (i := 5) sc_hit_by.nd rfl (by first | exact Or.inl rfl | exact Or.inr rfl)) pgs_nil)))) (pss_one (ps_if (PW.pt (pw_and (pt_cmpR op_eq (pv 4) (pv 1) (nomark _)) (pw_and1 (pt_val (pe_m1 PySem.F.slot_str_startswith PySem.F.type_str_startswith mt_startswith (pv 2) (pv 5)))))) (pss_one (ps_ret (pe_tup (pa_cons (pv 3) (pa_cons (pe_slice sl_str (pv 2) (po_some (pe_callB call_len_str (by rfl) T.b_len (by decide +kernel) (pa_cons (pv 5) pa_nil))) po_none) pa_nil))))) pss_nil)))) (pss_one (ps_ret pe_non))), ?_⟩; rw [st_hit_by]; (try dsimp only [cxOf]); walk_at "go"
    refine ⟨⟨_, hlb⟩, ?_⟩
    refine forG walk_list (fun n σ' H' => (∃ x y z, σ' = [some (.ref lb), some (.int (i : Nat)), some (.str w), x, y, z]) ∧ Ex H H' ∧ ∀ j o, j < n → B[j]? = some o → hitR i w o = none) ⟨⟨none, none, none, rfl⟩, Ex.refl _, fun j o hj => absurd hj (Nat.not_lt_zero _)⟩ (fun n σ' H' _ q => q.2.1.sql hlb) ?_ ?_
    · rintro n x σ' H1 H2 hi ⟨⟨x0, y0, z0, rfl⟩, e1, hj⟩ ⟨rfl, hx⟩
      rw [List.getElem?_map] at hx
      cases hq : ts[n]? with
      | none => rw [hq] at hx; cases hx
      | some t =>
        rw [hq] at hx
        cases Option.some.inj hx
        obtain ⟨o, ho, hto⟩ := paired_get hts.p hq
        obtain ⟨ho1, ho2, ho3⟩ := hB o (List.mem_of_getElem? ho)
        walk_at "go"
        refine ⟨t, o, rfl, hto.ex' e1, ho1, ho2, fun v H3 e3 hv => ?_⟩
        cases hl : leadR o with
        | none => exact absurd hl ho3
        | some z =>
          obtain ⟨j, l⟩ := z
          rw [hl] at hv
          obtain ⟨q, rfl, hq0, hq1⟩ := hv
          have hll : l.length ≤ 10000000 := lead_len_of (z := (j, l)) hl ho2
          refine ⟨q, _, rfl, SqT.of hq1, rfl, ?_⟩
          walk_at "go"
          by_cases hji : j = i
          · subst hji
            rw [decide_eq_true rfl]
            walk_at "go"
            refine ⟨⟨_, rfl⟩, ?_⟩
            walk_at "go"
            refine ⟨_, _, rfl, rfl, ?_⟩
            walk_at "go"
            by_cases hs : Txt.startswith w l = true
            · rw [hs]
              walk_at "go"
              refine ⟨l, rfl, line5 hll, ?_⟩
              walk_at "go"
              refine ⟨w, rfl, line5 hw, ?_⟩
              walk_at "go"
              refine ⟨Nat.le_of_ble_eq_true rfl, fun q2 hq2 => ?_⟩
              have hr : hitR j w o = some (cutS w (some (l.length : Int)) none) := by
                unfold hitR
                rw [hl]
                dsimp only
                rw [if_pos ⟨rfl, hs⟩]
              have e4 := (e1.trans e3).trans (Ex.new (o := .tup [.ref t, .str (cutS w (some (l.length : Int)) none)]) hq2)
              refine k (.ref q2) _ e4 ?_
              rw [show hitB B j w = some (o, cutS w (some (l.length : Int)) none) from findSome_at ho (by rw [hr]; rfl) fun m c hm hc => by rw [hj m c hm hc]; rfl]
              exact ⟨q2, t, rfl, (e1.trans e3).free hq2, upd_same, hto.ex' e4⟩
            · rw [show Txt.startswith w l = false from by cases h9 : Txt.startswith w l with | false => rfl | true => exact absurd h9 hs]
              walk_at "go"
              refine ⟨⟨_, _, _, rfl⟩, e1.trans e3, fun m c hm hc => ?_⟩
              rcases Nat.lt_or_ge m n with h9 | h9
              · exact hj m c h9 hc
              · rw [show m = n from by omega, ho] at hc
                cases Option.some.inj hc
                unfold hitR
                rw [hl]
                dsimp only
                rw [if_neg fun z => hs z.2]
          · rw [decide_eq_false (fun e => hji (by have := V.int.inj e; omega))]
            walk_at "go"
            refine ⟨⟨_, _, _, rfl⟩, e1.trans e3, fun m c hm hc => ?_⟩
            rcases Nat.lt_or_ge m n with h9 | h9
            · exact hj m c h9 hc
            · rw [show m = n from by omega, ho] at hc
              cases Option.some.inj hc
              unfold hitR
              rw [hl]
              dsimp only
              rw [if_neg fun z => hji z.1]
    · rintro σ' H1 ⟨⟨x0, y0, z0, rfl⟩, e1, hj⟩
      walk_at "go"
      refine k .non H1 e1 ?_
      rw [hitB_none.mpr]
      · rfl
      · intro o ho
        obtain ⟨n, hn, he⟩ := List.getElem_of_mem ho
        exact hj n o (by rw [List.length_map, hlen]; exact hn) (by rw [List.getElem?_eq_getElem hn, he])

end
end Fp

namespace Fp
open PySem L2
section
variable {P : Program} {w : World} {K : PySem.W.Frag} {mg : Str → Option Value} {base : Heap} {C_Bag : Addr} {Cs : Addr → Prop}
local macro_rules | `(tactic| walk_at "hp") => `(tactic| first | assumption | rfl)
local macro_rules | `(tactic| walk_at "cond") => `(tactic| first | assumption | decide | omega | (unfold CMul; omega) | (refine ⟨?_, ?_⟩ <;> omega) | (unfold CDiv; omega) | (unfold CPow; omega))
local macro_rules | `(tactic| walk_at "g1") => `(tactic| first
  | with_reducible first
    | refine g_seq ?_ | refine g_asg ?_ | refine g_name ?_ | refine g_ret ?_ | refine g_retN ?_ | refine g_drop ?_ | refine g_ifs ?_
    | refine g_c ?_ | refine g_op ?_ | refine g_un ?_ | refine g_I0 ?_ | refine g_U ?_
    | refine g_test ?_ | refine g_tB ?_ | refine g_bl ?_ | refine g_and ?_ | refine g_or ?_ | refine g_not ?_
    | refine g_andV ?_ | refine g_orV ?_ | refine g_notV ?_ | refine g_if ?_ | refine g_nil ?_ | refine g_cons ?_ | refine g_cb ?_ | refine g_call ?_
    | refine g_lst ?_ | refine g_tup ?_ | refine g_itT ?_ | refine g_itF ?_ | refine g_itNT ?_ | refine g_itNF ?_ | refine g_lc ?_ | refine g_iStr ?_ | refine g_yes ?_ | refine g_exs ?_
    | refine g_chain ?_ | refine g_dget ?_ | refine g_dput ?_ | refine g_dget2 ?_ | refine g_dpop2 ?_ | refine g_fld ?_ | refine g_sfld ?_ | refine g_make ?_ | refine g_meth ?_
    | refine g_bm ?_ | refine g_kw ?_ | refine g_callS ?_ | refine g_revL ?_ | refine g_m1 ?_ | refine g_gsub ?_ | refine g_for ?_ | refine g_iList ?_ | refine g_iTup ?_ | refine g_iRng1 ?_ | refine g_iRng2 ?_ | refine g_sl ?_ | refine g_part ?_ | refine g_noPart ?_
    | refine g_exi ?_ | refine g_exr ?_ | refine g_dnew ?_ | refine g_disp ?_ | refine g_prs0 ?_ | refine g_prs ?_ | refine g_nxt ?_
  | ((with_reducible refine g_var (v := ?vv) ?gv ?_); (case gv => exact rfl))
  | ((with_reducible refine g_I ?gc ?_); (case gc => walk_at "cond"))
  | ((with_reducible refine g_eq ?ge ?_); (case ge => exact rfl))
  | ((with_reducible refine g_ne ?ge ?_); (case ge => exact rfl))
  | (refine g_ixl (SqL.of (by first | assumption | exact upd_same)) rfl ?_)
  | (refine g_setl (by first | assumption | exact upd_same) rfl ?_)
  | ((with_reducible show (∃ i, [V.int _] = [V.int i] ∧ _) ∨ _); refine Or.inl ⟨_, rfl, ?_⟩)
  | ((with_reducible show ∃ i, [V.int _] = [V.int i] ∧ _); refine ⟨_, rfl, ?_⟩)
  | dsimp only)
local macro_rules | `(tactic| walk_at "go") => `(tactic| repeat (walk_at "g1"))

local macro_rules | `(tactic| walk_at "g1") => `(tactic| with_reducible first | refine g_gcons ?_ | refine g_gnil ?_)

theorem hitW_at {B : List Row} {i : Nat} {ws : List Str} {n : Nat} {w : Str} {o : Row} {t : Str} (h : ws[n]? = some w) (hf : hitB B i w = some (o, t)) (hn : ∀ j c, j < n → ws[j]? = some c → hitB B i c = none) : hitW B i ws = some (w, o, t) :=
  findSome_at h (by rw [hf]; rfl) fun j c hj hc => by rw [hn j c hj hc]; rfl
theorem hitW_none {B : List Row} {i : Nat} {ws : List Str} : hitW B i ws = none ↔ ∀ w ∈ ws, hitB B i w = none := by
  unfold hitW
  rw [List.findSome?_eq_none_iff]
  exact ⟨fun h o ho => by have := h o ho; rwa [Option.map_eq_none_iff] at this, fun h o ho => by rw [h o ho]; rfl⟩
theorem hitF_at {B : List Row} {r : Row} : ∀ {k i : Nat} {b : Bg} {w : Str} {o : Row} {t : Str}, r[i]? = some b → hitW B (k + i) (ordW (keys b)) = some (w, o, t) → (∀ j c, j < i → r[j]? = some c → hitW B (k + j) (ordW (keys c)) = none) → hitF B k r = some (k + i, w, o, t) := by
  induction r with
  | nil => intro k i b w o t h; cases h
  | cons x r ih =>
    intro k i b w o t h hf hn
    unfold hitF
    cases i with
    | zero =>
      cases Option.some.inj h
      rw [show hitW B k (ordW (keys x)) = some (w, o, t) from hf]
      rfl
    | succ i =>
      rw [show hitW B k (ordW (keys x)) = none from hn 0 x (Nat.succ_pos _) rfl]
      have := ih (k := k + 1) (i := i) (b := b) (w := w) (o := o) (t := t) h (by rw [show k + 1 + i = k + (i + 1) from by omega]; exact hf) fun j c hj hc => by
        rw [show k + 1 + j = k + (j + 1) from by omega]; exact hn (j + 1) c (by omega) hc
      show hitF B (k + 1) r = _
      rw [this, show k + 1 + i = k + (i + 1) from by omega]
theorem hitF_none {B : List Row} {r : Row} : ∀ {k : Nat}, (∀ i b, r[i]? = some b → hitW B (k + i) (ordW (keys b)) = none) → hitF B k r = none := by
  induction r with
  | nil => intro k _; rfl
  | cons x r ih =>
    intro k h
    unfold hitF
    rw [show hitW B k (ordW (keys x)) = none from h 0 x rfl]
    exact ih (k := k + 1) fun i b hi => by rw [show k + 1 + i = k + (i + 1) from by omega]; exact h (i + 1) b hi
def FirstIs (H H' : Hp) (v : V) : Option (Nat × Str × Row × Str) → Prop
  | none => v = .non
  | some (i, w, o, t) => ∃ q tj, v = .ref q ∧ H' q = some (.tup [.int (i : Nat), .str w, .ref tj, .str t]) ∧ RowAt H' tj o
def sp_first_hit (K : PySem.W.Frag) : Sp := fun vs H Q _ => ∃ (lb tr : Addr) (ts : List Addr) (B : List Row) (p : Int) (r : Row), vs = [.ref lb, .ref tr] ∧ SqL K H lb (ts.map V.ref) ∧ RowsAt H ts B ∧ (∀ o ∈ B, o.length ≤ 1000 ∧ (∀ b ∈ o, ∀ u ∈ keys b, u.length ≤ 10000000) ∧ leadR o ≠ none) ∧ RowAt H tr r ∧ Fit p r ∧
  ∀ v H', Ex H H' → FirstIs H H' v (hitF B 0 r) → Q v H'
theorem ok_first_hit {f : Addr} {fd : FuncData} (F : Fun K "first_hit" "first_hit" s_first_hit f fd) (T : Txt K mg C_Bag Cs) (D_hit_by : DefOk P w K mg base CX0 6 "hit_by" ["base", "at", "word"] (sp_hit_by K)) (KF : KeyFn K mg) : FnOk P w K mg base CX0 7 f fd ["base", "row"] (sp_first_hit K) := by
  refine F.ok sc_first_hit (fun vs H Q E h => ?_) (fun cdv A outer s H vs Q E hr h => ?_)
  · obtain ⟨lb, tr, ts, B, p, r, rfl, _⟩ := h
    rfl
  · obtain ⟨lb, tr, ts, B, p, r, rfl, hlb, hts, hB, htr, hf, k⟩ := h
    obtain ⟨f_ahead_key, fd_ahead_key, F_ahead_key, M_ahead_key, B_ahead_key⟩ := KF.ex
    obtain ⟨ds, h1, h2⟩ := htr.ex
    have hlen := h2.length
    have hu := hu_of hr; have hu64 := L2.Room.units hr; refine ⟨_, (pss_cons (ps_for PassesOwn.never rfl (pi_enumT rfl T.b_enumerate (pa_cons (pv 1) pa_nil)) (pg_tup rfl (pgs_cons (pg_name (i := 2) sc_first_hit.nd rfl (by first | exact Or.inl rfl | exact Or.inr rfl)) (pgs_cons (pg_name (i := 3) sc_first_hit.nd rfl (by first | exact Or.inl rfl | exact Or.inr rfl)) pgs_nil))) (pss_one (ps_for PassesOwn.never rfl (pi_list (pe_callBK (cr_sortedKey F_ahead_key sc_ahead_key rfl rfl rfl rfl B_ahead_key T.b_len (hr.mono (by decide))) (by rfl) T.b_sorted (by decide +kernel) (pa_cons (pe_callTy (call_listD rfl) (by rfl) T.b_list (by decide +kernel) (pa_cons (pv 3) pa_nil)) pa_nil) (pk_cons (pe_glob (v := .ref f_ahead_key) rfl M_ahead_key rfl) pk_nil))) (pg_name (i := 4) sc_first_hit.nd rfl (by first | exact Or.inl rfl | exact Or.inr rfl)) (pss_cons (ps_set (i := 5) sc_first_hit.nd rfl (by first | exact Or.inl rfl | exact Or.inr rfl) (pe_callD D_hit_by (hr.mono (by decide)) rfl pass0 (pa_cons (pv 0) (pa_cons (pv 2) (pa_cons (pv 4) pa_nil))))) (pss_one (ps_if (pt_cmpR op_notN (pv 5) pe_non (nomark _)) (pss_one (ps_ret (pe_op op_catA (pe_tup (pa_cons (pv 2) (pa_cons (pv 4) pa_nil))) (pv 5)))) pss_nil)))))) (pss_one (ps_ret pe_non))), ?_⟩; rw [st_first_hit]; (try dsimp only [cxOf]); walk_at "go"
    refine ⟨_, rfl, tr, _, rfl, .inl h1, ?_⟩
    refine forG (walk_enumT (xs := ds.map V.ref)) (fun i σ' H' => (∃ x y z u, σ' = [some (.ref lb), some (.ref tr), x, y, z, u]) ∧ Ex H H' ∧ ∀ j c, j < i → r[j]? = some c → hitW B (0 + j) (ordW (keys c)) = none) ⟨⟨none, none, none, none, rfl⟩, Ex.refl _, fun j c hj => absurd hj (Nat.not_lt_zero _)⟩ (fun i σ' H' _ q => .inl (q.2.1.rd h1)) ?_ ?_
    · rintro i x σ' H1 H2 hi ⟨⟨x0, y0, z0, u0, rfl⟩, e1, hj⟩ ⟨T', x1, y1, rfl, hT, rfl, hx1, hy1⟩
      cases Option.some.inj hx1
      have hy1 : (ds.map V.ref)[i]? = some y1 := hy1
      rw [List.getElem?_map] at hy1
      cases hq : ds[i]? with
      | none => rw [hq] at hy1; cases hy1
      | some q =>
        rw [hq] at hy1
        cases Option.some.inj hy1
        obtain ⟨b, hb, hqb⟩ := paired_get h2 hq
        have wb := hf.l b (List.mem_of_getElem? hb)
        have eT : Ex H1 (upd H1 T' (.tup [.int (i : Nat), .ref q])) := Ex.new hT
        have hq2 := eT _ _ (e1 _ _ hqb)
        walk_at "go"
        refine ⟨T', _, rfl, SqT.of upd_same, rfl, ?_⟩
        walk_at "go"
        generalize upd H1 T' (.tup [.int (i : Nat), .ref q]) = H2 at eT hq2 ⊢
        refine ⟨q, toK b, rfl, .inl hq2, fun p1 hp1 => ?_⟩
        rw [toK_keys]
        walk_at "go"
        refine ⟨p1, keys b, rfl, rfl, SqL.of upd_same, fun w hw' => line5 (Nat.le_trans (wb w hw') (by decide)), fun q1 hq1 => ?_⟩
        have e3 : Ex H2 (upd (upd H2 p1 (.lst ((keys b).map V.str))) q1 (.lst ((ordW (keys b)).map V.str))) := (Ex.new hp1).trans (Ex.new hq1)
        have hq1s := upd_same (H := upd H2 p1 (.lst ((keys b).map V.str))) (a := q1) (o := .lst ((ordW (keys b)).map V.str))
        generalize upd (upd H2 p1 (.lst ((keys b).map V.str))) q1 (.lst ((ordW (keys b)).map V.str)) = H3 at e3 hq1s ⊢
        have e13 := (e1.trans eT).trans e3
        refine ⟨q1, rfl, ⟨_, SqL.of hq1s⟩, ?_⟩
        refine forG walk_list (fun n σ' H' => (∃ x y, σ' = [some (.ref lb), some (.ref tr), some (.int (i : Nat)), some (.ref q), x, y]) ∧ Ex H3 H' ∧ ∀ j c, j < n → (ordW (keys b))[j]? = some c → hitB B i c = none) ⟨⟨_, _, rfl⟩, Ex.refl _, fun j c hj => absurd hj (Nat.not_lt_zero _)⟩ (fun n σ' H' _ q => SqL.of (q.2.1 _ _ hq1s)) ?_ ?_
        · rintro n x σ' H4 H4' hi4 ⟨⟨x4, y4, rfl⟩, e4, hj4⟩ ⟨rfl, hx⟩
          rw [List.getElem?_map] at hx
          cases hw4 : (ordW (keys b))[n]? with
          | none => rw [hw4] at hx; cases hx
          | some w4 =>
            rw [hw4] at hx
            cases Option.some.inj hx
            have hwm : w4 ∈ keys b := (ordW_perm (keys b)).mem_iff.mp (List.mem_of_getElem? hw4)
            walk_at "go"
            refine ⟨lb, ts, B, i, w4, rfl, (e13.trans e4).sql hlb, hts.ex' (e13.trans e4), hB, Nat.le_trans (wb w4 hwm) (by decide), fun v H5 e5 hv => ?_⟩
            cases hh : hitB B i w4 with
            | none =>
              rw [hh] at hv
              cases (show v = .non from hv)
              walk_at "go"
              refine ⟨rfl, ?_⟩
              rw [decide_eq_true rfl]
              walk_at "go"
              refine ⟨⟨_, _, rfl⟩, e4.trans e5, fun j c hj' hc => ?_⟩
              rcases Nat.lt_or_ge j n with h9 | h9
              · exact hj4 j c h9 hc
              · rw [show j = n from by omega, hw4] at hc
                cases Option.some.inj hc
                exact hh
            | some z =>
              obtain ⟨o, t⟩ := z
              rw [hh] at hv
              obtain ⟨qh, tj, rfl, hq0, hq5, hrow⟩ := hv
              walk_at "go"
              refine ⟨rfl, ?_⟩
              rw [decide_eq_false (fun z => nomatch z)]
              walk_at "go"
              refine ⟨Nat.le_of_ble_eq_true rfl, fun q2 hq2 => ?_⟩
              have e6 : Ex H5 (upd H5 q2 (.tup [.int (i : Nat), .str w4])) := Ex.new hq2
              have hq2s := upd_same (H := H5) (a := q2) (o := .tup [.int (i : Nat), .str w4])
              generalize upd H5 q2 (.tup [.int (i : Nat), .str w4]) = H6 at e6 hq2s ⊢
              walk_at "go"
              refine ⟨q2, qh, _, _, rfl, rfl, SqT.of hq2s, SqT.of (e6 _ _ hq5), Nat.le_of_ble_eq_true rfl, fun z => absurd z (List.cons_ne_nil _ _), fun _ z => absurd z (List.cons_ne_nil _ _), fun _ _ q3 hq3 => ?_⟩
              have e7 : Ex H6 (upd H6 q3 (.tup ([.int (i : Nat), .str w4] ++ [.ref tj, .str t]))) := Ex.new hq3
              refine k (.ref q3) _ (e13.trans (e4.trans (e5.trans (e6.trans e7)))) ?_
              have hW : hitW B (0 + i) (ordW (keys b)) = some (w4, o, t) := by
                rw [Nat.zero_add]
                exact hitW_at hw4 hh hj4
              rw [hitF_at hb hW hj, Nat.zero_add]
              exact ⟨q3, tj, rfl, upd_same, hrow.ex' (e6.trans e7)⟩
        · rintro σ' H4 ⟨⟨x4, y4, rfl⟩, e4, hj4⟩
          walk_at "go"
          refine ⟨⟨_, _, _, _, rfl⟩, e13.trans e4, fun j c hj' hc => ?_⟩
          rcases Nat.lt_or_ge j i with h9 | h9
          · exact hj j c h9 hc
          · rw [show j = i from by omega, hb] at hc
            cases Option.some.inj hc
            rw [show j = i from by omega, Nat.zero_add, hitW_none]
            intro w hw
            obtain ⟨n, hn, he⟩ := List.getElem_of_mem hw
            exact hj4 n w (by rw [List.length_map]; exact hn) (by rw [List.getElem?_eq_getElem hn, he])
    · rintro σ' H1 ⟨⟨x0, y0, z0, u0, rfl⟩, e1, hj⟩
      walk_at "go"
      refine k .non H1 e1 ?_
      rw [hitF_none]
      · rfl
      · intro i b hb
        exact hj i b (by rw [List.length_map, hlen]; exact (List.getElem?_eq_some_iff.mp hb).1) hb

end
end Fp

namespace Fp
open PySem L2
section
variable {P : Program} {w : World} {K : PySem.W.Frag} {mg : Str → Option Value} {base : Heap} {C_Bag : Addr} {Cs : Addr → Prop}
local macro_rules | `(tactic| walk_at "hp") => `(tactic| first | assumption | rfl)
local macro_rules | `(tactic| walk_at "cond") => `(tactic| first | assumption | decide | omega | (unfold CMul; omega) | (refine ⟨?_, ?_⟩ <;> omega) | (unfold CDiv; omega) | (unfold CPow; omega))
local macro_rules | `(tactic| walk_at "g1") => `(tactic| first
  | with_reducible first
    | refine g_seq ?_ | refine g_asg ?_ | refine g_name ?_ | refine g_ret ?_ | refine g_retN ?_ | refine g_drop ?_ | refine g_ifs ?_
    | refine g_c ?_ | refine g_op ?_ | refine g_un ?_ | refine g_I0 ?_ | refine g_U ?_
    | refine g_test ?_ | refine g_tB ?_ | refine g_bl ?_ | refine g_and ?_ | refine g_or ?_ | refine g_not ?_
    | refine g_andV ?_ | refine g_orV ?_ | refine g_notV ?_ | refine g_if ?_ | refine g_nil ?_ | refine g_cons ?_ | refine g_cb ?_ | refine g_call ?_
    | refine g_lst ?_ | refine g_tup ?_ | refine g_itT ?_ | refine g_itF ?_ | refine g_itNT ?_ | refine g_itNF ?_ | refine g_lc ?_ | refine g_iStr ?_ | refine g_yes ?_ | refine g_exs ?_
    | refine g_chain ?_ | refine g_dget ?_ | refine g_dput ?_ | refine g_dget2 ?_ | refine g_dpop2 ?_ | refine g_fld ?_ | refine g_sfld ?_ | refine g_make ?_ | refine g_meth ?_
    | refine g_bm ?_ | refine g_kw ?_ | refine g_callS ?_ | refine g_revL ?_ | refine g_m1 ?_ | refine g_gsub ?_ | refine g_for ?_ | refine g_iList ?_ | refine g_iTup ?_ | refine g_iRng1 ?_ | refine g_iRng2 ?_ | refine g_sl ?_ | refine g_part ?_ | refine g_noPart ?_
    | refine g_exi ?_ | refine g_exr ?_ | refine g_dnew ?_ | refine g_disp ?_ | refine g_prs0 ?_ | refine g_prs ?_ | refine g_nxt ?_
  | ((with_reducible refine g_var (v := ?vv) ?gv ?_); (case gv => exact rfl))
  | ((with_reducible refine g_I ?gc ?_); (case gc => walk_at "cond"))
  | ((with_reducible refine g_eq ?ge ?_); (case ge => exact rfl))
  | ((with_reducible refine g_ne ?ge ?_); (case ge => exact rfl))
  | (refine g_ixl (SqL.of (by first | assumption | exact upd_same)) rfl ?_)
  | (refine g_setl (by first | assumption | exact upd_same) rfl ?_)
  | ((with_reducible show (∃ i, [V.int _] = [V.int i] ∧ _) ∨ _); refine Or.inl ⟨_, rfl, ?_⟩)
  | ((with_reducible show ∃ i, [V.int _] = [V.int i] ∧ _); refine ⟨_, rfl, ?_⟩)
  | dsimp only)
local macro_rules | `(tactic| walk_at "go") => `(tactic| repeat (walk_at "g1"))

local macro_rules | `(tactic| walk_at "g1") => `(tactic| with_reducible first | refine g_gcons ?_ | refine g_gnil ?_)

theorem LedR.hit {p : Int} {m : Nat} {B : List Row} (h : LedR p m B) : ∀ o ∈ B, o.length ≤ 1000 ∧ (∀ b ∈ o, ∀ u ∈ keys b, u.length ≤ 10000000) ∧ leadR o ≠ none := fun o ho =>
  ⟨(h.f o ho).1.k, fun b hb u hu => Nat.le_trans ((h.f o ho).1.l b hb u hu) (by decide), (h.f o ho).2.1⟩
theorem hitF_some {B : List Row} {r : Row} : ∀ {k i : Nat} {w : Str} {o : Row} {t : Str}, hitF B k r = some (i, w, o, t) → ∃ j b, i = k + j ∧ r[j]? = some b ∧ w ∈ keys b ∧ hitB B i w = some (o, t) := by
  induction r with
  | nil => intro k i w o t h; cases h
  | cons x r ih =>
    intro k i w o t h
    unfold hitF at h
    cases hw : hitW B k (ordW (keys x)) with
    | none =>
      rw [hw] at h
      obtain ⟨j, b, h1, h2, h3, h4⟩ := ih (k := k + 1) h
      exact ⟨j + 1, b, by omega, h2, h3, h4⟩
    | some z =>
      obtain ⟨w', o', t'⟩ := z
      rw [hw] at h
      cases Option.some.inj h
      unfold hitW at hw
      obtain ⟨a, ha, e⟩ := List.exists_of_findSome?_eq_some hw
      cases h9 : hitB B k a with
      | none => rw [h9] at e; cases e
      | some q =>
        rw [h9] at e
        cases Option.some.inj e
        exact ⟨0, x, rfl, rfl, (ordW_perm _).mem_iff.mp ha, h9⟩
def sp_reduced (K : PySem.W.Frag) : Sp := fun vs H Q _ => ∃ (p : Int) (lb tr : Addr) (ts : List Addr) (B : List Row) (r r' : Row) (m n : Nat), vs = [.int p, .ref lb, .ref tr] ∧ SqL K H lb (ts.map V.ref) ∧ RowsAt H ts B ∧ LedR p m B ∧ RowAt H tr r ∧ Fit p r ∧ r.length = m ∧ RedN p B n r r' ∧ 0 < p ∧ p ≤ 1000 ∧
  ∀ t' H', Ex H H' → RowAt H' t' r' → Q (.ref t') H'
theorem ok_reduced {f : Addr} {fd : FuncData} (F : Fun K "reduced" "reduced" s_reduced f fd) (T : Txt K mg C_Bag Cs) (D_first_hit : DefOk P w K mg base CX0 7 "first_hit" ["base", "row"] (sp_first_hit K)) (D_taken_off : DefOk P w K mg base CX0 3 "taken_off" ["clock", "row", "other", "tail", "number"] sp_taken_off) : FnOk P w K mg base CX0 8 f fd ["clock", "base", "row"] (sp_reduced K) := by
  refine F.ok sc_reduced (fun vs H Q E h => ?_) (fun cdv A outer s H vs Q E hr h => ?_)
  · obtain ⟨p, lb, tr, ts, B, r, r', m, n, rfl, _⟩ := h
    rfl
  · obtain ⟨p, lb, tr, ts, B, r, r', m, n, rfl, hlb, hts, hB, htr, hf, hm, hred, hp, hp1, k⟩ := h
    have hu := hu_of hr; have hu64 := L2.Room.units hr; refine ⟨_, (pss_one (ps_while PassesOwn.never (pt_val pe_bl) (pss_cons (ps_set (i := 3) sc_reduced.nd rfl (by first | exact Or.inl rfl | exact Or.inr rfl) (pe_callD D_first_hit (hr.mono (by decide)) rfl pass0 (pa_cons (pv 1) (pa_cons (pv 2) pa_nil)))) (pss_cons (ps_if (pt_cmpR op_isN (pv 3) pe_non (nomark _)) (pss_one (ps_ret (pv 2))) pss_nil) (pss_cons (ps_asg (pv 3) (pg_tup rfl (pgs_cons (pg_name (i := 4) sc_reduced.nd rfl (by first | exact Or.inl rfl | exact Or.inr rfl)) (pgs_cons (pg_name (i := 5) sc_reduced.nd rfl (by first | exact Or.inl rfl | exact Or.inr rfl)) (pgs_cons (pg_name (i := 6) sc_reduced.nd rfl (by first | exact Or.inl rfl | exact Or.inr rfl)) (pgs_cons (pg_name (i := 7) sc_reduced.nd rfl (by first | exact Or.inl rfl | exact Or.inr rfl)) pgs_nil)))))) (pss_one (ps_set (i := 2) sc_reduced.nd rfl (by first | exact Or.inl rfl | exact Or.inr rfl) (pe_callD D_taken_off (hr.mono (by decide)) rfl pass0 (pa_cons (pv 0) (pa_cons (pv 2) (pa_cons (pv 6) (pa_cons (pv 7) (pa_cons (pe_dget hu (pe_ix (r := rIxT K) ix_tup (pv 2) (pv 4) (fun _ _ => rfl)) (pv 5) (fun _ _ => rfl)) pa_nil))))))))))))), ?_⟩; rw [st_reduced]; (try dsimp only [cxOf])
    refine g_while (fun n σ' H' => ∃ (t1 : Addr) (r1 : Row) (x y z u v : Option V), σ' = [some (.int p), some (.ref lb), some (.ref t1), x, y, z, u, v] ∧ Ex H H' ∧ RowAt H' t1 r1 ∧ Fit p r1 ∧ r1.length = m ∧ RedN p B n r1 r') n ⟨tr, r, none, none, none, none, none, rfl, Ex.refl _, htr, hf, hm, hred⟩ ?_
    rintro n1 σ' H1 ⟨t1, r1, x, y, z, u, v, rfl, e1, ht1, hf1, hm1, hred1⟩
    walk_at "go"
    refine ⟨fun σ' H' => ∃ n2, n2 < n1 ∧ ∃ (t1 : Addr) (r1 : Row) (x y z u v : Option V), σ' = [some (.int p), some (.ref lb), some (.ref t1), x, y, z, u, v] ∧ Ex H H' ∧ RowAt H' t1 r1 ∧ Fit p r1 ∧ r1.length = m ∧ RedN p B n2 r1 r', fun _ _ z => z, ?_⟩
    walk_at "go"
    refine ⟨lb, t1, ts, B, p, r1, rfl, e1.sql hlb, hts.ex' e1, hB.hit, ht1, hf1, fun v1 H2 e2 hv => ?_⟩
    cases hred1 with
    | stop h0 =>
      rw [h0] at hv
      cases (show v1 = .non from hv)
      walk_at "go"
      refine ⟨rfl, ?_⟩
      rw [decide_eq_true rfl]
      walk_at "go"
      exact k t1 H2 (e1.trans e2) (ht1.ex' e2)
    | @step n2 _ o _ i w t h0 hfit hr2 =>
      rw [h0] at hv
      obtain ⟨q, tj, rfl, hq, hrow⟩ := hv
      obtain ⟨j, b, hji, hb, hwb, hh⟩ := hitF_some h0
      rw [Nat.zero_add] at hji
      subst hji
      obtain ⟨ho, hho⟩ := hitB_some hh
      obtain ⟨hof, hol, hom⟩ := hB.f o ho
      obtain ⟨l, hl1, hl2⟩ := hitR_some hho
      walk_at "go"
      refine ⟨rfl, ?_⟩
      rw [decide_eq_false (fun z => nomatch z)]
      walk_at "go"
      refine ⟨q, _, rfl, SqT.of hq, rfl, ?_⟩
      walk_at "go"
      obtain ⟨ds, h1, h2⟩ := (ht1.ex' e2).ex
      have hlen := h2.length
      obtain ⟨hba, hbm⟩ := atR_mem hb
      have gb := hf1.g b hbm
      obtain ⟨d, hd⟩ : ∃ d, ds[i]? = some d := by
        have := (List.getElem?_eq_some_iff.mp hb).1
        exact ⟨_, List.getElem?_eq_getElem (by omega : i < ds.length)⟩
      obtain ⟨b', hb', hdb⟩ := paired_get h2 hd
      rw [hb] at hb'
      cases Option.some.inj hb'
      refine g_ixt (v := .ref d) (.inl h1) (atI_get (by omega) (by rw [show ((i : Nat) : Int).toNat = i from by omega, List.getElem?_map, hd]; rfl)) ?_
      walk_at "go"
      obtain ⟨nn, hnn⟩ := mem_keys.mp hwb
      have hcf := cf_of_mem gb.nd hnn
      have c0 := gb.lo _ hnn
      have c1 := gb.hi _ hnn
      dsimp only at c0 c1
      refine g_dg (.inl hdb) (getS_of_mem gb.nd hnn) ?_
      walk_at "go"
      have hwl := hf1.l b hbm w hwb
      have htl : t.length ≤ 1000000 := by rw [hl2, len_app] at hwl; omega
      refine ⟨p, t1, tj, r1, o, t, nn, rfl, ht1.ex' e2, hrow, by omega, hf1, hof, htl, hp, by omega, fun t2 H3 e3 _ ht2 => ?_⟩
      walk_at "go"
      rw [hba, hcf] at hfit hr2
      exact ⟨n2, Nat.lt_succ_self _, t2, _, _, _, _, _, _, rfl, (e1.trans e2).trans e3, ht2, hfit, by rw [takeR_len (by omega)]; exact hm1, hr2⟩

end
end Fp

namespace Fp
open PySem L2
section
variable {P : Program} {w : World} {K : PySem.W.Frag} {mg : Str → Option Value} {base : Heap} {C_Bag : Addr} {Cs : Addr → Prop}
local macro_rules | `(tactic| walk_at "hp") => `(tactic| first | assumption | rfl)
local macro_rules | `(tactic| walk_at "cond") => `(tactic| first | assumption | decide | omega | (unfold CMul; omega) | (refine ⟨?_, ?_⟩ <;> omega) | (unfold CDiv; omega) | (unfold CPow; omega))
local macro_rules | `(tactic| walk_at "g1") => `(tactic| first
  | with_reducible first
    | refine g_seq ?_ | refine g_asg ?_ | refine g_name ?_ | refine g_ret ?_ | refine g_retN ?_ | refine g_drop ?_ | refine g_ifs ?_
    | refine g_c ?_ | refine g_op ?_ | refine g_un ?_ | refine g_I0 ?_ | refine g_U ?_
    | refine g_test ?_ | refine g_tB ?_ | refine g_bl ?_ | refine g_and ?_ | refine g_or ?_ | refine g_not ?_
    | refine g_andV ?_ | refine g_orV ?_ | refine g_notV ?_ | refine g_if ?_ | refine g_nil ?_ | refine g_cons ?_ | refine g_cb ?_ | refine g_call ?_
    | refine g_lst ?_ | refine g_tup ?_ | refine g_itT ?_ | refine g_itF ?_ | refine g_itNT ?_ | refine g_itNF ?_ | refine g_lc ?_ | refine g_iStr ?_ | refine g_yes ?_ | refine g_exs ?_
    | refine g_chain ?_ | refine g_dget ?_ | refine g_dput ?_ | refine g_dget2 ?_ | refine g_dpop2 ?_ | refine g_fld ?_ | refine g_sfld ?_ | refine g_make ?_ | refine g_meth ?_
    | refine g_bm ?_ | refine g_kw ?_ | refine g_callS ?_ | refine g_revL ?_ | refine g_m1 ?_ | refine g_gsub ?_ | refine g_for ?_ | refine g_iList ?_ | refine g_iTup ?_ | refine g_iRng1 ?_ | refine g_iRng2 ?_ | refine g_sl ?_ | refine g_part ?_ | refine g_noPart ?_
    | refine g_exi ?_ | refine g_exr ?_ | refine g_dnew ?_ | refine g_disp ?_ | refine g_prs0 ?_ | refine g_prs ?_ | refine g_nxt ?_
  | ((with_reducible refine g_var (v := ?vv) ?gv ?_); (case gv => exact rfl))
  | ((with_reducible refine g_I ?gc ?_); (case gc => walk_at "cond"))
  | ((with_reducible refine g_eq ?ge ?_); (case ge => exact rfl))
  | ((with_reducible refine g_ne ?ge ?_); (case ge => exact rfl))
  | (refine g_ixl (SqL.of (by first | assumption | exact upd_same)) rfl ?_)
  | (refine g_setl (by first | assumption | exact upd_same) rfl ?_)
  | ((with_reducible show (∃ i, [V.int _] = [V.int i] ∧ _) ∨ _); refine Or.inl ⟨_, rfl, ?_⟩)
  | ((with_reducible show ∃ i, [V.int _] = [V.int i] ∧ _); refine ⟨_, rfl, ?_⟩)
  | dsimp only)
local macro_rules | `(tactic| walk_at "go") => `(tactic| repeat (walk_at "g1"))

local macro_rules | `(tactic| walk_at "g1") => `(tactic| with_reducible first | refine g_gcons ?_ | refine g_gnil ?_)

theorem RowAt.exl {H H' : Hp} {t : Addr} {r : Row} (e : ExL H H') (h : RowAt H t r) : RowAt H' t r := by
  obtain ⟨ds, h1, h2⟩ := h.ex
  refine ⟨ds, ?_, Paired.mapP h2 fun _ _ z => e _ _ (fun _ z => nomatch z) z⟩
  rcases h1 with h1 | ⟨o, h1⟩
  · exact .inl (e _ _ (fun _ z => nomatch z) h1)
  · exact .inr ⟨o, e _ _ (fun _ z => nomatch z) h1⟩
theorem RowsAt.of {H : Hp} {ys : List V} {B : List Row} (h : Paired (fun y o => ∃ t, y = V.ref t ∧ RowAt H t o) ys B) : ∃ ts : List Addr, ys = ts.map V.ref ∧ RowsAt H ts B := by
  obtain ⟨ts, h1, h2⟩ := paired_refs h
  exact ⟨ts, h1, ⟨h2⟩⟩
theorem RowsAt.exl {H H' : Hp} {ts : List Addr} {B : List Row} (e : ExL H H') (h : RowsAt H ts B) : RowsAt H' ts B := ⟨Paired.mapP h.p fun _ _ z => z.exl e⟩
theorem RowsAt.snoc {H : Hp} {ts : List Addr} {B : List Row} {t : Addr} {r : Row} (h : RowsAt H ts B) (ht : RowAt H t r) : RowsAt H (ts ++ [t]) (B ++ [r]) := ⟨Paired.snoc h.p ht⟩
theorem RowsAt.app {H : Hp} {ts us : List Addr} {B C : List Row} (h : RowsAt H ts B) (h2 : RowsAt H us C) : RowsAt H (ts ++ us) (B ++ C) := ⟨paired_app h.p h2.p⟩
theorem paired_split {α β : Type} {F : α → β → Prop} {xs : List α} {ys : List β} {y : β} (h : Paired F xs (ys ++ [y])) : ∃ zs z, xs = zs ++ [z] ∧ Paired F zs ys ∧ F z y := by
  induction ys generalizing xs with
  | nil =>
    cases h with
    | cons h1 t =>
      cases t
      exact ⟨[], _, rfl, .nil, h1⟩
  | cons a r ih =>
    cases h with
    | cons h1 t =>
      obtain ⟨zs, z, rfl, h2, h3⟩ := ih t
      exact ⟨_ :: zs, z, rfl, .cons h1 h2, h3⟩
theorem LedR.app {p : Int} {m : Nat} {B C : List Row} (h : LedR p m B) (h2 : LedR p m C) : LedR p m (B ++ C) := ⟨fun o ho => (List.mem_append.mp ho).elim (h.f o) (h2.f o)⟩
theorem LedR.one {p : Int} {m : Nat} {r : Row} (h1 : Fit p r) (h2 : leadR r ≠ none) (h3 : r.length = m) : LedR p m [r] := ⟨fun o ho => by rw [List.mem_singleton.mp ho]; exact ⟨h1, h2, h3⟩⟩
theorem LedR.left {p : Int} {m : Nat} {B C : List Row} (h : LedR p m (B ++ C)) : LedR p m B := ⟨fun o ho => h.f o (List.mem_append_left _ ho)⟩
theorem LedR.sub {p : Int} {m : Nat} {B C : List Row} (h : LedR p m B) (hs : ∀ o ∈ C, o ∈ B) : LedR p m C := ⟨fun o ho => h.f o (hs o ho)⟩
def sp_led_free (K : PySem.W.Frag) : Sp := fun vs H Q _ => ∃ (p : Int) (lr : Addr) (ts : List Addr) (rows res : List Row) (m n : Nat), vs = [.int p, .ref lr] ∧ SqL K H lr (ts.map V.ref) ∧ RowsAt H ts rows ∧ (∀ r ∈ rows, Fit p r ∧ r.length = m) ∧ rows.length ≤ 1000 ∧ LedN p n (rows.filter fun r => !idleR r) [] res ∧ Prm p ∧
  ∀ l us H', Ex H H' → H l = none → H' l = some (.lst (us.map V.ref)) → RowsAt H' us res → LedR p m res → res.length ≤ 1000 → Q (.ref l) H'
def LedS (K : PySem.W.Frag) (p : Int) (m : Nat) (lr : Addr) (res : List Row) (H : Hp) (n : Nat) : St → Hp → Prop := fun σ' H' => ∃ (lf lt : Addr) (tfs tts : List Addr) (found todo : List Row) (x4 x5 x6 x7 x8 x9 : Option V), σ' = [some (.int p), some (.ref lr), some (.ref lf), some (.ref lt), x4, x5, x6, x7, x8, x9] ∧ Ex H H' ∧ H lf = none ∧ H lt = none ∧ lf ≠ lt ∧
  H' lf = some (.lst (tfs.map V.ref)) ∧ H' lt = some (.lst (tts.map V.ref)) ∧ RowsAt H' tfs found ∧ RowsAt H' tts todo ∧ LedR p m found ∧ LedR p m todo ∧ found.length + todo.length ≤ 1000 ∧ LedN p n todo found res
theorem ok_led_free {f : Addr} {fd : FuncData} (F : Fun K "led_free" "led_free" s_led_free f fd) (T : Txt K mg C_Bag Cs) (D_is_idle : DefOk P w K mg base CX0 1 "is_idle" ["row"] sp_is_idle) (D_leading : DefOk P w K mg base CX0 5 "leading" ["row"] sp_leading)
    (D_hit_by : DefOk P w K mg base CX0 6 "hit_by" ["base", "at", "word"] (sp_hit_by K)) (D_taken_off : DefOk P w K mg base CX0 3 "taken_off" ["clock", "row", "other", "tail", "number"] sp_taken_off)
    (D_made_leading : DefOk P w K mg base CX0 6 "made_leading" ["clock", "row"] sp_made_leading) : FnOk P w K mg base CX0 8 f fd ["clock", "rows"] (sp_led_free K) := by
  refine F.ok sc_led_free (fun vs H Q E h => ?_) (fun cdv A outer s H vs Q E hr h => ?_)
  · obtain ⟨p, lr, ts, rows, res, m, n, rfl, _⟩ := h
    rfl
  · obtain ⟨p, lr, ts, rows, res, m, n, rfl, hlr, hts, hrows, hlen, hled, hp, k⟩ := h
    have hp1 := hp.pos
    have hp0 : 0 < p := by omega
    have hp7 : p ≤ 7 := by rcases hp with rfl | rfl | rfl | rfl <;> decide
    have htl := hts.p.length
    have hu := hu_of hr; have hu64 := L2.Room.units hr; refine ⟨_, (pss_cons (ps_set (i := 2) sc_led_free.nd rfl (by first | exact Or.inl rfl | exact Or.inr rfl) (pe_lst pa_nil)) (pss_cons (ps_setLc (i := 3) (own := [("row", 4)]) (g := (gName 4)) rfl sc_led_free.nd rfl rfl rfl (pi_list (pv 1)) (blkOk_by (N := N_led_free) (sc := defScope s_led_free) (by decide +kernel)) (fun _ _ _ _ _ => (pg_name (i := 4) sc_led_free.nd rfl (by first | exact Or.inl rfl | exact Or.inr rfl))) (fun _ _ _ _ _ => (pts_one (pt_not (pt_val (pe_callD D_is_idle (hr.mono (by decide)) rfl pass0 (pa_cons (pv 4) pa_nil)))))) (fun _ _ _ _ _ => (pv 4))) (pss_cons (ps_while PassesOwn.never (pt_cmpR op_gt (pe_callB call_len_seq (by rfl) T.b_len (by decide +kernel) (pa_cons (pv 3) pa_nil)) pe_int (nomark _)) (pss_cons (ps_set (i := 4) sc_led_free.nd rfl (by first | exact Or.inl rfl | exact Or.inr rfl) (pe_bm0 PySem.F.plainAttrs_list PySem.F.slot_list_pop PySem.F.type_list_pop mt_pop (pv 3))) (pss_cons (ps_asg (pe_callD D_leading (hr.mono (by decide)) rfl pass0 (pa_cons (pv 4) pa_nil)) (pg_tup rfl (pgs_cons (pg_name (i := 5) sc_led_free.nd rfl (by first | exact Or.inl rfl | exact Or.inr rfl)) (pgs_cons (pg_name (i := 6) sc_led_free.nd rfl (by first | exact Or.inl rfl | exact Or.inr rfl)) pgs_nil)))) (pss_cons (ps_set (i := 7) sc_led_free.nd rfl (by first | exact Or.inl rfl | exact Or.inr rfl) (pe_callD D_hit_by (hr.mono (by decide)) rfl pass0 (pa_cons (pv 2) (pa_cons (pv 5) (pa_cons (pv 6) pa_nil))))) (pss_one (ps_if (pt_cmpR op_notN (pv 7) pe_non (nomark _)) (pss_cons (ps_set (i := 4) sc_led_free.nd rfl (by first | exact Or.inl rfl | exact Or.inr rfl) (pe_callD D_taken_off (hr.mono (by decide)) rfl pass0 (pa_cons (pv 0) (pa_cons (pv 4) (pa_cons (pe_ix (r := rIxT K) ix_tup (pv 7) pe_int (fun _ _ => rfl)) (pa_cons (pe_ix (r := rIxT K) ix_tup (pv 7) pe_int (fun _ _ => rfl)) (pa_cons (pe_dget hu (pe_ix (r := rIxT K) ix_tup (pv 4) (pv 5) (fun _ _ => rfl)) (pv 6) (fun _ _ => rfl)) pa_nil))))))) (pss_one (ps_if (pt_not (pt_val (pe_callD D_is_idle (hr.mono (by decide)) rfl pass0 (pa_cons (pv 4) pa_nil)))) (pss_one (ps_expr (pe_bmK (K := K) rfl (pe_bm (r := rAppend) PySem.F.plainAttrs_list PySem.F.slot_list_append PySem.F.type_list_append mt_append (pv 3) (pa_cons (pv 4) pa_nil))))) pss_nil))) (pss_cons (ps_set (i := 4) sc_led_free.nd rfl (by first | exact Or.inl rfl | exact Or.inr rfl) (pe_callD D_made_leading (hr.mono (by decide)) rfl pass0 (pa_cons (pv 0) (pa_cons (pv 4) pa_nil)))) (pss_cons (ps_setLc (i := 8) (own := [("other", 9)]) (g := (gName 9)) rfl sc_led_free.nd rfl rfl rfl (pi_list (pv 2)) (blkOk_by (N := N_led_free) (sc := defScope s_led_free) (by decide +kernel)) (fun _ _ _ _ _ => (pg_name (i := 9) sc_led_free.nd rfl (by first | exact Or.inl rfl | exact Or.inr rfl))) (fun _ _ _ _ _ => (pts_one (pt_cmpR op_notN (pe_callD D_hit_by (hr.mono (by decide)) rfl pass0 (pa_cons (pe_lst (pa_cons (pv 4) pa_nil)) (pa_cons (pe_ix (r := rIxT K) ix_tup (pe_callD D_leading (hr.mono (by decide)) rfl pass0 (pa_cons (pv 9) pa_nil)) pe_int (fun _ _ => rfl)) (pa_cons (pe_ix (r := rIxT K) ix_tup (pe_callD D_leading (hr.mono (by decide)) rfl pass0 (pa_cons (pv 9) pa_nil)) pe_int (fun _ _ => rfl)) pa_nil)))) pe_non (nomark _)))) (fun _ _ _ _ _ => (pv 9))) (pss_cons (ps_setLc (i := 2) (own := [("other", 9)]) (g := (gName 9)) rfl sc_led_free.nd rfl rfl rfl (pi_list (pv 2)) (blkOk_by (N := N_led_free) (sc := defScope s_led_free) (by decide +kernel)) (fun _ _ _ _ _ => (pg_name (i := 9) sc_led_free.nd rfl (by first | exact Or.inl rfl | exact Or.inr rfl))) (fun _ _ _ _ _ => (pts_one (pt_cmpR op_isN (pe_callD D_hit_by (hr.mono (by decide)) rfl pass0 (pa_cons (pe_lst (pa_cons (pv 4) pa_nil)) (pa_cons (pe_ix (r := rIxT K) ix_tup (pe_callD D_leading (hr.mono (by decide)) rfl pass0 (pa_cons (pv 9) pa_nil)) pe_int (fun _ _ => rfl)) (pa_cons (pe_ix (r := rIxT K) ix_tup (pe_callD D_leading (hr.mono (by decide)) rfl pass0 (pa_cons (pv 9) pa_nil)) pe_int (fun _ _ => rfl)) pa_nil)))) pe_non (nomark _)))) (fun _ _ _ _ _ => (pv 9))) (pss_cons (ps_expr (pe_bmK (K := K) rfl (pe_bm (r := rAppend) PySem.F.plainAttrs_list PySem.F.slot_list_append PySem.F.type_list_append mt_append (pv 2) (pa_cons (pv 4) pa_nil)))) (pss_one (ps_expr (pe_bmK (K := K) rfl (pe_bm PySem.F.plainAttrs_list PySem.F.slot_list_extend PySem.F.type_list_extend mt_extend (pv 3) (pa_cons (pv 8) pa_nil))))))))))))))) (pss_one (ps_ret (pv 2)))))), ?_⟩; rw [st_led_free]; (try dsimp only [cxOf]); walk_at "go"
    refine ⟨Nat.le_of_ble_eq_true rfl, fun lf hlf => ?_⟩
    have e1 : Ex H (upd H lf (.lst [])) := Ex.new hlf
    have hlfs := upd_same (H := H) (a := lf) (o := .lst [])
    generalize upd H lf (.lst []) = H1 at e1 hlfs ⊢
    walk_at "go"
    refine ⟨⟨_, e1.sql hlr⟩, ?_⟩
    refine lc_selL walk_list rows (by rw [List.length_map, htl]) (by rw [List.length_map, htl]; exact line5 (by omega)) (fun H' e => (e1.trans e).sql hlr) (fun o y H => ∃ t, y = V.ref t ∧ RowAt H t o) (fun o y H H' e ⟨t, h8, h9⟩ => ⟨t, h8, h9.exl e⟩) (fun r => !idleR r) (fun _ => rfl) ?_ ?_
    · rintro i x r H2 H2' KT KY hi e2 ⟨rfl, hx⟩ hr0 kf kt
      rw [List.getElem?_map] at hx
      cases hq : ts[i]? with
      | none => rw [hq] at hx; cases hx
      | some t =>
        rw [hq] at hx
        cases Option.some.inj hx
        obtain ⟨r', hr', htr⟩ := paired_get hts.p hq
        rw [hr0] at hr'
        cases Option.some.inj hr'
        obtain ⟨hf, hm⟩ := hrows r (List.mem_of_getElem? hr0)
        have ht2 := htr.ex' (e1.trans e2)
        walk_at "go"
        refine ⟨t, r, rfl, ht2, hf.k, fun H3 e3 => ⟨_, rfl, ?_⟩⟩
        cases hid : idleR r with
        | true =>
          rw [hid] at kf
          exact kf rfl H3 e3
        | false =>
          rw [hid] at kt
          exact ⟨_, rfl, kt rfl _ H3 e3 ⟨t, rfl, ht2.ex' e3⟩⟩
    · intro D H2 ys hD e2 hD2 hys
      obtain ⟨tts, rfl, htt⟩ := RowsAt.of hys
      have hDf : lf ≠ D := ne_of_none hlfs hD
      have hL0 : LedR p m (rows.filter fun r => !idleR r) := ⟨fun o ho => by
        obtain ⟨h8, h9⟩ := List.mem_filter.mp ho
        obtain ⟨h10, h11⟩ := hrows o h8
        refine ⟨h10, fun z => ?_, h11⟩
        rw [leadR_none.mp z] at h9
        cases h9⟩
      have hl0 : (rows.filter fun r => !idleR r).length ≤ 1000 := Nat.le_trans (List.length_filter_le _ _) hlen
      walk_at "go"
      refine g_while (LedS K p m lr res H) n ⟨lf, D, [], tts, [], _, none, none, none, none, none, none, rfl, e1.trans e2, hlf, e1.free hD, hDf, e2 _ _ hlfs, hD2, ⟨.nil⟩, htt, ⟨fun o ho => nomatch ho⟩, hL0, by rw [List.length_nil]; omega, hled⟩ ?_
      rintro n1 σ' H3 ⟨lf, lt, tfs, tts, found, todo, x4, x5, x6, x7, x8, x9, rfl, e3, nf, nt, hne, hf3, ht3, rf, rt, Lf, Lt, hsz, hl3⟩
      have lenf := rf.p.length
      have lent := rt.p.length
      walk_at "go"
      refine ⟨lt, _, rfl, .inl (SqL.of ht3), ?_⟩
      walk_at "go"
      rw [List.length_map]
      cases hl3 with
      | stop =>
        have : tts = [] := List.length_eq_zero_iff.mp lent
        subst this
        refine g_iff (decide_eq_false (by simp)) ?_
        walk_at "go"
        exact k lf tfs H3 e3 nf hf3 rf Lf (by have : ([] : List Row).length = 0 := rfl; omega)
      | @hit n2 todo2 _ _ row o i w t hlead hh hfit hnext =>
        obtain ⟨tt2, tr, rfl, rt2, hrow⟩ := paired_split rt.p
        have Lt2 := Lt.left
        obtain ⟨hrf, hrl, hrm⟩ := Lt.f row (List.mem_append_right _ List.mem_cons_self)
        refine g_ift (decide_eq_true (by rw [List.length_append, List.length_singleton]; omega)) ?_
        refine ⟨fun σ' H' => ∃ n', n' < n2 + 1 ∧ LedS K p m lr res H n' σ' H', fun _ _ z => z, ?_⟩
        walk_at "go"
        refine ⟨_, rfl, .inl ⟨rfl, _, SqL.of ht3⟩, lt, _, .ref tr, rfl, rfl, ht3, by rw [List.map_append, List.length_append, List.length_map, List.map_singleton, List.length_singleton, List.getElem?_append_right (by rw [List.length_map]; omega), List.length_map]; simp, ?_⟩
        have hdl : ((tt2 ++ [tr]).map V.ref).dropLast = tt2.map V.ref := by rw [List.map_append, List.map_singleton, List.dropLast_concat]
        rw [hdl]
        have e4 : Ex H (upd H3 lt (.lst (tt2.map V.ref))) := Ex.mut e3 nt
        have x4 : ExL H3 (upd H3 lt (.lst (tt2.map V.ref))) := ExL.upd ht3
        have hf4 : upd H3 lt (.lst (tt2.map V.ref)) lf = some (.lst (tfs.map V.ref)) := by rw [upd_ne hne]; exact hf3
        have ht4 := upd_same (H := H3) (a := lt) (o := .lst (tt2.map V.ref))
        generalize upd H3 lt (.lst (tt2.map V.ref)) = H4 at e4 x4 hf4 ht4 ⊢
        have rf4 := rf.exl x4
        have rt4 : RowsAt H4 tt2 todo2 := RowsAt.exl x4 ⟨rt2⟩
        have hrow4 := hrow.exl x4
        walk_at "go"
        refine ⟨tr, row, rfl, hrow4, hrf.k, fun b hb u hu => Nat.le_trans (hrf.l b hb u hu) (by decide), fun v5 H5 e5 hv5 => ?_⟩
        rw [hlead] at hv5
        obtain ⟨q5, rfl, _, hq5⟩ := hv5
        refine ⟨q5, _, rfl, SqT.of hq5, rfl, ?_⟩
        obtain ⟨c0, c1, b, hb, hba, hbne, hwl, hbm⟩ := lead_cf hp0 hrf.g hlead
        have hw6 := hrf.l b hbm w (by rw [hwl]; exact lead_mem hbne)
        walk_at "go"
        refine ⟨lf, tfs, found, i, w, rfl, SqL.of (e5 _ _ hf4), rf4.ex' e5, Lf.hit, by omega, fun v6 H6 e6 hv6 => ?_⟩
        rw [hh] at hv6
        obtain ⟨q6, tj, rfl, _, hq6, hrowj⟩ := hv6
        walk_at "go"
        refine ⟨rfl, ?_⟩
        rw [decide_eq_false (fun z => nomatch z)]
        walk_at "go"
        refine g_ixt (SqT.of hq6) (v := .ref tj) rfl ?_
        walk_at "go"
        refine g_ixt (SqT.of hq6) (v := .str t) rfl ?_
        walk_at "go"
        have e46 := e5.trans e6
        obtain ⟨ds, h1, h2⟩ := (hrow4.ex' e46).ex
        have hlen2 := h2.length
        obtain ⟨d, hd⟩ : ∃ d, ds[i]? = some d := by
          have := (List.getElem?_eq_some_iff.mp hb).1
          exact ⟨_, List.getElem?_eq_getElem (by omega : i < ds.length)⟩
        obtain ⟨b', hb', hdb⟩ := paired_get h2 hd
        rw [hb] at hb'
        cases Option.some.inj hb'
        refine g_ixt (v := .ref d) (.inl h1) (atI_get (by omega) (by rw [show ((i : Nat) : Int).toNat = i from by omega, List.getElem?_map, hd]; rfl)) ?_
        walk_at "go"
        have gb := hrf.g b hbm
        obtain ⟨nn, hnn⟩ := mem_keys.mp (show w ∈ keys b by rw [hwl]; exact lead_mem hbne)
        have hcf := cf_of_mem gb.nd hnn
        have k0 := gb.lo _ hnn
        have k1 := gb.hi _ hnn
        dsimp only at k0 k1
        refine g_dg (.inl hdb) (getS_of_mem gb.nd hnn) ?_
        walk_at "go"
        obtain ⟨ho, hho⟩ := hitB_some hh
        obtain ⟨hof, hol, hom⟩ := Lf.f o ho
        obtain ⟨l, hl1, hl2⟩ := hitR_some hho
        have htl : t.length ≤ 1000000 := by rw [hl2, len_app] at hw6; omega
        rw [hba, hcf] at hfit hnext
        refine ⟨p, tr, tj, row, o, t, nn, rfl, hrow4.ex' e46, hrowj, by omega, hrf, hof, htl, hp0, by omega, fun t7 H7 e7 ht7n ht7 => ?_⟩
        have e47 := e46.trans e7
        have hlen7 : (takeR p row o t nn).length = m := by rw [takeR_len (by omega)]; exact hrm
        have hk7 := hfit.k
        walk_at "go"
        refine ⟨t7, _, rfl, ht7, hk7, fun H8 e8 => ?_⟩
        have e48 := e47.trans e8
        rw [List.length_append, List.length_singleton] at hsz
        refine ⟨_, rfl, ?_⟩
        cases hid : idleR (takeR p row o t nn) with
        | true =>
          rw [hid, if_pos rfl] at hnext
          walk_at "go"
          exact ⟨n2, Nat.lt_succ_self _, lf, lt, tfs, tt2, found, todo2, _, _, _, _, _, _, rfl, e4.trans e48, nf, nt, hne, e48 _ _ hf4, e48 _ _ ht4, rf4.ex' e48, rt4.ex' e48, Lf, Lt2, by omega, hnext⟩
        | false =>
          rw [hid, if_neg Bool.false_ne_true] at hnext
          walk_at "go"
          have ht8 := e48 _ _ ht4
          refine ⟨.inl ⟨rfl, _, SqL.of ht8⟩, ?_⟩
          walk_at "go"
          have lent2 := rt2.length
          refine ⟨lt, _, .ref t7, rfl, rfl, ht8, Nat.lt_of_le_of_lt (by rw [List.length_map]; omega : _ ≤ 1000) (by decide), ?_⟩
          have x9 : ExL H8 (upd H8 lt (.lst (tt2.map V.ref ++ [.ref t7]))) := ExL.upd ht8
          have hl9 : leadR (takeR p row o t nn) ≠ none := fun z => by rw [leadR_none.mp z] at hid; cases hid
          exact ⟨n2, Nat.lt_succ_self _, lf, lt, tfs, tt2 ++ [t7], found, todo2 ++ [takeR p row o t nn], _, _, _, _, _, _, rfl, Ex.mut (e4.trans e48) nt, nf, nt, hne, by rw [upd_ne hne]; exact e48 _ _ hf4, by rw [upd_same, List.map_append]; rfl, (rf4.ex' e48).exl x9, ((rt4.ex' e48).exl x9).snoc ((ht7.ex' e8).exl x9), Lf, Lt2.app (LedR.one hfit hl9 hlen7), by rw [List.length_append, List.length_singleton]; omega, hnext⟩
      | @add n2 todo2 _ _ row i w hlead hh hnext =>
        obtain ⟨tt2, tr, rfl, rt2, hrow⟩ := paired_split rt.p
        have Lt2 := Lt.left
        obtain ⟨hrf, hrl, hrm⟩ := Lt.f row (List.mem_append_right _ List.mem_cons_self)
        refine g_ift (decide_eq_true (by rw [List.length_append, List.length_singleton]; omega)) ?_
        refine ⟨fun σ' H' => ∃ n', n' < n2 + 1 ∧ LedS K p m lr res H n' σ' H', fun _ _ z => z, ?_⟩
        walk_at "go"
        refine ⟨_, rfl, .inl ⟨rfl, _, SqL.of ht3⟩, lt, _, .ref tr, rfl, rfl, ht3, by rw [List.map_append, List.length_append, List.length_map, List.map_singleton, List.length_singleton, List.getElem?_append_right (by rw [List.length_map]; omega), List.length_map]; simp, ?_⟩
        have hdl : ((tt2 ++ [tr]).map V.ref).dropLast = tt2.map V.ref := by rw [List.map_append, List.map_singleton, List.dropLast_concat]
        rw [hdl]
        have e4 : Ex H (upd H3 lt (.lst (tt2.map V.ref))) := Ex.mut e3 nt
        have x4 : ExL H3 (upd H3 lt (.lst (tt2.map V.ref))) := ExL.upd ht3
        have hf4 : upd H3 lt (.lst (tt2.map V.ref)) lf = some (.lst (tfs.map V.ref)) := by rw [upd_ne hne]; exact hf3
        have ht4 := upd_same (H := H3) (a := lt) (o := .lst (tt2.map V.ref))
        generalize upd H3 lt (.lst (tt2.map V.ref)) = H4 at e4 x4 hf4 ht4 ⊢
        have rf4 := rf.exl x4
        have rt4 : RowsAt H4 tt2 todo2 := RowsAt.exl x4 ⟨rt2⟩
        have hrow4 := hrow.exl x4
        walk_at "go"
        refine ⟨tr, row, rfl, hrow4, hrf.k, fun b hb u hu => Nat.le_trans (hrf.l b hb u hu) (by decide), fun v5 H5 e5 hv5 => ?_⟩
        rw [hlead] at hv5
        obtain ⟨q5, rfl, _, hq5⟩ := hv5
        refine ⟨q5, _, rfl, SqT.of hq5, rfl, ?_⟩
        obtain ⟨c0, c1, b, hb, hba, hbne, hwl, hbm⟩ := lead_cf hp0 hrf.g hlead
        have hw6 := hrf.l b hbm w (by rw [hwl]; exact lead_mem hbne)
        walk_at "go"
        refine ⟨lf, tfs, found, i, w, rfl, SqL.of (e5 _ _ hf4), rf4.ex' e5, Lf.hit, by omega, fun v6 H6 e6 hv6 => ?_⟩
        rw [hh] at hv6
        cases (show v6 = .non from hv6)
        walk_at "go"
        refine ⟨rfl, ?_⟩
        rw [decide_eq_true rfl]
        walk_at "go"
        have e46 := e5.trans e6
        refine ⟨p, tr, row, (i, w), rfl, hrow4.ex' e46, hrf, hlead, by omega, by omega, fun t7 H7 e7 ht7n ht7 => ?_⟩
        have e47 := e46.trans e7
        have Lp1 : LedR p m [plainR p row] := LedR.one (hrf.plain hp0) (by rw [leadR_plain hp hrf.g, hlead]; exact fun z => nomatch z) (by rw [plainR_len]; exact hrm)
        have hf7 := e47 _ _ hf4
        have rf7 := rf4.ex' e47
        walk_at "go"
        refine ⟨⟨_, SqL.of hf7⟩, ?_⟩
        refine lc_selL walk_list found (by rw [List.length_map, lenf]) (by rw [List.length_map, lenf]; exact line5 (by omega)) (fun H' e => SqL.of (e _ _ hf7)) (fun o y H => ∃ t, y = V.ref t ∧ RowAt H t o) (fun o y H H' e ⟨t, h8, h9⟩ => ⟨t, h8, h9.exl e⟩) (longQ (plainR p row)) (fun _ => rfl) ?_ ?_
        · rintro j x o K1 K1' KT KY hj ek ⟨rfl, hx⟩ ho kf kt
          rw [List.getElem?_map] at hx
          cases hq : tfs[j]? with
          | none => rw [hq] at hx; cases hx
          | some to =>
            rw [hq] at hx
            cases Option.some.inj hx
            obtain ⟨o', ho', hto⟩ := paired_get rf7.p hq
            rw [ho] at ho'
            cases Option.some.inj ho'
            obtain ⟨hof, hol, hom⟩ := Lf.f o (List.mem_of_getElem? ho)
            walk_at "go"
            refine ⟨Nat.le_of_ble_eq_true rfl, fun l1 hl1 => ?_⟩
            have ea : Ex K1' (upd K1' l1 (.lst [.ref t7])) := Ex.new hl1
            have hl1s := upd_same (H := K1') (a := l1) (o := .lst [.ref t7])
            generalize upd K1' l1 (.lst [.ref t7]) = K2 at ea hl1s ⊢
            walk_at "go"
            refine ⟨to, o, rfl, hto.ex' (ek.trans ea), hof.k, fun b hb u hu => Nat.le_trans (hof.l b hb u hu) (by decide), fun v3 K3 e3 hv3 => ?_⟩
            cases hlo : leadR o with
            | none => exact absurd hlo hol
            | some z =>
              obtain ⟨jo, lo⟩ := z
              rw [hlo] at hv3
              obtain ⟨q3, rfl, _, hq3⟩ := hv3
              walk_at "go"
              refine g_ixt (SqT.of hq3) (v := .int (jo : Nat)) rfl ?_
              walk_at "go"
              refine ⟨to, o, rfl, hto.ex' ((ek.trans ea).trans e3), hof.k, fun b hb u hu => Nat.le_trans (hof.l b hb u hu) (by decide), fun v4 K4 e4 hv4 => ?_⟩
              rw [hlo] at hv4
              obtain ⟨q4, rfl, _, hq4⟩ := hv4
              walk_at "go"
              refine g_ixt (SqT.of hq4) (v := .str lo) rfl ?_
              walk_at "go"
              have e24 := e3.trans e4
              have hlol : lo.length ≤ 1000000 := lead_len_of (z := (jo, lo)) hlo hof.l
              refine ⟨l1, [t7], [plainR p row], jo, lo, rfl, SqL.of (e24 _ _ hl1s), ⟨.cons (ht7.ex' ((ek.trans ea).trans e24)) .nil⟩, fun o hh => by rw [List.mem_singleton.mp hh]; exact Lp1.hit _ List.mem_cons_self, by omega, fun v5 K5 e5 hv5 => ?_⟩
              have e15 := ea.trans (e24.trans e5)
              have hlq : longQ (plainR p row) o = (hitB [plainR p row] jo lo).isSome := by unfold longQ; rw [hlo]
              cases hhb : hitB [plainR p row] jo lo with
              | none =>
                rw [hhb] at hv5 hlq
                cases (show v5 = .non from hv5)
                walk_at "go"
                refine ⟨rfl, _, rfl, ?_⟩
                rw [decide_eq_true rfl]
                exact kf hlq _ e15
              | some zz =>
                obtain ⟨oo, tt⟩ := zz
                rw [hhb] at hv5 hlq
                obtain ⟨q5, tj, rfl, _⟩ := hv5
                walk_at "go"
                refine ⟨rfl, _, rfl, ?_⟩
                rw [decide_eq_false (fun z => nomatch z)]
                exact ⟨_, rfl, kt hlq _ _ e15 ⟨to, rfl, hto.ex' (ek.trans e15)⟩⟩
        intro D1 H8 ys hD1 e8 hD1' hys
        obtain ⟨tls, rfl, htl8⟩ := RowsAt.of hys
        have hf8 := e8 _ _ hf7
        have rf8 := rf7.ex' e8
        have ht8 := ht7.ex' e8
        walk_at "go"
        refine ⟨⟨_, SqL.of hf8⟩, ?_⟩
        refine lc_selL walk_list found (by rw [List.length_map, lenf]) (by rw [List.length_map, lenf]; exact line5 (by omega)) (fun H' e => SqL.of (e _ _ hf8)) (fun o y H => ∃ t, y = V.ref t ∧ RowAt H t o) (fun o y H H' e ⟨t, h8, h9⟩ => ⟨t, h8, h9.exl e⟩) (fun o => !longQ (plainR p row) o) (fun _ => rfl) ?_ ?_
        · rintro j x o K1 K1' KT KY hj ek ⟨rfl, hx⟩ ho kf kt
          rw [List.getElem?_map] at hx
          cases hq : tfs[j]? with
          | none => rw [hq] at hx; cases hx
          | some to =>
            rw [hq] at hx
            cases Option.some.inj hx
            obtain ⟨o', ho', hto⟩ := paired_get rf8.p hq
            rw [ho] at ho'
            cases Option.some.inj ho'
            obtain ⟨hof, hol, hom⟩ := Lf.f o (List.mem_of_getElem? ho)
            walk_at "go"
            refine ⟨Nat.le_of_ble_eq_true rfl, fun l1 hl1 => ?_⟩
            have ea : Ex K1' (upd K1' l1 (.lst [.ref t7])) := Ex.new hl1
            have hl1s := upd_same (H := K1') (a := l1) (o := .lst [.ref t7])
            generalize upd K1' l1 (.lst [.ref t7]) = K2 at ea hl1s ⊢
            walk_at "go"
            refine ⟨to, o, rfl, hto.ex' (ek.trans ea), hof.k, fun b hb u hu => Nat.le_trans (hof.l b hb u hu) (by decide), fun v3 K3 e3 hv3 => ?_⟩
            cases hlo : leadR o with
            | none => exact absurd hlo hol
            | some z =>
              obtain ⟨jo, lo⟩ := z
              rw [hlo] at hv3
              obtain ⟨q3, rfl, _, hq3⟩ := hv3
              walk_at "go"
              refine g_ixt (SqT.of hq3) (v := .int (jo : Nat)) rfl ?_
              walk_at "go"
              refine ⟨to, o, rfl, hto.ex' ((ek.trans ea).trans e3), hof.k, fun b hb u hu => Nat.le_trans (hof.l b hb u hu) (by decide), fun v4 K4 e4 hv4 => ?_⟩
              rw [hlo] at hv4
              obtain ⟨q4, rfl, _, hq4⟩ := hv4
              walk_at "go"
              refine g_ixt (SqT.of hq4) (v := .str lo) rfl ?_
              walk_at "go"
              have e24 := e3.trans e4
              have hlol : lo.length ≤ 1000000 := lead_len_of (z := (jo, lo)) hlo hof.l
              refine ⟨l1, [t7], [plainR p row], jo, lo, rfl, SqL.of (e24 _ _ hl1s), ⟨.cons (ht8.ex' ((ek.trans ea).trans e24)) .nil⟩, fun o hh => by rw [List.mem_singleton.mp hh]; exact Lp1.hit _ List.mem_cons_self, by omega, fun v5 K5 e5 hv5 => ?_⟩
              have e15 := ea.trans (e24.trans e5)
              have hlq : longQ (plainR p row) o = (hitB [plainR p row] jo lo).isSome := by unfold longQ; rw [hlo]
              cases hhb : hitB [plainR p row] jo lo with
              | none =>
                rw [hhb] at hv5 hlq
                cases (show v5 = .non from hv5)
                walk_at "go"
                refine ⟨rfl, _, rfl, ?_⟩
                rw [decide_eq_true rfl]
                exact ⟨_, rfl, kt (by rw [hlq]; rfl) _ _ e15 ⟨to, rfl, hto.ex' (ek.trans e15)⟩⟩
              | some zz =>
                obtain ⟨oo, tt⟩ := zz
                rw [hhb] at hv5 hlq
                obtain ⟨q5, tj, rfl, _⟩ := hv5
                walk_at "go"
                refine ⟨rfl, _, rfl, ?_⟩
                rw [decide_eq_false (fun z => nomatch z)]
                exact kf (by rw [hlq]; rfl) _ e15
        intro D2 H9 ys hD2 e9 hD2' hys
        obtain ⟨tks, rfl, htk9⟩ := RowsAt.of hys
        have hl9 := (e47.trans (e8.trans e9)) _ _ ht4
        have e49 : Ex H H9 := e4.trans (e47.trans (e8.trans e9))
        have e48 : Ex H H8 := e4.trans (e47.trans e8)
        have ht99 := ht8.ex' e9
        have htl9 := htl8.ex' e9
        have hD19 := e9 _ _ hD1'
        have hne2 : D2 ≠ lt := fun z => by
          have := (e47.trans e8) _ _ ht4
          rw [← z, hD2] at this
          cases this
        have nf2 : H D2 = none := e48.free hD2
        walk_at "go"
        refine ⟨.inl ⟨rfl, _, SqL.of hD2'⟩, ?_⟩
        walk_at "go"
        have hflt : (found.filter (longQ (plainR p row))).length + (found.filter fun o => !longQ (plainR p row) o).length = found.length := by
          exact filter_both _ found
        have lk := htk9.p.length
        have ll := htl9.p.length
        rw [List.length_append, List.length_singleton] at hsz
        have lent2 := rt2.length
        refine ⟨D2, _, .ref t7, rfl, rfl, hD2', Nat.lt_of_le_of_lt (by rw [List.length_map]; omega : _ ≤ 1000) (by decide), ?_⟩
        have x9 : ExL H9 (upd H9 D2 (.lst (tks.map V.ref ++ [.ref t7]))) := ExL.upd hD2'
        have hl10 : upd H9 D2 (.lst (tks.map V.ref ++ [.ref t7])) lt = some (.lst (tt2.map V.ref)) := by rw [upd_ne hne2.symm]; exact hl9
        have hD110 : upd H9 D2 (.lst (tks.map V.ref ++ [.ref t7])) D1 = some (.lst (tls.map V.ref)) := by
          rw [upd_ne (fun z => by rw [← z, hD1'] at hD2; cases hD2)]
          exact hD19
        have e10 : Ex H (upd H9 D2 (.lst (tks.map V.ref ++ [.ref t7]))) := Ex.mut e49 nf2
        have hD210 := upd_same (H := H9) (a := D2) (o := .lst (tks.map V.ref ++ [.ref t7]))
        generalize upd H9 D2 (.lst (tks.map V.ref ++ [.ref t7])) = H10 at x9 hl10 hD110 e10 hD210 ⊢
        walk_at "go"
        refine ⟨.inl ⟨rfl, _, SqL.of hl10⟩, ?_⟩
        walk_at "go"
        refine ⟨lt, D1, _, _, rfl, rfl, hl10, hD110, ?_, ?_⟩
        · exact Nat.le_trans (by rw [List.length_map, List.length_map]; omega : _ ≤ 1000) (by decide)
        · have x11 : ExL H10 (upd H10 lt (.lst (tt2.map V.ref ++ tls.map V.ref))) := ExL.upd hl10
          have xa : ExL H4 H9 := (e47.trans (e8.trans e9)).exl
          have x911 := x9.trans x11
          exact ⟨n2, Nat.lt_succ_self _, D2, lt, tks ++ [t7], tt2 ++ tls, _, _, _, _, _, _, _, _, rfl, Ex.mut e10 nt, nf2, nt, hne2, by rw [upd_ne hne2, hD210, List.map_append]; rfl, by rw [upd_same, List.map_append], (htk9.exl x911).snoc (ht99.exl x911), ((rt4.exl xa).app htl9).exl x911, (Lf.sub fun o ho => (List.mem_filter.mp ho).1).app Lp1, Lt2.app (Lf.sub fun o ho => (List.mem_filter.mp ho).1), by rw [List.length_append, List.length_append, List.length_singleton]; omega, hnext⟩
end
end Fp

namespace Fp
open PySem L2
section
variable {P : Program} {w : World} {K : PySem.W.Frag} {mg : Str → Option Value} {base : Heap} {C_Bag : Addr} {Cs : Addr → Prop}
local macro_rules | `(tactic| walk_at "hp") => `(tactic| first | assumption | rfl)
local macro_rules | `(tactic| walk_at "cond") => `(tactic| first | assumption | decide | omega | (unfold CMul; omega) | (refine ⟨?_, ?_⟩ <;> omega) | (unfold CDiv; omega) | (unfold CPow; omega))
local macro_rules | `(tactic| walk_at "g1") => `(tactic| first
  | with_reducible first
    | refine g_seq ?_ | refine g_asg ?_ | refine g_name ?_ | refine g_ret ?_ | refine g_retN ?_ | refine g_drop ?_ | refine g_ifs ?_
    | refine g_c ?_ | refine g_op ?_ | refine g_un ?_ | refine g_I0 ?_ | refine g_U ?_
    | refine g_test ?_ | refine g_tB ?_ | refine g_bl ?_ | refine g_and ?_ | refine g_or ?_ | refine g_not ?_
    | refine g_andV ?_ | refine g_orV ?_ | refine g_notV ?_ | refine g_if ?_ | refine g_nil ?_ | refine g_cons ?_ | refine g_cb ?_ | refine g_call ?_
    | refine g_lst ?_ | refine g_tup ?_ | refine g_itT ?_ | refine g_itF ?_ | refine g_itNT ?_ | refine g_itNF ?_ | refine g_lc ?_ | refine g_iStr ?_ | refine g_yes ?_ | refine g_exs ?_
    | refine g_chain ?_ | refine g_dget ?_ | refine g_dput ?_ | refine g_dget2 ?_ | refine g_dpop2 ?_ | refine g_fld ?_ | refine g_sfld ?_ | refine g_make ?_ | refine g_meth ?_
    | refine g_bm ?_ | refine g_kw ?_ | refine g_callS ?_ | refine g_revL ?_ | refine g_m1 ?_ | refine g_gsub ?_ | refine g_for ?_ | refine g_iList ?_ | refine g_iTup ?_ | refine g_iRng1 ?_ | refine g_iRng2 ?_ | refine g_sl ?_ | refine g_part ?_ | refine g_noPart ?_
    | refine g_exi ?_ | refine g_exr ?_ | refine g_dnew ?_ | refine g_disp ?_ | refine g_prs0 ?_ | refine g_prs ?_ | refine g_nxt ?_
  | ((with_reducible refine g_var (v := ?vv) ?gv ?_); (case gv => exact rfl))
  | ((with_reducible refine g_I ?gc ?_); (case gc => walk_at "cond"))
  | ((with_reducible refine g_eq ?ge ?_); (case ge => exact rfl))
  | ((with_reducible refine g_ne ?ge ?_); (case ge => exact rfl))
  | (refine g_ixl (SqL.of (by first | assumption | exact upd_same)) rfl ?_)
  | (refine g_setl (by first | assumption | exact upd_same) rfl ?_)
  | ((with_reducible show (∃ i, [V.int _] = [V.int i] ∧ _) ∨ _); refine Or.inl ⟨_, rfl, ?_⟩)
  | ((with_reducible show ∃ i, [V.int _] = [V.int i] ∧ _); refine ⟨_, rfl, ?_⟩)
  | dsimp only)
local macro_rules | `(tactic| walk_at "go") => `(tactic| repeat (walk_at "g1"))

local macro_rules | `(tactic| walk_at "g1") => `(tactic| with_reducible first | refine g_gcons ?_ | refine g_gnil ?_)

theorem paired_vref {β : Type} {F : Addr → β → Prop} {xs : List Addr} {ss : List β} (h : Paired F xs ss) : Paired (fun v s => ∃ b, v = V.ref b ∧ F b s) (xs.map V.ref) ss := by
  induction h with
  | nil => exact .nil
  | cons h1 _ ih => exact .cons ⟨_, rfl, h1⟩ ih
theorem paired_cut {α β : Type} {F : α → β → Prop} {xs : List α} {ys : List β} (h : Paired F xs ys) (i : Nat) : Paired F (xs.take i) (ys.take i) ∧ Paired F (xs.drop i) (ys.drop i) := by
  induction h generalizing i with
  | nil => rw [List.take_nil, List.take_nil, List.drop_nil, List.drop_nil]; exact ⟨.nil, .nil⟩
  | cons h1 h2 ih =>
    cases i with
    | zero => exact ⟨.nil, .cons h1 h2⟩
    | succ i => exact ⟨.cons h1 (ih i).1, (ih i).2⟩
theorem paired_set {α β : Type} {F : α → β → Prop} {xs : List α} {ys : List β} (h : Paired F xs ys) (i : Nat) {x : α} {y : β} (hx : F x y) : Paired F (xs.set i x) (ys.set i y) := by
  induction h generalizing i with
  | nil => exact .nil
  | cons h1 h2 ih =>
    cases i with
    | zero => exact .cons hx h2
    | succ i => exact .cons h1 (ih i)
theorem cutV_take (xs : List V) (i : Nat) : cutV xs none (some (i : Int)) = xs.take i := by
  unfold cutV
  rw [HT.sIx_none, HT.sIx_nat, List.drop_zero, Nat.sub_zero]
  rcases Nat.le_total i xs.length with h | h
  · rw [Nat.min_eq_left h]
  · rw [Nat.min_eq_right h, List.take_length, List.take_of_length_le h]
theorem cutV_drop (xs : List V) (i : Nat) : cutV xs (some (i : Int)) none = xs.drop i := by
  unfold cutV
  rw [HT.sIx_none, HT.sIx_nat]
  rcases Nat.le_total i xs.length with h | h
  · rw [Nat.min_eq_left h, List.take_of_length_le (by rw [List.length_drop]; exact Nat.le_refl _)]
  · rw [Nat.min_eq_right h, List.drop_length, List.drop_of_length_le h, List.take_nil]
theorem RedN.keep {p : Int} {m n : Nat} {B : List Row} {r r' : Row} (h : RedN p B n r r') (hB : ∀ o ∈ B, o.length = m) : r.length = m → Fit p r → Fit p r' ∧ r'.length = m := by
  induction h with
  | stop _ => exact fun h1 h2 => ⟨h2, h1⟩
  | step h0 hf _ ih =>
    intro h1 h2
    obtain ⟨j, b, h3, h4, h5, h6⟩ := hitF_some h0
    obtain ⟨ho, _⟩ := hitB_some h6
    exact ih (by rw [takeR_len (by rw [h1, hB _ ho])]; exact h1) hf
def sp_reduced_base (K : PySem.W.Frag) : Sp := fun vs H Q _ => ∃ (p : Int) (lr : Addr) (ts : List Addr) (rows res fin : List Row) (m n : Nat), vs = [.int p, .ref lr] ∧ SqL K H lr (ts.map V.ref) ∧ RowsAt H ts rows ∧ (∀ r ∈ rows, Fit p r ∧ r.length = m) ∧ rows.length ≤ 1000 ∧ LedN p n (rows.filter fun r => !idleR r) [] res ∧ Prm p ∧ RedAll p m 0 (sortR res) fin ∧
  ∀ l us H', Ex H H' → H l = none → H' l = some (.lst (us.map V.ref)) → RowsAt H' us fin → Q (.ref l) H'
theorem ok_reduced_base {f : Addr} {fd : FuncData} (F : Fun K "reduced_base" "reduced_base" s_reduced_base f fd) (T : Txt K mg C_Bag Cs) (D_led_free : DefOk P w K mg base CX0 8 "led_free" ["clock", "rows"] (sp_led_free K)) (D_leading_key : DefOk P w K mg base CX0 6 "leading_key" ["row"] sp_leading_key)
    (D_reduced : DefOk P w K mg base CX0 8 "reduced" ["clock", "base", "row"] (sp_reduced K)) : FnOk P w K mg base CX0 10 f fd ["clock", "rows"] (sp_reduced_base K) := by
  refine F.ok sc_reduced_base (fun vs H Q E h => ?_) (fun cdv A outer s H vs Q E hr h => ?_)
  · obtain ⟨p, lr, ts, rows, res, fin, m, n, rfl, _⟩ := h
    rfl
  · obtain ⟨p, lr, ts, rows, res, fin, m, n, rfl, hlr, hts, hrows, hlen, hled, hp, hra, k⟩ := h
    obtain ⟨f_leading_key, fd_leading_key, M_leading_key, k_leading_key, B_leading_key, F_leading_key⟩ := D_leading_key.ex
    have hu := hu_of hr; have hu64 := L2.Room.units hr; refine ⟨_, (pss_cons (ps_set (i := 2) sc_reduced_base.nd rfl (by first | exact Or.inl rfl | exact Or.inr rfl) (pe_callBK (r := rSortK K f_leading_key sp_leading_key) (cr_sortK F_leading_key B_leading_key (hr.mono (by decide))) (by rfl) T.b_sorted (by decide +kernel) (pa_cons (pe_callD D_led_free (hr.mono (by decide)) rfl pass0 (pa_cons (pv 0) (pa_cons (pv 1) pa_nil))) pa_nil) (pk_cons (pe_glob (v := .ref f_leading_key) rfl M_leading_key rfl) pk_nil))) (pss_cons (ps_for PassesOwn.never rfl (pi_range1 rfl T.b_range (pa_cons (pe_callB call_len_seq (by rfl) T.b_len (by decide +kernel) (pa_cons (pv 2) pa_nil)) pa_nil)) (pg_name (i := 3) sc_reduced_base.nd rfl (by first | exact Or.inl rfl | exact Or.inr rfl)) (pss_cons (ps_set (i := 4) sc_reduced_base.nd rfl (by first | exact Or.inl rfl | exact Or.inr rfl) (pe_op op_cat (pe_slice sl_list (pv 2) po_none (po_some (pv 3))) (pe_slice sl_list (pv 2) (po_some (pe_op op_add (pv 3) pe_int)) po_none))) (pss_one (ps_asg (pe_callD D_reduced (hr.mono (by decide)) rfl pass0 (pa_cons (pv 0) (pa_cons (pv 4) (pa_cons (pe_ix (r := rIxL K) ix_list (pv 2) (pv 3) (fun _ _ => rfl)) pa_nil)))) (pg_sub (pv 2) (pv 3) set_list))))) (pss_one (ps_ret (pv 2))))), ?_⟩; rw [st_reduced_base]; (try dsimp only [cxOf]); walk_at "go"
    refine ⟨p, lr, ts, rows, res, m, n, rfl, hlr, hts, hrows, hlen, hled, hp, fun l us H1 e1 hl hl1 hus Lr hrl => ?_⟩
    walk_at "go"
    have hres := hus.p
    have hul := hres.length
    refine ⟨l, us.map V.ref, res.map rowD, fun i v H => ∃ r z, res[i]? = some r ∧ leadR r = some z ∧ KeyAt H v z, rfl, rfl, SqL.of hl1, by rw [List.length_map, List.length_map, hul], PySem.W.AllAlike.of rowD_alike, PySem.W.Sortable.tuples fun b => ⟨_, _, rfl⟩, fun d hd => ?_, fun i v H H' e ⟨r, z, h1, h2, a, b, h3, h4, h5⟩ => ⟨r, z, h1, h2, a, b, h3, e _ _ (fun _ z => nomatch z) h4, e _ _ (fun _ z => nomatch z) h5⟩, fun i d v H hd ⟨r, z, h1, h2, a, b, h3, h4, h5⟩ => ?_, fun i x H2 hx e2 => ?_, fun q H2 hq e2 hq2 => ?_⟩
    · obtain ⟨s, _, rfl⟩ := List.mem_map.mp hd
      exact rowD_depth s
    · rw [List.getElem?_map, h1] at hd
      obtain rfl := (Option.some.inj hd).symm
      subst h3
      show L2.Dp K H _ (rowD r)
      unfold rowD
      rw [h2]
      exact .tup (SqT.of h4) (.cons (.int _) (.cons (.tup (SqT.of h5) (.cons (.int _) (.cons (.str _) .nil))) .nil))
    · rw [List.getElem?_map] at hx
      cases hm : us[i]? with
      | none => rw [hm] at hx; cases hx
      | some b =>
        rw [hm] at hx
        obtain rfl := (Option.some.inj hx).symm
        obtain ⟨r, hr0, hb⟩ := paired_get hres hm
        obtain ⟨h1, h2, h3⟩ := Lr.f r (List.mem_of_getElem? hr0)
        cases hz : leadR r with
        | none => exact absurd hz h2
        | some z => exact ⟨b, r, z, rfl, hb.ex' e2, h1.k, fun c hc u hu => Nat.le_trans (h1.l c hc u hu) (by decide), hz, fun v H3 e3 hv => ⟨e3, r, z, hr0, hz, hv⟩⟩
    have hpv : Paired (fun v r => ∃ b, v = V.ref b ∧ RowAt H2 b r) (us.map V.ref) res := paired_vref (Paired.mapP hres fun _ _ z => z.ex' e2)
    obtain ⟨bs, hbs, hpb⟩ := paired_refs (byKeyR_paired hpv)
    rw [hbs] at hq2
    have e02 : Ex H H2 := e1.trans e2
    have nq : H q = none := e1.free hq
    have hsl : (sortR res).length = res.length := (sortR_perm res).length_eq
    have hbl := hpb.length
    walk_at "go"
    refine ⟨q, _, rfl, .inl (SqL.of hq2), ?_⟩
    walk_at "go"
    refine ⟨by omega, by rw [List.length_map]; omega, ?_⟩
    rw [List.length_map, Int.toNat_natCast]
    refine forG walk_range (fun i σ' H' => ∃ (x y : Option V) (cs : List Addr) (B : List Row), σ' = [some (.int p), some (.ref lr), some (.ref q), x, y] ∧ Ex H H' ∧ H' q = some (.lst (cs.map V.ref)) ∧ RowsAt H' cs B ∧ B.length = bs.length ∧ RedAll p m i B fin) ⟨none, none, bs, sortR res, rfl, e02, hq2, ⟨hpb⟩, hbl.symm, hra⟩ (fun _ _ _ _ _ => trivial) ?_ ?_
    · rintro i x σ' H3x H3 hi ⟨x1, y1, cs, B, rfl, e3, hq3, hcs, hBl, hall⟩ ⟨rfl, rfl⟩
      cases hall with
      | stop h9 _ => omega
      | @step _ n9 r r' _ _ hLB hBi hred hall' =>
        have hcl := hcs.p.length
        obtain ⟨hrf, hrl, hrm⟩ := hLB.f r (List.mem_of_getElem? hBi)
        have hsub : ∀ o ∈ B.take i ++ B.drop (i + 1), o ∈ B := fun o ho => (List.mem_append.mp ho).elim List.mem_of_mem_take List.mem_of_mem_drop
        walk_at "go"
        refine ⟨q, _, rfl, SqL.of hq3, fun l1 hl1 => ?_⟩
        rw [Int.zero_add, cutV_take]
        have f1 : Ex H3 (upd H3 l1 (.lst ((cs.map V.ref).take i))) := Ex.new hl1
        have hl1s := upd_same (H := H3) (a := l1) (o := .lst ((cs.map V.ref).take i))
        generalize upd H3 l1 (.lst ((cs.map V.ref).take i)) = H4 at f1 hl1s ⊢
        walk_at "go"
        refine ⟨q, _, rfl, SqL.of (f1 _ _ hq3), fun l2 hl2 => ?_⟩
        rw [show ((i : Nat) : Int) + 1 = ((i + 1 : Nat) : Int) from by omega, cutV_drop]
        have f2 : Ex H4 (upd H4 l2 (.lst ((cs.map V.ref).drop (i + 1)))) := Ex.new hl2
        have hl2s := upd_same (H := H4) (a := l2) (o := .lst ((cs.map V.ref).drop (i + 1)))
        generalize upd H4 l2 (.lst ((cs.map V.ref).drop (i + 1))) = H5 at f2 hl2s ⊢
        walk_at "go"
        refine ⟨l1, l2, _, _, rfl, rfl, f2 _ _ hl1s, hl2s, ?_, fun l3 hl3 => ?_⟩
        · refine Nat.le_trans (?_ : _ ≤ 1000) (by decide)
          rw [List.length_take, List.length_drop, List.length_map]
          omega
        have hli : (cs.map V.ref).take i ++ (cs.map V.ref).drop (i + 1) = (cs.take i ++ cs.drop (i + 1)).map V.ref := by rw [List.map_append, List.map_take, List.map_drop]
        rw [hli]
        have f3 : Ex H5 (upd H5 l3 (.lst ((cs.take i ++ cs.drop (i + 1)).map V.ref))) := Ex.new hl3
        have hl3s := upd_same (H := H5) (a := l3) (o := .lst ((cs.take i ++ cs.drop (i + 1)).map V.ref))
        generalize upd H5 l3 (.lst ((cs.take i ++ cs.drop (i + 1)).map V.ref)) = H6 at f3 hl3s ⊢
        have f36 := f1.trans (f2.trans f3)
        have hq6 := f36 _ _ hq3
        walk_at "go"
        obtain ⟨c, hc⟩ : ∃ c, cs[i]? = some c := ⟨_, List.getElem?_eq_getElem (by omega : i < cs.length)⟩
        obtain ⟨r2, hr2, hcr⟩ := paired_get hcs.p hc
        rw [hBi] at hr2
        cases Option.some.inj hr2
        refine g_ixl (SqL.of hq6) (v := .ref c) (atI_get (by omega) (by rw [show ((i : Nat) : Int).toNat = i from by omega, List.getElem?_map, hc]; rfl)) ?_
        walk_at "go"
        have hcs6 := hcs.ex' f36
        refine ⟨p, l3, c, cs.take i ++ cs.drop (i + 1), B.take i ++ B.drop (i + 1), r, r', m, n9, rfl, SqL.of hl3s, ⟨paired_app (paired_cut hcs6.p i).1 (paired_cut hcs6.p (i + 1)).2⟩, hLB.sub hsub, hcr.ex' f36, hrf, hrm, hred, by have := hp.pos; omega, by rcases hp with rfl | rfl | rfl | rfl <;> decide, fun t7 H7 e7 ht7 => ?_⟩
        have hq7 := e7 _ _ hq6
        walk_at "go"
        refine g_setl (j := i) hq7 (by unfold ixN; rw [if_pos (by omega), List.length_map, if_pos (by omega)]; rfl) ?_
        have x7 : ExL H7 (upd H7 q (.lst ((cs.map V.ref).set i (.ref t7)))) := ExL.upd hq7
        refine ⟨_, _, cs.set i t7, B.set i r', rfl, Ex.mut (e3.trans (f36.trans e7)) nq, by rw [upd_same, List.map_set], ?_, by rw [List.length_set]; exact hBl, hall'⟩
        exact ⟨paired_set ((hcs6.ex' e7).exl x7).p i (ht7.exl x7)⟩
    · rintro σ' H3 ⟨x1, y1, cs, B, rfl, e3, hq3, hcs, hBl, hall⟩
      cases hall with
      | stop h9 _ =>
        walk_at "go"
        exact k q cs H3 e3 nq hq3 hcs
      | step h7 h8 =>
        rw [List.getElem?_eq_none (by omega)] at h8
        cases h8
end
end Fp

namespace Fp
open PySem
/-! ### sums of multiples of some bags -/
def Beg (l w : Str) : Prop := ∃ t, w = l ++ t
abbrev Trm := Bg × Str × Int
def valT (ks : List Trm) (w : Str) : Int := sumL ks fun k => k.2.2 * cf (withB k.1 k.2.1) w
def In (p : Int) (B : List Bg) (f : Bg) : Prop := ∃ ks : List Trm, (∀ k ∈ ks, k.1 ∈ B) ∧ ∀ w, cf f w % p = valT ks w % p
variable {p : Int} {B : List Bg}
theorem withB_empty (b : Bg) : withB b Str.empty = b := by
  unfold withB
  induction b with
  | nil => rfl
  | cons a r ih => rw [List.map_cons, ih, app_empty]
theorem withB_withB (b : Bg) (s t : Str) : withB b (s ++ t) = withB (withB b s) t := by
  unfold withB
  induction b with
  | nil => rfl
  | cons a r ih => rw [List.map_cons, List.map_cons, List.map_cons, ih, app_assoc]
theorem cf_key {s : Bg} {w : Str} (h : cf s w ≠ 0) : w ∈ keys s := Classical.byContradiction fun n => h (cf_not_mem n)
theorem cf_withB_key {b : Bg} {t w : Str} (h : cf (withB b t) w ≠ 0) : ∃ u ∈ keys b, w = u ++ t := by
  have := cf_key h
  rw [withB_keys] at this
  obtain ⟨u, h1, h2⟩ := List.mem_map.mp this
  exact ⟨u, h1, h2.symm⟩
theorem In.nil : In p B [] := ⟨[], (fun _ h => nomatch h), fun w => rfl⟩
theorem In.mem {b : Bg} (h : b ∈ B) : In p B b := ⟨[(b, Str.empty, 1)], fun k hk => by rw [List.mem_singleton.mp hk]; exact h, fun w => by
  unfold valT
  rw [sumL_cons, sumL_nil, withB_empty, Int.one_mul, Int.add_zero]⟩
theorem In.of {f g h : Bg} {n : Int} (hf : In p B f) (hg : In p B g) (e : ∀ w, cf h w % p = (cf f w + n * cf g w) % p) : In p B h := by
  obtain ⟨ks, k1, k2⟩ := hf
  obtain ⟨js, j1, j2⟩ := hg
  refine ⟨ks ++ js.map fun k => (k.1, k.2.1, n * k.2.2), fun k hk => ?_, fun w => ?_⟩
  · rcases List.mem_append.mp hk with hk | hk
    · exact k1 k hk
    · obtain ⟨j, hj, rfl⟩ := List.mem_map.mp hk
      exact j1 j hj
  · have e1 : valT (js.map fun k => (k.1, k.2.1, n * k.2.2)) w = n * valT js w := by
      unfold valT
      rw [sumL_map, ← sumL_mul]
      exact sumL_congr fun a _ => Int.mul_assoc _ _ _
    have e2 : valT (ks ++ js.map fun k => (k.1, k.2.1, n * k.2.2)) w = valT ks w + n * valT js w := by
      rw [← e1]
      exact sumL_append _ _ _
    rw [e, e2, Int.add_emod, Int.mul_emod, k2, j2, ← Int.mul_emod, ← Int.add_emod]
theorem In.plus {f g : Bg} {n : Int} (hp : 0 < p) (gf : Good p f) (gg : (keys g).Nodup) (hf : In p B f) (hg : In p B g) : In p B (plusS p f g n) :=
  In.of (n := n) hf hg fun w => by rw [cf_plus hp gf gg, Int.emod_emod]
theorem In.back {f g : Bg} {n : Int} (hp : 0 < p) (gf : Good p f) (gg : (keys g).Nodup) (hf : In p B (plusS p f g (-n))) (hg : In p B g) : In p B f :=
  In.of (n := n) hf hg fun w => by
    rw [cf_plus hp gf gg, Int.emod_add_emod]
    exact congrArg (· % p) (by rw [Int.neg_mul]; omega)
theorem In.withB {f : Bg} {t : Str} (hB : ∀ b ∈ B, (keys b).Nodup) (nf : (keys f).Nodup) (hf : In p B f) : In p B (Fp.withB f t) := by
  obtain ⟨ks, k1, k2⟩ := hf
  refine ⟨ks.map fun k => (k.1, k.2.1 ++ t, k.2.2), fun k hk => ?_, fun w => ?_⟩
  · obtain ⟨j, hj, rfl⟩ := List.mem_map.mp hk
    exact k1 j hj
  · have e1 : valT (ks.map fun k => (k.1, k.2.1 ++ t, k.2.2)) w = sumL ks fun k => k.2.2 * cf (Fp.withB (Fp.withB k.1 k.2.1) t) w := by
      unfold valT
      rw [sumL_map]
      exact sumL_congr fun a _ => by rw [← withB_withB]
    rw [e1]
    by_cases h : ∃ u, w = u ++ t
    · obtain ⟨u, rfl⟩ := h
      rw [cf_withB nf, k2]
      refine congrArg (· % p) (sumL_congr fun a ha => ?_)
      rw [cf_withB (withB_nodup (hB _ (k1 a ha)))]
    · have h0 : ∀ s : Bg, cf (Fp.withB s t) w = 0 := fun s => Classical.byContradiction fun n => by
        obtain ⟨u, _, hu⟩ := cf_withB_key n
        exact h ⟨u, hu⟩
      rw [h0, sumL_zero fun a _ => by rw [h0, Int.mul_zero]]
/-- bags that lead by number 1, none by a word that begins with another's -/
structure GB (p : Int) (B : List Bg) : Prop where
  g : ∀ b ∈ B, Good p b ∧ b ≠ [] ∧ cf b (lead b) = 1
  pf : ∀ b ∈ B, ∀ c ∈ B, Beg (lead b) (lead c) → b = c
def topT (k : Trm) : Str := lead k.1 ++ k.2.1
theorem pre_or {a b c d : Str} (h : a ++ b = c ++ d) : Beg a c ∨ Beg c a := by
  have h1 : a.cps.toList ++ b.cps.toList = c.cps.toList ++ d.cps.toList := by rw [← app_toList, ← app_toList, h]
  rcases List.append_eq_append_iff.mp h1 with ⟨x, h2, _⟩ | ⟨x, h2, _⟩
  · exact .inl ⟨ofL x, str_ext (by rw [app_toList, toList_ofL]; exact h2)⟩
  · exact .inr ⟨ofL x, str_ext (by rw [app_toList, toList_ofL]; exact h2)⟩
theorem valT_split (q : Trm → Bool) (ks : List Trm) (w : Str) : valT ks w = valT (ks.filter q) w + valT (ks.filter fun k => !q k) w := by
  unfold valT
  rw [sumL_filter, sumL_filter, ← sumL_add]
  refine sumL_congr fun a _ => ?_
  cases q a <;> simp
theorem top_le {b : Bg} {t w : Str} (h : cf (withB b t) w ≠ 0) : leW (lead b ++ t) w = true := by
  obtain ⟨u, hu, rfl⟩ := cf_withB_key h
  exact leW_app (lead_le hu) (leW_refl t)
theorem In_lead_aux (hp : 0 < p) (G : GB p B) : ∀ (n : Nat) (ks : List Trm), ks.length ≤ n → (∀ k ∈ ks, k.1 ∈ B) → ∀ f : Bg, Good p f → f ≠ [] → (∀ w, cf f w % p = valT ks w % p) → ∃ k ∈ ks, lead f = topT k
  | n, [], _, _, f, gf, hf, e => by
    have := e (lead f)
    rw [cf_mod hp gf, (show valT [] (lead f) = 0 from rfl), Int.zero_emod] at this
    exact absurd this ((cf_ne gf).mp (lead_mem hf))
  | n, k1 :: ks1, hn, hk, f, gf, hf, e => by
    have hne : (k1 :: ks1).map topT ≠ [] := by simp
    generalize k1 :: ks1 = ks at *
    obtain ⟨m, r, hm⟩ := ordW_cons hne
    obtain ⟨hm1, hm2⟩ := head_cons_ord (m := m) (by rw [hm]; rfl)
    obtain ⟨k0, hk0, rfl⟩ := List.mem_map.mp hm1
    have hmax : ∀ k ∈ ks, leW (topT k0) (topT k) = true := fun k h => hm2 _ (List.mem_map.mpr ⟨k, h, rfl⟩)
    by_cases hz : valT ks (topT k0) % p = 0
    · have hsame : ∀ k ∈ ks, topT k = topT k0 → k.1 = k0.1 ∧ k.2.1 = k0.2.1 := fun k h he => by
        have h1 : k.1 = k0.1 := by
          rcases pre_or (show lead k.1 ++ k.2.1 = lead k0.1 ++ k0.2.1 from he) with h2 | h2
          · exact G.pf _ (hk k h) _ (hk k0 hk0) h2
          · exact (G.pf _ (hk k0 hk0) _ (hk k h) h2).symm
        refine ⟨h1, ?_⟩
        have h3 : lead k.1 ++ k.2.1 = lead k0.1 ++ k0.2.1 := he
        rw [h1] at h3
        exact app_cancel_l h3
      have h5 : ∀ w, valT (ks.filter fun k => decide (topT k = topT k0)) w = (sumL (ks.filter fun k => decide (topT k = topT k0)) fun k => k.2.2) * cf (Fp.withB k0.1 k0.2.1) w := fun w => by
        unfold valT
        rw [← sumL_mulr]
        refine sumL_congr fun a ha => ?_
        obtain ⟨h6, h7⟩ := List.mem_filter.mp ha
        obtain ⟨h8, h9⟩ := hsame a h6 (of_decide_eq_true h7)
        rw [h8, h9]
      have h6 : valT (ks.filter fun k => !decide (topT k = topT k0)) (topT k0) = 0 := sumL_zero fun a ha => by
        obtain ⟨h6, h7⟩ := List.mem_filter.mp ha
        have h7' : topT a ≠ topT k0 := by simpa using h7
        have : cf (Fp.withB a.1 a.2.1) (topT k0) = 0 := Classical.byContradiction fun n => h7' (leW_anti (top_le n) (hmax a h6))
        rw [this, Int.mul_zero]
      obtain ⟨g0, _, g2⟩ := G.g _ (hk k0 hk0)
      have h7 : cf (Fp.withB k0.1 k0.2.1) (topT k0) = 1 := by
        show cf (Fp.withB k0.1 k0.2.1) (lead k0.1 ++ k0.2.1) = 1
        rw [cf_withB g0.nd, g2]
      have h8 : (sumL (ks.filter fun k => decide (topT k = topT k0)) fun k => k.2.2) % p = 0 := by
        rw [valT_split (fun k => decide (topT k = topT k0)), h5, h6, h7, Int.mul_one, Int.add_zero] at hz
        exact hz
      have hlt : (ks.filter fun k => !decide (topT k = topT k0)).length < ks.length := List.length_filter_lt_length_iff_exists.mpr ⟨k0, hk0, by simp⟩
      match n, hn with
      | n + 1, hn =>
        obtain ⟨k, h9, h10⟩ := In_lead_aux hp G n (ks.filter fun k => !decide (topT k = topT k0)) (by omega) (fun k h => hk k (List.mem_filter.mp h).1) f gf hf fun w => by
          rw [e, valT_split (fun k => decide (topT k = topT k0)), h5, Int.add_emod, Int.mul_emod, h8, Int.zero_mul, Int.zero_emod, Int.zero_add, Int.emod_emod]
        exact ⟨k, (List.mem_filter.mp h9).1, h10⟩
      | 0, hn => omega
    · refine ⟨k0, hk0, lead_is ?_ fun u hu => ?_⟩
      · refine cf_key ?_
        rw [← cf_mod hp gf, e]
        exact hz
      · have h1 := (cf_ne gf).mp hu
        rw [← cf_mod hp gf, e] at h1
        obtain ⟨k, h2, h3⟩ : ∃ k ∈ ks, cf (Fp.withB k.1 k.2.1) u ≠ 0 := Classical.byContradiction fun n => h1 (by
          have : valT ks u = 0 := sumL_zero fun a ha => by
            have : cf (Fp.withB a.1 a.2.1) u = 0 := Classical.byContradiction fun n2 => n ⟨a, ha, n2⟩
            rw [this, Int.mul_zero]
          rw [this, Int.zero_emod])
        exact leW_total.trans _ _ _ (hmax k h2) (top_le h3)
/-- a sum that is not nothing leads by a word that begins with a leading one -/
theorem In.lead (hp : 0 < p) (G : GB p B) {f : Bg} (h : In p B f) (gf : Good p f) (hf : f ≠ []) : ∃ b ∈ B, Beg (lead b) (lead f) := by
  obtain ⟨ks, h1, h2⟩ := h
  obtain ⟨k, h3, h4⟩ := In_lead_aux hp G _ ks (Nat.le_refl _) h1 f gf hf h2
  exact ⟨k.1, h1 k h3, k.2.1, h4⟩
theorem In.none (hp : 0 < p) (G : GB p B) {f : Bg} (h : In p B f) (gf : Good p f) (hn : ∀ u ∈ keys f, ∀ b ∈ B, ¬ Beg (Fp.lead b) u) : f = [] := Classical.byContradiction fun hf => by
  obtain ⟨b, h1, h2⟩ := In.lead hp G h gf hf
  exact hn _ (lead_mem hf) b h1 h2
end Fp

namespace Fp
open PySem
/-! ### rows of one place: taking off ends -/
def rowsOf (ss : List Bg) : List Row := ss.map fun s => [s]
variable {p : Int} {L : Nat}
theorem leadR_one {b : Bg} (h : b ≠ []) : leadR [b] = some (0, lead b) := by unfold leadR; rw [if_neg h]
theorem hitR_one {b : Bg} {w : Str} (h : b ≠ []) : hitR 0 w [b] = none ↔ ¬ Beg (lead b) w := by
  constructor
  · rintro h1 ⟨t, ht⟩
    rw [hitR_of (leadR_one h) ht] at h1
    cases h1
  · intro h1
    cases h2 : hitR 0 w [b] with
    | none => rfl
    | some t =>
      obtain ⟨l, h3, h4⟩ := hitR_some h2
      rw [leadR_one h] at h3
      cases Option.some.inj h3
      exact absurd ⟨t, h4⟩ h1
theorem hit_none {B : List Bg} {w : Str} (hB : ∀ b ∈ B, b ≠ []) : hitB (rowsOf B) 0 w = none ↔ ∀ b ∈ B, ¬ Beg (lead b) w := by
  rw [hitB_none]
  constructor
  · intro h b hb
    exact (hitR_one (hB b hb)).mp (h _ (List.mem_map.mpr ⟨b, hb, rfl⟩))
  · intro h o ho
    obtain ⟨b, hb, rfl⟩ := List.mem_map.mp ho
    exact (hitR_one (hB b hb)).mpr (h b hb)
theorem hit_some {B : List Bg} {w t : Str} {o : Row} (hB : ∀ b ∈ B, b ≠ []) (h : hitB (rowsOf B) 0 w = some (o, t)) : ∃ b ∈ B, o = [b] ∧ w = lead b ++ t := by
  obtain ⟨h1, h2⟩ := hitB_some h
  obtain ⟨b, hb, rfl⟩ := List.mem_map.mp h1
  obtain ⟨l, h3, h4⟩ := hitR_some h2
  rw [leadR_one (hB b hb)] at h3
  cases Option.some.inj h3
  exact ⟨b, hb, rfl, h4⟩
theorem hitF_one (B : List Row) (r : Bg) : hitF B 0 [r] = (hitW B 0 (ordW (keys r))).map fun z => (0, z.1, z.2.1, z.2.2) := by
  unfold hitF
  cases hitW B 0 (ordW (keys r)) with
  | none => rfl
  | some z => rfl
theorem hitW_nil {B : List Row} {ws : List Str} : hitW B 0 ws = none ↔ ∀ w ∈ ws, hitB B 0 w = none := by
  unfold hitW
  rw [List.findSome?_eq_none_iff]
  exact ⟨fun h w hw => by have := h w hw; rwa [Option.map_eq_none_iff] at this, fun h w hw => by rw [h w hw]; rfl⟩
theorem hitW_first {B : List Row} {r : Bg} {w t : Str} {o : Row} (h : hitW B 0 (ordW (keys r)) = some (w, o, t)) : w ∈ keys r ∧ hitB B 0 w = some (o, t) ∧ ∀ u ∈ keys r, hitB B 0 u ≠ none → leW w u = true := by
  unfold hitW at h
  obtain ⟨l1, a, l2, h1, h2, h3⟩ := List.findSome?_eq_some_iff.mp h
  cases h4 : hitB B 0 a with
  | none => rw [h4] at h2; cases h2
  | some q =>
    rw [h4] at h2
    cases Option.some.inj h2
    have hs := ordW_sorted (keys r)
    have hm : ∀ u, u ∈ keys r ↔ u ∈ l1 ++ w :: l2 := fun u => by rw [← h1]; exact (ordW_perm _).mem_iff.symm
    refine ⟨(hm w).mpr (List.mem_append_right _ List.mem_cons_self), h4, fun u hu hh => ?_⟩
    rcases List.mem_append.mp ((hm u).mp hu) with h5 | h5
    · have := h3 u h5
      rw [Option.map_eq_none_iff] at this
      exact absurd this hh
    · rcases List.mem_cons.mp h5 with rfl | h5
      · exact leW_refl _
      · rw [h1] at hs
        exact (List.pairwise_cons.mp (List.pairwise_append.mp hs).2.1).1 u h5
/-- how many words are not ahead of a word -/
def rank (L : Nat) (w : Str) : Nat := ((allW L).filter fun u => leW w u).length
theorem rank_lt {w u : Str} (hw : w ∈ allW L) (h : leW w u = true) (hne : w ≠ u) : rank L u < rank L w := by
  refine filter_lt (p := fun v => leW w v) (q := fun v => leW u v) (fun v hv => leW_total.trans _ _ _ h hv) (a := w) (leW_refl _) ?_ _ hw
  show leW u w = false
  cases q : leW u w with
  | false => rfl
  | true => exact absurd (leW_anti h q) hne
theorem takeR_one (r b : Bg) (t : Str) (c : Int) : takeR p [r] [b] t c = [plusS p r (withB b t) (-c)] := rfl
theorem ltr_app {a b : Str} : Ltr (a ++ b).cps.toList ↔ Ltr a.cps.toList ∧ Ltr b.cps.toList := by
  unfold Ltr
  rw [app_toList]
  exact ⟨fun h => ⟨fun c hc => h c (List.mem_append_left _ hc), fun c hc => h c (List.mem_append_right _ hc)⟩, fun h c hc => (List.mem_append.mp hc).elim (h.1 c) (h.2 c)⟩
theorem Beg.len {l w : Str} (h : Beg l w) : l.length ≤ w.length := by
  obtain ⟨t, rfl⟩ := h
  rw [len_app]
  omega
/-- a word taken off -/
structure Off (p : Int) (L : Nat) (w : Str) (r r1 : Bg) : Prop where
  g : Good p r1
  b : Bd L r1
  z : cf r1 w = 0
  k : ∀ v ∈ keys r1, (v ∈ keys r ∧ v ≠ w) ∨ (leW w v = true ∧ v ≠ w)
  s : ∀ v, leW w v = false → cf r1 v = cf r v
theorem takes_off (hp : 0 < p) {r b : Bg} {t w : Str} (gr : Good p r) (br : Bd L r) (gb : Good p b) (bb : Bd L b) (h1 : cf b (lead b) = 1) (hw : w ∈ keys r) (he : w = lead b ++ t) : Off p L w r (plusS p r (withB b t) (-(cf r w))) := by
  have g := Good.plus (f := -(cf r w)) hp gr (withB b t)
  have nb : (keys (withB b t)).Nodup := withB_nodup gb.nd
  have z : cf (plusS p r (withB b t) (-(cf r w))) w = 0 := by
    have h2 : cf (withB b t) w = 1 := by rw [he, cf_withB gb.nd, h1]
    rw [cf_plus hp gr nb, h2, Int.mul_one, Int.add_right_neg, Int.zero_emod]
  have hk : ∀ v ∈ keys (plusS p r (withB b t) (-(cf r w))), v ∈ keys r ∨ ∃ u ∈ keys b, v = u ++ t := fun v hv => by
    rcases keys_plus hv with h | h
    · exact .inl h
    · rw [withB_keys] at h
      obtain ⟨u, h3, h4⟩ := List.mem_map.mp h
      exact .inr ⟨u, h3, h4.symm⟩
  have hne : ∀ v ∈ keys (plusS p r (withB b t) (-(cf r w))), v ≠ w := fun v hv e => (cf_ne g).mp hv (by rw [e]; exact z)
  obtain ⟨hw1, hw2⟩ := br w hw
  refine ⟨g, fun v hv => ?_, z, fun v hv => ?_, fun v hv => ?_⟩
  · rcases hk v hv with h | ⟨u, h, rfl⟩
    · exact br v h
    · have h3 := lead_len h
      obtain ⟨h4, h5⟩ := bb u h
      rw [he, ltr_app] at hw2
      rw [he, len_app] at hw1
      exact ⟨by rw [len_app]; omega, ltr_app.mpr ⟨h5, hw2.2⟩⟩
  · rcases hk v hv with h | ⟨u, h, e⟩
    · exact .inl ⟨h, hne v hv⟩
    · refine .inr ⟨?_, hne v hv⟩
      rw [e, he]
      exact leW_app (lead_le h) (leW_refl t)
  · rw [cf_plus hp gr nb]
    have : cf (withB b t) v = 0 := Classical.byContradiction fun n => by
      have := top_le n
      rw [← he, hv] at this
      cases this
    rw [this, Int.mul_zero, Int.add_zero, cf_mod hp gr]
theorem Fit.of (hL : lenU L ≤ 3000000) (hL1 : L ≤ 1000000) {r : Bg} (g : Good p r) (b : Bd L r) : Fit p [r] := by
  refine ⟨fun x hx => ?_, fun x hx => ?_, fun x hx u hu => ?_, Nat.le_of_ble_eq_true rfl⟩
  · rw [List.mem_singleton.mp hx]; exact g
  · rw [List.mem_singleton.mp hx]; exact Nat.le_trans (b.len g.nd) hL
  · rw [List.mem_singleton.mp hx] at hu; exact Nat.le_trans (b u hu).1 hL1
/-- a bag of a base -/
structure Bas (p : Int) (L : Nat) (b : Bg) : Prop where
  g : Good p b
  n : b ≠ []
  o : cf b (lead b) = 1
  b : Bd L b
structure Red (p : Int) (L : Nat) (B : List Bg) (r r' : Bg) : Prop where
  g : Good p r'
  b : Bd L r'
  n : ∀ u ∈ keys r', ∀ b ∈ B, ¬ Beg (lead b) u
  i : ∀ C : List Bg, (∀ b ∈ C, (keys b).Nodup) → (∀ b ∈ B, In p C b) → In p C r → In p C r'
  l : ∀ l ∈ keys r, (∀ b ∈ B, ¬ Beg (lead b) l) → (∀ u ∈ keys r, leW l u = true) → cf r' l = cf r l ∧ ∀ u ∈ keys r', leW l u = true
theorem red_ends (hp : 0 < p) (hL : lenU L ≤ 3000000) (hL1 : L ≤ 1000000) {B : List Bg} (hB : ∀ b ∈ B, Bas p L b) : ∀ (k : Nat) (r : Bg), Good p r → Bd L r → (∀ u ∈ keys r, (∃ b ∈ B, Beg (lead b) u) → rank L u < k) → ∃ n r', RedN p (rowsOf B) n [r] [r'] ∧ Red p L B r r' := by
  have hne : ∀ b ∈ B, b ≠ [] := fun b hb => (hB b hb).n
  intro k
  induction k with
  | zero =>
    intro r gr br hr
    have hn : ∀ u ∈ keys r, ∀ b ∈ B, ¬ Beg (lead b) u := fun u hu b hb h => Nat.not_lt_zero _ (hr u hu ⟨b, hb, h⟩)
    refine ⟨0, r, .stop ?_, gr, br, hn, fun C _ _ h => h, fun l _ _ h => ⟨rfl, h⟩⟩
    rw [hitF_one, hitW_nil.mpr fun w hw => (hit_none hne).mpr (hn w ((ordW_perm _).mem_iff.mp hw))]
    rfl
  | succ k ih =>
    intro r gr br hr
    cases hh : hitW (rowsOf B) 0 (ordW (keys r)) with
    | none =>
      have hn : ∀ u ∈ keys r, ∀ b ∈ B, ¬ Beg (lead b) u := fun u hu => (hit_none hne).mp (hitW_nil.mp hh u ((ordW_perm _).mem_iff.mpr hu))
      refine ⟨0, r, .stop ?_, gr, br, hn, fun C _ _ h => h, fun l _ _ h => ⟨rfl, h⟩⟩
      rw [hitF_one, hh]
      rfl
    | some z =>
      obtain ⟨w, o, t⟩ := z
      obtain ⟨h1, h2, h3⟩ := hitW_first hh
      obtain ⟨b, hb, rfl, he⟩ := hit_some hne h2
      have bb := hB b hb
      have off := takes_off hp gr br bb.g bb.b bb.o h1 he
      have hwk : rank L w < k + 1 := hr w h1 ⟨b, hb, t, he⟩
      have hwa : w ∈ allW L := mem_allW (br w h1).1 (br w h1).2
      obtain ⟨n, r', hred, R⟩ := ih _ off.g off.b fun u hu hub => by
        have hwu : leW w u = true ∧ u ≠ w := by
          rcases off.k u hu with ⟨h4, h5⟩ | h4
          · refine ⟨h3 u h4 fun h6 => ?_, h5⟩
            obtain ⟨c, hc, h7⟩ := hub
            exact (hit_none hne).mp h6 c hc h7
          · exact h4
        have := rank_lt hwa hwu.1 fun e => hwu.2 e.symm
        omega
      refine ⟨n + 1, r', RedN.step (i := 0) (w := w) (o := [b]) (t := t) (by rw [hitF_one, hh]; rfl) (Fit.of hL hL1 off.g off.b) hred, R.g, R.b, R.n, fun C hC hBC hr2 => R.i C hC hBC ?_, fun l hl hlB hle => ?_⟩
      · exact In.plus hp gr (withB_nodup bb.g.nd) hr2 (In.withB hC bb.g.nd (hBC b hb))
      · have hlw : l ≠ w := fun e => hlB b hb (by rw [e]; exact ⟨t, he⟩)
        have hwl : leW w l = false := by
          cases q : leW w l with
          | false => rfl
          | true => exact absurd (leW_anti (hle w h1) q) hlw
        have hs := off.s l hwl
        have hl2 : l ∈ keys (plusS p r (withB b t) (-(cf r w))) := cf_key (by rw [hs]; exact (cf_ne gr).mp hl)
        obtain ⟨h4, h5⟩ := R.l l hl2 hlB fun u hu => by
          rcases off.k u hu with ⟨h6, _⟩ | ⟨h6, _⟩
          · exact hle u h6
          · exact leW_total.trans _ _ _ (hle w h1) h6
        exact ⟨by rw [h4, hs], h5⟩
theorem red_runs (hp : 0 < p) (hL : lenU L ≤ 3000000) (hL1 : L ≤ 1000000) {B : List Bg} (hB : ∀ b ∈ B, Bas p L b) {r : Bg} (gr : Good p r) (br : Bd L r) : ∃ n r', RedN p (rowsOf B) n [r] [r'] ∧ Red p L B r r' :=
  red_ends hp hL hL1 hB (lenU L + 1) r gr br fun u _ _ => by
    have := List.length_filter_le (fun v => leW u v) (allW L)
    have h2 : (allW L).length = lenU L := by unfold allW; rw [List.length_map, allL_len]
    unfold rank
    omega
end Fp

namespace Fp
open PySem L2
section
variable {P : Program} {w : World} {K : PySem.W.Frag} {mg : Str → Option Value} {base : Heap} {C_Bag : Addr} {Cs : Addr → Prop}
local macro_rules | `(tactic| walk_at "hp") => `(tactic| first | assumption | rfl)
local macro_rules | `(tactic| walk_at "cond") => `(tactic| first | assumption | decide | omega | (unfold CMul; omega) | (refine ⟨?_, ?_⟩ <;> omega) | (unfold CDiv; omega) | (unfold CPow; omega))
local macro_rules | `(tactic| walk_at "g1") => `(tactic| first
  | with_reducible first
    | refine g_seq ?_ | refine g_asg ?_ | refine g_name ?_ | refine g_ret ?_ | refine g_retN ?_ | refine g_drop ?_ | refine g_ifs ?_
    | refine g_c ?_ | refine g_op ?_ | refine g_un ?_ | refine g_I0 ?_ | refine g_U ?_
    | refine g_test ?_ | refine g_tB ?_ | refine g_bl ?_ | refine g_and ?_ | refine g_or ?_ | refine g_not ?_
    | refine g_andV ?_ | refine g_orV ?_ | refine g_notV ?_ | refine g_if ?_ | refine g_nil ?_ | refine g_cons ?_ | refine g_cb ?_ | refine g_call ?_
    | refine g_lst ?_ | refine g_tup ?_ | refine g_itT ?_ | refine g_itF ?_ | refine g_itNT ?_ | refine g_itNF ?_ | refine g_lc ?_ | refine g_iStr ?_ | refine g_yes ?_ | refine g_exs ?_
    | refine g_chain ?_ | refine g_dget ?_ | refine g_dput ?_ | refine g_dget2 ?_ | refine g_dpop2 ?_ | refine g_fld ?_ | refine g_sfld ?_ | refine g_make ?_ | refine g_meth ?_
    | refine g_bm ?_ | refine g_kw ?_ | refine g_callS ?_ | refine g_revL ?_ | refine g_m1 ?_ | refine g_gsub ?_ | refine g_for ?_ | refine g_iList ?_ | refine g_iTup ?_ | refine g_iRng1 ?_ | refine g_iRng2 ?_ | refine g_sl ?_ | refine g_part ?_ | refine g_noPart ?_
    | refine g_exi ?_ | refine g_exr ?_ | refine g_dnew ?_ | refine g_disp ?_ | refine g_prs0 ?_ | refine g_prs ?_ | refine g_nxt ?_
  | ((with_reducible refine g_var (v := ?vv) ?gv ?_); (case gv => exact rfl))
  | ((with_reducible refine g_I ?gc ?_); (case gc => walk_at "cond"))
  | ((with_reducible refine g_eq ?ge ?_); (case ge => exact rfl))
  | ((with_reducible refine g_ne ?ge ?_); (case ge => exact rfl))
  | (refine g_ixl (SqL.of (by first | assumption | exact upd_same)) rfl ?_)
  | (refine g_setl (by first | assumption | exact upd_same) rfl ?_)
  | ((with_reducible show (∃ i, [V.int _] = [V.int i] ∧ _) ∨ _); refine Or.inl ⟨_, rfl, ?_⟩)
  | ((with_reducible show ∃ i, [V.int _] = [V.int i] ∧ _); refine ⟨_, rfl, ?_⟩)
  | dsimp only)
local macro_rules | `(tactic| walk_at "go") => `(tactic| repeat (walk_at "g1"))

local macro_rules | `(tactic| walk_at "g1") => `(tactic| with_reducible first | refine g_gcons ?_ | refine g_gnil ?_)

/-! ### rows of bags: lists or tuples -/
theorem ty_seq {H : Hp} {a : Addr} {xs : List V} (h : SqL K H a xs ∨ SqT K H a xs) : ∃ t, TyX K H (.ref a) (.type t) ∧ (t = "list" ∨ t = "tuple") := by
  rcases h with (h | ⟨o, its, n, h1, h2, h3⟩) | (h | ⟨o, its, n, h1, h2, h3⟩)
  · rcases h with h | ⟨o, h⟩
    · exact ⟨_, .base (.lst h), .inl rfl⟩
    · exact ⟨_, .base (.frz h), .inl rfl⟩
  · exact ⟨_, .kList h1 h2, .inl rfl⟩
  · rcases h with h | ⟨o, h⟩
    · exact ⟨_, .base (.tup h), .inr rfl⟩
    · exact ⟨_, .fTuple h, .inr rfl⟩
  · exact ⟨_, .kTuple h1 h2, .inr rfl⟩
theorem g_iSeq {te : TE} {σ : St} {H : Hp} {R : It → Hp → Prop} {a : Addr} {xs : List V} (hs : SqL K H a xs ∨ SqT K H a xs) (he : ∀ Q : VK, Q (.ref a) H → te σ H Q)
    (hR : ∀ J G, Walk J xs.length G (YAt xs) → (∀ H', Ex H H' → G H') → R J H) : iSeq K te σ H R := by
  rcases hs with hs | hs
  · exact .inl (he _ ⟨a, rfl, ⟨xs, hs⟩, hR _ _ walk_list fun H' e => e.sql hs⟩)
  · exact .inr (he _ ⟨a, rfl, ⟨xs, hs⟩, hR _ _ walk_tup fun H' e => e.sqt hs⟩)
theorem g_ixq {H : Hp} {a : Addr} {xs : List V} {k : Int} {v : V} {Q : VK} (hs : SqL K H a xs ∨ SqT K H a xs) (ha : atI xs k = some v) (h : Q v H) : rIx K (.ref a) (.int k) H Q :=
  hs.elim (fun hs => .inl (g_ixl hs ha h)) fun hs => .inr (.inl (g_ixt hs ha h))
structure BagsAt (K : PySem.W.Frag) (Cs : Addr → Prop) (H : Hp) (a : Addr) (p : Int) (ss : List Bg) : Prop where
  ex : ∃ xs : List Addr, (SqL K H a (xs.map V.ref) ∨ SqT K H a (xs.map V.ref)) ∧ Paired (fun x s => BagAt Cs H x p s) xs ss
theorem BagsAt.ex' {H H' : Hp} {a : Addr} {p : Int} {ss : List Bg} (e : Ex H H') (h : BagsAt K Cs H a p ss) : BagsAt K Cs H' a p ss := by
  obtain ⟨xs, h1, h2⟩ := h.ex
  exact ⟨xs, h1.elim (fun h => .inl (e.sql h)) (fun h => .inr (e.sqt h)), Paired.mapP h2 fun _ _ z => z.ex' e⟩
def sp_is_listed (K : PySem.W.Frag) : Sp := fun vs H Q _ => ∃ (a : Addr) (xs : List V), vs = [.ref a] ∧ (SqL K H a xs ∨ SqT K H a xs) ∧ ∀ H', Ex H H' → Q (.bl true) H'
theorem ok_is_listed {f : Addr} {fd : FuncData} (F : Fun K "is_listed" "is_listed" s_is_listed f fd) (T : Txt K mg C_Bag Cs) : FnOk P w K mg base CX0 1 f fd ["thing"] (sp_is_listed K) := by
  refine F.ok sc_is_listed (fun vs H Q E h => ?_) (fun cdv A outer s H vs Q E hr h => ?_)
  · obtain ⟨a, xs, rfl, _⟩ := h
    rfl
  · obtain ⟨a, xs, rfl, hs, k⟩ := h
    have hu := hu_of hr; have hu64 := L2.Room.units hr; refine ⟨_, (pss_one (ps_ret (pe_callB call_isiT (by rfl) T.b_isinstance (by decide +kernel) (pa_cons (pv 0) (pa_cons (pe_tup (pa_cons (pe_bltn (v := .ty "list") rfl T.b_list (by decide +kernel) rfl) (pa_cons (pe_bltn (v := .ty "tuple") rfl T.b_tuple (by decide +kernel) rfl) pa_nil))) pa_nil))))), ?_⟩; rw [st_is_listed]; (try dsimp only [cxOf]); walk_at "go"
    refine ⟨Nat.le_of_ble_eq_true rfl, fun tp htp => ?_⟩
    walk_at "go"
    have e1 := Ex.new (o := .tup [.ty "list", .ty "tuple"]) htp
    obtain ⟨t, ht, hlt⟩ := ty_seq (hs.elim (fun h => Or.inl (e1.sql h)) (fun h => Or.inr (e1.sqt h)))
    refine ⟨.ref a, tp, _, .type t, _, true, rfl, upd_same, .cons (.ty "list") (.cons (.ty "tuple") .nil), ht, ?_, k _ e1⟩
    rcases hlt with rfl | rfl
    · exact kitAny_cons (b := true) (r := true) (kit_ty (by decide +kernel)) (fun h => nomatch h) (fun _ => rfl)
    · exact kitAny_cons (b := false) (r := true) (kit_ty (by decide +kernel)) (fun _ => kitAny_cons (b := true) (r := true) (kit_ty (by decide +kernel)) (fun h => nomatch h) (fun _ => rfl)) (fun h => nomatch h)
theorem all_true (n : Nat) : (List.replicate n true).all id = true := List.all_eq_true.mpr fun x hx => by rw [List.eq_of_mem_replicate hx]; rfl
def sp_are_bags_alike (K : PySem.W.Frag) (Cs : Addr → Prop) : Sp := fun vs H Q _ => ∃ (a : Addr) (p most : Int) (ss : List Bg), vs = [.ref a, .int most] ∧ BagsAt K Cs H a p ss ∧ ss ≠ [] ∧ ss.length ≤ 10000000 ∧ (ss.length : Int) ≤ most ∧ ∀ H', Ex H H' → Q (.bl true) H'
theorem ok_are_bags_alike {f : Addr} {fd : FuncData} (F : Fun K "are_bags_alike" "are_bags_alike" s_are_bags_alike f fd) (T : Txt K mg C_Bag Cs) (D_is_listed : DefOk P w K mg base CX0 1 "is_listed" ["thing"] (sp_is_listed K)) : FnOk P w K mg base CX0 2 f fd ["thing", "most"] (sp_are_bags_alike K Cs) := by
  refine F.ok sc_are_bags_alike (fun vs H Q E h => ?_) (fun cdv A outer s H vs Q E hr h => ?_)
  · obtain ⟨a, p, most, ss, rfl, _⟩ := h
    rfl
  · obtain ⟨a, p, most, ss, rfl, hb, hne, hz, hmost, k⟩ := h
    obtain ⟨xs, hsq, hps⟩ := hb.ex
    have hlen := hps.length
    have hpos : 0 < ss.length := List.length_pos_iff.mpr hne
    have hu := hu_of hr; have hu64 := L2.Room.units hr; refine ⟨_, (pss_cons (ps_if (PW.pt (pw_or (pt_not (pt_val (pe_callD D_is_listed (hr.mono (by decide)) rfl pass0 (pa_cons (pv 0) pa_nil)))) (pw_or (pt_not (pt_chain op_le op_le pe_int (pe_callB call_len_seq (by rfl) T.b_len (by decide +kernel) (pa_cons (pv 0) pa_nil)) (pv 1))) (pw_or1 (pt_not (pt_val (pe_callB (r := rAll K) (cr_all rfl) (by rfl) T.b_all (by decide +kernel) (pa_cons (pe_lc (own := [("bag", 2)]) (g := (gName 2)) (tt := tYes) rfl sc_are_bags_alike.nd (pi_seqK (K := K) rfl (pv 0)) (blkOk_by (N := N_are_bags_alike) (sc := defScope s_are_bags_alike) (by decide +kernel)) (fun _ _ _ _ _ => (pg_name (i := 2) sc_are_bags_alike.nd rfl (by first | exact Or.inl rfl | exact Or.inr rfl))) (fun _ _ _ _ _ => pts_nil) (fun _ _ _ _ _ => (pe_callB (r := rIsi K) call_isi (by rfl) T.b_isinstance (by decide +kernel) (pa_cons (pv 2) (pa_cons (pe_glob (v := .ref C_Bag) rfl T.c_Bag rfl) pa_nil))))) pa_nil)))))))) (pss_one (ps_ret pe_bl)) pss_nil) (pss_one (ps_ret (pe_callB (r := rAll K) (cr_all rfl) (by rfl) T.b_all (by decide +kernel) (pa_cons (pe_lc (own := [("bag", 2)]) (g := (gName 2)) (tt := tYes) rfl sc_are_bags_alike.nd (pi_seqK (K := K) rfl (pv 0)) (blkOk_by (N := N_are_bags_alike) (sc := defScope s_are_bags_alike) (by decide +kernel)) (fun _ _ _ _ _ => (pg_name (i := 2) sc_are_bags_alike.nd rfl (by first | exact Or.inl rfl | exact Or.inr rfl))) (fun _ _ _ _ _ => pts_nil) (fun _ _ _ _ _ => (pe_cmpR op_eq (pe_fldK (K := K) rfl (pv 2) rfl) (pe_fldK (K := K) rfl (pe_ix (r := rIx K) ix_seq (pv 0) pe_int (fun _ _ => rfl)) rfl) (nomark _)))) pa_nil))))), ?_⟩; rw [st_are_bags_alike]; (try dsimp only [cxOf]); walk_at "go"
    refine ⟨a, _, rfl, hsq, fun H1 e1 => ?_⟩
    have hsq1 := hsq.elim (fun h => Or.inl (e1.sql h)) (fun h => Or.inr (e1.sqt h))
    walk_at "go"
    refine ⟨a, _, rfl, hsq1, ?_⟩
    walk_at "go"
    have hl0 : (xs.map V.ref).length = ss.length := by rw [List.length_map, hlen]
    rw [hl0, if_pos (decide_eq_true (by omega))]
    walk_at "go"
    rw [decide_eq_true hmost]
    walk_at "go"
    refine g_iSeq hsq1 (fun Q q => ⟨_, rfl, q⟩) fun J G wk hG => ?_
    refine lc_pure (j := 2) wk (List.replicate xs.length (V.bl true)) (by rw [List.length_replicate, List.length_map]) (by rw [List.length_map]; exact line5 (by omega)) hG (fun _ => rfl) ?_ ?_
    · rintro i x y H2 H3 Kc hi e2 ⟨rfl, hx⟩ hy hk
      obtain rfl := List.eq_of_mem_replicate (List.mem_of_getElem? hy)
      rw [List.getElem?_map] at hx
      cases hm : xs[i]? with
      | none => rw [hm] at hx; cases hx
      | some b =>
        rw [hm] at hx
        obtain rfl := (Option.some.inj hx).symm
        obtain ⟨s, _, hbs⟩ := paired_get hps hm
        obtain ⟨C, dx, d, k1, t1, hc, h1, _, _⟩ := (hbs.ex' (e1.trans e2)).ex
        walk_at "go"
        refine g_isC (b := true) (bag_ty T hc h1) (T.c_isB C hc) ?_
        exact hk _ (Ex.refl _)
    · intro D H2 hD e2 hl2
      walk_at "go"
      refine ⟨D, List.replicate xs.length true, rfl, SqL.of (by rw [hl2, List.map_replicate]), ?_⟩
      rw [all_true]
      walk_at "go"
      have e12 := e1.trans e2
      have hsq2 := hsq.elim (fun h => Or.inl (e12.sql h)) (fun h => Or.inr (e12.sqt h))
      refine g_iSeq hsq2 (fun Q q => ⟨_, rfl, q⟩) fun J G wk hG => ?_
      refine lc_pure (j := 2) wk (List.replicate xs.length (V.bl true)) (by rw [List.length_replicate, List.length_map]) (by rw [List.length_map]; exact line5 (by omega)) hG (fun _ => rfl) ?_ ?_
      · rintro i x y H3 H4 Kc hi e3 ⟨rfl, hx⟩ hy hk
        obtain rfl := List.eq_of_mem_replicate (List.mem_of_getElem? hy)
        rw [List.getElem?_map] at hx
        cases hm : xs[i]? with
        | none => rw [hm] at hx; cases hx
        | some b =>
          rw [hm] at hx
          obtain rfl := (Option.some.inj hx).symm
          obtain ⟨s, _, hbs⟩ := paired_get hps hm
          have e13 := e12.trans e3
          obtain ⟨C, dx, d, k1, t1, hc, h1, _, _⟩ := (hbs.ex' e13).ex
          walk_at "go"
          refine ⟨b, C, dx, _, _, rfl, h1, T.cls C hc, T.n_clock C hc, bagF_clock _ _ _ _, ?_⟩
          walk_at "go"
          obtain ⟨b0, hb0⟩ : ∃ b0, xs[0]? = some b0 := ⟨xs[0], List.getElem?_eq_getElem (by omega)⟩
          obtain ⟨s0, _, hbs0⟩ := paired_get hps hb0
          obtain ⟨C0, dx0, d0, k0, t0, hc0, h10, _, _⟩ := (hbs0.ex' e13).ex
          refine g_ixq (v := .ref b0) (hsq.elim (fun h => Or.inl (e13.sql h)) (fun h => Or.inr (e13.sqt h))) (atI_get (by decide) (by show (xs.map V.ref)[0]? = _; rw [List.getElem?_map, hb0]; rfl)) ?_
          walk_at "go"
          refine ⟨b0, C0, dx0, _, _, rfl, h10, T.cls C0 hc0, T.n_clock C0 hc0, bagF_clock _ _ _ _, ?_⟩
          walk_at "go"
          rw [decide_eq_true rfl]
          exact hk _ (Ex.refl _)
      · intro D2 H3 hD2 e3 hl3
        walk_at "go"
        refine ⟨D2, List.replicate xs.length true, rfl, SqL.of (by rw [hl3, List.map_replicate]), ?_⟩
        rw [all_true]
        walk_at "go"
        exact k _ (e12.trans e3)

def sp_check_row (K : PySem.W.Frag) (Cs : Addr → Prop) : Sp := fun vs H Q _ => ∃ (a : Addr) (p : Int) (ss : List Bg), vs = [.ref a] ∧ BagsAt K Cs H a p ss ∧ ss ≠ [] ∧ ss.length ≤ 6 ∧ ∀ H', Ex H H' → Q .non H'
theorem ok_check_row {f : Addr} {fd : FuncData} (F : Fun K "check_row" "check_row" s_check_row f fd) (T : Txt K mg C_Bag Cs) (hMB : ∃ t, mg "MOST_BAGS" = some (.int 6 t)) (D_are_bags_alike : DefOk P w K mg base CX0 2 "are_bags_alike" ["thing", "most"] (sp_are_bags_alike K Cs)) : FnOk P w K mg base CX0 3 f fd ["thing"] (sp_check_row K Cs) := by
  refine F.ok sc_check_row (fun vs H Q E h => ?_) (fun cdv A outer s H vs Q E hr h => ?_)
  · obtain ⟨a, p, ss, rfl, _⟩ := h
    rfl
  · obtain ⟨a, p, ss, rfl, hb, hne, hz, k⟩ := h
    obtain ⟨tMB, T_MOST_BAGS⟩ := hMB
    have hu := hu_of hr; have hu64 := L2.Room.units hr; refine ⟨_, (pss_one (ps_if (pt_not (pt_val (pe_callD D_are_bags_alike (hr.mono (by decide)) rfl pass0 (pa_cons (pv 0) (pa_cons (pe_glob (v := .int 6) rfl T_MOST_BAGS ⟨_, rfl⟩) pa_nil))))) (pss_one ps_never) pss_nil)), ?_⟩; rw [st_check_row]; (try dsimp only [cxOf]); walk_at "go"
    refine ⟨a, p, 6, ss, rfl, hb, hne, by omega, by omega, fun H1 e1 => ?_⟩
    walk_at "go"
    exact k _ e1
def sp_row_base (K : PySem.W.Frag) (Cs : Addr → Prop) : Sp := fun vs H Q _ => ∃ (a : Addr) (p : Int) (ss : List Bg) (res fin : List Row) (n : Nat), vs = [.ref a] ∧ BagsAt K Cs H a p ss ∧ ss ≠ [] ∧ ss.length ≤ 1000 ∧ (∀ s ∈ ss, Fit p [s]) ∧ LedN p n ((rowsOf ss).filter fun r => !idleR r) [] res ∧ Prm p ∧ RedAll p 1 0 (sortR res) fin ∧ (∀ r ∈ fin, r.length = 1) ∧ fin.length ≤ 1000 ∧
  ∀ l us H', Ex H H' → H l = none → H' l = some (.lst (us.map V.ref)) → Paired (fun d r => H' d = some (.dK (toK (atR r 0)))) us fin → Q (.ref l) H'
theorem ok_row_base {f : Addr} {fd : FuncData} (F : Fun K "row_base" "row_base" s_row_base f fd) (T : Txt K mg C_Bag Cs) (D_reduced_base : DefOk P w K mg base CX0 10 "reduced_base" ["clock", "rows"] (sp_reduced_base K)) : FnOk P w K mg base CX0 11 f fd ["bags"] (sp_row_base K Cs) := by
  refine F.ok sc_row_base (fun vs H Q E h => ?_) (fun cdv A outer s H vs Q E hr h => ?_)
  · obtain ⟨a, p, ss, res, fin, n, rfl, _⟩ := h
    rfl
  · obtain ⟨a, p, ss, res, fin, n, rfl, hb, hne, hz, hfit, hled, hp, hra, hfin, hfl, k⟩ := h
    obtain ⟨xs, hsq, hps⟩ := hb.ex
    have hlen := hps.length
    have hpos : 0 < ss.length := List.length_pos_iff.mpr hne
    have hu := hu_of hr; have hu64 := L2.Room.units hr; refine ⟨_, (pss_one (ps_ret (pe_lc (own := [("row", 1)]) (g := (gName 1)) (tt := tYes) rfl sc_row_base.nd (pi_list (pe_callD D_reduced_base (hr.mono (by decide)) rfl pass0 (pa_cons (pe_fldK (K := K) rfl (pe_ix (r := rIx K) ix_seq (pv 0) pe_int (fun _ _ => rfl)) rfl) (pa_cons (pe_lc (own := [("bag", 2)]) (g := (gName 2)) (tt := tYes) rfl sc_row_base.nd (pi_seqK (K := K) rfl (pv 0)) (blkOk_by (N := N_row_base) (sc := defScope s_row_base) (by decide +kernel)) (fun _ _ _ _ _ => (pg_name (i := 2) sc_row_base.nd rfl (by first | exact Or.inl rfl | exact Or.inr rfl))) (fun _ _ _ _ _ => pts_nil) (fun _ _ _ _ _ => (pe_tup (pa_cons (pe_fldK (K := K) rfl (pv 2) rfl) pa_nil)))) pa_nil)))) (blkOk_by (N := N_row_base) (sc := defScope s_row_base) (by decide +kernel)) (fun _ _ _ _ _ => (pg_name (i := 1) sc_row_base.nd rfl (by first | exact Or.inl rfl | exact Or.inr rfl))) (fun _ _ _ _ _ => pts_nil) (fun _ _ _ _ _ => (pe_ix (r := rIxT K) ix_tup (pv 1) pe_int (fun _ _ => rfl)))))), ?_⟩; rw [st_row_base]; (try dsimp only [cxOf]); walk_at "go"
    obtain ⟨b0, hb0⟩ : ∃ b0, xs[0]? = some b0 := ⟨xs[0], List.getElem?_eq_getElem (by omega)⟩
    obtain ⟨s0, _, hbs0⟩ := paired_get hps hb0
    obtain ⟨C0, dx0, d0, k0, t0, hc0, h10, _, _⟩ := hbs0.ex
    refine g_ixq (v := .ref b0) hsq (atI_get (by decide) (by show (xs.map V.ref)[0]? = _; rw [List.getElem?_map, hb0]; rfl)) ?_
    walk_at "go"
    refine ⟨b0, C0, dx0, _, _, rfl, h10, T.cls C0 hc0, T.n_clock C0 hc0, bagF_clock _ _ _ _, ?_⟩
    walk_at "go"
    refine g_iSeq hsq (fun Q q => ⟨_, rfl, q⟩) fun J G wk hG => ?_
    refine lc_relL (j := 2) wk (rowsOf ss) (by unfold rowsOf; rw [List.length_map, List.length_map, hlen]) (by rw [List.length_map]; exact line5 (by omega)) hG (fun r y H => ∃ t, y = V.ref t ∧ RowAt H t r) (fun r y H H' e ⟨t, h8, h9⟩ => ⟨t, h8, h9.exl e⟩) (fun _ => rfl) ?_ ?_
    · rintro i x r H2 H3 Kc hi e2 ⟨rfl, hx⟩ hr2 hk
      rw [List.getElem?_map] at hx
      cases hm : xs[i]? with
      | none => rw [hm] at hx; cases hx
      | some b =>
        rw [hm] at hx
        obtain rfl := (Option.some.inj hx).symm
        obtain ⟨s, hs, hbs⟩ := paired_get hps hm
        unfold rowsOf at hr2
        rw [List.getElem?_map, hs] at hr2
        obtain rfl := Option.some.inj hr2
        obtain ⟨C, dx, d, k1, t1, hc, h1, hd, _⟩ := (hbs.ex' e2).ex
        walk_at "go"
        refine ⟨b, C, dx, _, _, rfl, h1, T.cls C hc, T.n_sparse C hc, bagF_sparse _ _ _ _, ?_⟩
        walk_at "go"
        refine ⟨Nat.le_of_ble_eq_true rfl, fun q hq => ?_⟩
        have e3 := Ex.new (o := .tup [V.ref d]) hq
        exact hk _ _ e3 ⟨q, rfl, ⟨[d], .inl upd_same, .cons (e3 _ _ hd) .nil⟩⟩
    · intro D H2 ys hD e2 hD2 hys
      obtain ⟨ts, rfl, hts⟩ := RowsAt.of hys
      walk_at "go"
      refine ⟨p, D, ts, rowsOf ss, res, fin, 1, n, rfl, SqL.of hD2, hts, fun r hr2 => ?_, by unfold rowsOf; rw [List.length_map]; exact hz, hled, hp, hra, fun l us H3 e3 hl hl3 hus => ?_⟩
      · obtain ⟨s, hs, rfl⟩ := List.mem_map.mp hr2
        exact ⟨hfit s hs, rfl⟩
      · walk_at "go"
        have hul := hus.p.length
        refine ⟨⟨_, SqL.of hl3⟩, ?_⟩
        refine lc_relL walk_list fin (by rw [List.length_map, hul]) (by rw [List.length_map]; exact line5 (by omega)) (fun H' e => SqL.of (e _ _ hl3)) (fun r y H => ∃ d, y = V.ref d ∧ H d = some (.dK (toK (atR r 0)))) (fun r y H H' e ⟨d, h8, h9⟩ => ⟨d, h8, e _ _ (fun _ z => nomatch z) h9⟩) (fun _ => rfl) ?_ ?_
        · rintro i x r H4 H5 Kc hi e4 ⟨rfl, hx⟩ hr2 hk
          rw [List.getElem?_map] at hx
          cases hm : us[i]? with
          | none => rw [hm] at hx; cases hx
          | some b =>
            rw [hm] at hx
            obtain rfl := (Option.some.inj hx).symm
            obtain ⟨r2, hr3, hbs⟩ := paired_get hus.p hm
            rw [hr2] at hr3
            obtain rfl := Option.some.inj hr3
            have h1r := hfin r (List.mem_of_getElem? hr2)
            obtain ⟨ds, hd1, hd2⟩ := (hbs.ex' e4).ex
            obtain ⟨c, rfl⟩ : ∃ c, r = [c] := by
              match r, h1r with
              | [c], _ => exact ⟨c, rfl⟩
            cases hd2 with
            | cons hd3 hd4 =>
              cases hd4
              walk_at "go"
              refine g_ixt (v := .ref _) (.inl hd1) rfl ?_
              exact hk _ _ (Ex.refl _) ⟨_, rfl, hd3⟩
        · intro D2 H4 ys2 hD2' e4 hD3 hys2
          obtain ⟨vs, rfl, hvs⟩ := paired_refs hys2
          exact k D2 vs H4 (e2.trans (e3.trans e4)) ((e2.trans e3).free hD2') hD3 hvs
def sp_base (K : PySem.W.Frag) (Cs : Addr → Prop) : Sp := fun vs H Q _ => ∃ (a : Addr) (p : Int) (ss : List Bg) (res fin : List Row) (n : Nat), vs = [.ref a] ∧ BagsAt K Cs H a p ss ∧ ss ≠ [] ∧ ss.length ≤ 6 ∧ (∀ s ∈ ss, Fit p [s]) ∧ LedN p n ((rowsOf ss).filter fun r => !idleR r) [] res ∧ Prm p ∧ RedAll p 1 0 (sortR res) fin ∧ (∀ r ∈ fin, Fit p r ∧ r.length = 1) ∧ fin.length ≤ 1000 ∧
  ∀ l us H', Ex H H' → H l = none → H' l = some (.lst (us.map V.ref)) → Paired (fun x r => BagAt Cs H' x p (atR r 0)) us fin → Q (.ref l) H'
end
end Fp

namespace Fp
open PySem
/-! ### rows of one place: the reduced base -/
variable {p : Int} {L : Nat}
def PFL (ls : List Str) : Prop := ls.Pairwise fun a b => ¬ Beg a b ∧ ¬ Beg b a
theorem PFL.perm {ls ms : List Str} (h : ls.Perm ms) (hp : PFL ls) : PFL ms := (h.pairwise_iff fun z => ⟨z.2, z.1⟩).mp hp
theorem PFL.mid {a b : List Str} {l : Str} (h : PFL (a ++ l :: b)) : ∀ m ∈ a ++ b, ¬ Beg m l ∧ ¬ Beg l m := by
  obtain ⟨_, h2, h3⟩ := List.pairwise_append.mp h
  intro m hm
  rcases List.mem_append.mp hm with h4 | h4
  · exact h3 m h4 l List.mem_cons_self
  · exact ((List.pairwise_cons.mp h2).1 m h4).symm
theorem PFL.same {B : List Bg} (h : PFL (B.map lead)) : ∀ b ∈ B, ∀ c ∈ B, Beg (lead b) (lead c) → b = c := by
  intro b hb c hc hbc
  obtain ⟨x, y, rfl⟩ := List.append_of_mem hc
  rw [List.map_append, List.map_cons] at h
  have h1 := PFL.mid h
  rcases List.mem_append.mp hb with h2 | h2
  · exact absurd hbc (h1 _ (List.mem_append_left _ (List.mem_map.mpr ⟨b, h2, rfl⟩))).1
  · rcases List.mem_cons.mp h2 with h2 | h2
    · exact h2
    · exact absurd hbc (h1 _ (List.mem_append_right _ (List.mem_map.mpr ⟨b, h2, rfl⟩))).1
theorem GB.of {B : List Bg} (hB : ∀ b ∈ B, Bas p L b) (h : PFL (B.map lead)) : GB p B := ⟨fun b hb => ⟨(hB b hb).g, (hB b hb).n, (hB b hb).o⟩, PFL.same h⟩
structure Nrm (p : Int) (L : Nat) (B : List Bg) (c : Bg) : Prop where
  s : Bas p L c
  i : In p B c
  n : ∀ u ∈ keys c, u ≠ lead c → ∀ b ∈ B, ¬ Beg (lead b) u
theorem Nrm.uniq (hp : 0 < p) {B : List Bg} (G : GB p B) {c d : Bg} (hc : Nrm p L B c) (hd : Nrm p L B d) (e : lead c = lead d) : ∀ w, cf c w = cf d w := by
  have gc := hc.s.g
  have gd := hd.s.g
  have hcf : ∀ w, cf (plusS p c d (-1)) w = (cf c w + -1 * cf d w) % p := fun w => cf_plus hp gc gd.nd (-1) w
  have g := Good.plus (f := -1) hp gc d
  have hz : plusS p c d (-1) = [] := In.none hp G (In.plus hp gc gd.nd hc.i hd.i) g fun u hu b hb => by
    have hul : u ≠ lead c := fun z => (cf_ne g).mp hu (by
      rw [hcf, z, hc.s.o, e, hd.s.o]
      exact Int.zero_emod p)
    rcases keys_plus hu with h | h
    · exact hc.n u h hul b hb
    · exact hd.n u h (by rw [← e]; exact hul) b hb
  intro w
  have := hcf w
  rw [hz, cf_nil] at this
  have h1 := cf_nonneg gc w
  have h2 := cf_lt hp gc w
  have h3 := cf_nonneg gd w
  have h4 := cf_lt hp gd w
  have h5 : (cf c w - cf d w) % p = 0 := by rw [this]; exact congrArg (· % p) (by omega)
  have h6 := Int.emod_emod_of_dvd (cf c w - cf d w) (Int.dvd_refl p)
  obtain ⟨k, hk⟩ := Int.dvd_of_emod_eq_zero h5
  have h7 : k = 0 := by
    rcases Int.lt_trichotomy k 0 with h | h | h
    · have : p * k ≤ p * (-1) := Int.mul_le_mul_of_nonneg_left (by omega) (by omega)
      omega
    · exact h
    · have : p * 1 ≤ p * k := Int.mul_le_mul_of_nonneg_left (by omega) (by omega)
      omega
  rw [h7, Int.mul_zero] at hk
  omega
theorem rows_app (a b : List Bg) : rowsOf (a ++ b) = rowsOf a ++ rowsOf b := List.map_append
theorem rows_len (a : List Bg) : (rowsOf a).length = a.length := List.length_map _
theorem mid_get {α : Type} (a : List α) (c : α) (d : List α) : (a ++ c :: d)[a.length]? = some c := by
  rw [List.getElem?_append_right (Nat.le_refl _), Nat.sub_self]
  rfl
theorem mid_take {α : Type} (a : List α) (c : α) (d : List α) : (a ++ c :: d).take a.length = a := List.take_left' rfl
theorem mid_drop {α : Type} (a : List α) (c : α) (d : List α) : (a ++ c :: d).drop (a.length + 1) = d := by
  induction a with
  | nil => rfl
  | cons x a ih => exact ih
theorem mid_set {α : Type} (a : List α) (c x : α) (d : List α) : (a ++ c :: d).set a.length x = a ++ x :: d := by
  induction a with
  | nil => rfl
  | cons y a ih => exact congrArg (y :: ·) ih
theorem Bas.led (hL : lenU L ≤ 3000000) (hL1 : L ≤ 1000000) {B : List Bg} (hB : ∀ b ∈ B, Bas p L b) : LedR p 1 (rowsOf B) := ⟨fun o ho => by
  obtain ⟨b, hb, rfl⟩ := List.mem_map.mp ho
  have h := hB b hb
  exact ⟨Fit.of hL hL1 h.g h.b, (by rw [leadR_one h.n]; exact (fun z => nomatch z)), rfl⟩⟩
theorem red_step (hp : 0 < p) (hL : lenU L ≤ 3000000) (hL1 : L ≤ 1000000) {B C : List Bg} (hC : ∀ b ∈ C, (keys b).Nodup ∧ lead b ∈ B.map lead) (hPF : PFL (B.map lead)) {D A : List Bg} {c : Bg} (h1 : (A ++ c :: D).map lead = B.map lead) (h2 : ∀ b ∈ A ++ c :: D, Bas p L b ∧ In p C b) :
    ∃ n c', RedN p (rowsOf (A ++ D)) n [c] [c'] ∧ lead c' = lead c ∧ Bas p L c' ∧ In p C c' ∧ Nrm p L C c' := by
  have hO : ∀ b ∈ A ++ D, b ∈ A ++ c :: D := fun b hb => (List.mem_append.mp hb).elim (List.mem_append_left _) fun z => List.mem_append_right _ (List.mem_cons_of_mem _ z)
  obtain ⟨hcb, hci⟩ := h2 c (List.mem_append_right _ List.mem_cons_self)
  obtain ⟨n, c', hred, R⟩ := red_runs hp hL hL1 (B := A ++ D) (fun b hb => (h2 b (hO b hb)).1) hcb.g hcb.b
  have hpf := hPF
  rw [← h1, List.map_append, List.map_cons] at hpf
  have hmid := PFL.mid hpf
  have hno : ∀ b ∈ A ++ D, ¬ Beg (lead b) (lead c) := fun b hb => (hmid (lead b) (by rw [← List.map_append]; exact List.mem_map.mpr ⟨b, hb, rfl⟩)).1
  obtain ⟨h4, h5⟩ := R.l (lead c) (lead_mem hcb.n) hno fun u hu => lead_le hu
  have hk : lead c ∈ keys c' := cf_key (by rw [h4, hcb.o]; exact Int.one_ne_zero)
  have hl : lead c' = lead c := lead_is hk h5
  have hc' : Bas p L c' := ⟨R.g, (fun z => by rw [z] at hk; cases hk), (by rw [hl, h4, hcb.o]), R.b⟩
  have hi' : In p C c' := R.i C (fun b hb => (hC b hb).1) (fun b hb => (h2 b (hO b hb)).2) hci
  have hn' : Nrm p L C c' := ⟨hc', hi', fun u hu hul b hb hbu => by
    have hm : lead b ∈ (A ++ c :: D).map lead := by rw [h1]; exact (hC b hb).2
    obtain ⟨c2, hc2, e2⟩ := List.mem_map.mp hm
    have hor : c2 ∈ A ++ D ∨ c2 = c := by
      rcases List.mem_append.mp hc2 with h | h
      · exact .inl (List.mem_append_left _ h)
      · rcases List.mem_cons.mp h with h | h
        · exact .inr h
        · exact .inl (List.mem_append_right _ h)
    rcases hor with h | h
    · exact R.n u hu c2 h (by rw [e2]; exact hbu)
    · subst h
      rw [← e2] at hbu
      have h6 := leW_len (h5 u hu)
      obtain ⟨t, ht⟩ := hbu
      have h7 : t.length = 0 := by
        rw [ht, len_app] at h6
        omega
      have h8 : t = Str.empty := str_ext (by
        have : t.cps.toList.length = 0 := by rw [str_len]; exact h7
        rw [List.length_eq_zero_iff.mp this]
        rfl)
      rw [h8, app_empty] at ht
      exact hul (by rw [ht, hl])⟩
  exact ⟨n, c', hred, hl, hc', hi', hn'⟩
theorem red_all (hp : 0 < p) (hL : lenU L ≤ 3000000) (hL1 : L ≤ 1000000) {B C : List Bg} (hC : ∀ b ∈ C, (keys b).Nodup ∧ lead b ∈ B.map lead) (hPF : PFL (B.map lead)) : ∀ (D A : List Bg), (A ++ D).map lead = B.map lead → (∀ c ∈ A ++ D, Bas p L c ∧ In p C c) → (∀ c ∈ A, Nrm p L C c) →
    ∃ fin, RedAll p 1 A.length (rowsOf (A ++ D)) (rowsOf fin) ∧ fin.map lead = B.map lead ∧ ∀ c ∈ fin, Nrm p L C c
  | [], A, h1, h2, h3 => by
    rw [List.append_nil] at *
    exact ⟨A, .stop (rows_len A).symm (Bas.led hL hL1 fun b hb => (h2 b hb).1), h1, h3⟩
  | c :: D, A, h1, h2, h3 => by
    obtain ⟨n, c', hred, hl, hc', hi', hn'⟩ := red_step hp hL hL1 hC hPF h1 h2
    obtain ⟨fin, hf1, hf2, hf3⟩ := red_all hp hL hL1 hC hPF D (A ++ [c']) (by rw [← h1]; simp only [List.map_append, List.map_cons, List.map_nil, hl, List.append_assoc, List.cons_append, List.nil_append]) (fun d hd => by
      rw [List.append_assoc] at hd
      rcases List.mem_append.mp hd with h | h
      · exact h2 d (List.mem_append_left _ h)
      · rcases List.mem_cons.mp h with h | h
        · rw [h]; exact ⟨hc', hi'⟩
        · exact h2 d (List.mem_append_right _ (List.mem_cons_of_mem _ h))) (fun d hd => by
      rcases List.mem_append.mp hd with h | h
      · exact h3 d h
      · rw [List.mem_singleton.mp h]; exact hn')
    refine ⟨fin, .step (n := n) (r := [c]) (r' := [c']) (Bas.led hL hL1 fun b hb => (h2 b hb).1) ?_ ?_ ?_, hf2, hf3⟩
    · rw [rows_app, ← rows_len A]
      exact mid_get _ _ _
    · have : (rowsOf (A ++ c :: D)).take A.length ++ (rowsOf (A ++ c :: D)).drop (A.length + 1) = rowsOf (A ++ D) := by
        rw [rows_app, rows_app, ← rows_len A]
        show (rowsOf A ++ [c] :: rowsOf D).take _ ++ (rowsOf A ++ [c] :: rowsOf D).drop _ = _
        rw [mid_take, mid_drop]
      rw [this]
      exact hred
    · have : (rowsOf (A ++ c :: D)).set A.length [c'] = rowsOf (A ++ [c'] ++ D) := by
        rw [rows_app, List.append_assoc, rows_app, ← rows_len A]
        exact mid_set _ _ _ _
      rw [this]
      rw [List.length_append] at hf1
      exact hf1
theorem base_runs (hp : 0 < p) (hL : lenU L ≤ 3000000) (hL1 : L ≤ 1000000) {B C : List Bg} (hB : ∀ b ∈ B, Bas p L b ∧ In p C b) (hC : ∀ b ∈ C, (keys b).Nodup ∧ lead b ∈ B.map lead) (hPF : PFL (B.map lead)) : ∃ fin, RedAll p 1 0 (rowsOf B) (rowsOf fin) ∧ fin.map lead = B.map lead ∧ ∀ c ∈ fin, Nrm p L C c :=
  red_all hp hL hL1 hC hPF B [] rfl hB fun c hc => nomatch hc
end Fp

namespace Fp
open PySem
/-! ### rows of one place: no lead that begins with another, and an end -/
variable {p : Int} {L : Nat}
theorem plainR_one {b : Bg} (h : b ≠ []) : plainR p [b] = [plainS p b] := by
  unfold plainR
  rw [leadR_one h]
  rfl
theorem plain_bas (hp : Prm p) {b : Bg} (g : Good p b) (h : b ≠ []) (hb : Bd L b) : Bas p L (plainS p b) ∧ lead (plainS p b) = lead b := by
  have h0 : 0 < p := by have := hp.pos; omega
  have h1 := cf_pos_of g (lead_mem h)
  have h2 := cf_lt h0 g (lead b)
  obtain ⟨i1, i2, i3⟩ := inv_one hp h1 h2
  have hl : lead (plainS p b) = lead b := scale_lead hp i2 i3 g h
  refine ⟨⟨Good.plus h0 Good.nil b, fun z => h ((scale_nil hp i2 i3 g).mp z), ?_, fun u hu => hb u ((scale_keys hp i2 i3 g u).mp hu)⟩, hl⟩
  rw [hl, cf_plain h0 g.nd, i1]
theorem in_plain (hp : Prm p) {C : List Bg} {b : Bg} (g : Good p b) (h : b ≠ []) (hi : In p C (plainS p b)) : In p C b := by
  have h0 : 0 < p := by have := hp.pos; omega
  have h1 := cf_pos_of g (lead_mem h)
  have h2 := cf_lt h0 g (lead b)
  obtain ⟨i1, i2, i3⟩ := inv_one hp h1 h2
  refine In.of (n := cf b (lead b)) In.nil hi fun w => ?_
  rw [cf_nil, Int.zero_add, cf_plain h0 g.nd, Int.mul_emod, Int.emod_emod, ← Int.mul_emod, ← Int.mul_assoc, Int.mul_emod, Int.mul_comm (cf b (lead b)), i1, Int.one_mul, Int.emod_emod]
def sumN {α : Type} (f : α → Nat) : List α → Nat
  | [] => 0
  | a :: r => f a + sumN f r
theorem sumN_app {α : Type} (f : α → Nat) (a b : List α) : sumN f (a ++ b) = sumN f a + sumN f b := by
  induction a with
  | nil => exact (Nat.zero_add _).symm
  | cons x a ih => show f x + sumN f (a ++ b) = f x + sumN f a + sumN f b; rw [ih, Nat.add_assoc]
theorem sumN_filter {α : Type} (f : α → Nat) (q : α → Bool) (a : List α) : sumN f (a.filter q) + sumN f (a.filter fun x => !q x) = sumN f a := by
  induction a with
  | nil => rfl
  | cons x a ih =>
    show _ = f x + sumN f a
    cases h : q x with
    | true => rw [List.filter_cons_of_pos h, List.filter_cons_of_neg (by rw [h]; exact Bool.false_ne_true)]; show f x + _ + _ = _; omega
    | false => rw [List.filter_cons_of_neg (by rw [h]; exact Bool.false_ne_true), List.filter_cons_of_pos (by rw [h]; rfl)]; show _ + (f x + _) = _; omega
theorem sumN_le {α : Type} {f : α → Nat} {m : Nat} {a : List α} (h : ∀ x ∈ a, f x ≤ m) : sumN f a ≤ a.length * m := by
  induction a with
  | nil => exact Nat.zero_le _
  | cons x a ih =>
    have h1 := h x List.mem_cons_self
    have h2 := ih fun y hy => h y (List.mem_cons_of_mem _ hy)
    show f x + sumN f a ≤ _
    rw [List.length_cons, Nat.succ_mul]
    omega
/-- the ranks of leads -/
def rkS (L : Nat) : List Bg → Nat := sumN fun b => rank L (lead b) + 1
/-- what the found ones weigh -/
def phi (N L : Nat) : List Bg → Nat := sumN fun b => (N + 1) ^ (L - (lead b).length)
theorem phi_le {N : Nat} {F : List Bg} (h : F.length ≤ N) : phi N L F ≤ N * (N + 1) ^ L :=
  Nat.le_trans (sumN_le fun b _ => Nat.pow_le_pow_right (Nat.succ_pos _) (Nat.sub_le _ _)) (Nat.mul_le_mul_right _ h)
theorem longQ_one {c o : Bg} (hc : c ≠ []) (ho : o ≠ []) : longQ [c] [o] = true ↔ Beg (lead c) (lead o) := by
  unfold longQ
  rw [leadR_one ho]
  show (hitB [[c]] 0 (lead o)).isSome = true ↔ _
  have := hit_none (B := [c]) (w := lead o) fun b hb => by rw [List.mem_singleton.mp hb]; exact hc
  cases h : hitB (rowsOf [c]) 0 (lead o) with
  | none =>
    have h1 := this.mp h c (List.mem_singleton_self c)
    have h2 : hitB [[c]] 0 (lead o) = none := h
    rw [h2]
    exact ⟨fun z => (nomatch z), fun z => absurd z h1⟩
  | some z =>
    have h2 : hitB [[c]] 0 (lead o) = some z := h
    rw [h2]
    refine ⟨fun _ => Classical.byContradiction fun n => ?_, fun _ => rfl⟩
    have := this.mpr fun b hb => by rw [List.mem_singleton.mp hb]; exact n
    rw [this] at h
    cases h
theorem filter_rows (q : Row → Bool) (F : List Bg) : (rowsOf F).filter q = rowsOf (F.filter fun b => q [b]) := by
  unfold rowsOf
  rw [List.filter_map]
  rfl
theorem led_ends (hp : Prm p) (hL : lenU L ≤ 3000000) (hL1 : L ≤ 1000000) (N : Nat) : ∀ (k j : Nat) (T F : List Bg), (∀ b ∈ T, Good p b ∧ Bd L b ∧ b ≠ []) → (∀ b ∈ F, Bas p L b) → PFL (F.map lead) → T.length + F.length ≤ N → rkS L T + rkS L F ≤ k → N * (N + 1) ^ L ≤ phi N L F + j →
    ∃ n res, LedN p n (rowsOf T) (rowsOf F) (rowsOf res) ∧ (∀ b ∈ res, Bas p L b) ∧ PFL (res.map lead) ∧ res.length ≤ N ∧ ∀ b, b ∈ T ∨ b ∈ F → In p res b := by
  have h0 : 0 < p := by have := hp.pos; omega
  intro k
  induction k using Nat.strongRecOn with
  | ind k ihk =>
  intro j
  induction j using Nat.strongRecOn with
  | ind j ihj =>
  intro T F hT hF hPF hN hk hj
  rcases List.eq_nil_or_concat T with rfl | ⟨T', b, rfl⟩
  · exact ⟨0, F, .stop, hF, hPF, by omega, fun b hb => hb.elim (fun z => nomatch z) fun z => In.mem z⟩
  · rw [List.concat_eq_append] at *
    obtain ⟨gb, bb, nb⟩ := hT b (List.mem_append_right _ (List.mem_singleton_self b))
    have hT' : ∀ c ∈ T', Good p c ∧ Bd L c ∧ c ≠ [] := fun c hc => hT c (List.mem_append_left _ hc)
    have hFn : ∀ b ∈ F, b ≠ [] := fun b hb => (hF b hb).n
    have hrt : rowsOf (T' ++ [b]) = rowsOf T' ++ [[b]] := rows_app _ _
    rw [List.length_append, List.length_singleton] at hN
    have hrk : rkS L (T' ++ [b]) = rkS L T' + (rank L (lead b) + 1) := by
      unfold rkS
      rw [sumN_app]
      rfl
    rw [hrk] at hk
    have hwa : lead b ∈ allW L := mem_allW (bb _ (lead_mem nb)).1 (bb _ (lead_mem nb)).2
    rw [hrt]
    cases hh : hitB (rowsOf F) 0 (lead b) with
    | some z =>
      obtain ⟨o', t⟩ := z
      obtain ⟨o, ho, rfl, he⟩ := hit_some hFn hh
      have bo := hF o ho
      have off := takes_off h0 gb bb bo.g bo.b bo.o (lead_mem nb) he
      generalize hb1 : plusS p b (withB o t) (-(cf b (lead b))) = b1 at off
      have hfit : Fit p (takeR p [b] [o] t (cf (atR [b] 0) (lead b))) := by
        show Fit p [plusS p b (withB o t) (-(cf b (lead b)))]
        rw [hb1]
        exact Fit.of hL hL1 off.g off.b
      by_cases hz : b1 = []
      · obtain ⟨n, res, h1, h2, h3, h4, h5⟩ := ihk (rkS L T' + rkS L F) (by omega) (N * (N + 1) ^ L) T' F hT' hF hPF (by omega) (Nat.le_refl _) (Nat.le_add_left _ _)
        refine ⟨n + 1, res, .hit (leadR_one nb) hh hfit ?_, h2, h3, h4, fun c hc => ?_⟩
        · show LedN p n (if idleR [plusS p b (withB o t) (-(cf b (lead b)))] = true then rowsOf T' else _) _ _
          rw [hb1, hz]
          exact h1
        · rcases hc with hc | hc
          · rcases List.mem_append.mp hc with hc | hc
            · exact h5 c (.inl hc)
            · rw [List.mem_singleton.mp hc]
              refine In.back (n := cf b (lead b)) h0 gb (withB_nodup bo.g.nd) (by rw [hb1, hz]; exact In.nil) (In.withB (fun x hx => (h2 x hx).g.nd) bo.g.nd (h5 o (.inr ho)))
          · exact h5 c (.inr hc)
      · have hkl : leW (lead b) (lead b1) = true ∧ lead b1 ≠ lead b := by
          rcases off.k _ (lead_mem hz) with ⟨h1, h2⟩ | h1
          · exact ⟨lead_le h1, h2⟩
          · exact h1
        have hlt := rank_lt hwa hkl.1 fun e => hkl.2 e.symm
        have hrk2 : rkS L (T' ++ [b1]) = rkS L T' + (rank L (lead b1) + 1) := by
          unfold rkS
          rw [sumN_app]
          rfl
        obtain ⟨n, res, h1, h2, h3, h4, h5⟩ := ihk (rkS L (T' ++ [b1]) + rkS L F) (by omega) (N * (N + 1) ^ L) (T' ++ [b1]) F (fun c hc => by
          rcases List.mem_append.mp hc with hc | hc
          · exact hT' c hc
          · rw [List.mem_singleton.mp hc]; exact ⟨off.g, off.b, hz⟩) hF hPF (by rw [List.length_append, List.length_singleton]; omega) (Nat.le_refl _) (Nat.le_add_left _ _)
        refine ⟨n + 1, res, .hit (leadR_one nb) hh hfit ?_, h2, h3, h4, fun c hc => ?_⟩
        · show LedN p n (if idleR [plusS p b (withB o t) (-(cf b (lead b)))] = true then rowsOf T' else rowsOf T' ++ [[plusS p b (withB o t) (-(cf b (lead b)))]]) _ _
          rw [hb1]
          have : ¬ idleR [b1] = true := fun z => by
            rw [← leadR_none, leadR_one hz] at z
            cases z
          rw [if_neg this]
          rw [rows_app] at h1
          exact h1
        · rcases hc with hc | hc
          · rcases List.mem_append.mp hc with hc | hc
            · exact h5 c (.inl (List.mem_append_left _ hc))
            · rw [List.mem_singleton.mp hc]
              refine In.back (n := cf b (lead b)) h0 gb (withB_nodup bo.g.nd) (by rw [hb1]; exact h5 b1 (.inl (List.mem_append_right _ (List.mem_singleton_self b1)))) (In.withB (fun x hx => (h2 x hx).g.nd) bo.g.nd (h5 o (.inr ho)))
          · exact h5 c (.inr hc)
    | none =>
      have hno := (hit_none hFn).mp hh
      obtain ⟨bc, hlc⟩ := plain_bas hp gb nb bb
      generalize hc0 : plainS p b = c at bc hlc
      have hq : ∀ o ∈ F, (longQ [c] [o] = true ↔ Beg (lead b) (lead o)) := fun o ho => by rw [longQ_one bc.n (hFn o ho), hlc]
      have hlen := filter_both (fun o : Bg => longQ [c] [o]) F
      have hphi := sumN_filter (fun b : Bg => (N + 1) ^ (L - (lead b).length)) (fun o : Bg => longQ [c] [o]) F
      have hrkf := sumN_filter (fun b : Bg => rank L (lead b) + 1) (fun o : Bg => longQ [c] [o]) F
      have hsm : sumN (fun b : Bg => (N + 1) ^ (L - (lead b).length)) (F.filter fun o => longQ [c] [o]) < (N + 1) ^ (L - (lead b).length) := by
        have hlong : ∀ o ∈ F.filter (fun o => longQ [c] [o]), (lead b).length < (lead o).length ∧ (lead o).length ≤ L := fun o ho => by
          obtain ⟨h1, h2⟩ := List.mem_filter.mp ho
          refine ⟨Classical.byContradiction fun h3 => ?_, ((hF o h1).b _ (lead_mem (hFn o h1))).1⟩
          obtain ⟨t, ht⟩ := (hq o h1).mp h2
          have h4 : t.length = 0 := by rw [ht, len_app] at h3; omega
          have h5 : t = Str.empty := str_ext (by
            have : t.cps.toList.length = 0 := by rw [str_len]; exact h4
            rw [List.length_eq_zero_iff.mp this]
            rfl)
          rw [h5, app_empty] at ht
          exact hno o h1 ⟨Str.empty, by rw [app_empty, ht]⟩
        cases hf : F.filter (fun o => longQ [c] [o]) with
        | nil => exact Nat.pow_pos (Nat.succ_pos _)
        | cons x r =>
          rw [← hf]
          have h1 := hlong x (by rw [hf]; exact List.mem_cons_self)
          have h2 : sumN (fun b : Bg => (N + 1) ^ (L - (lead b).length)) (F.filter fun o => longQ [c] [o]) ≤ (F.filter fun o => longQ [c] [o]).length * (N + 1) ^ (L - (lead b).length - 1) := sumN_le fun o ho => Nat.pow_le_pow_right (Nat.succ_pos _) (by have := hlong o ho; omega)
          have h3 : (N + 1) ^ (L - (lead b).length) = (N + 1) ^ (L - (lead b).length - 1) * (N + 1) := by
            rw [← Nat.pow_succ]
            exact congrArg _ (by omega)
          have h4 : 0 < (N + 1) ^ (L - (lead b).length - 1) := Nat.pow_pos (Nat.succ_pos _)
          have h5 : (F.filter fun o => longQ [c] [o]).length * (N + 1) ^ (L - (lead b).length - 1) ≤ N * (N + 1) ^ (L - (lead b).length - 1) := Nat.mul_le_mul_right _ (by omega)
          rw [h3, Nat.mul_succ, Nat.mul_comm _ N]
          omega
      have hphi2 : phi N L (F.filter (fun o => !longQ [c] [o]) ++ [c]) = sumN (fun b : Bg => (N + 1) ^ (L - (lead b).length)) (F.filter fun o => !longQ [c] [o]) + (N + 1) ^ (L - (lead b).length) := by
        unfold phi
        rw [sumN_app]
        show _ + ((N + 1) ^ (L - (lead c).length) + 0) = _
        rw [hlc]
        exact congrArg _ (Nat.add_zero _)
      have hl2 : (F.filter (fun o => !longQ [c] [o]) ++ [c]).length ≤ N := by rw [List.length_append, List.length_singleton]; omega
      have hphi3 := phi_le (L := L) hl2
      have hphiF : phi N L F = sumN (fun b : Bg => (N + 1) ^ (L - (lead b).length)) F := rfl
      have hrk2 : rkS L (T' ++ F.filter fun o => longQ [c] [o]) + rkS L (F.filter (fun o => !longQ [c] [o]) ++ [c]) = rkS L T' + rkS L F + (rank L (lead b) + 1) := by
        have e1 : rkS L (T' ++ F.filter fun o => longQ [c] [o]) = rkS L T' + rkS L (F.filter fun o => longQ [c] [o]) := sumN_app _ _ _
        have e2 : rkS L (F.filter (fun o => !longQ [c] [o]) ++ [c]) = rkS L (F.filter fun o => !longQ [c] [o]) + (rank L (lead c) + 1 + 0) := sumN_app _ _ _
        have e3 : rkS L (F.filter fun o => longQ [c] [o]) + rkS L (F.filter fun o => !longQ [c] [o]) = rkS L F := hrkf
        rw [e1, e2, hlc]
        omega
      obtain ⟨n, res, h1, h2, h3, h4, h5⟩ := ihj (j - 1) (by omega) (T' ++ F.filter fun o => longQ [c] [o]) (F.filter (fun o => !longQ [c] [o]) ++ [c]) (fun x hx => by
        rcases List.mem_append.mp hx with hx | hx
        · exact hT' x hx
        · have := hF x (List.mem_filter.mp hx).1
          exact ⟨this.g, this.b, this.n⟩) (fun x hx => by
        rcases List.mem_append.mp hx with hx | hx
        · exact hF x (List.mem_filter.mp hx).1
        · rw [List.mem_singleton.mp hx]; exact bc) (by
        rw [List.map_append, List.map_singleton]
        refine List.pairwise_append.mpr ⟨List.Pairwise.sublist (List.Sublist.map lead List.filter_sublist) hPF, List.pairwise_singleton _ _, fun x hx y hy => ?_⟩
        rw [List.mem_singleton.mp hy]
        obtain ⟨o, ho, rfl⟩ := List.mem_map.mp hx
        obtain ⟨ho1, ho2⟩ := List.mem_filter.mp ho
        rw [hlc]
        exact ⟨hno o ho1, fun z => by rw [(hq o ho1).mpr z] at ho2; cases ho2⟩) (by rw [List.length_append, List.length_append, List.length_singleton]; omega) (by omega) (by omega)
      refine ⟨n + 1, res, .add (leadR_one nb) hh ?_, h2, h3, h4, fun x hx => ?_⟩
      · rw [plainR_one nb, hc0]
        rw [filter_rows, filter_rows]
        rw [rows_app, rows_app] at h1
        exact h1
      · rcases hx with hx | hx
        · rcases List.mem_append.mp hx with hx | hx
          · exact h5 x (.inl (List.mem_append_left _ hx))
          · rw [List.mem_singleton.mp hx]
            exact in_plain hp gb nb (by rw [hc0]; exact h5 c (.inr (List.mem_append_right _ (List.mem_singleton_self c))))
        · cases hlq : longQ [c] [x] with
          | true => exact h5 x (.inl (List.mem_append_right _ (List.mem_filter.mpr ⟨hx, hlq⟩)))
          | false => exact h5 x (.inr (List.mem_append_left _ (List.mem_filter.mpr ⟨hx, by rw [hlq]; rfl⟩)))
theorem led_runs (hp : Prm p) (hL : lenU L ≤ 3000000) (hL1 : L ≤ 1000000) {T : List Bg} (hT : ∀ b ∈ T, Good p b ∧ Bd L b ∧ b ≠ []) : ∃ n res, LedN p n (rowsOf T) [] (rowsOf res) ∧ (∀ b ∈ res, Bas p L b) ∧ PFL (res.map lead) ∧ res.length ≤ T.length ∧ ∀ b ∈ T, In p res b := by
  obtain ⟨n, res, h1, h2, h3, h4, h5⟩ := led_ends hp hL hL1 T.length (rkS L T) (T.length * (T.length + 1) ^ L) T [] hT (fun b hb => nomatch hb) List.Pairwise.nil (Nat.le_refl _) (Nat.le_refl _) (Nat.le_add_left _ _)
  exact ⟨n, res, h1, h2, h3, h4, fun b hb => h5 b (.inl hb)⟩
end Fp

namespace Fp
open PySem L2
/-! ### heads by their words -/
def startsL (ls : List Str) (w : Str) : Option Str := ls.find? fun l => Txt.startswith w l
def headsK (B : List Bg) (ds : List Addr) : List (Key × V) := (B.zip ds).map fun z => ((Sum.inr (lead z.1) : Key), V.ref z.2)
theorem beg_starts {w l : Str} : Txt.startswith w l = true ↔ Beg l w := startswith_iff w l
theorem hitB_cons (o : Row) (B : List Row) (w : Str) : hitB (o :: B) 0 w = match hitR 0 w o with | some t => some (o, t) | none => hitB B 0 w := by
  unfold hitB
  rw [List.findSome?_cons]
  cases hitR 0 w o <;> rfl
theorem starts_none {B : List Bg} {w : Str} (hB : ∀ b ∈ B, b ≠ []) : startsL (B.map lead) w = none ↔ hitB (rowsOf B) 0 w = none := by
  rw [hit_none hB]
  unfold startsL
  rw [List.find?_eq_none]
  constructor
  · intro h b hb hbeg
    exact h (lead b) (List.mem_map.mpr ⟨b, hb, rfl⟩) (beg_starts.mpr hbeg)
  · intro h l hl hs
    obtain ⟨b, hb, rfl⟩ := List.mem_map.mp hl
    exact h b hb (beg_starts.mp hs)
theorem starts_some {w l : Str} : ∀ {B : List Bg}, (∀ b ∈ B, b ≠ []) → startsL (B.map lead) w = some l → ∃ (i : Nat) (b : Bg) (t : Str), B[i]? = some b ∧ l = lead b ∧ w = lead b ++ t ∧ (∀ j c, j < i → B[j]? = some c → ¬ Beg (lead c) w) ∧ hitB (rowsOf B) 0 w = some ([b], t)
  | [], _, h => by cases h
  | b :: B, hB, h => by
    have hb := hB b List.mem_cons_self
    unfold startsL at h
    rw [List.map_cons, List.find?_cons] at h
    cases hs : Txt.startswith w (lead b) with
    | true =>
      rw [hs] at h
      cases Option.some.inj h
      obtain ⟨t, ht⟩ := beg_starts.mp hs
      refine ⟨0, b, t, rfl, rfl, ht, fun j c hj => absurd hj (Nat.not_lt_zero _), ?_⟩
      show hitB ([b] :: rowsOf B) 0 w = _
      rw [hitB_cons, hitR_of (leadR_one hb) ht]
    | false =>
      rw [hs] at h
      obtain ⟨i, c, t, h1, h2, h3, h4, h5⟩ := starts_some (B := B) (fun c hc => hB c (List.mem_cons_of_mem _ hc)) h
      have hnb : ¬ Beg (lead b) w := fun z => by rw [beg_starts.mpr z] at hs; cases hs
      refine ⟨i + 1, c, t, h1, h2, h3, fun j d hj hd => ?_, ?_⟩
      · cases j with
        | zero => cases Option.some.inj hd; exact hnb
        | succ j => exact h4 j d (by omega) hd
      · show hitB ([b] :: rowsOf B) 0 w = _
        rw [hitB_cons, (hitR_one hb).mpr hnb]
        exact h5
theorem heads_val {F : Addr → Bg → Prop} : ∀ {B : List Bg} {ds : List Addr} {i : Nat} {b : Bg}, Paired F ds B → B[i]? = some b → (∀ j c, j < i → B[j]? = some c → lead c ≠ lead b) → ∃ d, ds[i]? = some d ∧ F d b ∧ valV (headsK B ds) (Sum.inr (lead b) : Key) = some (V.ref d)
  | [], _, i, b, h, hi, _ => by cases hi
  | c :: B, _, i, b, @Paired.cons _ _ _ d _ ds _ h1 h2, hi, hj => by
    cases i with
    | zero =>
      cases Option.some.inj hi
      exact ⟨d, rfl, h1, valV_pos (p := ((Sum.inr (lead c) : Key), V.ref d)) rfl⟩
    | succ i =>
      obtain ⟨d', h3, h4, h5⟩ := heads_val (i := i) h2 hi fun j e hj' he => hj (j + 1) e (by omega) he
      refine ⟨d', h3, h4, ?_⟩
      rw [← h5]
      exact valV_neg (p := ((Sum.inr (lead c) : Key), V.ref d)) fun z => hj 0 c (Nat.succ_pos _) rfl (Sum.inr.inj z)
theorem heads_keys {F : Addr → Bg → Prop} {B : List Bg} {ds : List Addr} (h : Paired F ds B) : (headsK B ds).map (fun kv => kV kv.1) = (B.map lead).map V.str := by
  unfold headsK
  rw [List.map_map, List.map_map]
  induction h with
  | nil => rfl
  | cons h1 h2 ih => exact congrArg (List.cons _) ih
theorem heads_len {F : Addr → Bg → Prop} {B : List Bg} {ds : List Addr} (h : Paired F ds B) : (headsK B ds).length = B.length := by
  have := h.length
  unfold headsK
  rw [List.length_map, List.length_zip]
  omega
end Fp

namespace Fp
open PySem L2
section
variable {P : Program} {w : World} {K : PySem.W.Frag} {mg : Str → Option Value} {base : Heap} {C_Bag : Addr} {Cs : Addr → Prop}
local macro_rules | `(tactic| walk_at "hp") => `(tactic| first | assumption | rfl)
local macro_rules | `(tactic| walk_at "cond") => `(tactic| first | assumption | decide | omega | (unfold CMul; omega) | (refine ⟨?_, ?_⟩ <;> omega) | (unfold CDiv; omega) | (unfold CPow; omega))
local macro_rules | `(tactic| walk_at "g1") => `(tactic| first
  | with_reducible first
    | refine g_seq ?_ | refine g_asg ?_ | refine g_name ?_ | refine g_ret ?_ | refine g_retN ?_ | refine g_drop ?_ | refine g_ifs ?_
    | refine g_c ?_ | refine g_op ?_ | refine g_un ?_ | refine g_I0 ?_ | refine g_U ?_
    | refine g_test ?_ | refine g_tB ?_ | refine g_bl ?_ | refine g_and ?_ | refine g_or ?_ | refine g_not ?_
    | refine g_andV ?_ | refine g_orV ?_ | refine g_notV ?_ | refine g_if ?_ | refine g_nil ?_ | refine g_cons ?_ | refine g_cb ?_ | refine g_call ?_
    | refine g_lst ?_ | refine g_tup ?_ | refine g_itT ?_ | refine g_itF ?_ | refine g_itNT ?_ | refine g_itNF ?_ | refine g_lc ?_ | refine g_iStr ?_ | refine g_yes ?_ | refine g_exs ?_
    | refine g_chain ?_ | refine g_dget ?_ | refine g_dput ?_ | refine g_dget2 ?_ | refine g_dpop2 ?_ | refine g_fld ?_ | refine g_sfld ?_ | refine g_make ?_ | refine g_meth ?_
    | refine g_bm ?_ | refine g_kw ?_ | refine g_callS ?_ | refine g_revL ?_ | refine g_m1 ?_ | refine g_gsub ?_ | refine g_for ?_ | refine g_iList ?_ | refine g_iTup ?_ | refine g_iRng1 ?_ | refine g_iRng2 ?_ | refine g_sl ?_ | refine g_part ?_ | refine g_noPart ?_
    | refine g_exi ?_ | refine g_exr ?_ | refine g_dnew ?_ | refine g_disp ?_ | refine g_prs0 ?_ | refine g_prs ?_ | refine g_nxt ?_
  | ((with_reducible refine g_var (v := ?vv) ?gv ?_); (case gv => exact rfl))
  | ((with_reducible refine g_I ?gc ?_); (case gc => walk_at "cond"))
  | ((with_reducible refine g_eq ?ge ?_); (case ge => exact rfl))
  | ((with_reducible refine g_ne ?ge ?_); (case ge => exact rfl))
  | (refine g_ixl (SqL.of (by first | assumption | exact upd_same)) rfl ?_)
  | (refine g_setl (by first | assumption | exact upd_same) rfl ?_)
  | ((with_reducible show (∃ i, [V.int _] = [V.int i] ∧ _) ∨ _); refine Or.inl ⟨_, rfl, ?_⟩)
  | ((with_reducible show ∃ i, [V.int _] = [V.int i] ∧ _); refine ⟨_, rfl, ?_⟩)
  | dsimp only)
local macro_rules | `(tactic| walk_at "go") => `(tactic| repeat (walk_at "g1"))

local macro_rules | `(tactic| walk_at "g1") => `(tactic| with_reducible first | refine g_gcons ?_ | refine g_gnil ?_)

def sp_law_starts (K : PySem.W.Frag) : Sp := fun vs H Q _ => ∃ (a : Addr) (ls : List Str) (w : Str), vs = [.ref a, .str w] ∧ SqL K H a (ls.map V.str) ∧ ls.length ≤ 1000000 ∧ (∀ l ∈ ls, l.length ≤ 10000000) ∧ w.length ≤ 10000000 ∧ Q (match startsL ls w with | none => .non | some l => .str l) H
theorem ok_law_starts {f : Addr} {fd : FuncData} (F : Fun K "_law_starts" "_law_starts" s_law_starts f fd) (T : Txt K mg C_Bag Cs) : FnOk P w K mg base CX0 1 f fd ["_law_words_here", "_law_word_here"] (sp_law_starts K) := by
  refine F.ok sc_law_starts (fun vs H Q E h => ?_) (fun cdv A outer s H vs Q E hr h => ?_)
  · obtain ⟨a, ls, w, rfl, _⟩ := h
    rfl
  · obtain ⟨a, ls, w, rfl, ha, hl, hls, hw, k⟩ := h
    have hu := hu_of hr; have hu64 := L2.Room.units hr; refine ⟨_, (pss_cons (ps_for PassesOwn.never rfl (pi_list (pv 0)) (pg_name (i := 2) sc_law_starts.nd rfl (by first | exact Or.inl rfl | exact Or.inr rfl)) (pss_one (ps_if (pt_cmpR op_eq (pe_slice sl_str (pv 1) po_none (po_some (pe_callB call_len_str (by rfl) T.b_len (by decide +kernel) (pa_cons (pv 2) pa_nil)))) (pv 2) (nomark _)) (pss_one (ps_ret (pv 2))) pss_nil))) (pss_one (ps_ret pe_non))), ?_⟩; rw [st_law_starts]; (try dsimp only [cxOf]); walk_at "go"
    refine ⟨⟨_, ha⟩, ?_⟩
    refine forG walk_list (fun i σ' H' => (∃ x, σ' = [some (.ref a), some (.str w), x]) ∧ H' = H ∧ ∀ j l, j < i → ls[j]? = some l → Txt.startswith w l = false) ⟨⟨none, rfl⟩, rfl, fun j l hj => absurd hj (Nat.not_lt_zero _)⟩ (fun i σ' H' _ q => by rw [q.2.1]; exact ha) ?_ ?_
    · rintro i x σ' H1 H2 hi ⟨⟨x0, rfl⟩, rfl, hj⟩ ⟨rfl, hx⟩
      rw [List.getElem?_map] at hx
      cases hq : ls[i]? with
      | none => rw [hq] at hx; cases hx
      | some l =>
        rw [hq] at hx
        cases Option.some.inj hx
        have hll := hls l (List.mem_of_getElem? hq)
        walk_at "go"
        refine ⟨l, rfl, line5 hll, ?_⟩
        walk_at "go"
        refine ⟨w, rfl, line5 hw, ?_⟩
        walk_at "go"
        by_cases hs : Txt.startswith w l = true
        · obtain ⟨t, ht⟩ := (startswith_iff _ _).mp hs
          rw [show cutS w none (some (l.length : Int)) = l from by rw [ht, cutS_front], decide_eq_true rfl]
          walk_at "go"
          have hst : startsL ls w = some l := by
            unfold startsL
            refine List.find?_eq_some_iff_getElem.mpr ⟨hs, i, (List.getElem?_eq_some_iff.mp hq).1, (List.getElem?_eq_some_iff.mp hq).2, fun j hji => ?_⟩
            rw [hj j _ hji (List.getElem?_eq_getElem _)]
            rfl
          rw [hst] at k
          exact k
        · rw [decide_eq_false (fun e => hs ((startswith_iff _ _).mpr (cutS_pre (V.str.inj e))))]
          walk_at "go"
          refine ⟨⟨_, rfl⟩, rfl, fun j m hji hm => ?_⟩
          rcases Nat.lt_or_ge j i with h9 | h9
          · exact hj j m h9 hm
          · rw [show j = i from by omega, hq] at hm
            cases Option.some.inj hm
            cases h8 : Txt.startswith w l with
            | false => rfl
            | true => exact absurd h8 hs
    · rintro σ' H1 ⟨⟨x0, rfl⟩, rfl, hj⟩
      walk_at "go"
      have hst : startsL ls w = none := by
        unfold startsL
        rw [List.find?_eq_none]
        intro l hl
        obtain ⟨n, hn, he⟩ := List.getElem_of_mem hl
        rw [hj n l (by rw [List.length_map]; exact hn) (by rw [List.getElem?_eq_getElem hn, he])]
        exact Bool.false_ne_true
      rw [hst] at k
      exact k

end
end Fp

namespace Fp
open PySem L2
section
variable {P : Program} {w : World} {K : PySem.W.Frag} {mg : Str → Option Value} {base : Heap} {C_Bag : Addr} {Cs : Addr → Prop}
local macro_rules | `(tactic| walk_at "hp") => `(tactic| first | assumption | rfl)
local macro_rules | `(tactic| walk_at "cond") => `(tactic| first | assumption | decide | omega | (unfold CMul; omega) | (refine ⟨?_, ?_⟩ <;> omega) | (unfold CDiv; omega) | (unfold CPow; omega))
local macro_rules | `(tactic| walk_at "g1") => `(tactic| first
  | with_reducible first
    | refine g_seq ?_ | refine g_asg ?_ | refine g_name ?_ | refine g_ret ?_ | refine g_retN ?_ | refine g_drop ?_ | refine g_ifs ?_
    | refine g_c ?_ | refine g_op ?_ | refine g_un ?_ | refine g_I0 ?_ | refine g_U ?_
    | refine g_test ?_ | refine g_tB ?_ | refine g_bl ?_ | refine g_and ?_ | refine g_or ?_ | refine g_not ?_
    | refine g_andV ?_ | refine g_orV ?_ | refine g_notV ?_ | refine g_if ?_ | refine g_nil ?_ | refine g_cons ?_ | refine g_cb ?_ | refine g_call ?_
    | refine g_lst ?_ | refine g_tup ?_ | refine g_itT ?_ | refine g_itF ?_ | refine g_itNT ?_ | refine g_itNF ?_ | refine g_lc ?_ | refine g_iStr ?_ | refine g_yes ?_ | refine g_exs ?_
    | refine g_chain ?_ | refine g_dget ?_ | refine g_dput ?_ | refine g_dget2 ?_ | refine g_dpop2 ?_ | refine g_fld ?_ | refine g_sfld ?_ | refine g_make ?_ | refine g_meth ?_
    | refine g_bm ?_ | refine g_kw ?_ | refine g_callS ?_ | refine g_revL ?_ | refine g_m1 ?_ | refine g_gsub ?_ | refine g_for ?_ | refine g_iList ?_ | refine g_iTup ?_ | refine g_iRng1 ?_ | refine g_iRng2 ?_ | refine g_sl ?_ | refine g_part ?_ | refine g_noPart ?_
    | refine g_exi ?_ | refine g_exr ?_ | refine g_dnew ?_ | refine g_disp ?_ | refine g_prs0 ?_ | refine g_prs ?_ | refine g_nxt ?_
  | ((with_reducible refine g_var (v := ?vv) ?gv ?_); (case gv => exact rfl))
  | ((with_reducible refine g_I ?gc ?_); (case gc => walk_at "cond"))
  | ((with_reducible refine g_eq ?ge ?_); (case ge => exact rfl))
  | ((with_reducible refine g_ne ?ge ?_); (case ge => exact rfl))
  | (refine g_ixl (SqL.of (by first | assumption | exact upd_same)) rfl ?_)
  | (refine g_setl (by first | assumption | exact upd_same) rfl ?_)
  | ((with_reducible show (∃ i, [V.int _] = [V.int i] ∧ _) ∨ _); refine Or.inl ⟨_, rfl, ?_⟩)
  | ((with_reducible show ∃ i, [V.int _] = [V.int i] ∧ _); refine ⟨_, rfl, ?_⟩)
  | dsimp only)
local macro_rules | `(tactic| walk_at "go") => `(tactic| repeat (walk_at "g1"))

local macro_rules | `(tactic| walk_at "g1") => `(tactic| with_reducible first | refine g_gcons ?_ | refine g_gnil ?_)

def sp_law_plain : Sp := fun vs H Q _ => ∃ (d : Addr) (p : Int) (s : Bg), vs = [.int p, .ref d] ∧ Prm p ∧ Rd H d (.dK (toK s)) ∧ s ≠ [] ∧ Good p s ∧ s.length < 10000000 ∧ (∀ u ∈ keys s, u.length ≤ 10000000) ∧
  ∀ x H', Ex H H' → H x = none → H' x = some (.dK (toK (plainS p s))) → Q (.ref x) H'
theorem ok_law_plain {f : Addr} {fd : FuncData} (F : Fun K "_law_plain" "_law_plain" s_law_plain f fd) (T : Txt K mg C_Bag Cs) (D_law_order : DefOk P w K mg base CX0 1 "_law_order" ["_law_bag"] sp_law_order) (D_law_plus : DefOk P w K mg base CX0 2 "_law_plus" ["_law_clock_here", "_law_one", "_law_other", "_law_factor"] sp_law_plus) : FnOk P w K mg base CX0 3 f fd ["_law_clock_here", "_law_bag"] sp_law_plain := by
  refine F.ok sc_law_plain (fun vs H Q E h => ?_) (fun cdv A outer s H vs Q E hr h => ?_)
  · obtain ⟨d, p, s, rfl, _⟩ := h
    rfl
  · obtain ⟨d, p, s, rfl, hp, hd, hne, hg, hl, hw, k⟩ := h
    have hp1 := hp.pos
    have hp7 : p ≤ 7 := by rcases hp with rfl | rfl | rfl | rfl <;> decide
    have hu := hu_of hr; have hu64 := L2.Room.units hr; refine ⟨_, (pss_cons (ps_set (i := 2) sc_law_plain.nd rfl (by first | exact Or.inl rfl | exact Or.inr rfl) (pe_dget hu (pv 1) (pe_ix (r := rIxL K) ix_list (pe_callD D_law_order (hr.mono (by decide)) rfl pass0 (pa_cons (pv 1) pa_nil)) pe_int (fun _ _ => rfl)) (fun _ _ => rfl))) (pss_cons (ps_for PassesOwn.never rfl (pi_range2 rfl T.b_range (pa_cons pe_int (pa_cons (pv 0) pa_nil))) (pg_name (i := 3) sc_law_plain.nd rfl (by first | exact Or.inl rfl | exact Or.inr rfl)) (pss_one (ps_if (pt_cmpR op_eq (pe_op op_mod (pe_callTy call_int1 (by rfl) T.b_int (by decide +kernel) (pa_cons (pe_op op_mul (pv 3) (pv 2)) pa_nil)) (pv 0)) pe_int (nomark _)) (pss_one (ps_ret (pe_callD D_law_plus (hr.mono (by decide)) rfl pass0 (pa_cons (pv 0) (pa_cons pe_dnewK (pa_cons (pv 1) (pa_cons (pv 3) pa_nil))))))) pss_nil))) (pss_one (ps_ret (pv 1))))), ?_⟩; rw [st_law_plain]; (try dsimp only [cxOf]); walk_at "go"
    refine ⟨d, s, rfl, hd, by omega, hw, fun q H1 e1 hq hq1 => ?_⟩
    walk_at "go"
    obtain ⟨z, r, hzr⟩ := ordW_cons (keys_ne hne)
    have hzl : z = lead s := by
      have := lead_head hne
      rw [hzr] at this
      exact Option.some.inj this
    subst hzl
    refine g_ixl (v := .str (lead s)) (SqL.of hq1) (by rw [hzr]; exact atI_get (Int.le_refl 0) rfl) ?_
    walk_at "go"
    obtain ⟨n, hn⟩ := mem_keys.mp (lead_mem hne)
    have hcf := cf_of_mem hg.nd hn
    refine g_dg (e1.rd hd) (getS_of_mem hg.nd hn) ?_
    walk_at "go"
    have c1 := hg.lo _ hn
    have c2 := hg.hi _ hn
    dsimp only at c1 c2
    refine ⟨1, p, rfl, ⟨by omega, by omega, by omega, by omega⟩, ?_⟩
    refine forG walk_range (fun i σ' H' => (∃ y, σ' = [some (.int p), some (.ref d), some (.int n), y]) ∧ H' = H1 ∧ ∀ j : Nat, j < i → ¬ ((1 + (j : Int)) * n % p = 1)) ⟨⟨none, rfl⟩, rfl, fun j hj => absurd hj (Nat.not_lt_zero _)⟩ (fun _ _ _ _ _ => trivial) ?_ ?_
    · rintro i x σ' H2 H3 hi ⟨⟨y, rfl⟩, rfl, hj⟩ ⟨rfl, rfl⟩
      walk_at "go"
      by_cases hz : (1 + (i : Int)) * n % p = 1
      · rw [decide_eq_true (by rw [hz])]
        walk_at "go"
        intro x0 hx0
        walk_at "go"
        have e0 : Ex H3 (upd H3 x0 (.dK [])) := Ex.new hx0
        refine ⟨p, x0, d, [], s, 1 + (i : Int), rfl, .inl upd_same, (e1.trans e0).rd hd, hg.nd, by rw [List.length_nil]; omega, by omega, by omega, fun x H4 e4 hx hx4 => ?_⟩
        walk_at "go"
        have hu := inv_uniq hp c1 c2 (by omega : (0 : Int) < 1 + (i : Int)) (by omega) hz
        rw [hu, ← hcf] at hx4
        exact k x H4 ((e1.trans e0).trans e4) ((e1.trans e0).free hx) hx4
      · rw [decide_eq_false (fun e => hz (V.int.inj e))]
        walk_at "go"
        refine ⟨⟨_, rfl⟩, rfl, fun j hj' => ?_⟩
        rcases Nat.lt_or_ge j i with h | h
        · exact hj j h
        · have : j = i := by omega
          subst this
          exact hz
    · rintro σ' H2 ⟨⟨y, rfl⟩, rfl, hj⟩
      exfalso
      obtain ⟨i1, i2, i3⟩ := inv_one hp c1 c2
      refine hj (inv p n - 1).toNat (by omega) ?_
      rw [show (1 : Int) + (((inv p n - 1).toNat : Nat) : Int) = inv p n from by omega]
      exact i1

/-- bags by their leads -/
structure HeadsAt (H : Hp) (d : Addr) (B : List Bg) : Prop where
  ex : ∃ ds : List Addr, H d = some (.dK (headsK B ds)) ∧ Paired (fun d b => H d = some (.dK (toK b))) ds B
theorem HeadsAt.ex' {H H' : Hp} {d : Addr} {B : List Bg} (e : Ex H H') (h : HeadsAt H d B) : HeadsAt H' d B := by
  obtain ⟨ds, h1, h2⟩ := h.ex
  exact ⟨ds, e _ _ h1, Paired.mapP h2 fun _ _ z => e _ _ z⟩
theorem Good.up' {p q : Int} {s : Bg} (g : Good p s) (h : p ≤ q) : Good q s := ⟨g.nd, g.lo, fun kv hk => by have := g.hi kv hk; omega⟩
def sp_law_reduced : Sp := fun vs H Q _ => ∃ (p : Int) (hd bd : Addr) (B : List Bg) (r r' : Bg) (n : Nat), vs = [.int p, .ref hd, .ref bd] ∧ HeadsAt H hd B ∧ (∀ b ∈ B, Fit p [b] ∧ b ≠ []) ∧ B.length ≤ 1000 ∧ H bd = some (.dK (toK r)) ∧ Fit p [r] ∧ RedN p (rowsOf B) n [r] [r'] ∧ Prm p ∧
  ∀ x H', Ex H H' → H x = none → H' x = some (.dK (toK r')) → Q (.ref x) H'
theorem ok_law_reduced {f : Addr} {fd : FuncData} (F : Fun K "_law_reduced" "_law_reduced" s_law_reduced f fd) (T : Txt K mg C_Bag Cs) (D_law_order : DefOk P w K mg base CX0 1 "_law_order" ["_law_bag"] sp_law_order) (D_law_starts : DefOk P w K mg base CX0 1 "_law_starts" ["_law_words_here", "_law_word_here"] (sp_law_starts K))
    (D_law_product : DefOk P w K mg base CX0 2 "_law_product" ["_law_clock_here", "_law_one", "_law_other"] sp_law_product) (D_law_plus : DefOk P w K mg base CX0 2 "_law_plus" ["_law_clock_here", "_law_one", "_law_other", "_law_factor"] sp_law_plus) : FnOk P w K mg base CX0 3 f fd ["_law_clock_here", "_law_heads", "_law_bag"] sp_law_reduced := by
  refine F.ok sc_law_reduced (fun vs H Q E h => ?_) (fun cdv A outer s H vs Q E hr h => ?_)
  · obtain ⟨p, hd, bd, B, r, r', n, rfl, _⟩ := h
    rfl
  · obtain ⟨p, hd, bd, B, r, r', n, rfl, hhd, hB, hBl, hbd, hf, hred, hp, k⟩ := h
    have hu := hu_of hr; have hu64 := L2.Room.units hr; refine ⟨_, (pss_cons (ps_set (i := 3) sc_law_reduced.nd rfl (by first | exact Or.inl rfl | exact Or.inr rfl) (pe_callTy call_dictD (by rfl) T.b_dict (by decide +kernel) (pa_cons (pv 2) pa_nil))) (pss_cons (ps_set (i := 4) sc_law_reduced.nd rfl (by first | exact Or.inl rfl | exact Or.inr rfl) pe_bl) (pss_cons (ps_while PassesOwn.never (pt_val (pv 4)) (pss_cons (ps_set (i := 4) sc_law_reduced.nd rfl (by first | exact Or.inl rfl | exact Or.inr rfl) pe_bl) (pss_one (ps_for PassesOwn.never rfl (pi_list (pe_callD D_law_order (hr.mono (by decide)) rfl pass0 (pa_cons (pv 3) pa_nil))) (pg_name (i := 5) sc_law_reduced.nd rfl (by first | exact Or.inl rfl | exact Or.inr rfl)) (pss_cons (ps_set (i := 6) sc_law_reduced.nd rfl (by first | exact Or.inl rfl | exact Or.inr rfl) (pe_callD D_law_starts (hr.mono (by decide)) rfl pass0 (pa_cons (pe_callTy (call_listD rfl) (by rfl) T.b_list (by decide +kernel) (pa_cons (pv 1) pa_nil)) (pa_cons (pv 5) pa_nil)))) (pss_one (ps_if (PW.pt (pw_and (pt_cmpR op_notN (pv 6) pe_non (nomark _)) (pw_and1 (pt_not (pt_val (pv 4)))))) (pss_cons (ps_set (i := 3) sc_law_reduced.nd rfl (by first | exact Or.inl rfl | exact Or.inr rfl) (pe_callD D_law_plus (hr.mono (by decide)) rfl pass0 (pa_cons (pv 0) (pa_cons (pv 3) (pa_cons (pe_callD D_law_product (hr.mono (by decide)) rfl pass0 (pa_cons (pv 0) (pa_cons (pe_dget hu (pv 1) (pv 6) (fun _ _ => rfl)) (pa_cons (pe_disp (pps_cons (pe_slice sl_str (pv 5) (po_some (pe_callB call_len_str (by rfl) T.b_len (by decide +kernel) (pa_cons (pv 6) pa_nil))) po_none) pe_int pps_nil) rfl rfl (List.cons_ne_nil _ _) (Nat.le_of_ble_eq_true rfl)) pa_nil)))) (pa_cons (pe_un un_neg (pe_dget hu (pv 3) (pv 5) (fun _ _ => rfl))) pa_nil)))))) (pss_one (ps_set (i := 4) sc_law_reduced.nd rfl (by first | exact Or.inl rfl | exact Or.inr rfl) pe_bl))) pss_nil))))))) (pss_one (ps_ret (pv 3)))))), ?_⟩; rw [st_law_reduced]; (try dsimp only [cxOf]); walk_at "go"
    refine ⟨bd, toK r, rfl, .inl hbd, fun lf hlf => ?_⟩
    have e1 : Ex H (upd H lf (.dK (toK r))) := Ex.new hlf
    have hlf1 := upd_same (H := H) (a := lf) (o := .dK (toK r))
    generalize upd H lf (.dK (toK r)) = H1 at e1 hlf1 ⊢
    walk_at "go"
    have hne : ∀ b ∈ B, b ≠ [] := fun b hb => (hB b hb).2
    refine g_while (fun m σ' H' => ∃ (lf : Addr) (r1 : Bg) (g : Bool) (x y : Option V), σ' = [some (.int p), some (.ref hd), some (.ref bd), some (.ref lf), some (.bl g), x, y] ∧ Ex H H' ∧ H lf = none ∧ H' lf = some (.dK (toK r1)) ∧ Fit p [r1] ∧ ((g = true ∧ ∃ n1, m = n1 + 1 ∧ RedN p (rowsOf B) n1 [r1] [r']) ∨ (g = false ∧ m = 0 ∧ r1 = r'))) (n + 1) ⟨lf, r, true, none, none, rfl, e1, hlf, hlf1, hf, .inl ⟨rfl, n, rfl, hred⟩⟩ ?_
    rintro m σ' H2 ⟨lf, r1, g, x, y, rfl, e2, nlf, hlf2, hf1, hor⟩
    walk_at "go"
    rcases hor with ⟨rfl, n1, rfl, hred1⟩ | ⟨rfl, rfl, rfl⟩
    · rw [if_pos rfl]
      refine ⟨_, fun _ _ z => z, ?_⟩
      walk_at "go"
      have gr1 := hf1.g r1 (List.mem_singleton_self r1)
      have nr1 := hf1.n r1 (List.mem_singleton_self r1)
      have lr1 := hf1.l r1 (List.mem_singleton_self r1)
      refine ⟨lf, r1, rfl, .inl hlf2, by omega, fun u hu => Nat.le_trans (lr1 u hu) (by decide), fun lo H3 e3 hlo hlo3 => ?_⟩
      walk_at "go"
      refine ⟨⟨_, SqL.of hlo3⟩, ?_⟩
      refine forG walk_list (fun i σ' H' => ∃ (lf2 : Addr) (r2 : Bg) (g2 : Bool) (x y : Option V), σ' = [some (.int p), some (.ref hd), some (.ref bd), some (.ref lf2), some (.bl g2), x, y] ∧ Ex H3 H' ∧ H lf2 = none ∧ H' lf2 = some (.dK (toK r2)) ∧ Fit p [r2] ∧
        ((g2 = false ∧ r2 = r1 ∧ ∀ j w, j < i → (ordW (keys r1))[j]? = some w → hitB (rowsOf B) 0 w = none) ∨ (g2 = true ∧ ∃ n2, n1 = n2 + 1 ∧ RedN p (rowsOf B) n2 [r2] [r']))) ⟨lf, r1, false, x, y, rfl, Ex.refl _, nlf, e3 _ _ hlf2, hf1, .inl ⟨rfl, rfl, fun j w hj => absurd hj (Nat.not_lt_zero _)⟩⟩ (fun i σ' H' _ ⟨_, _, _, _, _, _, e, _⟩ => SqL.of (e _ _ hlo3)) ?_ ?_
      · rintro i x9 σ' H4' H4 hi ⟨lf2, r2, g2, x, y, rfl, e4, nlf2, hlf4, hf2, hor⟩ ⟨rfl, hx⟩
        rw [List.getElem?_map] at hx
        cases hq : (ordW (keys r1))[i]? with
        | none => rw [hq] at hx; cases hx
        | some w =>
          rw [hq] at hx
          cases Option.some.inj hx
          have hwk : w ∈ keys r1 := (ordW_perm _).mem_iff.mp (List.mem_of_getElem? hq)
          have hwl := lr1 w hwk
          have e24 := e2.trans (e3.trans e4)
          obtain ⟨ds, hd4, hds⟩ := (hhd.ex' e24).ex
          walk_at "go"
          refine ⟨hd, headsK B ds, rfl, .inl hd4, fun q hq0 => ?_⟩
          rw [heads_keys hds]
          have e5 : Ex H4 (upd H4 q (.lst ((B.map lead).map V.str))) := Ex.new hq0
          have hq5 := upd_same (H := H4) (a := q) (o := .lst ((B.map lead).map V.str))
          generalize upd H4 q (.lst ((B.map lead).map V.str)) = H5 at e5 hq5 ⊢
          walk_at "go"
          refine ⟨q, B.map lead, w, rfl, SqL.of hq5, by rw [List.length_map]; omega, fun l hl => ?_, by omega, ?_⟩
          · obtain ⟨b, hb, rfl⟩ := List.mem_map.mp hl
            exact Nat.le_trans ((hB b hb).1.l b (List.mem_singleton_self b) _ (lead_mem (hB b hb).2)) (by decide)
          have e45 := e4.trans e5
          cases hst : startsL (B.map lead) w with
          | none =>
            walk_at "go"
            refine ⟨rfl, ?_⟩
            rw [decide_eq_true rfl]
            walk_at "go"
            refine ⟨lf2, r2, g2, _, _, rfl, e45, nlf2, e5 _ _ hlf4, hf2, hor.imp (fun ⟨h1, h2, h3⟩ => ⟨h1, h2, fun j u hj hu => ?_⟩) id⟩
            rcases Nat.lt_or_ge j i with h9 | h9
            · exact h3 j u h9 hu
            · rw [show j = i from by omega, hq] at hu
              cases Option.some.inj hu
              exact (starts_none hne).mp hst
          | some l =>
            obtain ⟨ib, b, t, hbi, rfl, hwt, hfirst, hhit⟩ := starts_some hne hst
            walk_at "go"
            refine ⟨rfl, ?_⟩
            rw [decide_eq_false (fun z => nomatch z)]
            walk_at "go"
            rcases hor with ⟨rfl, rfl, hno⟩ | ⟨rfl, hred2⟩
            · walk_at "go"
              obtain ⟨d, hdi, hdb, hval⟩ := heads_val hds hbi fun j c hj hc e => hfirst j c hj hc ⟨t, by rw [e]; exact hwt⟩
              have hget := DGet.k (H := H5) (a := hd) (kvs := headsK B ds) (k := (Sum.inr (lead b) : Key)) (e5 _ _ hd4)
              rw [hval] at hget
              refine ⟨hd, .ref d, rfl, hget, ?_⟩
              walk_at "go"
              intro q6 hq6
              walk_at "go"
              have hll : (lead b).length ≤ 1000000 := by rw [hwt, len_app] at hwl; omega
              refine ⟨lead b, rfl, line5 (by omega), ?_⟩
              walk_at "go"
              refine ⟨w, rfl, line5 (by omega), ?_⟩
              rw [show cutS w (some ((lead b).length : Int)) none = t from by rw [hwt, cutS_back]]
              walk_at "go"
              refine ⟨upd_same, toK [(t, 1)], rfl, Nat.le_of_ble_eq_true rfl, ?_⟩
              rw [mergeK_toK (s := [(t, 1)]) (by simp [keys])]
              walk_at "go"
              have e6 : Ex H5 (upd (upd H5 q6 (.dK [])) q6 (.dK (toK [(t, 1)]))) := Ex.mut (Ex.new hq6) hq6
              have hq66 := upd_same (H := upd H5 q6 (.dK [])) (a := q6) (o := .dK (toK [(t, 1)]))
              generalize upd (upd H5 q6 (.dK [])) q6 (.dK (toK [(t, 1)])) = H6 at e6 hq66 ⊢
              obtain ⟨hbf, _⟩ := hB b (List.mem_of_getElem? hbi)
              have gb := hbf.g b (List.mem_singleton_self b)
              have nb := hbf.n b (List.mem_singleton_self b)
              have lb := hbf.l b (List.mem_singleton_self b)
              have hp1 := hp.pos
              have hp7 : p ≤ 7 := by rcases hp with rfl | rfl | rfl | rfl <;> decide
              have htl : t.length ≤ 1000000 := by rw [hwt, len_app] at hwl; omega
              have e56 := e5.trans e6
              refine ⟨p, d, q6, b, [(t, 1)], rfl, .inl (e56 _ _ hdb), .inl hq66, gb.nd, by simp [keys], by rw [List.length_singleton]; omega, by omega, gb.up' (by omega), fun u hu => Nat.le_trans (lb u hu) (by decide), fun u hu => ?_, fun d7 H7 e7 hd7 hd7' => ?_⟩
              · rw [List.mem_singleton.mp (show u ∈ [t] from hu)]
                omega
              rw [prod_word t gb] at hd7'
              have e57 := e56.trans e7
              walk_at "go"
              obtain ⟨nn, hnn⟩ := mem_keys.mp hwk
              have hcf := cf_of_mem gr1.nd hnn
              have c0 := gr1.lo _ hnn
              have c1 := gr1.hi _ hnn
              dsimp only at c0 c1
              refine g_dg (.inl (e57 _ _ hlf4)) (getS_of_mem gr1.nd hnn) ?_
              walk_at "go"
              refine ⟨p, lf2, d7, r2, withB b t, -nn, rfl, .inl (e57 _ _ hlf4), .inl hd7', withB_nodup gb.nd, by rw [withB_len]; omega, by omega, by omega, fun d8 H8 e8 hd8 hd8' => ?_⟩
              walk_at "go"
              have e58 := e4.trans (e57.trans e8)
              have hwW : hitW (rowsOf B) 0 (ordW (keys r2)) = some (w, [b], t) := findSome_at hq (by rw [hhit]; rfl) fun j u hj hu => by rw [hno j u hj hu]; rfl
              cases hred1 with
              | stop h0 =>
                rw [hitF_one, hwW] at h0
                cases h0
              | @step n2 _ o' _ i' w' t' h0 hfit2 hr2 =>
                rw [hitF_one, hwW] at h0
                cases Option.some.inj h0
                have hat : cf (atR [r2] 0) w = nn := hcf
                rw [hat] at hfit2 hr2
                exact ⟨d8, _, true, _, _, rfl, e58, (e2.trans (e3.trans (e4.trans e57))).free hd8, hd8', hfit2, .inr ⟨rfl, n2, rfl, hr2⟩⟩
            · walk_at "go"
              exact ⟨lf2, r2, true, _, _, rfl, e45, nlf2, e5 _ _ hlf4, hf2, .inr ⟨rfl, hred2⟩⟩
      · rintro σ' H4 ⟨lf2, r2, g2, x, y, rfl, e4, nlf2, hlf4, hf2, hor⟩
        walk_at "go"
        have e24 := e2.trans (e3.trans e4)
        rcases hor with ⟨rfl, rfl, hno⟩ | ⟨rfl, n2, rfl, hred2⟩
        · refine ⟨0, Nat.succ_pos _, lf2, r2, false, _, _, rfl, e24, nlf2, hlf4, hf2, .inr ⟨rfl, rfl, ?_⟩⟩
          cases hred1 with
          | stop h0 => rfl
          | step h0 h1 h2 =>
            rw [hitF_one, hitW_nil.mpr fun w hw => ?_] at h0
            · cases h0
            · obtain ⟨j, hj, he⟩ := List.getElem_of_mem hw
              exact hno j w (by rw [List.length_map]; exact hj) (by rw [List.getElem?_eq_getElem hj, he])
        · exact ⟨n2 + 1, Nat.lt_succ_self _, lf2, r2, true, _, _, rfl, e24, nlf2, hlf4, hf2, .inl ⟨rfl, n2, rfl, hred2⟩⟩
    · rw [if_neg Bool.false_ne_true]
      walk_at "go"
      exact k lf H2 e2 nlf hlf2

end
end Fp

namespace Fp
open PySem
/-! ### the same run over bags that differ by numbers -/
variable {p : Int} {L : Nat}
theorem LedN.nil {n : Nat} {found res : List Row} (h : LedN p n [] found res) : res = found := by
  generalize ht : ([] : List Row) = todo at h
  cases h with
  | stop => rfl
  | hit => exact absurd ht.symm (by simp)
  | add => exact absurd ht.symm (by simp)
theorem LedN.inv {n : Nat} {todo found res : List Row} {row : Row} {w : Str} (h : LedN p n (todo ++ [row]) found res) (hl : leadR row = some (0, w)) : ∃ n2, n = n2 + 1 ∧
    ((∃ o t, hitB found 0 w = some (o, t) ∧ Fit p (takeR p row o t (cf (atR row 0) w)) ∧ LedN p n2 (if idleR (takeR p row o t (cf (atR row 0) w)) = true then todo else todo ++ [takeR p row o t (cf (atR row 0) w)]) found res) ∨
     (hitB found 0 w = none ∧ LedN p n2 (todo ++ found.filter (longQ (plainR p row))) (found.filter (fun o => !longQ (plainR p row) o) ++ [plainR p row]) res)) := by
  generalize ht : todo ++ [row] = td at h
  cases h with
  | stop => exact absurd ht (by simp)
  | @hit n2 td2 _ _ row2 o i w2 t h1 h2 h3 h4 =>
    obtain ⟨rfl, h5⟩ := List.append_inj' ht rfl
    cases List.cons.inj h5 |>.1
    rw [hl] at h1
    cases Option.some.inj h1
    exact ⟨n2, rfl, .inl ⟨o, t, h2, h3, h4⟩⟩
  | @add n2 td2 _ _ row2 i w2 h1 h2 h3 =>
    obtain ⟨rfl, h5⟩ := List.append_inj' ht rfl
    cases List.cons.inj h5 |>.1
    rw [hl] at h1
    cases Option.some.inj h1
    exact ⟨n2, rfl, .inr ⟨h2, h3⟩⟩
theorem keys_eqv {b c : Bg} (gb : Good p b) (gc : Good p c) (h : ∀ w, w ∈ keys b ↔ w ∈ keys c) : b.length = c.length := by
  have h1 := len_sub gb.nd fun x hx => (h x).mp hx
  have h2 := len_sub gc.nd fun x hx => (h x).mpr hx
  unfold keys at h1 h2
  rw [List.length_map, List.length_map] at h1 h2
  omega
theorem Fit.same {b c : Bg} (gb : Good p b) (gc : Good p c) (h : ∀ w, w ∈ keys b ↔ w ∈ keys c) (f : Fit p [c]) : Fit p [b] := by
  refine ⟨fun x hx => ?_, fun x hx => ?_, fun x hx u hu => ?_, Nat.le_of_ble_eq_true rfl⟩
  · rw [List.mem_singleton.mp hx]; exact gb
  · rw [List.mem_singleton.mp hx, keys_eqv gb gc h]; exact f.n c (List.mem_singleton_self c)
  · rw [List.mem_singleton.mp hx] at hu; exact f.l c (List.mem_singleton_self c) u ((h u).mp hu)
/-- a bag and a multiple of it -/
structure Sca (p : Int) (b c : Bg) : Prop where
  g : Good p b
  gc : Good p c
  n : b ≠ []
  f : Fit p [c]
  e : ∃ f, 0 < f ∧ f < p ∧ ∀ w, cf c w = f * cf b w % p
structure Same (p : Int) (b c : Bg) : Prop where
  g : Good p b
  gc : Good p c
  n : b ≠ []
  o : cf b (lead b) = 1
  f : Fit p [c]
  e : ∀ w, cf b w = cf c w
theorem Sca.keys (hp : Prm p) {b c : Bg} (h : Sca p b c) (w : Str) : w ∈ keys b ↔ w ∈ keys c := by
  have h0 : 0 < p := by have := hp.pos; omega
  obtain ⟨f, f0, f1, e⟩ := h.e
  rw [cf_ne h.g, cf_ne h.gc, e]
  exact not_congr (prm_ne hp f0 f1 (cf_nonneg h.g w) (cf_lt h0 h.g w)).symm
theorem Same.keys {b c : Bg} (h : Same p b c) (w : Str) : w ∈ keys b ↔ w ∈ keys c := by rw [cf_ne h.g, cf_ne h.gc, h.e]
theorem lead_same {b c : Bg} (hb : b ≠ []) (h : ∀ w, w ∈ keys b ↔ w ∈ keys c) : c ≠ [] ∧ lead c = lead b := by
  have h1 := (h _).mp (lead_mem hb)
  exact ⟨(fun z => by rw [z] at h1; cases h1), lead_is h1 fun u hu => lead_le ((h u).mpr hu)⟩
theorem inv_step {f x : Int} (hp : Prm p) (hf : 0 < f) (hf1 : f < p) (hx : 0 < x) (hx1 : x < p) : inv p (f * x % p) * f % p = inv p x := by
  have h7 : p ≤ 7 := by rcases hp with rfl | rfl | rfl | rfl <;> decide
  rcases hp with rfl | rfl | rfl | rfl <;> rcases rng_cases hf hf1 h7 with rfl | rfl | rfl | rfl | rfl | rfl <;> rcases rng_cases hx hx1 h7 with rfl | rfl | rfl | rfl | rfl | rfl <;> first | decide | omega
theorem Sca.plain (hp : Prm p) {b c : Bg} (h : Sca p b c) (w : Str) : cf (plainS p b) w = cf (plainS p c) w := by
  have h0 : 0 < p := by have := hp.pos; omega
  obtain ⟨_, hl⟩ := lead_same h.n (h.keys hp)
  obtain ⟨f, f0, f1, e⟩ := h.e
  have x0 := cf_pos_of h.g (lead_mem h.n)
  have x1 := cf_lt h0 h.g (lead b)
  rw [cf_plain h0 h.g.nd, cf_plain h0 h.gc.nd, hl, e, e, ← inv_step hp f0 f1 x0 x1]
  rw [Int.mul_emod, Int.emod_emod, ← Int.mul_emod, Int.mul_emod (inv p (f * cf b (lead b) % p)) (f * cf b w % p), Int.emod_emod, ← Int.mul_emod, Int.mul_assoc]
theorem Sca.same (hp : Prm p) (hL : True) {b c : Bg} (h : Sca p b c) : Same p (plainS p b) (plainS p c) := by
  have h0 : 0 < p := by have := hp.pos; omega
  obtain ⟨hc, hl⟩ := lead_same h.n (h.keys hp)
  have x0 := cf_pos_of h.g (lead_mem h.n)
  have x1 := cf_lt h0 h.g (lead b)
  obtain ⟨i1, i2, i3⟩ := inv_one hp x0 x1
  have hlb : lead (plainS p b) = lead b := scale_lead hp i2 i3 h.g h.n
  refine ⟨Good.plus h0 Good.nil b, Good.plus h0 Good.nil c, fun z => h.n ((scale_nil hp i2 i3 h.g).mp z), ?_, ?_, h.plain hp⟩
  · rw [hlb, cf_plain h0 h.g.nd, i1]
  · have := Fit.scale (f := inv p (cf c (lead c))) h0 h.f
    exact this
theorem cf_withB_eq {o q : Bg} (ho : (keys o).Nodup) (hq : (keys q).Nodup) (e : ∀ w, cf o w = cf q w) (t v : Str) : cf (withB o t) v = cf (withB q t) v := by
  by_cases h : ∃ u, v = u ++ t
  · obtain ⟨u, rfl⟩ := h
    rw [cf_withB ho, cf_withB hq, e]
  · have h0 : ∀ s : Bg, cf (withB s t) v = 0 := fun s => Classical.byContradiction fun n => by
      obtain ⟨u, _, hu⟩ := cf_withB_key n
      exact h ⟨u, hu⟩
    rw [h0, h0]
theorem Sca.hit (hp : Prm p) {b c o q : Bg} {t : Str} (h : Sca p b c) (ho : Same p o q) (hf : Fit p [plusS p c (withB q t) (-(cf c (lead c)))]) :
    (plusS p (plainS p b) (withB o t) (-1) = [] ↔ plusS p c (withB q t) (-(cf c (lead c))) = []) ∧ (plusS p (plainS p b) (withB o t) (-1) ≠ [] → Sca p (plusS p (plainS p b) (withB o t) (-1)) (plusS p c (withB q t) (-(cf c (lead c))))) := by
  have h0 : 0 < p := by have := hp.pos; omega
  obtain ⟨hc, hl⟩ := lead_same h.n (h.keys hp)
  have x0 := cf_pos_of h.gc (lead_mem hc)
  have x1 := cf_lt h0 h.gc (lead c)
  obtain ⟨i1, i2, i3⟩ := inv_one hp x0 x1
  have gP : Good p (plainS p b) := Good.plus h0 Good.nil b
  have g1 : Good p (plusS p (plainS p b) (withB o t) (-1)) := Good.plus h0 gP _
  have g2 : Good p (plusS p c (withB q t) (-(cf c (lead c)))) := Good.plus h0 h.gc _
  have e : ∀ v, cf (plusS p c (withB q t) (-(cf c (lead c)))) v = cf c (lead c) * cf (plusS p (plainS p b) (withB o t) (-1)) v % p := fun v => by
    rw [cf_plus h0 h.gc (withB_nodup ho.gc.nd), cf_plus h0 gP (withB_nodup ho.g.nd), h.plain hp, cf_plain h0 h.gc.nd, cf_withB_eq ho.g.nd ho.gc.nd ho.e]
    generalize cf (withB q t) v = z
    generalize cf c v = y
    generalize cf c (lead c) = x at *
    have hA : x * (inv p x * y % p) % p = y % p := by rw [Int.mul_emod, Int.emod_emod, ← Int.mul_emod, ← Int.mul_assoc, Int.mul_emod, Int.mul_comm x, i1, Int.one_mul, Int.emod_emod]
    have hB : x * ((inv p x * y % p + -1 * z) % p) % p = (y + x * (-1 * z)) % p := by rw [Int.mul_emod, Int.emod_emod, ← Int.mul_emod, Int.mul_add, Int.add_emod, hA, ← Int.add_emod]
    rw [hB]
    exact congrArg (fun k => (y + k) % p) (by rw [← Int.mul_assoc, Int.mul_neg, Int.mul_one])
  have hs : plusS p (plainS p b) (withB o t) (-1) ≠ [] → Sca p (plusS p (plainS p b) (withB o t) (-1)) (plusS p c (withB q t) (-(cf c (lead c)))) := fun hn => ⟨g1, g2, hn, hf, _, x0, x1, e⟩
  refine ⟨⟨fun z => Classical.byContradiction fun hn => ?_, fun z => Classical.byContradiction fun hn => ?_⟩, hs⟩
  · have := (cf_ne g2).mp (lead_mem hn)
    rw [e, z, cf_nil, Int.mul_zero, Int.zero_emod] at this
    exact this rfl
  · exact (lead_same hn ((hs hn).keys hp)).1 z
theorem hit_same {B C : List Bg} (h : Paired (Same p) B C) (w : Str) : (startsL (B.map lead) w = none → hitB (rowsOf C) 0 w = none) ∧
    (∀ (i : Nat) (o : Bg) (t : Str), B[i]? = some o → w = lead o ++ t → (∀ (j : Nat) (c : Bg), j < i → B[j]? = some c → ¬ Beg (lead c) w) → ∃ q, q ∈ C ∧ Same p o q ∧ hitB (rowsOf C) 0 w = some ([q], t)) := by
  induction h with
  | nil => exact ⟨fun _ => rfl, fun i o t hi => by cases hi⟩
  | @cons b c B C h1 h2 ih =>
    obtain ⟨hc, hl⟩ := lead_same h1.n h1.keys
    constructor
    · intro hs
      unfold startsL at hs
      rw [List.map_cons, List.find?_cons] at hs
      cases h9 : Txt.startswith w (lead b) with
      | true => rw [h9] at hs; cases hs
      | false =>
        rw [h9] at hs
        show hitB ([c] :: rowsOf C) 0 w = none
        rw [hitB_cons, (hitR_one hc).mpr fun z => by rw [hl] at z; rw [beg_starts.mpr z] at h9; cases h9]
        exact ih.1 hs
    · intro i o t hi hw hj
      show ∃ q, q ∈ c :: C ∧ Same p o q ∧ hitB ([c] :: rowsOf C) 0 w = some ([q], t)
      cases i with
      | zero =>
        cases Option.some.inj hi
        exact ⟨c, List.mem_cons_self, h1, by rw [hitB_cons, hitR_of (leadR_one hc) (by rw [hl]; exact hw)]⟩
      | succ i =>
        obtain ⟨q, h3, h4, h5⟩ := ih.2 i o t hi hw fun j d hj' hd => hj (j + 1) d (by omega) hd
        refine ⟨q, List.mem_cons_of_mem _ h3, h4, ?_⟩
        rw [hitB_cons, (hitR_one hc).mpr fun z => hj 0 b (Nat.succ_pos _) rfl (by rw [hl] at z; exact z)]
        exact h5
theorem same_leads {B C : List Bg} (h : Paired (Same p) B C) : C.map lead = B.map lead := by
  induction h with
  | nil => rfl
  | cons h1 _ ih => rw [List.map_cons, List.map_cons, ih, (lead_same h1.n h1.keys).2]
theorem Same.bas {b c : Bg} (h : Same p b c) (hc : Bas p L c) : Bas p L b := ⟨h.g, h.n, h.o, fun u hu => hc.b u ((h.keys u).mp hu)⟩
theorem In.congr {C : List Bg} {f g : Bg} (e : ∀ w, cf f w = cf g w) (h : In p C g) : In p C f := by
  obtain ⟨ks, h1, h2⟩ := h
  exact ⟨ks, h1, fun w => by rw [e, h2]⟩
end Fp

/-! Comprehensions over a dict's keys with a test, a list for each key that passes. -/
namespace Fp
open PySem L2
theorem lcK_relF {σ : St} {H : Hp} {Q : VK} {d : Addr} {kvs : List (Key × V)} {te0 te : TE} {tt : TT} {j : Nat} {vs : List Nat} (hd : H d = some (.dK kvs)) (hz : kvs.length ≤ sizeLine)
    (he : ∀ (H' : Hp) (Q : VK), LkK d kvs H H' → Q (.ref d) H' → te0 σ H' Q)
    (R : Key × V → V → Hp → Prop) (hR : ∀ e y H H', (∃ od, H d = some (.frz od (.dK kvs))) → ExD d H H' → R e y H → R e y H') (q : Key × V → Bool) (hw : ∀ x, wipe ((wipe σ vs).set j x) vs = wipe σ vs)
    (hs : ∀ (i : Nat) (k : Key) (v : V) (H' : Hp) (KT : Hp → Prop) (KY : VK), kvs[i]? = some (k, v) → LkK d kvs H H' → (q (k, v) = false → ∀ H3, Ex H' H3 → KT H3) → (q (k, v) = true → ∀ y H4, Ex H' H4 → R (k, v) y H4 → KY y H4) →
      tt ((wipe σ vs).set j (some (kV k))) H' fun b H3 => if b = true then te ((wipe σ vs).set j (some (kV k))) H3 KY else KT H3)
    (hend : ∀ D H' ys, H D = none → Ex H H' → H' D = some (.lst ys) → Paired (fun y e => R e y H') ys (kvs.filter q) → Q (.ref D) H') : tLockRE (tLc (iKeys te0) (gName j) tt te vs) σ H Q := by
  refine lockK hd fun Hl od Q' hl l0 hnone hq => ?_
  refine he Hl _ l0 ⟨d, od, rfl, .inl ⟨kvs, hl, ?_⟩⟩
  intro D hD
  refine lc_it walk_keys (fun i H => Ex Hl H ∧ ∃ ys, H D = some (.lst ys) ∧ Paired (fun y e => R e y H) ys ((kvs.take i).filter q)) ⟨Ex.new hD, [], upd_same, .nil⟩ (fun i H _ p => p.1 _ _ hl) ?_ (fun H p => ?_)
  · rintro i x H1 H' hi ⟨e, ys, hacc, hp⟩ ⟨rfl, k, v, hk, rfl⟩
    refine ⟨hw _, ?_⟩
    have hlen : ys.length ≤ i := by
      rw [hp.length]
      exact Nat.le_trans (List.length_filter_le _ _) (by rw [List.length_take]; omega)
    have etk : kvs.take (i + 1) = kvs.take i ++ [(k, v)] := by rw [List.take_add_one, hk]; rfl
    have hdl : H' d = some (.frz od (.dK kvs)) := e _ _ hl
    refine hs i k v H' _ _ hk (l0.ex e) (fun hq9 H3 e3 => ⟨e.trans e3, ys, e3 _ _ hacc, ?_⟩) fun hq9 z H4 e4 rz => ⟨ys, e4 _ _ hacc, by omega, ?_, ys ++ [z], upd_same, ?_⟩
    · rw [etk, List.filter_append, List.filter_cons_of_neg (by rw [hq9]; exact Bool.false_ne_true), List.filter_nil, List.append_nil]
      exact Paired.mapP hp fun a b z => hR _ _ _ _ ⟨od, hdl⟩ e3.exd z
    · exact Ex.mut (e.trans e4) hD
    · have tu : ExD d H4 (L2.upd H4 D (.lst (ys ++ [z]))) := ExD.upd (e4 _ _ hacc)
      have hdl4 := e4 _ _ hdl
      rw [etk, List.filter_append, List.filter_cons_of_pos hq9, List.filter_nil]
      exact Paired.snoc (Paired.mapP hp fun a b q => hR _ _ _ _ ⟨od, hdl⟩ (e4.exd.trans tu) q) (hR _ _ _ _ ⟨od, hdl4⟩ tu rz)
  · obtain ⟨e, ys, h, hp⟩ := p
    rw [List.take_length] at hp
    have hDd : D ≠ d := fun z => by subst z; rw [hl] at hD; cases hD
    exact hq _ H e fun H2 e2 hs2 ht => hend D H2 ys (hnone _ hD) e2 (by rw [hs2 D hDd]; exact h) (Paired.mapP hp fun a b q => hR _ _ _ _ ⟨od, e _ _ hl⟩ ht q)
end Fp

namespace Fp
open PySem L2
section
variable {P : Program} {w : World} {K : PySem.W.Frag} {mg : Str → Option Value} {base : Heap} {C_Bag : Addr} {Cs : Addr → Prop}
local macro_rules | `(tactic| walk_at "hp") => `(tactic| first | assumption | rfl)
local macro_rules | `(tactic| walk_at "cond") => `(tactic| first | assumption | decide | omega | (unfold CMul; omega) | (refine ⟨?_, ?_⟩ <;> omega) | (unfold CDiv; omega) | (unfold CPow; omega))
local macro_rules | `(tactic| walk_at "g1") => `(tactic| first
  | with_reducible first
    | refine g_seq ?_ | refine g_asg ?_ | refine g_name ?_ | refine g_ret ?_ | refine g_retN ?_ | refine g_drop ?_ | refine g_ifs ?_
    | refine g_c ?_ | refine g_op ?_ | refine g_un ?_ | refine g_I0 ?_ | refine g_U ?_
    | refine g_test ?_ | refine g_tB ?_ | refine g_bl ?_ | refine g_and ?_ | refine g_or ?_ | refine g_not ?_
    | refine g_andV ?_ | refine g_orV ?_ | refine g_notV ?_ | refine g_if ?_ | refine g_nil ?_ | refine g_cons ?_ | refine g_cb ?_ | refine g_call ?_
    | refine g_lst ?_ | refine g_tup ?_ | refine g_itT ?_ | refine g_itF ?_ | refine g_itNT ?_ | refine g_itNF ?_ | refine g_lc ?_ | refine g_iStr ?_ | refine g_yes ?_ | refine g_exs ?_
    | refine g_chain ?_ | refine g_dget ?_ | refine g_dput ?_ | refine g_dget2 ?_ | refine g_dpop2 ?_ | refine g_fld ?_ | refine g_sfld ?_ | refine g_make ?_ | refine g_meth ?_
    | refine g_bm ?_ | refine g_kw ?_ | refine g_callS ?_ | refine g_revL ?_ | refine g_m1 ?_ | refine g_gsub ?_ | refine g_for ?_ | refine g_iList ?_ | refine g_iTup ?_ | refine g_iRng1 ?_ | refine g_iRng2 ?_ | refine g_sl ?_ | refine g_part ?_ | refine g_noPart ?_
    | refine g_exi ?_ | refine g_exr ?_ | refine g_dnew ?_ | refine g_disp ?_ | refine g_prs0 ?_ | refine g_prs ?_ | refine g_nxt ?_
  | ((with_reducible refine g_var (v := ?vv) ?gv ?_); (case gv => exact rfl))
  | ((with_reducible refine g_I ?gc ?_); (case gc => walk_at "cond"))
  | ((with_reducible refine g_eq ?ge ?_); (case ge => exact rfl))
  | ((with_reducible refine g_ne ?ge ?_); (case ge => exact rfl))
  | (refine g_ixl (SqL.of (by first | assumption | exact upd_same)) rfl ?_)
  | (refine g_setl (by first | assumption | exact upd_same) rfl ?_)
  | ((with_reducible show (∃ i, [V.int _] = [V.int i] ∧ _) ∨ _); refine Or.inl ⟨_, rfl, ?_⟩)
  | ((with_reducible show ∃ i, [V.int _] = [V.int i] ∧ _); refine ⟨_, rfl, ?_⟩)
  | dsimp only)
local macro_rules | `(tactic| walk_at "go") => `(tactic| repeat (walk_at "g1"))

local macro_rules | `(tactic| walk_at "g1") => `(tactic| with_reducible first | refine g_gcons ?_ | refine g_gnil ?_)

abbrev Fs := List (Bg × Addr)
def kvF (fs : Fs) : List (Key × V) := fs.map fun z => ((Sum.inr (lead z.1) : Key), V.ref z.2)
theorem kvF_heads (fs : Fs) : headsK (fs.map Prod.fst) (fs.map Prod.snd) = kvF fs := by
  unfold headsK kvF
  induction fs with
  | nil => rfl
  | cons z r ih => exact congrArg (List.cons _) ih
structure FsAt (H : Hp) (d : Addr) (fs : Fs) : Prop where
  d : H d = some (.dK (kvF fs))
  b : ∀ z ∈ fs, H z.2 = some (.dK (toK z.1))
theorem FsAt.ex' {H H' : Hp} {d : Addr} {fs : Fs} (e : Ex H H') (h : FsAt H d fs) : FsAt H' d fs := ⟨e _ _ h.d, fun z hz => e _ _ (h.b z hz)⟩
theorem fs_paired {H : Hp} {fs : Fs} (h : ∀ z ∈ fs, H z.2 = some (.dK (toK z.1))) : Paired (fun d b => H d = some (.dK (toK b))) (fs.map Prod.snd) (fs.map Prod.fst) := by
  induction fs with
  | nil => exact .nil
  | cons z r ih => exact .cons (h z List.mem_cons_self) (ih fun y hy => h y (List.mem_cons_of_mem _ hy))
theorem FsAt.heads {H : Hp} {d : Addr} {fs : Fs} (h : FsAt H d fs) : HeadsAt H d (fs.map Prod.fst) := ⟨fs.map Prod.snd, by rw [kvF_heads]; exact h.d, fs_paired h.b⟩
def sp_law_base (K : PySem.W.Frag) : Sp := fun vs H Q _ => ∃ (p : Int) (lr : Addr) (ts : List Addr) (ss res : List Bg) (L n : Nat), vs = [.int p, .ref lr] ∧ SqL K H lr (ts.map V.ref) ∧ Paired (fun t b => H t = some (.dK (toK b))) ts ss ∧ (∀ b ∈ ss, Fit p [b]) ∧ ss.length ≤ 1000 ∧ LedN p n (rowsOf (ss.filter fun b => !decide (b = []))) [] (rowsOf res) ∧ Prm p ∧
  (∀ b ∈ res, Bas p L b) ∧ PFL (res.map lead) ∧ lenU L ≤ 3000000 ∧ L ≤ 1000000 ∧ ∀ d fs H', Ex H H' → H d = none → FsAt H' d fs → (fs.map fun z => lead z.1) = res.map lead → (∀ z ∈ fs, Nrm p L res z.1) → Q (.ref d) H'
structure TdAt (p : Int) (H : Hp) (ds : List Addr) (TL T : List Bg) : Prop where
  b : Paired (fun t b => H t = some (.dK (toK b))) ds TL
  s : Paired (Sca p) TL T
theorem rows_inj : ∀ {a b : List Bg}, rowsOf a = rowsOf b → a = b
  | [], [], _ => rfl
  | [], _ :: _, h => by cases h
  | _ :: _, [], h => by cases h
  | x :: a, y :: b, h => by
    obtain ⟨h1, h2⟩ := List.cons.inj h
    rw [(List.cons.inj h1).1, rows_inj h2]
theorem paired_refl {α : Type} {F : α → α → Prop} : ∀ {a : List α}, (∀ x ∈ a, F x x) → Paired F a a
  | [], _ => .nil
  | x :: a, h => .cons (h x List.mem_cons_self) (paired_refl fun y hy => h y (List.mem_cons_of_mem _ hy))
theorem kvF_keys (fs : Fs) : (kvF fs).map (fun kv => kV kv.1) = ((fs.map Prod.fst).map lead).map V.str := by
  unfold kvF
  rw [List.map_map, List.map_map, List.map_map]
  rfl
theorem FsAt.exl {H H' : Hp} {d : Addr} {fs : Fs} (e : ExL H H') (h : FsAt H d fs) : FsAt H' d fs := ⟨e _ _ (fun _ z => nomatch z) h.d, fun z hz => e _ _ (fun _ z => nomatch z) (h.b z hz)⟩
theorem paired_mem {α β : Type} {F : α → β → Prop} {a : List α} {b : List β} (h : Paired F a b) {x : α} (hx : x ∈ a) : ∃ y, y ∈ b ∧ F x y := by
  induction h with
  | nil => cases hx
  | cons h1 _ ih =>
    rcases List.mem_cons.mp hx with rfl | hx
    · exact ⟨_, List.mem_cons_self, h1⟩
    · obtain ⟨y, h2, h3⟩ := ih hx
      exact ⟨y, List.mem_cons_of_mem _ h2, h3⟩
theorem paired_mem2 {α β : Type} {F : α → β → Prop} {a : List α} {b : List β} (h : Paired F a b) {y : β} (hy : y ∈ b) : ∃ x, x ∈ a ∧ F x y := by
  induction h with
  | nil => cases hy
  | cons h1 _ ih =>
    rcases List.mem_cons.mp hy with rfl | hy
    · exact ⟨_, List.mem_cons_self, h1⟩
    · obtain ⟨x, h2, h3⟩ := ih hy
      exact ⟨x, List.mem_cons_of_mem _ h2, h3⟩
def Ex2 (a b : Addr) (H H' : Hp) : Prop := ∀ x o, x ≠ a → x ≠ b → H x = some o → H' x = some o
def longB (b : Bg) (z : Bg × Addr) : Bool := Txt.startswith (lead z.1) (lead b)
theorem kvF_app (a b : Fs) : kvF (a ++ b) = kvF a ++ kvF b := List.map_append
theorem kvF_none {fs : Fs} {l : Str} (h : ∀ z ∈ fs, lead z.1 ≠ l) : valV (kvF fs) (Sum.inr l : Key) = none := by
  induction fs with
  | nil => rfl
  | cons z r ih =>
    show valV (((Sum.inr (lead z.1) : Key), V.ref z.2) :: kvF r) _ = none
    rw [valV_neg (p := ((Sum.inr (lead z.1) : Key), V.ref z.2)) fun e => h z List.mem_cons_self (Sum.inr.inj e)]
    exact ih fun y hy => h y (List.mem_cons_of_mem _ hy)
theorem kvF_val {A D : Fs} {z : Bg × Addr} (h : ∀ y ∈ A, lead y.1 ≠ lead z.1) : valV (kvF (A ++ z :: D)) (Sum.inr (lead z.1) : Key) = some (V.ref z.2) := by
  induction A with
  | nil => exact valV_pos (p := ((Sum.inr (lead z.1) : Key), V.ref z.2)) rfl
  | cons y r ih =>
    show valV (((Sum.inr (lead y.1) : Key), V.ref y.2) :: kvF (r ++ z :: D)) _ = _
    rw [valV_neg (p := ((Sum.inr (lead y.1) : Key), V.ref y.2)) fun e => h y List.mem_cons_self (Sum.inr.inj e)]
    exact ih fun y hy => h y (List.mem_cons_of_mem _ hy)
theorem kvF_keep {fs : Fs} {l : Str} (h : ∀ z ∈ fs, lead z.1 ≠ l) : dropK (kvF fs) (Sum.inr l : Key) = kvF fs := by
  unfold dropK
  refine List.filter_eq_self.mpr fun kv hkv => ?_
  obtain ⟨z, hz, rfl⟩ := List.mem_map.mp hkv
  exact decide_eq_true fun e => h z hz (Sum.inr.inj e)
theorem kvF_drop {A D : Fs} {z : Bg × Addr} (h : ∀ y ∈ A ++ D, lead y.1 ≠ lead z.1) : dropK (kvF (A ++ z :: D)) (Sum.inr (lead z.1) : Key) = kvF (A ++ D) := by
  have h1 := kvF_keep (fs := A) fun y hy => h y (List.mem_append_left _ hy)
  have h2 := kvF_keep (fs := D) fun y hy => h y (List.mem_append_right _ hy)
  unfold dropK at h1 h2 ⊢
  rw [kvF_app, kvF_app, List.filter_append, h1]
  show _ ++ List.filter _ (((Sum.inr (lead z.1) : Key), V.ref z.2) :: kvF D) = _
  rw [List.filter_cons_of_neg (by simp), h2]
theorem PFL.sub {a b : List Str} (h : a.Sublist b) (hb : PFL b) : PFL a := List.Pairwise.sublist h hb
theorem pfl_dis {A D : Fs} {z : Bg × Addr} (h : PFL (((A ++ z :: D).map Prod.fst).map lead)) : ∀ y ∈ A ++ D, lead y.1 ≠ lead z.1 := fun y hy e => by
  rw [List.map_append, List.map_append, List.map_cons, List.map_cons] at h
  refine (PFL.mid h (lead y.1) ?_).1 ⟨Str.empty, by rw [app_empty, e]⟩
  rcases List.mem_append.mp hy with hy | hy
  · exact List.mem_append_left _ (List.mem_map.mpr ⟨y.1, List.mem_map.mpr ⟨y, hy, rfl⟩, rfl⟩)
  · exact List.mem_append_right _ (List.mem_map.mpr ⟨y.1, List.mem_map.mpr ⟨y, hy, rfl⟩, rfl⟩)
theorem fs_val {fs : Fs} (h : PFL ((fs.map Prod.fst).map lead)) {y : Bg × Addr} (hy : y ∈ fs) : valV (kvF fs) (Sum.inr (lead y.1) : Key) = some (V.ref y.2) := by
  obtain ⟨A, D, rfl⟩ := List.append_of_mem hy
  exact kvF_val fun x hx => pfl_dis h x (List.mem_append_left _ hx)
theorem kvF_merge_aux : ∀ (D A : Fs), PFL (((A ++ D).map Prod.fst).map lead) → mergeK (kvF A) (kvF D) = kvF (A ++ D)
  | [], A, _ => by rw [List.append_nil]; rfl
  | z :: D, A, h => by
    show mergeK (putK (kvF A) (Sum.inr (lead z.1) : Key) (V.ref z.2)) (kvF D) = _
    rw [putK_new _ (kvF_none fun y hy => pfl_dis h y (List.mem_append_left _ hy))]
    have : kvF A ++ [((Sum.inr (lead z.1) : Key), V.ref z.2)] = kvF (A ++ [z]) := (kvF_app A [z]).symm
    rw [this, kvF_merge_aux D (A ++ [z]) (by rw [List.append_assoc]; exact h), List.append_assoc]
    rfl
theorem kvF_merge {D : Fs} (h : PFL ((D.map Prod.fst).map lead)) : mergeK [] (kvF D) = kvF D := kvF_merge_aux D [] h
theorem kvF_put {A D : Fs} {z : Bg × Addr} {c : Bg} {x : Addr} (h : ∀ y ∈ A ++ D, lead y.1 ≠ lead z.1) (hc : lead c = lead z.1) : putK (kvF (A ++ z :: D)) (Sum.inr (lead z.1) : Key) (V.ref x) = kvF (A ++ (c, x) :: D) := by
  have hk : ∀ fs : Fs, (∀ y ∈ fs, lead y.1 ≠ lead z.1) → (kvF fs).map (fun kv => if kv.1 = (Sum.inr (lead z.1) : Key) then (kv.1, V.ref x) else kv) = kvF fs := fun fs hf => by
    refine (List.map_congr_left fun kv hkv => ?_).trans (List.map_id _)
    obtain ⟨y, hy, rfl⟩ := List.mem_map.mp hkv
    exact if_neg fun e => hf y hy (Sum.inr.inj e)
  unfold putK
  rw [if_pos (by
    rw [valV_any, kvF_val fun y hy => h y (List.mem_append_left _ hy)]
    rfl), kvF_app, kvF_app, List.map_append, hk A fun y hy => h y (List.mem_append_left _ hy)]
  show _ ++ List.map _ (((Sum.inr (lead z.1) : Key), V.ref z.2) :: kvF D) = _ ++ (((Sum.inr (lead c) : Key), V.ref x) :: kvF D)
  rw [List.map_cons, hk D fun y hy => h y (List.mem_append_right _ hy), if_pos rfl, hc]
theorem kvF_ne {fs : Fs} {b : Bg} (hb : b ≠ []) (h : kvF fs = toK b) : False := by
  cases b with
  | nil => exact hb rfl
  | cons q r =>
    cases fs with
    | nil => cases h
    | cons z fs =>
      have := congrArg Prod.snd (List.cons.inj h).1
      cases this
theorem paired_filter {α β : Type} {R : α → β → Prop} {p : α → Bool} {q : β → Bool} {a : List α} {b : List β} (h : Paired R a b) (e : ∀ x y, R x y → p x = q y) : Paired R (a.filter p) (b.filter q) := by
  induction h with
  | nil => exact .nil
  | @cons x y a b h1 _ ih =>
    have := e x y h1
    cases hq : q y with
    | true =>
      rw [hq] at this
      rw [List.filter_cons_of_pos this, List.filter_cons_of_pos hq]
      exact .cons h1 ih
    | false =>
      rw [hq] at this
      rw [List.filter_cons_of_neg (by rw [this]; exact Bool.false_ne_true), List.filter_cons_of_neg (by rw [hq]; exact Bool.false_ne_true)]
      exact ih
theorem paired_and {α β : Type} {R : α → β → Prop} {S : β → Prop} {a : List α} {b : List β} (h : Paired R a b) (e : ∀ y ∈ b, S y) : Paired (fun x y => S y ∧ R x y) a b := by
  induction h with
  | nil => exact .nil
  | cons h1 _ ih => exact .cons ⟨e _ List.mem_cons_self, h1⟩ (ih fun y hy => e y (List.mem_cons_of_mem _ hy))
theorem Same.sca {p : Int} {b c : Bg} (h : Same p b c) (hp : 0 < p) (hp1 : 1 < p) : Sca p b c := ⟨h.g, h.gc, h.n, h.f, 1, by omega, hp1, fun w => by rw [Int.one_mul, cf_mod hp h.g]; exact (h.e w).symm⟩
def BasS (p : Int) (lr : Addr) (res : List Bg) (H : Hp) (n : Nat) : St → Hp → Prop := fun σ' H' => ∃ (lf lt : Addr) (fs : Fs) (ds : List Addr) (TL T F : List Bg) (x4 x5 x6 x7 x8 x9 : Option V), σ' = [some (.int p), some (.ref lr), some (.ref lf), some (.ref lt), x4, x5, x6, x7, x8, x9] ∧ Ex H H' ∧ H lf = none ∧ H lt = none ∧ FsAt H' lf fs ∧
  H' lt = some (.lst (ds.map V.ref)) ∧ TdAt p H' ds TL T ∧ Paired (Same p) (fs.map Prod.fst) F ∧ PFL (F.map lead) ∧ T.length + F.length ≤ 1000 ∧ LedN p n (rowsOf T) (rowsOf F) (rowsOf res)
theorem ok_law_base {f : Addr} {fd : FuncData} (F : Fun K "_law_base" "_law_base" s_law_base f fd) (T : Txt K mg C_Bag Cs) (D_law_plain : DefOk P w K mg base CX0 3 "_law_plain" ["_law_clock_here", "_law_bag"] sp_law_plain) (D_law_order : DefOk P w K mg base CX0 1 "_law_order" ["_law_bag"] sp_law_order)
    (D_law_starts : DefOk P w K mg base CX0 1 "_law_starts" ["_law_words_here", "_law_word_here"] (sp_law_starts K))
    (D_law_product : DefOk P w K mg base CX0 2 "_law_product" ["_law_clock_here", "_law_one", "_law_other"] sp_law_product) (D_law_plus : DefOk P w K mg base CX0 2 "_law_plus" ["_law_clock_here", "_law_one", "_law_other", "_law_factor"] sp_law_plus)
    (D_law_reduced : DefOk P w K mg base CX0 3 "_law_reduced" ["_law_clock_here", "_law_heads", "_law_bag"] sp_law_reduced) : FnOk P w K mg base CX0 4 f fd ["_law_clock_here", "_law_rows"] (sp_law_base K) := by
  refine F.ok sc_law_base (fun vs H Q E h => ?_) (fun cdv A outer s H vs Q E hr h => ?_)
  · obtain ⟨p, lr, ts, ss, res, L, n, rfl, _⟩ := h
    rfl
  · obtain ⟨p, lr, ts, ss, res, L, n, rfl, hlr, hts, hfit, hlen, hled, hp, hres, hpf, hL, hL1, k⟩ := h
    have hp1 := hp.pos
    have hp0 : 0 < p := by omega
    have hp7 : p ≤ 7 := by rcases hp with rfl | rfl | rfl | rfl <;> decide
    have htl := hts.length
    have hu := hu_of hr; have hu64 := L2.Room.units hr; refine ⟨_, (pss_cons (ps_set (i := 2) sc_law_base.nd rfl (by first | exact Or.inl rfl | exact Or.inr rfl) pe_dnewK) (pss_cons (ps_setLc (i := 3) (own := [("_law_row_here", 4)]) (g := (gName 4)) rfl sc_law_base.nd rfl rfl rfl (pi_list (pv 1)) (blkOk_by (N := N_law_base) (sc := defScope s_law_base) (by decide +kernel)) (fun _ _ _ _ _ => (pg_name (i := 4) sc_law_base.nd rfl (by first | exact Or.inl rfl | exact Or.inr rfl))) (fun _ _ _ _ _ => (pts_one (pt_cmpR op_gt (pe_callB call_lenD (by rfl) T.b_len (by decide +kernel) (pa_cons (pv 4) pa_nil)) pe_int (nomark _)))) (fun _ _ _ _ _ => (pv 4))) (pss_cons (ps_while PassesOwn.never (pt_cmpR op_gt (pe_callB call_len_seq (by rfl) T.b_len (by decide +kernel) (pa_cons (pv 3) pa_nil)) pe_int (nomark _)) (pss_cons (ps_set (i := 5) sc_law_base.nd rfl (by first | exact Or.inl rfl | exact Or.inr rfl) (pe_callD D_law_plain (hr.mono (by decide)) rfl pass0 (pa_cons (pv 0) (pa_cons (pe_bm0 PySem.F.plainAttrs_list PySem.F.slot_list_pop PySem.F.type_list_pop mt_pop (pv 3)) pa_nil)))) (pss_cons (ps_set (i := 6) sc_law_base.nd rfl (by first | exact Or.inl rfl | exact Or.inr rfl) (pe_ix (r := rIxL K) ix_list (pe_callD D_law_order (hr.mono (by decide)) rfl pass0 (pa_cons (pv 5) pa_nil)) pe_int (fun _ _ => rfl))) (pss_cons (ps_set (i := 7) sc_law_base.nd rfl (by first | exact Or.inl rfl | exact Or.inr rfl) (pe_callD D_law_starts (hr.mono (by decide)) rfl pass0 (pa_cons (pe_callTy (call_listD rfl) (by rfl) T.b_list (by decide +kernel) (pa_cons (pv 2) pa_nil)) (pa_cons (pv 6) pa_nil)))) (pss_one (ps_if (pt_cmpR op_notN (pv 7) pe_non (nomark _)) (pss_cons (ps_set (i := 5) sc_law_base.nd rfl (by first | exact Or.inl rfl | exact Or.inr rfl) (pe_callD D_law_plus (hr.mono (by decide)) rfl pass0 (pa_cons (pv 0) (pa_cons (pv 5) (pa_cons (pe_callD D_law_product (hr.mono (by decide)) rfl pass0 (pa_cons (pv 0) (pa_cons (pe_dget hu (pv 2) (pv 7) (fun _ _ => rfl)) (pa_cons (pe_disp (pps_cons (pe_slice sl_str (pv 6) (po_some (pe_callB call_len_str (by rfl) T.b_len (by decide +kernel) (pa_cons (pv 7) pa_nil))) po_none) pe_int pps_nil) rfl rfl (List.cons_ne_nil _ _) (Nat.le_of_ble_eq_true rfl)) pa_nil)))) (pa_cons (pe_un un_neg pe_int) pa_nil)))))) (pss_one (ps_if (pt_cmpR op_gt (pe_callB call_lenD (by rfl) T.b_len (by decide +kernel) (pa_cons (pv 5) pa_nil)) pe_int (nomark _)) (pss_one (ps_expr (pe_bmK (K := K) rfl (pe_bm (r := rAppend) PySem.F.plainAttrs_list PySem.F.slot_list_append PySem.F.type_list_append mt_append (pv 3) (pa_cons (pv 5) pa_nil))))) pss_nil))) (pss_cons (ps_for PassesOwn.never rfl (pi_list (pe_callTy (call_listD rfl) (by rfl) T.b_list (by decide +kernel) (pa_cons (pv 2) pa_nil))) (pg_name (i := 8) sc_law_base.nd rfl (by first | exact Or.inl rfl | exact Or.inr rfl)) (pss_one (ps_if (pt_cmpR op_eq (pe_slice sl_str (pv 8) po_none (po_some (pe_callB call_len_str (by rfl) T.b_len (by decide +kernel) (pa_cons (pv 6) pa_nil)))) (pv 6) (nomark _)) (pss_one (ps_expr (pe_bmK (K := K) rfl (pe_bm (r := rAppend) PySem.F.plainAttrs_list PySem.F.slot_list_append PySem.F.type_list_append mt_append (pv 3) (pa_cons (pe_dpop1 (pv 2) (pv 8) ⟨rfl, rfl, rfl, rfl⟩) pa_nil))))) pss_nil))) (pss_one (ps_dput hu (pv 2) (pv 6) (pv 5) rfl))))))))) (pss_cons (ps_for PassesOwn.never rfl (pi_list (pe_callTy (call_listD rfl) (by rfl) T.b_list (by decide +kernel) (pa_cons (pv 2) pa_nil))) (pg_name (i := 6) sc_law_base.nd rfl (by first | exact Or.inl rfl | exact Or.inr rfl)) (pss_cons (ps_set (i := 9) sc_law_base.nd rfl (by first | exact Or.inl rfl | exact Or.inr rfl) (pe_callTy (r := rDictP K) (call_dictQ rfl) (by rfl) T.b_dict (by decide +kernel) (pa_cons (pe_lockR (pe_lc (own := [("_law_other", 8)]) (g := (gName 8)) rfl sc_law_base.nd (pi_keys (pv 2)) (blkOk_by (N := N_law_base) (sc := defScope s_law_base) (by decide +kernel)) (fun _ _ _ _ _ => (pg_name (i := 8) sc_law_base.nd rfl (by first | exact Or.inl rfl | exact Or.inr rfl))) (fun _ _ _ _ _ => (pts_one (pt_cmpR op_ne (pv 8) (pv 6) (nomark _)))) (fun _ _ _ _ _ => (pe_tup (pa_cons (pv 8) (pa_cons (pe_dget hu (pv 2) (pv 8) (fun _ _ => rfl)) pa_nil)))))) pa_nil))) (pss_one (ps_dput hu (pv 2) (pv 6) (pe_callD D_law_reduced (hr.mono (by decide)) rfl pass0 (pa_cons (pv 0) (pa_cons (pv 9) (pa_cons (pe_dget hu (pv 2) (pv 6) (fun _ _ => rfl)) pa_nil)))) rfl)))) (pss_one (ps_ret (pv 2))))))), ?_⟩; rw [st_law_base]; (try dsimp only [cxOf]); walk_at "go"
    intro lf hlf
    have e1 : Ex H (upd H lf (.dK [])) := Ex.new hlf
    have hlfs := upd_same (H := H) (a := lf) (o := .dK [])
    generalize upd H lf (.dK []) = H1 at e1 hlfs ⊢
    walk_at "go"
    refine ⟨⟨_, e1.sql hlr⟩, ?_⟩
    refine lc_selL walk_list ss (by rw [List.length_map, htl]) (by rw [List.length_map, htl]; exact line5 (by omega)) (fun H' e => (e1.trans e).sql hlr) (fun b y H => ∃ t, y = V.ref t ∧ H t = some (.dK (toK b))) (fun b y H H' e ⟨t, h8, h9⟩ => ⟨t, h8, e _ _ (fun _ z => nomatch z) h9⟩) (fun b => !decide (b = [])) (fun _ => rfl) ?_ ?_
    · rintro i x b H2 H2' KT KY hi e2 ⟨rfl, hx⟩ hr0 kf kt
      rw [List.getElem?_map] at hx
      cases hq : ts[i]? with
      | none => rw [hq] at hx; cases hx
      | some t =>
        rw [hq] at hx
        cases Option.some.inj hx
        obtain ⟨b', hb', htb⟩ := paired_get hts hq
        rw [hr0] at hb'
        cases Option.some.inj hb'
        have ht2 := (e1.trans e2) _ _ htb
        walk_at "go"
        refine ⟨t, toK b, rfl, ht2, ?_⟩
        walk_at "go"
        rw [toK_len]
        by_cases hb : b = []
        · rw [if_neg (by rw [hb]; decide)]
          exact kf (by rw [hb]; rfl) _ (Ex.refl _)
        · rw [if_pos (decide_eq_true (by have := List.length_pos_iff.mpr hb; omega))]
          exact ⟨_, rfl, kt (by rw [decide_eq_false hb]; rfl) _ _ (Ex.refl _) ⟨t, rfl, ht2⟩⟩
    · intro D H2 ys hD e2 hD2 hys
      obtain ⟨tts, rfl, htt⟩ := paired_refs hys
      have hT0 : ∀ b ∈ ss.filter (fun b => !decide (b = [])), Sca p b b := fun b hb => by
        obtain ⟨h8, h9⟩ := List.mem_filter.mp hb
        have hf := hfit b h8
        have hg := hf.g b (List.mem_singleton_self b)
        exact ⟨hg, hg, (fun z => by rw [z] at h9; cases h9), hf, 1, by omega, by omega, fun w => by rw [Int.one_mul, cf_mod hp0 hg]⟩
      have hl0 : (ss.filter fun b => !decide (b = [])).length ≤ 1000 := Nat.le_trans (List.length_filter_le _ _) hlen
      walk_at "go"
      refine g_while (BasS p lr res H) n ⟨lf, D, [], tts, _, _, [], none, none, none, none, none, none, rfl, e1.trans e2, hlf, e1.free hD, ⟨e2 _ _ hlfs, fun z hz => nomatch hz⟩, hD2, ⟨htt, paired_refl hT0⟩, .nil, List.Pairwise.nil, by rw [List.length_nil]; omega, hled⟩ ?_
      rintro n1 σ' H3 ⟨lf, lt, fs, ds, TL, T, F, x4', x5, x6, x7, x8, x9, rfl, e3, nf, nt, hfs, hlt, htd, hsame, hPF, hsz, hl3⟩
      have lenF := hsame.length
      have lenT := htd.s.length
      have lenD := htd.b.length
      rw [List.length_map] at lenF
      walk_at "go"
      refine ⟨lt, _, rfl, .inl (SqL.of hlt), ?_⟩
      walk_at "go"
      rw [List.length_map]
      rcases List.eq_nil_or_concat T with rfl | ⟨T2, b', rfl⟩
      · rw [List.length_nil] at lenT
        refine g_iff (decide_eq_false (by omega)) ?_
        walk_at "go"
        have hF : res = F := rows_inj (LedN.nil hl3)
        subst hF
        have hFL := same_leads hsame
        have hbas : ∀ z ∈ fs, Bas p L z.1 ∧ In p res z.1 := fun z hz => by
          obtain ⟨q, hq, hs⟩ := paired_mem hsame (List.mem_map.mpr ⟨z, hz, rfl⟩)
          exact ⟨hs.bas (hres q hq), In.congr hs.e (In.mem hq)⟩
        refine ⟨lf, kvF fs, rfl, .inl hfs.d, fun q hq0 => ?_⟩
        rw [kvF_keys]
        have e4 : Ex H3 (upd H3 q (.lst (((fs.map Prod.fst).map lead).map V.str))) := Ex.new hq0
        have hq4 := upd_same (H := H3) (a := q) (o := .lst (((fs.map Prod.fst).map lead).map V.str))
        have hqf : q ≠ lf := fun z => by rw [z, hfs.d] at hq0; cases hq0
        generalize upd H3 q (.lst (((fs.map Prod.fst).map lead).map V.str)) = H4 at e4 hq4 ⊢
        have hfs4 := hfs.ex' e4
        walk_at "go"
        refine ⟨⟨_, SqL.of hq4⟩, ?_⟩
        refine forG walk_list (fun i σ' H' => ∃ (gs : Fs) (y6 y8 y9 : Option V), σ' = [some (.int p), some (.ref lr), some (.ref lf), some (.ref lt), x4', x5, y6, x7, y8, y9] ∧ Ex2 lf lf H4 H' ∧ FsAt H' lf gs ∧ gs.map (fun z => lead z.1) = fs.map (fun z => lead z.1) ∧ (∀ z ∈ gs, Bas p L z.1 ∧ In p res z.1) ∧ ∀ z ∈ gs.take i, Nrm p L res z.1) ⟨fs, _, _, _, rfl, fun _ _ _ _ z => z, hfs4, rfl, hbas, by rw [List.take_zero]; exact fun z hz => nomatch hz⟩ (fun i σ' H' _ ⟨_, _, _, _, _, e, _⟩ => SqL.of (e _ _ hqf hqf hq4)) ?_ ?_
        · rintro i xx σ' H5' H5 hi ⟨gs, y6, y8, y9, rfl, e5, hgs, hgl, hgb, hgn⟩ ⟨rfl, hx0⟩
          have hgl2 : (gs.map Prod.fst).map lead = (fs.map Prod.fst).map lead := by rw [List.map_map, List.map_map]; exact hgl
          rw [← hgl2, List.map_map, List.map_map, List.getElem?_map] at hx0
          have hglen : gs.length = fs.length := by
            have := congrArg List.length hgl
            rwa [List.length_map, List.length_map] at this
          cases hq : gs[i]? with
          | none => rw [hq] at hx0; cases hx0
          | some z =>
            rw [hq] at hx0
            cases Option.some.inj hx0
            have hzm := List.mem_of_getElem? hq
            have hil := (List.getElem?_eq_some_iff.mp hq).1
            have hget := (List.getElem?_eq_some_iff.mp hq).2
            have hdr : gs.drop i = z :: gs.drop (i + 1) := by rw [List.drop_eq_getElem_cons hil, hget]
            have hspl : gs = gs.take i ++ z :: gs.drop (i + 1) := by rw [← hdr, List.take_append_drop]
            generalize hA : gs.take i = A at *
            generalize hD : gs.drop (i + 1) = D at *
            have hAl : A.length = i := by rw [← hA, List.length_take]; omega
            subst hspl
            have hPFg : PFL (((A ++ z :: D).map Prod.fst).map lead) := by rw [hgl2, ← hFL]; exact hPF
            have hdis : ∀ y ∈ A ++ D, lead y.1 ≠ lead z.1 := fun y hy e => by
              have h1 := hPFg
              rw [List.map_append, List.map_append, List.map_cons, List.map_cons] at h1
              refine (PFL.mid h1 (lead y.1) ?_).1 ⟨Str.empty, by rw [app_empty, e]⟩
              rcases List.mem_append.mp hy with hy | hy
              · exact List.mem_append_left _ (List.mem_map.mpr ⟨y.1, List.mem_map.mpr ⟨y, hy, rfl⟩, rfl⟩)
              · exact List.mem_append_right _ (List.mem_map.mpr ⟨y.1, List.mem_map.mpr ⟨y, hy, rfl⟩, rfl⟩)
            obtain ⟨nR, c', hred, hlc, hbc, hic, hnc⟩ := red_step (D := D.map Prod.fst) (A := A.map Prod.fst) (c := z.1) (B := fs.map Prod.fst) (C := res) hp0 hL hL1 (fun b hb => ⟨(hres b hb).g.nd, by rw [← hFL]; exact List.mem_map.mpr ⟨b, hb, rfl⟩⟩) (by rw [← hFL]; exact hPF) (by rw [← hgl2, List.map_append (f := Prod.fst), List.map_cons]) (fun b hb => by
              rw [← List.map_cons (f := Prod.fst), ← List.map_append] at hb
              obtain ⟨y, hy, rfl⟩ := List.mem_map.mp hb
              exact hgb y hy)
            have hbz := (hgb z hzm).1
            have hfz : Fit p [z.1] := Fit.of hL hL1 hbz.g hbz.b
            have hkl : (kvF (A ++ z :: D)).length ≤ 1000 := by unfold kvF; rw [List.length_map]; omega
            show gName 6 (V.str (lead z.1)) _ _ _
            walk_at "go"
            refine lcK_relF hgs.d (line5 (by omega)) (fun H' Q' _ q => ⟨_, rfl, q⟩) (fun kv y H => ∃ t, y = V.ref t ∧ H t = some (.tup [kV kv.1, kv.2])) (fun e y H9 H9' ⟨od, ho⟩ e9 ⟨t, h8, h9⟩ => ⟨t, h8, e9 _ _ (fun e => by rw [e, ho] at h9; cases h9) (fun _ z => nomatch z) h9⟩) (fun kv => decide (kv.1 ≠ (Sum.inr (lead z.1) : Key))) (fun _ => rfl) ?_ ?_
            · rintro j k9 v9 H6 KT KY hj lk hT hY
              unfold kvF at hj
              rw [List.getElem?_map] at hj
              cases hy : (A ++ z :: D)[j]? with
              | none => rw [hy] at hj; cases hj
              | some y =>
                rw [hy] at hj
                cases Option.some.inj hj
                have hval := fs_val hPFg (List.mem_of_getElem? hy)
                show tTest _ (List.set _ 8 (some (V.str (lead y.1)))) _ _
                walk_at "go"
                by_cases he : lead y.1 = lead z.1
                · rw [if_neg (by rw [he]; simp)]
                  exact hT (decide_eq_false (fun n => n (by rw [he]))) _ (Ex.refl _)
                · rw [if_pos (by simp [he])]
                  walk_at "go"
                  refine ⟨lf, .ref y.2, rfl, .inl ⟨kvF (A ++ z :: D), (Sum.inr (lead y.1) : Key), lk.rd, rfl, hval.symm⟩, ?_⟩
                  walk_at "go"
                  exact ⟨Nat.le_of_ble_eq_true rfl, fun q9 hq9 => hY (decide_eq_true fun e => he (Sum.inr.inj e)) _ _ (Ex.new hq9) ⟨q9, rfl, upd_same⟩⟩
            · intro D9 H6 ys hD9 e6 hD96 hys
              obtain ⟨ps, rfl, hps⟩ := paired_refs hys
              walk_at "go"
              have hdrop : (kvF (A ++ z :: D)).filter (fun kv => decide (kv.1 ≠ (Sum.inr (lead z.1) : Key))) = kvF (A ++ D) := kvF_drop hdis
              rw [hdrop] at hps
              refine ⟨D9, ps, kvF (A ++ D), rfl, SqL.of hD96, Paired.mapP hps fun _ _ z => SqT.of z, fun d9 hd9 => ?_⟩
              rw [kvF_merge (PFL.sub (by rw [List.map_append, List.map_append, List.map_append, List.map_append, List.map_cons, List.map_cons]; exact List.Sublist.append (List.Sublist.refl _) (List.sublist_cons_self _ _)) hPFg)]
              have e7 : Ex H6 (upd H6 d9 (.dK (kvF (A ++ D)))) := Ex.new hd9
              have hd97 := upd_same (H := H6) (a := d9) (o := .dK (kvF (A ++ D)))
              generalize upd H6 d9 (.dK (kvF (A ++ D))) = H7 at e7 hd97 ⊢
              have e57 := e6.trans e7
              have hgs7 := hgs.ex' e57
              walk_at "go"
              have hgetz := DGet.k (H := H7) (a := lf) (kvs := kvF (A ++ z :: D)) (k := (Sum.inr (lead z.1) : Key)) hgs7.d
              rw [fs_val hPFg hzm] at hgetz
              refine ⟨lf, .ref z.2, rfl, hgetz, ?_⟩
              walk_at "go"
              have hsub : ∀ y ∈ A ++ D, y ∈ A ++ z :: D := fun y hy => (List.mem_append.mp hy).elim (List.mem_append_left _) fun h => List.mem_append_right _ (List.mem_cons_of_mem _ h)
              have hoth : FsAt H7 d9 (A ++ D) := ⟨hd97, fun y hy => hgs7.b y (hsub y hy)⟩
              have hlenAD : (A ++ z :: D).length = A.length + (D.length + 1) := by rw [List.length_append, List.length_cons]
              refine ⟨p, d9, z.2, (A ++ D).map Prod.fst, z.1, c', nR, rfl, hoth.heads, fun b hb => ?_, by rw [List.length_map, List.length_append]; omega, hgs7.b z hzm, hfz, by rw [List.map_append]; exact hred, hp, fun x8 H8 e8 hx8 hx8' => ?_⟩
              · obtain ⟨y, hy, rfl⟩ := List.mem_map.mp hb
                have hby := (hgb y (hsub y hy)).1
                exact ⟨Fit.of hL hL1 hby.g hby.b, hby.n⟩
              have hgs8 := hgs7.ex' e8
              have e58 := e57.trans e8
              walk_at "go"
              refine ⟨lf, _, rfl, DPut.k (k := (Sum.inr (lead z.1) : Key)) hgs8.d (Nat.lt_of_le_of_lt hkl (by decide)), ?_⟩
              rw [kvF_put hdis hlc]
              have hne8 : ∀ y ∈ A ++ z :: D, y.2 ≠ lf := fun y hy e => by
                have h1 := hgs8.b y hy
                rw [e, hgs8.d] at h1
                exact kvF_ne (hgb y hy).1.n (HO.dK.inj (Option.some.inj h1))
              have hx8f : x8 ≠ lf := fun e => by
                rw [e, hgs8.d] at hx8'
                exact kvF_ne hbc.n (HO.dK.inj (Option.some.inj hx8'))
              refine ⟨A ++ (c', x8) :: D, _, _, _, rfl, fun a o h1 h2 h3 => ?_, ⟨upd_same, fun y hy => ?_⟩, ?_, fun y hy => ?_, ?_⟩
              · rw [upd_ne h1]
                exact e58 _ _ (e5 a o h1 h2 h3)
              · rcases List.mem_append.mp hy with hy | hy
                · rw [upd_ne (hne8 y (hsub y (List.mem_append_left _ hy)))]
                  exact hgs8.b y (hsub y (List.mem_append_left _ hy))
                · rcases List.mem_cons.mp hy with rfl | hy
                  · rw [upd_ne hx8f]
                    exact hx8'
                  · rw [upd_ne (hne8 y (hsub y (List.mem_append_right _ hy)))]
                    exact hgs8.b y (hsub y (List.mem_append_right _ hy))
              · rw [← hgl, List.map_append, List.map_append, List.map_cons, List.map_cons]
                show _ ++ lead c' :: _ = _
                rw [hlc]
              · rcases List.mem_append.mp hy with hy | hy
                · exact hgb y (hsub y (List.mem_append_left _ hy))
                · rcases List.mem_cons.mp hy with rfl | hy
                  · exact ⟨hbc, hic⟩
                  · exact hgb y (hsub y (List.mem_append_right _ hy))
              · have htk : (A ++ (c', x8) :: D).take (i + 1) = A ++ [(c', x8)] := by
                  rw [← hAl, List.take_append, List.take_of_length_le (by omega), show A.length + 1 - A.length = 1 from by omega]
                  rfl
                rw [htk]
                intro y hy
                rcases List.mem_append.mp hy with hy | hy
                · exact hgn y hy
                · rw [List.mem_singleton.mp hy]
                  exact hnc
        · rintro σ' H5 ⟨gs, y6, y8, y9, rfl, e5, hgs, hgl, hgb, hgn⟩
          walk_at "go"
          have hglen : gs.length = fs.length := by
            have := congrArg List.length hgl
            rwa [List.length_map, List.length_map] at this
          rw [List.take_of_length_le (by rw [List.length_map, List.length_map, List.length_map]; omega)] at hgn
          exact k lf gs H5 (fun a o h => e5 a o (fun e => by rw [e, nf] at h; cases h) (fun e => by rw [e, nf] at h; cases h) ((e3.trans e4) a o h)) nf hgs (by rw [hgl, hFL, List.map_map]; rfl) hgn
      · rw [List.concat_eq_append] at *
        obtain ⟨TL2, b, hTLe, hs2, hsb⟩ := paired_split htd.s
        obtain ⟨ds2, t, hdse, hb2, htb⟩ := paired_split (hTLe ▸ htd.b)
        refine g_ift (decide_eq_true (by rw [hdse, List.length_append, List.length_singleton]; omega)) ?_
        refine ⟨fun σ' H' => ∃ n', n' < n1 ∧ BasS p lr res H n' σ' H', fun _ _ z => z, ?_⟩
        walk_at "go"
        refine ⟨_, rfl, .inl ⟨rfl, _, SqL.of hlt⟩, lt, _, .ref t, rfl, rfl, hlt, by rw [hdse, List.map_append, List.length_append, List.length_map, List.map_singleton, List.length_singleton, List.getElem?_append_right (by rw [List.length_map]; omega), List.length_map]; simp, ?_⟩
        have hdl : (ds.map V.ref).dropLast = ds2.map V.ref := by rw [hdse, List.map_append, List.map_singleton, List.dropLast_concat]
        rw [hdl]
        have e4 : Ex H (upd H3 lt (.lst (ds2.map V.ref))) := Ex.mut e3 nt
        have x4 : ExL H3 (upd H3 lt (.lst (ds2.map V.ref))) := ExL.upd hlt
        have hlt4 := upd_same (H := H3) (a := lt) (o := .lst (ds2.map V.ref))
        generalize upd H3 lt (.lst (ds2.map V.ref)) = H4 at e4 x4 hlt4 ⊢
        have hfs4 := hfs.exl x4
        have hb4 : Paired (fun t b => H4 t = some (.dK (toK b))) ds2 TL2 := Paired.mapP hb2 fun _ _ z => x4 _ _ (fun _ z => nomatch z) z
        have htb4 := x4 t (.dK (toK b)) (fun _ z => nomatch z) htb
        have gb := hsb.g
        have hfb := Fit.same hsb.g hsb.gc (hsb.keys hp) hsb.f
        have nb := hfb.n b (List.mem_singleton_self b)
        have lb := hfb.l b (List.mem_singleton_self b)
        obtain ⟨hcn, hll⟩ := lead_same hsb.n (hsb.keys hp)
        walk_at "go"
        refine ⟨t, p, b, rfl, hp, .inl htb4, hsb.n, gb, by omega, fun u hu => Nat.le_trans (lb u hu) (by decide), fun x H5 e5 hx hx5 => ?_⟩
        walk_at "go"
        have hsp := Sca.same hp trivial hsb
        have hfp := Fit.same hsp.g hsp.gc hsp.keys hsp.f
        have nP := hfp.n _ (List.mem_singleton_self _)
        have lP := hfp.l _ (List.mem_singleton_self _)
        have hlP : lead (plainS p b) = lead b := by
          have h1 := cf_pos_of gb (lead_mem hsb.n)
          obtain ⟨i1, i2, i3⟩ := inv_one hp h1 (cf_lt hp0 gb (lead b))
          exact scale_lead hp i2 i3 gb hsb.n
        refine ⟨x, plainS p b, rfl, .inl hx5, by omega, fun u hu => Nat.le_trans (lP u hu) (by decide), fun lo H6 e6 hlo hlo6 => ?_⟩
        obtain ⟨z, r, hzr⟩ := ordW_cons (keys_ne hsp.n)
        have hzl : z = lead b := by
          have := lead_head hsp.n
          rw [hzr, hlP] at this
          exact Option.some.inj this
        subst hzl
        walk_at "go"
        refine g_ixl (v := .str (lead b)) (SqL.of hlo6) (by rw [hzr]; exact atI_get (Int.le_refl 0) rfl) ?_
        walk_at "go"
        have e46 := e5.trans e6
        have hfs6 := hfs4.ex' e46
        refine ⟨lf, kvF fs, rfl, .inl hfs6.d, fun q hq0 => ?_⟩
        rw [kvF_keys]
        have e7 : Ex H6 (upd H6 q (.lst (((fs.map Prod.fst).map lead).map V.str))) := Ex.new hq0
        have hq7 := upd_same (H := H6) (a := q) (o := .lst (((fs.map Prod.fst).map lead).map V.str))
        generalize upd H6 q (.lst (((fs.map Prod.fst).map lead).map V.str)) = H7 at e7 hq7 ⊢
        walk_at "go"
        have hsameE : ∀ o ∈ fs.map Prod.fst, ∃ q, q ∈ F ∧ Same p o q := fun o ho => paired_mem hsame ho
        have hoF : ∀ o ∈ fs.map Prod.fst, Fit p [o] ∧ o ≠ [] := fun o ho => by
          obtain ⟨q, _, hs⟩ := hsameE o ho
          exact ⟨Fit.same hs.g hs.gc hs.keys hs.f, hs.n⟩
        have hneF : ∀ o ∈ fs.map Prod.fst, o ≠ [] := fun o ho => (hoF o ho).2
        have hneF2 : ∀ o ∈ F, o ≠ [] := fun o ho => by
          obtain ⟨q, _, hs⟩ := paired_mem2 hsame ho
          exact (lead_same hs.n hs.keys).1
        have hwl : (lead b).length ≤ 1000000 := lb _ (lead_mem hsb.n)
        refine ⟨q, (fs.map Prod.fst).map lead, lead b, rfl, SqL.of hq7, by rw [List.length_map, List.length_map]; omega, fun l hl => ?_, by omega, ?_⟩
        · obtain ⟨o, ho, rfl⟩ := List.mem_map.mp hl
          exact Nat.le_trans ((hoF o ho).1.l o (List.mem_singleton_self o) _ (lead_mem (hneF o ho))) (by decide)
        have e47 := e46.trans e7
        have hfs7 := hfs6.ex' e7
        have hlt7 := e47 _ _ hlt4
        have hb7 : Paired (fun t b => H7 t = some (.dK (toK b))) ds2 TL2 := Paired.mapP hb4 fun _ _ z => e47 _ _ z
        have hx7 := (e6.trans e7) _ _ hx5
        have eH7 : Ex H H7 := e4.trans e47
        have hFL := same_leads hsame
        rw [rows_app] at hl3
        obtain ⟨n2, rfl, hinv⟩ := LedN.inv hl3 (leadR_one hcn)
        rw [List.length_append, List.length_singleton] at hsz lenT
        cases hst : startsL ((fs.map Prod.fst).map lead) (lead b) with
        | some l =>
          obtain ⟨io, o, tt, hoi, rfl, hwt, hfirst, hhit⟩ := starts_some hneF hst
          walk_at "go"
          refine ⟨rfl, ?_⟩
          rw [decide_eq_false (fun z => nomatch z)]
          walk_at "go"
          obtain ⟨d, hdi, hdb, hval⟩ := heads_val (fs_paired hfs7.b) hoi fun j c hj hc e => hfirst j c hj hc ⟨tt, by rw [e]; exact hwt⟩
          rw [kvF_heads] at hval
          have hget := DGet.k (H := H7) (a := lf) (kvs := kvF fs) (k := (Sum.inr (lead o) : Key)) hfs7.d
          rw [hval] at hget
          refine ⟨lf, .ref d, rfl, hget, ?_⟩
          walk_at "go"
          intro q6 hq6
          walk_at "go"
          have hll2 : (lead o).length ≤ 1000000 := by rw [hwt, len_app] at hwl; omega
          refine ⟨lead o, rfl, line5 (by omega), ?_⟩
          walk_at "go"
          refine ⟨lead b, rfl, line5 (by omega), ?_⟩
          rw [show cutS (lead b) (some ((lead o).length : Int)) none = tt from by rw [hwt, cutS_back]]
          walk_at "go"
          refine ⟨upd_same, toK [(tt, 1)], rfl, Nat.le_of_ble_eq_true rfl, ?_⟩
          rw [mergeK_toK (s := [(tt, 1)]) (by simp [keys])]
          walk_at "go"
          have e8 : Ex H7 (upd (upd H7 q6 (.dK [])) q6 (.dK (toK [(tt, 1)]))) := Ex.mut (Ex.new hq6) hq6
          have hq66 := upd_same (H := upd H7 q6 (.dK [])) (a := q6) (o := .dK (toK [(tt, 1)]))
          generalize upd (upd H7 q6 (.dK [])) q6 (.dK (toK [(tt, 1)])) = H8 at e8 hq66 ⊢
          have hom := List.mem_of_getElem? hoi
          have hof := (hoF o hom).1
          have go := hof.g o (List.mem_singleton_self o)
          have no := hof.n o (List.mem_singleton_self o)
          have lo2 := hof.l o (List.mem_singleton_self o)
          have htl2 : tt.length ≤ 1000000 := by rw [hwt, len_app] at hwl; omega
          refine ⟨p, d, q6, o, [(tt, 1)], rfl, .inl (e8 _ _ hdb), .inl hq66, go.nd, by simp [keys], by rw [List.length_singleton]; omega, by omega, go.up' (by omega), fun u hu => Nat.le_trans (lo2 u hu) (by decide), fun u hu => ?_, fun d7 H9 e9 hd7 hd7' => ?_⟩
          · rw [List.mem_singleton.mp (show u ∈ [tt] from hu)]
            omega
          rw [prod_word tt go] at hd7'
          have e89 := e8.trans e9
          walk_at "go"
          refine ⟨p, x, d7, plainS p b, withB o tt, -1, rfl, .inl (e89 _ _ hx7), .inl hd7', withB_nodup go.nd, by rw [withB_len]; omega, by omega, by omega, fun d8 H10 e10 hd8 hd8' => ?_⟩
          walk_at "go"
          refine ⟨d8, _, rfl, hd8', ?_⟩
          walk_at "go"
          rw [toK_len]
          obtain ⟨qF, hqF, hsq, hhF⟩ := (hit_same hsame (lead b')).2 io o tt hoi (by rw [hll]; exact hwt) fun j c hj hc => by rw [hll]; exact hfirst j c hj hc
          rcases hinv with ⟨o1, t1, hh1, hfit1, hled1⟩ | ⟨hh1, _⟩
          · rw [hhF] at hh1
            cases Option.some.inj hh1
            obtain ⟨hiff, hsca⟩ := Sca.hit (t := tt) hp hsb hsq hfit1
            have e710 := e89.trans e10
            have eH10 := eH7.trans e710
            have hfs10 := hfs7.ex' e710
            have hlt10 := e710 _ _ hlt7
            have hb10 : Paired (fun t b => H10 t = some (.dK (toK b))) ds2 TL2 := Paired.mapP hb7 fun _ _ z => e710 _ _ z
            by_cases hnil : plusS p (plainS p b) (withB o tt) (-1) = []
            · rw [if_neg (by rw [hnil]; decide)]
              walk_at "go"
              rw [if_pos (leadR_none.mp (by show leadR [plusS p b' (withB qF tt) (-(cf b' (lead b')))] = none; rw [hiff.mp hnil]; rfl))] at hled1
              exact ⟨n2, Nat.lt_succ_self _, lf, lt, fs, ds2, TL2, T2, F, _, _, _, _, _, _, rfl, eH10, nf, nt, hfs10, hlt10, ⟨hb10, hs2⟩, hsame, hPF, by omega, hled1⟩
            · rw [if_pos (decide_eq_true (by have := List.length_pos_iff.mpr hnil; omega))]
              walk_at "go"
              have hnil2 : plusS p b' (withB qF tt) (-(cf b' (lead b'))) ≠ [] := fun z => hnil (hiff.mpr z)
              rw [if_neg (fun z => by
                have h9 : leadR [plusS p b' (withB qF tt) (-(cf b' (lead b')))] = none := leadR_none.mpr z
                rw [leadR_one hnil2] at h9
                cases h9)] at hled1
              refine ⟨.inl ⟨rfl, _, SqL.of hlt10⟩, ?_⟩
              walk_at "go"
              have lent2 := hb2.length
              have lenTL2 := hs2.length
              refine ⟨lt, _, .ref d8, rfl, rfl, hlt10, Nat.lt_of_le_of_lt (by rw [List.length_map]; omega : _ ≤ 1000) (by decide), ?_⟩
              have x9 : ExL H10 (upd H10 lt (.lst (ds2.map V.ref ++ [.ref d8]))) := ExL.upd hlt10
              exact ⟨n2, Nat.lt_succ_self _, lf, lt, fs, ds2 ++ [d8], TL2 ++ [_], T2 ++ [_], F, _, _, _, _, _, _, rfl, Ex.mut eH10 nt, nf, nt, hfs10.exl x9, by rw [upd_same, List.map_append]; rfl, ⟨Paired.snoc (Paired.mapP hb10 fun _ _ z => x9 _ _ (fun _ z => nomatch z) z) (x9 d8 (.dK (toK _)) (fun _ z => nomatch z) hd8'), Paired.snoc hs2 (hsca hnil)⟩, hsame, hPF, by rw [List.length_append, List.length_singleton]; omega, by rw [rows_app]; exact hled1⟩
          · rw [hhF] at hh1
            cases hh1
        | none =>
          walk_at "go"
          refine ⟨rfl, ?_⟩
          rw [decide_eq_true rfl]
          walk_at "go"
          refine ⟨lf, kvF fs, rfl, .inl hfs7.d, fun q2 hq2 => ?_⟩
          rw [kvF_keys]
          have e8 : Ex H7 (upd H7 q2 (.lst (((fs.map Prod.fst).map lead).map V.str))) := Ex.new hq2
          have hq8 := upd_same (H := H7) (a := q2) (o := .lst (((fs.map Prod.fst).map lead).map V.str))
          have hq2f : q2 ≠ lf := fun z => by rw [z, hfs7.d] at hq2; cases hq2
          have hq2t : q2 ≠ lt := fun z => by rw [z, hlt7] at hq2; cases hq2
          generalize upd H7 q2 (.lst (((fs.map Prod.fst).map lead).map V.str)) = H8 at e8 hq8 ⊢
          have hfs8 := hfs7.ex' e8
          have hlt8 := e8 _ _ hlt7
          have hx8 := e8 _ _ hx7
          have hb8 : Paired (fun t b => H8 t = some (.dK (toK b))) ds2 TL2 := Paired.mapP hb7 fun _ _ z => e8 _ _ z
          have eH8 := eH7.trans e8
          have hzf : ∀ z ∈ fs, z.2 ≠ lf ∧ z.2 ≠ lt := fun z hz => by
            have h1 := hfs8.b z hz
            refine ⟨fun e => ?_, fun e => ?_⟩
            · rw [e, hfs8.d] at h1
              exact kvF_ne (hneF z.1 (List.mem_map.mpr ⟨z, hz, rfl⟩)) (HO.dK.inj (Option.some.inj h1))
            · rw [e, hlt8] at h1
              cases h1
          have hxf : x ≠ lf ∧ x ≠ lt := by
            refine ⟨fun e => ?_, fun e => ?_⟩
            · rw [e, hfs8.d] at hx8
              exact kvF_ne hsp.n (HO.dK.inj (Option.some.inj hx8))
            · rw [e, hlt8] at hx8
              cases hx8
          have hlft : lf ≠ lt := fun e => by
            have h9 := hfs8.d
            rw [e, hlt8] at h9
            cases h9
          have hPFf : PFL ((fs.map Prod.fst).map lead) := by rw [← hFL]; exact hPF
          have lent2 := hb2.length
          have lenTL2 := hs2.length
          walk_at "go"
          refine ⟨⟨_, SqL.of hq8⟩, ?_⟩
          refine forG walk_list (fun i σ' H' => ∃ y8 : Option V, σ' = [some (.int p), some (.ref lr), some (.ref lf), some (.ref lt), x4', some (.ref x), some (.str (lead b)), some .non, y8, x9] ∧ Ex2 lf lt H8 H' ∧ H' lf = some (.dK (kvF ((fs.take i).filter (fun z => !longB b z) ++ fs.drop i))) ∧
            H' lt = some (.lst ((ds2 ++ ((fs.take i).filter (longB b)).map Prod.snd).map V.ref))) ⟨_, rfl, fun _ _ _ _ z => z, by rw [List.take_zero, List.drop_zero]; exact hfs8.d, by rw [List.take_zero]; show _ = some (HO.lst ((ds2 ++ []).map V.ref)); rw [List.append_nil]; exact hlt8⟩ (fun i σ' H' _ ⟨_, _, e, _⟩ => SqL.of (e _ _ hq2f hq2t hq8)) ?_ ?_
          · rintro i xx σ' H9' H9 hi ⟨y8, rfl, e9, hlf9, hlt9⟩ ⟨rfl, hx0⟩
            rw [List.map_map, List.map_map, List.getElem?_map] at hx0
            cases hq : fs[i]? with
            | none => rw [hq] at hx0; cases hx0
            | some z =>
              rw [hq] at hx0
              cases Option.some.inj hx0
              have hzm := List.mem_of_getElem? hq
              have hil := (List.getElem?_eq_some_iff.mp hq).1
              have hget := (List.getElem?_eq_some_iff.mp hq).2
              have hdr : fs.drop i = z :: fs.drop (i + 1) := by rw [List.drop_eq_getElem_cons hil, hget]
              have htk : fs.take (i + 1) = fs.take i ++ [z] := by rw [List.take_succ_eq_append_getElem hil, hget]
              have hspl : fs = fs.take i ++ z :: fs.drop (i + 1) := by rw [← hdr, List.take_append_drop]
              have hdis : ∀ y, y ∈ fs.take i ∨ y ∈ fs.drop (i + 1) → lead y.1 ≠ lead z.1 := fun y hy e => by
                have h1 := hPFf
                rw [hspl, List.map_append, List.map_append, List.map_cons, List.map_cons] at h1
                refine (PFL.mid h1 (lead y.1) ?_).1 ⟨Str.empty, by rw [app_empty, e]⟩
                rcases hy with hy | hy
                · exact List.mem_append_left _ (List.mem_map.mpr ⟨y.1, List.mem_map.mpr ⟨y, hy, rfl⟩, rfl⟩)
                · exact List.mem_append_right _ (List.mem_map.mpr ⟨y.1, List.mem_map.mpr ⟨y, hy, rfl⟩, rfl⟩)
              obtain ⟨hof, hon⟩ := hoF z.1 (List.mem_map.mpr ⟨z, hzm, rfl⟩)
              have hzl := hof.l z.1 (List.mem_singleton_self _) _ (lead_mem hon)
              show gName 8 (V.str (lead z.1)) _ _ _
              walk_at "go"
              refine ⟨lead b, rfl, line5 (by omega), ?_⟩
              walk_at "go"
              refine ⟨lead z.1, rfl, line5 (by omega), ?_⟩
              walk_at "go"
              by_cases hs : Txt.startswith (lead z.1) (lead b) = true
              · obtain ⟨t9, ht9⟩ := (startswith_iff _ _).mp hs
                rw [show cutS (lead z.1) none (some ((lead b).length : Int)) = lead b from by rw [ht9, cutS_front], decide_eq_true rfl]
                walk_at "go"
                refine ⟨.inl ⟨rfl, _, SqL.of hlt9⟩, ?_⟩
                walk_at "go"
                unfold tDPop1
                refine g_var rfl ?_
                refine ⟨lf, rfl, .inl ⟨_, .inl hlf9⟩, ?_⟩
                refine g_var rfl ?_
                rw [hdr] at hlf9
                have hfm : ∀ y ∈ (fs.take i).filter (fun z => !longB b z), y ∈ fs.take i := fun y hy => (List.mem_filter.mp hy).1
                refine ⟨_, (Sum.inr (lead z.1) : Key), .ref z.2, hlf9, rfl, kvF_val fun y hy => hdis y (.inl (hfm y hy)), ?_⟩
                rw [kvF_drop fun y hy => (List.mem_append.mp hy).elim (fun h => hdis y (.inl (hfm y h))) fun h => hdis y (.inr h)]
                walk_at "go"
                have hltx : upd H9 lf (.dK (kvF ((fs.take i).filter (fun z => !longB b z) ++ fs.drop (i + 1)))) lt = some (.lst ((ds2 ++ ((fs.take i).filter (longB b)).map Prod.snd).map V.ref)) := by rw [upd_ne (Ne.symm hlft)]; exact hlt9
                have hflt := List.length_filter_le (longB b) (fs.take i)
                have htkl : (fs.take i).length ≤ fs.length := by rw [List.length_take]; omega
                refine ⟨lt, _, .ref z.2, rfl, rfl, hltx, Nat.lt_of_le_of_lt (by rw [List.length_map, List.length_append, List.length_map]; omega : _ ≤ 1000) (by decide), ?_⟩
                refine ⟨_, rfl, fun y o h1 h2 h3 => ?_, ?_, ?_⟩
                · rw [upd_ne h2, upd_ne h1]
                  exact e9 y o h1 h2 h3
                · rw [upd_ne hlft, upd_same, htk, List.filter_append, List.filter_cons_of_neg (by unfold longB; rw [hs]; exact Bool.false_ne_true), List.filter_nil, List.append_nil]
                · rw [upd_same, htk, List.filter_append, List.filter_cons_of_pos (by exact hs), List.filter_nil, List.map_append, List.map_append, List.map_append, List.map_append, List.append_assoc]
                  rfl
              · rw [decide_eq_false (fun e => hs ((startswith_iff _ _).mpr (cutS_pre (V.str.inj e))))]
                walk_at "go"
                have hs2 : longB b z = false := by
                  unfold longB
                  cases h8 : Txt.startswith (lead z.1) (lead b) with
                  | false => rfl
                  | true => exact absurd h8 hs
                refine ⟨_, rfl, e9, ?_, ?_⟩
                · rw [hlf9, hdr, htk, List.filter_append, List.filter_cons_of_pos (by rw [hs2]; rfl), List.filter_nil, List.append_assoc]
                  rfl
                · rw [hlt9, htk, List.filter_append, List.filter_cons_of_neg (by rw [hs2]; exact Bool.false_ne_true), List.filter_nil, List.append_nil]
          · rintro σ' H9 ⟨y8, rfl, e9, hlf9, hlt9⟩
            have hnl : fs.length ≤ (((fs.map Prod.fst).map lead).map V.str).length := by rw [List.length_map, List.length_map, List.length_map]; exact Nat.le_refl _
            rw [List.take_of_length_le hnl, List.drop_of_length_le hnl, List.append_nil] at hlf9
            rw [List.take_of_length_le hnl] at hlt9
            have hno : ∀ o ∈ F, ¬ Beg (lead o) (lead b) := by
              have := (hit_none hneF2).mp ((hit_same hsame (lead b)).1 hst)
              exact this
            have hdisn : ∀ z ∈ fs.filter (fun z => !longB b z), lead z.1 ≠ lead b := fun z hz e => by
              obtain ⟨q, hq, hs⟩ := hsameE z.1 (List.mem_map.mpr ⟨z, (List.mem_filter.mp hz).1, rfl⟩)
              exact hno q hq ⟨Str.empty, by rw [app_empty, (lead_same hs.n hs.keys).2, e]⟩
            have hbl := filter_both (longB b) fs
            walk_at "go"
            refine ⟨lf, _, rfl, DPut.k (k := (Sum.inr (lead b) : Key)) hlf9 (Nat.lt_of_le_of_lt (by unfold kvF; rw [List.length_map]; omega : _ ≤ 1000) (by decide)), ?_⟩
            rw [putK_new _ (kvF_none hdisn)]
            rcases hinv with ⟨o1, t1, hh1, _⟩ | ⟨hh1, hled1⟩
            · rw [hll] at hh1
              rw [(hit_same hsame (lead b)).1 hst] at hh1
              cases hh1
            · have hkv : kvF (fs.filter fun z => !longB b z) ++ [((Sum.inr (lead b) : Key), V.ref x)] = kvF (fs.filter (fun z => !longB b z) ++ [(plainS p b, x)]) := by
                rw [kvF_app]
                show _ = _ ++ [((Sum.inr (lead (plainS p b)) : Key), V.ref x)]
                rw [hlP]
              rw [hkv]
              rw [show plainR p ((fun s => [s]) b') = [plainS p b'] from plainR_one hcn, filter_rows, filter_rows] at hled1
              have hcP := lead_same hsp.n hsp.keys
              have hlq : ∀ o q, Same p o q → Txt.startswith (lead o) (lead b) = longQ [plainS p b'] [q] := fun o q hs => by
                obtain ⟨h1, h2⟩ := lead_same hs.n hs.keys
                have h3 := longQ_one hcP.1 h1
                rw [hcP.2, hlP, h2] at h3
                cases h4 : longQ [plainS p b'] [q] with
                | true => exact beg_starts.mpr (h3.mp h4)
                | false =>
                  cases h5 : Txt.startswith (lead o) (lead b) with
                  | false => rfl
                  | true => rw [h3.mpr (beg_starts.mp h5)] at h4; cases h4
              have hp1' : Paired (Same p) ((fs.filter (longB b)).map Prod.fst) (F.filter fun q => longQ [plainS p b'] [q]) := by
                have h9 := paired_filter (p := fun o => Txt.startswith (lead o) (lead b)) (q := fun q => longQ [plainS p b'] [q]) hsame hlq
                rw [List.filter_map] at h9
                exact h9
              have hp2' : Paired (Same p) ((fs.filter fun z => !longB b z).map Prod.fst) (F.filter fun q => !longQ [plainS p b'] [q]) := by
                have h9 := paired_filter (p := fun o => !Txt.startswith (lead o) (lead b)) (q := fun q => !longQ [plainS p b'] [q]) hsame fun o q hs => by rw [hlq o q hs]
                rw [List.filter_map] at h9
                exact h9
              have hbF := filter_both (fun q : Bg => longQ [plainS p b'] [q]) F
              have hfb9 : ∀ z ∈ fs, upd H9 lf (.dK (kvF (fs.filter (fun z => !longB b z) ++ [(plainS p b, x)]))) z.2 = some (.dK (toK z.1)) := fun z hz => by
                rw [upd_ne (hzf z hz).1]
                exact e9 _ _ (hzf z hz).1 (hzf z hz).2 (hfs8.b z hz)
              have eH9 : Ex H H9 := fun a o h => by
                have ha1 : a ≠ lf := fun e => by rw [e, nf] at h; cases h
                have ha2 : a ≠ lt := fun e => by rw [e, nt] at h; cases h
                exact e9 a o ha1 ha2 (eH8 a o h)
              have hb9 : Paired (fun t b => H9 t = some (.dK (toK b))) ds2 TL2 := by
                have hnn : Paired (fun t c => c ≠ [] ∧ H8 t = some (.dK (toK c))) ds2 TL2 := paired_and hb8 fun c hc => by
                  obtain ⟨q, _, hs⟩ := paired_mem hs2 hc
                  exact hs.n
                refine Paired.mapP hnn fun t c z => e9 _ _ (fun e => ?_) (fun e => ?_) z.2
                · have h1 := z.2
                  rw [e, hfs8.d] at h1
                  exact kvF_ne z.1 (HO.dK.inj (Option.some.inj h1))
                · have h1 := z.2
                  rw [e, hlt8] at h1
                  cases h1
              refine ⟨n2, Nat.lt_succ_self _, lf, lt, fs.filter (fun z => !longB b z) ++ [(plainS p b, x)], ds2 ++ (fs.filter (longB b)).map Prod.snd, TL2 ++ (fs.filter (longB b)).map Prod.fst, T2 ++ F.filter (fun q => longQ [plainS p b'] [q]), F.filter (fun q => !longQ [plainS p b'] [q]) ++ [plainS p b'], _, _, _, _, _, _, rfl, Ex.mut eH9 nf, nf, nt, ⟨upd_same, fun z hz => ?_⟩, by rw [upd_ne (Ne.symm hlft)]; exact hlt9, ⟨?_, ?_⟩, ?_, ?_, ?_, ?_⟩
              · rcases List.mem_append.mp hz with hz | hz
                · exact hfb9 z (List.mem_filter.mp hz).1
                · rw [List.mem_singleton.mp hz, upd_ne hxf.1]
                  exact e9 _ _ hxf.1 hxf.2 hx8
              · refine paired_app ?_ ?_
                · have hnn : Paired (fun t c => c ≠ [] ∧ H9 t = some (.dK (toK c))) ds2 TL2 := paired_and hb9 fun c hc => by
                    obtain ⟨q, _, hs⟩ := paired_mem hs2 hc
                    exact hs.n
                  refine Paired.mapP hnn fun t c z => ?_
                  rw [upd_ne fun e => ?_]
                  · exact z.2
                  · have h1 := z.2
                    rw [e, hlf9] at h1
                    exact kvF_ne z.1 (HO.dK.inj (Option.some.inj h1))
                · exact fs_paired fun z hz => hfb9 z (List.mem_filter.mp hz).1
              · exact paired_app hs2 (Paired.mapP hp1' fun _ _ z => z.sca hp0 (by omega))
              · rw [List.map_append]
                exact Paired.snoc hp2' hsp
              · rw [List.map_append, List.map_singleton]
                refine List.pairwise_append.mpr ⟨List.Pairwise.sublist (List.Sublist.map lead List.filter_sublist) hPF, List.pairwise_singleton _ _, fun l hl y hy => ?_⟩
                rw [List.mem_singleton.mp hy]
                obtain ⟨o, ho, rfl⟩ := List.mem_map.mp hl
                obtain ⟨ho1, ho2⟩ := List.mem_filter.mp ho
                have h3 := longQ_one hcP.1 (hneF2 o ho1)
                rw [hcP.2, hlP] at h3 ⊢
                exact ⟨hno o ho1, fun z => by rw [h3.mpr z] at ho2; cases ho2⟩
              · rw [List.length_append, List.length_append, List.length_singleton]
                omega
              · rw [rows_app, rows_app]
                exact hled1

end
end Fp

namespace Fp
open PySem L2
section
variable {P : Program} {w : World} {K : PySem.W.Frag} {mg : Str → Option Value} {base : Heap} {C_Bag : Addr} {Cs : Addr → Prop}
local macro_rules | `(tactic| walk_at "hp") => `(tactic| first | assumption | rfl)
local macro_rules | `(tactic| walk_at "cond") => `(tactic| first | assumption | decide | omega | (unfold CMul; omega) | (refine ⟨?_, ?_⟩ <;> omega) | (unfold CDiv; omega) | (unfold CPow; omega))
local macro_rules | `(tactic| walk_at "g1") => `(tactic| first
  | with_reducible first
    | refine g_seq ?_ | refine g_asg ?_ | refine g_name ?_ | refine g_ret ?_ | refine g_retN ?_ | refine g_drop ?_ | refine g_ifs ?_
    | refine g_c ?_ | refine g_op ?_ | refine g_un ?_ | refine g_I0 ?_ | refine g_U ?_
    | refine g_test ?_ | refine g_tB ?_ | refine g_bl ?_ | refine g_and ?_ | refine g_or ?_ | refine g_not ?_
    | refine g_andV ?_ | refine g_orV ?_ | refine g_notV ?_ | refine g_if ?_ | refine g_nil ?_ | refine g_cons ?_ | refine g_cb ?_ | refine g_call ?_
    | refine g_lst ?_ | refine g_tup ?_ | refine g_itT ?_ | refine g_itF ?_ | refine g_itNT ?_ | refine g_itNF ?_ | refine g_lc ?_ | refine g_iStr ?_ | refine g_yes ?_ | refine g_exs ?_
    | refine g_chain ?_ | refine g_dget ?_ | refine g_dput ?_ | refine g_dget2 ?_ | refine g_dpop2 ?_ | refine g_fld ?_ | refine g_sfld ?_ | refine g_make ?_ | refine g_meth ?_
    | refine g_bm ?_ | refine g_kw ?_ | refine g_callS ?_ | refine g_revL ?_ | refine g_m1 ?_ | refine g_gsub ?_ | refine g_for ?_ | refine g_iList ?_ | refine g_iTup ?_ | refine g_iRng1 ?_ | refine g_iRng2 ?_ | refine g_sl ?_ | refine g_part ?_ | refine g_noPart ?_
    | refine g_exi ?_ | refine g_exr ?_ | refine g_dnew ?_ | refine g_disp ?_ | refine g_prs0 ?_ | refine g_prs ?_ | refine g_nxt ?_
  | ((with_reducible refine g_var (v := ?vv) ?gv ?_); (case gv => exact rfl))
  | ((with_reducible refine g_I ?gc ?_); (case gc => walk_at "cond"))
  | ((with_reducible refine g_eq ?ge ?_); (case ge => exact rfl))
  | ((with_reducible refine g_ne ?ge ?_); (case ge => exact rfl))
  | (refine g_ixl (SqL.of (by first | assumption | exact upd_same)) rfl ?_)
  | (refine g_setl (by first | assumption | exact upd_same) rfl ?_)
  | ((with_reducible show (∃ i, [V.int _] = [V.int i] ∧ _) ∨ _); refine Or.inl ⟨_, rfl, ?_⟩)
  | ((with_reducible show ∃ i, [V.int _] = [V.int i] ∧ _); refine ⟨_, rfl, ?_⟩)
  | dsimp only)
local macro_rules | `(tactic| walk_at "go") => `(tactic| repeat (walk_at "g1"))

local macro_rules | `(tactic| walk_at "g1") => `(tactic| with_reducible first | refine g_gcons ?_ | refine g_gnil ?_)

theorem dkx {H H' : Hp} {h c d : Addr} {kvs : List (Key × V)} (e : ExB h H H') (hh : HandAt H h c) (hd : H d = some (.dK kvs)) : H' d = some (.dK kvs) := e _ _ (ne_of hd hh.kind.choose_spec (fun z => nomatch z)) hd
theorem exb_free {h : Addr} {H H' : Hp} {a : Addr} (e : ExB h H H') (hh : ∃ o, H h = some o) (hn : H' a = none) (hh' : ∃ o, H' h = some o) : H a = none := by
  cases hz : H a with
  | none => rfl
  | some z =>
    by_cases q : a = h
    · obtain ⟨o, ho⟩ := hh'
      rw [q, ho] at hn
      cases hn
    · rw [e a z q hz] at hn
      cases hn
theorem newx {H : Hp} {h c d : Addr} (hh : HandAt H h c) (hd : H d = none) : d ≠ h := Ne.symm (ne_of_none hh.kind.choose_spec hd)
theorem prod_small {p : Int} {s t : Bg} (hp : 0 < p) (ls : Lot p s 3 2) (lt : Lot p t 3 2) (hs : SmK s) (ht : SmK t) : Lot p (prodS p s t) 8 4 := by
  have h := ls.prod hp lt
  refine ⟨h.g, ?_, h.l⟩
  have h1 := len_prod (p := p) (s := s) (t := t)
  have ns := ls.n
  have nt := lt.n
  rcases hs with hs | hs
  · exact Nat.le_trans h1 (Nat.le_trans (Nat.mul_le_mul hs nt) (by decide))
  · rcases ht with ht | ht
    · exact Nat.le_trans h1 (Nat.le_trans (Nat.mul_le_mul ns ht) (by decide))
    · have h2 := len_sub (l := keys (prodS p s t)) (m := ["xyxy", "xyx", "xy", "xxy", "xx", "x", ""]) h.g.nd fun u hu => by
        obtain ⟨a, ha, b, hb, rfl⟩ := keys_prod hu
        rw [hs] at ha
        rw [ht] at hb
        have h3 : ∀ a ∈ (["xy", "x", ""] : List Str), ∀ b ∈ (["xy", "x", ""] : List Str), a ++ b ∈ (["xyxy", "xyx", "xy", "xxy", "xx", "x", ""] : List Str) := by decide +kernel
        exact h3 a ha b hb
      unfold keys at h2
      rw [List.length_map] at h2
      exact Nat.le_trans h2 (by decide)
/-- all words of a row -/
def manyW (ss : List Bg) : Nat := sumN (fun s : Bg => s.length) ss
theorem manyW_le {m : Nat} {ss : List Bg} (h : ∀ s ∈ ss, s.length ≤ m) : manyW ss ≤ ss.length * m := sumN_le h
theorem manyW_snoc (ss : List Bg) (s : Bg) : manyW (ss ++ [s]) = manyW ss + s.length := by
  unfold manyW
  rw [sumN_app]
  rfl
def sp_law_part : Sp := fun vs H Q _ => ∃ (h c : Addr) (p : Int), vs = [.ref h, .int p] ∧ HandAt H h c ∧ 2 ≤ p ∧ p ≤ 1000 ∧
  ∀ d s H', ExB h H H' → H d = none → H' d = some (.dK (toK s)) → Lot p s 8 4 → HandAt H' h c → Q (.ref d) H'
theorem ok_law_part {f : Addr} {fd : FuncData} (F : Fun K "_law_part" "_law_part" s_law_part f fd) (T : Txt K mg C_Bag Cs) (D_law_draw : DefOk P w K mg base CX0 1 "_law_draw" ["_law_hand_here", "_law_many"] sp_law_draw)
    (D_law_lot : DefOk P w K mg base CX0 3 "_law_lot" ["_law_hand_here", "_law_clock_here", "_law_letters", "_law_most", "_law_many"] sp_law_lot) (D_law_smallI : DefOk P w K mg base CX0 2 "_law_small" ["_law_hand_here", "_law_clock_here"] sp_law_smallI) (D_law_product : DefOk P w K mg base CX0 2 "_law_product" ["_law_clock_here", "_law_one", "_law_other"] sp_law_product) : FnOk P w K mg base CX0 4 f fd ["_law_hand_here", "_law_clock_here"] sp_law_part := by
  refine F.ok sc_law_part (fun vs H Q E h => ?_) (fun cdv A outer s H vs Q E hr h => ?_)
  · obtain ⟨h, c, p, rfl, _⟩ := h
    rfl
  · obtain ⟨h, c, p, rfl, hh, hp0, hp1, k⟩ := h
    have hu := hu_of hr; have hu64 := L2.Room.units hr; refine ⟨_, (pss_cons (ps_if (pt_cmpR op_eq (pe_callD D_law_draw (hr.mono (by decide)) rfl pass0 (pa_cons (pv 0) (pa_cons pe_int pa_nil))) pe_int (nomark _)) (pss_one (ps_ret (pe_callD D_law_lot (hr.mono (by decide)) rfl pass0 (pa_cons (pv 0) (pa_cons (pv 1) (pa_cons pe_str (pa_cons pe_int (pa_cons pe_int pa_nil)))))))) pss_nil) (pss_cons (ps_if (pt_cmpR op_gt (pe_callD D_law_draw (hr.mono (by decide)) rfl pass0 (pa_cons (pv 0) (pa_cons pe_int pa_nil))) pe_int (nomark _)) (pss_one (ps_ret (pe_callD D_law_smallI (hr.mono (by decide)) rfl pass0 (pa_cons (pv 0) (pa_cons (pv 1) pa_nil))))) pss_nil) (pss_one (ps_ret (pe_callD D_law_product (hr.mono (by decide)) rfl pass0 (pa_cons (pv 1) (pa_cons (pe_callD D_law_smallI (hr.mono (by decide)) rfl pass0 (pa_cons (pv 0) (pa_cons (pv 1) pa_nil))) (pa_cons (pe_callD D_law_smallI (hr.mono (by decide)) rfl pass0 (pa_cons (pv 0) (pa_cons (pv 1) pa_nil))) pa_nil)))))))), ?_⟩; rw [st_law_part]; (try dsimp only [cxOf]); walk_at "go"
    refine ⟨h, c, 3, rfl, hh, by omega, by omega, fun v H1 hv0 hv1 e1 hh1 => ?_⟩
    walk_at "go"
    by_cases hv : v = 0
    · rw [decide_eq_true (by rw [hv])]
      walk_at "go"
      refine ⟨h, c, p, _, 3, 4, rfl, hh1, hp0, hp1, by decide, by decide, by decide +kernel, by omega, by omega, fun d s H2 e2 hd hd2 L hh2 => ?_⟩
      walk_at "go"
      exact k d s H2 (fun a o n q => e2 a o n (e1 a o n q)) (exb_free e1 ⟨_, hh.kind.choose_spec⟩ hd ⟨_, hh1.kind.choose_spec⟩) hd2 (L.mono (by omega) (by omega)) hh2
    · rw [decide_eq_false (fun e => hv (V.int.inj e))]
      walk_at "go"
      refine ⟨h, c, 4, rfl, hh1, by omega, by omega, fun v2 H2 hv20 hv21 e2 hh2 => ?_⟩
      have e12 : ExB h H H2 := fun a o n q => e2 a o n (e1 a o n q)
      walk_at "go"
      by_cases hv3 : 0 < v2
      · rw [if_pos (decide_eq_true hv3)]
        walk_at "go"
        refine ⟨h, c, p, rfl, hh2, hp0, hp1, fun d s H3 e3 hd hd3 L _ _ hh3 => ?_⟩
        walk_at "go"
        exact k d s H3 (fun a o n q => e3 a o n (e12 a o n q)) (exb_free e12 ⟨_, hh.kind.choose_spec⟩ hd ⟨_, hh2.kind.choose_spec⟩) hd3 (L.mono (by omega) (by omega)) hh3
      · rw [if_neg (by rw [decide_eq_false hv3]; exact Bool.false_ne_true)]
        walk_at "go"
        refine ⟨h, c, p, rfl, hh2, hp0, hp1, fun d1 s1 H3 e3 hd1 hd13 L1 _ K1 hh3 => ?_⟩
        walk_at "go"
        refine ⟨h, c, p, rfl, hh3, hp0, hp1, fun d2 s2 H4 e4 hd2 hd24 L2' _ K2 hh4 => ?_⟩
        walk_at "go"
        have e13 : ExB h H H4 := fun a o n q => e4 a o n (e3 a o n (e12 a o n q))
        refine ⟨p, d1, d2, s1, s2, rfl, .inl (dkx e4 hh3 hd13), .inl hd24, L1.g.nd, L2'.g.nd, Nat.lt_of_le_of_lt (Nat.mul_le_mul L1.n L2'.n) (by decide), by omega, L1.g.up' (by omega), fun u hu => Nat.le_trans (L1.l u hu).1 (by decide), fun u hu => Nat.le_trans (L2'.l u hu).1 (by decide), fun d H5 e5 hd hd5 => ?_⟩
        walk_at "go"
        exact k d _ H5 (fun a o n q => e5 a o (e13 a o n q)) (exb_free e13 ⟨_, hh.kind.choose_spec⟩ hd ⟨_, hh4.kind.choose_spec⟩) hd5 (prod_small (by omega) L1 L2' K1 K2) (hh4.ex' e5)
def sixB : List Bg := [[("x", 1)], [("yx", 1), ("", 1)], [("yy", 1), ("x", 1)], [("z", 1)], [("zx", 1), ("y", 1)], [("yyx", 1)]]
theorem six_lot {p : Int} (hp : 2 ≤ p) {s : Bg} (hs : s ∈ sixB) : Lot p s 2 3 := by
  unfold sixB at hs
  have h1 : ∀ t ∈ sixB, (keys t).Nodup ∧ t.length ≤ 2 ∧ (∀ u ∈ keys t, u.length ≤ 3 ∧ isW u = true) ∧ ∀ kv ∈ t, kv.2 = 1 := by decide +kernel
  obtain ⟨a, b, c, d⟩ := h1 s hs
  exact Lot.of a b c fun kv h => by rw [d kv h]; omega
def sp_law_row : Sp := fun vs H Q _ => ∃ (h c : Addr) (p : Int), vs = [.ref h, .int p] ∧ HandAt H h c ∧ 2 ≤ p ∧ p ≤ 1000 ∧
  ∀ l ds ss H', ExB h H H' → H' l = some (.lst (ds.map V.ref)) → Paired (fun d s => H' d = some (.dK (toK s))) ds ss → (∀ s ∈ ss, Lot p s 100 8) → manyW ss ≤ 96 → ss ≠ [] → ss.length ≤ 6 → HandAt H' h c → Q (.ref l) H'
theorem ok_law_row {f : Addr} {fd : FuncData} (F : Fun K "_law_row" "_law_row" s_law_row f fd) (T : Txt K mg C_Bag Cs) (D_law_draw : DefOk P w K mg base CX0 1 "_law_draw" ["_law_hand_here", "_law_many"] sp_law_draw)
    (D_law_part : DefOk P w K mg base CX0 4 "_law_part" ["_law_hand_here", "_law_clock_here"] sp_law_part) (D_law_plus : DefOk P w K mg base CX0 2 "_law_plus" ["_law_clock_here", "_law_one", "_law_other", "_law_factor"] sp_law_plus) (D_law_product : DefOk P w K mg base CX0 2 "_law_product" ["_law_clock_here", "_law_one", "_law_other"] sp_law_product) : FnOk P w K mg base CX0 5 f fd ["_law_hand_here", "_law_clock_here"] sp_law_row := by
  refine F.ok sc_law_row (fun vs H Q E h => ?_) (fun cdv A outer s H vs Q E hr h => ?_)
  · obtain ⟨h, c, p, rfl, _⟩ := h
    rfl
  · obtain ⟨h, c, p, rfl, hh, hp0, hp1, k⟩ := h
    have hu := hu_of hr; have hu64 := L2.Room.units hr; refine ⟨_, (pss_cons (ps_setLc (i := 2) (own := [("_law_turn", 3)]) (g := (gName 3)) (tt := tYes) rfl sc_law_row.nd rfl rfl rfl (pi_range1 rfl T.b_range (pa_cons (pe_op op_add pe_int (pe_callD D_law_draw (hr.mono (by decide)) rfl pass0 (pa_cons (pv 0) (pa_cons pe_int pa_nil)))) pa_nil)) (blkOk_by (N := N_law_row) (sc := defScope s_law_row) (by decide +kernel)) (fun _ _ _ _ _ => (pg_name (i := 3) sc_law_row.nd rfl (by first | exact Or.inl rfl | exact Or.inr rfl))) (fun _ _ _ _ _ => pts_nil) (fun _ _ _ _ _ => (pe_callD D_law_part (hr.mono (by decide)) rfl pass0 (pa_cons (pv 0) (pa_cons (pv 1) pa_nil))))) (pss_cons (ps_if (pt_cmpR op_eq (pe_callD D_law_draw (hr.mono (by decide)) rfl pass0 (pa_cons (pv 0) (pa_cons pe_int pa_nil))) pe_int (nomark _)) (pss_cons (ps_set (i := 4) sc_law_row.nd rfl (by first | exact Or.inl rfl | exact Or.inr rfl) (pe_lst (pa_cons (pe_disp (pps_cons pe_str pe_int pps_nil) rfl rfl (List.cons_ne_nil _ _) (Nat.le_of_ble_eq_true rfl)) (pa_cons (pe_disp (pps_cons pe_str pe_int (pps_cons pe_str pe_int pps_nil)) rfl rfl (List.cons_ne_nil _ _) (Nat.le_of_ble_eq_true rfl)) (pa_cons (pe_disp (pps_cons pe_str pe_int (pps_cons pe_str pe_int pps_nil)) rfl rfl (List.cons_ne_nil _ _) (Nat.le_of_ble_eq_true rfl)) (pa_cons (pe_disp (pps_cons pe_str pe_int pps_nil) rfl rfl (List.cons_ne_nil _ _) (Nat.le_of_ble_eq_true rfl)) (pa_cons (pe_disp (pps_cons pe_str pe_int (pps_cons pe_str pe_int pps_nil)) rfl rfl (List.cons_ne_nil _ _) (Nat.le_of_ble_eq_true rfl)) (pa_cons (pe_disp (pps_cons pe_str pe_int pps_nil) rfl rfl (List.cons_ne_nil _ _) (Nat.le_of_ble_eq_true rfl)) pa_nil)))))))) (pss_one (ps_ret (pe_lc (own := [("_law_words_here", 5)]) (g := (gName 5)) (tt := tYes) rfl sc_law_row.nd (pi_list (pe_slice sl_list (pv 4) (po_some (pe_callD D_law_draw (hr.mono (by decide)) rfl pass0 (pa_cons (pv 0) (pa_cons pe_int pa_nil)))) po_none)) (blkOk_by (N := N_law_row) (sc := defScope s_law_row) (by decide +kernel)) (fun _ _ _ _ _ => (pg_name (i := 5) sc_law_row.nd rfl (by first | exact Or.inl rfl | exact Or.inr rfl))) (fun _ _ _ _ _ => pts_nil) (fun _ _ _ _ _ => (pe_callD D_law_plus (hr.mono (by decide)) rfl pass0 (pa_cons (pv 1) (pa_cons pe_dnewK (pa_cons (pv 5) (pa_cons (pe_op op_add pe_int (pe_callD D_law_draw (hr.mono (by decide)) rfl pass0 (pa_cons (pv 0) (pa_cons (pe_op op_sub (pv 1) pe_int) pa_nil)))) pa_nil)))))))))) pss_nil) (pss_cons (ps_if (pt_cmpR op_eq (pe_callD D_law_draw (hr.mono (by decide)) rfl pass0 (pa_cons (pv 0) (pa_cons pe_int pa_nil))) pe_int (nomark _)) (pss_cons (ps_set (i := 6) sc_law_row.nd rfl (by first | exact Or.inl rfl | exact Or.inr rfl) (pe_ix (r := rIxL K) ix_list (pv 2) (pe_callD D_law_draw (hr.mono (by decide)) rfl pass0 (pa_cons (pv 0) (pa_cons (pe_callB call_len_seq (by rfl) T.b_len (by decide +kernel) (pa_cons (pv 2) pa_nil)) pa_nil))) (fun _ _ => rfl))) (pss_cons (ps_set (i := 7) sc_law_row.nd rfl (by first | exact Or.inl rfl | exact Or.inr rfl) (pe_callD D_law_product (hr.mono (by decide)) rfl pass0 (pa_cons (pv 1) (pa_cons (pv 6) (pa_cons (pe_callD D_law_part (hr.mono (by decide)) rfl pass0 (pa_cons (pv 0) (pa_cons (pv 1) pa_nil))) pa_nil))))) (pss_one (ps_expr (pe_bmK (K := K) rfl (pe_bm (r := rAppend) PySem.F.plainAttrs_list PySem.F.slot_list_append PySem.F.type_list_append mt_append (pv 2) (pa_cons (pe_callD D_law_plus (hr.mono (by decide)) rfl pass0 (pa_cons (pv 1) (pa_cons (pv 7) (pa_cons (pe_ix (r := rIxL K) ix_list (pv 2) pe_int (fun _ _ => rfl)) (pa_cons (pe_callD D_law_draw (hr.mono (by decide)) rfl pass0 (pa_cons (pv 0) (pa_cons (pv 1) pa_nil))) pa_nil))))) pa_nil))))))) pss_nil) (pss_cons (ps_if (pt_cmpR op_eq (pe_callD D_law_draw (hr.mono (by decide)) rfl pass0 (pa_cons (pv 0) (pa_cons pe_int pa_nil))) pe_int (nomark _)) (pss_one (ps_expr (pe_bmK (K := K) rfl (pe_bm (r := rAppend) PySem.F.plainAttrs_list PySem.F.slot_list_append PySem.F.type_list_append mt_append (pv 2) (pa_cons pe_dnewK pa_nil))))) pss_nil) (pss_one (ps_ret (pv 2))))))), ?_⟩; rw [st_law_row]; (try dsimp only [cxOf]); walk_at "go"
    refine ⟨h, c, 3, rfl, hh, by omega, by omega, fun v H1 hv0 hv1 e1 hh1 => ?_⟩
    walk_at "go"
    have hp2' : 0 < p := by omega
    refine ⟨by omega, by omega, ?_⟩
    refine lc_mutR (f := h) walk_range hh1.kind.choose_spec (Nat.le_trans (by omega : (1 + v).toNat ≤ 1000) (by decide)) (fun H => HandAt H h c) hh1 (fun H D o hD hh => hh.upd (hh1.new hD).1 (hh1.new hD).2) (fun _ _ _ => trivial) (fun _ y H => ∃ d s, y = V.ref d ∧ H d = some (.dK (toK s)) ∧ Lot p s 8 4)
      (fun _ y H H' e hh ⟨d, s, h1, h2, h3⟩ => ⟨d, s, h1, e _ _ (ne_of h2 hh.kind.choose_spec (fun z => nomatch z)) h2, h3⟩) (fun _ y H D ys zs hD ⟨d, s, h1, h2, h3⟩ => ⟨d, s, h1, by rw [upd_ne (ne_of h2 hD (fun z => nomatch z))]; exact h2, h3⟩) (fun _ => rfl) ?_ ?_
    · rintro i x H3 H3' Kc hi e3 hh3 ⟨rfl, rfl⟩ hk
      walk_at "go"
      refine ⟨h, c, p, rfl, hh3, hp0, hp1, fun d0 s0 H4 e4 hd0n hd0 hl0 hh4 => ?_⟩
      exact hk _ _ e4 hh4 ⟨d0, s0, rfl, hd0, hl0⟩
    intro l H2 ys hl1n e2 hh2 hl2 hyl hys
    obtain ⟨ds, ss, rfl, hpp⟩ := paired_all (F := fun d s => H2 d = some (.dK (toK s)) ∧ Lot p s 8 4) hys
    have hln : H l = none := exb_free e1 ⟨_, hh.kind.choose_spec⟩ hl1n ⟨_, hh1.kind.choose_spec⟩
    have hlh : l ≠ h := newx hh hln
    have e12 : ExB h H H2 := fun a o n q => e2 a o n (e1 a o n q)
    have hdl := hpp.length
    rw [List.length_map] at hyl
    have hLs : ∀ s ∈ ss, Lot p s 8 4 := fun s hs => by
      obtain ⟨d, _, hd⟩ := paired_mem2 hpp hs
      exact hd.2
    have hp2 : Paired (fun d s => H2 d = some (.dK (toK s))) ds ss := Paired.mapP hpp fun _ _ z => z.1
    walk_at "go"
    refine ⟨h, c, 8, rfl, hh2, by omega, by omega, fun v3 H3 hv30 hv31 e3 hh3 => ?_⟩
    have hl3 := e3 _ _ hlh hl2
    have hp3 : Paired (fun d s => H3 d = some (.dK (toK s))) ds ss := Paired.mapP hp2 fun d s z => dkx e3 hh2 z
    have e13 : ExB h H H3 := fun a o n q => e3 a o n (e12 a o n q)
    walk_at "go"
    by_cases hv3 : v3 = 0
    · rw [decide_eq_true (by rw [hv3])]
      rw [if_pos rfl]
      refine g_seq (g_asg ?_)
      refine lst_ok (ss := sixB) (args_cons (disp_ok ⟨pure_c, pure_c, trivial⟩ (show (["x"] : List Str).Nodup by decide +kernel) (Nat.le_of_ble_eq_true rfl)) (args_cons (disp_ok ⟨pure_c, pure_c, pure_c, pure_c, trivial⟩ (show (["yx", ""] : List Str).Nodup by decide +kernel) (Nat.le_of_ble_eq_true rfl)) (args_cons (disp_ok ⟨pure_c, pure_c, pure_c, pure_c, trivial⟩ (show (["yy", "x"] : List Str).Nodup by decide +kernel) (Nat.le_of_ble_eq_true rfl))
        (args_cons (disp_ok ⟨pure_c, pure_c, trivial⟩ (show (["z"] : List Str).Nodup by decide +kernel) (Nat.le_of_ble_eq_true rfl)) (args_cons (disp_ok ⟨pure_c, pure_c, pure_c, pure_c, trivial⟩ (show (["zx", "y"] : List Str).Nodup by decide +kernel) (Nat.le_of_ble_eq_true rfl)) (args_cons (disp_ok ⟨pure_c, pure_c, trivial⟩ (show (["yyx"] : List Str).Nodup by decide +kernel) (Nat.le_of_ble_eq_true rfl)) args_nil)))))) (Nat.le_of_ble_eq_true rfl) fun l1 ps1 H4 e4 hl1 hq1 hps1 => ?_
      refine g_name ?_
      (try dsimp only)
      have hh4 := hh3.ex' e4
      have n6 : ps1.length = 6 := hps1.length
      walk_at "go"
      refine ⟨h, c, 2, rfl, hh4, by omega, by omega, fun v5 H5 hv50 hv51 e5 hh5 => ?_⟩
      obtain ⟨m, rfl⟩ : ∃ m : Nat, v5 = m := ⟨v5.toNat, by omega⟩
      have hl1h : l1 ≠ h := newx hh3 hl1
      have hq15 := e5 _ _ hl1h hq1
      have hps5 : Paired (fun d s => H5 d = some (.dK (toK s))) ps1 sixB := Paired.mapP hps1 fun d s z => dkx e5 hh4 z.2
      walk_at "go"
      refine ⟨l1, _, rfl, SqL.of hq15, fun l2 hl2 => ?_⟩
      rw [cutV_drop, ← List.map_drop]
      have e6 : Ex H5 (upd H5 l2 (.lst ((ps1.drop m).map V.ref))) := Ex.new hl2
      have hl26 := upd_same (H := H5) (a := l2) (o := .lst ((ps1.drop m).map V.ref))
      generalize upd H5 l2 (.lst ((ps1.drop m).map V.ref)) = H6 at e6 hl26 ⊢
      have hh6 := hh5.ex' e6
      have hl2h : l2 ≠ h := newx hh5 hl2
      have hps6 : Paired (fun d s => H6 d = some (.dK (toK s))) (ps1.drop m) (sixB.drop m) := (paired_cut (Paired.mapP hps5 fun d s z => e6 _ _ z) m).2
      have e16 : ExB h H H6 := fun a o n q => e6 _ _ (e5 a o n (e4 _ _ (e13 a o n q)))
      have ndr : (ps1.drop m).length = 6 - m := by rw [List.length_drop, n6]
      walk_at "go"
      refine ⟨⟨_, SqL.of hl26⟩, ?_⟩
      refine lc_mutR (f := h) walk_list hh6.kind.choose_spec (by rw [List.length_map, ndr]; exact line5 (by omega)) (fun H => HandAt H h c) hh6 (fun H D o hD hh => hh.upd (hh6.new hD).1 (hh6.new hD).2) (fun H' e' _ => SqL.of (e' _ _ hl2h hl26)) (fun _ y H => ∃ d s, y = V.ref d ∧ H d = some (.dK (toK s)) ∧ Lot p s 2 3)
        (fun _ y H H' e hh ⟨d, s, h1, h2, h3⟩ => ⟨d, s, h1, e _ _ (ne_of h2 hh.kind.choose_spec (fun z => nomatch z)) h2, h3⟩) (fun _ y H D ys zs hD ⟨d, s, h1, h2, h3⟩ => ⟨d, s, h1, by rw [upd_ne (ne_of h2 hD (fun z => nomatch z))]; exact h2, h3⟩) (fun _ => rfl) ?_ ?_
      · rintro i x Hdd H7x Kc hi e7 hh7 ⟨rfl, hx⟩ hk
        rw [List.getElem?_map] at hx
        cases hq : (ps1.drop m)[i]? with
        | none => rw [hq] at hx; cases hx
        | some t =>
          rw [hq] at hx
          cases Option.some.inj hx
          obtain ⟨b, hb, htb⟩ := paired_get hps6 hq
          have htb7 := dkx e7 hh6 htb
          have hbL := six_lot hp0 (List.mem_of_mem_drop (List.mem_of_getElem? hb))
          walk_at "go"
          intro d8 hd8
          have e8 : Ex H7x (upd H7x d8 (.dK [])) := Ex.new hd8
          have hd88 := upd_same (H := H7x) (a := d8) (o := .dK [])
          generalize upd H7x d8 (.dK []) = H8 at e8 hd88 ⊢
          have hh8 := hh7.ex' e8
          walk_at "go"
          refine ⟨h, c, p - 1, rfl, hh8, by omega, by omega, fun v9 H9 hv90 hv91 e9 hh9 => ?_⟩
          walk_at "go"
          have hbn := hbL.n
          refine ⟨p, d8, t, [], b, 1 + v9, rfl, .inl (dkx e9 hh8 hd88), .inl (dkx e9 hh8 (e8 _ _ htb7)), hbL.g.nd, by rw [List.length_nil]; show 0 + b.length < 10000000; omega, by omega, by omega, fun d10 H10 e10 hd10n hd10 => ?_⟩
          exact hk _ _ (fun a o n q => e10 _ _ (e9 a o n (e8 _ _ q))) (hh9.ex' e10) ⟨d10, _, rfl, hd10, (Lot.plus hp2' (Lot.nil (a := 0) (b := 0)) hbL (Nat.zero_le _) (Nat.le_refl _)).mono (by omega) (Nat.le_refl _)⟩
      · intro D H7 ys hD e7 hh7 hD7 hyl7 hys7
        obtain ⟨ds7, ss7, rfl, hpp7⟩ := paired_all (F := fun d s => H7 d = some (.dK (toK s)) ∧ Lot p s 2 3) hys7
        have hdl7 := hpp7.length
        rw [List.length_map, List.length_map, ndr] at hyl7
        refine k D ds7 ss7 H7 (fun a o n q => e7 a o n (e16 a o n q)) hD7 (Paired.mapP hpp7 fun _ _ z => z.1) (fun s hs => ?_) (Nat.le_trans (manyW_le (m := 2) fun s hs => by obtain ⟨d, _, hd⟩ := paired_mem2 hpp7 hs; exact hd.2.n) (by omega)) (fun e => by rw [e, List.length_nil] at hdl7; omega) (by omega) hh7
        obtain ⟨d, _, hd⟩ := paired_mem2 hpp7 hs
        exact hd.2.mono (by omega) (by omega)
    · rw [decide_eq_false (fun e => hv3 (V.int.inj e))]
      walk_at "go"
      refine ⟨h, c, 2, rfl, hh3, by omega, by omega, fun v4 H4 hv40 hv41 e4 hh4 => ?_⟩
      have hl4 := e4 _ _ hlh hl3
      have hp4 : Paired (fun d s => H4 d = some (.dK (toK s))) ds ss := Paired.mapP hp3 fun d s z => dkx e4 hh3 z
      have e14 : ExB h H H4 := fun a o n q => e4 a o n (e13 a o n q)
      walk_at "go"
      by_cases hv4 : v4 = 0
      · rw [decide_eq_true (by rw [hv4])]
        walk_at "go"
        refine ⟨l, _, rfl, .inl (SqL.of hl4), ?_⟩
        walk_at "go"
        rw [List.length_map]
        refine ⟨h, c, (ds.length : Int), rfl, hh4, by omega, by omega, fun v5 H5 hv50 hv51 e5 hh5 => ?_⟩
        have hl5 := e5 _ _ hlh hl4
        have hp5 : Paired (fun d s => H5 d = some (.dK (toK s))) ds ss := Paired.mapP hp4 fun d s z => dkx e5 hh4 z
        obtain ⟨d, hd⟩ : ∃ d, ds[v5.toNat]? = some d := ⟨_, List.getElem?_eq_getElem (by omega : v5.toNat < ds.length)⟩
        obtain ⟨s, hs, hds⟩ := paired_get hp5 hd
        have Ls := hLs s (List.mem_of_getElem? hs)
        obtain ⟨d0, hd0⟩ : ∃ d, ds[0]? = some d := ⟨_, List.getElem?_eq_getElem (by omega : 0 < ds.length)⟩
        obtain ⟨s0, hs0, hds0⟩ := paired_get hp5 hd0
        have Ls0 := hLs s0 (List.mem_of_getElem? hs0)
        refine g_ixl (SqL.of hl5) (v := .ref d) (atI_get (by omega) (by rw [List.getElem?_map, hd]; rfl)) ?_
        walk_at "go"
        refine ⟨h, c, p, rfl, hh5, hp0, hp1, fun d6 s6 H6 e6 hd6n hd6 L6 hh6 => ?_⟩
        walk_at "go"
        have LP := Ls.prod hp2' L6
        refine ⟨p, d, d6, s, s6, rfl, .inl (dkx e6 hh5 hds), .inl hd6, Ls.g.nd, L6.g.nd, Nat.lt_of_le_of_lt (Nat.mul_le_mul Ls.n L6.n) (by decide), by omega, Ls.g.up' (by omega), fun u hu => Nat.le_trans (Ls.l u hu).1 (by decide), fun u hu => Nat.le_trans (L6.l u hu).1 (by decide), fun d7 H7 e7 hd7n hd7 => ?_⟩
        have hl7 := e7 _ _ (e6 _ _ hlh hl5)
        walk_at "go"
        refine ⟨.inl ⟨rfl, _, SqL.of hl7⟩, ?_⟩
        walk_at "go"
        refine g_ixl (SqL.of hl7) (v := .ref d0) (atI_get (by omega) (by show (ds.map V.ref)[0]? = _; rw [List.getElem?_map, hd0]; rfl)) ?_
        walk_at "go"
        have hh7 := hh6.ex' e7
        refine ⟨h, c, p, rfl, hh7, by omega, by omega, fun v8 H8 hv80 hv81 e8 hh8 => ?_⟩
        walk_at "go"
        have LPl := Lot.plus (f := v8) hp2' LP Ls0 (Nat.le_refl _) (by omega)
        have hLPn := LP.n
        have hLs0n := Ls0.n
        refine ⟨p, d7, d0, _, s0, v8, rfl, .inl (dkx e8 hh7 hd7), .inl (dkx e8 hh7 (e7 _ _ (dkx e6 hh5 hds0))), Ls0.g.nd, by omega, by omega, by omega, fun d9 H9a e9a hd9n hd9 => ?_⟩
        have hl9a := e9a _ _ (e8 _ _ hlh hl7)
        walk_at "go"
        refine ⟨l, _, .ref d9, rfl, rfl, hl9a, Nat.lt_of_le_of_lt (by rw [List.length_map]; omega : _ ≤ 1000) (by decide), ?_⟩
        have x9 : ExL H9a (upd H9a l (.lst (ds.map V.ref ++ [.ref d9]))) := ExL.upd hl9a
        have hl9 : upd H9a l (.lst (ds.map V.ref ++ [.ref d9])) l = some (.lst ((ds ++ [d9]).map V.ref)) := by rw [upd_same, List.map_append]; rfl
        have e9 : ExB h H (upd H9a l (.lst (ds.map V.ref ++ [.ref d9]))) := fun a o n q => by
          rw [upd_ne (fun e => by rw [e, hln] at q; cases q)]
          exact e9a _ _ (e8 a o n (e7 _ _ (e6 a o n (e5 a o n (e14 a o n q)))))
        have hp9a : Paired (fun d s => H9a d = some (.dK (toK s))) ds ss := Paired.mapP hp5 fun d s z => e9a _ _ (dkx e8 hh7 (e7 _ _ (dkx e6 hh5 z)))
        have hp9 : Paired (fun d s => upd H9a l (.lst (ds.map V.ref ++ [.ref d9])) d = some (.dK (toK s))) (ds ++ [d9]) (ss ++ [_]) := Paired.snoc (Paired.mapP hp9a fun d s z => x9 d (.dK (toK s)) (fun _ z => nomatch z) z) (x9 d9 (.dK (toK _)) (fun _ z => nomatch z) hd9)
        have hL9 : ∀ t ∈ ss ++ [plusS p (prodS p s s6) s0 v8], Lot p t 100 8 := fun t ht => by
          rcases List.mem_append.mp ht with ht | ht
          · exact (hLs t ht).mono (by omega) (by omega)
          · rw [List.mem_singleton.mp ht]
            exact LPl.mono (by omega) (by omega)
        have hne9 : ss ++ [plusS p (prodS p s s6) s0 v8] ≠ [] := by simp
        have hm9 : manyW (ss ++ [plusS p (prodS p s s6) s0 v8]) ≤ 96 := by
          rw [manyW_snoc]
          have h1 := manyW_le (m := 8) fun s hs => (hLs s hs).n
          have h2 := LPl.n
          have h3 : ss.length ≤ 3 := by omega
          omega
        have hh9 : HandAt (upd H9a l (.lst (ds.map V.ref ++ [.ref d9]))) h c := (hh8.ex' e9a).upd (hh.new hln).1 (hh.new hln).2
        have hlen9 : (ds ++ [d9]).length ≤ 4 := by rw [List.length_append, List.length_singleton]; omega
        have hlen9s : (ss ++ [plusS p (prodS p s s6) s0 v8]).length ≤ 4 := by rw [List.length_append, List.length_singleton]; omega
        generalize upd H9a l (.lst (ds.map V.ref ++ [.ref d9])) = H9 at x9 hl9 e9 hp9 hh9 ⊢
        generalize ds ++ [d9] = ds9 at hl9 hp9 hlen9
        generalize ss ++ [plusS p (prodS p s s6) s0 v8] = ss9 at hp9 hL9 hne9 hlen9s hm9
        walk_at "go"
        refine ⟨h, c, 8, rfl, hh9, by omega, by omega, fun v9 H10 hv90 hv91 e10 hh10 => ?_⟩
        have hl10 := e10 _ _ hlh hl9
        have hp10 : Paired (fun d s => H10 d = some (.dK (toK s))) ds9 ss9 := Paired.mapP hp9 fun d s z => dkx e10 hh9 z
        walk_at "go"
        by_cases hv9 : v9 = 0
        · rw [decide_eq_true (by rw [hv9])]
          walk_at "go"
          refine ⟨.inl ⟨rfl, _, SqL.of hl10⟩, ?_⟩
          walk_at "go"
          intro d11 hd11
          have e11 : Ex H10 (upd H10 d11 (.dK [])) := Ex.new hd11
          have hd11' := upd_same (H := H10) (a := d11) (o := .dK [])
          generalize upd H10 d11 (.dK []) = H11 at e11 hd11' ⊢
          walk_at "go"
          have hl11 := e11 _ _ hl10
          refine ⟨l, _, .ref d11, rfl, rfl, hl11, Nat.lt_of_le_of_lt (by rw [List.length_map]; omega : _ ≤ 1000) (by decide), ?_⟩
          walk_at "go"
          have x12 : ExL H11 (upd H11 l (.lst (ds9.map V.ref ++ [.ref d11]))) := ExL.upd hl11
          refine k l (ds9 ++ [d11]) (ss9 ++ [[]]) _ (fun a o n q => ?_) (by rw [upd_same, List.map_append]; rfl) (Paired.snoc (Paired.mapP hp10 fun d s z => x12 d (.dK (toK s)) (fun _ z => nomatch z) (e11 _ _ z)) (x12 d11 (.dK []) (fun _ z => nomatch z) hd11')) (fun s hs => ?_) (by rw [manyW_snoc]; exact hm9) (by simp) (by rw [List.length_append, List.length_singleton]; omega) ((hh10.ex' e11).upd (hh.new hln).1 (hh.new hln).2)
          · rw [upd_ne (fun e => by rw [e, hln] at q; cases q)]
            exact e11 _ _ (e10 a o n (e9 a o n q))
          · rcases List.mem_append.mp hs with hs | hs
            · exact hL9 s hs
            · rw [List.mem_singleton.mp hs]; exact Lot.nil
        · rw [decide_eq_false (fun e => hv9 (V.int.inj e))]
          walk_at "go"
          exact k l ds9 ss9 _ (fun a o n q => e10 a o n (e9 a o n q)) hl10 hp10 hL9 hm9 hne9 (by omega) hh10
      · rw [decide_eq_false (fun e => hv4 (V.int.inj e))]
        walk_at "go"
        have hh9 := hh4
        have hl9 := hl4
        have e9 := e14
        have hp9 := hp4
        have hL9 : ∀ s ∈ ss, Lot p s 100 8 := fun s hs => (hLs s hs).mono (by omega) (by omega)
        have hm9 : manyW ss ≤ 96 := by
          have h1 := manyW_le (m := 8) fun s hs => (hLs s hs).n
          have h3 : ss.length ≤ 3 := by omega
          omega
        have hne9 : ss ≠ [] := fun e => by rw [e] at hdl; rw [hdl] at hyl; simp at hyl; omega
        generalize hss9 : ss = ss9 at *
        generalize hds9 : ds = ds9 at *
        refine ⟨h, c, 8, rfl, hh9, by omega, by omega, fun v9 H10 hv90 hv91 e10 hh10 => ?_⟩
        have hl10 := e10 _ _ hlh hl9
        have hp10 : Paired (fun d s => H10 d = some (.dK (toK s))) ds9 ss9 := Paired.mapP hp9 fun d s z => dkx e10 hh9 z
        walk_at "go"
        by_cases hv9 : v9 = 0
        · rw [decide_eq_true (by rw [hv9])]
          walk_at "go"
          refine ⟨.inl ⟨rfl, _, SqL.of hl10⟩, ?_⟩
          walk_at "go"
          intro d11 hd11
          have e11 : Ex H10 (upd H10 d11 (.dK [])) := Ex.new hd11
          have hd11' := upd_same (H := H10) (a := d11) (o := .dK [])
          generalize upd H10 d11 (.dK []) = H11 at e11 hd11' ⊢
          walk_at "go"
          have hl11 := e11 _ _ hl10
          refine ⟨l, _, .ref d11, rfl, rfl, hl11, Nat.lt_of_le_of_lt (by rw [List.length_map]; omega : _ ≤ 1000) (by decide), ?_⟩
          walk_at "go"
          have x12 : ExL H11 (upd H11 l (.lst (ds9.map V.ref ++ [.ref d11]))) := ExL.upd hl11
          refine k l (ds9 ++ [d11]) (ss9 ++ [[]]) _ (fun a o n q => ?_) (by rw [upd_same, List.map_append]; rfl) (Paired.snoc (Paired.mapP hp10 fun d s z => x12 d (.dK (toK s)) (fun _ z => nomatch z) (e11 _ _ z)) (x12 d11 (.dK []) (fun _ z => nomatch z) hd11')) (fun s hs => ?_) (by rw [manyW_snoc]; exact hm9) (by simp) (by rw [List.length_append, List.length_singleton]; omega) ((hh10.ex' e11).upd (hh.new hln).1 (hh.new hln).2)
          · rw [upd_ne (fun e => by rw [e, hln] at q; cases q)]
            exact e11 _ _ (e10 a o n (e9 a o n q))
          · rcases List.mem_append.mp hs with hs | hs
            · exact hL9 s hs
            · rw [List.mem_singleton.mp hs]; exact Lot.nil
        · rw [decide_eq_false (fun e => hv9 (V.int.inj e))]
          walk_at "go"
          exact k l ds9 ss9 _ (fun a o n q => e10 a o n (e9 a o n q)) hl10 hp10 hL9 hm9 hne9 (by omega) hh10

end
end Fp

/-! What the base of a row of bags is: the facts that a law asks. -/
namespace Fp
open PySem PySem.W
variable {p : Int} {L : Nat}
theorem leRow_one {b c : Bg} (hb : b ≠ []) (hc : c ≠ []) : leRow [b] [c] = leW (lead b) (lead c) := by
  show (!dataLt (rowD [c]) (rowD [b])) = (!dataLt (keyD (lead c)) (keyD (lead b)))
  unfold rowD
  rw [leadR_one hb, leadR_one hc]
  show (!dataLt (keyR (0, lead c)) (keyR (0, lead b))) = _
  unfold keyR
  rw [dataLt_pair (by simp [alike]) (by simp [alike, alikeAll])]
  rw [if_pos (by simp [PyData.eqv])]
  congr 1
  by_cases e : lead c = lead b
  · have h := leW_refl (lead b)
    have h2 : dataLt (keyD (lead b)) (keyD (lead b)) = false := by
      have h3 : (!dataLt (keyD (lead b)) (keyD (lead b))) = true := h
      simpa using h3
    rw [e, if_pos (by simp [PyData.eqv, PyData.eqvAll]), h2]
  · rw [if_neg (by simp [PyData.eqv, PyData.eqvAll, e])]
    rfl
def sortL (B : List Bg) : List Bg := B.mergeSort fun a b => leRow [a] [b]
theorem sortL_rows (B : List Bg) : sortR (rowsOf B) = rowsOf (sortL B) := by
  unfold sortR rowsOf sortL
  exact (sort_maps (s := leRow) (fun b : Bg => [b]) fun _ _ _ _ => rfl).symm
theorem sortL_perm (B : List Bg) : (sortL B).Perm B := List.mergeSort_perm _ _
theorem sortL_leads {B : List Bg} (h : ∀ b ∈ B, b ≠ []) : (sortL B).map lead = ordW (B.map lead) := by
  have h1 : (sortL B).Pairwise fun a b => leRow [a] [b] = true := by
    unfold sortL
    refine sort_pairwise (le := fun a b : Bg => leRow [a] [b]) ?_ B
    exact ⟨fun a b c h1 h2 => leRow_total.trans [a] [b] [c] h1 h2, fun a b => leRow_total.total [a] [b]⟩
  have h2 : ((sortL B).map lead).Pairwise fun a b => leW a b = true := by
    rw [List.pairwise_map]
    refine List.Pairwise.imp_of_mem (fun {a b} ha hb hab => ?_) h1
    rwa [leRow_one (h a ((sortL_perm B).mem_iff.mp ha)) (h b ((sortL_perm B).mem_iff.mp hb))] at hab
  exact List.Perm.eq_of_pairwise (le := fun a b => leW a b = true) (fun a b _ _ h1 h2 => leW_anti h1 h2) h2 (ordW_sorted _) (((sortL_perm B).map lead).trans (ordW_perm _).symm)
/-- what is due for a row -/
structure BasF (p : Int) (L : Nat) (ss res fin : List Bg) (n : Nat) : Prop where
  led : LedN p n (rowsOf (ss.filter fun b => !decide (b = []))) [] (rowsOf res)
  bas : ∀ b ∈ res, Bas p L b
  pfl : PFL (res.map lead)
  len : res.length ≤ ss.length
  inn : ∀ s ∈ ss, In p res s
  red : RedAll p 1 0 (sortR (rowsOf res)) (rowsOf fin)
  lds : fin.map lead = ordW (res.map lead)
  nrm : ∀ c ∈ fin, Nrm p L res c
theorem base_facts (hp : Prm p) (hL : lenU L ≤ 3000000) (hL1 : L ≤ 1000000) {ss : List Bg} (hs : ∀ s ∈ ss, Good p s ∧ Bd L s) : ∃ res fin n, BasF p L ss res fin n := by
  have h0 : 0 < p := by have := hp.pos; omega
  obtain ⟨n, res, h1, h2, h3, h4, h5⟩ := led_runs (L := L) hp hL hL1 (T := ss.filter fun b => !decide (b = [])) fun b hb => by
    obtain ⟨hb1, hb2⟩ := List.mem_filter.mp hb
    obtain ⟨g, d⟩ := hs b hb1
    exact ⟨g, d, by simpa using hb2⟩
  have hB : ∀ b ∈ sortL res, b ∈ res := fun b hb => (sortL_perm res).mem_iff.mp hb
  have hl : ∀ b ∈ res, b ≠ [] := fun b hb => (h2 b hb).n
  obtain ⟨fin, k1, k2, k3⟩ := base_runs (L := L) h0 hL hL1 (B := sortL res) (C := res) (fun b hb => ⟨h2 b (hB b hb), In.mem (hB b hb)⟩) (fun b hb => ⟨(h2 b hb).g.nd, List.mem_map.mpr ⟨b, (sortL_perm res).mem_iff.mpr hb, rfl⟩⟩)
    (PFL.perm ((sortL_perm res).map lead).symm h3)
  refine ⟨res, fin, n, h1, h2, h3, Nat.le_trans h4 (List.length_filter_le _ _), fun s hs9 => ?_, by rw [sortL_rows]; exact k1, by rw [k2, sortL_leads hl], k3⟩
  by_cases e : s = []
  · rw [e]; exact In.nil
  · exact h5 s (List.mem_filter.mpr ⟨hs9, by simp [e]⟩)
theorem fin_len {ss res fin : List Bg} {n : Nat} (f : BasF p L ss res fin n) : fin.length = res.length := by
  have := congrArg List.length f.lds
  rwa [List.length_map, ordW_len, List.length_map] at this
theorem leads_nodup {ls : List Str} (h : PFL ls) : ls.Nodup := List.Pairwise.imp (fun {a b} h e => h.1 (by rw [e]; exact ⟨"", (app_empty _).symm⟩)) h
/-- no other leading word begins a word of one that is left as it is -/
theorem others_none {C : List Bg} (hP : PFL (C.map lead)) {c : Bg} (hc : Nrm p L C c) {os : List Str} (ho : ∀ o ∈ os, o ∈ C.map lead ∧ o ≠ lead c) (hl : lead c ∈ C.map lead) {u : Str} (hu : u ∈ keys c) : startsL os u = none := by
  unfold startsL
  rw [List.find?_eq_none]
  intro o ho2 hst
  obtain ⟨h1, h2⟩ := ho o ho2
  have hbeg := beg_starts.mp hst
  obtain ⟨b, hb, rfl⟩ := List.mem_map.mp h1
  by_cases e : u = lead c
  · rw [e] at hbeg
    obtain ⟨d, hd, hd2⟩ := List.mem_map.mp hl
    have := PFL.same hP b hb d hd (by rw [hd2]; exact hbeg)
    exact h2 (by rw [this, hd2])
  · exact hc.n u hu e b hb hbeg
/-- a bag of the row is taken off to nothing -/
theorem row_off (hp : Prm p) (hL : lenU L ≤ 3000000) (hL1 : L ≤ 1000000) {B C : List Bg} (hB : ∀ b ∈ B, Nrm p L C b) (hlB : ∀ l ∈ C.map lead, l ∈ B.map lead) (hC : ∀ b ∈ C, Bas p L b) (hP : PFL (C.map lead)) {s : Bg} (g : Good p s) (d : Bd L s) (hi : In p C s) : ∃ n, RedN p (rowsOf B) n [s] [[]] := by
  have h0 : 0 < p := by have := hp.pos; omega
  obtain ⟨n, r', h1, h2⟩ := red_runs h0 hL hL1 (B := B) (fun b hb => (hB b hb).s) g d
  have h3 := h2.i C (fun b hb => (hC b hb).g.nd) (fun b hb => (hB b hb).i) hi
  have h4 : r' = [] := In.none h0 (GB.of hC hP) h3 h2.g fun u hu b hb hbeg => by
    obtain ⟨b2, hb2, e⟩ := List.mem_map.mp (hlB _ (List.mem_map.mpr ⟨b, hb, rfl⟩))
    exact h2.n u hu b2 hb2 (by rw [e]; exact hbeg)
  rw [h4] at h1
  exact ⟨n, h1⟩
/-- the base of a number alone -/
abbrev two0 : Bg := [("", 2)]
abbrev one0 : Bg := [("", 1)]
theorem one_led : LedN 3 1 ((rowsOf [two0]).filter fun r => !idleR r) [] (rowsOf [one0]) := by
  have h1 : (rowsOf [two0]).filter (fun r => !idleR r) = ([] : List Row) ++ [([two0] : Row)] := by simp [rowsOf, idleR, two0]
  rw [h1]
  refine LedN.add (i := 0) (w := "") (by decide +kernel) rfl ?_
  rw [show plainR 3 [two0] = [one0] from by decide +kernel]
  exact .stop
theorem one_red : RedAll 3 1 0 (sortR (rowsOf [one0])) (rowsOf [one0]) := by
  have g : Good 3 one0 := ⟨by simp [keys, one0], by decide, by decide⟩
  have b : Bd 8 one0 := fun u hu => by
    rw [List.mem_singleton.mp (show u ∈ [("" : Str)] from hu)]
    exact ⟨by decide, fun c hc => nomatch hc⟩
  have l : LedR 3 1 (rowsOf [one0]) := ⟨fun o ho => by
    rw [List.mem_singleton.mp (show o ∈ [([one0] : Row)] from ho)]
    exact ⟨Fit.of (by decide +kernel) (by decide) g b, (by rw [leadR_one (by simp [one0])]; exact (fun z => nomatch z)), rfl⟩⟩
  rw [show sortR (rowsOf [one0]) = rowsOf [one0] from by unfold sortR rowsOf; simp]
  exact .step l rfl (.stop (by
    show hitF [] 0 [one0] = none
    rw [hitF_one, hitW_nil.mpr fun w _ => rfl]
    rfl)) (.stop rfl l)
end Fp

/-! == of lists of instances with the text's own __eq__, all of them equal. -/
namespace Fp
open PySem PySem.W L2
variable {X : L2.Cx} {n : Nat} {f : Addr} {fd : FuncData} {ps : List Str} {sp : L2.Sp} {CX : L2.CXT}
theorem rcG_own {Cs : Addr → Prop} {D : L2.Eqv} (Fo : L2.FnOk X.prog X.w X.K X.mg X.base CX n f fd ps sp) (ec : EqCls X.K f Cs) (hb : L2.Binds X.K fd ps []) (hx : L2.Passes CX X E0)
    (hD : ∀ (x y : V) (H : Hp) (Q : VK), D x y H → (∀ H', L2.Ext H H' → Q (.bl true) H') → rBagEq X.K sp Cs false x y H Q) : L2.RcG X n D := by
  intro A pins s σ H x y v u sb I rx ry d
  have h := hD x y H (fun v H' => v = .bl true ∧ L2.Ext H H') d fun H' e => ⟨rfl, e⟩
  have back : ∀ (x y : V) (v u : Value), RelV x v → RelV y u → sp [x, y] H (fun v H' => ∃ c, v = .bl c ∧ (V.bl (if false = true then !c else c) = .bl true ∧ L2.Ext H H')) E0 →
      wpAny (model X.prog X.w) A (call (.ref f) [v, u]) (fun v s' => ∃ c, v = .bool c ∧ (Value.bool c = .bool true ∧ ∃ H', Inv X pins σ H' s' ∧ L2.Ext H H')) X.xe s := fun x y v u rx ry h =>
    wpAny_mono (run_fnA (A := A) sb Fo hb hx I (.cons rx (.cons ry .nil)) h) (fun v s' ⟨z, H', I', rz, c, ez, q, ex⟩ => by
      subst ez
      cases rz
      rw [if_neg Bool.false_ne_true] at q
      cases q
      exact ⟨true, rfl, rfl, H', I', ex⟩) fun _ _ e => e
  rcases h with ⟨a, C, dx, fs, t, rfl, ha, hc, ty, hn, h⟩ | ⟨a, b, C, D, dx, fs, dy, gs, rfl, rfl, ha, hb', hc, hd, hne, hsub, h⟩
  · cases rx
    obtain ⟨mA, J, _⟩ := ins_get I.hok ha
    obtain ⟨od, J, _⟩ := J.look
    obtain ⟨P, Z, p, _⟩ := kit_of I ry ty
    exact rich_x (L := a) sb.room.units0 I.kIn J (Z.ty _ _ I.kIn p) hn (try_eq I.kIn J (ec.eq C hc) ec.fn (back (.ref a) y _ _ rfl ry h))
  · cases rx
    cases ry
    obtain ⟨mA, J, _⟩ := ins_get I.hok ha
    obtain ⟨od, J, _⟩ := J.look
    obtain ⟨mB, J', _⟩ := ins_get I.hok hb'
    obtain ⟨od', J', _⟩ := J'.look
    exact rich_refl sb.room.units0 I.kIn J J'.type hne hsub (try_eq I.kIn J' (ec.eq D hd) ec.fn (back (.ref b) (.ref a) _ _ rfl rfl h))
end Fp

namespace Fp
open PySem L2
section
variable {P : Program} {w : World} {K : PySem.W.Frag} {mg : Str → Option Value} {base : Heap} {C_Bag : Addr} {Cs : Addr → Prop}
local macro_rules | `(tactic| walk_at "hp") => `(tactic| first | assumption | rfl)
local macro_rules | `(tactic| walk_at "cond") => `(tactic| first | assumption | decide | omega | (unfold CMul; omega) | (refine ⟨?_, ?_⟩ <;> omega) | (unfold CDiv; omega) | (unfold CPow; omega))
local macro_rules | `(tactic| walk_at "g1") => `(tactic| first
  | with_reducible first
    | refine g_seq ?_ | refine g_asg ?_ | refine g_name ?_ | refine g_ret ?_ | refine g_retN ?_ | refine g_drop ?_ | refine g_ifs ?_
    | refine g_c ?_ | refine g_op ?_ | refine g_un ?_ | refine g_I0 ?_ | refine g_U ?_
    | refine g_test ?_ | refine g_tB ?_ | refine g_bl ?_ | refine g_and ?_ | refine g_or ?_ | refine g_not ?_
    | refine g_andV ?_ | refine g_orV ?_ | refine g_notV ?_ | refine g_if ?_ | refine g_nil ?_ | refine g_cons ?_ | refine g_cb ?_ | refine g_call ?_
    | refine g_lst ?_ | refine g_tup ?_ | refine g_itT ?_ | refine g_itF ?_ | refine g_itNT ?_ | refine g_itNF ?_ | refine g_lc ?_ | refine g_iStr ?_ | refine g_yes ?_ | refine g_exs ?_
    | refine g_chain ?_ | refine g_dget ?_ | refine g_dput ?_ | refine g_dget2 ?_ | refine g_dpop2 ?_ | refine g_fld ?_ | refine g_sfld ?_ | refine g_make ?_ | refine g_meth ?_
    | refine g_bm ?_ | refine g_kw ?_ | refine g_callS ?_ | refine g_revL ?_ | refine g_m1 ?_ | refine g_gsub ?_ | refine g_for ?_ | refine g_iList ?_ | refine g_iTup ?_ | refine g_iRng1 ?_ | refine g_iRng2 ?_ | refine g_sl ?_ | refine g_part ?_ | refine g_noPart ?_
    | refine g_exi ?_ | refine g_exr ?_ | refine g_dnew ?_ | refine g_disp ?_ | refine g_prs0 ?_ | refine g_prs ?_ | refine g_nxt ?_
  | ((with_reducible refine g_var (v := ?vv) ?gv ?_); (case gv => exact rfl))
  | ((with_reducible refine g_I ?gc ?_); (case gc => walk_at "cond"))
  | ((with_reducible refine g_eq ?ge ?_); (case ge => exact rfl))
  | ((with_reducible refine g_ne ?ge ?_); (case ge => exact rfl))
  | (refine g_ixl (SqL.of (by first | assumption | exact upd_same)) rfl ?_)
  | (refine g_setl (by first | assumption | exact upd_same) rfl ?_)
  | ((with_reducible show (∃ i, [V.int _] = [V.int i] ∧ _) ∨ _); refine Or.inl ⟨_, rfl, ?_⟩)
  | ((with_reducible show ∃ i, [V.int _] = [V.int i] ∧ _); refine ⟨_, rfl, ?_⟩)
  | dsimp only)
local macro_rules | `(tactic| walk_at "go") => `(tactic| repeat (walk_at "g1"))

local macro_rules | `(tactic| walk_at "g1") => `(tactic| with_reducible first | refine g_gcons ?_ | refine g_gnil ?_)

/-! ### the words of a dict of dicts in order; lists of bags -/
def sp_law_orderF : Sp := fun vs H Q _ => ∃ (d : Addr) (fs : Fs), vs = [.ref d] ∧ FsAt H d fs ∧ fs.length ≤ 1000 ∧ (∀ z ∈ fs, (lead z.1).length ≤ 1000000) ∧
  ∀ l H', Ex H H' → H l = none → H' l = some (.lst ((ordW (fs.map fun z => lead z.1)).map V.str)) → Q (.ref l) H'
theorem bs_ofF {H : Hp} {as : List Addr} {kvs : List (Key × V)} (h : Paired (fun a (e : Key × V) => ∃ w : Str, e.1 = Sum.inr w ∧ H a = some (.tup [.int (-(w.length : Int)), .str w])) as kvs) :
    ∃ bs : List (Addr × Str), as.map V.ref = bs.map (fun b => V.ref b.1) ∧ (bs.map fun b => (Sum.inr b.2 : Key)) = kvs.map Prod.fst ∧ ∀ b ∈ bs, H b.1 = some (.tup [.int (-(b.2.length : Int)), .str b.2]) := by
  induction h with
  | nil => exact ⟨[], rfl, rfl, fun _ h => nomatch h⟩
  | @cons a e as es h1 _ ih =>
    obtain ⟨bs, h2, h3, h4⟩ := ih
    obtain ⟨w, hw, hw2⟩ := h1
    refine ⟨(a, w) :: bs, by rw [List.map_cons, List.map_cons, h2], by rw [List.map_cons, List.map_cons, h3, hw], fun b hb => ?_⟩
    rcases List.mem_cons.mp hb with rfl | hb
    · exact hw2
    · exact h4 b hb
theorem inr_map_inj : ∀ {a b : List Str}, (a.map fun w => (Sum.inr w : Key)) = b.map (fun w => (Sum.inr w : Key)) → a = b
  | [], [], _ => rfl
  | [], _ :: _, h => by cases h
  | _ :: _, [], h => by cases h
  | x :: a, y :: b, h => by
    obtain ⟨h1, h2⟩ := List.cons.inj h
    rw [Sum.inr.inj h1, inr_map_inj h2]
theorem ok_law_orderF {f : Addr} {fd : FuncData} (F : Fun K "_law_order" "_law_order" s_law_order f fd) (T : Txt K mg C_Bag Cs) : FnOk P w K mg base CX0 1 f fd ["_law_bag"] sp_law_orderF := by
  refine F.ok sc_law_order (fun vs H Q E h => ?_) (fun cdv A outer s H vs Q E hr h => ?_)
  · obtain ⟨d, s, rfl, _⟩ := h
    rfl
  · obtain ⟨d, fs, rfl, hd, hz, hw, k⟩ := h
    have hkl : (kvF fs).length = fs.length := List.length_map _
    have hu := hu_of hr; have hu64 := L2.Room.units hr; refine ⟨_, (pss_one (ps_ret (pe_lc (own := [("_law_pair", 1)]) (g := (gName 1)) (tt := tYes) rfl sc_law_order.nd (pi_list (pe_callB (cr_sortedW hu64) (by rfl) T.b_sorted (by decide +kernel) (pa_cons (pe_lockR (pe_lc (own := [("_law_word_here", 2)]) (g := (gName 2)) (tt := tYes) rfl sc_law_order.nd (pi_keys (pv 0)) (blkOk_by (N := N_law_order) (sc := defScope s_law_order) (by decide +kernel)) (fun _ _ _ _ _ => (pg_name (i := 2) sc_law_order.nd rfl (by first | exact Or.inl rfl | exact Or.inr rfl))) (fun _ _ _ _ _ => pts_nil) (fun _ _ _ _ _ => (pe_tup (pa_cons (pe_un un_neg (pe_callB call_len_str (by rfl) T.b_len (by decide +kernel) (pa_cons (pv 2) pa_nil))) (pa_cons (pv 2) pa_nil)))))) pa_nil))) (blkOk_by (N := N_law_order) (sc := defScope s_law_order) (by decide +kernel)) (fun _ _ _ _ _ => (pg_name (i := 1) sc_law_order.nd rfl (by first | exact Or.inl rfl | exact Or.inr rfl))) (fun _ _ _ _ _ => pts_nil) (fun _ _ _ _ _ => (pe_ix (r := rIxT K) ix_tup (pv 1) pe_int (fun _ _ => rfl)))))), ?_⟩; rw [st_law_order]; (try dsimp only [cxOf]); walk_at "go"
    refine lcK_rel hd.d (by rw [hkl]; exact line5 (by omega)) (fun H' Q' _ q => ⟨_, rfl, q⟩) (fun e y H => ∃ a, y = V.ref a ∧ ∃ w : Str, e.1 = Sum.inr w ∧ H a = some (.tup [.int (-(w.length : Int)), .str w])) (fun e y H H' t1 t ⟨a, h1, w, h2, h3⟩ => ⟨a, h1, w, h2, ?_⟩) (fun _ => rfl) ?_ ?_
    · obtain ⟨od, hod⟩ := t1
      exact t _ _ (ne_of h3 hod (fun z => nomatch z)) (fun _ z => nomatch z) h3
    · intro i kk v H1 Kc hi le hk
      unfold kvF at hi
      rw [List.getElem?_map] at hi
      cases hq : fs[i]? with
      | none => rw [hq] at hi; cases hi
      | some z =>
        rw [hq] at hi
        cases Option.some.inj hi
        walk_at "go"
        refine ⟨lead z.1, rfl, line5 (Nat.le_trans (hw z (List.mem_of_getElem? hq)) (by decide)), ?_⟩
        walk_at "go"
        exact ⟨Nat.le_of_ble_eq_true rfl, fun q hq => hk _ _ (Ex.new hq) ⟨q, rfl, lead z.1, rfl, upd_same⟩⟩
    · intro D H1 ys hD e hl hp
      obtain ⟨as, rfl, hp'⟩ := paired_refs hp
      obtain ⟨bs, hb1, hb2, hb3⟩ := bs_ofF hp'
      have hb4 : bs.map (·.2) = fs.map fun z => lead z.1 := by
        refine inr_map_inj ?_
        rw [List.map_map, List.map_map]
        refine hb2.trans ?_
        unfold kvF
        rw [List.map_map]
        rfl
      walk_at "go"
      refine ⟨D, bs, rfl, SqL.of (by rw [← hb1]; exact hl), fun b hb => SqT.of (hb3 b hb), fun bs' p hbs hin hp => ?_⟩
      walk_at "go"
      refine ⟨⟨_, SqL.of upd_same⟩, ?_⟩
      have hlen : bs'.length = fs.length := by
        have h1 : (bs'.map (·.2)).length = bs'.length := List.length_map _
        rw [← h1, hbs, ordW_len, hb4, List.length_map]
      have e1 : Ex H (upd H1 p (.lst (bs'.map fun b => V.ref b.1))) := e.trans (Ex.new hp)
      refine lc_pure (j := 1) walk_list ((ordW (fs.map fun z => lead z.1)).map V.str) (by rw [List.length_map, List.length_map, ← hb4, ← hbs, List.length_map]) (by rw [List.length_map, hlen]; exact line5 (by omega)) (fun H' e => SqL.of (e _ _ upd_same)) (fun _ => rfl) ?_ ?_
      · rintro i x y H2 H3 Kc hi e2 ⟨rfl, hx⟩ hy hk
        rw [List.getElem?_map] at hx hy
        rw [← hb4, ← hbs, List.getElem?_map] at hy
        cases hm : bs'[i]? with
        | none => rw [hm] at hx; cases hx
        | some b =>
          rw [hm] at hx hy
          obtain rfl := (Option.some.inj hx).symm
          obtain rfl := (Option.some.inj hy).symm
          have hb := hb3 b (hin b (List.mem_of_getElem? hm))
          walk_at "go"
          refine g_ixt (SqT.of (e2 _ _ (Ex.new hp _ _ hb))) rfl ?_
          exact hk _ (Ex.refl _)
      · intro D2 H2 hD2 e2 hl2
        walk_at "go"
        exact k _ _ (e1.trans e2) (e1.free hD2) hl2
def DBag (Cs : Addr → Prop) : L2.Eqv := fun x y H => ∃ a b p s t, x = .ref a ∧ y = .ref b ∧ BagAt Cs H a p s ∧ BagAt Cs H b p t ∧ wordsS s = wordsS t
theorem mon_DBag {Cs : Addr → Prop} : L2.Mon (DBag Cs) := fun x y H H' e ⟨a, b, p, s, t, h1, h2, h3, h4, h5⟩ => ⟨a, b, p, s, t, h1, h2, h3.ex' e, h4.ex' e, h5⟩
theorem op_eqLB {X : Cx} (D : EqOk X.prog X.w X.K X.mg X.base C_Bag Cs) (T : Txt X.K X.mg C_Bag Cs) (hr : Room 4 X.A) : OpR X (compareOp .Eq) (L2.rEqG (L2.DList (DBag Cs))) := by
  obtain ⟨f, fd, F, ec, hb⟩ := D.ex
  have h1 : L2.RcG X 1 (DBag Cs) := rcG_own F ec hb pass0 fun x y H Q d k => by
    obtain ⟨a, b, p, s, t, rfl, rfl, h1, h2, h3⟩ := d
    refine g_beq T h1 h2 ?_
    rw [if_neg Bool.false_ne_true, decide_eq_true rfl, decide_eq_true h3]
    exact k H L2.Ext.rfl'
  have h2 : L2.EqG X 1 (DBag Cs) := h1.eqG fun _ _ _ ⟨a, b, _, _, _, hx, hy, _⟩ => ⟨a, b, hx, hy⟩
  exact L2.op_eqG (L2.rcG_list mon_DBag h2) (hr.mono (by decide))
theorem paired_rows {F : Addr → Bg → Prop} : ∀ {us : List Addr} {fin : List Bg}, Paired (fun x r => F x (atR r 0)) us (rowsOf fin) → Paired F us fin
  | _, [], h => by cases h; exact .nil
  | _, c :: fin, h => by
    cases h with
    | cons h1 h2 => exact .cons h1 (paired_rows h2)
theorem refs_not {ds : List Addr} {c : Addr} {i b m n : Int} : ds.map V.ref ≠ [.ref c, .int i, .int b, .int m, .int n] := fun e => by
  match ds, e with
  | [], e => cases e
  | [x], e => simp at e
  | x :: y :: r, e => simp at e
theorem hand_ne {H : Hp} {h c a : Addr} {ds : List Addr} (S : HandAt H h c) (q : H a = some (.lst (ds.map V.ref))) : a ≠ h := by
  obtain ⟨⟨i, b, m, n, hx, _⟩, _, _⟩ := S
  exact ne_list q hx refs_not
/-- a row of dicts, the bags made of them, and the hand -/
structure RowK (Cs : Addr → Prop) (p : Int) (lr lb h c : Addr) (ds bs : List Addr) (ss : List Bg) (H : Hp) : Prop where
  r : H lr = some (.lst (ds.map V.ref))
  b : H lb = some (.lst (bs.map V.ref))
  d : Paired (fun d s => H d = some (.dK (toK s))) ds ss
  y : Paired (fun x s => BagAt Cs H x p s) bs ss
  hh : HandAt H h c
theorem RowK.ex' {p : Int} {lr lb h c : Addr} {ds bs : List Addr} {ss : List Bg} {H H' : Hp} (S : RowK Cs p lr lb h c ds bs ss H) (e : Ex H H') : RowK Cs p lr lb h c ds bs ss H' :=
  ⟨e _ _ S.r, e _ _ S.b, Paired.mapP S.d fun _ _ z => e _ _ z, Paired.mapP S.y fun _ _ z => z.ex' e, S.hh.ex' e⟩
theorem RowK.exh {p : Int} {lr lb h c : Addr} {ds bs : List Addr} {ss : List Bg} {H H' : Hp} (S : RowK Cs p lr lb h c ds bs ss H) (e : ExB h H H') (hh : HandAt H' h c) : RowK Cs p lr lb h c ds bs ss H' :=
  ⟨e _ _ (hand_ne S.hh S.r) S.r, e _ _ (hand_ne S.hh S.b) S.b, Paired.mapP S.d fun _ _ z => e _ _ (ne_of z S.hh.kind.choose_spec (fun z => nomatch z)) z, Paired.mapP S.y fun _ _ z => z.exh e S.hh.kind.choose_spec, hh⟩
theorem dpAll_lists {H : Hp} {ts : List Addr} {ss : List Bg} (h : Paired (fun t s => WordsAt H t (wordsS s)) ts ss) : DpAll K H (ts.map V.ref) (ss.map fun s => wordsD (wordsS s)) := by
  induction h with
  | nil => exact .nil
  | cons h1 _ ih => exact .cons h1.dp ih
theorem plainAll_lists (ss : List Bg) : PyData.plainAll (ss.map fun s => wordsD (wordsS s)) = true := by
  induction ss with
  | nil => rfl
  | cons s r ih => rw [List.map_cons, PyData.plainAll, ih, plain_words]; rfl
theorem depthAll_lists (ss : List Bg) : PyData.depthAll (ss.map fun s => wordsD (wordsS s)) ≤ 59 := by
  induction ss with
  | nil => simp [PyData.depthAll]
  | cons s r ih =>
    rw [List.map_cons, PyData.depthAll]
    have h1 := depthAll_words (wordsS s)
    have : (wordsD (wordsS s)).depth = 1 + PyData.depthAll ((wordsS s).map pairD) := by simp [wordsD, PyData.depth]; omega
    omega
theorem eqvAll_lists (ss : List Bg) : PyData.eqvAll (ss.map fun s => wordsD (wordsS s)) (ss.map fun s => wordsD (wordsS s)) = true := by
  induction ss with
  | nil => rfl
  | cons s r ih => rw [List.map_cons, PyData.eqvAll, ih, eqv_words, decide_eq_true rfl]; rfl

end
end Fp

/-! What a base leaves of a bag: one only. -/
namespace Fp
open PySem PySem.W
variable {p : Int} {L : Nat} {C : List Bg}
/-- numbers for words that are those of a sum -/
def InV (p : Int) (C : List Bg) (v : Str → Int) : Prop := ∃ ks : List Trm, (∀ k ∈ ks, k.1 ∈ C) ∧ ∀ w, v w % p = valT ks w % p
theorem InV.zero : InV p C fun _ => 0 := ⟨[], (fun _ h => nomatch h), fun _ => rfl⟩
theorem InV.of {f g h : Str → Int} {n : Int} (hf : InV p C f) (hg : InV p C g) (e : ∀ w, h w % p = (f w + n * g w) % p) : InV p C h := by
  obtain ⟨ks, k1, k2⟩ := hf
  obtain ⟨js, j1, j2⟩ := hg
  refine ⟨ks ++ js.map fun k => (k.1, k.2.1, n * k.2.2), fun k hk => ?_, fun w => ?_⟩
  · rcases List.mem_append.mp hk with hk | hk
    · exact k1 k hk
    · obtain ⟨j, hj, rfl⟩ := List.mem_map.mp hk
      exact j1 j hj
  · have h1 : valT (ks ++ js.map fun k => (k.1, k.2.1, n * k.2.2)) w = valT ks w + n * valT js w := by
      unfold valT
      rw [sumL_append, sumL_map, ← sumL_mul]
      congr 1
      refine sumL_congr fun k _ => ?_
      rw [Int.mul_assoc]
    rw [e, h1, Int.add_emod, k2, Int.mul_emod, j2, ← Int.mul_emod, ← Int.add_emod]
theorem InV.congr {f g : Str → Int} (hf : InV p C f) (e : ∀ w, g w % p = f w % p) : InV p C g := InV.of (n := 0) hf hf fun w => by rw [Int.zero_mul, Int.add_zero, e]
theorem InV.sum {α : Type} : ∀ (l : List α) (f : α → Str → Int), (∀ a ∈ l, InV p C (f a)) → InV p C fun w => sumL l fun a => f a w
  | [], _, _ => InV.zero
  | a :: l, f, h => InV.of (n := 1) (h a List.mem_cons_self) (InV.sum l f fun b hb => h b (List.mem_cons_of_mem _ hb)) fun w => by rw [sumL_cons, Int.one_mul]
theorem cf_withB_sum {s : Bg} (hs : (keys s).Nodup) (u w : Str) : cf (withB s u) w = sumL s fun a => if a.1 ++ u = w then a.2 else 0 := by
  rw [← sum_ind (withB_nodup hs) w]
  unfold withB
  rw [sumL_map]
theorem In.prod {f g : Bg} (hp : 0 < p) (hC : ∀ b ∈ C, (keys b).Nodup) (hn : (keys f).Nodup) (hf : In p C f) : In p C (prodS p f g) := by
  have h1 : InV p C fun w => sumL g fun b => b.2 * cf (Fp.withB f b.1) w := InV.sum g (fun b w => b.2 * cf (Fp.withB f b.1) w) fun b _ => InV.of (n := b.2) InV.zero (In.withB hC hn hf : InV p C (cf (Fp.withB f b.1))) fun w => by rw [Int.zero_add]
  refine InV.congr (g := cf (prodS p f g)) h1 fun w => ?_
  rw [cf_prod hp, Int.emod_emod]
  unfold cvS
  rw [sumL_swap]
  congr 1
  refine sumL_congr fun b _ => ?_
  rw [cf_withB_sum hn, ← sumL_mul]
  refine sumL_congr fun a _ => ?_
  by_cases e : a.1 ++ b.1 = w
  · rw [if_pos e, if_pos e, Int.mul_comm]
  · rw [if_neg e, if_neg e, Int.mul_zero]
/-- two bags that differ by a sum -/
def Dif (p : Int) (C : List Bg) (f g : Bg) : Prop := InV p C fun w => cf f w - cf g w
theorem Dif.refl (f : Bg) : Dif p C f f := InV.congr InV.zero fun w => by rw [Int.sub_self]
theorem Dif.same {f g : Bg} (e : ∀ w, cf f w = cf g w) : Dif p C f g := InV.congr InV.zero fun w => by rw [e, Int.sub_self]
theorem Dif.symm {f g : Bg} (h : Dif p C f g) : Dif p C g f := InV.of (n := -1) InV.zero h fun w => by congr 1; omega
theorem Dif.trans {f g h : Bg} (h1 : Dif p C f g) (h2 : Dif p C g h) : Dif p C f h := InV.of (n := 1) h1 h2 fun w => by congr 1; omega
/-- a bag and one more that is a sum -/
theorem Dif.more {f m : Bg} (hp : 0 < p) (gf : Good p f) (hm : (keys m).Nodup) (h : In p C m) (n : Int) : Dif p C (plusS p f m n) f :=
  InV.of (n := n) InV.zero (h : InV p C (cf m)) fun w => by
    rw [cf_plus hp gf hm, Int.zero_add, Int.sub_emod, Int.emod_emod, ← Int.sub_emod]
    congr 1
    omega
theorem Dif.plus {f f' g g' : Bg} (hp : 0 < p) (gf : Good p f) (gf' : (keys f').Nodup) (gg : Good p g) (gg' : (keys g').Nodup) (h1 : Dif p C f g) (h2 : Dif p C f' g') : Dif p C (plusS p f f' 1) (plusS p g g' 1) :=
  InV.of (n := 1) h1 h2 fun w => by
    rw [cf_plus hp gf gf', cf_plus hp gg gg', ← Int.sub_emod]
    congr 1
    omega
theorem Dif.nil {m : Bg} (h : In p C m) : Dif p C m [] := InV.congr (h : InV p C (cf m)) fun w => by
  rw [cf_nil, Int.sub_zero]
theorem red_dif (hp : 0 < p) {B : List Bg} (hC : ∀ b ∈ C, (keys b).Nodup) (hB : ∀ b ∈ B, Bas p L b ∧ In p C b) : ∀ {n : Nat} {R R' : Row}, RedN p (rowsOf B) n R R' → ∀ {r r' : Bg}, R = [r] → R' = [r'] → Good p r → Dif p C r r' := by
  intro n R R' h
  induction h with
  | stop h1 =>
    intro r r' h2 h3 _
    rw [h2] at h3
    cases h3
    exact Dif.refl r
  | @step n R o R' i w t h1 h2 h3 ih =>
    intro r r' e1 e2 gr
    subst e1
    rw [hitF_one] at h1
    obtain ⟨⟨w', o', t'⟩, h4, h5⟩ := Option.map_eq_some_iff.mp h1
    cases h5
    obtain ⟨h6, h7, _⟩ := hitW_first h4
    obtain ⟨b, hb, rfl, hwt⟩ := hit_some (fun b hb => (hB b hb).1.n) h7
    have ht : takeR p [r] [b] t' (cf (atR [r] 0) w') = [plusS p r (withB b t') (-(cf r w'))] := takeR_one r b t' (cf r w')
    have g1 := Good.plus (f := -(cf r w')) hp gr (withB b t')
    have h8 := ih ht e2 g1
    exact (Dif.more hp gr (withB_nodup (hB b hb).1.g.nd) (In.withB hC (hB b hb).1.g.nd (hB b hb).2) _).symm.trans h8
/-- what is left of a bag -/
structure Nf (p : Int) (L : Nat) (C : List Bg) (s s' : Bg) : Prop where
  g : Good p s'
  b : Bd L s'
  n : ∀ u ∈ keys s', ∀ c ∈ C, ¬ Beg (lead c) u
  d : Dif p C s s'
theorem Nf.uniq (hp : 0 < p) (G : GB p C) {b1 b2 c1 c2 : Bg} (h1 : Nf p L C b1 c1) (h2 : Nf p L C b2 c2) (hd : Dif p C b1 b2) (w : Str) : cf c1 w = cf c2 w := by
  have hD : Dif p C c1 c2 := (h1.d.symm.trans hd).trans h2.d
  have g1 := Good.plus (f := -1) hp h1.g c2
  have hi : In p C (plusS p c1 c2 (-1)) := InV.congr (hD : InV p C fun w => cf c1 w - cf c2 w) fun w => by
    rw [cf_plus hp h1.g h2.g.nd, Int.emod_emod]
    congr 1
    omega
  have hn : plusS p c1 c2 (-1) = [] := In.none hp G hi g1 fun u hu b hb hbeg => by
    have h3 := (cf_ne g1).mp hu
    rw [cf_plus hp h1.g h2.g.nd] at h3
    by_cases k1 : u ∈ keys c1
    · exact h1.n u k1 b hb hbeg
    · by_cases k2 : u ∈ keys c2
      · exact h2.n u k2 b hb hbeg
      · rw [cf_not_mem k1, cf_not_mem k2] at h3
        exact h3 rfl
  have h4 : cf (plusS p c1 c2 (-1)) w = 0 := by rw [hn, cf_nil]
  rw [cf_plus hp h1.g h2.g.nd] at h4
  have a1 := cf_nonneg h1.g w
  have a2 := cf_lt hp h1.g w
  have b1 := cf_nonneg h2.g w
  have b2 := cf_lt hp h2.g w
  have h5 : (cf c1 w + -1 * cf c2 w) = p * ((cf c1 w + -1 * cf c2 w) / p) := by have := Int.mul_ediv_add_emod (cf c1 w + -1 * cf c2 w) p; omega
  have h6 : -1 < (cf c1 w + -1 * cf c2 w) / p := by
    rcases Int.lt_or_le (-1) ((cf c1 w + -1 * cf c2 w) / p) with h | h
    · exact h
    · have := Int.mul_le_mul_of_nonneg_left h (by omega : 0 ≤ p); omega
  have h7 : (cf c1 w + -1 * cf c2 w) / p < 1 := by
    rcases Int.lt_or_le ((cf c1 w + -1 * cf c2 w) / p) 1 with h | h
    · exact h
    · have := Int.mul_le_mul_of_nonneg_left h (by omega : 0 ≤ p); omega
  have h8 : (cf c1 w + -1 * cf c2 w) / p = 0 := by omega
  rw [h8, Int.mul_zero] at h5
  omega
/-- taking off by bags with the same first words leaves it -/
theorem red_nf (hp : Prm p) (hL : lenU L ≤ 3000000) (hL1 : L ≤ 1000000) {B : List Bg} (hB : ∀ b ∈ B, Nrm p L C b) (hlB : ∀ l ∈ C.map lead, l ∈ B.map lead) (hC : ∀ b ∈ C, Bas p L b) {s : Bg} (g : Good p s) (d : Bd L s) : ∃ n r', RedN p (rowsOf B) n [s] [r'] ∧ Nf p L C s r' := by
  have h0 : 0 < p := by have := hp.pos; omega
  obtain ⟨n, r', h1, h2⟩ := red_runs h0 hL hL1 (B := B) (fun b hb => (hB b hb).s) g d
  refine ⟨n, r', h1, h2.g, h2.b, fun u hu c hc hbeg => ?_, red_dif (L := L) h0 (fun b hb => (hC b hb).g.nd) (fun b hb => ⟨(hB b hb).s, (hB b hb).i⟩) h1 rfl rfl g⟩
  obtain ⟨b, hb, e⟩ := List.mem_map.mp (hlB _ (List.mem_map.mpr ⟨c, hc, rfl⟩))
  exact h2.n u hu b hb (by rw [e]; exact hbeg)
theorem Nf.self {b c : Bg} (h : Nf p L C b c) : Nf p L C c c := ⟨h.g, h.b, h.n, Dif.refl c⟩
theorem Nf.nil {m : Bg} (h : In p C m) : Nf p L C m [] := ⟨Good.nil, (fun _ h => nomatch h), (fun _ h => nomatch h), Dif.nil h⟩
theorem Nf.plus (hp : 0 < p) {b b' c c' : Bg} (gb : Good p b) (gb' : (keys b').Nodup) (h : Nf p L C b c) (h' : Nf p L C b' c') : Nf p L C (plusS p b b' 1) (plusS p c c' 1) := by
  refine ⟨Good.plus hp h.g c', fun u hu => ?_, fun u hu => ?_, Dif.plus hp gb gb' h.g h'.g.nd h.d h'.d⟩
  · rcases keys_plus hu with k | k
    · exact h.b u k
    · exact h'.b u k
  · rcases keys_plus hu with k | k
    · exact h.n u k
    · exact h'.n u k
end Fp

namespace Fp
open PySem L2
section
variable {P : Program} {w : World} {K : PySem.W.Frag} {mg : Str → Option Value} {base : Heap} {C_Bag : Addr} {Cs : Addr → Prop}
local macro_rules | `(tactic| walk_at "hp") => `(tactic| first | assumption | rfl)
local macro_rules | `(tactic| walk_at "cond") => `(tactic| first | assumption | decide | omega | (unfold CMul; omega) | (refine ⟨?_, ?_⟩ <;> omega) | (unfold CDiv; omega) | (unfold CPow; omega))
local macro_rules | `(tactic| walk_at "g1") => `(tactic| first
  | with_reducible first
    | refine g_seq ?_ | refine g_asg ?_ | refine g_name ?_ | refine g_ret ?_ | refine g_retN ?_ | refine g_drop ?_ | refine g_ifs ?_
    | refine g_c ?_ | refine g_op ?_ | refine g_un ?_ | refine g_I0 ?_ | refine g_U ?_
    | refine g_test ?_ | refine g_tB ?_ | refine g_bl ?_ | refine g_and ?_ | refine g_or ?_ | refine g_not ?_
    | refine g_andV ?_ | refine g_orV ?_ | refine g_notV ?_ | refine g_if ?_ | refine g_nil ?_ | refine g_cons ?_ | refine g_cb ?_ | refine g_call ?_
    | refine g_lst ?_ | refine g_tup ?_ | refine g_itT ?_ | refine g_itF ?_ | refine g_itNT ?_ | refine g_itNF ?_ | refine g_lc ?_ | refine g_iStr ?_ | refine g_yes ?_ | refine g_exs ?_
    | refine g_chain ?_ | refine g_dget ?_ | refine g_dput ?_ | refine g_dget2 ?_ | refine g_dpop2 ?_ | refine g_fld ?_ | refine g_sfld ?_ | refine g_make ?_ | refine g_meth ?_
    | refine g_bm ?_ | refine g_kw ?_ | refine g_callS ?_ | refine g_revL ?_ | refine g_m1 ?_ | refine g_gsub ?_ | refine g_for ?_ | refine g_iList ?_ | refine g_iTup ?_ | refine g_iRng1 ?_ | refine g_iRng2 ?_ | refine g_sl ?_ | refine g_part ?_ | refine g_noPart ?_
    | refine g_exi ?_ | refine g_exr ?_ | refine g_dnew ?_ | refine g_disp ?_ | refine g_prs0 ?_ | refine g_prs ?_ | refine g_nxt ?_
  | ((with_reducible refine g_var (v := ?vv) ?gv ?_); (case gv => exact rfl))
  | ((with_reducible refine g_I ?gc ?_); (case gc => walk_at "cond"))
  | ((with_reducible refine g_eq ?ge ?_); (case ge => exact rfl))
  | ((with_reducible refine g_ne ?ge ?_); (case ge => exact rfl))
  | (refine g_ixl (SqL.of (by first | assumption | exact upd_same)) rfl ?_)
  | (refine g_setl (by first | assumption | exact upd_same) rfl ?_)
  | ((with_reducible show (∃ i, [V.int _] = [V.int i] ∧ _) ∨ _); refine Or.inl ⟨_, rfl, ?_⟩)
  | ((with_reducible show ∃ i, [V.int _] = [V.int i] ∧ _); refine ⟨_, rfl, ?_⟩)
  | dsimp only)
local macro_rules | `(tactic| walk_at "go") => `(tactic| repeat (walk_at "g1"))

local macro_rules | `(tactic| walk_at "g1") => `(tactic| with_reducible first | refine g_gcons ?_ | refine g_gnil ?_)

/-! ### what a row leaves of a bag; the sum of a row -/
def sumZ (p : Int) (zs : List (Bg × Bg)) : Bg := zs.foldl (fun acc z => plusS p acc (prodS p z.1 z.2) 1) []
theorem sumZ_snoc (p : Int) (zs : List (Bg × Bg)) (z : Bg × Bg) : sumZ p (zs ++ [z]) = plusS p (sumZ p zs) (prodS p z.1 z.2) 1 := by
  unfold sumZ
  rw [List.foldl_append]
  rfl
theorem sumZ_lot_aux {p : Int} {a l b : Nat} (hp : 0 < p) : ∀ (zs : List (Bg × Bg)) (acc : Bg) (n : Nat), (∀ z ∈ zs, Lot p z.1 a l ∧ Lot p z.2 3 b) → Lot p acc n (l + b) → Lot p (zs.foldl (fun acc z => plusS p acc (prodS p z.1 z.2) 1) acc) (n + 3 * manyW (zs.map Prod.fst)) (l + b)
  | [], acc, n, _, h => h
  | z :: zs, acc, n, hz, h => by
    obtain ⟨h1, h2⟩ := hz z List.mem_cons_self
    have h3 : Lot p z.1 z.1.length l := ⟨h1.g, Nat.le_refl _, h1.l⟩
    have h4 := Lot.plus (f := 1) hp h (h3.prod hp h2) (Nat.le_refl _) (Nat.le_refl _)
    have h5 := sumZ_lot_aux hp zs _ _ (fun y hy => hz y (List.mem_cons_of_mem _ hy)) h4
    have h6 : manyW ((z :: zs).map Prod.fst) = z.1.length + manyW (zs.map Prod.fst) := rfl
    rw [h6]
    exact h5.mono (by omega) (Nat.le_refl _)
theorem sumZ_lot {p : Int} {a l b : Nat} (hp : 0 < p) {zs : List (Bg × Bg)} (h : ∀ z ∈ zs, Lot p z.1 a l ∧ Lot p z.2 3 b) : Lot p (sumZ p zs) (3 * manyW (zs.map Prod.fst)) (l + b) :=
  (sumZ_lot_aux hp zs [] 0 h Lot.nil).mono (by omega) (Nat.le_refl _)
theorem sumZ_in_aux {p : Int} {C : List Bg} (hp : 0 < p) (hC : ∀ b ∈ C, (keys b).Nodup) : ∀ (zs : List (Bg × Bg)) (acc : Bg), (∀ z ∈ zs, Good p z.1 ∧ In p C z.1) → Good p acc → In p C acc → In p C (zs.foldl (fun acc z => plusS p acc (prodS p z.1 z.2) 1) acc)
  | [], _, _, _, h => h
  | z :: zs, acc, hz, g, h => by
    obtain ⟨h1, h2⟩ := hz z List.mem_cons_self
    have h3 := In.prod (g := z.2) hp hC h1.nd h2
    exact sumZ_in_aux hp hC zs _ (fun y hy => hz y (List.mem_cons_of_mem _ hy)) (Good.plus hp g _) (In.plus hp g (Good.prod hp z.1 z.2).nd h h3)
theorem sumZ_in {p : Int} {C : List Bg} (hp : 0 < p) (hC : ∀ b ∈ C, (keys b).Nodup) {zs : List (Bg × Bg)} (h : ∀ z ∈ zs, Good p z.1 ∧ In p C z.1) : In p C (sumZ p zs) := sumZ_in_aux hp hC zs [] h Good.nil In.nil
def sp_law_sum : Sp := fun vs H Q _ => ∃ (p : Int) (lr lm : Addr) (ds ms : List Addr) (zs : List (Bg × Bg)), vs = [.int p, .ref lr, .ref lm] ∧ H lr = some (.lst (ds.map V.ref)) ∧ H lm = some (.lst (ms.map V.ref)) ∧ Paired (fun d s => H d = some (.dK (toK s))) ds (zs.map Prod.fst) ∧ Paired (fun d s => H d = some (.dK (toK s))) ms (zs.map Prod.snd) ∧
  (∀ z ∈ zs, Lot p z.1 1000 1000 ∧ Lot p z.2 3 1000) ∧ zs.length ≤ 1000 ∧ 0 < p ∧ p ≤ 1000 ∧ ∀ d H', Ex H H' → H d = none → H' d = some (.dK (toK (sumZ p zs))) → Q (.ref d) H'
theorem ok_law_sum {f : Addr} {fd : FuncData} (F : Fun K "_law_sum" "_law_sum" s_law_sum f fd) (T : Txt K mg C_Bag Cs) (D_law_plus : DefOk P w K mg base CX0 2 "_law_plus" ["_law_clock_here", "_law_one", "_law_other", "_law_factor"] sp_law_plus) (D_law_product : DefOk P w K mg base CX0 2 "_law_product" ["_law_clock_here", "_law_one", "_law_other"] sp_law_product) : FnOk P w K mg base CX0 3 f fd ["_law_clock_here", "_law_rows", "_law_bags"] sp_law_sum := by
  refine F.ok sc_law_sum (fun vs H Q E h => ?_) (fun cdv A outer s H vs Q E hr h => ?_)
  · obtain ⟨p, lr, lm, ds, ms, zs, rfl, _⟩ := h
    rfl
  · obtain ⟨p, lr, lm, ds, ms, zs, rfl, hlr, hlm, hd, hm, hz, hn, hp, hp1, k⟩ := h
    have hdl := hd.length
    have hml := hm.length
    rw [List.length_map] at hdl hml
    have hu := hu_of hr; have hu64 := L2.Room.units hr; refine ⟨_, (pss_cons (ps_set (i := 3) sc_law_sum.nd rfl (by first | exact Or.inl rfl | exact Or.inr rfl) pe_dnewK) (pss_cons (ps_for PassesOwn.never rfl (pi_zip rfl T.b_zip (pa_cons (pv 1) (pa_cons (pv 2) pa_nil))) (pg_tup rfl (pgs_cons (pg_name (i := 4) sc_law_sum.nd rfl (by first | exact Or.inl rfl | exact Or.inr rfl)) (pgs_cons (pg_name (i := 5) sc_law_sum.nd rfl (by first | exact Or.inl rfl | exact Or.inr rfl)) pgs_nil))) (pss_one (ps_set (i := 3) sc_law_sum.nd rfl (by first | exact Or.inl rfl | exact Or.inr rfl) (pe_callD D_law_plus (hr.mono (by decide)) rfl pass0 (pa_cons (pv 0) (pa_cons (pv 3) (pa_cons (pe_callD D_law_product (hr.mono (by decide)) rfl pass0 (pa_cons (pv 0) (pa_cons (pv 4) (pa_cons (pv 5) pa_nil)))) (pa_cons pe_int pa_nil)))))))) (pss_one (ps_ret (pv 3))))), ?_⟩; rw [st_law_sum]; (try dsimp only [cxOf]); walk_at "go"
    intro d0 hd0
    have ex0 := Ex.new (o := .dK []) hd0
    have hd00 := upd_same (H := H) (a := d0) (o := .dK [])
    generalize upd H d0 (.dK []) = H0 at ex0 hd00 ⊢
    walk_at "go"
    refine ⟨_, rfl, _, rfl, lr, lm, _, _, rfl, SqL.of (ex0 _ _ hlr), SqL.of (ex0 _ _ hlm), ?_⟩
    refine forG (walk_zip (n := zs.length) (by rw [List.length_map, List.length_map]; omega)) (fun i σ' H' => ∃ d x y, σ' = [some (.int p), some (.ref lr), some (.ref lm), some (.ref d), x, y] ∧ Ex H H' ∧ H d = none ∧ H' d = some (.dK (toK (sumZ p (zs.take i))))) ⟨d0, none, none, rfl, ex0, hd0, hd00⟩ (fun _ σ' H' _ ⟨d, x, y, e, e1, _, _⟩ => ⟨SqL.of (e1 _ _ hlr), SqL.of (e1 _ _ hlm)⟩) ?_ ?_
    · rintro i x σ' H1 H2 hi ⟨d, x0, y0, rfl, e1, hdn, hdd⟩ ⟨T', x1, y1, rfl, hT, rfl, hx1, hy1⟩
      obtain ⟨z, hzi⟩ : ∃ z, zs[i]? = some z := ⟨_, List.getElem?_eq_getElem hi⟩
      have hx1 : (ds.map V.ref)[i]? = some x1 := hx1
      have hy1 : (ms.map V.ref)[i]? = some y1 := hy1
      rw [List.getElem?_map] at hx1 hy1
      obtain ⟨d1, hd1, rfl⟩ := Option.map_eq_some_iff.mp hx1
      obtain ⟨d2, hd2, rfl⟩ := Option.map_eq_some_iff.mp hy1
      obtain ⟨s1, hs1, hds1⟩ := paired_get hd hd1
      obtain ⟨s2, hs2, hds2⟩ := paired_get hm hd2
      rw [List.getElem?_map, hzi] at hs1 hs2
      cases Option.some.inj hs1
      cases Option.some.inj hs2
      obtain ⟨l1, l2⟩ := hz z (List.mem_of_getElem? hzi)
      have eT := Ex.new (o := .tup [.ref d1, .ref d2]) hT
      refine ⟨T', _, rfl, SqT.of upd_same, rfl, ?_⟩
      generalize upd H1 T' (.tup [.ref d1, .ref d2]) = H3 at eT ⊢
      have e3 := e1.trans eT
      walk_at "go"
      refine ⟨p, d1, d2, z.1, z.2, rfl, .inl (e3 _ _ hds1), .inl (e3 _ _ hds2), l1.g.nd, l2.g.nd, Nat.lt_of_le_of_lt (Nat.mul_le_mul l1.n l2.n) (by decide), hp, l1.g.up' (by omega), fun u hu => Nat.le_trans (l1.l u hu).1 (by decide), fun u hu => Nat.le_trans (l2.l u hu).1 (by decide), fun d3 H4 e4 hd3 hd3' => ?_⟩
      walk_at "go"
      have hL := sumZ_lot hp (zs := zs.take i) fun y hy => hz y (List.mem_of_mem_take hy)
      have hLm := manyW_le (ss := (zs.take i).map Prod.fst) (m := 1000) fun s hs => by
        obtain ⟨y, hy, rfl⟩ := List.mem_map.mp hs
        exact (hz y (List.mem_of_mem_take hy)).1.n
      rw [List.length_map] at hLm
      have hti : (zs.take i).length ≤ 1000 := Nat.le_trans (List.length_take_le' _ _) hn
      have hLn := hL.n
      have hPn := Nat.le_trans (len_prod (p := p) (s := z.1) (t := z.2)) (Nat.mul_le_mul l1.n l2.n)
      refine ⟨p, d, d3, sumZ p (zs.take i), prodS p z.1 z.2, 1, rfl, .inl (e4 _ _ (eT _ _ hdd)), .inl hd3', (Good.prod hp z.1 z.2).nd, ?_, hp, by decide, fun d4 H5 e5 hd4 hd4' => ?_⟩
      · have : (zs.take i).length * 1000 ≤ 1000 * 1000 := Nat.mul_le_mul_right _ hti
        omega
      walk_at "go"
      refine ⟨d4, _, _, rfl, (e3.trans e4).trans e5, (e3.trans e4).free hd4, ?_⟩
      rw [List.take_add_one, hzi, show (some z).toList = [z] from rfl, sumZ_snoc]
      exact hd4'
    · rintro σ' H1 ⟨d, x, y, rfl, e1, hdn, hdd⟩
      walk_at "go"
      rw [List.take_of_length_le (Nat.le_refl _)] at hdd
      exact k d H1 e1 hdn hdd
def sp_rest (K : PySem.W.Frag) (Cs : Addr → Prop) : Sp := fun vs H Q _ => ∃ (a b : Addr) (p : Int) (ss res fin : List Bg) (s s' : Bg) (n m L : Nat), vs = [.ref a, .ref b] ∧ BagsAt K Cs H a p ss ∧ ss ≠ [] ∧ ss.length ≤ 6 ∧ (∀ s ∈ ss, Fit p [s]) ∧ BasF p L ss res fin n ∧ Prm p ∧ lenU L ≤ 3000000 ∧ L ≤ 1000000 ∧ BagAt Cs H b p s ∧ Fit p [s] ∧ RedN p (rowsOf fin) m [s] [s'] ∧ Fit p [s'] ∧
  ∀ x H', Ex H H' → BagAt Cs H' x p s' → Q (.ref x) H'
theorem ok_rest {f : Addr} {fd : FuncData} (F : Fun K "rest" "rest" s_rest f fd) (T : Txt K mg C_Bag Cs) (D_check_row : DefOk P w K mg base CX0 3 "check_row" ["thing"] (sp_check_row K Cs)) (D_check_clocks : DefOk P w K mg base CX0 1 "check_clocks" ["one", "other"] (sp_check_clocks Cs)) (D_raw : DefOk P w K mg base CX0 8 "raw" ["clock", "sparse"] (sp_raw Cs))
    (D_row_base : DefOk P w K mg base CX0 11 "row_base" ["bags"] (sp_row_base K Cs)) (D_reduced : DefOk P w K mg base CX0 8 "reduced" ["clock", "base", "row"] (sp_reduced K)) : FnOk P w K mg base CX0 12 f fd ["row", "bag"] (sp_rest K Cs) := by
  refine F.ok sc_rest (fun vs H Q E h => ?_) (fun cdv A outer s H vs Q E hr h => ?_)
  · obtain ⟨a, b, p, ss, res, fin, s, s', n, m, L, rfl, _⟩ := h
    rfl
  · obtain ⟨a, b, p, ss, res, fin, s, s', n, m, L, rfl, hb, hne, hlen, hfit, fB, hp, hL, hL1, hbag, hfs, hred, hfs', k⟩ := h
    obtain ⟨xs, hsq, hps⟩ := hb.ex
    have hpl := hps.length
    have hpos : 0 < ss.length := List.length_pos_iff.mpr hne
    have hfl := fin_len fB
    have hrl := fB.len
    have hu := hu_of hr; have hu64 := L2.Room.units hr; refine ⟨_, (pss_cons (ps_expr (pe_callD D_check_row (hr.mono (by decide)) rfl pass0 (pa_cons (pv 0) pa_nil))) (pss_cons (ps_expr (pe_callD D_check_clocks (hr.mono (by decide)) rfl pass0 (pa_cons (pe_ix (r := rIx K) ix_seq (pv 0) pe_int (fun _ _ => rfl)) (pa_cons (pv 1) pa_nil)))) (pss_cons (ps_set (i := 2) sc_rest.nd rfl (by first | exact Or.inl rfl | exact Or.inr rfl) (pe_fldK (K := K) rfl (pv 1) rfl)) (pss_one (ps_ret (pe_callD D_raw (hr.mono (by decide)) rfl pass0 (pa_cons (pv 2) (pa_cons (pe_ix (r := rIxT K) ix_tup (pe_callD D_reduced (hr.mono (by decide)) rfl pass0 (pa_cons (pv 2) (pa_cons (pe_lc (own := [("sparse", 3)]) (g := (gName 3)) (tt := tYes) rfl sc_rest.nd (pi_list (pe_callD D_row_base (hr.mono (by decide)) rfl pass0 (pa_cons (pv 0) pa_nil))) (blkOk_by (N := N_rest) (sc := defScope s_rest) (by decide +kernel)) (fun _ _ _ _ _ => (pg_name (i := 3) sc_rest.nd rfl (by first | exact Or.inl rfl | exact Or.inr rfl))) (fun _ _ _ _ _ => pts_nil) (fun _ _ _ _ _ => (pe_tup (pa_cons (pv 3) pa_nil)))) (pa_cons (pe_tup (pa_cons (pe_fldK (K := K) rfl (pv 1) rfl) pa_nil)) pa_nil)))) pe_int (fun _ _ => rfl)) pa_nil)))))))), ?_⟩; rw [st_rest]; (try dsimp only [cxOf]); walk_at "go"
    refine ⟨a, p, ss, rfl, hb, hne, hlen, fun H1 e1 => ?_⟩
    walk_at "go"
    obtain ⟨b0, hb0⟩ : ∃ b0, xs[0]? = some b0 := ⟨xs[0], List.getElem?_eq_getElem (by omega)⟩
    obtain ⟨s0, _, hbs0⟩ := paired_get hps hb0
    refine g_ixq (v := .ref b0) (hsq.elim (fun h => Or.inl (e1.sql h)) (fun h => Or.inr (e1.sqt h))) (atI_get (by decide) (by show (xs.map V.ref)[0]? = _; rw [List.getElem?_map, hb0]; rfl)) ?_
    walk_at "go"
    refine ⟨b0, b, p, s0, s, rfl, hbs0.ex' e1, hbag.ex' e1, ?_⟩
    walk_at "go"
    obtain ⟨C, dx, d, k1, t1, hc, h1, hd, _⟩ := (hbag.ex' e1).ex
    refine ⟨b, C, dx, _, _, rfl, h1, T.cls C hc, T.n_clock C hc, bagF_clock _ _ _ _, ?_⟩
    walk_at "go"
    refine ⟨a, p, ss, rowsOf res, rowsOf fin, n, rfl, hb.ex' e1, hne, by omega, hfit, ?_, hp, fB.red, fun r hr => ?_, by rw [rows_len]; omega, fun l us H2 e2 hln hl2 hus => ?_⟩
    · rw [filter_rows, show (fun b : Bg => !idleR [b]) = fun b => !decide (b = []) from by funext b; simp [idleR]]
      exact fB.led
    · obtain ⟨c, _, rfl⟩ := List.mem_map.mp hr
      rfl
    have e12 := e1.trans e2
    have hul := hus.length
    rw [rows_len] at hul
    have hus := paired_rows (F := fun d c => H2 d = some (.dK (toK c))) hus
    walk_at "go"
    refine ⟨⟨_, SqL.of hl2⟩, ?_⟩
    refine lc_relL walk_list (rowsOf fin) (by rw [List.length_map, hul, rows_len]) (by rw [List.length_map, hul]; exact line5 (by omega)) (fun H' e => SqL.of (e _ _ hl2)) (fun r y H => ∃ t, y = V.ref t ∧ RowAt H t r) (fun r y H H' e ⟨t, h8, h9⟩ => ⟨t, h8, h9.exl e⟩) (fun _ => rfl) ?_ ?_
    · rintro i x r H3 H3' Kc hi e3 ⟨rfl, hx⟩ hr2 hk
      rw [List.getElem?_map] at hx
      obtain ⟨u, hu, rfl⟩ := Option.map_eq_some_iff.mp hx
      obtain ⟨c, hc9, huc⟩ := paired_get hus hu
      have hr2 : (fin.map fun s => [s])[i]? = some r := hr2
      rw [List.getElem?_map, hc9] at hr2
      cases Option.some.inj hr2
      walk_at "go"
      refine ⟨Nat.le_of_ble_eq_true rfl, fun q hq => ?_⟩
      have e4 := Ex.new (o := .tup [V.ref u]) hq
      exact hk _ _ e4 ⟨q, rfl, ⟨[u], .inl upd_same, .cons (e4 _ _ (e3 _ _ huc)) .nil⟩⟩
    · intro D H3 ys hDn e3 hD hys
      obtain ⟨ts, rfl, hts⟩ := RowsAt.of hys
      have e13 := e12.trans e3
      have hbag3 := hbag.ex' e13
      obtain ⟨C3, dx3, d3, k3, t3, hc3, h13, hd3, _⟩ := hbag3.ex
      walk_at "go"
      refine ⟨b, C3, dx3, _, _, rfl, h13, T.cls C3 hc3, T.n_sparse C3 hc3, bagF_sparse _ _ _ _, ?_⟩
      walk_at "go"
      refine ⟨Nat.le_of_ble_eq_true rfl, fun q hq => ?_⟩
      have e4 := Ex.new (o := .tup [V.ref d3]) hq
      have hq4 := upd_same (H := H3) (a := q) (o := .tup [V.ref d3])
      generalize upd H3 q (.tup [V.ref d3]) = H4 at e4 hq4 ⊢
      walk_at "go"
      refine ⟨p, D, q, ts, rowsOf fin, [s], [s'], 1, m, rfl, SqL.of (e4 _ _ hD), hts.ex' e4, Bas.led hL hL1 fun c hc => (fB.nrm c hc).s, ⟨[d3], .inl hq4, .cons (e4 _ _ hd3) .nil⟩, hfs, rfl, hred, by have := hp.pos; omega, by rcases hp with rfl | rfl | rfl | rfl <;> decide, fun t' H5 e5 ht' => ?_⟩
      obtain ⟨es, hes, hes2⟩ := ht'.ex
      obtain ⟨e0, rfl, he0⟩ : ∃ e0, es = [e0] ∧ H5 e0 = some (.dK (toK s')) := by
        cases hes2 with
        | cons h1 h2 => cases h2; exact ⟨_, rfl, h1⟩
      walk_at "go"
      refine g_ixt (v := .ref e0) (.inl hes) rfl ?_
      walk_at "go"
      have hs'm := List.mem_singleton_self s'
      refine ⟨e0, p, s', rfl, he0, Nat.le_trans (hfs'.n s' hs'm) (by decide), fun u hu => Nat.le_trans (hfs'.l s' hs'm u hu) (by decide), (hfs'.g s' hs'm).nd, fun x H6 e6 hxn hx => ?_⟩
      exact k x H6 (((e13.trans e4).trans e5).trans e6) hx

end
end Fp

namespace Fp
open PySem L2
section
variable {P : Program} {w : World} {K : PySem.W.Frag} {mg : Str → Option Value} {base : Heap} {C_Bag : Addr} {Cs : Addr → Prop}
local macro_rules | `(tactic| walk_at "hp") => `(tactic| first | assumption | rfl)
local macro_rules | `(tactic| walk_at "cond") => `(tactic| first | assumption | decide | omega | (unfold CMul; omega) | (refine ⟨?_, ?_⟩ <;> omega) | (unfold CDiv; omega) | (unfold CPow; omega))
local macro_rules | `(tactic| walk_at "g1") => `(tactic| first
  | with_reducible first
    | refine g_seq ?_ | refine g_asg ?_ | refine g_name ?_ | refine g_ret ?_ | refine g_retN ?_ | refine g_drop ?_ | refine g_ifs ?_
    | refine g_c ?_ | refine g_op ?_ | refine g_un ?_ | refine g_I0 ?_ | refine g_U ?_
    | refine g_test ?_ | refine g_tB ?_ | refine g_bl ?_ | refine g_and ?_ | refine g_or ?_ | refine g_not ?_
    | refine g_andV ?_ | refine g_orV ?_ | refine g_notV ?_ | refine g_if ?_ | refine g_nil ?_ | refine g_cons ?_ | refine g_cb ?_ | refine g_call ?_
    | refine g_lst ?_ | refine g_tup ?_ | refine g_itT ?_ | refine g_itF ?_ | refine g_itNT ?_ | refine g_itNF ?_ | refine g_lc ?_ | refine g_iStr ?_ | refine g_yes ?_ | refine g_exs ?_
    | refine g_chain ?_ | refine g_dget ?_ | refine g_dput ?_ | refine g_dget2 ?_ | refine g_dpop2 ?_ | refine g_fld ?_ | refine g_sfld ?_ | refine g_make ?_ | refine g_meth ?_
    | refine g_bm ?_ | refine g_kw ?_ | refine g_callS ?_ | refine g_revL ?_ | refine g_m1 ?_ | refine g_gsub ?_ | refine g_for ?_ | refine g_iList ?_ | refine g_iTup ?_ | refine g_iRng1 ?_ | refine g_iRng2 ?_ | refine g_sl ?_ | refine g_part ?_ | refine g_noPart ?_
    | refine g_exi ?_ | refine g_exr ?_ | refine g_dnew ?_ | refine g_disp ?_ | refine g_prs0 ?_ | refine g_prs ?_ | refine g_nxt ?_
  | ((with_reducible refine g_var (v := ?vv) ?gv ?_); (case gv => exact rfl))
  | ((with_reducible refine g_I ?gc ?_); (case gc => walk_at "cond"))
  | ((with_reducible refine g_eq ?ge ?_); (case ge => exact rfl))
  | ((with_reducible refine g_ne ?ge ?_); (case ge => exact rfl))
  | (refine g_ixl (SqL.of (by first | assumption | exact upd_same)) rfl ?_)
  | (refine g_setl (by first | assumption | exact upd_same) rfl ?_)
  | ((with_reducible show (∃ i, [V.int _] = [V.int i] ∧ _) ∨ _); refine Or.inl ⟨_, rfl, ?_⟩)
  | ((with_reducible show ∃ i, [V.int _] = [V.int i] ∧ _); refine ⟨_, rfl, ?_⟩)
  | dsimp only)
local macro_rules | `(tactic| walk_at "go") => `(tactic| repeat (walk_at "g1"))

local macro_rules | `(tactic| walk_at "g1") => `(tactic| with_reducible first | refine g_gcons ?_ | refine g_gnil ?_)

def sp_law (K : PySem.W.Frag) : Sp := fun vs H Q _ => ∃ (a : Addr) (ns : List Int), vs = [.ref a] ∧ SqL K H a (ns.map V.int) ∧ ∀ H', Q (.bl true) H'
theorem Clk.prm {p : Int} (h : Clk p) : Prm p := h
/-- what stands in a turn -/
structure K13 (Cs : Addr → Prop) (p : Int) (lr lb h c dd : Addr) (ds bs : List Addr) (ss : List Bg) (fs : Fs) (H : Hp) : Prop where
  s : RowK Cs p lr lb h c ds bs ss H
  f : FsAt H dd fs
theorem K13.ex' {p : Int} {lr lb h c dd : Addr} {ds bs : List Addr} {ss : List Bg} {fs : Fs} {H H' : Hp} (S : K13 Cs p lr lb h c dd ds bs ss fs H) (e : Ex H H') : K13 Cs p lr lb h c dd ds bs ss fs H' := ⟨S.s.ex' e, S.f.ex' e⟩
theorem K13.exh {p : Int} {lr lb h c dd : Addr} {ds bs : List Addr} {ss : List Bg} {fs : Fs} {H H' : Hp} (S : K13 Cs p lr lb h c dd ds bs ss fs H) (e : ExB h H H') (hh : HandAt H' h c) : K13 Cs p lr lb h c dd ds bs ss fs H' :=
  ⟨S.s.exh e hh, e _ _ (ne_of S.f.d S.s.hh.kind.choose_spec (fun z => nomatch z)) S.f.d, fun z hz => e _ _ (ne_of (S.f.b z hz) S.s.hh.kind.choose_spec (fun z => nomatch z)) (S.f.b z hz)⟩
theorem K13.bags {p : Int} {lr lb h c dd : Addr} {ds bs : List Addr} {ss : List Bg} {fs : Fs} {H : Hp} (S : K13 Cs p lr lb h c dd ds bs ss fs H) : BagsAt K Cs H lb p ss := ⟨bs, .inl (SqL.of S.s.b), S.s.y⟩
theorem fin_leads {p : Int} {ss res fin : List Bg} {n L : Nat} (f : BasF p L ss res fin n) : ∀ l ∈ res.map lead, l ∈ fin.map lead := fun l hl => by
  rw [f.lds]
  exact (ordW_perm _).mem_iff.mpr hl
theorem lenU12 : lenU 12 ≤ 3000000 := by decide +kernel
theorem g_rest {H : Hp} {Q : VK} {E : XK} {a b : Addr} {p : Int} {ss res fin : List Bg} {s : Bg} {n : Nat} (hp : Prm p) (hb : BagsAt K Cs H a p ss) (hne : ss ≠ []) (hlen : ss.length ≤ 6) (hgb : ∀ s ∈ ss, Good p s ∧ Bd 12 s) (fB : BasF p 12 ss res fin n)
    (hbag : BagAt Cs H b p s) (g : Good p s) (d : Bd 12 s) (k : ∀ x s' H', Ex H H' → Nf p 12 res s s' → BagAt Cs H' x p s' → Q (.ref x) H') : sp_rest K Cs [.ref a, .ref b] H Q E := by
  have hL1 : 12 ≤ 1000000 := by decide
  obtain ⟨m, s', h1, h2⟩ := red_nf hp lenU12 hL1 (B := fin) (C := res) fB.nrm (fin_leads fB) fB.bas g d
  exact ⟨a, b, p, ss, res, fin, s, s', n, m, 12, rfl, hb, hne, hlen, fun s hs => Fit.of lenU12 hL1 (hgb s hs).1 (hgb s hs).2, fB, hp, lenU12, hL1, hbag, Fit.of lenU12 hL1 g d, h1, Fit.of lenU12 hL1 h2.g h2.b, fun x H' e hx => k x s' H' e h2 hx⟩
theorem lot_bd {p : Int} {s : Bg} {a b : Nat} (h : Lot p s a b) (hb : b ≤ 12) : Bd 12 s := fun u hu => ⟨Nat.le_trans (h.l u hu).1 hb, isW_ltr (h.l u hu).2⟩
theorem no_gb {p : Int} : GB p [] := ⟨fun b hb => absurd hb List.not_mem_nil, fun b hb => absurd hb List.not_mem_nil⟩
/-- a row of nothing alone -/
theorem no_base {p : Int} : BasF p 12 [[]] [] [] 0 := ⟨by rw [show ([[]] : List Bg).filter (fun b => !decide (b = [])) = [] from by simp]; exact .stop, (fun _ h => nomatch h), .nil, by decide, fun s hs => by rw [List.mem_singleton.mp hs]; exact In.nil, by
  rw [show sortR (rowsOf []) = [] from by simp [sortR, rowsOf]]
  exact .stop rfl ⟨fun _ h => nomatch h⟩, by simp [ordW], fun _ h => nomatch h⟩
theorem nf_lot {p : Int} {res : List Bg} {s s' : Bg} (h : Nf p 12 res s s') : Lot p s' 797161 12 := ⟨h.g, Nat.le_trans (h.b.len h.g.nd) (by decide +kernel), fun u hu => ⟨(h.b u hu).1, ltr_isW (h.b u hu).2⟩⟩
theorem g_bne' (T : Txt K mg C_Bag Cs) {H : Hp} {x y : Addr} {p : Int} {s t : Bg} {Q : VK} (hx : BagAt Cs H x p s) (hy : BagAt Cs H y p t) (e : wordsS s = wordsS t) (h : Q (.bl false) H) : rBagEq K (sp_bag_eq K C_Bag Cs) Cs true (.ref x) (.ref y) H Q := by
  refine g_beq T hx hy ?_
  rw [if_pos rfl, decide_eq_true rfl, decide_eq_true e]
  exact h
theorem nf_words {p : Int} {res : List Bg} {b1 b2 c1 c2 : Bg} (hp : 0 < p) (G : GB p res) (h1 : Nf p 12 res b1 c1) (h2 : Nf p 12 res b2 c2) (hd : Dif p res b1 b2) : wordsS c1 = wordsS c2 := wordsS_congr h1.g h2.g (Nf.uniq hp G h1 h2 hd)
theorem ok_law {f : Addr} {fd : FuncData} (F : Fun K "law" "law" s_law f fd) (T : Txt K mg C_Bag Cs) (D_law_hand : DefOk P w K mg base CX0 1 "_law_hand" ["_law_script"] (sp_law_hand K))
    (D_law_clock : DefOk P w K mg base CX0 2 "_law_clock" ["_law_hand_here"] sp_law_clock) (D_law_row : DefOk P w K mg base CX0 5 "_law_row" ["_law_hand_here", "_law_clock_here"] sp_law_row) (D_law_lot : DefOk P w K mg base CX0 3 "_law_lot" ["_law_hand_here", "_law_clock_here", "_law_letters", "_law_most", "_law_many"] sp_law_lot) (D_law_part : DefOk P w K mg base CX0 4 "_law_part" ["_law_hand_here", "_law_clock_here"] sp_law_part)
    (D_law_is : DefOk P w K mg base CX0 3 "_law_is" ["_law_told", "_law_clock_here", "_law_bag"] (sp_law_is Cs)) (D_law_reduced : DefOk P w K mg base CX0 3 "_law_reduced" ["_law_clock_here", "_law_heads", "_law_bag"] sp_law_reduced) (D_law_base : DefOk P w K mg base CX0 4 "_law_base" ["_law_clock_here", "_law_rows"] (sp_law_base K))
    (D_law_sum : DefOk P w K mg base CX0 3 "_law_sum" ["_law_clock_here", "_law_rows", "_law_bags"] sp_law_sum) (D_law_small : DefOk P w K mg base CX0 2 "_law_small" ["_law_hand_here", "_law_clock_here"] sp_law_small) (D_law_plus : DefOk P w K mg base CX0 2 "_law_plus" ["_law_clock_here", "_law_one", "_law_other", "_law_factor"] sp_law_plus)
    (D_mk_Bag : MkOk P w K mg base CX0 6 "Bag" C_Bag ["self", "clock", "words"] (sp_bag_init C_Bag Cs)) (D_eq : EqOk P w K mg base C_Bag Cs) (D_rest : DefOk P w K mg base CX0 12 "rest" ["row", "bag"] (sp_rest K Cs)) (D_together : DefOk P w K mg base CX0 9 "together" ["one", "other"] (sp_sum 1 Cs)) :
    FnOk P w K mg base CX0 13 f fd ["_law_script"] (sp_law K) := by
  refine F.ok sc_law (fun vs H Q E h => ?_) (fun cdv A outer s H vs Q E hr h => ?_)
  · obtain ⟨a, ns, rfl, _⟩ := h
    rfl
  · obtain ⟨a, ns, rfl, hs, k⟩ := h
    have hu64 := L2.Room.units hr
    have hu := hu_of hr; have hu64 := L2.Room.units hr; refine ⟨_, (pss_cons (ps_set (i := 1) sc_law.nd rfl (by first | exact Or.inl rfl | exact Or.inr rfl) (pe_callD D_law_hand (hr.mono (by decide)) rfl pass0 (pa_cons (pv 0) pa_nil))) (pss_cons (ps_for PassesOwn.never rfl (pi_range1 rfl T.b_range (pa_cons pe_int pa_nil)) (pg_name (i := 2) sc_law.nd rfl (by first | exact Or.inl rfl | exact Or.inr rfl)) (pss_cons (ps_set (i := 3) sc_law.nd rfl (by first | exact Or.inl rfl | exact Or.inr rfl) (pe_callD D_law_clock (hr.mono (by decide)) rfl pass0 (pa_cons (pv 1) pa_nil))) (pss_cons (ps_set (i := 4) sc_law.nd rfl (by first | exact Or.inl rfl | exact Or.inr rfl) (pe_callD D_law_row (hr.mono (by decide)) rfl pass0 (pa_cons (pv 1) (pa_cons (pv 3) pa_nil)))) (pss_cons (ps_setLc (i := 5) (own := [("_law_words_here", 6)]) (g := (gName 6)) (tt := tYes) rfl sc_law.nd rfl rfl rfl (pi_list (pv 4)) (blkOk_by (N := N_law) (sc := defScope s_law) (by decide +kernel)) (fun _ _ _ _ _ => (pg_name (i := 6) sc_law.nd rfl (by first | exact Or.inl rfl | exact Or.inr rfl))) (fun _ _ _ _ _ => pts_nil) (fun _ _ _ _ _ => (pe_mkD D_mk_Bag (hr.mono (by decide)) rfl pass0 (pa_cons (pv 3) (pa_cons (pv 6) pa_nil))))) (pss_cons (ps_set (i := 7) sc_law.nd rfl (by first | exact Or.inl rfl | exact Or.inr rfl) (pe_callD D_law_base (hr.mono (by decide)) rfl pass0 (pa_cons (pv 3) (pa_cons (pv 4) pa_nil)))) (pss_cons (ps_set (i := 8) sc_law.nd rfl (by first | exact Or.inl rfl | exact Or.inr rfl) (pe_callD D_law_lot (hr.mono (by decide)) rfl pass0 (pa_cons (pv 1) (pa_cons (pv 3) (pa_cons pe_str (pa_cons pe_int (pa_cons pe_int pa_nil))))))) (pss_cons (ps_set (i := 9) sc_law.nd rfl (by first | exact Or.inl rfl | exact Or.inr rfl) (pe_callD D_law_part (hr.mono (by decide)) rfl pass0 (pa_cons (pv 1) (pa_cons (pv 3) pa_nil)))) (pss_cons (ps_set (i := 10) sc_law.nd rfl (by first | exact Or.inl rfl | exact Or.inr rfl) (pe_callD D_rest (hr.mono (by decide)) rfl pass0 (pa_cons (pv 5) (pa_cons (pe_mkD D_mk_Bag (hr.mono (by decide)) rfl pass0 (pa_cons (pv 3) (pa_cons (pv 8) pa_nil))) pa_nil)))) (pss_cons (ps_if (PW.pt (pw_or (pt_not (pt_val (pe_callD D_law_is (hr.mono (by decide)) rfl pass0 (pa_cons (pv 10) (pa_cons (pv 3) (pa_cons (pe_callD D_law_reduced (hr.mono (by decide)) rfl pass0 (pa_cons (pv 3) (pa_cons (pv 7) (pa_cons (pv 8) pa_nil)))) pa_nil)))))) (pw_or1 (pt_cmpR (r := rBagEq K (sp_bag_eq K C_Bag Cs) Cs true) (op_neBagD D_eq (hr.mono (by decide))) (pe_callD D_rest (hr.mono (by decide)) rfl pass0 (pa_cons (pe_callTy (r := rTupleZ K) call_tupleZ (by rfl) T.b_tuple (by decide +kernel) (pa_cons (pv 5) pa_nil)) (pa_cons (pv 10) pa_nil))) (pv 10) (nomark _))))) (pss_one (ps_ret pe_bl)) pss_nil) (pss_cons (ps_set (i := 11) sc_law.nd rfl (by first | exact Or.inl rfl | exact Or.inr rfl) (pe_callD D_law_sum (hr.mono (by decide)) rfl pass0 (pa_cons (pv 3) (pa_cons (pv 4) (pa_cons (pe_lc (own := [("_law_step", 12)]) (g := (gName 12)) (tt := tYes) rfl sc_law.nd (pi_list (pv 4)) (blkOk_by (N := N_law) (sc := defScope s_law) (by decide +kernel)) (fun _ _ _ _ _ => (pg_name (i := 12) sc_law.nd rfl (by first | exact Or.inl rfl | exact Or.inr rfl))) (fun _ _ _ _ _ => pts_nil) (fun _ _ _ _ _ => (pe_callD D_law_small (hr.mono (by decide)) rfl pass0 (pa_cons (pv 1) (pa_cons (pv 3) pa_nil))))) pa_nil))))) (pss_cons (ps_if (pt_cmpR (r := rBagEq K (sp_bag_eq K C_Bag Cs) Cs true) (op_neBagD D_eq (hr.mono (by decide))) (pe_callD D_rest (hr.mono (by decide)) rfl pass0 (pa_cons (pv 5) (pa_cons (pe_mkD D_mk_Bag (hr.mono (by decide)) rfl pass0 (pa_cons (pv 3) (pa_cons (pe_callD D_law_plus (hr.mono (by decide)) rfl pass0 (pa_cons (pv 3) (pa_cons (pv 8) (pa_cons (pv 11) (pa_cons pe_int pa_nil))))) pa_nil))) pa_nil))) (pv 10) (nomark _)) (pss_one (ps_ret pe_bl)) pss_nil) (pss_cons (ps_if (pt_cmpR (r := rBagEq K (sp_bag_eq K C_Bag Cs) Cs true) (op_neBagD D_eq (hr.mono (by decide))) (pe_callD D_rest (hr.mono (by decide)) rfl pass0 (pa_cons (pv 5) (pa_cons (pe_mkD D_mk_Bag (hr.mono (by decide)) rfl pass0 (pa_cons (pv 3) (pa_cons (pv 11) pa_nil))) pa_nil))) (pe_mkD D_mk_Bag (hr.mono (by decide)) rfl pass0 (pa_cons (pv 3) (pa_cons pe_dnewK pa_nil))) (nomark _)) (pss_one (ps_ret pe_bl)) pss_nil) (pss_cons (ps_set (i := 13) sc_law.nd rfl (by first | exact Or.inl rfl | exact Or.inr rfl) (pe_callD D_rest (hr.mono (by decide)) rfl pass0 (pa_cons (pv 5) (pa_cons (pe_mkD D_mk_Bag (hr.mono (by decide)) rfl pass0 (pa_cons (pv 3) (pa_cons (pv 9) pa_nil))) pa_nil)))) (pss_cons (ps_if (pt_cmpR (r := rBagEq K (sp_bag_eq K C_Bag Cs) Cs true) (op_neBagD D_eq (hr.mono (by decide))) (pe_callD D_rest (hr.mono (by decide)) rfl pass0 (pa_cons (pv 5) (pa_cons (pe_callD D_together (hr.mono (by decide)) rfl pass0 (pa_cons (pe_mkD D_mk_Bag (hr.mono (by decide)) rfl pass0 (pa_cons (pv 3) (pa_cons (pv 8) pa_nil))) (pa_cons (pe_mkD D_mk_Bag (hr.mono (by decide)) rfl pass0 (pa_cons (pv 3) (pa_cons (pv 9) pa_nil))) pa_nil))) pa_nil))) (pe_callD D_together (hr.mono (by decide)) rfl pass0 (pa_cons (pv 10) (pa_cons (pv 13) pa_nil))) (nomark _)) (pss_one (ps_ret pe_bl)) pss_nil) (pss_one (ps_if (pt_cmpR (r := rBagEq K (sp_bag_eq K C_Bag Cs) Cs true) (op_neBagD D_eq (hr.mono (by decide))) (pe_callD D_rest (hr.mono (by decide)) rfl pass0 (pa_cons (pe_lst (pa_cons (pe_mkD D_mk_Bag (hr.mono (by decide)) rfl pass0 (pa_cons (pv 3) (pa_cons pe_dnewK pa_nil))) pa_nil)) (pa_cons (pe_mkD D_mk_Bag (hr.mono (by decide)) rfl pass0 (pa_cons (pv 3) (pa_cons (pv 8) pa_nil))) pa_nil))) (pe_mkD D_mk_Bag (hr.mono (by decide)) rfl pass0 (pa_cons (pv 3) (pa_cons (pv 8) pa_nil))) (nomark _)) (pss_one (ps_ret pe_bl)) pss_nil)))))))))))))))) (pss_one (ps_ret pe_bl)))), ?_⟩; rw [st_law]; (try dsimp only [cxOf]); walk_at "go"
    refine ⟨a, ns, rfl, hs, fun h c H1 e1 hn1 hh1 => ?_⟩
    walk_at "go"
    refine ⟨by decide, by decide, ?_⟩
    refine forG walk_range (fun i σ' H' => (∃ y2 y3 y4 y5 y6 y7 y8 y9 y10 y11 y12 y13, σ' = [some (.ref a), some (.ref h), y2, y3, y4, y5, y6, y7, y8, y9, y10, y11, y12, y13]) ∧ HandAt H' h c) ⟨⟨_, _, _, _, _, _, _, _, _, _, _, _, rfl⟩, hh1⟩ (fun _ _ _ _ _ => trivial) ?_ ?_
    rotate_left
    · rintro σ' H2 ⟨⟨y2, y3, y4, y5, y6, y7, y8, y9, y10, y11, y12, y13, rfl⟩, _⟩
      walk_at "go"
      exact k _
    rintro i x σ' H2 H2' hi ⟨⟨y2, y3, y4, y5, y6, y7, y8, y9, y10, y11, y12, y13, rfl⟩, hh2⟩ ⟨rfl, rfl⟩
    clear hh1
    walk_at "go"
    refine ⟨h, c, rfl, hh2, fun p H3 hp e3 hh3 => ?_⟩
    replace hp : Clk p := hp
    have hpm : Prm p := hp
    have hp2 := hp.lo
    have hp7 := hp.hi
    have hp0 : 0 < p := by omega
    walk_at "go"
    refine ⟨h, c, p, rfl, hh3, hp2, by omega, fun lr ds ss H4 e4 hlr hds hss hmany hne hlen hh4 => ?_⟩
    have hdl := hds.length
    have hL1 : 12 ≤ 1000000 := by decide
    have hgb : ∀ s ∈ ss, Good p s ∧ Bd 12 s := fun s hs => ⟨(hss s hs).g, lot_bd (hss s hs) (by decide)⟩
    walk_at "go"
    refine ⟨⟨_, SqL.of hlr⟩, ?_⟩
    refine lc_relL walk_list ss (by rw [List.length_map, hdl]) (by rw [List.length_map, hdl]; exact line5 (by omega)) (fun H' e => SqL.of (e _ _ hlr)) (fun s y H => ∃ x, y = V.ref x ∧ BagAt Cs H x p s) (fun s y H H' e ⟨x, h1, h2⟩ => ⟨x, h1, h2.exl e⟩) (fun _ => rfl) ?_ ?_
    · rintro i x s H5 H5' Kc hi e5 ⟨rfl, hx⟩ hs5 hk
      rw [List.getElem?_map] at hx
      cases hq : ds[i]? with
      | none => rw [hq] at hx; cases hx
      | some d =>
        rw [hq] at hx
        cases Option.some.inj hx
        obtain ⟨s', hs', hd⟩ := paired_get hds hq
        rw [hs5] at hs'
        cases Option.some.inj hs'
        walk_at "go"
        refine g_mkBag hp (e5 _ _ hd) ((hss s (List.mem_of_getElem? hs5)).mono (by decide) (by decide)) fun x H8 e8 hx hb => ?_
        exact hk _ _ e8 ⟨x, rfl, hb⟩
    intro lb H5 ys hlbn e5 hlb hyb
    obtain ⟨bs, rfl, hbs⟩ := paired_refs hyb
    have S5 : RowK Cs p lr lb h c ds bs ss H5 := ⟨e5 _ _ hlr, hlb, Paired.mapP hds fun _ _ z => e5 _ _ z, hbs, hh4.ex' e5⟩
    clear hyb hbs hlb hlr hds e3 hh3 hh2 hh4 e4 e5
    obtain ⟨res, fin, n, fB⟩ := base_facts hpm lenU12 hL1 hgb
    have hG := GB.of fB.bas fB.pfl
    have hCn : ∀ b ∈ res, (keys b).Nodup := fun b hb => (fB.bas b hb).g.nd
    walk_at "go"
    refine ⟨p, lr, ds, ss, res, 12, n, rfl, SqL.of S5.r, S5.d, fun s hs => Fit.of lenU12 hL1 (hgb s hs).1 (hgb s hs).2, by omega, fB.led, hpm, fB.bas, fB.pfl, lenU12, hL1, fun dd fs H6 e6 hdd hfs6 hfl hfn => ?_⟩
    have S6 : K13 Cs p lr lb h c dd ds bs ss fs H6 := ⟨S5.ex' e6, hfs6⟩
    clear S5 e6 hdd hfs6
    walk_at "go"
    refine ⟨h, c, p, "xyz", 5, 6, rfl, S6.s.hh, hp2, by omega, by decide, by decide, by decide +kernel, by decide, by decide, fun d1 s1 H7 e7 _ hd1 l1 hh7 => ?_⟩
    have S7 := S6.exh e7 hh7
    clear S6 e7
    walk_at "go"
    refine ⟨h, c, p, rfl, S7.s.hh, hp2, by omega, fun d2 s2 H8 e8 _ hd2 l2 hh8 => ?_⟩
    have S8 := S7.exh e8 hh8
    have hd1 := dkx e8 S7.s.hh hd1
    have b1 := lot_bd l1 (by decide)
    have b2 := lot_bd l2 (by decide)
    clear S7 e8
    walk_at "go"
    refine g_mkBag hp hd1 (l1.mono (by decide) (by decide)) fun x1 H9 e9 _ hx1 => ?_
    have S9 := S8.ex' e9
    have hd1 := e9 _ _ hd1
    have hd2 := e9 _ _ hd2
    clear S8 e9
    walk_at "go"
    refine g_rest hpm S9.bags hne hlen hgb fB hx1 l1.g b1 fun x2 t1 H10 e10 n1 hx2 => ?_
    have S10 := S9.ex' e10
    have hd1 := e10 _ _ hd1
    have hd2 := e10 _ _ hd2
    clear S9 e10 hx1
    walk_at "go"
    obtain ⟨m2, t2, hr2, n2⟩ := red_nf hpm lenU12 hL1 (B := fs.map Prod.fst) (C := res) (fun b hb => by obtain ⟨z, hz, rfl⟩ := List.mem_map.mp hb; exact hfn z hz) (fun l' hl' => by rw [List.map_map]; exact hfl ▸ hl') fB.bas l1.g b1
    have hfsl : fs.length = res.length := by
      have := congrArg List.length hfl
      rwa [List.length_map, List.length_map] at this
    have hresl := fB.len
    refine ⟨p, dd, d1, fs.map Prod.fst, s1, t2, m2, rfl, S10.f.heads, fun b hb => ?_, by rw [List.length_map]; omega, hd1, Fit.of lenU12 hL1 l1.g b1, hr2, hpm, fun x3 H11 e11 _ hx3 => ?_⟩
    · obtain ⟨z, hz, rfl⟩ := List.mem_map.mp hb
      exact ⟨Fit.of lenU12 hL1 (hfn z hz).s.g (hfn z hz).s.b, (hfn z hz).s.n⟩
    have S11 := S10.ex' e11
    have hd1 := e11 _ _ hd1
    have hd2 := e11 _ _ hd2
    have hx2 := hx2.ex' e11
    clear S10 e11
    walk_at "go"
    refine ⟨x2, x3, p, p, t2, t1, rfl, hx2, .inl hx3, Nat.le_trans (n2.b.len n2.g.nd) (by decide +kernel), fun u hu => Nat.le_trans (n2.b u hu).1 (by decide), n2.g.nd, fun H12 e12 => ?_⟩
    have S12 := S11.ex' e12
    have hd1 := e12 _ _ hd1
    have hd2 := e12 _ _ hd2
    have hx2 := hx2.ex' e12
    clear S11 e12 hx3
    rw [decide_eq_true rfl, decide_eq_true (nf_words hp0 hG n1 n2 (Dif.refl _))]
    walk_at "go"
    rw [if_neg (by decide)]
    walk_at "go"
    refine ⟨lb, _, rfl, SqL.of S12.s.b, fun t o ht ho => ?_⟩
    have e13 := Ex.new (o := .frz o (.tup (bs.map V.ref))) ht
    have ht13 := upd_same (H := H12) (a := t) (o := .frz o (.tup (bs.map V.ref)))
    generalize upd H12 t (.frz o (.tup (bs.map V.ref))) = H13 at e13 ht13 ⊢
    have S13 := S12.ex' e13
    have hd1 := e13 _ _ hd1
    have hd2 := e13 _ _ hd2
    have hx2 := hx2.ex' e13
    clear S12 e13
    walk_at "go"
    refine g_rest hpm ⟨bs, .inr (.inl (.inr ⟨o, ht13⟩)), S13.s.y⟩ hne hlen hgb fB hx2 n1.g n1.b fun x4 t4 H14 e14 n4 hx4 => ?_
    have S14 := S13.ex' e14
    have hd1 := e14 _ _ hd1
    have hd2 := e14 _ _ hd2
    have hx2 := hx2.ex' e14
    clear S13 e14 ht13
    walk_at "go"
    refine g_bne' T hx4 hx2 (nf_words hp0 hG n4 n1.self (Dif.refl _)) ?_
    walk_at "go"
    clear hx4 n4
    refine ⟨⟨_, SqL.of S14.s.r⟩, ?_⟩
    have hlrh : lr ≠ h := hand_ne S14.s.hh S14.s.r
    refine lc_mutR (f := h) walk_list S14.s.hh.kind.choose_spec (by rw [List.length_map, hdl]; exact line5 (by omega)) (fun H => HandAt H h c) S14.s.hh (fun H D o hD hh => hh.upd (S14.s.hh.new hD).1 (S14.s.hh.new hD).2) (fun H' e' _ => SqL.of (e' _ _ hlrh S14.s.r)) (fun _ y H => ∃ d s, y = V.ref d ∧ H d = some (.dK (toK s)) ∧ Lot p s 3 2)
      (fun _ y H H' e hh ⟨d, s, h1, h2, h3⟩ => ⟨d, s, h1, e _ _ (ne_of h2 hh.kind.choose_spec (fun z => nomatch z)) h2, h3⟩) (fun _ y H D ys zs hD ⟨d, s, h1, h2, h3⟩ => ⟨d, s, h1, by rw [upd_ne (ne_of h2 hD (fun z => nomatch z))]; exact h2, h3⟩) (fun _ => rfl) ?_ ?_
    · rintro i x H15 H15' Kc hi e15 hh15 ⟨rfl, hx⟩ hk
      walk_at "go"
      refine ⟨h, c, p, rfl, hh15, hp2, by omega, fun d0 s0 H16 e16 hd0n hd0 hl0 hh16 => ?_⟩
      exact hk _ _ e16 hh16 ⟨d0, s0, rfl, hd0, hl0⟩
    intro lm H15 ys hlmn e15 hh15 hlm hyl hys
    obtain ⟨ms, tt, rfl, hpp⟩ := paired_all (F := fun d s => H15 d = some (.dK (toK s)) ∧ Lot p s 3 2) hys
    have hml := hpp.length
    rw [List.length_map, List.length_map, hdl] at hyl
    have S15 := S14.exh e15 hh15
    have hd1 := dkx e15 S14.s.hh hd1
    have hd2 := dkx e15 S14.s.hh hd2
    have hx2 := hx2.exh e15 S14.s.hh.kind.choose_spec
    clear S14 hys e15
    have hz1 : (ss.zip tt).map Prod.fst = ss := List.map_fst_zip (by omega)
    have hz2 : (ss.zip tt).map Prod.snd = tt := List.map_snd_zip (by omega)
    have hzl : ∀ z ∈ ss.zip tt, Lot p z.1 100 8 ∧ Lot p z.2 3 2 := fun z hz => by
      obtain ⟨h1, h2⟩ := List.of_mem_zip hz
      obtain ⟨d, _, h3⟩ := paired_mem2 hpp h2
      exact ⟨hss _ h1, h3.2⟩
    have lm1 : Lot p (sumZ p (ss.zip tt)) 288 10 := by
      have := sumZ_lot hp0 hzl
      rw [hz1] at this
      exact this.mono (by omega) (by decide)
    have hin : In p res (sumZ p (ss.zip tt)) := sumZ_in hp0 hCn fun z hz => ⟨(hzl z hz).1.g, fB.inn _ (List.of_mem_zip hz).1⟩
    walk_at "go"
    refine ⟨p, lr, lm, ds, ms, ss.zip tt, rfl, S15.s.r, hlm, by rw [hz1]; exact S15.s.d, by rw [hz2]; exact Paired.mapP hpp fun _ _ z => z.1, fun z hz => ⟨(hzl z hz).1.mono (by decide) (by decide), (hzl z hz).2.mono (by decide) (by decide)⟩, by rw [List.length_zip]; omega, hp0, by omega, fun dm H16 e16 _ hdm => ?_⟩
    have S16 := S15.ex' e16
    have hd1 := e16 _ _ hd1
    have hd2 := e16 _ _ hd2
    have hx2 := hx2.ex' e16
    clear S15 e16 hpp hlm hlmn hh15
    generalize sumZ p (ss.zip tt) = sm at lm1 hin hdm
    clear hz1 hz2 hzl
    have n1' := l1.n
    have nm := lm1.n
    walk_at "go"
    refine ⟨p, d1, dm, s1, sm, 1, rfl, .inl hd1, .inl hdm, lm1.g.nd, by omega, hp0, by decide, fun dp H17 e17 _ hdp => ?_⟩
    have S17 := S16.ex' e17
    have hd1 := e17 _ _ hd1
    have hd2 := e17 _ _ hd2
    have hdm := e17 _ _ hdm
    have hx2 := hx2.ex' e17
    have lp : Lot p (plusS p s1 sm 1) 300 10 := (Lot.plus hp0 l1 lm1 (by decide) (Nat.le_refl _)).mono (by decide) (Nat.le_refl _)
    clear S16 e17
    walk_at "go"
    refine g_mkBag hp hdp (lp.mono (by decide) (by decide)) fun x5 H18 e18 _ hx5 => ?_
    have S18 := S17.ex' e18
    have hd1 := e18 _ _ hd1
    have hd2 := e18 _ _ hd2
    have hdm := e18 _ _ hdm
    have hx2 := hx2.ex' e18
    clear S17 e18 hdp
    walk_at "go"
    refine g_rest hpm S18.bags hne hlen hgb fB hx5 lp.g (lot_bd lp (by decide)) fun x6 t6 H19 e19 n6 hx6 => ?_
    have S19 := S18.ex' e19
    have hd1 := e19 _ _ hd1
    have hd2 := e19 _ _ hd2
    have hdm := e19 _ _ hdm
    have hx2 := hx2.ex' e19
    clear S18 e19 hx5
    walk_at "go"
    refine g_bne' T hx6 hx2 (nf_words hp0 hG n6 n1 (Dif.more hp0 l1.g lm1.g.nd hin 1)) ?_
    walk_at "go"
    clear hx6 n6
    refine g_mkBag hp hdm (lm1.mono (by decide) (by decide)) fun x7 H20 e20 _ hx7 => ?_
    have S20 := S19.ex' e20
    have hd1 := e20 _ _ hd1
    have hd2 := e20 _ _ hd2
    have hx2 := hx2.ex' e20
    clear S19 e20 hdm
    walk_at "go"
    refine g_rest hpm S20.bags hne hlen hgb fB hx7 lm1.g (lot_bd lm1 (by decide)) fun x8 t8 H21 e21 n8 hx8 => ?_
    have S21 := S20.ex' e21
    have hd1 := e21 _ _ hd1
    have hd2 := e21 _ _ hd2
    have hx2 := hx2.ex' e21
    clear S20 e21 hx7
    walk_at "go"
    intro d9 hd9
    have e22 := Ex.new (o := .dK []) hd9
    have hd99 := upd_same (H := H21) (a := d9) (o := .dK [])
    generalize upd H21 d9 (.dK []) = H22 at e22 hd99 ⊢
    walk_at "go"
    refine g_mkBag (s := []) hp hd99 Lot.nil fun x9 H23 e23 _ hx9 => ?_
    have S23 := (S21.ex' e22).ex' e23
    have hd1 := e23 _ _ (e22 _ _ hd1)
    have hd2 := e23 _ _ (e22 _ _ hd2)
    have hx2 := (hx2.ex' e22).ex' e23
    have hx8 := (hx8.ex' e22).ex' e23
    clear S21 e22 e23 hd99 hd9
    refine g_bne' T hx8 hx9 (nf_words hp0 hG n8 (Nf.nil hin) (Dif.refl _)) ?_
    walk_at "go"
    clear hx8 hx9 n8
    refine g_mkBag hp hd2 (l2.mono (by decide) (by decide)) fun y1 H24 e24 _ hy1 => ?_
    have S24 := S23.ex' e24
    have hd1 := e24 _ _ hd1
    have hd2 := e24 _ _ hd2
    have hx2 := hx2.ex' e24
    clear S23 e24
    walk_at "go"
    refine g_rest hpm S24.bags hne hlen hgb fB hy1 l2.g b2 fun y2' u2 H25 e25 m2' hy2 => ?_
    have S25 := S24.ex' e25
    have hd1 := e25 _ _ hd1
    have hd2 := e25 _ _ hd2
    have hx2 := hx2.ex' e25
    clear S24 e25 hy1
    walk_at "go"
    refine g_mkBag hp hd1 (l1.mono (by decide) (by decide)) fun y3' H26 e26 _ hy3 => ?_
    have S26 := S25.ex' e26
    have hd1 := e26 _ _ hd1
    have hd2 := e26 _ _ hd2
    have hx2 := hx2.ex' e26
    have hy2 := hy2.ex' e26
    clear S25 e26
    walk_at "go"
    refine g_mkBag hp hd2 (l2.mono (by decide) (by decide)) fun y4' H27 e27 _ hy4 => ?_
    have S27 := S26.ex' e27
    have hd1 := e27 _ _ hd1
    have hx2 := hx2.ex' e27
    have hy2 := hy2.ex' e27
    have hy3 := hy3.ex' e27
    clear S26 e27 hd2
    walk_at "go"
    refine ⟨y3', y4', p, s1, s2, 6, 5, 8, 4, rfl, hy3, hy4, l1, l2, by decide, by decide, by decide, hp0, fun y5' H28 e28 _ hy5 => ?_⟩
    have S28 := S27.ex' e28
    have hd1 := e28 _ _ hd1
    have hx2 := hx2.ex' e28
    have hy2 := hy2.ex' e28
    have l12 : Lot p (plusS p s1 s2 1) (6 + 8) 5 := Lot.plus hp0 l1 l2 (by decide) (by decide)
    clear S27 e28 hy3 hy4
    walk_at "go"
    refine g_rest hpm S28.bags hne hlen hgb fB hy5 l12.g (lot_bd l12 (by decide)) fun y6' u6 H29 e29 m6 hy6 => ?_
    have S29 := S28.ex' e29
    have hd1 := e29 _ _ hd1
    have hx2 := hx2.ex' e29
    have hy2 := hy2.ex' e29
    clear S28 e29 hy5
    walk_at "go"
    refine ⟨x2, y2', p, t1, u2, 797161, 12, 797161, 12, rfl, hx2, hy2, nf_lot n1, nf_lot m2', by decide, by decide, by decide, hp0, fun y7' H30 e30 _ hy7 => ?_⟩
    have S30 := S29.ex' e30
    have hd1 := e30 _ _ hd1
    have hy6 := hy6.ex' e30
    clear S29 e30 hx2 hy2
    refine g_bne' T hy6 hy7 (nf_words hp0 hG m6 (Nf.plus hp0 l1.g l2.g.nd n1 m2') (Dif.refl _)) ?_
    walk_at "go"
    clear hy6 hy7 m6
    intro d9 hd9
    have e31 := Ex.new (o := .dK []) hd9
    have hd99 := upd_same (H := H30) (a := d9) (o := .dK [])
    generalize upd H30 d9 (.dK []) = H31 at e31 hd99 ⊢
    walk_at "go"
    refine g_mkBag (s := []) hp hd99 Lot.nil fun z1 H32 e32 _ hz1 => ?_
    walk_at "go"
    refine ⟨Nat.le_of_ble_eq_true rfl, fun q hq => ?_⟩
    have e33 := Ex.new (o := .lst [V.ref z1]) hq
    have hq33 := upd_same (H := H32) (a := q) (o := .lst [V.ref z1])
    generalize upd H32 q (.lst [V.ref z1]) = H33 at e33 hq33 ⊢
    have S33 := ((S30.ex' e31).ex' e32).ex' e33
    have hd1 := e33 _ _ (e32 _ _ (e31 _ _ hd1))
    have hz1 := hz1.ex' e33
    clear S30 e31 e32 e33 hd99 hd9 hq
    walk_at "go"
    refine g_mkBag hp hd1 (l1.mono (by decide) (by decide)) fun z2 H34 e34 _ hz2 => ?_
    have S34 := S33.ex' e34
    have hd1 := e34 _ _ hd1
    have hz1 := hz1.ex' e34
    have hq34 := e34 _ _ hq33
    clear S33 e34 hq33
    walk_at "go"
    refine g_rest hpm (ss := [[]]) ⟨[z1], .inl (SqL.of hq34), .cons hz1 .nil⟩ (by simp) (by decide) (fun s hs => by rw [List.mem_singleton.mp hs]; exact ⟨Good.nil, fun _ h => nomatch h⟩) no_base hz2 l1.g b1 fun z3 v3 H35 e35 m3 hz3 => ?_
    have S35 := S34.ex' e35
    have hd1 := e35 _ _ hd1
    clear S34 e35 hq34 hz1 hz2
    walk_at "go"
    refine g_mkBag hp hd1 (l1.mono (by decide) (by decide)) fun z4 H36 e36 _ hz4 => ?_
    have S36 := S35.ex' e36
    have hz3 := hz3.ex' e36
    refine g_bne' T hz3 hz4 (nf_words hp0 no_gb m3 ⟨l1.g, b1, (fun _ _ _ h => nomatch h), Dif.refl s1⟩ (Dif.refl _)) ?_
    walk_at "go"
    exact ⟨⟨_, _, _, _, _, _, _, _, _, _, _, _, rfl⟩, S36.s.hh⟩

end
end Fp

namespace Fp
open PySem L2
theorem all_mk {l : PySem.W.OpenLaw} {w : World} {K : PySem.W.Frag} {h : Heap} {mg : Str → Option Value} {fa aC C_Bag C_RawBag f_law_hand f_law_draw f_law_clock f_law_word f_law_lot f_law_small f_law_put f_law_product f_law_part f_law_plus f_law_row f_law_order f_law_words f_law_is f_law_starts f_law_reduced f_law_plain f_law_base f_law_sum f_is_integer f_is_clock f_is_word f_is_short_word f_is_within f_are_words f_words_in_order f_Bag_keep f_Bag_init f_Bag_eq f_is_listed f_are_bags_alike f_check_row f_check_clocks f_RawBag_init f_raw f_is_idle f_first_word f_leading f_hit_by f_put_to f_added f_with_behind f_taken_off f_inverse f_scaled f_made_leading f_led_free f_ahead_key f_leading_key f_first_hit f_reduced f_reduced_base f_row_base f_rest f_together f_law : Addr} (X : K.In h) (G : h.Ns mainGlobals mg) (hfa : mg "law" = some (.ref fa))
    {od_law_hand an_law_hand : Option Addr} {sl_law_hand : Array (Option Value)} {oc_law_hand kV_law_hand dc_law_hand pm_law_hand cd_law_hand ct_law_hand : Value} {od_law_draw an_law_draw : Option Addr} {sl_law_draw : Array (Option Value)} {oc_law_draw kV_law_draw dc_law_draw pm_law_draw cd_law_draw ct_law_draw : Value} {od_law_clock an_law_clock : Option Addr} {sl_law_clock : Array (Option Value)} {oc_law_clock kV_law_clock dc_law_clock pm_law_clock cd_law_clock ct_law_clock : Value} {od_law_word an_law_word : Option Addr} {sl_law_word : Array (Option Value)} {oc_law_word kV_law_word dc_law_word pm_law_word cd_law_word ct_law_word : Value} {od_law_lot an_law_lot : Option Addr} {sl_law_lot : Array (Option Value)} {oc_law_lot kV_law_lot dc_law_lot pm_law_lot cd_law_lot ct_law_lot : Value} {od_law_small an_law_small : Option Addr} {sl_law_small : Array (Option Value)} {oc_law_small kV_law_small dc_law_small pm_law_small cd_law_small ct_law_small : Value} {od_law_put an_law_put : Option Addr} {sl_law_put : Array (Option Value)} {oc_law_put kV_law_put dc_law_put pm_law_put cd_law_put ct_law_put : Value} {od_law_product an_law_product : Option Addr} {sl_law_product : Array (Option Value)} {oc_law_product kV_law_product dc_law_product pm_law_product cd_law_product ct_law_product : Value} {od_law_part an_law_part : Option Addr} {sl_law_part : Array (Option Value)} {oc_law_part kV_law_part dc_law_part pm_law_part cd_law_part ct_law_part : Value} {od_law_plus an_law_plus : Option Addr} {sl_law_plus : Array (Option Value)} {oc_law_plus kV_law_plus dc_law_plus pm_law_plus cd_law_plus ct_law_plus : Value} {od_law_row an_law_row : Option Addr} {sl_law_row : Array (Option Value)} {oc_law_row kV_law_row dc_law_row pm_law_row cd_law_row ct_law_row : Value} {od_law_order an_law_order : Option Addr} {sl_law_order : Array (Option Value)} {oc_law_order kV_law_order dc_law_order pm_law_order cd_law_order ct_law_order : Value} {od_law_words an_law_words : Option Addr} {sl_law_words : Array (Option Value)} {oc_law_words kV_law_words dc_law_words pm_law_words cd_law_words ct_law_words : Value} {od_law_is an_law_is : Option Addr} {sl_law_is : Array (Option Value)} {oc_law_is kV_law_is dc_law_is pm_law_is cd_law_is ct_law_is : Value} {od_law_starts an_law_starts : Option Addr} {sl_law_starts : Array (Option Value)} {oc_law_starts kV_law_starts dc_law_starts pm_law_starts cd_law_starts ct_law_starts : Value} {od_law_reduced an_law_reduced : Option Addr} {sl_law_reduced : Array (Option Value)} {oc_law_reduced kV_law_reduced dc_law_reduced pm_law_reduced cd_law_reduced ct_law_reduced : Value} {od_law_plain an_law_plain : Option Addr} {sl_law_plain : Array (Option Value)} {oc_law_plain kV_law_plain dc_law_plain pm_law_plain cd_law_plain ct_law_plain : Value} {od_law_base an_law_base : Option Addr} {sl_law_base : Array (Option Value)} {oc_law_base kV_law_base dc_law_base pm_law_base cd_law_base ct_law_base : Value} {od_law_sum an_law_sum : Option Addr} {sl_law_sum : Array (Option Value)} {oc_law_sum kV_law_sum dc_law_sum pm_law_sum cd_law_sum ct_law_sum : Value} {od_is_integer an_is_integer : Option Addr} {sl_is_integer : Array (Option Value)} {oc_is_integer kV_is_integer dc_is_integer pm_is_integer cd_is_integer ct_is_integer : Value} {od_is_clock an_is_clock : Option Addr} {sl_is_clock : Array (Option Value)} {oc_is_clock kV_is_clock dc_is_clock pm_is_clock cd_is_clock ct_is_clock : Value} {od_is_word an_is_word : Option Addr} {sl_is_word : Array (Option Value)} {oc_is_word kV_is_word dc_is_word pm_is_word cd_is_word ct_is_word : Value} {od_is_short_word an_is_short_word : Option Addr} {sl_is_short_word : Array (Option Value)} {oc_is_short_word kV_is_short_word dc_is_short_word pm_is_short_word cd_is_short_word ct_is_short_word : Value} {od_is_within an_is_within : Option Addr} {sl_is_within : Array (Option Value)} {oc_is_within kV_is_within dc_is_within pm_is_within cd_is_within ct_is_within : Value} {od_are_words an_are_words : Option Addr} {sl_are_words : Array (Option Value)} {oc_are_words kV_are_words dc_are_words pm_are_words cd_are_words ct_are_words : Value} {od_words_in_order an_words_in_order : Option Addr} {sl_words_in_order : Array (Option Value)} {oc_words_in_order kV_words_in_order dc_words_in_order pm_words_in_order cd_words_in_order ct_words_in_order : Value} {od_Bag_keep an_Bag_keep : Option Addr} {sl_Bag_keep : Array (Option Value)} {oc_Bag_keep kV_Bag_keep dc_Bag_keep pm_Bag_keep cd_Bag_keep ct_Bag_keep : Value} {od_Bag_init an_Bag_init : Option Addr} {sl_Bag_init : Array (Option Value)} {oc_Bag_init kV_Bag_init dc_Bag_init pm_Bag_init cd_Bag_init ct_Bag_init : Value} {od_Bag_eq an_Bag_eq : Option Addr} {sl_Bag_eq : Array (Option Value)} {oc_Bag_eq kV_Bag_eq dc_Bag_eq pm_Bag_eq cd_Bag_eq ct_Bag_eq : Value} {od_is_listed an_is_listed : Option Addr} {sl_is_listed : Array (Option Value)} {oc_is_listed kV_is_listed dc_is_listed pm_is_listed cd_is_listed ct_is_listed : Value} {od_are_bags_alike an_are_bags_alike : Option Addr} {sl_are_bags_alike : Array (Option Value)} {oc_are_bags_alike kV_are_bags_alike dc_are_bags_alike pm_are_bags_alike cd_are_bags_alike ct_are_bags_alike : Value} {od_check_row an_check_row : Option Addr} {sl_check_row : Array (Option Value)} {oc_check_row kV_check_row dc_check_row pm_check_row cd_check_row ct_check_row : Value} {od_check_clocks an_check_clocks : Option Addr} {sl_check_clocks : Array (Option Value)} {oc_check_clocks kV_check_clocks dc_check_clocks pm_check_clocks cd_check_clocks ct_check_clocks : Value} {od_RawBag_init an_RawBag_init : Option Addr} {sl_RawBag_init : Array (Option Value)} {oc_RawBag_init kV_RawBag_init dc_RawBag_init pm_RawBag_init cd_RawBag_init ct_RawBag_init : Value} {od_raw an_raw : Option Addr} {sl_raw : Array (Option Value)} {oc_raw kV_raw dc_raw pm_raw cd_raw ct_raw : Value} {od_is_idle an_is_idle : Option Addr} {sl_is_idle : Array (Option Value)} {oc_is_idle kV_is_idle dc_is_idle pm_is_idle cd_is_idle ct_is_idle : Value} {od_first_word an_first_word : Option Addr} {sl_first_word : Array (Option Value)} {oc_first_word kV_first_word dc_first_word pm_first_word cd_first_word ct_first_word : Value} {od_leading an_leading : Option Addr} {sl_leading : Array (Option Value)} {oc_leading kV_leading dc_leading pm_leading cd_leading ct_leading : Value} {od_hit_by an_hit_by : Option Addr} {sl_hit_by : Array (Option Value)} {oc_hit_by kV_hit_by dc_hit_by pm_hit_by cd_hit_by ct_hit_by : Value} {od_put_to an_put_to : Option Addr} {sl_put_to : Array (Option Value)} {oc_put_to kV_put_to dc_put_to pm_put_to cd_put_to ct_put_to : Value} {od_added an_added : Option Addr} {sl_added : Array (Option Value)} {oc_added kV_added dc_added pm_added cd_added ct_added : Value} {od_with_behind an_with_behind : Option Addr} {sl_with_behind : Array (Option Value)} {oc_with_behind kV_with_behind dc_with_behind pm_with_behind cd_with_behind ct_with_behind : Value} {od_taken_off an_taken_off : Option Addr} {sl_taken_off : Array (Option Value)} {oc_taken_off kV_taken_off dc_taken_off pm_taken_off cd_taken_off ct_taken_off : Value} {od_inverse an_inverse : Option Addr} {sl_inverse : Array (Option Value)} {oc_inverse kV_inverse dc_inverse pm_inverse cd_inverse ct_inverse : Value} {od_scaled an_scaled : Option Addr} {sl_scaled : Array (Option Value)} {oc_scaled kV_scaled dc_scaled pm_scaled cd_scaled ct_scaled : Value} {od_made_leading an_made_leading : Option Addr} {sl_made_leading : Array (Option Value)} {oc_made_leading kV_made_leading dc_made_leading pm_made_leading cd_made_leading ct_made_leading : Value} {od_led_free an_led_free : Option Addr} {sl_led_free : Array (Option Value)} {oc_led_free kV_led_free dc_led_free pm_led_free cd_led_free ct_led_free : Value} {od_ahead_key an_ahead_key : Option Addr} {sl_ahead_key : Array (Option Value)} {oc_ahead_key kV_ahead_key dc_ahead_key pm_ahead_key cd_ahead_key ct_ahead_key : Value} {od_leading_key an_leading_key : Option Addr} {sl_leading_key : Array (Option Value)} {oc_leading_key kV_leading_key dc_leading_key pm_leading_key cd_leading_key ct_leading_key : Value} {od_first_hit an_first_hit : Option Addr} {sl_first_hit : Array (Option Value)} {oc_first_hit kV_first_hit dc_first_hit pm_first_hit cd_first_hit ct_first_hit : Value} {od_reduced an_reduced : Option Addr} {sl_reduced : Array (Option Value)} {oc_reduced kV_reduced dc_reduced pm_reduced cd_reduced ct_reduced : Value} {od_reduced_base an_reduced_base : Option Addr} {sl_reduced_base : Array (Option Value)} {oc_reduced_base kV_reduced_base dc_reduced_base pm_reduced_base cd_reduced_base ct_reduced_base : Value} {od_row_base an_row_base : Option Addr} {sl_row_base : Array (Option Value)} {oc_row_base kV_row_base dc_row_base pm_row_base cd_row_base ct_row_base : Value} {od_rest an_rest : Option Addr} {sl_rest : Array (Option Value)} {oc_rest kV_rest dc_rest pm_rest cd_rest ct_rest : Value} {od_together an_together : Option Addr} {sl_together : Array (Option Value)} {oc_together kV_together dc_together pm_together cd_together ct_together : Value} {od_law an_law : Option Addr} {sl_law : Array (Option Value)} {oc_law kV_law dc_law pm_law cd_law ct_law : Value} {t1 t2 t3 t4 t5 t6 t7 t_MOST_BAGS : Tok} {od4 : Option Addr} {n4' : Nat} {sl4 : Array (Option Value)}
    (nsBag : PySem.W.nsIn K mainGlobals "Bag" = some (some (.ref C_Bag)))
    (nsRawBag : PySem.W.nsIn K mainGlobals "RawBag" = some (some (.ref C_RawBag)))
    (a_law_hand : PySem.W.nsIn K mainGlobals "_law_hand" = some (some (.ref f_law_hand)))
    (l_law_hand : K.lookup f_law_hand = some ⟨oc_law_hand, od_law_hand, .func (PySem.W.fnOf "_law_hand" "_law_hand" (defArgs s_law_hand) (defBody s_law_hand) (defScope s_law_hand) .none kV_law_hand dc_law_hand pm_law_hand an_law_hand cd_law_hand ct_law_hand), sl_law_hand⟩)
    (c_law_hand : PySem.W.codeIn K cd_law_hand "_law_hand" = true)
    (k_law_hand : PySem.W.keepIn K (.ref f_law_hand) = true)
    (a_law_draw : PySem.W.nsIn K mainGlobals "_law_draw" = some (some (.ref f_law_draw)))
    (l_law_draw : K.lookup f_law_draw = some ⟨oc_law_draw, od_law_draw, .func (PySem.W.fnOf "_law_draw" "_law_draw" (defArgs s_law_draw) (defBody s_law_draw) (defScope s_law_draw) .none kV_law_draw dc_law_draw pm_law_draw an_law_draw cd_law_draw ct_law_draw), sl_law_draw⟩)
    (c_law_draw : PySem.W.codeIn K cd_law_draw "_law_draw" = true)
    (k_law_draw : PySem.W.keepIn K (.ref f_law_draw) = true)
    (a_law_clock : PySem.W.nsIn K mainGlobals "_law_clock" = some (some (.ref f_law_clock)))
    (l_law_clock : K.lookup f_law_clock = some ⟨oc_law_clock, od_law_clock, .func (PySem.W.fnOf "_law_clock" "_law_clock" (defArgs s_law_clock) (defBody s_law_clock) (defScope s_law_clock) .none kV_law_clock dc_law_clock pm_law_clock an_law_clock cd_law_clock ct_law_clock), sl_law_clock⟩)
    (c_law_clock : PySem.W.codeIn K cd_law_clock "_law_clock" = true)
    (k_law_clock : PySem.W.keepIn K (.ref f_law_clock) = true)
    (a_law_word : PySem.W.nsIn K mainGlobals "_law_word" = some (some (.ref f_law_word)))
    (l_law_word : K.lookup f_law_word = some ⟨oc_law_word, od_law_word, .func (PySem.W.fnOf "_law_word" "_law_word" (defArgs s_law_word) (defBody s_law_word) (defScope s_law_word) .none kV_law_word dc_law_word pm_law_word an_law_word cd_law_word ct_law_word), sl_law_word⟩)
    (c_law_word : PySem.W.codeIn K cd_law_word "_law_word" = true)
    (k_law_word : PySem.W.keepIn K (.ref f_law_word) = true)
    (a_law_lot : PySem.W.nsIn K mainGlobals "_law_lot" = some (some (.ref f_law_lot)))
    (l_law_lot : K.lookup f_law_lot = some ⟨oc_law_lot, od_law_lot, .func (PySem.W.fnOf "_law_lot" "_law_lot" (defArgs s_law_lot) (defBody s_law_lot) (defScope s_law_lot) .none kV_law_lot dc_law_lot pm_law_lot an_law_lot cd_law_lot ct_law_lot), sl_law_lot⟩)
    (c_law_lot : PySem.W.codeIn K cd_law_lot "_law_lot" = true)
    (k_law_lot : PySem.W.keepIn K (.ref f_law_lot) = true)
    (a_law_small : PySem.W.nsIn K mainGlobals "_law_small" = some (some (.ref f_law_small)))
    (l_law_small : K.lookup f_law_small = some ⟨oc_law_small, od_law_small, .func (PySem.W.fnOf "_law_small" "_law_small" (defArgs s_law_small) (defBody s_law_small) (defScope s_law_small) .none kV_law_small dc_law_small pm_law_small an_law_small cd_law_small ct_law_small), sl_law_small⟩)
    (c_law_small : PySem.W.codeIn K cd_law_small "_law_small" = true)
    (k_law_small : PySem.W.keepIn K (.ref f_law_small) = true)
    (a_law_put : PySem.W.nsIn K mainGlobals "_law_put" = some (some (.ref f_law_put)))
    (l_law_put : K.lookup f_law_put = some ⟨oc_law_put, od_law_put, .func (PySem.W.fnOf "_law_put" "_law_put" (defArgs s_law_put) (defBody s_law_put) (defScope s_law_put) .none kV_law_put dc_law_put pm_law_put an_law_put cd_law_put ct_law_put), sl_law_put⟩)
    (c_law_put : PySem.W.codeIn K cd_law_put "_law_put" = true)
    (k_law_put : PySem.W.keepIn K (.ref f_law_put) = true)
    (a_law_product : PySem.W.nsIn K mainGlobals "_law_product" = some (some (.ref f_law_product)))
    (l_law_product : K.lookup f_law_product = some ⟨oc_law_product, od_law_product, .func (PySem.W.fnOf "_law_product" "_law_product" (defArgs s_law_product) (defBody s_law_product) (defScope s_law_product) .none kV_law_product dc_law_product pm_law_product an_law_product cd_law_product ct_law_product), sl_law_product⟩)
    (c_law_product : PySem.W.codeIn K cd_law_product "_law_product" = true)
    (k_law_product : PySem.W.keepIn K (.ref f_law_product) = true)
    (a_law_part : PySem.W.nsIn K mainGlobals "_law_part" = some (some (.ref f_law_part)))
    (l_law_part : K.lookup f_law_part = some ⟨oc_law_part, od_law_part, .func (PySem.W.fnOf "_law_part" "_law_part" (defArgs s_law_part) (defBody s_law_part) (defScope s_law_part) .none kV_law_part dc_law_part pm_law_part an_law_part cd_law_part ct_law_part), sl_law_part⟩)
    (c_law_part : PySem.W.codeIn K cd_law_part "_law_part" = true)
    (k_law_part : PySem.W.keepIn K (.ref f_law_part) = true)
    (a_law_plus : PySem.W.nsIn K mainGlobals "_law_plus" = some (some (.ref f_law_plus)))
    (l_law_plus : K.lookup f_law_plus = some ⟨oc_law_plus, od_law_plus, .func (PySem.W.fnOf "_law_plus" "_law_plus" (defArgs s_law_plus) (defBody s_law_plus) (defScope s_law_plus) .none kV_law_plus dc_law_plus pm_law_plus an_law_plus cd_law_plus ct_law_plus), sl_law_plus⟩)
    (c_law_plus : PySem.W.codeIn K cd_law_plus "_law_plus" = true)
    (k_law_plus : PySem.W.keepIn K (.ref f_law_plus) = true)
    (a_law_row : PySem.W.nsIn K mainGlobals "_law_row" = some (some (.ref f_law_row)))
    (l_law_row : K.lookup f_law_row = some ⟨oc_law_row, od_law_row, .func (PySem.W.fnOf "_law_row" "_law_row" (defArgs s_law_row) (defBody s_law_row) (defScope s_law_row) .none kV_law_row dc_law_row pm_law_row an_law_row cd_law_row ct_law_row), sl_law_row⟩)
    (c_law_row : PySem.W.codeIn K cd_law_row "_law_row" = true)
    (k_law_row : PySem.W.keepIn K (.ref f_law_row) = true)
    (a_law_order : PySem.W.nsIn K mainGlobals "_law_order" = some (some (.ref f_law_order)))
    (l_law_order : K.lookup f_law_order = some ⟨oc_law_order, od_law_order, .func (PySem.W.fnOf "_law_order" "_law_order" (defArgs s_law_order) (defBody s_law_order) (defScope s_law_order) .none kV_law_order dc_law_order pm_law_order an_law_order cd_law_order ct_law_order), sl_law_order⟩)
    (c_law_order : PySem.W.codeIn K cd_law_order "_law_order" = true)
    (k_law_order : PySem.W.keepIn K (.ref f_law_order) = true)
    (a_law_words : PySem.W.nsIn K mainGlobals "_law_words" = some (some (.ref f_law_words)))
    (l_law_words : K.lookup f_law_words = some ⟨oc_law_words, od_law_words, .func (PySem.W.fnOf "_law_words" "_law_words" (defArgs s_law_words) (defBody s_law_words) (defScope s_law_words) .none kV_law_words dc_law_words pm_law_words an_law_words cd_law_words ct_law_words), sl_law_words⟩)
    (c_law_words : PySem.W.codeIn K cd_law_words "_law_words" = true)
    (k_law_words : PySem.W.keepIn K (.ref f_law_words) = true)
    (a_law_is : PySem.W.nsIn K mainGlobals "_law_is" = some (some (.ref f_law_is)))
    (l_law_is : K.lookup f_law_is = some ⟨oc_law_is, od_law_is, .func (PySem.W.fnOf "_law_is" "_law_is" (defArgs s_law_is) (defBody s_law_is) (defScope s_law_is) .none kV_law_is dc_law_is pm_law_is an_law_is cd_law_is ct_law_is), sl_law_is⟩)
    (c_law_is : PySem.W.codeIn K cd_law_is "_law_is" = true)
    (k_law_is : PySem.W.keepIn K (.ref f_law_is) = true)
    (a_law_starts : PySem.W.nsIn K mainGlobals "_law_starts" = some (some (.ref f_law_starts)))
    (l_law_starts : K.lookup f_law_starts = some ⟨oc_law_starts, od_law_starts, .func (PySem.W.fnOf "_law_starts" "_law_starts" (defArgs s_law_starts) (defBody s_law_starts) (defScope s_law_starts) .none kV_law_starts dc_law_starts pm_law_starts an_law_starts cd_law_starts ct_law_starts), sl_law_starts⟩)
    (c_law_starts : PySem.W.codeIn K cd_law_starts "_law_starts" = true)
    (k_law_starts : PySem.W.keepIn K (.ref f_law_starts) = true)
    (a_law_reduced : PySem.W.nsIn K mainGlobals "_law_reduced" = some (some (.ref f_law_reduced)))
    (l_law_reduced : K.lookup f_law_reduced = some ⟨oc_law_reduced, od_law_reduced, .func (PySem.W.fnOf "_law_reduced" "_law_reduced" (defArgs s_law_reduced) (defBody s_law_reduced) (defScope s_law_reduced) .none kV_law_reduced dc_law_reduced pm_law_reduced an_law_reduced cd_law_reduced ct_law_reduced), sl_law_reduced⟩)
    (c_law_reduced : PySem.W.codeIn K cd_law_reduced "_law_reduced" = true)
    (k_law_reduced : PySem.W.keepIn K (.ref f_law_reduced) = true)
    (a_law_plain : PySem.W.nsIn K mainGlobals "_law_plain" = some (some (.ref f_law_plain)))
    (l_law_plain : K.lookup f_law_plain = some ⟨oc_law_plain, od_law_plain, .func (PySem.W.fnOf "_law_plain" "_law_plain" (defArgs s_law_plain) (defBody s_law_plain) (defScope s_law_plain) .none kV_law_plain dc_law_plain pm_law_plain an_law_plain cd_law_plain ct_law_plain), sl_law_plain⟩)
    (c_law_plain : PySem.W.codeIn K cd_law_plain "_law_plain" = true)
    (k_law_plain : PySem.W.keepIn K (.ref f_law_plain) = true)
    (a_law_base : PySem.W.nsIn K mainGlobals "_law_base" = some (some (.ref f_law_base)))
    (l_law_base : K.lookup f_law_base = some ⟨oc_law_base, od_law_base, .func (PySem.W.fnOf "_law_base" "_law_base" (defArgs s_law_base) (defBody s_law_base) (defScope s_law_base) .none kV_law_base dc_law_base pm_law_base an_law_base cd_law_base ct_law_base), sl_law_base⟩)
    (c_law_base : PySem.W.codeIn K cd_law_base "_law_base" = true)
    (k_law_base : PySem.W.keepIn K (.ref f_law_base) = true)
    (a_law_sum : PySem.W.nsIn K mainGlobals "_law_sum" = some (some (.ref f_law_sum)))
    (l_law_sum : K.lookup f_law_sum = some ⟨oc_law_sum, od_law_sum, .func (PySem.W.fnOf "_law_sum" "_law_sum" (defArgs s_law_sum) (defBody s_law_sum) (defScope s_law_sum) .none kV_law_sum dc_law_sum pm_law_sum an_law_sum cd_law_sum ct_law_sum), sl_law_sum⟩)
    (c_law_sum : PySem.W.codeIn K cd_law_sum "_law_sum" = true)
    (k_law_sum : PySem.W.keepIn K (.ref f_law_sum) = true)
    (a_is_integer : PySem.W.nsIn K mainGlobals "is_integer" = some (some (.ref f_is_integer)))
    (l_is_integer : K.lookup f_is_integer = some ⟨oc_is_integer, od_is_integer, .func (PySem.W.fnOf "is_integer" "is_integer" (defArgs s_is_integer) (defBody s_is_integer) (defScope s_is_integer) .none kV_is_integer dc_is_integer pm_is_integer an_is_integer cd_is_integer ct_is_integer), sl_is_integer⟩)
    (c_is_integer : PySem.W.codeIn K cd_is_integer "is_integer" = true)
    (k_is_integer : PySem.W.keepIn K (.ref f_is_integer) = true)
    (a_is_clock : PySem.W.nsIn K mainGlobals "is_clock" = some (some (.ref f_is_clock)))
    (l_is_clock : K.lookup f_is_clock = some ⟨oc_is_clock, od_is_clock, .func (PySem.W.fnOf "is_clock" "is_clock" (defArgs s_is_clock) (defBody s_is_clock) (defScope s_is_clock) .none kV_is_clock dc_is_clock pm_is_clock an_is_clock cd_is_clock ct_is_clock), sl_is_clock⟩)
    (c_is_clock : PySem.W.codeIn K cd_is_clock "is_clock" = true)
    (k_is_clock : PySem.W.keepIn K (.ref f_is_clock) = true)
    (a_is_word : PySem.W.nsIn K mainGlobals "is_word" = some (some (.ref f_is_word)))
    (l_is_word : K.lookup f_is_word = some ⟨oc_is_word, od_is_word, .func (PySem.W.fnOf "is_word" "is_word" (defArgs s_is_word) (defBody s_is_word) (defScope s_is_word) .none kV_is_word dc_is_word pm_is_word an_is_word cd_is_word ct_is_word), sl_is_word⟩)
    (c_is_word : PySem.W.codeIn K cd_is_word "is_word" = true)
    (k_is_word : PySem.W.keepIn K (.ref f_is_word) = true)
    (a_is_short_word : PySem.W.nsIn K mainGlobals "is_short_word" = some (some (.ref f_is_short_word)))
    (l_is_short_word : K.lookup f_is_short_word = some ⟨oc_is_short_word, od_is_short_word, .func (PySem.W.fnOf "is_short_word" "is_short_word" (defArgs s_is_short_word) (defBody s_is_short_word) (defScope s_is_short_word) .none kV_is_short_word dc_is_short_word pm_is_short_word an_is_short_word cd_is_short_word ct_is_short_word), sl_is_short_word⟩)
    (c_is_short_word : PySem.W.codeIn K cd_is_short_word "is_short_word" = true)
    (k_is_short_word : PySem.W.keepIn K (.ref f_is_short_word) = true)
    (a_is_within : PySem.W.nsIn K mainGlobals "is_within" = some (some (.ref f_is_within)))
    (l_is_within : K.lookup f_is_within = some ⟨oc_is_within, od_is_within, .func (PySem.W.fnOf "is_within" "is_within" (defArgs s_is_within) (defBody s_is_within) (defScope s_is_within) .none kV_is_within dc_is_within pm_is_within an_is_within cd_is_within ct_is_within), sl_is_within⟩)
    (c_is_within : PySem.W.codeIn K cd_is_within "is_within" = true)
    (k_is_within : PySem.W.keepIn K (.ref f_is_within) = true)
    (a_are_words : PySem.W.nsIn K mainGlobals "are_words" = some (some (.ref f_are_words)))
    (l_are_words : K.lookup f_are_words = some ⟨oc_are_words, od_are_words, .func (PySem.W.fnOf "are_words" "are_words" (defArgs s_are_words) (defBody s_are_words) (defScope s_are_words) .none kV_are_words dc_are_words pm_are_words an_are_words cd_are_words ct_are_words), sl_are_words⟩)
    (c_are_words : PySem.W.codeIn K cd_are_words "are_words" = true)
    (k_are_words : PySem.W.keepIn K (.ref f_are_words) = true)
    (a_words_in_order : PySem.W.nsIn K mainGlobals "words_in_order" = some (some (.ref f_words_in_order)))
    (l_words_in_order : K.lookup f_words_in_order = some ⟨oc_words_in_order, od_words_in_order, .func (PySem.W.fnOf "words_in_order" "words_in_order" (defArgs s_words_in_order) (defBody s_words_in_order) (defScope s_words_in_order) .none kV_words_in_order dc_words_in_order pm_words_in_order an_words_in_order cd_words_in_order ct_words_in_order), sl_words_in_order⟩)
    (c_words_in_order : PySem.W.codeIn K cd_words_in_order "words_in_order" = true)
    (k_words_in_order : PySem.W.keepIn K (.ref f_words_in_order) = true)
    (a_Bag_keep : PySem.W.findIn K (.ref C_Bag) "keep" = some (some (.ref f_Bag_keep)))
    (i_Bag_keep : PySem.W.isFn K (.ref f_Bag_keep) = true)
    (l_Bag_keep : K.lookup f_Bag_keep = some ⟨oc_Bag_keep, od_Bag_keep, .func (PySem.W.fnOf "keep" "Bag.keep" (defArgs s_Bag_keep) (defBody s_Bag_keep) (defScope s_Bag_keep) .none kV_Bag_keep dc_Bag_keep pm_Bag_keep an_Bag_keep cd_Bag_keep ct_Bag_keep), sl_Bag_keep⟩)
    (c_Bag_keep : PySem.W.codeIn K cd_Bag_keep "Bag.keep" = true)
    (k_Bag_keep : PySem.W.keepIn K (.ref f_Bag_keep) = true)
    (a_Bag_init : PySem.W.findIn K (.ref C_Bag) "__init__" = some (some (.ref f_Bag_init)))
    (i_Bag_init : PySem.W.isFn K (.ref f_Bag_init) = true)
    (l_Bag_init : K.lookup f_Bag_init = some ⟨oc_Bag_init, od_Bag_init, .func (PySem.W.fnOf "__init__" "Bag.__init__" (defArgs s_Bag_init) (defBody s_Bag_init) (defScope s_Bag_init) .none kV_Bag_init dc_Bag_init pm_Bag_init an_Bag_init cd_Bag_init ct_Bag_init), sl_Bag_init⟩)
    (c_Bag_init : PySem.W.codeIn K cd_Bag_init "Bag.__init__" = true)
    (k_Bag_init : PySem.W.keepIn K (.ref f_Bag_init) = true)
    (a_Bag_eq : PySem.W.findIn K (.ref C_Bag) "__eq__" = some (some (.ref f_Bag_eq)))
    (i_Bag_eq : PySem.W.isFn K (.ref f_Bag_eq) = true)
    (l_Bag_eq : K.lookup f_Bag_eq = some ⟨oc_Bag_eq, od_Bag_eq, .func (PySem.W.fnOf "__eq__" "Bag.__eq__" (defArgs s_Bag_eq) (defBody s_Bag_eq) (defScope s_Bag_eq) .none kV_Bag_eq dc_Bag_eq pm_Bag_eq an_Bag_eq cd_Bag_eq ct_Bag_eq), sl_Bag_eq⟩)
    (c_Bag_eq : PySem.W.codeIn K cd_Bag_eq "Bag.__eq__" = true)
    (k_Bag_eq : PySem.W.keepIn K (.ref f_Bag_eq) = true)
    (a_is_listed : PySem.W.nsIn K mainGlobals "is_listed" = some (some (.ref f_is_listed)))
    (l_is_listed : K.lookup f_is_listed = some ⟨oc_is_listed, od_is_listed, .func (PySem.W.fnOf "is_listed" "is_listed" (defArgs s_is_listed) (defBody s_is_listed) (defScope s_is_listed) .none kV_is_listed dc_is_listed pm_is_listed an_is_listed cd_is_listed ct_is_listed), sl_is_listed⟩)
    (c_is_listed : PySem.W.codeIn K cd_is_listed "is_listed" = true)
    (k_is_listed : PySem.W.keepIn K (.ref f_is_listed) = true)
    (a_are_bags_alike : PySem.W.nsIn K mainGlobals "are_bags_alike" = some (some (.ref f_are_bags_alike)))
    (l_are_bags_alike : K.lookup f_are_bags_alike = some ⟨oc_are_bags_alike, od_are_bags_alike, .func (PySem.W.fnOf "are_bags_alike" "are_bags_alike" (defArgs s_are_bags_alike) (defBody s_are_bags_alike) (defScope s_are_bags_alike) .none kV_are_bags_alike dc_are_bags_alike pm_are_bags_alike an_are_bags_alike cd_are_bags_alike ct_are_bags_alike), sl_are_bags_alike⟩)
    (c_are_bags_alike : PySem.W.codeIn K cd_are_bags_alike "are_bags_alike" = true)
    (k_are_bags_alike : PySem.W.keepIn K (.ref f_are_bags_alike) = true)
    (a_check_row : PySem.W.nsIn K mainGlobals "check_row" = some (some (.ref f_check_row)))
    (l_check_row : K.lookup f_check_row = some ⟨oc_check_row, od_check_row, .func (PySem.W.fnOf "check_row" "check_row" (defArgs s_check_row) (defBody s_check_row) (defScope s_check_row) .none kV_check_row dc_check_row pm_check_row an_check_row cd_check_row ct_check_row), sl_check_row⟩)
    (c_check_row : PySem.W.codeIn K cd_check_row "check_row" = true)
    (k_check_row : PySem.W.keepIn K (.ref f_check_row) = true)
    (a_check_clocks : PySem.W.nsIn K mainGlobals "check_clocks" = some (some (.ref f_check_clocks)))
    (l_check_clocks : K.lookup f_check_clocks = some ⟨oc_check_clocks, od_check_clocks, .func (PySem.W.fnOf "check_clocks" "check_clocks" (defArgs s_check_clocks) (defBody s_check_clocks) (defScope s_check_clocks) .none kV_check_clocks dc_check_clocks pm_check_clocks an_check_clocks cd_check_clocks ct_check_clocks), sl_check_clocks⟩)
    (c_check_clocks : PySem.W.codeIn K cd_check_clocks "check_clocks" = true)
    (k_check_clocks : PySem.W.keepIn K (.ref f_check_clocks) = true)
    (a_RawBag_init : PySem.W.findIn K (.ref C_RawBag) "__init__" = some (some (.ref f_RawBag_init)))
    (i_RawBag_init : PySem.W.isFn K (.ref f_RawBag_init) = true)
    (l_RawBag_init : K.lookup f_RawBag_init = some ⟨oc_RawBag_init, od_RawBag_init, .func (PySem.W.fnOf "__init__" "RawBag.__init__" (defArgs s_RawBag_init) (defBody s_RawBag_init) (defScope s_RawBag_init) .none kV_RawBag_init dc_RawBag_init pm_RawBag_init an_RawBag_init cd_RawBag_init ct_RawBag_init), sl_RawBag_init⟩)
    (c_RawBag_init : PySem.W.codeIn K cd_RawBag_init "RawBag.__init__" = true)
    (k_RawBag_init : PySem.W.keepIn K (.ref f_RawBag_init) = true)
    (a_raw : PySem.W.nsIn K mainGlobals "raw" = some (some (.ref f_raw)))
    (l_raw : K.lookup f_raw = some ⟨oc_raw, od_raw, .func (PySem.W.fnOf "raw" "raw" (defArgs s_raw) (defBody s_raw) (defScope s_raw) .none kV_raw dc_raw pm_raw an_raw cd_raw ct_raw), sl_raw⟩)
    (c_raw : PySem.W.codeIn K cd_raw "raw" = true)
    (k_raw : PySem.W.keepIn K (.ref f_raw) = true)
    (a_is_idle : PySem.W.nsIn K mainGlobals "is_idle" = some (some (.ref f_is_idle)))
    (l_is_idle : K.lookup f_is_idle = some ⟨oc_is_idle, od_is_idle, .func (PySem.W.fnOf "is_idle" "is_idle" (defArgs s_is_idle) (defBody s_is_idle) (defScope s_is_idle) .none kV_is_idle dc_is_idle pm_is_idle an_is_idle cd_is_idle ct_is_idle), sl_is_idle⟩)
    (c_is_idle : PySem.W.codeIn K cd_is_idle "is_idle" = true)
    (k_is_idle : PySem.W.keepIn K (.ref f_is_idle) = true)
    (a_first_word : PySem.W.nsIn K mainGlobals "first_word" = some (some (.ref f_first_word)))
    (l_first_word : K.lookup f_first_word = some ⟨oc_first_word, od_first_word, .func (PySem.W.fnOf "first_word" "first_word" (defArgs s_first_word) (defBody s_first_word) (defScope s_first_word) .none kV_first_word dc_first_word pm_first_word an_first_word cd_first_word ct_first_word), sl_first_word⟩)
    (c_first_word : PySem.W.codeIn K cd_first_word "first_word" = true)
    (k_first_word : PySem.W.keepIn K (.ref f_first_word) = true)
    (a_leading : PySem.W.nsIn K mainGlobals "leading" = some (some (.ref f_leading)))
    (l_leading : K.lookup f_leading = some ⟨oc_leading, od_leading, .func (PySem.W.fnOf "leading" "leading" (defArgs s_leading) (defBody s_leading) (defScope s_leading) .none kV_leading dc_leading pm_leading an_leading cd_leading ct_leading), sl_leading⟩)
    (c_leading : PySem.W.codeIn K cd_leading "leading" = true)
    (k_leading : PySem.W.keepIn K (.ref f_leading) = true)
    (a_hit_by : PySem.W.nsIn K mainGlobals "hit_by" = some (some (.ref f_hit_by)))
    (l_hit_by : K.lookup f_hit_by = some ⟨oc_hit_by, od_hit_by, .func (PySem.W.fnOf "hit_by" "hit_by" (defArgs s_hit_by) (defBody s_hit_by) (defScope s_hit_by) .none kV_hit_by dc_hit_by pm_hit_by an_hit_by cd_hit_by ct_hit_by), sl_hit_by⟩)
    (c_hit_by : PySem.W.codeIn K cd_hit_by "hit_by" = true)
    (k_hit_by : PySem.W.keepIn K (.ref f_hit_by) = true)
    (a_put_to : PySem.W.nsIn K mainGlobals "put_to" = some (some (.ref f_put_to)))
    (l_put_to : K.lookup f_put_to = some ⟨oc_put_to, od_put_to, .func (PySem.W.fnOf "put_to" "put_to" (defArgs s_put_to) (defBody s_put_to) (defScope s_put_to) .none kV_put_to dc_put_to pm_put_to an_put_to cd_put_to ct_put_to), sl_put_to⟩)
    (c_put_to : PySem.W.codeIn K cd_put_to "put_to" = true)
    (k_put_to : PySem.W.keepIn K (.ref f_put_to) = true)
    (a_added : PySem.W.nsIn K mainGlobals "added" = some (some (.ref f_added)))
    (l_added : K.lookup f_added = some ⟨oc_added, od_added, .func (PySem.W.fnOf "added" "added" (defArgs s_added) (defBody s_added) (defScope s_added) .none kV_added dc_added pm_added an_added cd_added ct_added), sl_added⟩)
    (c_added : PySem.W.codeIn K cd_added "added" = true)
    (k_added : PySem.W.keepIn K (.ref f_added) = true)
    (a_with_behind : PySem.W.nsIn K mainGlobals "with_behind" = some (some (.ref f_with_behind)))
    (l_with_behind : K.lookup f_with_behind = some ⟨oc_with_behind, od_with_behind, .func (PySem.W.fnOf "with_behind" "with_behind" (defArgs s_with_behind) (defBody s_with_behind) (defScope s_with_behind) .none kV_with_behind dc_with_behind pm_with_behind an_with_behind cd_with_behind ct_with_behind), sl_with_behind⟩)
    (c_with_behind : PySem.W.codeIn K cd_with_behind "with_behind" = true)
    (k_with_behind : PySem.W.keepIn K (.ref f_with_behind) = true)
    (a_taken_off : PySem.W.nsIn K mainGlobals "taken_off" = some (some (.ref f_taken_off)))
    (l_taken_off : K.lookup f_taken_off = some ⟨oc_taken_off, od_taken_off, .func (PySem.W.fnOf "taken_off" "taken_off" (defArgs s_taken_off) (defBody s_taken_off) (defScope s_taken_off) .none kV_taken_off dc_taken_off pm_taken_off an_taken_off cd_taken_off ct_taken_off), sl_taken_off⟩)
    (c_taken_off : PySem.W.codeIn K cd_taken_off "taken_off" = true)
    (k_taken_off : PySem.W.keepIn K (.ref f_taken_off) = true)
    (a_inverse : PySem.W.nsIn K mainGlobals "inverse" = some (some (.ref f_inverse)))
    (l_inverse : K.lookup f_inverse = some ⟨oc_inverse, od_inverse, .func (PySem.W.fnOf "inverse" "inverse" (defArgs s_inverse) (defBody s_inverse) (defScope s_inverse) .none kV_inverse dc_inverse pm_inverse an_inverse cd_inverse ct_inverse), sl_inverse⟩)
    (c_inverse : PySem.W.codeIn K cd_inverse "inverse" = true)
    (k_inverse : PySem.W.keepIn K (.ref f_inverse) = true)
    (a_scaled : PySem.W.nsIn K mainGlobals "scaled" = some (some (.ref f_scaled)))
    (l_scaled : K.lookup f_scaled = some ⟨oc_scaled, od_scaled, .func (PySem.W.fnOf "scaled" "scaled" (defArgs s_scaled) (defBody s_scaled) (defScope s_scaled) .none kV_scaled dc_scaled pm_scaled an_scaled cd_scaled ct_scaled), sl_scaled⟩)
    (c_scaled : PySem.W.codeIn K cd_scaled "scaled" = true)
    (k_scaled : PySem.W.keepIn K (.ref f_scaled) = true)
    (a_made_leading : PySem.W.nsIn K mainGlobals "made_leading" = some (some (.ref f_made_leading)))
    (l_made_leading : K.lookup f_made_leading = some ⟨oc_made_leading, od_made_leading, .func (PySem.W.fnOf "made_leading" "made_leading" (defArgs s_made_leading) (defBody s_made_leading) (defScope s_made_leading) .none kV_made_leading dc_made_leading pm_made_leading an_made_leading cd_made_leading ct_made_leading), sl_made_leading⟩)
    (c_made_leading : PySem.W.codeIn K cd_made_leading "made_leading" = true)
    (k_made_leading : PySem.W.keepIn K (.ref f_made_leading) = true)
    (a_led_free : PySem.W.nsIn K mainGlobals "led_free" = some (some (.ref f_led_free)))
    (l_led_free : K.lookup f_led_free = some ⟨oc_led_free, od_led_free, .func (PySem.W.fnOf "led_free" "led_free" (defArgs s_led_free) (defBody s_led_free) (defScope s_led_free) .none kV_led_free dc_led_free pm_led_free an_led_free cd_led_free ct_led_free), sl_led_free⟩)
    (c_led_free : PySem.W.codeIn K cd_led_free "led_free" = true)
    (k_led_free : PySem.W.keepIn K (.ref f_led_free) = true)
    (a_ahead_key : PySem.W.nsIn K mainGlobals "ahead_key" = some (some (.ref f_ahead_key)))
    (l_ahead_key : K.lookup f_ahead_key = some ⟨oc_ahead_key, od_ahead_key, .func (PySem.W.fnOf "ahead_key" "ahead_key" (defArgs s_ahead_key) (defBody s_ahead_key) (defScope s_ahead_key) .none kV_ahead_key dc_ahead_key pm_ahead_key an_ahead_key cd_ahead_key ct_ahead_key), sl_ahead_key⟩)
    (c_ahead_key : PySem.W.codeIn K cd_ahead_key "ahead_key" = true)
    (k_ahead_key : PySem.W.keepIn K (.ref f_ahead_key) = true)
    (a_leading_key : PySem.W.nsIn K mainGlobals "leading_key" = some (some (.ref f_leading_key)))
    (l_leading_key : K.lookup f_leading_key = some ⟨oc_leading_key, od_leading_key, .func (PySem.W.fnOf "leading_key" "leading_key" (defArgs s_leading_key) (defBody s_leading_key) (defScope s_leading_key) .none kV_leading_key dc_leading_key pm_leading_key an_leading_key cd_leading_key ct_leading_key), sl_leading_key⟩)
    (c_leading_key : PySem.W.codeIn K cd_leading_key "leading_key" = true)
    (k_leading_key : PySem.W.keepIn K (.ref f_leading_key) = true)
    (a_first_hit : PySem.W.nsIn K mainGlobals "first_hit" = some (some (.ref f_first_hit)))
    (l_first_hit : K.lookup f_first_hit = some ⟨oc_first_hit, od_first_hit, .func (PySem.W.fnOf "first_hit" "first_hit" (defArgs s_first_hit) (defBody s_first_hit) (defScope s_first_hit) .none kV_first_hit dc_first_hit pm_first_hit an_first_hit cd_first_hit ct_first_hit), sl_first_hit⟩)
    (c_first_hit : PySem.W.codeIn K cd_first_hit "first_hit" = true)
    (k_first_hit : PySem.W.keepIn K (.ref f_first_hit) = true)
    (a_reduced : PySem.W.nsIn K mainGlobals "reduced" = some (some (.ref f_reduced)))
    (l_reduced : K.lookup f_reduced = some ⟨oc_reduced, od_reduced, .func (PySem.W.fnOf "reduced" "reduced" (defArgs s_reduced) (defBody s_reduced) (defScope s_reduced) .none kV_reduced dc_reduced pm_reduced an_reduced cd_reduced ct_reduced), sl_reduced⟩)
    (c_reduced : PySem.W.codeIn K cd_reduced "reduced" = true)
    (k_reduced : PySem.W.keepIn K (.ref f_reduced) = true)
    (a_reduced_base : PySem.W.nsIn K mainGlobals "reduced_base" = some (some (.ref f_reduced_base)))
    (l_reduced_base : K.lookup f_reduced_base = some ⟨oc_reduced_base, od_reduced_base, .func (PySem.W.fnOf "reduced_base" "reduced_base" (defArgs s_reduced_base) (defBody s_reduced_base) (defScope s_reduced_base) .none kV_reduced_base dc_reduced_base pm_reduced_base an_reduced_base cd_reduced_base ct_reduced_base), sl_reduced_base⟩)
    (c_reduced_base : PySem.W.codeIn K cd_reduced_base "reduced_base" = true)
    (k_reduced_base : PySem.W.keepIn K (.ref f_reduced_base) = true)
    (a_row_base : PySem.W.nsIn K mainGlobals "row_base" = some (some (.ref f_row_base)))
    (l_row_base : K.lookup f_row_base = some ⟨oc_row_base, od_row_base, .func (PySem.W.fnOf "row_base" "row_base" (defArgs s_row_base) (defBody s_row_base) (defScope s_row_base) .none kV_row_base dc_row_base pm_row_base an_row_base cd_row_base ct_row_base), sl_row_base⟩)
    (c_row_base : PySem.W.codeIn K cd_row_base "row_base" = true)
    (k_row_base : PySem.W.keepIn K (.ref f_row_base) = true)
    (a_rest : PySem.W.nsIn K mainGlobals "rest" = some (some (.ref f_rest)))
    (l_rest : K.lookup f_rest = some ⟨oc_rest, od_rest, .func (PySem.W.fnOf "rest" "rest" (defArgs s_rest) (defBody s_rest) (defScope s_rest) .none kV_rest dc_rest pm_rest an_rest cd_rest ct_rest), sl_rest⟩)
    (c_rest : PySem.W.codeIn K cd_rest "rest" = true)
    (k_rest : PySem.W.keepIn K (.ref f_rest) = true)
    (a_together : PySem.W.nsIn K mainGlobals "together" = some (some (.ref f_together)))
    (l_together : K.lookup f_together = some ⟨oc_together, od_together, .func (PySem.W.fnOf "together" "together" (defArgs s_together) (defBody s_together) (defScope s_together) .none kV_together dc_together pm_together an_together cd_together ct_together), sl_together⟩)
    (c_together : PySem.W.codeIn K cd_together "together" = true)
    (k_together : PySem.W.keepIn K (.ref f_together) = true)
    (a_law : PySem.W.nsIn K mainGlobals "law" = some (some (.ref f_law)))
    (l_law : K.lookup f_law = some ⟨oc_law, od_law, .func (PySem.W.fnOf "law" "law" (defArgs s_law) (defBody s_law) (defScope s_law) .none kV_law dc_law pm_law an_law cd_law ct_law), sl_law⟩)
    (c_law : PySem.W.codeIn K cd_law "law" = true)
    (k_law : PySem.W.keepIn K (.ref f_law) = true)
    (cg : PySem.W.specialIn K (.builtin "object.__class__") "__get__" = some (some (.builtin "getset_descriptor.__get__")))
    (ct : PySem.W.takesIn K (.builtin "object.__class__") = some true)
    (pgBag : PySem.W.plainGet K C_Bag Str.empty = true)
    (hdBag : PySem.W.hasDictIn K C_Bag = true)
    (poBag : PySem.W.plainOver K C_Bag = true)
    (saBag : PySem.W.findIn K (.ref C_Bag) "__setattr__" = some (some (.builtin "object.__setattr__")))
    (mkBag : PySem.W.makesIn K C_Bag = true)
    (kBBag : PySem.W.keepIn K (.ref C_Bag) = true)
    (n1Bag : PySem.W.findIn K (.ref C_Bag) "clock" = some none)
    (n2Bag : PySem.W.findIn K (.ref C_Bag) "sparse" = some none)
    (n3Bag : PySem.W.findIn K (.ref C_Bag) "kept" = some none)
    (n4Bag : PySem.W.findIn K (.ref C_Bag) "words" = some none)
    (ccBag : PySem.W.findIn K (.ref C_Bag) "__class__" = some (some (.builtin "object.__class__")))
    (coBag : PySem.W.mroIn K C_Bag (.type "object") = some true)
    (icBag : PySem.W.isClsIn K C_Bag = true)
    (tcBag : PySem.W.typeIn K (.ref C_Bag) = some (.type "type"))
    (neBag : PySem.W.findIn K (.ref C_Bag) "__ne__" = some (some (.builtin "object.__ne__")))
    (eqBag : PySem.W.findIn K (.ref C_Bag) "__eq__" = some (some (.ref f_Bag_eq)))
    (kpBag : PySem.W.findIn K (.ref C_Bag) "keep" = some (some (.ref f_Bag_keep)))
    (u_NoneType_Bag : PySem.W.subIn K (.type "NoneType") (.ref C_Bag) = some false)
    (u_bool_Bag : PySem.W.subIn K (.type "bool") (.ref C_Bag) = some false)
    (u_int_Bag : PySem.W.subIn K (.type "int") (.ref C_Bag) = some false)
    (u_str_Bag : PySem.W.subIn K (.type "str") (.ref C_Bag) = some false)
    (u_list_Bag : PySem.W.subIn K (.type "list") (.ref C_Bag) = some false)
    (u_tuple_Bag : PySem.W.subIn K (.type "tuple") (.ref C_Bag) = some false)
    (u_dict_Bag : PySem.W.subIn K (.type "dict") (.ref C_Bag) = some false)
    (pgRawBag : PySem.W.plainGet K C_RawBag Str.empty = true)
    (hdRawBag : PySem.W.hasDictIn K C_RawBag = true)
    (poRawBag : PySem.W.plainOver K C_RawBag = true)
    (saRawBag : PySem.W.findIn K (.ref C_RawBag) "__setattr__" = some (some (.builtin "object.__setattr__")))
    (mkRawBag : PySem.W.makesIn K C_RawBag = true)
    (kBRawBag : PySem.W.keepIn K (.ref C_RawBag) = true)
    (n1RawBag : PySem.W.findIn K (.ref C_RawBag) "clock" = some none)
    (n2RawBag : PySem.W.findIn K (.ref C_RawBag) "sparse" = some none)
    (n3RawBag : PySem.W.findIn K (.ref C_RawBag) "kept" = some none)
    (n4RawBag : PySem.W.findIn K (.ref C_RawBag) "words" = some none)
    (ccRawBag : PySem.W.findIn K (.ref C_RawBag) "__class__" = some (some (.builtin "object.__class__")))
    (coRawBag : PySem.W.mroIn K C_RawBag (.type "object") = some true)
    (icRawBag : PySem.W.isClsIn K C_RawBag = true)
    (tcRawBag : PySem.W.typeIn K (.ref C_RawBag) = some (.type "type"))
    (neRawBag : PySem.W.findIn K (.ref C_RawBag) "__ne__" = some (some (.builtin "object.__ne__")))
    (eqRawBag : PySem.W.findIn K (.ref C_RawBag) "__eq__" = some (some (.ref f_Bag_eq)))
    (kpRawBag : PySem.W.findIn K (.ref C_RawBag) "keep" = some (some (.ref f_Bag_keep)))
    (u_NoneType_RawBag : PySem.W.subIn K (.type "NoneType") (.ref C_RawBag) = some false)
    (u_bool_RawBag : PySem.W.subIn K (.type "bool") (.ref C_RawBag) = some false)
    (u_int_RawBag : PySem.W.subIn K (.type "int") (.ref C_RawBag) = some false)
    (u_str_RawBag : PySem.W.subIn K (.type "str") (.ref C_RawBag) = some false)
    (u_list_RawBag : PySem.W.subIn K (.type "list") (.ref C_RawBag) = some false)
    (u_tuple_RawBag : PySem.W.subIn K (.type "tuple") (.ref C_RawBag) = some false)
    (u_dict_RawBag : PySem.W.subIn K (.type "dict") (.ref C_RawBag) = some false)
    (sRB : PySem.W.subIn K (.ref C_RawBag) (.ref C_Bag) = some true)
    (sBR : PySem.W.subIn K (.ref C_Bag) (.ref C_RawBag) = some false)
    (dRB : C_RawBag ≠ C_Bag)
    (b_isinstance : PySem.W.nsIn K mainGlobals "isinstance" = some none)
    (b_int : PySem.W.nsIn K mainGlobals "int" = some none)
    (b_bool : PySem.W.nsIn K mainGlobals "bool" = some none)
    (b_str : PySem.W.nsIn K mainGlobals "str" = some none)
    (b_dict : PySem.W.nsIn K mainGlobals "dict" = some none)
    (b_list : PySem.W.nsIn K mainGlobals "list" = some none)
    (b_tuple : PySem.W.nsIn K mainGlobals "tuple" = some none)
    (b_len : PySem.W.nsIn K mainGlobals "len" = some none)
    (b_abs : PySem.W.nsIn K mainGlobals "abs" = some none)
    (b_all : PySem.W.nsIn K mainGlobals "all" = some none)
    (b_any : PySem.W.nsIn K mainGlobals "any" = some none)
    (b_max : PySem.W.nsIn K mainGlobals "max" = some none)
    (b_min : PySem.W.nsIn K mainGlobals "min" = some none)
    (b_range : PySem.W.nsIn K mainGlobals "range" = some none)
    (b_sorted : PySem.W.nsIn K mainGlobals "sorted" = some none)
    (b_sum : PySem.W.nsIn K mainGlobals "sum" = some none)
    (b_zip : PySem.W.nsIn K mainGlobals "zip" = some none)
    (b_enumerate : PySem.W.nsIn K mainGlobals "enumerate" = some none)
    (b_repr : PySem.W.nsIn K mainGlobals "repr" = some none)
    (b_set : PySem.W.nsIn K mainGlobals "set" = some none)
    (g1 : PySem.W.nsIn K mainGlobals "LETTERS" = some (some (.str "xyz" t1)))
    (g2 : PySem.W.nsIn K mainGlobals "MOST_LETTERS" = some (some (.int 12 t2)))
    (g3 : PySem.W.nsIn K mainGlobals "MOST_WORDS" = some (some (.int 300 t3)))
    (g4 : PySem.W.nsIn K mainGlobals "CLOCKS" = some (some (.ref aC)))
    (l4 : K.lookup aC = some ⟨.type "tuple", od4, .seq #[.int 2 t4, .int 3 t5, .int 5 t6, .int 7 t7] n4', sl4⟩)
    (g_MOST_BAGS : PySem.W.nsIn K mainGlobals "MOST_BAGS" = some (some (.int 6 t_MOST_BAGS)))
    : ∃ fd : FuncData, (∀ (s : Shared) (v : Value), BindsTo s fd ⟨[v], []⟩ [("_law_script", v)]) ∧ ∀ base : Heap, K.In base → base.Ns mainGlobals mg → FnOk l.prog w K mg base CX0 13 fa fd ["_law_script"] (sp_law K) := by
  have e := hfa.symm.trans (PySem.W.mg_of X G a_law)
  cases e
  have hplBag : ∀ t ∈ (["NoneType", "bool", "int", "str", "list", "tuple", "dict"] : List String), PySem.W.subIn K (.type t) (.ref C_Bag) = some false := by
    intro t ht
    simp only [List.mem_cons, List.not_mem_nil, or_false] at ht
    rcases ht with rfl | rfl | rfl | rfl | rfl | rfl | rfl
    · exact u_NoneType_Bag
    · exact u_bool_Bag
    · exact u_int_Bag
    · exact u_str_Bag
    · exact u_list_Bag
    · exact u_tuple_Bag
    · exact u_dict_Bag
  have hplRawBag : ∀ t ∈ (["NoneType", "bool", "int", "str", "list", "tuple", "dict"] : List String), PySem.W.subIn K (.type t) (.ref C_RawBag) = some false := by
    intro t ht
    simp only [List.mem_cons, List.not_mem_nil, or_false] at ht
    rcases ht with rfl | rfl | rfl | rfl | rfl | rfl | rfl
    · exact u_NoneType_RawBag
    · exact u_bool_RawBag
    · exact u_int_RawBag
    · exact u_str_RawBag
    · exact u_list_RawBag
    · exact u_tuple_RawBag
    · exact u_dict_RawBag
  have T : Txt K mg C_Bag (fun C => C = C_Bag ∨ C = C_RawBag) := {
    b_isinstance := PySem.W.mg_none_of X G b_isinstance
    b_int := PySem.W.mg_none_of X G b_int
    b_bool := PySem.W.mg_none_of X G b_bool
    b_str := PySem.W.mg_none_of X G b_str
    b_dict := PySem.W.mg_none_of X G b_dict
    b_list := PySem.W.mg_none_of X G b_list
    b_tuple := PySem.W.mg_none_of X G b_tuple
    b_len := PySem.W.mg_none_of X G b_len
    b_abs := PySem.W.mg_none_of X G b_abs
    b_all := PySem.W.mg_none_of X G b_all
    b_any := PySem.W.mg_none_of X G b_any
    b_max := PySem.W.mg_none_of X G b_max
    b_min := PySem.W.mg_none_of X G b_min
    b_range := PySem.W.mg_none_of X G b_range
    b_sorted := PySem.W.mg_none_of X G b_sorted
    b_sum := PySem.W.mg_none_of X G b_sum
    b_zip := PySem.W.mg_none_of X G b_zip
    b_enumerate := PySem.W.mg_none_of X G b_enumerate
    b_repr := PySem.W.mg_none_of X G b_repr
    b_set := PySem.W.mg_none_of X G b_set
    g_LETTERS := ⟨_, PySem.W.mg_of X G g1⟩
    g_MOST_LETTERS := ⟨_, PySem.W.mg_of X G g2⟩
    g_MOST_WORDS := ⟨_, PySem.W.mg_of X G g3⟩
    g_CLOCKS := ⟨aC, PySem.W.mg_of X G g4, .inr ⟨_, _, _, l4, rfl, rfl, Nat.le_of_ble_eq_true rfl, .cons ⟨_, rfl⟩ (.cons ⟨_, rfl⟩ (.cons ⟨_, rfl⟩ (.cons ⟨_, rfl⟩ .nil)))⟩⟩
    c_Bag := PySem.W.mg_of X G nsBag
    cls := fun C e => e.elim (fun e => by rw [e]; exact ⟨pgBag, hdBag, poBag, saBag⟩) (fun e => by rw [e]; exact ⟨pgRawBag, hdRawBag, poRawBag, saRawBag⟩)
    n_clock := fun C e => e.elim (fun e => by rw [e]; exact n1Bag) (fun e => by rw [e]; exact n1RawBag)
    n_sparse := fun C e => e.elim (fun e => by rw [e]; exact n2Bag) (fun e => by rw [e]; exact n2RawBag)
    n_kept := fun C e => e.elim (fun e => by rw [e]; exact n3Bag) (fun e => by rw [e]; exact n3RawBag)
    n_words := fun C e => e.elim (fun e => by rw [e]; exact n4Bag) (fun e => by rw [e]; exact n4RawBag)
    c_class := fun C e => e.elim (fun e => by rw [e]; exact ccBag) (fun e => by rw [e]; exact ccRawBag)
    c_get := cg
    c_takes := ct
    c_obj := fun C e => e.elim (fun e => by rw [e]; exact coBag) (fun e => by rw [e]; exact coRawBag)
    c_isB := fun C e => e.elim (fun e => by rw [e]; exact kit_self) (fun e => by rw [e]; exact kit_sub icBag tcBag sRB)
    c_base := .inl rfl
    c_pl := fun C e t ht => e.elim (fun e => by rw [e]; exact first_not (hplBag t ht)) (fun e => by rw [e]; exact first_not (hplRawBag t ht))
    c_two := fun C D e1 e2 => by
      rcases e1 with rfl | rfl <;> rcases e2 with rfl | rfl
      · exact .inl first_self
      · exact .inr ⟨dRB, sRB⟩
      · exact .inl (first_not sBR)
      · exact .inl first_self
    c_nb := fun t ht => kit_not icBag tcBag (hplBag t ht) }
  have G_MOST_BAGS : ∃ t, mg "MOST_BAGS" = some (.int 6 t) := ⟨_, PySem.W.mg_of X G g_MOST_BAGS⟩
  have F_law_hand := fun_mk (st := s_law_hand) l_law_hand c_law_hand k_law_hand
  have B_law_hand := F_law_hand.binds (ps := ["_law_script"]) fun _ _ _ _ _ _ us hl => match us, hl with | [_], _ => rfl
  have F_law_draw := fun_mk (st := s_law_draw) l_law_draw c_law_draw k_law_draw
  have B_law_draw := F_law_draw.binds (ps := ["_law_hand_here", "_law_many"]) fun _ _ _ _ _ _ us hl => match us, hl with | [_, _], _ => rfl
  have F_law_clock := fun_mk (st := s_law_clock) l_law_clock c_law_clock k_law_clock
  have B_law_clock := F_law_clock.binds (ps := ["_law_hand_here"]) fun _ _ _ _ _ _ us hl => match us, hl with | [_], _ => rfl
  have F_law_word := fun_mk (st := s_law_word) l_law_word c_law_word k_law_word
  have B_law_word := F_law_word.binds (ps := ["_law_hand_here", "_law_letters", "_law_most"]) fun _ _ _ _ _ _ us hl => match us, hl with | [_, _, _], _ => rfl
  have F_law_lot := fun_mk (st := s_law_lot) l_law_lot c_law_lot k_law_lot
  have B_law_lot := F_law_lot.binds (ps := ["_law_hand_here", "_law_clock_here", "_law_letters", "_law_most", "_law_many"]) fun _ _ _ _ _ _ us hl => match us, hl with | [_, _, _, _, _], _ => rfl
  have F_law_small := fun_mk (st := s_law_small) l_law_small c_law_small k_law_small
  have B_law_small := F_law_small.binds (ps := ["_law_hand_here", "_law_clock_here"]) fun _ _ _ _ _ _ us hl => match us, hl with | [_, _], _ => rfl
  have F_law_put := fun_mk (st := s_law_put) l_law_put c_law_put k_law_put
  have B_law_put := F_law_put.binds (ps := ["_law_clock_here", "_law_bag", "_law_word_here", "_law_number"]) fun _ _ _ _ _ _ us hl => match us, hl with | [_, _, _, _], _ => rfl
  have F_law_product := fun_mk (st := s_law_product) l_law_product c_law_product k_law_product
  have B_law_product := F_law_product.binds (ps := ["_law_clock_here", "_law_one", "_law_other"]) fun _ _ _ _ _ _ us hl => match us, hl with | [_, _, _], _ => rfl
  have F_law_part := fun_mk (st := s_law_part) l_law_part c_law_part k_law_part
  have B_law_part := F_law_part.binds (ps := ["_law_hand_here", "_law_clock_here"]) fun _ _ _ _ _ _ us hl => match us, hl with | [_, _], _ => rfl
  have F_law_plus := fun_mk (st := s_law_plus) l_law_plus c_law_plus k_law_plus
  have B_law_plus := F_law_plus.binds (ps := ["_law_clock_here", "_law_one", "_law_other", "_law_factor"]) fun _ _ _ _ _ _ us hl => match us, hl with | [_, _, _, _], _ => rfl
  have F_law_row := fun_mk (st := s_law_row) l_law_row c_law_row k_law_row
  have B_law_row := F_law_row.binds (ps := ["_law_hand_here", "_law_clock_here"]) fun _ _ _ _ _ _ us hl => match us, hl with | [_, _], _ => rfl
  have F_law_order := fun_mk (st := s_law_order) l_law_order c_law_order k_law_order
  have B_law_order := F_law_order.binds (ps := ["_law_bag"]) fun _ _ _ _ _ _ us hl => match us, hl with | [_], _ => rfl
  have F_law_words := fun_mk (st := s_law_words) l_law_words c_law_words k_law_words
  have B_law_words := F_law_words.binds (ps := ["_law_bag"]) fun _ _ _ _ _ _ us hl => match us, hl with | [_], _ => rfl
  have F_law_is := fun_mk (st := s_law_is) l_law_is c_law_is k_law_is
  have B_law_is := F_law_is.binds (ps := ["_law_told", "_law_clock_here", "_law_bag"]) fun _ _ _ _ _ _ us hl => match us, hl with | [_, _, _], _ => rfl
  have F_law_starts := fun_mk (st := s_law_starts) l_law_starts c_law_starts k_law_starts
  have B_law_starts := F_law_starts.binds (ps := ["_law_words_here", "_law_word_here"]) fun _ _ _ _ _ _ us hl => match us, hl with | [_, _], _ => rfl
  have F_law_reduced := fun_mk (st := s_law_reduced) l_law_reduced c_law_reduced k_law_reduced
  have B_law_reduced := F_law_reduced.binds (ps := ["_law_clock_here", "_law_heads", "_law_bag"]) fun _ _ _ _ _ _ us hl => match us, hl with | [_, _, _], _ => rfl
  have F_law_plain := fun_mk (st := s_law_plain) l_law_plain c_law_plain k_law_plain
  have B_law_plain := F_law_plain.binds (ps := ["_law_clock_here", "_law_bag"]) fun _ _ _ _ _ _ us hl => match us, hl with | [_, _], _ => rfl
  have F_law_base := fun_mk (st := s_law_base) l_law_base c_law_base k_law_base
  have B_law_base := F_law_base.binds (ps := ["_law_clock_here", "_law_rows"]) fun _ _ _ _ _ _ us hl => match us, hl with | [_, _], _ => rfl
  have F_law_sum := fun_mk (st := s_law_sum) l_law_sum c_law_sum k_law_sum
  have B_law_sum := F_law_sum.binds (ps := ["_law_clock_here", "_law_rows", "_law_bags"]) fun _ _ _ _ _ _ us hl => match us, hl with | [_, _, _], _ => rfl
  have F_is_integer := fun_mk (st := s_is_integer) l_is_integer c_is_integer k_is_integer
  have B_is_integer := F_is_integer.binds (ps := ["thing"]) fun _ _ _ _ _ _ us hl => match us, hl with | [_], _ => rfl
  have F_is_clock := fun_mk (st := s_is_clock) l_is_clock c_is_clock k_is_clock
  have B_is_clock := F_is_clock.binds (ps := ["thing"]) fun _ _ _ _ _ _ us hl => match us, hl with | [_], _ => rfl
  have F_is_word := fun_mk (st := s_is_word) l_is_word c_is_word k_is_word
  have B_is_word := F_is_word.binds (ps := ["thing"]) fun _ _ _ _ _ _ us hl => match us, hl with | [_], _ => rfl
  have F_is_short_word := fun_mk (st := s_is_short_word) l_is_short_word c_is_short_word k_is_short_word
  have B_is_short_word := F_is_short_word.binds (ps := ["thing"]) fun _ _ _ _ _ _ us hl => match us, hl with | [_], _ => rfl
  have F_is_within := fun_mk (st := s_is_within) l_is_within c_is_within k_is_within
  have B_is_within := F_is_within.binds (ps := ["thing", "least", "most"]) fun _ _ _ _ _ _ us hl => match us, hl with | [_, _, _], _ => rfl
  have F_are_words := fun_mk (st := s_are_words) l_are_words c_are_words k_are_words
  have B_are_words := F_are_words.binds (ps := ["clock", "thing"]) fun _ _ _ _ _ _ us hl => match us, hl with | [_, _], _ => rfl
  have F_words_in_order := fun_mk (st := s_words_in_order) l_words_in_order c_words_in_order k_words_in_order
  have B_words_in_order := F_words_in_order.binds (ps := ["sparse"]) fun _ _ _ _ _ _ us hl => match us, hl with | [_], _ => rfl
  have F_Bag_keep := fun_mk (st := s_Bag_keep) l_Bag_keep c_Bag_keep k_Bag_keep
  have B_Bag_keep := F_Bag_keep.binds (ps := ["self", "clock", "sparse"]) fun _ _ _ _ _ _ us hl => match us, hl with | [_, _, _], _ => rfl
  have F_Bag_init := fun_mk (st := s_Bag_init) l_Bag_init c_Bag_init k_Bag_init
  have B_Bag_init := F_Bag_init.binds (ps := ["self", "clock", "words"]) fun _ _ _ _ _ _ us hl => match us, hl with | [_, _, _], _ => rfl
  have F_Bag_eq := fun_mk (st := s_Bag_eq) l_Bag_eq c_Bag_eq k_Bag_eq
  have B_Bag_eq := F_Bag_eq.binds (ps := ["self", "other"]) fun _ _ _ _ _ _ us hl => match us, hl with | [_, _], _ => rfl
  have F_is_listed := fun_mk (st := s_is_listed) l_is_listed c_is_listed k_is_listed
  have B_is_listed := F_is_listed.binds (ps := ["thing"]) fun _ _ _ _ _ _ us hl => match us, hl with | [_], _ => rfl
  have F_are_bags_alike := fun_mk (st := s_are_bags_alike) l_are_bags_alike c_are_bags_alike k_are_bags_alike
  have B_are_bags_alike := F_are_bags_alike.binds (ps := ["thing", "most"]) fun _ _ _ _ _ _ us hl => match us, hl with | [_, _], _ => rfl
  have F_check_row := fun_mk (st := s_check_row) l_check_row c_check_row k_check_row
  have B_check_row := F_check_row.binds (ps := ["thing"]) fun _ _ _ _ _ _ us hl => match us, hl with | [_], _ => rfl
  have F_check_clocks := fun_mk (st := s_check_clocks) l_check_clocks c_check_clocks k_check_clocks
  have B_check_clocks := F_check_clocks.binds (ps := ["one", "other"]) fun _ _ _ _ _ _ us hl => match us, hl with | [_, _], _ => rfl
  have F_RawBag_init := fun_mk (st := s_RawBag_init) l_RawBag_init c_RawBag_init k_RawBag_init
  have B_RawBag_init := F_RawBag_init.binds (ps := ["self", "clock", "sparse"]) fun _ _ _ _ _ _ us hl => match us, hl with | [_, _, _], _ => rfl
  have F_raw := fun_mk (st := s_raw) l_raw c_raw k_raw
  have B_raw := F_raw.binds (ps := ["clock", "sparse"]) fun _ _ _ _ _ _ us hl => match us, hl with | [_, _], _ => rfl
  have F_is_idle := fun_mk (st := s_is_idle) l_is_idle c_is_idle k_is_idle
  have B_is_idle := F_is_idle.binds (ps := ["row"]) fun _ _ _ _ _ _ us hl => match us, hl with | [_], _ => rfl
  have F_first_word := fun_mk (st := s_first_word) l_first_word c_first_word k_first_word
  have B_first_word := F_first_word.binds (ps := ["sparse"]) fun _ _ _ _ _ _ us hl => match us, hl with | [_], _ => rfl
  have F_leading := fun_mk (st := s_leading) l_leading c_leading k_leading
  have B_leading := F_leading.binds (ps := ["row"]) fun _ _ _ _ _ _ us hl => match us, hl with | [_], _ => rfl
  have F_hit_by := fun_mk (st := s_hit_by) l_hit_by c_hit_by k_hit_by
  have B_hit_by := F_hit_by.binds (ps := ["base", "at", "word"]) fun _ _ _ _ _ _ us hl => match us, hl with | [_, _, _], _ => rfl
  have F_put_to := fun_mk (st := s_put_to) l_put_to c_put_to k_put_to
  have B_put_to := F_put_to.binds (ps := ["clock", "sparse", "word", "number"]) fun _ _ _ _ _ _ us hl => match us, hl with | [_, _, _, _], _ => rfl
  have F_added := fun_mk (st := s_added) l_added c_added k_added
  have B_added := F_added.binds (ps := ["clock", "one", "other", "factor"]) fun _ _ _ _ _ _ us hl => match us, hl with | [_, _, _, _], _ => rfl
  have F_with_behind := fun_mk (st := s_with_behind) l_with_behind c_with_behind k_with_behind
  have B_with_behind := F_with_behind.binds (ps := ["clock", "sparse", "word", "number"]) fun _ _ _ _ _ _ us hl => match us, hl with | [_, _, _, _], _ => rfl
  have F_taken_off := fun_mk (st := s_taken_off) l_taken_off c_taken_off k_taken_off
  have B_taken_off := F_taken_off.binds (ps := ["clock", "row", "other", "tail", "number"]) fun _ _ _ _ _ _ us hl => match us, hl with | [_, _, _, _, _], _ => rfl
  have F_inverse := fun_mk (st := s_inverse) l_inverse c_inverse k_inverse
  have B_inverse := F_inverse.binds (ps := ["clock", "number"]) fun _ _ _ _ _ _ us hl => match us, hl with | [_, _], _ => rfl
  have F_scaled := fun_mk (st := s_scaled) l_scaled c_scaled k_scaled
  have B_scaled := F_scaled.binds (ps := ["clock", "sparse", "factor"]) fun _ _ _ _ _ _ us hl => match us, hl with | [_, _, _], _ => rfl
  have F_made_leading := fun_mk (st := s_made_leading) l_made_leading c_made_leading k_made_leading
  have B_made_leading := F_made_leading.binds (ps := ["clock", "row"]) fun _ _ _ _ _ _ us hl => match us, hl with | [_, _], _ => rfl
  have F_led_free := fun_mk (st := s_led_free) l_led_free c_led_free k_led_free
  have B_led_free := F_led_free.binds (ps := ["clock", "rows"]) fun _ _ _ _ _ _ us hl => match us, hl with | [_, _], _ => rfl
  have F_ahead_key := fun_mk (st := s_ahead_key) l_ahead_key c_ahead_key k_ahead_key
  have B_ahead_key := F_ahead_key.binds (ps := ["word"]) fun _ _ _ _ _ _ us hl => match us, hl with | [_], _ => rfl
  have F_leading_key := fun_mk (st := s_leading_key) l_leading_key c_leading_key k_leading_key
  have B_leading_key := F_leading_key.binds (ps := ["row"]) fun _ _ _ _ _ _ us hl => match us, hl with | [_], _ => rfl
  have F_first_hit := fun_mk (st := s_first_hit) l_first_hit c_first_hit k_first_hit
  have B_first_hit := F_first_hit.binds (ps := ["base", "row"]) fun _ _ _ _ _ _ us hl => match us, hl with | [_, _], _ => rfl
  have F_reduced := fun_mk (st := s_reduced) l_reduced c_reduced k_reduced
  have B_reduced := F_reduced.binds (ps := ["clock", "base", "row"]) fun _ _ _ _ _ _ us hl => match us, hl with | [_, _, _], _ => rfl
  have F_reduced_base := fun_mk (st := s_reduced_base) l_reduced_base c_reduced_base k_reduced_base
  have B_reduced_base := F_reduced_base.binds (ps := ["clock", "rows"]) fun _ _ _ _ _ _ us hl => match us, hl with | [_, _], _ => rfl
  have F_row_base := fun_mk (st := s_row_base) l_row_base c_row_base k_row_base
  have B_row_base := F_row_base.binds (ps := ["bags"]) fun _ _ _ _ _ _ us hl => match us, hl with | [_], _ => rfl
  have F_rest := fun_mk (st := s_rest) l_rest c_rest k_rest
  have B_rest := F_rest.binds (ps := ["row", "bag"]) fun _ _ _ _ _ _ us hl => match us, hl with | [_, _], _ => rfl
  have F_together := fun_mk (st := s_together) l_together c_together k_together
  have B_together := F_together.binds (ps := ["one", "other"]) fun _ _ _ _ _ _ us hl => match us, hl with | [_, _], _ => rfl
  have F_law := fun_mk (st := s_law) l_law c_law k_law
  have B_law := F_law.binds (ps := ["_law_script"]) fun _ _ _ _ _ _ us hl => match us, hl with | [_], _ => rfl
  refine ⟨PySem.W.fnOf "law" "law" (defArgs s_law) (defBody s_law) (defScope s_law) .none kV_law dc_law pm_law an_law cd_law ct_law, fun s v => .of_eq rfl, fun base _ _ => ?_⟩
  have O_law_hand := ok_law_hand (P := l.prog) (w := w) (base := base)  F_law_hand T 
  have D_law_hand : DefOk l.prog w K mg base CX0 1 "_law_hand" ["_law_script"] _ := ⟨_, _, PySem.W.mg_of X G a_law_hand, k_law_hand, B_law_hand, O_law_hand⟩
  have O_law_draw := ok_law_draw (P := l.prog) (w := w) (base := base)  F_law_draw T 
  have D_law_draw : DefOk l.prog w K mg base CX0 1 "_law_draw" ["_law_hand_here", "_law_many"] _ := ⟨_, _, PySem.W.mg_of X G a_law_draw, k_law_draw, B_law_draw, O_law_draw⟩
  have O_law_clock := ok_law_clock (P := l.prog) (w := w) (base := base)  F_law_clock T D_law_draw
  have D_law_clock : DefOk l.prog w K mg base CX0 2 "_law_clock" ["_law_hand_here"] _ := ⟨_, _, PySem.W.mg_of X G a_law_clock, k_law_clock, B_law_clock, O_law_clock⟩
  have O_law_word := ok_law_word (P := l.prog) (w := w) (base := base)  F_law_word T D_law_draw
  have D_law_word : DefOk l.prog w K mg base CX0 2 "_law_word" ["_law_hand_here", "_law_letters", "_law_most"] _ := ⟨_, _, PySem.W.mg_of X G a_law_word, k_law_word, B_law_word, O_law_word⟩
  have O_law_lot := ok_law_lot (P := l.prog) (w := w) (base := base)  F_law_lot T D_law_draw D_law_word
  have D_law_lot : DefOk l.prog w K mg base CX0 3 "_law_lot" ["_law_hand_here", "_law_clock_here", "_law_letters", "_law_most", "_law_many"] _ := ⟨_, _, PySem.W.mg_of X G a_law_lot, k_law_lot, B_law_lot, O_law_lot⟩
  have O_law_smallI := ok_law_smallI (P := l.prog) (w := w) (base := base)  F_law_small T D_law_draw
  have D_law_smallI : DefOk l.prog w K mg base CX0 2 "_law_small" ["_law_hand_here", "_law_clock_here"] _ := ⟨_, _, PySem.W.mg_of X G a_law_small, k_law_small, B_law_small, O_law_smallI⟩
  have O_law_put := ok_law_put (P := l.prog) (w := w) (base := base)  F_law_put T 
  have D_law_put : DefOk l.prog w K mg base CX0 1 "_law_put" ["_law_clock_here", "_law_bag", "_law_word_here", "_law_number"] _ := ⟨_, _, PySem.W.mg_of X G a_law_put, k_law_put, B_law_put, O_law_put⟩
  have O_law_product := ok_law_product (P := l.prog) (w := w) (base := base)  F_law_product T D_law_put
  have D_law_product : DefOk l.prog w K mg base CX0 2 "_law_product" ["_law_clock_here", "_law_one", "_law_other"] _ := ⟨_, _, PySem.W.mg_of X G a_law_product, k_law_product, B_law_product, O_law_product⟩
  have O_law_part := ok_law_part (P := l.prog) (w := w) (base := base)  F_law_part T D_law_draw D_law_lot D_law_smallI D_law_product
  have D_law_part : DefOk l.prog w K mg base CX0 4 "_law_part" ["_law_hand_here", "_law_clock_here"] _ := ⟨_, _, PySem.W.mg_of X G a_law_part, k_law_part, B_law_part, O_law_part⟩
  have O_law_plus := ok_law_plus (P := l.prog) (w := w) (base := base)  F_law_plus T D_law_put
  have D_law_plus : DefOk l.prog w K mg base CX0 2 "_law_plus" ["_law_clock_here", "_law_one", "_law_other", "_law_factor"] _ := ⟨_, _, PySem.W.mg_of X G a_law_plus, k_law_plus, B_law_plus, O_law_plus⟩
  have O_law_row := ok_law_row (P := l.prog) (w := w) (base := base)  F_law_row T D_law_draw D_law_part D_law_plus D_law_product
  have D_law_row : DefOk l.prog w K mg base CX0 5 "_law_row" ["_law_hand_here", "_law_clock_here"] _ := ⟨_, _, PySem.W.mg_of X G a_law_row, k_law_row, B_law_row, O_law_row⟩
  have O_law_order := ok_law_order (P := l.prog) (w := w) (base := base)  F_law_order T 
  have D_law_order : DefOk l.prog w K mg base CX0 1 "_law_order" ["_law_bag"] _ := ⟨_, _, PySem.W.mg_of X G a_law_order, k_law_order, B_law_order, O_law_order⟩
  have O_law_words := ok_law_words (P := l.prog) (w := w) (base := base)  F_law_words T D_law_order
  have D_law_words : DefOk l.prog w K mg base CX0 2 "_law_words" ["_law_bag"] _ := ⟨_, _, PySem.W.mg_of X G a_law_words, k_law_words, B_law_words, O_law_words⟩
  have O_law_is := ok_law_is (P := l.prog) (w := w) (base := base)  F_law_is T D_law_words
  have D_law_is : DefOk l.prog w K mg base CX0 3 "_law_is" ["_law_told", "_law_clock_here", "_law_bag"] _ := ⟨_, _, PySem.W.mg_of X G a_law_is, k_law_is, B_law_is, O_law_is⟩
  have O_law_starts := ok_law_starts (P := l.prog) (w := w) (base := base)  F_law_starts T 
  have D_law_starts : DefOk l.prog w K mg base CX0 1 "_law_starts" ["_law_words_here", "_law_word_here"] _ := ⟨_, _, PySem.W.mg_of X G a_law_starts, k_law_starts, B_law_starts, O_law_starts⟩
  have O_law_reduced := ok_law_reduced (P := l.prog) (w := w) (base := base)  F_law_reduced T D_law_order D_law_starts D_law_product D_law_plus
  have D_law_reduced : DefOk l.prog w K mg base CX0 3 "_law_reduced" ["_law_clock_here", "_law_heads", "_law_bag"] _ := ⟨_, _, PySem.W.mg_of X G a_law_reduced, k_law_reduced, B_law_reduced, O_law_reduced⟩
  have O_law_plain := ok_law_plain (P := l.prog) (w := w) (base := base)  F_law_plain T D_law_order D_law_plus
  have D_law_plain : DefOk l.prog w K mg base CX0 3 "_law_plain" ["_law_clock_here", "_law_bag"] _ := ⟨_, _, PySem.W.mg_of X G a_law_plain, k_law_plain, B_law_plain, O_law_plain⟩
  have O_law_base := ok_law_base (P := l.prog) (w := w) (base := base)  F_law_base T D_law_plain D_law_order D_law_starts D_law_product D_law_plus D_law_reduced
  have D_law_base : DefOk l.prog w K mg base CX0 4 "_law_base" ["_law_clock_here", "_law_rows"] _ := ⟨_, _, PySem.W.mg_of X G a_law_base, k_law_base, B_law_base, O_law_base⟩
  have O_law_sum := ok_law_sum (P := l.prog) (w := w) (base := base)  F_law_sum T D_law_plus D_law_product
  have D_law_sum : DefOk l.prog w K mg base CX0 3 "_law_sum" ["_law_clock_here", "_law_rows", "_law_bags"] _ := ⟨_, _, PySem.W.mg_of X G a_law_sum, k_law_sum, B_law_sum, O_law_sum⟩
  have O_law_small := ok_law_small (P := l.prog) (w := w) (base := base)  F_law_small T D_law_draw
  have D_law_small : DefOk l.prog w K mg base CX0 2 "_law_small" ["_law_hand_here", "_law_clock_here"] _ := ⟨_, _, PySem.W.mg_of X G a_law_small, k_law_small, B_law_small, O_law_small⟩
  have O_is_integer := ok_is_integer (P := l.prog) (w := w) (base := base)  F_is_integer T 
  have D_is_integer : DefOk l.prog w K mg base CX0 1 "is_integer" ["thing"] _ := ⟨_, _, PySem.W.mg_of X G a_is_integer, k_is_integer, B_is_integer, O_is_integer⟩
  have O_is_clock := ok_is_clock (P := l.prog) (w := w) (base := base)  F_is_clock T D_is_integer
  have D_is_clock : DefOk l.prog w K mg base CX0 2 "is_clock" ["thing"] _ := ⟨_, _, PySem.W.mg_of X G a_is_clock, k_is_clock, B_is_clock, O_is_clock⟩
  have O_is_word := ok_is_word (P := l.prog) (w := w) (base := base)  F_is_word T 
  have D_is_word : DefOk l.prog w K mg base CX0 1 "is_word" ["thing"] _ := ⟨_, _, PySem.W.mg_of X G a_is_word, k_is_word, B_is_word, O_is_word⟩
  have O_is_short_word := ok_is_short_word (P := l.prog) (w := w) (base := base)  F_is_short_word T D_is_word
  have D_is_short_word : DefOk l.prog w K mg base CX0 2 "is_short_word" ["thing"] _ := ⟨_, _, PySem.W.mg_of X G a_is_short_word, k_is_short_word, B_is_short_word, O_is_short_word⟩
  have O_is_within := ok_is_within (P := l.prog) (w := w) (base := base)  F_is_within T D_is_integer
  have D_is_within : DefOk l.prog w K mg base CX0 2 "is_within" ["thing", "least", "most"] _ := ⟨_, _, PySem.W.mg_of X G a_is_within, k_is_within, B_is_within, O_is_within⟩
  have O_are_words := ok_are_words (P := l.prog) (w := w) (base := base)  F_are_words T D_is_short_word D_is_within
  have D_are_words : DefOk l.prog w K mg base CX0 3 "are_words" ["clock", "thing"] _ := ⟨_, _, PySem.W.mg_of X G a_are_words, k_are_words, B_are_words, O_are_words⟩
  have KF : KeyFn K mg := ⟨_, _, F_ahead_key, PySem.W.mg_of X G a_ahead_key, B_ahead_key⟩
  have O_words_in_order := ok_words_in_order (P := l.prog) (w := w) (base := base)  F_words_in_order T KF
  have D_words_in_order : DefOk l.prog w K mg base CX0 4 "words_in_order" ["sparse"] _ := ⟨_, _, PySem.W.mg_of X G a_words_in_order, k_words_in_order, B_words_in_order, O_words_in_order⟩
  have O_Bag_keep := ok_keep (P := l.prog) (w := w) (base := base)  F_Bag_keep T D_words_in_order
  have M_keep : MtOk l.prog w K mg base CX0 5 C_Bag "keep" ["self", "clock", "sparse"] _ := ⟨_, _, ⟨pgBag, hdBag, poBag, saBag⟩, ⟨kpBag, i_Bag_keep, k_Bag_keep⟩, B_Bag_keep, O_Bag_keep⟩
  have M_keepRawBag : MtOk l.prog w K mg base CX0 5 C_RawBag "keep" ["self", "clock", "sparse"] _ := ⟨_, _, ⟨pgRawBag, hdRawBag, poRawBag, saRawBag⟩, ⟨kpRawBag, i_Bag_keep, k_Bag_keep⟩, B_Bag_keep, O_Bag_keep⟩
  have O_Bag_init := ok_bag_init (P := l.prog) (w := w) (base := base)  F_Bag_init T D_is_clock D_are_words M_keep
  have K_Bag : MkOk l.prog w K mg base CX0 6 "Bag" C_Bag ["self", "clock", "words"] _ := ⟨_, _, ⟨mkBag, a_Bag_init, i_Bag_init, kBBag⟩, PySem.W.mg_of X G nsBag, B_Bag_init, O_Bag_init⟩
  have O_Bag_eq := ok_bag_eq (P := l.prog) (w := w) (base := base)  F_Bag_eq T 
  have E_Bag : EqOk l.prog w K mg base C_Bag (fun C => C = C_Bag ∨ C = C_RawBag) := ⟨_, _, O_Bag_eq, ⟨fun C e => e.elim (fun e => by rw [e]; exact eqBag) (fun e => by rw [e]; exact eqRawBag), fun C e => e.elim (fun e => by rw [e]; exact neBag) (fun e => by rw [e]; exact neRawBag), fun C e => e.elim (fun e => by rw [e]; exact coBag) (fun e => by rw [e]; exact coRawBag), i_Bag_eq⟩, B_Bag_eq⟩
  have O_is_listed := ok_is_listed (P := l.prog) (w := w) (base := base)  F_is_listed T 
  have D_is_listed : DefOk l.prog w K mg base CX0 1 "is_listed" ["thing"] _ := ⟨_, _, PySem.W.mg_of X G a_is_listed, k_is_listed, B_is_listed, O_is_listed⟩
  have O_are_bags_alike := ok_are_bags_alike (P := l.prog) (w := w) (base := base)  F_are_bags_alike T D_is_listed
  have D_are_bags_alike : DefOk l.prog w K mg base CX0 2 "are_bags_alike" ["thing", "most"] _ := ⟨_, _, PySem.W.mg_of X G a_are_bags_alike, k_are_bags_alike, B_are_bags_alike, O_are_bags_alike⟩
  have O_check_row := ok_check_row (P := l.prog) (w := w) (base := base)  F_check_row T G_MOST_BAGS D_are_bags_alike
  have D_check_row : DefOk l.prog w K mg base CX0 3 "check_row" ["thing"] _ := ⟨_, _, PySem.W.mg_of X G a_check_row, k_check_row, B_check_row, O_check_row⟩
  have O_check_clocks := ok_check_clocks (P := l.prog) (w := w) (base := base)  F_check_clocks T 
  have D_check_clocks : DefOk l.prog w K mg base CX0 1 "check_clocks" ["one", "other"] _ := ⟨_, _, PySem.W.mg_of X G a_check_clocks, k_check_clocks, B_check_clocks, O_check_clocks⟩
  have O_RawBag_init := ok_raw_init (P := l.prog) (w := w) (base := base)  F_RawBag_init T (.inr rfl) M_keepRawBag
  have K_RawBag : MkOk l.prog w K mg base CX0 6 "RawBag" C_RawBag ["self", "clock", "sparse"] _ := ⟨_, _, ⟨mkRawBag, a_RawBag_init, i_RawBag_init, kBRawBag⟩, PySem.W.mg_of X G nsRawBag, B_RawBag_init, O_RawBag_init⟩
  have O_raw := ok_raw (P := l.prog) (w := w) (base := base) (C_RawBag := C_RawBag) F_raw T K_RawBag
  have D_raw : DefOk l.prog w K mg base CX0 8 "raw" ["clock", "sparse"] _ := ⟨_, _, PySem.W.mg_of X G a_raw, k_raw, B_raw, O_raw⟩
  have O_is_idle := ok_is_idle (P := l.prog) (w := w) (base := base)  F_is_idle T 
  have D_is_idle : DefOk l.prog w K mg base CX0 1 "is_idle" ["row"] _ := ⟨_, _, PySem.W.mg_of X G a_is_idle, k_is_idle, B_is_idle, O_is_idle⟩
  have O_first_word := ok_first_word (P := l.prog) (w := w) (base := base)  F_first_word T KF
  have D_first_word : DefOk l.prog w K mg base CX0 4 "first_word" ["sparse"] _ := ⟨_, _, PySem.W.mg_of X G a_first_word, k_first_word, B_first_word, O_first_word⟩
  have O_leading := ok_leading (P := l.prog) (w := w) (base := base)  F_leading T D_first_word
  have D_leading : DefOk l.prog w K mg base CX0 5 "leading" ["row"] _ := ⟨_, _, PySem.W.mg_of X G a_leading, k_leading, B_leading, O_leading⟩
  have O_hit_by := ok_hit_by (P := l.prog) (w := w) (base := base)  F_hit_by T D_leading
  have D_hit_by : DefOk l.prog w K mg base CX0 6 "hit_by" ["base", "at", "word"] _ := ⟨_, _, PySem.W.mg_of X G a_hit_by, k_hit_by, B_hit_by, O_hit_by⟩
  have O_put_to := ok_put_to (P := l.prog) (w := w) (base := base)  F_put_to T 
  have D_put_to : DefOk l.prog w K mg base CX0 1 "put_to" ["clock", "sparse", "word", "number"] _ := ⟨_, _, PySem.W.mg_of X G a_put_to, k_put_to, B_put_to, O_put_to⟩
  have O_added := ok_added (P := l.prog) (w := w) (base := base)  F_added T D_put_to
  have D_added : DefOk l.prog w K mg base CX0 2 "added" ["clock", "one", "other", "factor"] _ := ⟨_, _, PySem.W.mg_of X G a_added, k_added, B_added, O_added⟩
  have O_with_behind := ok_with_behind (P := l.prog) (w := w) (base := base)  F_with_behind T 
  have D_with_behind : DefOk l.prog w K mg base CX0 1 "with_behind" ["clock", "sparse", "word", "number"] _ := ⟨_, _, PySem.W.mg_of X G a_with_behind, k_with_behind, B_with_behind, O_with_behind⟩
  have O_taken_off := ok_taken_off (P := l.prog) (w := w) (base := base)  F_taken_off T D_added D_with_behind
  have D_taken_off : DefOk l.prog w K mg base CX0 3 "taken_off" ["clock", "row", "other", "tail", "number"] _ := ⟨_, _, PySem.W.mg_of X G a_taken_off, k_taken_off, B_taken_off, O_taken_off⟩
  have O_inverse := ok_inverse (P := l.prog) (w := w) (base := base)  F_inverse T 
  have D_inverse : DefOk l.prog w K mg base CX0 1 "inverse" ["clock", "number"] _ := ⟨_, _, PySem.W.mg_of X G a_inverse, k_inverse, B_inverse, O_inverse⟩
  have O_scaled := ok_scaled (P := l.prog) (w := w) (base := base)  F_scaled T D_added
  have D_scaled : DefOk l.prog w K mg base CX0 3 "scaled" ["clock", "sparse", "factor"] _ := ⟨_, _, PySem.W.mg_of X G a_scaled, k_scaled, B_scaled, O_scaled⟩
  have O_made_leading := ok_made_leading (P := l.prog) (w := w) (base := base)  F_made_leading T D_leading D_inverse D_scaled
  have D_made_leading : DefOk l.prog w K mg base CX0 6 "made_leading" ["clock", "row"] _ := ⟨_, _, PySem.W.mg_of X G a_made_leading, k_made_leading, B_made_leading, O_made_leading⟩
  have O_led_free := ok_led_free (P := l.prog) (w := w) (base := base)  F_led_free T D_is_idle D_leading D_hit_by D_taken_off D_made_leading
  have D_led_free : DefOk l.prog w K mg base CX0 8 "led_free" ["clock", "rows"] _ := ⟨_, _, PySem.W.mg_of X G a_led_free, k_led_free, B_led_free, O_led_free⟩
  have O_ahead_key := ok_ahead_key (P := l.prog) (w := w) (base := base)  F_ahead_key T 
  have D_ahead_key : DefOk l.prog w K mg base CX0 1 "ahead_key" ["word"] _ := ⟨_, _, PySem.W.mg_of X G a_ahead_key, k_ahead_key, B_ahead_key, O_ahead_key⟩
  have O_leading_key := ok_leading_key (P := l.prog) (w := w) (base := base)  F_leading_key T D_leading D_ahead_key
  have D_leading_key : DefOk l.prog w K mg base CX0 6 "leading_key" ["row"] _ := ⟨_, _, PySem.W.mg_of X G a_leading_key, k_leading_key, B_leading_key, O_leading_key⟩
  have O_first_hit := ok_first_hit (P := l.prog) (w := w) (base := base)  F_first_hit T D_hit_by KF
  have D_first_hit : DefOk l.prog w K mg base CX0 7 "first_hit" ["base", "row"] _ := ⟨_, _, PySem.W.mg_of X G a_first_hit, k_first_hit, B_first_hit, O_first_hit⟩
  have O_reduced := ok_reduced (P := l.prog) (w := w) (base := base)  F_reduced T D_first_hit D_taken_off
  have D_reduced : DefOk l.prog w K mg base CX0 8 "reduced" ["clock", "base", "row"] _ := ⟨_, _, PySem.W.mg_of X G a_reduced, k_reduced, B_reduced, O_reduced⟩
  have O_reduced_base := ok_reduced_base (P := l.prog) (w := w) (base := base)  F_reduced_base T D_led_free D_leading_key D_reduced
  have D_reduced_base : DefOk l.prog w K mg base CX0 10 "reduced_base" ["clock", "rows"] _ := ⟨_, _, PySem.W.mg_of X G a_reduced_base, k_reduced_base, B_reduced_base, O_reduced_base⟩
  have O_row_base := ok_row_base (P := l.prog) (w := w) (base := base)  F_row_base T D_reduced_base
  have D_row_base : DefOk l.prog w K mg base CX0 11 "row_base" ["bags"] _ := ⟨_, _, PySem.W.mg_of X G a_row_base, k_row_base, B_row_base, O_row_base⟩
  have O_rest := ok_rest (P := l.prog) (w := w) (base := base)  F_rest T D_check_row D_check_clocks D_raw D_row_base D_reduced
  have D_rest : DefOk l.prog w K mg base CX0 12 "rest" ["row", "bag"] _ := ⟨_, _, PySem.W.mg_of X G a_rest, k_rest, B_rest, O_rest⟩
  have O_together := ok_together (P := l.prog) (w := w) (base := base)  F_together T D_check_clocks D_raw D_added
  have D_together : DefOk l.prog w K mg base CX0 9 "together" ["one", "other"] _ := ⟨_, _, PySem.W.mg_of X G a_together, k_together, B_together, O_together⟩
  exact ok_law F_law T  D_law_hand D_law_clock D_law_row D_law_lot D_law_part D_law_is D_law_reduced D_law_base D_law_sum D_law_small D_law_plus K_Bag E_Bag D_rest D_together
theorem walk {l : PySem.W.OpenLaw} {q : Program} {loose : List Str} {XP : (Str → Option Value) → Heap → Prop} {YP : World → Heap → Prop} {d : DefRec} {K : Params → PySem.W.Frag} (hn : l.most = some 63) (hdf : d.params.defaults = [])
    (hY : ∀ (w : World) (h : Heap), YP w h → (K w.params).In h)
    (F : ∀ (w : World) (mg : Str → Option Value) (fa : Addr) (h : Heap), (K w.params).In h → h.Ns mainGlobals mg → mg d.name = some (.ref fa) →
      ∃ fd : FuncData, (∀ (s : Shared) (u : Value), BindsTo s fd ⟨[u], []⟩ [("_law_script", u)]) ∧ ∀ base : Heap, (K w.params).In base → base.Ns mainGlobals mg → FnOk l.prog w (K w.params) mg base CX0 13 fa fd ["_law_script"] (sp_law (K w.params))) :
    PySem.W.WalkO q loose XP YP l.row.toRowW d [] (fun f vs => PySem.call f vs) :=
  L2.walk_of (n := 63) (k := 13) (x := "_law_script") (CX := fun _ => CX0) (sp := fun w => sp_law (K w.params)) hn (by decide) hdf ⟨rfl, by decide, by decide⟩ hY F (fun _ _ a ns hl _ hS => ⟨a, ns, rfl, hS, fun _ => rfl⟩) fun _ _ _ _ _ z => z
end Fp
open PySem PySem.W PyProof.Rows
set_option maxRecDepth 100000 in
set_option maxHeartbeats 0 in
theorem PySem.Challenge.cw_frontparts_k13_whole_rests_by_a_row_holds : PySem.Challenge.rw_frontparts_k13_whole_rests_by_a_row.Holds := by
  w_on; o_law; k_head; (case hw => w_witness2)
  k_fill
  refine Fp.walk (l := PySem.Challenge.rw_frontparts_k13_whole_rests_by_a_row) rfl rfl (fun w h Y => PySem.W.kIn_of Y) ?F
  case F =>
    intro w mg fa h KX G hmg
    refine' Fp.all_mk KX G hmg ?z_nsBag ?z_nsRawBag ?z_a_law_hand ?z_l_law_hand ?z_c_law_hand ?z_k_law_hand ?z_a_law_draw ?z_l_law_draw ?z_c_law_draw ?z_k_law_draw ?z_a_law_clock ?z_l_law_clock ?z_c_law_clock ?z_k_law_clock ?z_a_law_word ?z_l_law_word ?z_c_law_word ?z_k_law_word ?z_a_law_lot ?z_l_law_lot ?z_c_law_lot ?z_k_law_lot ?z_a_law_small ?z_l_law_small ?z_c_law_small ?z_k_law_small ?z_a_law_put ?z_l_law_put ?z_c_law_put ?z_k_law_put ?z_a_law_product ?z_l_law_product ?z_c_law_product ?z_k_law_product ?z_a_law_part ?z_l_law_part ?z_c_law_part ?z_k_law_part ?z_a_law_plus ?z_l_law_plus ?z_c_law_plus ?z_k_law_plus ?z_a_law_row ?z_l_law_row ?z_c_law_row ?z_k_law_row ?z_a_law_order ?z_l_law_order ?z_c_law_order ?z_k_law_order ?z_a_law_words ?z_l_law_words ?z_c_law_words ?z_k_law_words ?z_a_law_is ?z_l_law_is ?z_c_law_is ?z_k_law_is ?z_a_law_starts ?z_l_law_starts ?z_c_law_starts ?z_k_law_starts ?z_a_law_reduced ?z_l_law_reduced ?z_c_law_reduced ?z_k_law_reduced ?z_a_law_plain ?z_l_law_plain ?z_c_law_plain ?z_k_law_plain ?z_a_law_base ?z_l_law_base ?z_c_law_base ?z_k_law_base ?z_a_law_sum ?z_l_law_sum ?z_c_law_sum ?z_k_law_sum ?z_a_is_integer ?z_l_is_integer ?z_c_is_integer ?z_k_is_integer ?z_a_is_clock ?z_l_is_clock ?z_c_is_clock ?z_k_is_clock ?z_a_is_word ?z_l_is_word ?z_c_is_word ?z_k_is_word ?z_a_is_short_word ?z_l_is_short_word ?z_c_is_short_word ?z_k_is_short_word ?z_a_is_within ?z_l_is_within ?z_c_is_within ?z_k_is_within ?z_a_are_words ?z_l_are_words ?z_c_are_words ?z_k_are_words ?z_a_words_in_order ?z_l_words_in_order ?z_c_words_in_order ?z_k_words_in_order ?z_a_Bag_keep ?z_i_Bag_keep ?z_l_Bag_keep ?z_c_Bag_keep ?z_k_Bag_keep ?z_a_Bag_init ?z_i_Bag_init ?z_l_Bag_init ?z_c_Bag_init ?z_k_Bag_init ?z_a_Bag_eq ?z_i_Bag_eq ?z_l_Bag_eq ?z_c_Bag_eq ?z_k_Bag_eq ?z_a_is_listed ?z_l_is_listed ?z_c_is_listed ?z_k_is_listed ?z_a_are_bags_alike ?z_l_are_bags_alike ?z_c_are_bags_alike ?z_k_are_bags_alike ?z_a_check_row ?z_l_check_row ?z_c_check_row ?z_k_check_row ?z_a_check_clocks ?z_l_check_clocks ?z_c_check_clocks ?z_k_check_clocks ?z_a_RawBag_init ?z_i_RawBag_init ?z_l_RawBag_init ?z_c_RawBag_init ?z_k_RawBag_init ?z_a_raw ?z_l_raw ?z_c_raw ?z_k_raw ?z_a_is_idle ?z_l_is_idle ?z_c_is_idle ?z_k_is_idle ?z_a_first_word ?z_l_first_word ?z_c_first_word ?z_k_first_word ?z_a_leading ?z_l_leading ?z_c_leading ?z_k_leading ?z_a_hit_by ?z_l_hit_by ?z_c_hit_by ?z_k_hit_by ?z_a_put_to ?z_l_put_to ?z_c_put_to ?z_k_put_to ?z_a_added ?z_l_added ?z_c_added ?z_k_added ?z_a_with_behind ?z_l_with_behind ?z_c_with_behind ?z_k_with_behind ?z_a_taken_off ?z_l_taken_off ?z_c_taken_off ?z_k_taken_off ?z_a_inverse ?z_l_inverse ?z_c_inverse ?z_k_inverse ?z_a_scaled ?z_l_scaled ?z_c_scaled ?z_k_scaled ?z_a_made_leading ?z_l_made_leading ?z_c_made_leading ?z_k_made_leading ?z_a_led_free ?z_l_led_free ?z_c_led_free ?z_k_led_free ?z_a_ahead_key ?z_l_ahead_key ?z_c_ahead_key ?z_k_ahead_key ?z_a_leading_key ?z_l_leading_key ?z_c_leading_key ?z_k_leading_key ?z_a_first_hit ?z_l_first_hit ?z_c_first_hit ?z_k_first_hit ?z_a_reduced ?z_l_reduced ?z_c_reduced ?z_k_reduced ?z_a_reduced_base ?z_l_reduced_base ?z_c_reduced_base ?z_k_reduced_base ?z_a_row_base ?z_l_row_base ?z_c_row_base ?z_k_row_base ?z_a_rest ?z_l_rest ?z_c_rest ?z_k_rest ?z_a_together ?z_l_together ?z_c_together ?z_k_together ?z_a_law ?z_l_law ?z_c_law ?z_k_law ?z_cg ?z_ct ?z_pgBag ?z_hdBag ?z_poBag ?z_saBag ?z_mkBag ?z_kBBag ?z_n1Bag ?z_n2Bag ?z_n3Bag ?z_n4Bag ?z_ccBag ?z_coBag ?z_icBag ?z_tcBag ?z_neBag ?z_eqBag ?z_kpBag ?z_u_NoneType_Bag ?z_u_bool_Bag ?z_u_int_Bag ?z_u_str_Bag ?z_u_list_Bag ?z_u_tuple_Bag ?z_u_dict_Bag ?z_pgRawBag ?z_hdRawBag ?z_poRawBag ?z_saRawBag ?z_mkRawBag ?z_kBRawBag ?z_n1RawBag ?z_n2RawBag ?z_n3RawBag ?z_n4RawBag ?z_ccRawBag ?z_coRawBag ?z_icRawBag ?z_tcRawBag ?z_neRawBag ?z_eqRawBag ?z_kpRawBag ?z_u_NoneType_RawBag ?z_u_bool_RawBag ?z_u_int_RawBag ?z_u_str_RawBag ?z_u_list_RawBag ?z_u_tuple_RawBag ?z_u_dict_RawBag ?z_sRB ?z_sBR ?z_dRB ?z_b_isinstance ?z_b_int ?z_b_bool ?z_b_str ?z_b_dict ?z_b_list ?z_b_tuple ?z_b_len ?z_b_abs ?z_b_all ?z_b_any ?z_b_max ?z_b_min ?z_b_range ?z_b_sorted ?z_b_sum ?z_b_zip ?z_b_enumerate ?z_b_repr ?z_b_set ?z_g1 ?z_g2 ?z_g3 ?z_g4 ?z_l4 ?z_g_MOST_BAGS
    (case z_nsBag => k_is); (case z_nsRawBag => k_is); (case z_a_law_hand => k_is); (case z_l_law_hand => k_is); (case z_c_law_hand => k_is); (case z_k_law_hand => k_is); (case z_a_law_draw => k_is); (case z_l_law_draw => k_is); (case z_c_law_draw => k_is); (case z_k_law_draw => k_is); (case z_a_law_clock => k_is); (case z_l_law_clock => k_is); (case z_c_law_clock => k_is); (case z_k_law_clock => k_is); (case z_a_law_word => k_is); (case z_l_law_word => k_is); (case z_c_law_word => k_is); (case z_k_law_word => k_is); (case z_a_law_lot => k_is); (case z_l_law_lot => k_is); (case z_c_law_lot => k_is); (case z_k_law_lot => k_is); (case z_a_law_small => k_is); (case z_l_law_small => k_is); (case z_c_law_small => k_is); (case z_k_law_small => k_is); (case z_a_law_put => k_is); (case z_l_law_put => k_is); (case z_c_law_put => k_is); (case z_k_law_put => k_is); (case z_a_law_product => k_is); (case z_l_law_product => k_is); (case z_c_law_product => k_is); (case z_k_law_product => k_is); (case z_a_law_part => k_is); (case z_l_law_part => k_is); (case z_c_law_part => k_is); (case z_k_law_part => k_is); (case z_a_law_plus => k_is); (case z_l_law_plus => k_is); (case z_c_law_plus => k_is); (case z_k_law_plus => k_is); (case z_a_law_row => k_is); (case z_l_law_row => k_is); (case z_c_law_row => k_is); (case z_k_law_row => k_is); (case z_a_law_order => k_is); (case z_l_law_order => k_is); (case z_c_law_order => k_is); (case z_k_law_order => k_is); (case z_a_law_words => k_is); (case z_l_law_words => k_is); (case z_c_law_words => k_is); (case z_k_law_words => k_is); (case z_a_law_is => k_is); (case z_l_law_is => k_is); (case z_c_law_is => k_is); (case z_k_law_is => k_is); (case z_a_law_starts => k_is); (case z_l_law_starts => k_is); (case z_c_law_starts => k_is); (case z_k_law_starts => k_is); (case z_a_law_reduced => k_is); (case z_l_law_reduced => k_is); (case z_c_law_reduced => k_is); (case z_k_law_reduced => k_is); (case z_a_law_plain => k_is); (case z_l_law_plain => k_is); (case z_c_law_plain => k_is); (case z_k_law_plain => k_is); (case z_a_law_base => k_is); (case z_l_law_base => k_is); (case z_c_law_base => k_is); (case z_k_law_base => k_is); (case z_a_law_sum => k_is); (case z_l_law_sum => k_is); (case z_c_law_sum => k_is); (case z_k_law_sum => k_is); (case z_a_is_integer => k_is); (case z_l_is_integer => k_is); (case z_c_is_integer => k_is); (case z_k_is_integer => k_is); (case z_a_is_clock => k_is); (case z_l_is_clock => k_is); (case z_c_is_clock => k_is); (case z_k_is_clock => k_is); (case z_a_is_word => k_is); (case z_l_is_word => k_is); (case z_c_is_word => k_is); (case z_k_is_word => k_is); (case z_a_is_short_word => k_is); (case z_l_is_short_word => k_is); (case z_c_is_short_word => k_is); (case z_k_is_short_word => k_is); (case z_a_is_within => k_is); (case z_l_is_within => k_is); (case z_c_is_within => k_is); (case z_k_is_within => k_is); (case z_a_are_words => k_is); (case z_l_are_words => k_is); (case z_c_are_words => k_is); (case z_k_are_words => k_is); (case z_a_words_in_order => k_is); (case z_l_words_in_order => k_is); (case z_c_words_in_order => k_is); (case z_k_words_in_order => k_is); (case z_a_Bag_keep => k_is); (case z_i_Bag_keep => k_is); (case z_l_Bag_keep => k_is); (case z_c_Bag_keep => k_is); (case z_k_Bag_keep => k_is); (case z_a_Bag_init => k_is); (case z_i_Bag_init => k_is); (case z_l_Bag_init => k_is); (case z_c_Bag_init => k_is); (case z_k_Bag_init => k_is); (case z_a_Bag_eq => k_is); (case z_i_Bag_eq => k_is); (case z_l_Bag_eq => k_is); (case z_c_Bag_eq => k_is); (case z_k_Bag_eq => k_is); (case z_a_is_listed => k_is); (case z_l_is_listed => k_is); (case z_c_is_listed => k_is); (case z_k_is_listed => k_is); (case z_a_are_bags_alike => k_is); (case z_l_are_bags_alike => k_is); (case z_c_are_bags_alike => k_is); (case z_k_are_bags_alike => k_is); (case z_a_check_row => k_is); (case z_l_check_row => k_is); (case z_c_check_row => k_is); (case z_k_check_row => k_is); (case z_a_check_clocks => k_is); (case z_l_check_clocks => k_is); (case z_c_check_clocks => k_is); (case z_k_check_clocks => k_is); (case z_a_RawBag_init => k_is); (case z_i_RawBag_init => k_is); (case z_l_RawBag_init => k_is); (case z_c_RawBag_init => k_is); (case z_k_RawBag_init => k_is); (case z_a_raw => k_is); (case z_l_raw => k_is); (case z_c_raw => k_is); (case z_k_raw => k_is); (case z_a_is_idle => k_is); (case z_l_is_idle => k_is); (case z_c_is_idle => k_is); (case z_k_is_idle => k_is); (case z_a_first_word => k_is); (case z_l_first_word => k_is); (case z_c_first_word => k_is); (case z_k_first_word => k_is); (case z_a_leading => k_is); (case z_l_leading => k_is); (case z_c_leading => k_is); (case z_k_leading => k_is); (case z_a_hit_by => k_is); (case z_l_hit_by => k_is); (case z_c_hit_by => k_is); (case z_k_hit_by => k_is); (case z_a_put_to => k_is); (case z_l_put_to => k_is); (case z_c_put_to => k_is); (case z_k_put_to => k_is); (case z_a_added => k_is); (case z_l_added => k_is); (case z_c_added => k_is); (case z_k_added => k_is); (case z_a_with_behind => k_is); (case z_l_with_behind => k_is); (case z_c_with_behind => k_is); (case z_k_with_behind => k_is); (case z_a_taken_off => k_is); (case z_l_taken_off => k_is); (case z_c_taken_off => k_is); (case z_k_taken_off => k_is); (case z_a_inverse => k_is); (case z_l_inverse => k_is); (case z_c_inverse => k_is); (case z_k_inverse => k_is); (case z_a_scaled => k_is); (case z_l_scaled => k_is); (case z_c_scaled => k_is); (case z_k_scaled => k_is); (case z_a_made_leading => k_is); (case z_l_made_leading => k_is); (case z_c_made_leading => k_is); (case z_k_made_leading => k_is); (case z_a_led_free => k_is); (case z_l_led_free => k_is); (case z_c_led_free => k_is); (case z_k_led_free => k_is); (case z_a_ahead_key => k_is); (case z_l_ahead_key => k_is); (case z_c_ahead_key => k_is); (case z_k_ahead_key => k_is); (case z_a_leading_key => k_is); (case z_l_leading_key => k_is); (case z_c_leading_key => k_is); (case z_k_leading_key => k_is); (case z_a_first_hit => k_is); (case z_l_first_hit => k_is); (case z_c_first_hit => k_is); (case z_k_first_hit => k_is); (case z_a_reduced => k_is); (case z_l_reduced => k_is); (case z_c_reduced => k_is); (case z_k_reduced => k_is); (case z_a_reduced_base => k_is); (case z_l_reduced_base => k_is); (case z_c_reduced_base => k_is); (case z_k_reduced_base => k_is); (case z_a_row_base => k_is); (case z_l_row_base => k_is); (case z_c_row_base => k_is); (case z_k_row_base => k_is); (case z_a_rest => k_is); (case z_l_rest => k_is); (case z_c_rest => k_is); (case z_k_rest => k_is); (case z_a_together => k_is); (case z_l_together => k_is); (case z_c_together => k_is); (case z_k_together => k_is); (case z_a_law => k_is); (case z_l_law => k_is); (case z_c_law => k_is); (case z_k_law => k_is); (case z_cg => k_is); (case z_ct => k_is); (case z_pgBag => k_is); (case z_hdBag => k_is); (case z_poBag => k_is); (case z_saBag => k_is); (case z_mkBag => k_is); (case z_kBBag => k_is); (case z_n1Bag => k_is); (case z_n2Bag => k_is); (case z_n3Bag => k_is); (case z_n4Bag => k_is); (case z_ccBag => k_is); (case z_coBag => k_is); (case z_icBag => k_is); (case z_tcBag => k_is); (case z_neBag => k_is); (case z_eqBag => k_is); (case z_kpBag => k_is); (case z_u_NoneType_Bag => k_is); (case z_u_bool_Bag => k_is); (case z_u_int_Bag => k_is); (case z_u_str_Bag => k_is); (case z_u_list_Bag => k_is); (case z_u_tuple_Bag => k_is); (case z_u_dict_Bag => k_is); (case z_pgRawBag => k_is); (case z_hdRawBag => k_is); (case z_poRawBag => k_is); (case z_saRawBag => k_is); (case z_mkRawBag => k_is); (case z_kBRawBag => k_is); (case z_n1RawBag => k_is); (case z_n2RawBag => k_is); (case z_n3RawBag => k_is); (case z_n4RawBag => k_is); (case z_ccRawBag => k_is); (case z_coRawBag => k_is); (case z_icRawBag => k_is); (case z_tcRawBag => k_is); (case z_neRawBag => k_is); (case z_eqRawBag => k_is); (case z_kpRawBag => k_is); (case z_u_NoneType_RawBag => k_is); (case z_u_bool_RawBag => k_is); (case z_u_int_RawBag => k_is); (case z_u_str_RawBag => k_is); (case z_u_list_RawBag => k_is); (case z_u_tuple_RawBag => k_is); (case z_u_dict_RawBag => k_is); (case z_sRB => k_is); (case z_sBR => k_is); (case z_dRB => decide); (case z_b_isinstance => k_is); (case z_b_int => k_is); (case z_b_bool => k_is); (case z_b_str => k_is); (case z_b_dict => k_is); (case z_b_list => k_is); (case z_b_tuple => k_is); (case z_b_len => k_is); (case z_b_abs => k_is); (case z_b_all => k_is); (case z_b_any => k_is); (case z_b_max => k_is); (case z_b_min => k_is); (case z_b_range => k_is); (case z_b_sorted => k_is); (case z_b_sum => k_is); (case z_b_zip => k_is); (case z_b_enumerate => k_is); (case z_b_repr => k_is); (case z_b_set => k_is); (case z_g1 => k_is); (case z_g2 => k_is); (case z_g3 => k_is); (case z_g4 => k_is); (case z_l4 => k_is); (case z_g_MOST_BAGS => k_is)
