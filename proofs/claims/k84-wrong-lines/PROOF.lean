import PyProof.Rows.All
import Wide.All
import OpenK.AllK
import Wide.FinOn
import KE.SortKeyHeap
import HandS.ForMost
import HandS.ForExc
import HandS.More
import HandS.IsInst
import HandS.Style
import HandS.TupAny
import HandS.DictComp
import HandS.StrMore
import HandS.SortKw
import HandS.OwnEq
import PyProof.InstNe
import KE.DataEq
import HandS.Walk
import KE.KDictPairs
import HandS.ExcOwn
import HandS.TryOnly
import HandS.WordsExc
import HandS.ExcIs
import HandS.ExcCtx
import PyProof.StrLaws
import HandS.Ends
import PyProof.ReprRoads
import PyProof.CallFns
import HandS.Text
import HandS.EndTab
import KE.KLam
import HandS.ExcInit
import KE.KExcSuper
import PyProof.Rows.StrItems
import PyProof.StrLawsChain
import HandS.List
import HandS.TryMany
import HandS.ExcField
import PySem.Challenge.RW_frontparts_k84_wrong_lines_of_rows
set_option Elab.async false
set_option maxRecDepth 100000
set_option maxHeartbeats 4000000
set_option linter.all false
/-! Bags as lists of words with numbers: the mirror of the dicts, and its algebra. -/
namespace Fp
open PySem

abbrev Bg := List (Str × Int)
def getS (s : Bg) (w : Str) : Option Int := (s.find? fun kv => decide (kv.1 = w)).map (·.2)
def cf (s : Bg) (w : Str) : Int := (getS s w).getD 0
def putS (s : Bg) (w : Str) (n : Int) : Bg := if (s.any fun kv => decide (kv.1 = w)) = true then s.map (fun kv => if kv.1 = w then (kv.1, n) else kv) else s ++ [(w, n)]
def dropS (s : Bg) (w : Str) : Bg := s.filter fun kv => decide (kv.1 ≠ w)
def addTo (p : Int) (s : Bg) (w : Str) (n : Int) : Bg :=
  if (cf s w + n) % p = 0 then dropS s w else putS s w ((cf s w + n) % p)
def plusS (p : Int) (s t : Bg) (f : Int) : Bg := t.foldl (fun acc kv => addTo p acc kv.1 (f * kv.2)) s
def prodRow (p : Int) (acc : Bg) (a : Str × Int) (t : Bg) : Bg := t.foldl (fun acc b => addTo p acc (a.1 ++ b.1) (a.2 * b.2)) acc
def prodS (p : Int) (s t : Bg) : Bg := s.foldl (fun acc a => prodRow p acc a t) []
def keys (s : Bg) : List Str := s.map (·.1)

structure Good (p : Int) (s : Bg) : Prop where
  nd : (keys s).Nodup
  lo : ∀ kv ∈ s, 0 < kv.2
  hi : ∀ kv ∈ s, kv.2 < p

theorem getS_nil (w : Str) : getS [] w = none := rfl
theorem getS_pos {q : Str × Int} {r : Bg} {w : Str} (e : q.1 = w) : getS (q :: r) w = some q.2 := by simp [getS, List.find?_cons, e]
theorem getS_neg {q : Str × Int} {r : Bg} {w : Str} (e : ¬ q.1 = w) : getS (q :: r) w = getS r w := by simp [getS, List.find?_cons, e]
theorem cf_nil (w : Str) : cf [] w = 0 := rfl
theorem cf_pos {q : Str × Int} {r : Bg} {w : Str} (e : q.1 = w) : cf (q :: r) w = q.2 := by unfold cf; rw [getS_pos e]; rfl
theorem cf_neg {q : Str × Int} {r : Bg} {w : Str} (e : ¬ q.1 = w) : cf (q :: r) w = cf r w := by unfold cf; rw [getS_neg e]
theorem getS_any (w : Str) : ∀ s : Bg, (s.any fun kv => decide (kv.1 = w)) = (getS s w).isSome
  | [] => rfl
  | q :: r => by
    rw [List.any_cons]
    by_cases e : q.1 = w
    · simp only [getS_pos e, decide_eq_true e, Bool.true_or, Option.isSome_some]
    · rw [getS_neg e, decide_eq_false e, Bool.false_or]; exact getS_any w r
theorem getS_mem {w : Str} {n : Int} : ∀ {s : Bg}, getS s w = some n → (w, n) ∈ s
  | q :: r, h => by
    by_cases e : q.1 = w
    · rw [getS_pos e] at h
      cases h
      subst e
      exact List.mem_cons_self
    · rw [getS_neg e] at h
      exact List.mem_cons_of_mem _ (getS_mem h)
theorem getS_of_mem {w : Str} {n : Int} : ∀ {s : Bg}, (keys s).Nodup → (w, n) ∈ s → getS s w = some n
  | q :: r, hn, h => by
    have hn' := List.nodup_cons.mp (show (q.1 :: keys r).Nodup from hn)
    rcases List.mem_cons.mp h with e | h
    · subst e
      exact getS_pos rfl
    · have ne : ¬ q.1 = w := fun e => hn'.1 (e ▸ List.mem_map.mpr ⟨_, h, rfl⟩)
      rw [getS_neg ne]
      exact getS_of_mem hn'.2 h
theorem getS_none {w : Str} : ∀ {s : Bg}, getS s w = none ↔ w ∉ keys s
  | [] => by simp [getS, keys]
  | q :: r => by
    by_cases e : q.1 = w
    · rw [getS_pos e]
      constructor
      · intro h; cases h
      · intro h; exact absurd (by rw [← e]; exact List.mem_cons_self) h
    · rw [getS_neg e]
      have ih := getS_none (w := w) (s := r)
      rw [ih]
      unfold keys
      rw [List.map_cons, List.mem_cons]
      constructor
      · intro h z
        rcases z with z | z
        · exact e z.symm
        · exact h z
      · intro h z
        exact h (.inr z)
theorem mem_keys {w : Str} {s : Bg} : w ∈ keys s ↔ ∃ n, (w, n) ∈ s := by
  unfold keys
  rw [List.mem_map]
  constructor
  · rintro ⟨⟨u, n⟩, h, rfl⟩
    exact ⟨n, h⟩
  · rintro ⟨n, h⟩
    exact ⟨_, h, rfl⟩

theorem getS_map (w u : Str) (n : Int) : ∀ s : Bg, getS (s.map fun kv => if kv.1 = w then (kv.1, n) else kv) u = (getS s u).map fun x => if u = w then n else x
  | [] => rfl
  | q :: r => by
    have ih := getS_map w u n r
    rw [List.map_cons]
    by_cases h : q.1 = w
    · rw [if_pos h]
      by_cases h2 : q.1 = u
      · rw [getS_pos (q := (q.1, n)) h2, getS_pos h2]
        have e : u = w := h2 ▸ h
        simp [e]
      · rw [getS_neg (q := (q.1, n)) h2, getS_neg h2, ih]
    · rw [if_neg h]
      by_cases h2 : q.1 = u
      · rw [getS_pos h2, getS_pos h2]
        have e : ¬ u = w := fun z => h (h2.trans z)
        simp [e]
      · rw [getS_neg h2, getS_neg h2, ih]
theorem getS_snoc (w u : Str) (n : Int) : ∀ s : Bg, getS s w = none → getS (s ++ [(w, n)]) u = if u = w then some n else getS s u
  | [], _ => by
    by_cases e : w = u
    · rw [if_pos e.symm]; exact getS_pos (q := (w, n)) e
    · rw [if_neg (fun z => e z.symm)]; exact getS_neg (q := (w, n)) e
  | q :: r, hn => by
    rw [List.cons_append]
    by_cases h : q.1 = w
    · rw [getS_pos h] at hn; cases hn
    · rw [getS_neg h] at hn
      by_cases h2 : q.1 = u
      · rw [getS_pos h2, getS_pos h2, if_neg (fun z => h (h2.trans z))]
      · rw [getS_neg h2, getS_neg h2]
        exact getS_snoc w u n r hn
theorem getS_put (s : Bg) (w u : Str) (n : Int) : getS (putS s w n) u = if u = w then some n else getS s u := by
  unfold putS
  by_cases a : (s.any fun kv => decide (kv.1 = w)) = true
  · rw [if_pos a, getS_map]
    rw [getS_any] at a
    by_cases e : u = w
    · obtain ⟨x, hx⟩ := Option.isSome_iff_exists.mp a
      subst e
      rw [hx]
      simp
    · simp [e]
  · rw [if_neg a]
    rw [getS_any] at a
    exact getS_snoc w u n s (by cases h : getS s w with | none => rfl | some x => rw [h] at a; exact absurd rfl a)
theorem getS_drop (w u : Str) : ∀ s : Bg, getS (dropS s w) u = if u = w then none else getS s u
  | [] => by
    show getS [] u = _
    rw [getS_nil]
    split <;> rfl
  | q :: r => by
    have ih := getS_drop w u r
    unfold dropS at ih ⊢
    rw [List.filter_cons]
    by_cases h : q.1 = w
    · rw [if_neg (by simp [h])]
      rw [ih]
      by_cases e : u = w
      · rw [if_pos e, if_pos e]
      · rw [if_neg e, if_neg e, getS_neg (fun z => e (z.symm.trans h))]
    · rw [if_pos (by simp [h])]
      by_cases h2 : q.1 = u
      · rw [getS_pos h2, getS_pos h2, if_neg (fun z => h (h2.trans z))]
      · rw [getS_neg h2, getS_neg h2, ih]
theorem cf_put (s : Bg) (w u : Str) (n : Int) : cf (putS s w n) u = if u = w then n else cf s u := by
  unfold cf
  rw [getS_put]
  split <;> rfl
theorem cf_drop (s : Bg) (w u : Str) : cf (dropS s w) u = if u = w then 0 else cf s u := by
  unfold cf
  rw [getS_drop]
  split <;> rfl
theorem cf_addTo (p : Int) (s : Bg) (w u : Str) (n : Int) : cf (addTo p s w n) u = if u = w then (cf s w + n) % p else cf s u := by
  unfold addTo
  split
  · rename_i h
    rw [cf_drop, h]
  · rw [cf_put]

theorem keys_drop (s : Bg) (w : Str) : keys (dropS s w) = (keys s).filter fun u => decide (u ≠ w) := by
  unfold keys dropS
  induction s with
  | nil => rfl
  | cons q r ih =>
    rw [List.filter_cons, List.map_cons, List.filter_cons]
    by_cases h : q.1 = w
    · rw [if_neg (by simp [h]), if_neg (by simp [h])]
      exact ih
    · rw [if_pos (by simp [h]), if_pos (by simp [h]), List.map_cons, ih]
theorem keys_map_put (s : Bg) (w : Str) (n : Int) : keys (s.map fun kv => if kv.1 = w then (kv.1, n) else kv) = keys s := by
  unfold keys
  rw [List.map_map]
  refine List.map_congr_left fun q _ => ?_
  show (if q.1 = w then (q.1, n) else q).1 = q.1
  split <;> rfl
theorem keys_put (s : Bg) (w : Str) (n : Int) : keys (putS s w n) = if w ∈ keys s then keys s else keys s ++ [w] := by
  unfold putS
  rw [getS_any]
  by_cases h : w ∈ keys s
  · rw [if_pos h, if_pos (by cases e : getS s w with | none => exact absurd h (getS_none.mp e) | some x => rfl)]
    exact keys_map_put s w n
  · rw [if_neg h, if_neg (by rw [getS_none.mpr h]; simp)]
    unfold keys
    rw [List.map_append]
    rfl
theorem len_put (s : Bg) (w : Str) (n : Int) : (putS s w n).length ≤ s.length + 1 := by
  have e : (keys (putS s w n)).length ≤ (keys s).length + 1 := by
    rw [keys_put]
    split
    · omega
    · rw [List.length_append]; simp
  unfold keys at e
  rw [List.length_map, List.length_map] at e
  exact e
theorem len_drop (s : Bg) (w : Str) : (dropS s w).length ≤ s.length := List.length_filter_le _ _
theorem len_addTo (p : Int) (s : Bg) (w : Str) (n : Int) : (addTo p s w n).length ≤ s.length + 1 := by
  unfold addTo
  split
  · exact Nat.le_trans (len_drop s w) (Nat.le_succ _)
  · exact len_put _ _ _
theorem mem_keys_addTo {p : Int} {s : Bg} {w u : Str} {n : Int} (h : u ∈ keys (addTo p s w n)) : u ∈ keys s ∨ u = w := by
  unfold addTo at h
  split at h
  · rw [keys_drop] at h
    exact .inl (List.mem_filter.mp h).1
  · rw [keys_put] at h
    split at h
    · exact .inl h
    · rcases List.mem_append.mp h with h | h
      · exact .inl h
      · exact .inr (by simpa using h)

theorem nodup_put {s : Bg} {w : Str} {n : Int} (h : (keys s).Nodup) : (keys (putS s w n)).Nodup := by
  rw [keys_put]
  split
  · exact h
  · rename_i hn
    refine List.nodup_append.mpr ⟨h, by simp, ?_⟩
    intro a ha b hb
    have e : b = w := by simpa using hb
    subst e
    rintro rfl
    exact hn ha
theorem mem_put {s : Bg} {w : Str} {n : Int} {kv : Str × Int} (h : kv ∈ putS s w n) : kv ∈ s ∨ kv = (w, n) := by
  unfold putS at h
  split at h
  · obtain ⟨q, hq, e⟩ := List.mem_map.mp h
    split at e
    · rename_i hw
      exact .inr (by rw [← e, hw])
    · exact .inl (e ▸ hq)
  · rcases List.mem_append.mp h with h | h
    · exact .inl h
    · exact .inr (by simpa using h)

section
variable {p : Int} {s t u : Bg}
theorem Good.nil : Good p [] := ⟨List.nodup_nil, (fun _ h => nomatch h), (fun _ h => nomatch h)⟩
theorem Good.put {w : Str} {n : Int} (g : Good p s) (h0 : 0 < n) (h1 : n < p) : Good p (putS s w n) :=
  ⟨nodup_put g.nd, fun kv h => by
    rcases mem_put h with h | h
    · exact g.lo kv h
    · rw [h]; exact h0, fun kv h => by
    rcases mem_put h with h | h
    · exact g.hi kv h
    · rw [h]; exact h1⟩
theorem Good.drop {w : Str} (g : Good p s) : Good p (dropS s w) :=
  ⟨by rw [keys_drop]; exact g.nd.filter _, fun kv h => g.lo kv (List.mem_filter.mp h).1, fun kv h => g.hi kv (List.mem_filter.mp h).1⟩
theorem Good.addTo {w : Str} {n : Int} (hp : 0 < p) (g : Good p s) : Good p (addTo p s w n) := by
  unfold Fp.addTo
  split
  · exact g.drop
  · rename_i h
    have h1 := Int.emod_nonneg (cf s w + n) (Int.ne_of_gt hp)
    have h2 := Int.emod_lt_of_pos (cf s w + n) hp
    exact g.put (by omega) h2
theorem Good.plus {f : Int} (hp : 0 < p) (g : Good p s) (t : Bg) : Good p (plusS p s t f) := by
  unfold plusS
  induction t generalizing s with
  | nil => exact g
  | cons q r ih => exact ih (g.addTo hp)
theorem Good.row {a : Str × Int} (hp : 0 < p) (g : Good p s) (t : Bg) : Good p (prodRow p s a t) := by
  unfold prodRow
  induction t generalizing s with
  | nil => exact g
  | cons q r ih => exact ih (g.addTo hp)
theorem Good.prod (hp : 0 < p) (s t : Bg) : Good p (prodS p s t) := by
  unfold prodS
  have key : ∀ (s acc : Bg), Good p acc → Good p (s.foldl (fun acc a => prodRow p acc a t) acc) := by
    intro s
    induction s with
    | nil => intro acc g; exact g
    | cons q r ih => intro acc g; exact ih _ (g.row hp t)
  exact key s [] Good.nil

theorem cf_nonneg (g : Good p s) (w : Str) : 0 ≤ cf s w := by
  unfold cf
  cases e : getS s w with
  | none => exact Int.le_refl 0
  | some n => exact Int.le_of_lt (g.lo _ (getS_mem e))
theorem cf_lt (hp : 0 < p) (g : Good p s) (w : Str) : cf s w < p := by
  unfold cf
  cases e : getS s w with
  | none => exact hp
  | some n => exact g.hi _ (getS_mem e)
theorem cf_mod (hp : 0 < p) (g : Good p s) (w : Str) : cf s w % p = cf s w := Int.emod_eq_of_lt (cf_nonneg g w) (cf_lt hp g w)
theorem cf_ne (g : Good p s) {w : Str} : w ∈ keys s ↔ cf s w ≠ 0 := by
  constructor
  · intro h
    obtain ⟨n, hn⟩ := mem_keys.mp h
    have e := getS_of_mem g.nd hn
    have := g.lo _ hn
    unfold cf
    rw [e]
    show n ≠ 0
    have h0 : 0 < n := this
    omega
  · intro h
    apply Classical.byContradiction
    intro hn
    apply h
    unfold cf
    rw [getS_none.mpr hn]
    rfl
end

/-! ### sums over lists -/
def sumL {α : Type} (l : List α) (f : α → Int) : Int := (l.map f).sum
section
variable {α β : Type}
theorem sumL_nil (f : α → Int) : sumL [] f = 0 := rfl
theorem sumL_cons (a : α) (l : List α) (f : α → Int) : sumL (a :: l) f = f a + sumL l f := by unfold sumL; rw [List.map_cons, List.sum_cons]
theorem sumL_append (l m : List α) (f : α → Int) : sumL (l ++ m) f = sumL l f + sumL m f := by unfold sumL; rw [List.map_append, List.sum_append]
theorem sumL_map (l : List β) (g : β → α) (f : α → Int) : sumL (l.map g) f = sumL l fun b => f (g b) := by unfold sumL; rw [List.map_map]; rfl
theorem sumL_congr {l : List α} {f g : α → Int} (h : ∀ a ∈ l, f a = g a) : sumL l f = sumL l g := by unfold sumL; rw [List.map_congr_left h]
theorem sumL_zero {l : List α} {f : α → Int} (h : ∀ a ∈ l, f a = 0) : sumL l f = 0 := by
  induction l with
  | nil => rfl
  | cons a l ih => rw [sumL_cons, h a List.mem_cons_self, ih fun b hb => h b (List.mem_cons_of_mem _ hb)]; rfl
theorem sumL_add (l : List α) (f g : α → Int) : sumL l (fun a => f a + g a) = sumL l f + sumL l g := by
  induction l with
  | nil => rfl
  | cons a l ih => rw [sumL_cons, sumL_cons, sumL_cons, ih]; omega
theorem sumL_mul (l : List α) (c : Int) (f : α → Int) : sumL l (fun a => c * f a) = c * sumL l f := by
  induction l with
  | nil => rw [sumL_nil, sumL_nil, Int.mul_zero]
  | cons a l ih => rw [sumL_cons, sumL_cons, ih, Int.mul_add]
theorem sumL_mulr (l : List α) (c : Int) (f : α → Int) : sumL l (fun a => f a * c) = sumL l f * c := by
  induction l with
  | nil => rw [sumL_nil, sumL_nil, Int.zero_mul]
  | cons a l ih => rw [sumL_cons, sumL_cons, ih, Int.add_mul]
theorem sumL_swap (l : List α) (m : List β) (f : α → β → Int) : sumL l (fun a => sumL m fun b => f a b) = sumL m fun b => sumL l fun a => f a b := by
  induction l with
  | nil => rw [sumL_nil]; exact (sumL_zero fun b _ => rfl).symm
  | cons a l ih =>
    rw [sumL_cons, ih, ← sumL_add]
    exact sumL_congr fun b _ => (sumL_cons a l fun a => f a b).symm
theorem sumL_perm {l m : List α} (h : l.Perm m) (f : α → Int) : sumL l f = sumL m f := by
  induction h with
  | nil => rfl
  | cons a _ ih => rw [sumL_cons, sumL_cons, ih]
  | swap a b l => rw [sumL_cons, sumL_cons, sumL_cons, sumL_cons]; omega
  | trans _ _ i1 i2 => exact i1.trans i2
end
theorem emod_emod_add (a b p : Int) : (a % p + b) % p = (a + b) % p := by rw [Int.emod_add_emod]

/-! ### what an operation makes of the numbers -/
section
variable {p : Int} {s t u : Bg}
/-- the number at w of t, by all its entries -/
theorem sum_ind (hn : (keys t).Nodup) (w : Str) : sumL t (fun kv => if kv.1 = w then kv.2 else 0) = cf t w := by
  induction t with
  | nil => rfl
  | cons q r ih =>
    have hn' := List.nodup_cons.mp (show (q.1 :: keys r).Nodup from hn)
    rw [sumL_cons, ih hn'.2]
    by_cases e : q.1 = w
    · rw [if_pos e, cf_pos e]
      have : cf r w = 0 := by
        unfold cf
        rw [getS_none.mpr (e ▸ hn'.1)]
        rfl
      omega
    · rw [if_neg e, cf_neg e]; omega
theorem cf_fold (hp : 0 < p) {α : Type} (k : α → Str) (v : α → Int) (w : Str) : ∀ (l : List α) (s : Bg), Good p s →
    cf (l.foldl (fun acc a => addTo p acc (k a) (v a)) s) w = (cf s w + sumL l fun a => if k a = w then v a else 0) % p
  | [], s, g => by
    show cf s w = _
    rw [sumL_nil, Int.add_zero, cf_mod hp g]
  | a :: l, s, g => by
    rw [List.foldl_cons, cf_fold hp k v w l _ (g.addTo hp), cf_addTo, sumL_cons]
    by_cases e : k a = w
    · subst e
      rw [if_pos rfl, if_pos rfl, emod_emod_add, Int.add_assoc]
    · rw [if_neg (fun z => e z.symm), if_neg e, Int.zero_add]
theorem cf_plus (hp : 0 < p) (g : Good p s) (hn : (keys t).Nodup) (f : Int) (w : Str) : cf (plusS p s t f) w = (cf s w + f * cf t w) % p := by
  unfold plusS
  rw [cf_fold hp (fun kv : Str × Int => kv.1) (fun kv => f * kv.2) w t s g, ← sum_ind hn w, ← sumL_mul]
  congr 2
  refine sumL_congr fun kv _ => ?_
  split
  · rfl
  · rw [Int.mul_zero]
/-- all products that come to w -/
def cvS (s t : Bg) (w : Str) : Int := sumL s fun a => sumL t fun b => if a.1 ++ b.1 = w then a.2 * b.2 else 0
theorem cf_row (hp : 0 < p) (g : Good p s) (a : Str × Int) (w : Str) : cf (prodRow p s a t) w = (cf s w + sumL t fun b => if a.1 ++ b.1 = w then a.2 * b.2 else 0) % p := by
  unfold prodRow
  exact cf_fold hp (fun b : Str × Int => a.1 ++ b.1) (fun b => a.2 * b.2) w t s g
theorem cf_prod (hp : 0 < p) (s t : Bg) (w : Str) : cf (prodS p s t) w = cvS s t w % p := by
  unfold prodS cvS
  have key : ∀ (s acc : Bg), Good p acc → cf (s.foldl (fun acc a => prodRow p acc a t) acc) w = (cf acc w + sumL s fun a => sumL t fun b => if a.1 ++ b.1 = w then a.2 * b.2 else 0) % p := by
    intro s
    induction s with
    | nil => intro acc g; show cf acc w = _; rw [sumL_nil, Int.add_zero, cf_mod hp g]
    | cons q r ih =>
      intro acc g
      rw [List.foldl_cons, ih _ (g.row hp t), cf_row hp g, sumL_cons, emod_emod_add, Int.add_assoc]
  rw [key s [] Good.nil, cf_nil, Int.zero_add]

/-! ### sizes -/
theorem len_fold {α : Type} (k : α → Str) (v : α → Int) : ∀ (l : List α) (s : Bg), (l.foldl (fun acc a => addTo p acc (k a) (v a)) s).length ≤ s.length + l.length
  | [], s => Nat.le_refl _
  | a :: l, s => by
    rw [List.foldl_cons, List.length_cons]
    have h1 := len_fold k v l (addTo p s (k a) (v a))
    have h2 := len_addTo p s (k a) (v a)
    omega
theorem len_plus (f : Int) : (plusS p s t f).length ≤ s.length + t.length := len_fold (fun kv : Str × Int => kv.1) (fun kv => f * kv.2) t s
theorem len_row (a : Str × Int) : (prodRow p s a t).length ≤ s.length + t.length := len_fold (fun b : Str × Int => a.1 ++ b.1) (fun b => a.2 * b.2) t s
theorem len_prod : (prodS p s t).length ≤ s.length * t.length := by
  unfold prodS
  have key : ∀ (s acc : Bg), (s.foldl (fun acc a => prodRow p acc a t) acc).length ≤ acc.length + s.length * t.length := by
    intro s
    induction s with
    | nil => intro acc; show acc.length ≤ _; simp
    | cons q r ih =>
      intro acc
      rw [List.foldl_cons, List.length_cons, Nat.add_mul, Nat.one_mul]
      have h1 := ih (prodRow p acc q t)
      have h2 := len_row (p := p) (s := acc) (t := t) q
      omega
  have := key s []
  simpa using this
theorem keys_fold {α : Type} (k : α → Str) (v : α → Int) {w : Str} : ∀ (l : List α) (s : Bg), w ∈ keys (l.foldl (fun acc a => addTo p acc (k a) (v a)) s) → w ∈ keys s ∨ ∃ a ∈ l, w = k a
  | [], s, h => .inl h
  | a :: l, s, h => by
    rw [List.foldl_cons] at h
    rcases keys_fold k v l _ h with h | ⟨b, hb, e⟩
    · rcases mem_keys_addTo h with h | h
      · exact .inl h
      · exact .inr ⟨a, List.mem_cons_self, h⟩
    · exact .inr ⟨b, List.mem_cons_of_mem _ hb, e⟩
theorem keys_plus {f : Int} {w : Str} (h : w ∈ keys (plusS p s t f)) : w ∈ keys s ∨ w ∈ keys t := by
  rcases keys_fold (fun kv : Str × Int => kv.1) (fun kv => f * kv.2) t s h with h | ⟨a, ha, e⟩
  · exact .inl h
  · exact .inr (e ▸ List.mem_map.mpr ⟨a, ha, rfl⟩)
theorem keys_prod {w : Str} (h : w ∈ keys (prodS p s t)) : ∃ a ∈ keys s, ∃ b ∈ keys t, w = a ++ b := by
  unfold prodS at h
  have key : ∀ (s acc : Bg), w ∈ keys (s.foldl (fun acc a => prodRow p acc a t) acc) → w ∈ keys acc ∨ ∃ a ∈ keys s, ∃ b ∈ keys t, w = a ++ b := by
    intro s
    induction s with
    | nil => intro acc h; exact .inl h
    | cons q r ih =>
      intro acc h
      rw [List.foldl_cons] at h
      rcases ih _ h with h | ⟨a, ha, b, hb, e⟩
      · rcases keys_fold (fun b : Str × Int => q.1 ++ b.1) (fun b => q.2 * b.2) t acc h with h | ⟨b, hb, e⟩
        · exact .inl h
        · exact .inr ⟨q.1, List.mem_cons_self, b.1, List.mem_map.mpr ⟨b, hb, rfl⟩, e⟩
      · exact .inr ⟨a, List.mem_cons_of_mem _ ha, b, hb, e⟩
  rcases key s [] h with h | h
  · exact nomatch h
  · exact h
end
end Fp

/-! The order of words, the tuple of the words of a bag, and products as sums over partings. -/
namespace Fp
open PySem PySem.W

/-- what ahead_key tells -/
def keyD (w : Str) : PyData := .tuple [.int (-(w.length : Int)), .str w]
def leW : Str → Str → Bool := dataLe false keyD
theorem leW_eq (a b : Str) : leW a b = decide (b.length < a.length ∨ (a.length = b.length ∧ a.cps.toList ≤ b.cps.toList)) := by
  show (!dataLt (keyD b) (keyD a)) = _
  unfold keyD
  rw [dataLt_pair (by simp [alike]) (by simp [alike]), dataLt_int, dataLt_str]
  simp only [PyData.eqv, beq_iff_eq]
  by_cases h1 : (-(b.length : Int)) = -(a.length : Int)
  · rw [if_pos h1]
    have e : a.length = b.length := by omega
    by_cases h2 : b = a
    · subst h2
      simp
    · rw [if_neg h2, not_lt_str]
      have : ¬ b.length < a.length := by omega
      simp [e]
  · rw [if_neg h1]
    by_cases h3 : b.length < a.length
    · have : ¬ (-(b.length : Int)) < -(a.length : Int) := by omega
      simp [h3]
      omega
    · have : (-(b.length : Int)) < -(a.length : Int) := by omega
      simp [this, h3]
      omega
theorem leW_total : TotalLe leW := by
  unfold leW dataLe
  exact sortLe_total _ _ _
theorem str_ext {a b : Str} (h : a.cps.toList = b.cps.toList) : a = b := by
  have hc : a.cps = b.cps := Array.toList_inj.mp h
  cases a
  cases b
  cases hc
  rfl
theorem leW_anti {a b : Str} (h1 : leW a b = true) (h2 : leW b a = true) : a = b := by
  rw [leW_eq] at h1 h2
  have k1 := of_decide_eq_true h1
  have k2 := of_decide_eq_true h2
  have l1 : a.cps.toList ≤ b.cps.toList := by
    rcases k1 with k1 | k1
    · rcases k2 with k2 | k2 <;> omega
    · exact k1.2
  have l2 : b.cps.toList ≤ a.cps.toList := by
    rcases k2 with k2 | k2
    · rcases k1 with k1 | k1 <;> omega
    · exact k2.2
  exact str_ext (List.le_antisymm l1 l2)
/-- the words, each ahead of the next one -/
def ordW (ws : List Str) : List Str := ws.mergeSort leW
theorem ordW_perm (ws : List Str) : (ordW ws).Perm ws := List.mergeSort_perm _ _
theorem ordW_sorted (ws : List Str) : (ordW ws).Pairwise (fun a b => leW a b = true) := sort_pairwise leW_total ws
theorem ordW_congr {ws us : List Str} (h : ws.Perm us) : ordW ws = ordW us := by
  have hp : (ordW ws).Perm (ordW us) := ((ordW_perm ws).trans h).trans (ordW_perm us).symm
  exact List.Perm.eq_of_pairwise (le := fun a b => leW a b = true) (fun a b _ _ h1 h2 => leW_anti h1 h2) (ordW_sorted ws) (ordW_sorted us) hp
theorem ordW_len (ws : List Str) : (ordW ws).length = ws.length := (ordW_perm ws).length_eq
/-- the words of a bag with their numbers, in order -/
def wordsS (s : Bg) : Bg := (ordW (keys s)).map fun w => (w, cf s w)
theorem wordsS_len (s : Bg) : (wordsS s).length = s.length := by
  unfold wordsS
  rw [List.length_map, ordW_len]
  unfold keys
  rw [List.length_map]
/-- two bags with the same numbers have the same words -/
theorem keys_perm {p : Int} {s t : Bg} (gs : Good p s) (gt : Good p t) (h : ∀ w, cf s w = cf t w) : (keys s).Perm (keys t) := by
  refine (List.perm_ext_iff_of_nodup gs.nd gt.nd).mpr fun w => ?_
  rw [cf_ne gs, cf_ne gt, h w]
theorem wordsS_congr {p : Int} {s t : Bg} (gs : Good p s) (gt : Good p t) (h : ∀ w, cf s w = cf t w) : wordsS s = wordsS t := by
  unfold wordsS
  rw [ordW_congr (keys_perm gs gt h)]
  exact List.map_congr_left fun w _ => by rw [h w]
theorem wordsS_keys (s : Bg) : keys (wordsS s) = ordW (keys s) := by
  unfold wordsS keys
  rw [List.map_map]
  exact List.map_id' _
theorem wordsS_nodup {s : Bg} (h : (keys s).Nodup) : (keys (wordsS s)).Nodup := by
  rw [wordsS_keys]
  exact (ordW_perm _).nodup_iff.mpr h
theorem mem_wordsS {s : Bg} {w : Str} {n : Int} : (w, n) ∈ wordsS s ↔ w ∈ keys s ∧ n = cf s w := by
  unfold wordsS
  rw [List.mem_map]
  constructor
  · rintro ⟨u, hu, e⟩
    cases e
    exact ⟨(ordW_perm _).mem_iff.mp hu, rfl⟩
  · rintro ⟨h, rfl⟩
    exact ⟨w, (ordW_perm _).mem_iff.mpr h, rfl⟩
theorem cf_of_mem {s : Bg} {w : Str} {n : Int} (h : (keys s).Nodup) (m : (w, n) ∈ s) : cf s w = n := by
  unfold cf
  rw [getS_of_mem h m]
  rfl
theorem cf_not_mem {s : Bg} {w : Str} (h : w ∉ keys s) : cf s w = 0 := by
  unfold cf
  rw [getS_none.mpr h]
  rfl
theorem cf_wordsS {s : Bg} (h : (keys s).Nodup) (w : Str) : cf (wordsS s) w = cf s w := by
  by_cases hw : w ∈ keys s
  · exact cf_of_mem (wordsS_nodup h) (mem_wordsS.mpr ⟨hw, rfl⟩)
  · rw [cf_not_mem hw, cf_not_mem]
    rw [wordsS_keys]
    exact fun z => hw ((ordW_perm _).mem_iff.mp z)
theorem cf_congr_words {s t : Bg} (hs : (keys s).Nodup) (ht : (keys t).Nodup) (h : wordsS s = wordsS t) (w : Str) : cf s w = cf t w := by
  rw [← cf_wordsS hs, ← cf_wordsS ht, h]

/-! ### partings -/
/-- all ways to part a word in two -/
def parts : List Nat → List (List Nat × List Nat)
  | [] => [([], [])]
  | c :: v => ([], c :: v) :: (parts v).map fun q => (c :: q.1, q.2)
/-- F G at v -/
def conv (F G : List Nat → Int) (v : List Nat) : Int := sumL (parts v) fun q => F q.1 * G q.2
theorem conv_cons (F G : List Nat → Int) (c : Nat) (v : List Nat) : conv F G (c :: v) = F [] * G (c :: v) + conv (fun x => F (c :: x)) G v := by
  unfold conv
  rw [parts, sumL_cons, sumL_map]
theorem conv_nil (F G : List Nat → Int) : conv F G [] = F [] * G [] := by
  unfold conv
  rw [parts, sumL_cons, sumL_nil, Int.add_zero]
theorem conv_addl (F F' G : List Nat → Int) (v : List Nat) : conv (fun x => F x + F' x) G v = conv F G v + conv F' G v := by
  unfold conv
  rw [← sumL_add]
  exact sumL_congr fun q _ => Int.add_mul _ _ _
theorem conv_addr (F G G' : List Nat → Int) (v : List Nat) : conv F (fun x => G x + G' x) v = conv F G v + conv F G' v := by
  unfold conv
  rw [← sumL_add]
  exact sumL_congr fun q _ => Int.mul_add _ _ _
theorem conv_mull (c : Int) (F G : List Nat → Int) (v : List Nat) : conv (fun x => c * F x) G v = c * conv F G v := by
  unfold conv
  rw [← sumL_mul]
  exact sumL_congr fun q _ => Int.mul_assoc _ _ _
theorem conv_mulr (c : Int) (F G : List Nat → Int) (v : List Nat) : conv F (fun x => c * G x) v = c * conv F G v := by
  unfold conv
  rw [← sumL_mul]
  exact sumL_congr fun q _ => by rw [← Int.mul_assoc, Int.mul_comm (F q.1) c, Int.mul_assoc]
theorem conv_assoc (F G K : List Nat → Int) : ∀ v, conv (conv F G) K v = conv F (conv G K) v := by
  intro v
  induction v generalizing F with
  | nil => rw [conv_nil, conv_nil, conv_nil, conv_nil, Int.mul_assoc]
  | cons c v ih =>
    rw [conv_cons, conv_cons (F := F)]
    have e : (fun x => conv F G (c :: x)) = fun x => F [] * G (c :: x) + conv (fun y => F (c :: y)) G x := funext fun x => conv_cons F G c x
    rw [e, conv_addl, conv_mull, ih, conv_nil, conv_cons (F := G), Int.mul_add, Int.mul_assoc, Int.add_assoc]
theorem conv_congr {F F' G G' : List Nat → Int} (h1 : ∀ x, F x = F' x) (h2 : ∀ x, G x = G' x) (v : List Nat) : conv F G v = conv F' G' v := by
  rw [funext h1, funext h2]
theorem sumL_mod {α : Type} (p : Int) {l : List α} {f g : α → Int} (h : ∀ a ∈ l, f a % p = g a % p) : sumL l f % p = sumL l g % p := by
  induction l with
  | nil => rfl
  | cons a l ih =>
    rw [sumL_cons, sumL_cons, Int.add_emod, h a List.mem_cons_self, ih fun b hb => h b (List.mem_cons_of_mem _ hb), ← Int.add_emod]
theorem conv_mod {p : Int} {F F' G G' : List Nat → Int} (h1 : ∀ x, F x % p = F' x % p) (h2 : ∀ x, G x % p = G' x % p) (v : List Nat) : conv F G v % p = conv F' G' v % p := by
  refine sumL_mod p fun q _ => ?_
  rw [Int.mul_emod, h1, h2, ← Int.mul_emod]
def ofL (l : List Nat) : Str := ⟨l.toArray⟩
theorem ofL_toList (w : Str) : ofL w.cps.toList = w := by
  unfold ofL
  rw [Array.toArray_toList]
theorem toList_ofL (l : List Nat) : (ofL l).cps.toList = l := rfl
theorem ofL_inj {a b : List Nat} : ofL a = ofL b ↔ a = b := by
  constructor
  · intro h
    have := congrArg (fun w : Str => w.cps.toList) h
    exact this
  · rintro rfl
    rfl
theorem app_toList (a b : Str) : (a ++ b).cps.toList = a.cps.toList ++ b.cps.toList := by
  show (a.cps ++ b.cps).toList = _
  rw [Array.toList_append]
theorem ofL_app (a b : List Nat) : ofL (a ++ b) = ofL a ++ ofL b := str_ext (by rw [app_toList]; rfl)
theorem app_assoc (a b c : Str) : a ++ b ++ c = a ++ (b ++ c) := str_ext (by rw [app_toList, app_toList, app_toList, app_toList, List.append_assoc])
theorem app_empty (a : Str) : a ++ Str.empty = a := str_ext (by rw [app_toList]; exact List.append_nil _)
theorem empty_app (a : Str) : Str.empty ++ a = a := str_ext (by rw [app_toList]; rfl)
theorem len_app (a b : Str) : (a ++ b).length = a.length + b.length := by
  show (a.cps ++ b.cps).size = _
  rw [Array.size_append]
  rfl
/-- the number of a word told as a list -/
def cl (s : Bg) (l : List Nat) : Int := cf s (ofL l)
/-- one pair of words comes to v at just one parting -/
theorem parts_one (a b : List Nat) (x : Int) : ∀ v, sumL (parts v) (fun q => if a = q.1 ∧ b = q.2 then x else 0) = if a ++ b = v then x else 0 := by
  intro v
  induction v generalizing a with
  | nil =>
    rw [parts, sumL_cons, sumL_nil, Int.add_zero]
    cases a with
    | nil => simp
    | cons c r => simp
  | cons c v ih =>
    rw [parts, sumL_cons, sumL_map]
    cases a with
    | nil =>
      have z : sumL (parts v) (fun q => if ([] : List Nat) = c :: q.1 ∧ b = q.2 then x else 0) = 0 := sumL_zero fun q _ => by simp
      rw [z]
      simp
    | cons d r =>
      by_cases e : d = c
      · subst e
        have z : sumL (parts v) (fun q => if d :: r = d :: q.1 ∧ b = q.2 then x else 0) = sumL (parts v) fun q => if r = q.1 ∧ b = q.2 then x else 0 := sumL_congr fun q _ => by simp
        rw [z, ih]
        simp
      · have z : sumL (parts v) (fun q => if d :: r = c :: q.1 ∧ b = q.2 then x else 0) = 0 := sumL_zero fun q _ => by simp [e]
        rw [z]
        simp [e]
theorem cl_sum {s : Bg} (hn : (keys s).Nodup) (l : List Nat) : cl s l = sumL s fun kv => if kv.1.cps.toList = l then kv.2 else 0 := by
  unfold cl
  rw [← sum_ind hn]
  refine sumL_congr fun kv _ => ?_
  have : kv.1 = ofL l ↔ kv.1.cps.toList = l := by
    constructor
    · intro h; rw [h]; rfl
    · intro h; exact str_ext h
  simp only [this]
/-- products by partings -/
theorem cvS_conv {s t : Bg} (hs : (keys s).Nodup) (ht : (keys t).Nodup) (w : Str) : cvS s t w = conv (cl s) (cl t) w.cps.toList := by
  unfold conv cvS
  have e : ∀ q ∈ parts w.cps.toList, cl s q.1 * cl t q.2 = sumL s fun a => sumL t fun b => if a.1.cps.toList = q.1 ∧ b.1.cps.toList = q.2 then a.2 * b.2 else 0 := by
    intro q _
    rw [cl_sum hs, cl_sum ht, ← sumL_mulr]
    refine sumL_congr fun a _ => ?_
    rw [← sumL_mul]
    refine sumL_congr fun b _ => ?_
    by_cases h1 : a.1.cps.toList = q.1 <;> by_cases h2 : b.1.cps.toList = q.2 <;> simp [h1, h2]
  rw [sumL_congr e, sumL_swap (parts w.cps.toList) s]
  refine sumL_congr fun a _ => ?_
  rw [sumL_swap (parts w.cps.toList) t]
  refine sumL_congr fun b _ => ?_
  rw [parts_one]
  have : a.1 ++ b.1 = w ↔ a.1.cps.toList ++ b.1.cps.toList = w.cps.toList := by
    rw [← app_toList]
    constructor
    · intro h; rw [h]
    · intro h; exact str_ext h
  simp only [this]
theorem cl_prod {p : Int} (hp : 0 < p) {s t : Bg} (hs : (keys s).Nodup) (ht : (keys t).Nodup) (l : List Nat) : cl (prodS p s t) l = conv (cl s) (cl t) l % p := by
  unfold cl
  rw [cf_prod hp, cvS_conv hs ht]
  rfl
theorem cl_plus {p : Int} (hp : 0 < p) {s t : Bg} (hs : Good p s) (ht : (keys t).Nodup) (f : Int) (l : List Nat) : cl (plusS p s t f) l = (cl s l + f * cl t l) % p := cf_plus hp hs ht f _
theorem cl_mod {p : Int} (hp : 0 < p) {s : Bg} (hs : Good p s) (l : List Nat) : cl s l % p = cl s l := cf_mod hp hs _
theorem words_cl {p : Int} {s t : Bg} (gs : Good p s) (gt : Good p t) (h : ∀ l, cl s l = cl t l) : wordsS s = wordsS t :=
  wordsS_congr gs gt fun w => by
    have := h w.cps.toList
    unfold cl at this
    rw [ofL_toList] at this
    exact this
/-- put behind one another in either order of doing -/
theorem prod_assoc {p : Int} (hp : 0 < p) {s t u : Bg} (gs : Good p s) (gt : Good p t) (gu : Good p u) : wordsS (prodS p (prodS p s t) u) = wordsS (prodS p s (prodS p t u)) := by
  have g1 := Good.prod hp s t
  have g2 := Good.prod hp t u
  refine words_cl (Good.prod hp _ _) (Good.prod hp _ _) fun l => ?_
  rw [cl_prod hp g1.nd gu.nd, cl_prod hp gs.nd g2.nd]
  have e1 : conv (cl (prodS p s t)) (cl u) l % p = conv (conv (cl s) (cl t)) (cl u) l % p := conv_mod (fun x => by rw [cl_prod hp gs.nd gt.nd, Int.emod_emod]) (fun _ => rfl) l
  have e2 : conv (cl s) (cl (prodS p t u)) l % p = conv (cl s) (conv (cl t) (cl u)) l % p := conv_mod (fun _ => rfl) (fun x => by rw [cl_prod hp gt.nd gu.nd, Int.emod_emod]) l
  rw [e1, e2, conv_assoc]
end Fp

/-! Rules of our own over the hand layer: defs by name, steps of a reading. -/
namespace Fp
open PySem L2

/-! ### a def of the module, called by its name -/
structure DefOk (P : Program) (w : World) (K : PySem.W.Frag) (mg : Str → Option Value) (base : Heap) (CX : CXT) (k : Nat) (nm : Str) (ps : List Str) (sp : Sp) : Prop where
  ex : ∃ f fd, mg nm = some (.ref f) ∧ PySem.W.keepIn K (.ref f) = true ∧ Binds K fd ps [] ∧ FnOk P w K mg base CX k f fd ps sp
section
variable {X : Cx} {CX : CXT} {k : Nat} {ps : List Str} {sp : Sp} {E : XK} {x : Str} {p pos apos : Pos} {e o : Expr} {es : List Expr} {t : TA} {ta : TE}
theorem pe_callD (D : DefOk X.prog X.w X.K X.mg X.base CX k x ps sp) (hr : Room k X.A) (hg : Gl X x) (hx : Passes CX X E) (ha : PA X (e :: es) t)
    (hdb : (x == ("__debug__" : Str)) = false := by decide) (he : starEach (e :: es) X.env = (false, eval e X.env) :: starEach es X.env := by rfl) (hpl : (backTo pos (starEach es X.env)).any (·.1) = false := by rfl) :
    PE X (.Call (.Name x p) (e :: es) [] pos) (tCall sp [] E t) := by
  obtain ⟨f, fd, hm, hk, hb, F⟩ := D.ex
  exact pe_call F hr hg hm hk hb .nil hx ha hdb he hpl
theorem pe_callD0 (D : DefOk X.prog X.w X.K X.mg X.base CX k x ps sp) (hr : Room k X.A) (hg : Gl X x) (hx : Passes CX X E)
    (hdb : (x == ("__debug__" : Str)) = false := by decide) : PE X (.Call (.Name x p) [] [] pos) (tCall sp [] E tNil) := by
  obtain ⟨f, fd, hm, hk, hb, F⟩ := D.ex
  exact pe_call0 F hr hg hm hk hb .nil hx hdb
/-- C(..) -/
structure MkOk (P : Program) (w : World) (K : PySem.W.Frag) (mg : Str → Option Value) (base : Heap) (CX : CXT) (k : Nat) (nm : Str) (C : Addr) (ps : List Str) (sp : Sp) : Prop where
  ex : ∃ f fd, Mk K C f ∧ mg nm = some (.ref C) ∧ Binds K fd ps [] ∧ FnOk P w K mg base CX k f fd ps sp
theorem pe_mkD {C : Addr} (D : MkOk X.prog X.w X.K X.mg X.base CX k x C ps sp) (hr : Room (k + 1) X.A) (hg : Gl X x) (hx : Passes CX X E) (ha : PA X (e :: es) t)
    (hdb : (x == ("__debug__" : Str)) = false := by decide) (he : starEach (e :: es) X.env = (false, eval e X.env) :: starEach es X.env := by rfl) (hpl : (backTo pos (starEach es X.env)).any (·.1) = false := by rfl) :
    PE X (.Call (.Name x p) (e :: es) [] pos) (tMake C sp [] E t) := by
  obtain ⟨f, fd, M, hm, hb, F⟩ := D.ex
  exact pe_make M F hr hg hm hb .nil hx ha hdb he hpl
/-- o.m(..) -/
structure MtOk (P : Program) (w : World) (K : PySem.W.Frag) (mg : Str → Option Value) (base : Heap) (CX : CXT) (k : Nat) (C : Addr) (m : Str) (ps : List Str) (sp : Sp) : Prop where
  ex : ∃ f fd, Cls K C ∧ Meth K C m f ∧ Binds K fd ps [] ∧ FnOk P w K mg base CX k f fd ps sp
theorem pe_mtD {pl : Sem Bool} {C : Addr} {m : Str} (D : MtOk X.prog X.w X.K X.mg X.base CX k C m ps sp) (hr : Room k X.A) (hx : Passes CX X E) (he : PE X o ta) (ha : PA X (e :: es) t)
    (hst : starEach (e :: es) X.env = (false, eval e X.env) :: starEach es X.env := by rfl) (hpl : (backTo pos (starEach es X.env)).any (·.1) = false := by rfl)
    (ht : eval (.Call (.Attribute o m apos) (e :: es) [] pos) X.env = (do
      let ov ← eval o X.env
      standAt apos.atName
      let (f, first) ← holding [ov] (getMethod ov m pl)
      callWith pos f first (backTo pos (starEach (e :: es) X.env)) (backToKw pos (keywordEach [] X.env))) := by rfl) :
    PE X (.Call (.Attribute o m apos) (e :: es) [] pos) (tMeth C m sp [] E ta t) := by
  obtain ⟨f, fd, c, hm, hb, F⟩ := D.ex
  exact pe_meth he c hm F hr hb .nil hx ha hst hpl ht
/-- a callee that may raise, called where it does not -/
theorem passX0 {P : Program} {w : World} {X : Cx} : Passes (L2.CX P w) X E0 := fun _ _ _ _ _ _ _ h => by
  obtain ⟨_, _, _, _, _, _, _, _, _, _, _, _, q⟩ := h
  exact q.elim

/-! ### a loop over a dict that may be locked already -/
def tLockR (t : TS) : TS := fun D σ H => tLock t D σ H ∨ t D σ H
theorem ps_lockR {st : Stmt} {t : TS} (h : PS X st t) : PS X st (tLockR t) := ⟨fun pins s σ H D I q => q.elim ((ps_lock h).run pins s σ H D I) (h.run pins s σ H D I)⟩
def tLockRE (t : TE) : TE := fun σ H Q => tLockE t σ H Q ∨ t σ H Q
theorem pe_lockR {t : TE} (h : PE X e t) : PE X e (tLockRE t) := ⟨fun pins s σ H Q I q => q.elim ((pe_lock h).run pins s σ H Q I) (h.run pins s σ H Q I)⟩

/-! ### displays of dicts -/
end
/-- len of a list, a tuple, a text, a dict -/
def rLenA (K : PySem.W.Frag) : List V → Hp → VK → Prop := fun xs H Q => (∃ x n, xs = [x] ∧ LenV K x H n ∧ Q (.int n) H) ∨ (∃ a kvs, xs = [V.ref a] ∧ H a = some (.dK kvs) ∧ Q (.int kvs.length) H)
theorem call_lenA {X : Cx} : CallR X (.builtin "len") (rLenA X.K) := CallR.or call_len call_lenD

/-! ### what stands -/
def Ex (H H' : Hp) : Prop := ∀ a o, H a = some o → H' a = some o
theorem Ex.refl (H : Hp) : Ex H H := fun _ _ h => h
theorem Ex.trans {H H1 H2 : Hp} (a : Ex H H1) (b : Ex H1 H2) : Ex H H2 := fun x o h => b x o (a x o h)
theorem Ex.new {H : Hp} {p : Addr} {o : HO} (h : H p = none) : Ex H (upd H p o) := fun a u e => by
  rw [upd_ne (ne_of_none e h)]
  exact e
theorem Ex.free {H H' : Hp} (e : Ex H H') {p : Addr} (h : H' p = none) : H p = none := by
  cases q : H p with
  | none => rfl
  | some o => rw [e p o q] at h; cases h
/-- a new object may change -/
theorem Ex.mut {H H' : Hp} {p : Addr} {o : HO} (e : Ex H H') (h : H p = none) : Ex H (upd H' p o) := fun a u q => by
  rw [upd_ne (ne_of_none q h)]
  exact e a u q
theorem Ex.rd {H H' : Hp} {a : Addr} {u : HO} (e : Ex H H') (h : Rd H a u) : Rd H' a u := by
  rcases h with h | ⟨o, h⟩
  · exact .inl (e a _ h)
  · exact .inr ⟨o, e a _ h⟩
theorem Ex.sql {K : PySem.W.Frag} {H H' : Hp} {a : Addr} {xs : List V} (e : Ex H H') (h : SqL K H a xs) : SqL K H' a xs := h.elim (fun h => .inl (e.rd h)) .inr
theorem Ex.sqt {K : PySem.W.Frag} {H H' : Hp} {a : Addr} {xs : List V} (e : Ex H H') (h : SqT K H a xs) : SqT K H' a xs := h.elim (fun h => .inl (e.rd h)) .inr

/-! ### steps of a reading -/
/-- what a list comprehension over J asks -/
def LcG (J : It) (g : TG) (tt : TT) (te : TE) (vs : List Nat) (σ : St) (H1 : Hp) (Q : VK) : Prop := ∀ D, H1 D = none → ∃ W : Nat → Nat → Hp → Prop, (∃ m, W 0 m (upd H1 D (.lst []))) ∧ ∀ i m H, W i m H →
      (J.stop i H ∧ Q (.ref D) H) ∨ (J.go i H ∧ ∃ Nx : Hp → Prop, (∀ H', Nx H' → ∃ m', m' < m ∧ W (i + 1) m' H') ∧ ∀ x H', J.yld i H x H' → g x (wipe σ vs) H' fun σ2 H2 => wipe σ2 vs = wipe σ vs ∧ tt σ2 H2 fun b H3 =>
        if b = true then te σ2 H3 fun y H4 => ∃ acc, H4 D = some (.lst acc) ∧ acc.length < sizeLine ∧ Nx (upd H4 D (.lst (acc ++ [y]))) else Nx H3)
/-- what a loop over J asks -/
def ForG (J : It) (g : TG) (t : TS) (D : Ends) (σ : St) (H1 : Hp) : Prop := ∃ W : Nat → Nat → St → Hp → Prop, (∃ m, W 0 m σ H1) ∧ ∀ i m σ H, W i m σ H →
  (J.stop i H ∧ D.nx σ H) ∨ (J.go i H ∧ ∃ N : St → Hp → Prop, (∀ σ' H', N σ' H' → ∃ m', m' < m ∧ W (i + 1) m' σ' H') ∧ ∀ x H', J.yld i H x H' → g x σ H' fun σ2 H2 => t { D with nx := N, ct := N, bk := D.nx } σ2 H2)
section
variable {σ : St} {H H1 : Hp} {Q : VK} {D : Ends} {i : Nat} {v x y : V} {ta tb te tc : TE} {K : PySem.W.Frag} {tt tu : TT} {t u : TS} {QB : Bool → Hp → Prop}
theorem g_seq (h : t { D with nx := u D } σ H) : tSeq t u D σ H := h
theorem g_next (h : D.nx σ H) : tNext D σ H := h
theorem g_asg {g : TG} (h : te σ H fun x H1 => g x σ H1 D.nx) : tAsg te g D σ H := h
theorem g_name {QS : St → Hp → Prop} (h : QS (σ.set i (some v)) H) : gName i v σ H QS := h
theorem g_ret (h : te σ H D.rt) : tRet te D σ H := h
theorem g_retN (h : D.rt .non H) : tRetN D σ H := h
theorem g_drop (h : te σ H fun _ H1 => D.nx σ H1) : tDrop te D σ H := h
theorem g_ifs {c : TT} (h : c σ H fun b H1 => if b = true then t D σ H1 else u D σ H1) : tIfS c t u D σ H := h
theorem g_var (e : σ[i]? = some (some v)) (h : Q v H) : tVar i σ H Q := ⟨v, e, h⟩
theorem g_c (h : Q v H) : tC v σ H Q := h
theorem g_op {r : R2} (h : ta σ H fun x H1 => tb σ H1 fun y H2 => r x y H2 Q) : tOp r ta tb σ H Q := h
theorem g_un {r : V → Hp → VK → Prop} (h : ta σ H fun x H1 => r x H1 Q) : tUn r ta σ H Q := h
theorem g_I0 {g : Int → Int → V} {a b : Int} (h : Q (g a b) H) : rI0 g (.int a) (.int b) H Q := ⟨a, b, rfl, rfl, h⟩
theorem g_I {C : Int → Int → Prop} {g : Int → Int → V} {a b : Int} (c : C a b) (h : Q (g a b) H) : rI C g (.int a) (.int b) H Q := ⟨a, b, rfl, rfl, c, h⟩
theorem g_U {g : Int → V} {a : Int} (h : Q (g a) H) : rU g (.int a) H Q := ⟨a, rfl, h⟩
theorem g_eq (s : scal x y = true) (h : Q (.bl (decide (x = y))) H) : rEq x y H Q := ⟨s, h⟩
theorem g_ne (s : scal x y = true) (h : Q (.bl (!decide (x = y))) H) : rNe x y H Q := ⟨s, h⟩
theorem g_test (h : te σ H fun x H' => ∃ k, x = .bl k ∧ QB k H') : tTest te σ H QB := h
theorem g_tB (h : te σ H fun x H' => ∃ k, x = .bl k ∧ QB k H') : tB te σ H QB := h
theorem g_bl {b : Bool} {R : Bool → Prop} (h : R b) : ∃ k, (V.bl b) = .bl k ∧ R k := ⟨b, rfl, h⟩
theorem g_and (h : tt σ H fun c H1 => if c = true then tu σ H1 QB else QB false H1) : tAnd tt tu σ H QB := h
theorem g_or (h : tt σ H fun c H1 => if c = true then QB true H1 else tu σ H1 QB) : tOr tt tu σ H QB := h
theorem g_not (h : tt σ H fun c H1 => QB (!c) H1) : tNot tt σ H QB := h
theorem g_andV (h : ta σ H fun x H1 => ∃ c, x = .bl c ∧ if c = true then tb σ H1 Q else Q (.bl false) H1) : tAndV ta tb σ H Q := h
theorem g_orV (h : ta σ H fun x H1 => ∃ c, x = .bl c ∧ if c = true then Q (.bl true) H1 else tb σ H1 Q) : tOrV ta tb σ H Q := h
theorem g_notV (h : ta σ H fun x H1 => ∃ c, x = .bl c ∧ Q (.bl (!c)) H1) : tNotV ta σ H Q := h
theorem g_if (h : tt σ H fun c H1 => if c = true then ta σ H1 Q else tb σ H1 Q) : tIf tt ta tb σ H Q := h
theorem g_nil {QA : List V → Hp → Prop} (h : QA [] H) : tNil σ H QA := h
theorem g_cons {tr : TA} {QA : List V → Hp → Prop} (h : ta σ H fun x H1 => tr σ H1 fun xs H2 => QA (x :: xs) H2) : tCons ta tr σ H QA := h
theorem g_cb {r : List V → Hp → VK → Prop} {tA : TA} (h : tA σ H fun vs H1 => r vs H1 Q) : tCB r tA σ H Q := h
theorem g_call {sp : Sp} {E : XK} {tA : TA} (h : tA σ H fun vs H1 => sp (vs ++ []) H1 Q E) : tCall sp [] E tA σ H Q := h
theorem g_ite {b : Bool} {A B : Prop} (h1 : b = true → A) (h2 : b = false → B) : if b = true then A else B := by
  cases b with
  | true => rw [if_pos rfl]; exact h1 rfl
  | false => rw [if_neg Bool.false_ne_true]; exact h2 rfl
theorem g_ift {b : Bool} {A B : Prop} (hb : b = true) (h : A) : if b = true then A else B := by rw [if_pos hb]; exact h
theorem g_iff {b : Bool} {A B : Prop} (hb : b = false) (h : B) : if b = true then A else B := by rw [hb, if_neg Bool.false_ne_true]; exact h
theorem g_itT {A B : Prop} (h : A) : if true = true then A else B := by rw [if_pos rfl]; exact h
theorem g_itF {A B : Prop} (h : B) : if false = true then A else B := by rw [if_neg Bool.false_ne_true]; exact h
theorem g_lc {wi : TI} {g : TG} {te : TE} {vs : List Nat} (h : wi σ H fun J H1 => LcG J g tt te vs σ H1 Q) : tLc wi g tt te vs σ H Q := h
theorem g_yes (h : QB true H) : tYes σ H QB := h
theorem g_iStr {R : It → Hp → Prop} (h : te σ H fun v H1 => ∃ x, v = .str x ∧ R (Its x) H1) : iStr te σ H R := h
theorem g_exs {z : Str} {R : Str → Prop} (h : R z) : ∃ x, (V.str z) = .str x ∧ R x := ⟨z, rfl, h⟩
theorem g_lst {tA : TA} (h : tA σ H fun xs H1 => xs.length ≤ sizeLine ∧ ∀ p, H1 p = none → Q (.ref p) (upd H1 p (.lst xs))) : tLst tA σ H Q := h
theorem g_tup {tA : TA} (h : tA σ H fun xs H1 => xs.length ≤ sizeLine ∧ ∀ p, H1 p = none → Q (.ref p) (upd H1 p (.tup xs))) : tTup tA σ H Q := h
end
end Fp

/-! sorted by the key (-len(word), word). -/
namespace Fp
open PySem L2 PySem.W
section
variable {X : L2.Cx} {wn nm qual : Str} {st : PySem.Stmt} {f : Addr} {fd : FuncData} {pins : List (Addr × Obj)} {σ : St} {H : Hp} {s : Shared} {p1 p2 p3 p4 p5 p6 p7 : Pos} 
theorem ahead_call {kk : _} (F : Fun X.K nm qual st f fd) (S : FnScope [wn] [wn] (defScope st))
    (hbody : defBody st = [.Return (some (.Tuple [.UnaryOp .USub (.Call (.Name "len" p1) [.Name wn p2] [] p3) p4, .Name wn p5] kk p6)) p7])
    (hwn : (defScope st).names.lookup wn = some .local) (hlen : (defScope st).names.lookup ("len" : Str) = some .globalImplicit) (hwd : (wn == ("__debug__" : Str)) = false) (bn : Binds X.K fd [wn] []) (bl : X.mg "len" = none) (I : Inv X pins σ H s) {A' : Around} (hr : Room 1 A')
    (x : Str) (t : Tok) (hx : x.length ≤ sizeLine) (h : Heap) (tk : Nat) (keep : ∀ b o, s.heap.get? b = some o → h.get? b = some o) :
    wpAny (model X.prog X.w) A' (call (.ref f) [.str x t]) (KeyPure (keyD x) { s with heap := h, toks := tk }) (fun _ _ => False) { s with heap := h, toks := tk } := by
  obtain ⟨oc, od, kV, doc, pm, an, cdv, ct, osl, rfl, lk, hcd⟩ := F.ex
  have KX : X.K.In h := I.kIn.keeps keep
  have lim : h.NoLimit := I.nolimit.keeps keep
  have hb := bn { s with heap := h, toks := tk } [.str x t] KX rfl
  refine wpAny_call (codeAny_call_function hr.depth (KX _ _ lk) rfl S.co S.gen rfl (PySem.W.codeRec_of KX hcd) (hb _ _ _ _ ?_))
  have hkind : ∀ y ∈ [wn].zip ([Value.str x t] ++ []), (defScope st).names.lookup y.1 = some .local ∨ ((defScope st).names.lookup y.1 = some .cell ∧ ((cellsFrom (h.objs.size + 1) (defScope st).names []).lookup y.1).isSome = true) := fun y hy => by
    have e : y = (wn, Value.str x t) := by simpa using hy
    rw [e]
    exact .inl hwn
  refine wpAny_newFunctionEnv_cells S.kind hkind fun env he s1 xx => ?_
  obtain ⟨h1, tk1, rfl, hk1⟩ := xx.done
  have hns := xx.toInCall.ns
  refine ⟨lim.keeps hk1, codeAny_func ?_⟩
  have henv : env.scope = defScope st ∧ env.globals = mainGlobals ∧ env.builtins = builtinsNs := by rw [he]; exact ⟨rfl, rfl, rfl⟩
  obtain ⟨e1, e2, e3⟩ := henv
  have kw : env.kindOf wn = some .local := by unfold Env.kindOf; rw [e1]; exact hwn
  have kl : env.kindOf "len" = some .globalImplicit := by unfold Env.kindOf; rw [e1]; exact hlen
  have mw : bindL env.kindOf ([wn].zip ([Value.str x t] ++ [])) (fun _ => none) wn = some (.str x t) := by
    show bindL env.kindOf [(wn, Value.str x t)] (fun _ => none) wn = _
    unfold bindL
    simp [bindL, kw]
  have keep1 : ∀ b o, s.heap.get? b = some o → h1.get? b = some o := fun b o q => hk1 b o (keep b o q)
  obtain ⟨mb, b1, b2⟩ := I.mod.blt
  rw [hbody]
  refine wpAny_execs_cons (wpAny_Return_some (wpAny_Tuple_spliced ?_))
  refine Calls.spliced_cons (PyProof.Rows.UnaryOp_ (wpAny_Call_Name_kw (Calls.Name_function_global (by rw [e1]; exact S.kind) kl (Calls.loadGlobal_builtin (by rw [e2]; exact I.mod.glob.keeps fun b o q => keep1 b o (I.bk b o q)) bl
    (by rw [e3]; exact b1.keeps fun b o q => keep1 b o (I.bk b o q)) ((b2 ("len" : Str) (by decide)).trans PySem.boot_len) ?_))))
  refine PyProof.Rows.callWith_builtin1 (Calls.spliced_cons (wpAny_Name (wpAny_loadName_local (by rw [e1]; exact S.kind) kw hns mw (Calls.spliced_nil ?_)) hwd))
  have hn := L2.line63
  refine PyProof.Rows.len_str (by omega) (PyProof.Rows.neg_int ?_)
  refine Calls.spliced_cons (wpAny_Name (wpAny_loadName_local (by rw [e1]; exact S.kind) kw hns mw (Calls.spliced_nil ⟨by show 2 ≤ sizeLine; decide, ?_⟩)) hwd)
  refine ⟨_, _, rfl, fun b o q => Heap.get?_push_of_some _ (hk1 b o q), ?_⟩
  exact .tuple (o := { cls := .type "tuple", data := .seq #[.int (-(x.length : Int)) _, .str x t] }) (Heap.get?_push_size _ rfl) rfl rfl (.cons (.int _ _) (.cons (.str _ _) .nil))
end
end Fp

namespace Fp
open PySem L2 PySem.W
section
variable {X : L2.Cx} {wn nm qual : Str} {st : PySem.Stmt} {f : Addr} {fd : FuncData} {p1 p2 p3 p4 p5 p6 p7 : Pos}
theorem keyD_alike (b b' : Str) : alike (keyD b) (keyD b') = true := by simp [keyD, alike, alikeAll]
theorem keyD_depth (b : Str) : (keyD b).depth ≤ 1 := by simp [keyD, PyData.depth, PyData.depthAll]
theorem each_strs {ws : List Str} {its : List Value} (r : Vals (ws.map V.str) its) : EachIs (fun v x => ∃ t, v = Value.str x t) its ws := by
  induction ws generalizing its with
  | nil => cases r; exact .nil
  | cons w ws ih =>
    cases r with
    | cons r1 r2 => exact .cons r1 (ih r2)
theorem vals_each {ws : List Str} {its : List Value} (r : EachIs (fun v x => ∃ t, v = Value.str x t) its ws) : Vals (ws.map V.str) its := by
  induction r with
  | nil => exact .nil
  | cons h _ ih => exact .cons h ih
/-- what sorted(xs, key=f) asks, f telling (-len(word), word) -/
def rSortedKey (K : PySem.W.Frag) (f : Addr) : List V → List V → Hp → VK → Prop := fun vs zs H Q => ∃ (a : Addr) (ws : List Str), vs = [V.ref a] ∧ zs = [V.ref f] ∧ SqL K H a (ws.map V.str) ∧ (∀ w ∈ ws, w.length ≤ sizeLine) ∧
  ∀ p, H p = none → Q (.ref p) (upd H p (.lst ((ordW ws).map V.str)))
theorem cr_sortedKey {kk : _} (F : Fun X.K nm qual st f fd) (S : FnScope [wn] [wn] (defScope st))
    (hbody : defBody st = [.Return (some (.Tuple [.UnaryOp .USub (.Call (.Name "len" p1) [.Name wn p2] [] p3) p4, .Name wn p5] kk p6)) p7])
    (hwn : (defScope st).names.lookup wn = some .local) (hlen : (defScope st).names.lookup ("len" : Str) = some .globalImplicit) (hwd : (wn == ("__debug__" : Str)) = false) (bn : L2.Binds X.K fd [wn] []) (bl : X.mg "len" = none) (hr : Room 3 X.A) :
    CallRK X (.builtin "sorted") [Str.ofString "key"] (rSortedKey X.K f) := by
  intro pins s σ H vs zs us ws Q I r rz h
  obtain ⟨a, xs, rfl, rfl, hs, hx, q⟩ := h
  obtain rfl := Vals.ref1 r
  obtain ⟨w1, rfl, e1⟩ := vals1 rz
  obtain rfl : w1 = Value.ref f := e1
  obtain ⟨its, rv, hl, hz⟩ := I.list hs
  rw [List.length_map] at hz
  refine PySem.W.sorted_key_data (R := fun v x => ∃ t, v = Value.str x t) (bs := xs) (b := false) keyD hl.isList (each_strs rv) (AllAlike.of keyD_alike) (Sortable.tuples fun b => ⟨_, _, rfl⟩) hz (fun x _ => ?_) (PyProof.Rows.ksk_s1 _ _) (fun x => PyProof.Rows.ksk_l1 _ _) (fun x => PyProof.Rows.ksk_t1 f x) (fun v x hv hm h tk kk => ?_) (fun out c h' tk keep _ hget hlen ho => ?_)
  · have := hr.un
    have := keyD_depth x
    omega
  · obtain ⟨t, rfl⟩ := hv
    exact ahead_call F S hbody hwn hlen hwd bn bl I hr.in1.in1 x t (hx x hm) h tk kk
  · have hl2 : ((ordW xs).map V.str).length ≤ sizeLine := by rw [List.length_map, ordW_len]; exact hz
    exact ⟨.ref _, upd H (s.heap.objs.size + 1) (.lst ((ordW xs).map V.str)), I.laid (t' := tk) keep (Nat.le_succ _) ⟨hl2, out, c, vals_each ho, hget⟩, rfl, q _ (I.hok.fresh (Nat.le_succ _))⟩
/-- sorted of a list of pairs (-len(word), word) -/
def rSortedW (K : PySem.W.Frag) : List V → Hp → VK → Prop := fun vs H Q => ∃ (a : Addr) (bs : List (Addr × Str)), vs = [V.ref a] ∧ SqL K H a (bs.map fun b => V.ref b.1) ∧ (∀ b ∈ bs, SqT K H b.1 [.int (-(b.2.length : Int)), .str b.2]) ∧
  ∀ (bs' : List (Addr × Str)) p, bs'.map (·.2) = ordW (bs.map (·.2)) → (∀ b ∈ bs', b ∈ bs) → H p = none → Q (.ref p) (upd H p (.lst (bs'.map fun b => V.ref b.1)))
theorem each_refs {bs : List (Addr × Str)} {its : List Value} (r : Vals (bs.map fun b => V.ref b.1) its) : EachIs (fun v b => v = Value.ref b.1) its bs := by
  induction bs generalizing its with
  | nil => cases r; exact .nil
  | cons w ws ih =>
    cases r with
    | cons r1 r2 => exact .cons r1 (ih r2)
theorem refs_each {bs : List (Addr × Str)} {its : List Value} (r : EachIs (fun v b => v = Value.ref b.1) its bs) : Vals (bs.map fun b => V.ref b.1) its := by
  induction r with
  | nil => exact .nil
  | cons h _ ih => exact .cons h ih
theorem eachIs_imp {α : Type} {R R' : Value → α → Prop} {vs : List Value} {bs : List α} (r : EachIs R vs bs) (h : ∀ v b, b ∈ bs → R v b → R' v b) : EachIs R' vs bs := by
  induction r with
  | nil => exact .nil
  | cons h1 _ ih => exact .cons (h _ _ List.mem_cons_self h1) (ih fun v b hb => h v b (List.mem_cons_of_mem _ hb))
theorem cr_sortedW (hu : X.A.units + 64 < cLine) : CallR X (.builtin "sorted") (rSortedW X.K) := by
  intro pins s σ H vs us Q I r h
  obtain ⟨a, bs, rfl, hs, hx, q⟩ := h
  obtain rfl := Vals.ref1 r
  obtain ⟨its, rv, hl, hz⟩ := I.list hs
  rw [List.length_map] at hz
  have ep := each_refs rv
  have er : EachIs (fun v (b : Addr × Str) => ∃ as, Reads s.heap v (keyD b.2) as) its bs := eachIs_imp ep fun v b hb hv => by
    subst hv
    obtain ⟨us2, r2, ⟨o, ho, hc, n, hd⟩, _⟩ := I.tuple (hx b hb)
    obtain ⟨u1, u2, rfl, ⟨t1, rfl⟩, ⟨t2, rfl⟩⟩ := vals2 r2
    exact ⟨_, .tuple ho hc hd (.cons (.int _ _) (.cons (.str _ _) .nil))⟩
  refine PySem.W.sorted_data (R := fun v b => v = Value.ref b.1) (bs := bs) (enc := fun b => keyD b.2) hl.isList ep er (AllAlike.of fun b b' => keyD_alike b.2 b'.2) (Sortable.tuples fun b => ⟨_, _, rfl⟩) hz (fun b _ => ?_) (fun out hlen ho => ?_)
  · have := keyD_depth b.2
    omega
  · have e1 : (bs.mergeSort (dataLe false fun b => keyD b.2)).map (·.2) = ordW (bs.map (·.2)) := sort_maps (s := leW) (fun b : Addr × Str => b.2) fun _ _ _ _ => rfl
    have hl2 : ((bs.mergeSort (dataLe false fun b => keyD b.2)).map fun b => V.ref b.1).length ≤ sizeLine := by rw [List.length_map, (List.mergeSort_perm _ _).length_eq]; exact hz
    obtain ⟨ep2, he'⟩ := PyProof.Rows.sortedAll_at s.heap its (List.toArray out)
    exact ⟨.ref _, upd H (s.heap.objs.size + 1) (.lst ((bs.mergeSort (dataLe false fun b => keyD b.2)).map fun b => V.ref b.1)), I.laid (t' := s.toks) (fun _ _ => PyProof.Rows.sortedAll_old) (Nat.le_succ _) ⟨hl2, out, ep2, refs_each ho, he'⟩, rfl, q _ _ e1 (fun b hb => (List.mergeSort_perm _ _).mem_iff.mp hb) (I.hok.fresh (Nat.le_succ _))⟩
end
end Fp

/-! == and != of instances with the text's own __eq__, whatever stands on the right. -/
namespace Fp
open PySem PySem.W
section
variable {prog : Program} {w : World} {A : Around} {E : Value → Shared → Prop} {s : Shared} {K : Frag} {x C f : Addr} {ox : Obj} {od : Option Obj} {name : Str} {b tb : Value}
theorem ifBoundB {M : Model} {args : List Value} {id : String} {Q : Option Value → Shared → Prop} (X : K.In s.heap) (I : InstAt s.heap x ox C od) (hs : findIn K (.ref C) name = some (some (.builtin id)))
    (hb : ∀ self, bindSpecial (.builtin id) self = pure (.builtin id, [self]))
    (h : wpAny M A (call (.builtin id) (.ref x :: args)) (fun v => Q (some v)) E s) : wpAny M A (callSpecialIfBound? (.ref x) name args) Q E s := by
  simp only [callSpecialIfBound?, bindSpecialIfBound?]
  refine wpAny_holding (wpAny_bind (wpAny_bind (wpAny_bind (I.type.here ((looks_findIn X hs).here ?_)))))
  simp only [hb]
  refine wpAny_bind (wpAny_askSetting (wpAny_ite ?_))
  have fin : wpAny M A (call (.builtin id) ([.ref x] ++ args) >>= fun v => pure (some v)) Q E s := wpAny_bind (wpAny_mono h (fun v s' h' => wpAny_pure h') fun _ _ h' => h')
  split
  · exact wpAny_bind (wpAny_pure (wpAny_pure fin))
  · exact wpAny_tryCatch (wpAny_bind (wpAny_pure (wpAny_pure fin)))
theorem ne_body (hu : A.units < cLine) (X : K.In s.heap) (I : InstAt s.heap x ox C od) (hs : findIn K (.ref C) "__eq__" = some (some (.ref f))) (hf : isFn K (.ref f) = true) {Q : PySem.Fin → Shared → Prop}
    (hcall : wpAny (model prog w) A (call (.ref f) [.ref x, b]) (fun v s' => ∃ c, v = .bool c ∧ Q (.done (.ret (.bool (!c)))) s') E s) :
    wpAny (model prog w) A (Builtin.«object.__ne__» ⟨[.ref x, b], []⟩) Q E s := by
  obtain ⟨h, g, d, t, os⟩ := s
  unfold Builtin.«object.__ne__»
  repeat (first
    | with_reducible refine wpAny_cRoomFor hu ?_
    | (refine wpAny_bind (m := callSpecialIfBound? (.ref x) (Str.ofString "__eq__") [b])
        (ifBound_K X I hs hf (wpAny_mono hcall (fun r s' hr => by
          obtain ⟨c, rfl, hq⟩ := hr
          repeat (first | exact hq | exact wpAny_pure hq | exact wpAny_truthy_bool hq | (refine wpAny_bind (m := truthy (.bool _)) (wpAny_truthy_bool ?_)) | wp_step)) fun _ _ e => e)))
    | wp_step)
theorem try_eq (X : K.In s.heap) (I : InstAt s.heap x ox C od) (hs : findIn K (.ref C) "__eq__" = some (some (.ref f))) (hf : isFn K (.ref f) = true) {Q : Value → Shared → Prop}
    (hcall : wpAny (model prog w) A (call (.ref f) [.ref x, b]) (fun v s' => ∃ c, v = .bool c ∧ Q (.bool c) s') E s) :
    wpAny (model prog w) A (tryCompare (.ref x) "__eq__" b) (fun r s' => ∃ v, r = some v ∧ Q v s') E s := by
  unfold tryCompare
  refine wpAny_bind (ifBound_K X I hs hf (wpAny_mono hcall (fun v s' hv => ?_) fun _ _ e => e))
  obtain ⟨c, rfl, hq⟩ := hv
  exact wpAny_pure ⟨_, rfl, hq⟩
theorem try_ne (hu : A.units + 1 < cLine) (X : K.In s.heap) (I : InstAt s.heap x ox C od) (hs : findIn K (.ref C) "__eq__" = some (some (.ref f))) (hf : isFn K (.ref f) = true)
    (hn : findIn K (.ref C) "__ne__" = some (some (.builtin "object.__ne__"))) (hm : mroIn K C (.type "object") = some true) {Q : Value → Shared → Prop}
    (hcall : wpAny (model prog w) A.in1 (call (.ref f) [.ref x, b]) (fun v s' => ∃ c, v = .bool c ∧ Q (.bool (!c)) s') E s) :
    wpAny (model prog w) A (tryCompare (.ref x) "__ne__" b) (fun r s' => ∃ v, r = some v ∧ Q v s') E s := by
  unfold tryCompare
  have hinst : Looks (model prog w) s.heap (isInstance (.ref x) (.type "object")) true := I.type.andThen (looks_mroIn X hm)
  refine wpAny_bind (ifBoundB X I hn F.cmp_object.ne.bind (wpAny_call (codeAny_call_builtin F.cmp_object.ne.plain F.cmpEntry_ne
    (check_slot F.cmpKind_ne F.cmpSplit_ne hinst (F.cmpArgs_ne _ _) (ne_body (A := A.in1) hu X I hs hf (wpAny_mono hcall (fun v s' hv => ?_) fun _ _ e => e))))))
  obtain ⟨c, rfl, hq⟩ := hv
  first | exact ⟨c, rfl, wpAny_pure ⟨_, rfl, hq⟩⟩ | exact ⟨c, rfl, _, rfl, wpAny_pure ⟨_, rfl, hq⟩⟩
theorem rich_x {op : CmpOp} {L : Addr} {Q : Value → Shared → Prop} (hu : A.units < cLine) (X : K.In s.heap) (I : InstAt s.heap x ox C od) (hb : Looks (model prog w) s.heap (typeOf b) tb) (hn : notFirst K C tb = true)
    (one : wpAny (model prog w) A (tryCompare (.ref x) (cmpInfo op).2.1 b) (fun r s' => ∃ v, r = some v ∧ Q v s') E s) : wpAny (model prog w) A (richCompare op (.ref x) b) Q E s := by
  unfold richCompare
  simp only [oneThing_ref]
  refine wpAny_holding (wpAny_bind (wpAny_cRoomFor hu ?_))
  refine wpAny_bind (I.type.here (wpAny_bind (hb.here ?_)))
  split
  · rename_i q
    have e : subIn K tb (.ref C) = some false := by
      rcases Bool.or_eq_true_iff.mp hn with e | e
      · rw [beq_iff_eq.mp e] at q; simp at q
      · exact beq_iff_eq.mp e
    refine wpAny_bind ((looks_subIn X e).here ?_)
    simp only [Bool.false_eq_true, if_false]
    refine wpAny_bind (wpAny_mono one (fun r s' z => ?_) fun _ _ e => e)
    obtain ⟨v, rfl, hq⟩ := z
    exact wpAny_pure hq
  · refine wpAny_bind (wpAny_pure ?_)
    simp only [Bool.false_eq_true, if_false]
    refine wpAny_bind (wpAny_mono one (fun r s' z => ?_) fun _ _ e => e)
    obtain ⟨v, rfl, hq⟩ := z
    exact wpAny_pure hq
theorem rich_refl {op : CmpOp} {Dd : Addr} {Q : Value → Shared → Prop} (hu : A.units < cLine) (X : K.In s.heap) (I : InstAt s.heap x ox C od) (hb : Looks (model prog w) s.heap (typeOf b) (.ref Dd)) (hne : Dd ≠ C) (hs : subIn K (.ref Dd) (.ref C) = some true)
    (one : wpAny (model prog w) A (tryCompare b (cmpInfo op).2.2 (.ref x)) (fun r s' => ∃ v, r = some v ∧ Q v s') E s) : wpAny (model prog w) A (richCompare op (.ref x) b) Q E s := by
  unfold richCompare
  simp only [oneThing_ref]
  refine wpAny_holding (wpAny_bind (wpAny_cRoomFor hu ?_))
  refine wpAny_bind (I.type.here (wpAny_bind (hb.here ?_)))
  have q : (Value.ref C != Value.ref Dd) = true := by simp; exact fun z => hne z.symm
  rw [if_pos q]
  refine wpAny_bind ((looks_subIn X hs).here ?_)
  simp only [if_true]
  refine wpAny_bind (wpAny_mono one (fun r s' z => ?_) fun _ _ e => e)
  obtain ⟨v, rfl, hq⟩ := z
  repeat (first | exact hq | exact wpAny_pure hq | wp_step)
end
section
open L2
variable {X : L2.Cx} {n : Nat} {f : Addr} {fd : FuncData} {ps : List Str} {sp : L2.Sp} {CX : L2.CXT}
/-- the own def, called by the interpreter -/
theorem run_fnA {A : Around} {pins : List (Addr × Obj)} {σ : L2.St} {H : Hp} {s : Shared} {Q : VK} {us : List Value} {vs : List V} {E : XK} (sb : L2.Sub X n A) (Fo : L2.FnOk X.prog X.w X.K X.mg X.base CX n f fd ps sp) (hb : L2.Binds X.K fd ps []) (hx : L2.Passes CX X E)
    (I : Inv X pins σ H s) (r : Vals vs us) (h : sp vs H Q E) : wpAny (model X.prog X.w) A (call (.ref f) us) (EP X pins σ Q) X.xe s := by
  have hl := Fo.len _ _ _ _ h
  have e0 : Env0 X.prog X.w X.K X.mg X.base A X.stack s H := by
    have e := I.env0
    exact ⟨by rw [sb.fr]; exact e.frames, e.mod, e.bs, e.bsz, e.funs, e.frf, e.hok, e.bare⟩
  have hlu : us.length = ps.length := by rw [← r.length]; exact hl
  refine wpAny_call (codeAny_mono (Fo.run A X.stack s H ⟨us, []⟩ us vs Q E sb.room e0 (by
    have := hb s us I.kIn (by simpa using hlu)
    simpa using this) r h) fun r s' hq => ?_)
  cases r with
  | error e => exact hx pins σ H s e s' I hq
  | ok fl =>
    cases fl with
    | ret u => exact I.after hq
    | next => exact False.elim hq
    | brk => exact False.elim hq
    | cont => exact False.elim hq
/-- what the classes with the own == have -/
structure EqCls (K : Frag) (f : Addr) (Cs : Addr → Prop) : Prop where
  eq : ∀ C, Cs C → findIn K (.ref C) "__eq__" = some (some (.ref f))
  ne : ∀ C, Cs C → findIn K (.ref C) "__ne__" = some (some (.builtin "object.__ne__"))
  ob : ∀ C, Cs C → mroIn K C (.type "object") = some true
  fn : isFn K (.ref f) = true
/-- x == y (neg: !=), x an instance -/
def rBagEq (K : Frag) (sp : L2.Sp) (Cs : Addr → Prop) (neg : Bool) : R2 := fun x y H Q =>
  (∃ a C dx fs t, x = .ref a ∧ H a = some (.ins C dx fs) ∧ Cs C ∧ TyX K H y t ∧ notFirst K C t = true ∧ sp [x, y] H (fun v H' => ∃ c, v = .bl c ∧ Q (.bl (if neg = true then !c else c)) H') E0) ∨
  (∃ a b C D dx fs dy gs, x = .ref a ∧ y = .ref b ∧ H a = some (.ins C dx fs) ∧ H b = some (.ins D dy gs) ∧ Cs C ∧ Cs D ∧ D ≠ C ∧ subIn K (.ref D) (.ref C) = some true ∧
    sp [y, x] H (fun v H' => ∃ c, v = .bl c ∧ Q (.bl (if neg = true then !c else c)) H') E0)
theorem op_eqBag {Cs : Addr → Prop} (Fo : L2.FnOk X.prog X.w X.K X.mg X.base CX n f fd ps sp) (ec : EqCls X.K f Cs) (hb : L2.Binds X.K fd ps []) (hx : L2.Passes CX X E0) (hr : Room (n + 1) X.A) : OpR X (compareOp .Eq) (rBagEq X.K sp Cs false) := by
  intro pins s σ H x y v u Q I rx ry h
  show wpAny (model X.prog X.w) X.A (richCompare .Eq v u) (EP X pins σ Q) X.xe s
  have back : ∀ (x y : V) (a : Addr) (v u : Value), RelV x v → RelV y u → sp [x, y] H (fun v H' => ∃ c, v = .bl c ∧ Q (.bl (if false = true then !c else c)) H') E0 →
      wpAny (model X.prog X.w) X.A (call (.ref f) [v, u]) (fun v s' => ∃ c, v = .bool c ∧ EP X pins σ Q (.bool c) s') X.xe s := fun x y a v u rx ry h =>
    wpAny_mono (run_fnA (A := X.A) ⟨hr.mono (Nat.le_succ _), rfl⟩ Fo hb hx I (.cons rx (.cons ry .nil)) h) (fun v s' ⟨z, H', I', rz, c, ez, q⟩ => by
      subst ez
      cases rz
      rw [if_neg Bool.false_ne_true] at q
      exact ⟨c, rfl, .bl _, H', I', rfl, q⟩) fun _ _ e => e
  rcases h with ⟨a, C, dx, fs, t, rfl, ha, hc, ty, hn, h⟩ | ⟨a, b, C, D, dx, fs, dy, gs, rfl, rfl, ha, hb', hc, hd, hne, hsub, h⟩
  · cases rx
    obtain ⟨mA, J, _⟩ := ins_get I.hok ha
    obtain ⟨od, J, _⟩ := J.look
    obtain ⟨P, Z, p, _⟩ := kit_of I ry ty
    exact rich_x (L := a) hr.units0 I.kIn J (Z.ty _ _ I.kIn p) hn (try_eq I.kIn J (ec.eq C hc) ec.fn (back (.ref a) y a _ _ rfl ry h))
  · cases rx
    cases ry
    obtain ⟨mA, J, _⟩ := ins_get I.hok ha
    obtain ⟨od, J, _⟩ := J.look
    obtain ⟨mB, J', _⟩ := ins_get I.hok hb'
    obtain ⟨od', J', _⟩ := J'.look
    exact rich_refl hr.units0 I.kIn J J'.type hne hsub (try_eq I.kIn J' (ec.eq D hd) ec.fn (back (.ref b) (.ref a) a _ _ rfl rfl h))
theorem op_neBag {Cs : Addr → Prop} (Fo : L2.FnOk X.prog X.w X.K X.mg X.base CX n f fd ps sp) (ec : EqCls X.K f Cs) (hb : L2.Binds X.K fd ps []) (hx : L2.Passes CX X E0) (hr : Room (n + 1) X.A) : OpR X (compareOp .NotEq) (rBagEq X.K sp Cs true) := by
  intro pins s σ H x y v u Q I rx ry h
  show wpAny (model X.prog X.w) X.A (richCompare .NotEq v u) (EP X pins σ Q) X.xe s
  have back : ∀ (x y : V) (a : Addr) (v u : Value), RelV x v → RelV y u → sp [x, y] H (fun v H' => ∃ c, v = .bl c ∧ Q (.bl (if true = true then !c else c)) H') E0 →
      wpAny (model X.prog X.w) X.A.in1 (call (.ref f) [v, u]) (fun v s' => ∃ c, v = .bool c ∧ EP X pins σ Q (.bool (!c)) s') X.xe s := fun x y a v u rx ry h =>
    wpAny_mono (run_fnA (A := X.A.in1) ⟨hr.in1, rfl⟩ Fo hb hx I (.cons rx (.cons ry .nil)) h) (fun v s' ⟨z, H', I', rz, c, ez, q⟩ => by
      subst ez
      cases rz
      rw [if_pos rfl] at q
      exact ⟨c, rfl, .bl _, H', I', rfl, q⟩) fun _ _ e => e
  have hu1 : X.A.units + 1 < cLine := hu_of hr
  rcases h with ⟨a, C, dx, fs, t, rfl, ha, hc, ty, hn, h⟩ | ⟨a, b, C, D, dx, fs, dy, gs, rfl, rfl, ha, hb', hc, hd, hne, hsub, h⟩
  · cases rx
    obtain ⟨mA, J, _⟩ := ins_get I.hok ha
    obtain ⟨od, J, _⟩ := J.look
    obtain ⟨P, Z, p, _⟩ := kit_of I ry ty
    exact rich_x (L := a) hr.units0 I.kIn J (Z.ty _ _ I.kIn p) hn (try_ne hu1 I.kIn J (ec.eq C hc) ec.fn (ec.ne C hc) (ec.ob C hc) (back (.ref a) y a _ _ rfl ry h))
  · cases rx
    cases ry
    obtain ⟨mA, J, _⟩ := ins_get I.hok ha
    obtain ⟨od, J, _⟩ := J.look
    obtain ⟨mB, J', _⟩ := ins_get I.hok hb'
    obtain ⟨od', J', _⟩ := J'.look
    exact rich_refl hr.units0 I.kIn J J'.type hne hsub (try_ne hu1 I.kIn J' (ec.eq D hd) ec.fn (ec.ne D hd) (ec.ob D hd) (back (.ref b) (.ref a) a _ _ rfl rfl h))
end
end Fp

/-! How bags stand in the heap. -/
namespace Fp
open PySem L2

/-! ### == of data, whatever its texts -/
def rEqP (K : PySem.W.Frag) (neg : Bool) : R2 := fun x y H Q => ∃ d e, Dp K H x d ∧ Dp K H y e ∧ d.plain = true ∧ e.plain = true ∧ d.depth ≤ 60 ∧ Q (.bl (if neg = true then !PyData.eqv d e else PyData.eqv d e)) H
theorem op_eqP {X : Cx} (hu : X.A.units + 64 < cLine) : OpR X (compareOp .Eq) (rEqP X.K false) := by
  intro pins s σ H x y v u Q I rx ry h
  obtain ⟨d, e, hd, he, sd, se, hz, q⟩ := h
  obtain ⟨as, r1⟩ := Dp.reads I d x v hd rx
  obtain ⟨bs, r2⟩ := Dp.reads I e y u he ry
  rw [if_neg Bool.false_ne_true] at q
  exact SeqAt.eq_plain r1 r2 sd se (by omega) ⟨.bl _, H, I, rfl, q⟩
theorem op_neP {X : Cx} (hu : X.A.units + 64 < cLine) : OpR X (compareOp .NotEq) (rEqP X.K true) := by
  intro pins s σ H x y v u Q I rx ry h
  obtain ⟨d, e, hd, he, sd, se, hz, q⟩ := h
  obtain ⟨as, r1⟩ := Dp.reads I d x v hd rx
  obtain ⟨bs, r2⟩ := Dp.reads I e y u he ry
  rw [if_pos rfl] at q
  exact SeqAt.ne_plain r1 r2 sd se (by omega) ⟨.bl _, H, I, rfl, q⟩

/-! ### dicts of words -/
def toK (s : Bg) : List (Key × V) := s.map fun kv => ((Sum.inr kv.1 : Key), V.int kv.2)
theorem toK_nil : toK [] = [] := rfl
theorem toK_cons (q : Str × Int) (s : Bg) : toK (q :: s) = ((Sum.inr q.1 : Key), V.int q.2) :: toK s := rfl
theorem toK_len (s : Bg) : (toK s).length = s.length := by unfold toK; rw [List.length_map]
theorem valV_toK (w : Str) : ∀ s : Bg, valV (toK s) (Sum.inr w : Key) = (getS s w).map V.int
  | [] => rfl
  | q :: r => by
    rw [toK_cons]
    by_cases e : q.1 = w
    · rw [getS_pos e, valV_pos (p := ((Sum.inr q.1 : Key), V.int q.2)) (by rw [e])]
      rfl
    · rw [getS_neg e, valV_neg (p := ((Sum.inr q.1 : Key), V.int q.2)) (fun z => e (Sum.inr.inj z))]
      exact valV_toK w r
theorem getD_toK (s : Bg) (w : Str) : (valV (toK s) (Sum.inr w : Key)).getD (.int 0) = .int (cf s w) := by
  rw [valV_toK]
  unfold cf
  cases getS s w <;> rfl
theorem putK_toK (s : Bg) (w : Str) (n : Int) : putK (toK s) (Sum.inr w : Key) (.int n) = toK (putS s w n) := by
  unfold putK putS
  have e1 : ((toK s).any fun kv => decide (kv.1 = (Sum.inr w : Key))) = s.any fun kv => decide (kv.1 = w) := by
    unfold toK
    rw [List.any_map]
    congr 1
    funext kv
    simp
  rw [e1]
  split
  · unfold toK
    rw [List.map_map, List.map_map]
    refine List.map_congr_left fun kv _ => ?_
    simp only [Function.comp]
    by_cases h : kv.1 = w
    · simp [h]
    · simp [h]
  · unfold toK
    rw [List.map_append]
    rfl
theorem dropK_toK (s : Bg) (w : Str) : dropK (toK s) (Sum.inr w : Key) = toK (dropS s w) := by
  unfold dropK dropS toK
  rw [List.filter_map]
  congr 1
  refine List.filter_congr fun kv _ => ?_
  simp
theorem toK_keys (s : Bg) : (toK s).map (fun kv => kV kv.1) = (keys s).map V.str := by
  unfold toK keys
  rw [List.map_map, List.map_map]
  rfl
theorem toK_get {s : Bg} {i : Nat} {kv : Key × V} (h : (toK s)[i]? = some kv) : ∃ w n, s[i]? = some (w, n) ∧ kv = (Sum.inr w, .int n) := by
  unfold toK at h
  rw [List.getElem?_map] at h
  cases e : s[i]? with
  | none => rw [e] at h; cases h
  | some q => rw [e] at h; exact ⟨q.1, q.2, rfl, (Option.some.inj h).symm⟩
theorem toK_inj {s t : Bg} (h : toK s = toK t) : s = t := by
  unfold toK at h
  exact List.map_inj_right (f := fun kv : Str × Int => ((Sum.inr kv.1 : Key), V.int kv.2)) (fun a b e => by
    obtain ⟨a1, a2⟩ := a
    obtain ⟨b1, b2⟩ := b
    simp at e
    rw [e.1, e.2]) |>.mp h

/-! ### the tuple of pairs -/
structure WordsAt (H : Hp) (t : Addr) (l : Bg) : Prop where
  ex : ∃ (qs : List Addr) (o : Obj), H t = some (.frz o (.tup (qs.map V.ref))) ∧ o.dict = none ∧ Paired (fun q kv => H q = some (.tup [.str kv.1, .int kv.2])) qs l
theorem WordsAt.ex' {H H' : Hp} {t : Addr} {l : Bg} (e : Ex H H') (h : WordsAt H t l) : WordsAt H' t l := by
  obtain ⟨qs, o, h1, hd, h2⟩ := h.ex
  exact ⟨qs, o, e _ _ h1, hd, Paired.mapP h2 fun _ _ z => e _ _ z⟩
def pairD (kv : Str × Int) : PyData := .tuple [.str kv.1, .int kv.2]
def wordsD (l : Bg) : PyData := .tuple (l.map pairD)
theorem dpAll_words {K : PySem.W.Frag} {H : Hp} {qs : List Addr} {l : Bg} (h : Paired (fun q kv => H q = some (.tup [.str kv.1, .int kv.2])) qs l) : DpAll K H (qs.map V.ref) (l.map pairD) := by
  induction h with
  | nil => exact .nil
  | cons h1 _ ih => exact .cons (.tup (SqT.of h1) (.cons (.str _) (.cons (.int _) .nil))) ih
theorem WordsAt.dp {K : PySem.W.Frag} {H : Hp} {t : Addr} {l : Bg} (h : WordsAt H t l) : Dp K H (.ref t) (wordsD l) := by
  obtain ⟨qs, o, h1, _, h2⟩ := h.ex
  exact .tup (.inl (.inr ⟨o, h1⟩)) (dpAll_words h2)
theorem plainAll_words (l : Bg) : PyData.plainAll (l.map pairD) = true := by
  induction l with
  | nil => rfl
  | cons q r ih => rw [List.map_cons, PyData.plainAll, ih]; simp [pairD, PyData.plain, PyData.plainAll]
theorem plain_words (l : Bg) : (wordsD l).plain = true := by
  show PyData.plainAll (l.map pairD) = true
  exact plainAll_words l
theorem depthAll_words (l : Bg) : PyData.depthAll (l.map pairD) ≤ 1 := by
  induction l with
  | nil => simp [PyData.depthAll]
  | cons q r ih =>
    rw [List.map_cons, PyData.depthAll]
    have : (pairD q).depth = 1 := by simp [pairD, PyData.depth, PyData.depthAll]
    omega
theorem depth_words (l : Bg) : (wordsD l).depth ≤ 60 := by
  have := depthAll_words l
  simp only [wordsD, PyData.depth]
  omega
theorem eqv_pair (a b : Str × Int) : PyData.eqv (pairD a) (pairD b) = decide (a = b) := by
  obtain ⟨a1, a2⟩ := a
  obtain ⟨b1, b2⟩ := b
  simp only [pairD, PyData.eqv, PyData.eqvAll, Bool.and_true]
  rw [Bool.eq_iff_iff]
  simp
theorem eqvAll_words : ∀ l m : Bg, PyData.eqvAll (l.map pairD) (m.map pairD) = decide (l = m)
  | [], [] => by simp [PyData.eqvAll]
  | [], b :: m => by simp [PyData.eqvAll]
  | a :: l, [] => by simp [PyData.eqvAll]
  | a :: l, b :: m => by
    rw [List.map_cons, List.map_cons, PyData.eqvAll, eqv_pair, eqvAll_words l m]
    rw [Bool.eq_iff_iff]
    simp
theorem eqv_words (l m : Bg) : PyData.eqv (wordsD l) (wordsD m) = decide (l = m) := by
  show PyData.eqvAll (l.map pairD) (m.map pairD) = _
  exact eqvAll_words l m

/-! ### bags -/
theorem k_sc : ¬ (("clock" : Str) = "sparse") := by decide +kernel
theorem k_kc : ¬ (("clock" : Str) = "kept") := by decide +kernel
theorem k_wc : ¬ (("clock" : Str) = "words") := by decide +kernel
theorem k_ks : ¬ (("sparse" : Str) = "kept") := by decide +kernel
theorem k_ws : ¬ (("sparse" : Str) = "words") := by decide +kernel
theorem k_wk : ¬ (("kept" : Str) = "words") := by decide +kernel
def bagF (p : Int) (d k t : Addr) : List (Str × V) := [("clock", .int p), ("sparse", .ref d), ("kept", .ref k), ("words", .ref t)]
theorem bagF_made (p : Int) (d k t : Addr) : putF "words" (.ref t) (putF "kept" (.ref k) (putF "sparse" (.ref d) (putF "clock" (.int p) []))) = bagF p d k t := by
  unfold bagF
  have e1 : putF ("clock" : Str) (V.int p) [] = [(("clock" : Str), V.int p)] := rfl
  have e2 : putF ("sparse" : Str) (V.ref d) [(("clock" : Str), V.int p)] = [(("clock" : Str), V.int p), ("sparse", .ref d)] := by
    show (if ("clock" : Str) = "sparse" then _ else (("clock" : Str), V.int p) :: putF "sparse" (V.ref d) []) = _
    rw [if_neg k_sc]; rfl
  have e3 : putF ("kept" : Str) (V.ref k) [(("clock" : Str), V.int p), ("sparse", .ref d)] = [(("clock" : Str), V.int p), ("sparse", .ref d), ("kept", .ref k)] := by
    show (if ("clock" : Str) = "kept" then _ else (("clock" : Str), V.int p) :: (if ("sparse" : Str) = "kept" then _ else (("sparse" : Str), V.ref d) :: putF "kept" (V.ref k) [])) = _
    rw [if_neg k_kc, if_neg k_ks]; rfl
  rw [e1, e2, e3]
  show (if ("clock" : Str) = "words" then _ else (("clock" : Str), V.int p) :: (if ("sparse" : Str) = "words" then _ else (("sparse" : Str), V.ref d) :: (if ("kept" : Str) = "words" then _ else (("kept" : Str), V.ref k) :: putF "words" (V.ref t) []))) = _
  rw [if_neg k_wc, if_neg k_ws, if_neg k_wk]; rfl
theorem lk_cons {f g : Str} {v : V} {r : List (Str × V)} (h : ¬ f = g) : ((g, v) :: r).lookup f = r.lookup f := by
  rw [List.lookup_cons]
  have : (f == g) = false := by simp [h]
  rw [this]
theorem lk_pos {f : Str} {v : V} {r : List (Str × V)} : ((f, v) :: r).lookup f = some v := by
  rw [List.lookup_cons]
  simp
theorem bagF_clock (p : Int) (d k t : Addr) : (bagF p d k t).lookup ("clock" : Str) = some (.int p) := lk_pos
theorem bagF_sparse (p : Int) (d k t : Addr) : (bagF p d k t).lookup ("sparse" : Str) = some (.ref d) := by
  unfold bagF
  rw [lk_cons (fun z => k_sc z.symm), lk_pos]
theorem bagF_kept (p : Int) (d k t : Addr) : (bagF p d k t).lookup ("kept" : Str) = some (.ref k) := by
  unfold bagF
  rw [lk_cons (fun z => k_kc z.symm), lk_cons (fun z => k_ks z.symm), lk_pos]
theorem bagF_words (p : Int) (d k t : Addr) : (bagF p d k t).lookup ("words" : Str) = some (.ref t) := by
  unfold bagF
  rw [lk_cons (fun z => k_wc z.symm), lk_cons (fun z => k_ws z.symm), lk_cons (fun z => k_wk z.symm), lk_pos]
/-- a bag by the clock p with the words s stands at a; Cs: the classes of bags -/
structure BagAt (Cs : Addr → Prop) (H : Hp) (a : Addr) (p : Int) (s : Bg) : Prop where
  ex : ∃ C dx d k t, Cs C ∧ H a = some (.ins C dx (bagF p d k t)) ∧ H d = some (.dK (toK s)) ∧ WordsAt H t (wordsS s)
theorem BagAt.ex' {Cs : Addr → Prop} {H H' : Hp} {a : Addr} {p : Int} {s : Bg} (e : Ex H H') (h : BagAt Cs H a p s) : BagAt Cs H' a p s := by
  obtain ⟨C, dx, d, k, t, h0, h1, h2, h3⟩ := h.ex
  exact ⟨C, dx, d, k, t, h0, e _ _ h1, e _ _ h2, h3.ex' e⟩
end Fp

/-! Loops and comprehensions in short. -/
namespace Fp
open PySem L2

/-! ### what stands but one object -/
def ExB (f : Addr) (H H' : Hp) : Prop := ∀ a o, a ≠ f → H a = some o → H' a = some o
theorem ExB.refl (f : Addr) (H : Hp) : ExB f H H := fun _ _ _ h => h
theorem ExB.trans {f : Addr} {H H1 H2 : Hp} (a : ExB f H H1) (b : ExB f H1 H2) : ExB f H H2 := fun x o n h => b x o n (a x o n h)
theorem Ex.exb {f : Addr} {H H' : Hp} (e : Ex H H') : ExB f H H' := fun a o _ h => e a o h
theorem ExB.ex {f : Addr} {H0 H H' : Hp} (e : Ex H0 H) (b : ExB f H H') (h : H0 f = none) : Ex H0 H' := fun a o q => b a o (ne_of_none q h) (e a o q)
theorem ExB.ex0 {f : Addr} {H H' : Hp} (b : ExB f H H') (h : H f = none) : Ex H H' := fun a o q => b a o (ne_of_none q h) q
theorem ExB.upd {f : Addr} {H H' : Hp} {o : HO} (b : ExB f H H') : ExB f H (upd H' f o) := fun a u n q => by rw [upd_ne n]; exact b a u n q
theorem ExB.new {f : Addr} {H H' : Hp} {p : Addr} {o : HO} (b : ExB f H H') (h : H' p = none) : ExB f H (L2.upd H' p o) := fun a u n q => by
  have := b a u n q
  rw [upd_ne (ne_of_none this h)]
  exact this
theorem ExB.rd {f : Addr} {H H' : Hp} {a : Addr} {u : HO} (e : ExB f H H') (n : a ≠ f) (h : Rd H a u) : Rd H' a u := by
  rcases h with h | ⟨o, h⟩
  · exact .inl (e a _ n h)
  · exact .inr ⟨o, e a _ n h⟩
theorem ExB.sql {K : PySem.W.Frag} {f : Addr} {H H' : Hp} {a : Addr} {xs : List V} (e : ExB f H H') (n : a ≠ f) (h : SqL K H a xs) : SqL K H' a xs := h.elim (fun h => .inl (e.rd n h)) .inr
theorem rd_ne {H : Hp} {a b : Addr} {u o : HO} (h : Rd H a u) (hb : H b = some o) (h1 : u ≠ o) (h2 : ∀ x, o ≠ .frz x u) : a ≠ b := by
  rintro rfl
  rcases h with h | ⟨x, h⟩
  · rw [h] at hb; exact h1 (Option.some.inj hb)
  · rw [h] at hb; exact h2 x (Option.some.inj hb).symm

/-! ### a comprehension that only makes objects -/
section
variable {J : It} {n : Nat} {G : Hp → Prop} {Y : Nat → Hp → V → Hp → Prop}
theorem lc_pure (w : Walk J n G Y) {j : Nat} {te : TE} {vs : List Nat} {σ : St} {H1 : Hp} {Q : VK} (ys : List V) (hl : ys.length = n) (hn : n ≤ sizeLine) (hG : ∀ H, Ex H1 H → G H)
    (hw : ∀ x, wipe ((wipe σ vs).set j x) vs = wipe σ vs)
    (hs : ∀ i x y H H' (K : VK), i < n → Ex H1 H → Y i H x H' → ys[i]? = some y → (∀ H4, Ex H H4 → K y H4) → te ((wipe σ vs).set j (some x)) H' K)
    (hd : ∀ D H', H1 D = none → Ex H1 H' → H' D = some (.lst ys) → Q (.ref D) H') :
    LcG J (gName j) tYes te vs σ H1 Q := by
  intro D hD
  refine lc_it w (fun i H => Ex H1 H ∧ H D = some (.lst (ys.take i))) ⟨Ex.new hD, upd_same⟩ (fun i H _ p => hG H p.1) ?_ (fun H p => ?_)
  · rintro i x H H' hi ⟨e, hacc⟩ hy
    have hi' : i < ys.length := by omega
    obtain ⟨y, hyi⟩ : ∃ y, ys[i]? = some y := ⟨ys[i], by simp [hi']⟩
    refine ⟨hw _, ?_⟩
    unfold tYes
    dsimp only
    rw [if_pos rfl]
    refine hs i x y H H' _ hi e hy hyi fun H4 e4 => ⟨ys.take i, e4 _ _ hacc, by rw [List.length_take]; omega, ?_, ?_⟩
    · exact Ex.mut (e.trans e4) hD
    · rw [upd_same, List.take_add_one, hyi]
      rfl
  · obtain ⟨e, h⟩ := p
    rw [← hl, List.take_length] at h
    exact hd D H hD e h
end

/-! ### a loop over a dict -/
/-- while the dict at d is walked, f's object turns -/
structure LoopEx (d f : Addr) (s : Bg) (H H' : Hp) : Prop where
  keep : ∀ a o, a ≠ f → a ≠ d → H a = some o → H' a = some o
  self : Rd H' d (.dK (toK s))
theorem LoopEx.rd {d f : Addr} {s : Bg} {H H' : Hp} (l : LoopEx d f s H H') (hd : Rd H d (.dK (toK s))) {b : Addr} {t : Bg} (h : Rd H b (.dK (toK t))) (n : b ≠ f) : Rd H' b (.dK (toK t)) := by
  by_cases e : b = d
  · subst e
    have : toK t = toK s := by
      rcases h with h | ⟨o, h⟩ <;> rcases hd with hd | ⟨o', hd⟩
      · exact HO.dK.inj (Option.some.inj (h.symm.trans hd))
      · exact absurd (Option.some.inj (h.symm.trans hd)) (by simp)
      · exact absurd (Option.some.inj (h.symm.trans hd)) (by simp)
      · have := Option.some.inj (h.symm.trans hd)
        injection this with _ e2
        exact HO.dK.inj e2
    rw [this]
    exact l.self
  · rcases h with h | ⟨o, h⟩
    · exact .inl (l.keep b _ n e h)
    · exact .inr ⟨o, l.keep b _ n e h⟩
theorem LoopEx.exb {d f : Addr} {s : Bg} {H H' H'' : Hp} (l : LoopEx d f s H H') (n : d ≠ f) (b : ExB f H' H'') : LoopEx d f s H H'' := ⟨fun a o h1 h2 q => b a o h1 (l.keep a o h1 h2 q), b.rd n l.self⟩
theorem for_keys {σ : St} {H : Hp} {D : Ends} {d f : Addr} {s : Bg} {o0 : HO} {te : TE} {j : Nat} {tb : TS} (hd : Rd H d (.dK (toK s))) (hf : H f = some o0) (hne : d ≠ f)
    (he : ∀ (H' : Hp) (Q : VK), LoopEx d f s H H' → Q (.ref d) H' → te σ H' Q)
    (I : Nat → St → HO → Prop) (h0 : I 0 σ o0)
    (hs : ∀ i w n σ' H' o (E : Ends), s[i]? = some (w, n) → I i σ' o → LoopEx d f s H H' → H' f = some o → (∀ v H1, ExB f H' H1 → (∀ H2, ExB f H H2 → H2 f = H1 f → D.rt v H2) → E.rt v H1) →
      (∀ σ'' H'' o', I (i + 1) σ'' o' → ExB f H' H'' → H'' f = some o' → E.nx σ'' H'') → tb E (σ'.set j (some (.str w))) H')
    (hend : ∀ σ' H' o, I s.length σ' o → ExB f H H' → H' f = some o → D.nx σ' H') : tLockR (tFor (iKeys te) (gName j) tb) D σ H := by
  -- the loop itself, over a heap in which d is locked
  have core : ∀ (Hl : Hp) (od : Obj) (E : Ends), Hl d = some (.frz od (.dK (toK s))) → (∀ a o, a ≠ d → (H a = some o ↔ Hl a = some o)) →
      (∀ σ' H' o, I s.length σ' o → ExB f Hl H' → H' f = some o → E.nx σ' H') → (∀ v H', ExB f Hl H' → (∀ H2, ExB f H H2 → H2 f = H' f → D.rt v H2) → E.rt v H') → tFor (iKeys te) (gName j) tb E σ Hl := by
    intro Hl od E hl hsame hE hrt
    have l0 : LoopEx d f s H Hl := ⟨fun a o _ h2 q => (hsame a o h2).mp q, .inr ⟨od, hl⟩⟩
    refine he Hl _ l0 ⟨d, od, rfl, .inl ⟨toK s, hl, ?_⟩⟩
    refine for_it walk_keys (fun i σ' H' => ∃ o, I i σ' o ∧ ExB f Hl H' ∧ H' f = some o) ⟨o0, h0, ExB.refl f Hl, (hsame f o0 (Ne.symm hne)).mp hf⟩ (fun i σ' H' _ p => ?_) ?_ (fun σ' H' p => ?_)
    · obtain ⟨o, _, e, _⟩ := p
      exact e d _ hne hl
    · rintro i x σ' H' H1 hi ⟨o, hI, e, hfo⟩ ⟨rfl, k, v, hk, rfl⟩
      obtain ⟨w, n, hw, ekv⟩ := toK_get hk
      cases ekv
      have le : LoopEx d f s H H1 := ⟨fun a o h1 h2 q => e a o h1 ((hsame a o h2).mp q), .inr ⟨od, e d _ hne hl⟩⟩
      exact hs i w n σ' H1 o _ hw hI le hfo (fun v H2 e2 hq => hrt v H2 (e.trans e2) hq) fun σ'' H'' o' hI' e' hf' => ⟨o', hI', e.trans e', hf'⟩
    · obtain ⟨o, hI, e, hfo⟩ := p
      rw [toK_len] at hI
      exact hE σ' H' o hI e hfo
  rcases hd with hd | ⟨od, hd⟩
  · refine .inl ⟨d, _, hd, trivial, fun od => ?_⟩
    have back : ∀ H', ExB f (upd H d (.frz od (.dK (toK s)))) H' → H' d = some (.frz od (.dK (toK s))) ∧ ExB f H (upd H' d (.dK (toK s))) := fun H' e => by
      refine ⟨e d _ hne upd_same, fun a o h1 q => ?_⟩
      by_cases ha : a = d
      · subst ha
        rw [hd] at q
        cases q
        exact upd_same
      · rw [upd_ne ha]
        exact e a o h1 (by rw [upd_ne ha]; exact q)
    refine core _ od _ upd_same (fun a o ha => by rw [upd_ne ha]) (fun σ' H' o hI e hfo => ?_) (fun v H' e hq => ?_)
    · obtain ⟨b1, b2⟩ := back H' e
      exact ⟨b1, hend σ' _ o hI b2 (by rw [upd_ne (Ne.symm hne)]; exact hfo)⟩
    · obtain ⟨b1, b2⟩ := back H' e
      exact ⟨b1, hq _ b2 (by rw [upd_ne (Ne.symm hne)])⟩
  · exact .inr (core H od D hd (fun a o _ => Iff.rfl) hend fun v H' e hq => hq H' e rfl)
end Fp

/-! More steps of a reading. -/
namespace Fp
open PySem L2
theorem ps_never {X : Cx} {st : Stmt} : PS X st (fun _ _ _ => False) := ⟨fun pins s σ H D I h => h.elim⟩
section
variable {σ : St} {H H1 : Hp} {Q : VK} {D : Ends} {i : Nat} {v x y : V} {ta tb te tc td ty : TE} {K : PySem.W.Frag} {tt tu : TT} {t u : TS} {QB : Bool → Hp → Prop} {tA : TA}
theorem g_chain {r r' : R2} (h : ta σ H fun x H1 => tb σ H1 fun y H2 => r x y H2 fun z H3 => ∃ k, z = .bl k ∧ (if k = true then tc σ H3 fun w' H4 => r' y w' H4 Q else Q (.bl false) H3)) : tChain r r' ta tb tc σ H Q := h
theorem g_dget (h : td σ H fun x H1 => ty σ H1 fun y H2 => ∃ a v, x = .ref a ∧ DGet H2 a y (some v) ∧ Q v H2) : tDGet td ty σ H Q := h
theorem g_dput {tv : TE} (h : tv σ H fun v H1 => td σ H1 fun x H2 => ty σ H2 fun y H3 => ∃ a H4, x = .ref a ∧ DPut H3 a y v H4 ∧ D.nx σ H4) : sDPut td ty tv D σ H := h
theorem g_dget2 {tx : TE} (h : td σ H fun x H1 => ∃ a, x = .ref a ∧ IsD H1 a ∧ ty σ H1 fun y H2 => tx σ H2 fun z H3 => ∃ o, DGet H3 a y o ∧ Q (o.getD z) H3) : tDGet2 td ty tx σ H Q := h
theorem g_dpop2 {tx : TE} (h : td σ H fun x H1 => ∃ a, x = .ref a ∧ IsD H1 a ∧ ty σ H1 fun y H2 => tx σ H2 fun z H3 => ∃ kvs k, H3 a = some (.dK kvs) ∧ y = kV k ∧
  (∀ v, valV kvs k = some v → Q v (upd H3 a (.dK (dropK kvs k)))) ∧ (valV kvs k = none → Q z H3)) : tDPop2 td ty tx σ H Q := h
theorem g_fld {f : Str} (h : ta σ H fun x H1 => ∃ a C dx fs v, x = .ref a ∧ H1 a = some (.ins C dx fs) ∧ Cls K C ∧ NoAttr K C f ∧ fs.lookup f = some v ∧ Q v H1) : tFld K ta f σ H Q := h
theorem g_sfld {tv : TE} {f : Str} (h : tv σ H fun y H1 => ta σ H1 fun x H2 => ∃ a C dx fs, x = .ref a ∧ H2 a = some (.ins C dx fs) ∧ Cls K C ∧ NoAttr K C f ∧ fs.length < 1000 ∧
  D.nx σ (upd H2 a (.ins C dx (putF f y fs)))) : sFld K ta tv f D σ H := h
theorem g_make {C : Addr} {sp : Sp} {E : XK} (h : tA σ H fun vs H1 => ∀ x dx, H1 x = none → H1 dx = none → dx ≠ x →
  sp (.ref x :: (vs ++ [])) (upd (upd H1 dx (.own x)) x (.ins C dx [])) (fun v H2 => v = .non ∧ Q (.ref x) H2) E) : tMake C sp [] E tA σ H Q := h
theorem g_meth {C : Addr} {m : Str} {sp : Sp} {E : XK} (h : ta σ H fun x H1 => ∃ a dx fs, x = .ref a ∧ H1 a = some (.ins C dx fs) ∧ fs.lookup m = none ∧
  tA σ H1 fun vs H2 => sp (x :: (vs ++ [])) H2 Q E) : tMeth C m sp [] E ta tA σ H Q := h
theorem g_bm {T : String} {r : V → List V → Hp → VK → Prop} (h : ta σ H fun x H1 => tyV K T x H1 ∧ tA σ H1 fun xs H2 => r x xs H2 Q) : tBM K T r ta tA σ H Q := h
theorem g_m1 {r : V → List V → Hp → VK → Prop} (h : ta σ H fun x H1 => (∃ a, x = .str a) ∧ te σ H1 fun y H2 => r x [y] H2 Q) : tM1 r ta te σ H Q := h
theorem g_itNT {A B : Prop} (h : B) : if (!true) = true then A else B := g_iff rfl h
theorem g_itNF {A B : Prop} (h : A) : if (!false) = true then A else B := g_ift rfl h
theorem g_revL (h : te σ H fun x H1 => ∃ a xs, x = .ref a ∧ SqL K H1 a xs ∧ ∀ p, H1 p = none → Q (.ref p) (upd H1 p (.lst xs.reverse))) : tRevL K te σ H Q := h
theorem g_kw {r : List V → List V → Hp → VK → Prop} {tk : TA} (h : tA σ H fun vs H1 => tk σ H1 fun zs H2 => r vs zs H2 Q) : tCKw r tA tk σ H Q := h
theorem g_gsub {to ti : TE} {s : TSet} {QS : St → Hp → Prop} (h : to σ H fun o H1 => ti σ H1 fun i H2 => s o i v H2 fun H3 => QS σ H3) : gSub to ti s v σ H QS := h
theorem g_for {wi : TI} {g : TG} (h : wi σ H fun J H1 => ForG J g t D σ H1) : tFor wi g t D σ H := h
theorem g_iList {R : It → Hp → Prop} (h : te σ H fun x H1 => ∃ a, x = .ref a ∧ (∃ xs, SqL K H1 a xs) ∧ R (Itl K a) H1) : iList K te σ H R := h
theorem g_iTup {R : It → Hp → Prop} (h : te σ H fun x H1 => ∃ a, x = .ref a ∧ (∃ xs, SqT K H1 a xs) ∧ R (Itt K a) H1) : iTup K te σ H R := h
theorem g_iRng1 {R : It → Hp → Prop} (h : tA σ H fun vs H1 => ∃ j : Int, vs = [.int j] ∧ -(2 ^ 62) ≤ j ∧ j < 2 ^ 62 ∧ R (Itr 0 j.toNat) H1) : iRng1 tA σ H R := h
theorem g_iRng2 {R : It → Hp → Prop} (h : tA σ H fun vs H1 => ∃ i j : Int, vs = [.int i, .int j] ∧ (-(2 ^ 62) ≤ i ∧ i < 2 ^ 62 ∧ -(2 ^ 62) ≤ j ∧ j < 2 ^ 62) ∧ R (Itr i (j - i).toNat) H1) : iRng2 tA σ H R := h
theorem g_sl {r : V → Option Int → Option Int → Hp → VK → Prop} {tl th : TO} (h : te σ H fun x H1 => tl σ H1 fun l H2 => th σ H2 fun u H3 => r x l u H3 Q) : tSl r te tl th σ H Q := h
theorem g_part {QO : Option Int → Hp → Prop} (h : te σ H fun x H1 => ∃ i, x = .int i ∧ QO (some i) H1) : tPart te σ H QO := h
theorem g_noPart {QO : Option Int → Hp → Prop} (h : QO none H) : tNoPart σ H QO := h
theorem g_exi {z : Int} {R : Int → Prop} (h : R z) : ∃ i, (V.int z) = .int i ∧ R i := ⟨z, rfl, h⟩
theorem g_exr {z : Addr} {R : Addr → Prop} (h : R z) : ∃ i, (V.ref z) = .ref i ∧ R i := ⟨z, rfl, h⟩
theorem g_exb {z : Bool} {R : Bool → Prop} (h : R z) : ∃ i, (V.bl z) = .bl i ∧ R i := ⟨z, rfl, h⟩
theorem g_dnew (h : ∀ p, H p = none → Q (.ref p) (upd H p (.dK []))) : tDNewK σ H Q := h
theorem g_disp {trs : List (TE × TE)} (h : ∀ p, H p = none → tPairs trs σ (upd H p (.dK [])) fun ps H2 => H2 p = some (.dK []) ∧ ∃ kvs : List (Key × V), ps = kvs.map (fun kv => (kV kv.1, kv.2)) ∧ kvs.length ≤ 15 ∧ Q (.ref p) (upd H2 p (.dK (mergeK [] kvs)))) : tDisp trs σ H Q := h
theorem g_prs0 {R : List (V × V) → Hp → Prop} (h : R [] H) : tPairs [] σ H R := h
theorem g_prs {tk tv : TE} {r : List (TE × TE)} {R : List (V × V) → Hp → Prop} (h : tk σ H fun x H1 => tv σ H1 fun y H2 => tPairs r σ H2 fun ps H3 => R ((x, y) :: ps) H3) : tPairs ((tk, tv) :: r) σ H R := h
theorem g_cut {R : St → Hp → Prop} (h1 : ∀ N : St → Hp → Prop, (∀ σ' H', R σ' H' → N σ' H') → t { D with nx := N } σ H) (h2 : ∀ σ' H', R σ' H' → u D σ' H') : tSeq t u D σ H := h1 (u D) h2
theorem g_nxt (h : D.nx σ H) : tNext D σ H := h
/-! the readings of things -/
theorem g_int {i : Int} (h : Q (.int i) H) : (∃ j, [V.int i] = [.int j] ∧ Q (.int j) H) ∨ ∃ k, [V.int i] = [.bl k] ∧ Q (.int (if k then 1 else 0)) H := .inl ⟨i, rfl, h⟩
theorem g_ixl {p : Addr} {xs : List V} {k : Int} (hs : SqL K H p xs) (ha : atI xs k = some v) (h : Q v H) : rIxL K (.ref p) (.int k) H Q := ⟨p, xs, k, v, rfl, rfl, hs, ha, h⟩
theorem g_ixt {p : Addr} {xs : List V} {k : Int} (hs : SqT K H p xs) (ha : atI xs k = some v) (h : Q v H) : rIxT K (.ref p) (.int k) H Q := ⟨p, xs, k, v, rfl, rfl, hs, ha, h⟩
theorem g_ixs {z : Str} {k : Int} {c : Nat} (hz : z.length ≤ sizeLine) (ha : atI z.cps.toList k = some c) (h : Q (.str ⟨#[c]⟩) H) : rIxS (.str z) (.int k) H Q := ⟨z, k, c, rfl, rfl, hz, ha, h⟩
theorem g_setl {p : Addr} {xs : List V} {k : Int} {j : Nat} {R : Hp → Prop} (hs : H p = some (.lst xs)) (ha : ixN xs.length k = some j) (h : R (upd H p (.lst (xs.set j v)))) : rSetL (.ref p) (.int k) v H R := ⟨p, xs, k, j, rfl, rfl, hs, ha, h⟩
theorem g_dg {a : Addr} {s : Bg} {w : Str} {n : Int} {R : V → Prop} (hd : Rd H a (.dK (toK s))) (hw : getS s w = some n) (h : R (.int n)) : ∃ b v, V.ref a = .ref b ∧ DGet H b (.str w) (some v) ∧ R v :=
  ⟨a, .int n, rfl, .inl ⟨toK s, .inr w, hd, rfl, by rw [valV_toK, hw]; rfl⟩, h⟩
theorem g_dp {a : Addr} {s : Bg} {w : Str} {n : Int} {R : Hp → Prop} (hd : H a = some (.dK (toK s))) (hl : s.length < sizeLine) (h : R (upd H a (.dK (toK (putS s w n))))) : ∃ b H4, V.ref a = .ref b ∧ DPut H b (.str w) (.int n) H4 ∧ R H4 :=
  ⟨a, _, rfl, DPut.k (k := (Sum.inr w : Key)) hd (by rw [toK_len]; exact hl), by rw [putK_toK]; exact h⟩
theorem atI_get {α : Type} {xs : List α} {k : Int} {v : α} (h0 : 0 ≤ k) (h : xs[k.toNat]? = some v) : atI xs k = some v := by
  have hlt : k.toNat < xs.length := by
    rcases Nat.lt_or_ge k.toNat xs.length with q | q
    · exact q
    · rw [List.getElem?_eq_none q] at h; cases h
  unfold atI ixN
  rw [if_pos h0, if_pos (by omega)]
  exact h
/-- a text of at most so many signs -/
theorem line5 {n : Nat} (h : n ≤ 10000000) : n ≤ sizeLine := Nat.le_trans h (by decide)
theorem mem_fr {s : Bg} {w : Str} {n : Int} {i : Nat} (h : s[i]? = some (w, n)) : (w, n) ∈ s := List.mem_of_getElem? h
theorem getS_at {s : Bg} {w : Str} {n : Int} {i : Nat} (hn : (keys s).Nodup) (h : s[i]? = some (w, n)) : getS s w = some n := getS_of_mem hn (mem_fr h)
end
end Fp

/-! Comprehensions that make things. -/
namespace Fp
open PySem L2

/-! ### what stays while lists grow and dicts are unlocked: tuples -/
def TupS (H H' : Hp) : Prop := ∀ a xs, H a = some (.tup xs) → H' a = some (.tup xs)
theorem TupS.trans {H H1 H2 : Hp} (a : TupS H H1) (b : TupS H1 H2) : TupS H H2 := fun x o h => b x o (a x o h)
theorem Ex.tups {H H' : Hp} (e : Ex H H') : TupS H H' := fun a xs h => e a _ h
theorem TupS.upd {H : Hp} {a : Addr} {o u : HO} (h : H a = some u) (hu : ∀ xs, u ≠ .tup xs) : TupS H (upd H a o) := fun b xs q => by
  rw [upd_ne (fun e => by subst e; rw [h] at q; exact hu xs (Option.some.inj q))]
  exact q
theorem TupS.new {H : Hp} {a : Addr} {o : HO} (h : H a = none) : TupS H (L2.upd H a o) := (Ex.new h).tups

/-! ### Paired -/
section
variable {α β : Type} {F : α → β → Prop}
theorem paired_eq {xs : List V} {es : List V} (h : Paired (fun x e => x = e) xs es) : xs = es := by
  induction h with
  | nil => rfl
  | cons h1 _ ih => rw [h1, ih]
theorem paired_map {G : β → α} {xs : List α} {es : List β} (h : Paired (fun x e => x = G e) xs es) : xs = es.map G := by
  induction h with
  | nil => rfl
  | cons h1 _ ih => rw [h1, ih]; rfl
theorem paired_refs {P : Addr → β → Prop} {xs : List V} {es : List β} (h : Paired (fun x e => ∃ a, x = V.ref a ∧ P a e) xs es) : ∃ as : List Addr, xs = as.map V.ref ∧ Paired P as es := by
  induction h with
  | nil => exact ⟨[], rfl, .nil⟩
  | cons h1 _ ih =>
    obtain ⟨a, rfl, ha⟩ := h1
    obtain ⟨as, rfl, hs⟩ := ih
    exact ⟨a :: as, rfl, .cons ha hs⟩
theorem paired_get {xs : List α} {es : List β} (h : Paired F xs es) : ∀ {i : Nat} {x : α}, xs[i]? = some x → ∃ e, es[i]? = some e ∧ F x e := by
  induction h with
  | nil => intro i x e; simp at e
  | cons h1 _ ih =>
    intro i x e
    cases i with
    | zero => exact ⟨_, rfl, by have := Option.some.inj e; subst this; exact h1⟩
    | succ i => exact ih e
theorem paired_mapr {γ : Type} {g : β → γ} {G : α → γ → Prop} {xs : List α} {es : List β} (h : Paired F xs es) (hg : ∀ a b, F a b → G a (g b)) : Paired G xs (es.map g) := by
  induction h with
  | nil => exact .nil
  | cons h1 _ ih => exact .cons (hg _ _ h1) ih
end
section
variable {J : It} {n : Nat} {G : Hp → Prop} {Y : Nat → Hp → V → Hp → Prop} {α : Type}
/-- a comprehension whose elements stand to es as R says -/
theorem lc_rel (w : Walk J n G Y) {j : Nat} {te : TE} {vs : List Nat} {σ : St} {H1 : Hp} {Q : VK} (es : List α) (hl : es.length = n) (hn : n ≤ sizeLine) (hG : ∀ H, Ex H1 H → G H)
    (R : α → V → Hp → Prop) (hR : ∀ e y H H', TupS H H' → R e y H → R e y H') (hw : ∀ x, wipe ((wipe σ vs).set j x) vs = wipe σ vs)
    (hs : ∀ i x e H H' (K : VK), i < n → Ex H1 H → Y i H x H' → es[i]? = some e → (∀ y H4, Ex H H4 → R e y H4 → K y H4) → te ((wipe σ vs).set j (some x)) H' K)
    (hd : ∀ D H' ys, H1 D = none → Ex H1 H' → H' D = some (.lst ys) → Paired (fun y e => R e y H') ys es → Q (.ref D) H') :
    LcG J (gName j) tYes te vs σ H1 Q := by
  intro D hD
  refine lc_it w (fun i H => Ex H1 H ∧ ∃ ys, H D = some (.lst ys) ∧ Paired (fun y e => R e y H) ys (es.take i)) ⟨Ex.new hD, [], upd_same, .nil⟩ (fun i H _ p => hG H p.1) ?_ (fun H p => ?_)
  · rintro i x H H' hi ⟨e, ys, hacc, hp⟩ hy
    have hi' : i < es.length := by omega
    obtain ⟨y, hyi⟩ : ∃ y, es[i]? = some y := ⟨es[i], by simp [hi']⟩
    refine ⟨hw _, ?_⟩
    unfold tYes
    dsimp only
    rw [if_pos rfl]
    have hlen : ys.length = i := by rw [hp.length, List.length_take]; omega
    refine hs i x y H H' _ hi e hy hyi fun z H4 e4 rz => ⟨ys, e4 _ _ hacc, by omega, ?_, ys ++ [z], upd_same, ?_⟩
    · exact Ex.mut (e.trans e4) hD
    · have tu : TupS H4 (upd H4 D (.lst (ys ++ [z]))) := TupS.upd (e4 _ _ hacc) (fun _ => by simp)
      rw [List.take_add_one, hyi]
      exact Paired.snoc (Paired.mapP hp fun a b q => hR _ _ _ _ (e4.tups.trans tu) q) (hR _ _ _ _ tu rz)
  · obtain ⟨e, ys, h, hp⟩ := p
    rw [← hl, List.take_length] at hp
    exact hd D H ys hD e h hp
end
/-- while the dict at d is walked -/
structure LkEx (d : Addr) (s : Bg) (H H' : Hp) : Prop where
  keep : ∀ a o, a ≠ d → H a = some o → H' a = some o
  self : Rd H' d (.dK (toK s))
theorem LkEx.rd {d : Addr} {s : Bg} {H H' : Hp} (l : LkEx d s H H') (hd : Rd H d (.dK (toK s))) {b : Addr} {t : Bg} (h : Rd H b (.dK (toK t))) : Rd H' b (.dK (toK t)) := by
  by_cases e : b = d
  · subst e
    have : toK t = toK s := by
      rcases h with h | ⟨o, h⟩ <;> rcases hd with hd | ⟨o', hd⟩
      · exact HO.dK.inj (Option.some.inj (h.symm.trans hd))
      · exact absurd (Option.some.inj (h.symm.trans hd)) (by simp)
      · exact absurd (Option.some.inj (h.symm.trans hd)) (by simp)
      · have := Option.some.inj (h.symm.trans hd)
        injection this with _ e2
        exact HO.dK.inj e2
    rw [this]
    exact l.self
  · rcases h with h | ⟨o, h⟩
    · exact .inl (l.keep b _ e h)
    · exact .inr ⟨o, l.keep b _ e h⟩
theorem LkEx.ex {d : Addr} {s : Bg} {H H' H'' : Hp} (l : LkEx d s H H') (e : Ex H' H'') : LkEx d s H H'' := ⟨fun a o n h => e _ _ (l.keep a o n h), e.rd l.self⟩
/-- a comprehension over a dict's keys -/
theorem lcd_rel {σ : St} {H : Hp} {Q : VK} {d : Addr} {s : Bg} {te0 te : TE} {j : Nat} {vs : List Nat} (hd : Rd H d (.dK (toK s))) (hz : s.length ≤ sizeLine)
    (he : ∀ (H' : Hp) (Q : VK), LkEx d s H H' → Q (.ref d) H' → te0 σ H' Q)
    (R : Str × Int → V → Hp → Prop) (hR : ∀ e y H H', TupS H H' → R e y H → R e y H') (hw : ∀ x, wipe ((wipe σ vs).set j x) vs = wipe σ vs)
    (hs : ∀ (i : Nat) (w : Str) (n : Int) (H' : Hp) (K : VK), s[i]? = some (w, n) → LkEx d s H H' → (∀ y H4, Ex H' H4 → R (w, n) y H4 → K y H4) → te ((wipe σ vs).set j (some (.str w))) H' K)
    (hend : ∀ D H' ys, H D = none → Ex H H' → H' D = some (.lst ys) → Paired (fun y e => R e y H') ys s → Q (.ref D) H') : tLockRE (tLc (iKeys te0) (gName j) tYes te vs) σ H Q := by
  have core : ∀ (Hl : Hp) (od : Obj) (Q' : VK), Hl d = some (.frz od (.dK (toK s))) → (∀ a o, a ≠ d → (H a = some o ↔ Hl a = some o)) → (∀ a, Hl a = none → H a = none) →
      (∀ D H' ys, H D = none → Ex Hl H' → H' D = some (.lst ys) → Paired (fun y e => R e y H') ys s → Q' (.ref D) H') → tLc (iKeys te0) (gName j) tYes te vs σ Hl Q' := by
    intro Hl od Q' hl hsame hnone hE
    have l0 : LkEx d s H Hl := ⟨fun a o h2 q => (hsame a o h2).mp q, .inr ⟨od, hl⟩⟩
    refine he Hl _ l0 ⟨d, od, rfl, .inl ⟨toK s, hl, ?_⟩⟩
    show LcG _ _ _ _ _ _ _ _
    refine lc_rel walk_keys s (toK_len s).symm (by rw [toK_len]; exact hz) (fun H' e => e _ _ hl) R hR hw ?_ (fun D H' ys hD => hE D H' ys (hnone D hD))
    rintro i x e H2 H3 K hi e2 ⟨rfl, k, v, hk, rfl⟩ hei hK
    obtain ⟨w, n, hw', ekv⟩ := toK_get hk
    cases ekv
    rw [hw'] at hei
    obtain rfl := (Option.some.inj hei).symm
    exact hs i w n H3 K hw' (l0.ex e2) hK
  rcases hd with hd | ⟨od, hd⟩
  · refine .inl ⟨d, _, hd, trivial, fun od => ?_⟩
    refine core _ od _ upd_same (fun a o ha => by rw [upd_ne ha]) (fun a ha => ?_) (fun D H' ys hD e hl hp => ?_)
    · by_cases q : a = d
      · subst q; rw [upd_same] at ha; cases ha
      · rw [upd_ne q] at ha; exact ha
    · have hdl : H' d = some (.frz od (.dK (toK s))) := e _ _ upd_same
      have hne : D ≠ d := fun q => by subst q; rw [hd] at hD; cases hD
      refine ⟨hdl, hend D _ ys hD (fun a o q => ?_) (by rw [upd_ne hne]; exact hl) (Paired.mapP hp fun a b q => hR _ _ _ _ (TupS.upd hdl fun _ => by simp) q)⟩
      by_cases ha : a = d
      · subst ha
        rw [hd] at q
        cases q
        exact upd_same
      · rw [upd_ne ha]
        exact e a o (by rw [upd_ne ha]; exact q)
  · exact .inr (core H od Q hd (fun a o _ => Iff.rfl) (fun _ h => h) hend)
/-- a comprehension that turns f's object meanwhile -/
theorem lc_mut {J : It} {n : Nat} {G : Hp → Prop} {Y : Nat → Hp → V → Hp → Prop} (w : Walk J n G Y) {f : Addr} {o0 : HO} {j : Nat} {te : TE} {vs : List Nat} {σ : St} {H1 : Hp} {Q : VK} (hf : H1 f = some o0) (hn : n ≤ sizeLine) (I : Hp → Prop) (h0 : I H1)
    (hI : ∀ H D o, H1 D = none → I H → I (upd H D o)) (hG : ∀ H, ExB f H1 H → I H → G H) (P : V → Prop) (hw : ∀ x, wipe ((wipe σ vs).set j x) vs = wipe σ vs)
    (hs : ∀ i x H H' (K : VK), i < n → ExB f H1 H → I H → Y i H x H' → (∀ y H4, ExB f H H4 → I H4 → P y → K y H4) → te ((wipe σ vs).set j (some x)) H' K)
    (hd : ∀ D H' ys, H1 D = none → ExB f H1 H' → I H' → H' D = some (.lst ys) → ys.length = n → (∀ y ∈ ys, P y) → Q (.ref D) H') :
    LcG J (gName j) tYes te vs σ H1 Q := by
  intro D hD
  have hDf : D ≠ f := Ne.symm (ne_of_none hf hD)
  refine lc_it w (fun i H => ExB f H1 H ∧ I H ∧ ∃ ys, H D = some (.lst ys) ∧ ys.length = i ∧ ∀ y ∈ ys, P y) ⟨(Ex.new hD).exb, hI _ _ _ hD h0, [], upd_same, rfl, fun _ h => nomatch h⟩ (fun i H _ p => hG H p.1 p.2.1) ?_ (fun H p => ?_)
  · rintro i x H H' hi ⟨e, hi1, ys, hacc, hl, hp⟩ hy
    refine ⟨hw _, ?_⟩
    unfold tYes
    dsimp only
    rw [if_pos rfl]
    refine hs i x H H' _ hi e hi1 hy fun z H4 e4 i4 pz => ⟨ys, e4 _ _ hDf hacc, by omega, ?_, hI _ _ _ hD i4, ys ++ [z], upd_same, by rw [List.length_append, hl]; rfl, fun y hy => ?_⟩
    · exact fun a o hne q => by rw [upd_ne (ne_of_none q hD)]; exact e4 a o hne (e a o hne q)
    · rcases List.mem_append.mp hy with h | h
      · exact hp y h
      · rw [List.mem_singleton.mp h]; exact pz
  · obtain ⟨e, hi, ys, h, hl, hp⟩ := p
    exact hd D H ys hD e hi h hl hp
end Fp

/-! Displays of dicts and lists of them; how big a dict is. -/
namespace Fp
open PySem L2
theorem forG {J : It} {n : Nat} {G : Hp → Prop} {Y : Nat → Hp → V → Hp → Prop} (w : Walk J n G Y) {g : TG} {tb : TS} {D : Ends} {σ : St} {H : Hp} (Pv : Nat → St → Hp → Prop) (h0 : Pv 0 σ H) (hG : ∀ i σ H, i ≤ n → Pv i σ H → G H)
    (hs : ∀ i x σ H H', i < n → Pv i σ H → Y i H x H' → g x σ H' fun σ2 H2 => tb { D with nx := Pv (i + 1), ct := Pv (i + 1), bk := D.nx } σ2 H2) (hd : ∀ σ H, Pv n σ H → D.nx σ H) : ForG J g tb D σ H := for_it w Pv h0 hG hs hd
theorem mergeK_app (a : List (Key × V)) : ∀ b : List (Key × V), ((a ++ b).map (·.1)).Nodup → mergeK a b = a ++ b
  | [], _ => (List.append_nil a).symm
  | q :: r, h => by
    show mergeK (putK a q.1 q.2) r = a ++ q :: r
    have hn : valV a q.1 = none := by
      cases e : valV a q.1 with
      | none => rfl
      | some x =>
        unfold valV at e
        cases f : a.find? fun kv => decide (kv.1 = q.1) with
        | none => rw [f] at e; cases e
        | some y =>
          have h1 := List.mem_of_find?_eq_some f
          have h2 := List.find?_some f
          rw [List.map_append, List.nodup_append] at h
          exact absurd (of_decide_eq_true h2) (h.2.2 y.1 (List.mem_map.mpr ⟨y, h1, rfl⟩) q.1 (by simp))
    rw [putK_new q.2 hn, mergeK_app (a ++ [(q.1, q.2)]) r (by rw [List.append_assoc]; exact h), List.append_assoc]
    rfl
theorem mergeK_toK {s : Bg} (h : (keys s).Nodup) : mergeK [] (toK s) = toK s := by
  refine (mergeK_app [] (toK s) ?_)
  rw [List.nil_append]
  unfold toK
  rw [List.map_map]
  have e : ((fun x : Key × V => x.1) ∘ fun kv : Str × Int => ((Sum.inr kv.1 : Key), V.int kv.2)) = (Sum.inr : Str → Key) ∘ (·.1) := rfl
  rw [e, ← List.map_map]
  exact List.Pairwise.map _ (fun a b q e => q (Sum.inr.inj e)) h
/-- a display tells the new dict s -/
def DispOk (te : TE) (σ : St) (s : Bg) : Prop := ∀ (H : Hp) (Q : VK), (∀ p H', Ex H H' → H p = none → H' p = some (.dK (toK s)) → Q (.ref p) H') → te σ H Q
def PureT (te : TE) (σ : St) (v : V) : Prop := ∀ (H : Hp) (Q : VK), Q v H → te σ H Q
theorem pure_c {v : V} {σ : St} : PureT (tC v) σ v := fun _ _ q => q
theorem pure_v {v : V} {σ : St} {i : Nat} (h : σ[i]? = some (some v)) : PureT (tVar i) σ v := fun _ _ q => ⟨v, h, q⟩
def PairsOk : List (TE × TE) → St → Bg → Prop
  | [], _, [] => True
  | t :: r, σ, q :: s => PureT t.1 σ (.str q.1) ∧ PureT t.2 σ (.int q.2) ∧ PairsOk r σ s
  | _, _, _ => False
theorem pairs_ok {σ : St} : ∀ {trs : List (TE × TE)} {s : Bg} {H : Hp} {R : List (V × V) → Hp → Prop}, PairsOk trs σ s → R ((toK s).map fun kv => (kV kv.1, kv.2)) H → tPairs trs σ H R
  | [], [], _, _, _, h => h
  | [], _ :: _, _, _, ok, _ => ok.elim
  | _ :: _, [], _, _, ok, _ => ok.elim
  | (tk, tv) :: r, q :: s, H, R, ok, h => ok.1 H _ (ok.2.1 H _ (pairs_ok (R := fun ps H => R ((V.str q.1, V.int q.2) :: ps) H) ok.2.2 h))
theorem disp_ok {trs : List (TE × TE)} {σ : St} {s : Bg} (ok : PairsOk trs σ s) (hn : (keys s).Nodup) (hl : s.length ≤ 15) : DispOk (tDisp trs) σ s := fun H Q q p hp => by
  refine pairs_ok ok ⟨upd_same, toK s, rfl, by rw [toK_len]; exact hl, ?_⟩
  rw [mergeK_toK hn]
  exact q p _ (Ex.mut (Ex.new hp) hp) hp upd_same
def ArgsOk (tA : TA) (σ : St) (ss : List Bg) : Prop := ∀ (H : Hp) (QA : List V → Hp → Prop), (∀ (ps : List Addr) H', Ex H H' → Paired (fun p s => H p = none ∧ H' p = some (.dK (toK s))) ps ss → QA (ps.map V.ref) H') → tA σ H QA
theorem args_nil {σ : St} : ArgsOk tNil σ [] := fun H QA q => q [] H (Ex.refl H) .nil
theorem args_cons {σ : St} {te : TE} {tA : TA} {s : Bg} {ss : List Bg} (h : DispOk te σ s) (h2 : ArgsOk tA σ ss) : ArgsOk (tCons te tA) σ (s :: ss) := fun H QA q =>
  h H _ fun p H1 e1 hp0 hp => h2 H1 _ fun ps H2 e2 hps => q (p :: ps) H2 (e1.trans e2) (.cons ⟨hp0, e2 _ _ hp⟩ (Paired.mapP hps fun _ _ z => ⟨e1.free z.1, z.2⟩))
theorem paired_app {α β : Type} {F : α → β → Prop} {a : List α} {b : List β} {c : List α} {d : List β} (h : Paired F a b) (h2 : Paired F c d) : Paired F (a ++ c) (b ++ d) := by
  induction h with
  | nil => exact h2
  | cons q _ ih => exact .cons q ih
theorem paired_nth {α β : Type} {F : α → β → Prop} {a : List α} {b : List β} (h : Paired F a b) : ∀ {i : Nat}, i < b.length → ∃ x y, a[i]? = some x ∧ y ∈ b ∧ F x y := by
  induction h with
  | nil => intro i hi; exact absurd hi (Nat.not_lt_zero _)
  | @cons x y _ _ q _ ih =>
    intro i hi
    cases i with
    | zero => exact ⟨x, y, rfl, List.mem_cons_self, q⟩
    | succ i =>
      obtain ⟨x', y', h1, h2, h3⟩ := ih (i := i) (by rw [List.length_cons] at hi; omega)
      exact ⟨x', y', h1, List.mem_cons_of_mem _ h2, h3⟩
end Fp

/-! tuple(list), its object known; dict(that tuple of pairs). -/
namespace Fp
open PySem L2 PyProof.Rows
section
variable {X : Cx}
/-- tuple(list): a tuple without a dict -/
def rTupleZ (K : PySem.W.Frag) : List V → Hp → VK → Prop := fun xs H Q => ∃ p ys, xs = [V.ref p] ∧ SqL K H p ys ∧ ∀ l (o : Obj), H l = none → o.dict = none → Q (.ref l) (upd H l (.frz o (.tup ys)))
theorem call_tupleZ : CallR X (.type "tuple") (rTupleZ X.K) := by
  intro pins s σ H xs us Q I r h
  obtain ⟨p, ys, rfl, hq, q⟩ := h
  obtain ⟨u, rfl, rx⟩ := vals1 r
  cases rx
  obtain ⟨its, r', pl, hz⟩ := I.list hq
  have hlen := r'.length
  refine PySem.call_tuple_list pl.isList (fun h' kp => ?_) (by simp only [List.size_toArray] <;> omega)
  have I1 : Inv X pins σ H { s with heap := h' } := I.kept (t' := s.toks) kp
  have I2 : Inv X pins σ (upd H h'.objs.size (.frz { cls := .type "tuple", data := .seq its.toArray } (.tup ys))) { s with heap := h'.push { cls := .type "tuple", data := .seq its.toArray } } :=
    I1.laid (t' := s.toks) (fun b o e => Heap.get?_push_of_some _ e) (Nat.le_refl _) (show ObjOk X.prog X.w _ _ _ (.frz _ (.tup ys)) from ⟨Heap.get?_push_size _ rfl, hz, its, r', IsTup.new _ _⟩)
  exact ⟨.ref h'.objs.size, _, I2, rfl, q _ _ (I1.hok.fresh (Nat.le_refl _)) rfl⟩
theorem pairs_ofV {pins : List (Addr × Obj)} {σ : L2.St} {H : Hp} {s : Shared} (I : Inv X pins σ H s) : ∀ {ps : List Addr} {kvs : List (Key × V)}, Paired (fun p kv => SqT X.K H p [kV kv.1, kv.2]) ps kvs →
    ∃ (prs : List (Key × Value)) (ws : List (Value × Value)), KV kvs prs ∧ prs.length = ps.length ∧ ws.length = ps.length ∧ ∀ (j : Nat) (k v : Value), ws[j]? = some (k, v) → ∃ (b : Addr) (key : Key), ps[j]? = some b ∧ IsTup s.heap b #[k, v] ∧ prs[j]? = some (key, v) ∧ (mixKind X.prog X.w).is key k = true
  | _, _, .nil => ⟨[], [], .nil, rfl, rfl, fun j k v e => by simp at e⟩
  | _, _, .cons (a := p) (b := kv) h t => by
    obtain ⟨prs, ws, r, hl, hl2, hp⟩ := pairs_ofV I t
    obtain ⟨its, rv, ht, _⟩ := I.tuple h
    obtain ⟨u, y, ei, ru, ry⟩ := vals2 rv
    subst ei
    refine ⟨(kv.1, y) :: prs, (u, y) :: ws, .cons ⟨rfl, ry⟩ r, by rw [List.length_cons, List.length_cons, hl], by rw [List.length_cons, List.length_cons, hl2], fun j k v e => ?_⟩
    cases j with
    | zero =>
      have e' : (u, y) = (k, v) := Option.some.inj e
      cases e'
      exact ⟨p, kv.1, rfl, ht, rfl, kV_is (P := X.prog) (w := X.w) ru⟩
    | succ j =>
      obtain ⟨b, key, e1, e2, e3, e4⟩ := hp j k v (by simpa using e)
      exact ⟨b, key, by simpa using e1, e2, by simpa using e3, e4⟩
def rDictT (K : PySem.W.Frag) : List V → Hp → VK → Prop := fun xs H Q => ∃ (a : Addr) (o : Obj) (ps : List Addr) (kvs : List (Key × V)), xs = [.ref a] ∧ H a = some (.frz o (.tup (ps.map V.ref))) ∧ o.dict = none ∧ Paired (fun p kv => SqT K H p [kV kv.1, kv.2]) ps kvs ∧
    ∀ p, H p = none → Q (.ref p) (upd H p (.dK (mergeK [] kvs)))
theorem call_dictT (hcalm : X.calm = true) : CallR X (.type "dict") (rDictT X.K) := by
  intro pins s σ H xs us Q I r q
  obtain ⟨a, o, ps, kvs, ex, ha, hod, hp, q⟩ := q
  subst ex
  obtain ⟨u, eu, rx⟩ := vals1 r
  subst eu
  cases rx
  obtain ⟨hg, hz, its, rv, o', ho', hc, n, hdat⟩ := (show ObjOk X.prog X.w H s.heap a (.frz o (.tup (ps.map V.ref))) from I.hok a _ ha)
  rw [hg] at ho'
  cases ho'
  have ei := refs_at rv
  subst ei
  rw [List.length_map] at hz
  obtain ⟨prs, ws, rel, hl, hl2, hpr⟩ := pairs_ofV I hp
  have ok : PlainSeq "tuple" s.heap a (ps.map Value.ref).toArray ∧ PairItems s.heap (ps.map Value.ref).toArray (fun j => ps.getD j 0) ws := by
    refine ⟨⟨o, n, hg, hc, hod, hdat⟩, by simp [hl2], fun j k v e => ?_⟩
    obtain ⟨b, key, e1, e2, e3, e4⟩ := hpr j k v e
    refine ⟨by simp [e1, List.getD], .inl ?_⟩
    have : ps.getD j 0 = b := by simp [List.getD, e1]
    show s.heap.IsTuple (ps.getD j 0) #[k, v]
    rw [this]
    obtain ⟨ob, h1, h2, n2, h3⟩ := e2
    exact ⟨ob, h1, h2, n2, h3⟩
  refine call_dict_pairs (knd := mixKind X.prog X.w) (kvs := prs) (PairArg.tuple a (ps.map Value.ref).toArray (fun j => ps.getD j 0) ws) (I.ok.hd hcalm) ok ⟨by rw [hl, hl2], fun i key v e => ?_⟩ (by rw [hl2]; exact hz) fun h' tk hd' k => ?_
  · obtain ⟨b, key', e1, e2, e3, e4⟩ := hpr i key v e
    exact ⟨key', e3, e4⟩
  · have hm : (s.heap.objs.size == sysModules) = false := beq_eq_false_iff_ne.mpr (Nat.ne_of_gt I.big)
    have hlen : (mergeK [] kvs).length ≤ sizeLine := by
      refine Nat.le_trans (length_mergeK kvs []) ?_
      rw [List.length_nil, Nat.zero_add, rel.length, hl]
      exact hz
    exact ⟨.ref s.heap.objs.size, upd H s.heap.objs.size (.dK (mergeK [] kvs)), I.laid (t' := tk) (fun b u e => k b u (fun h => nomatch h) e) (Nat.le_refl _) (show ObjOk X.prog X.w _ _ _ (.dK (mergeK [] kvs)) from ⟨hlen, hm, merged [] prs, KV.merge rel .nil, hd'⟩), rfl, q _ (I.hok.fresh (Nat.le_refl _))⟩
end
end Fp

/-! Own errors without a message. -/
namespace Fp
open PySem L2 PyProof.Rows
section
variable {X : Cx} {C : Addr} {bmB : List Value} {B newId initId : String}
/-- X() -/
theorem pmk_own0 {x : Str} {p pos : Pos} (F : ExcBaseFacts B newId initId bmB) (q : PySem.W.excIn X.K C bmB newId = true) (gC : X.mg x = some (.ref C)) (kC : PySem.W.keepIn X.K (.ref C) = true) (r : Raises X (.ref C)) (hg : Gl X x)
    (hdb : (x == ("__debug__" : Str)) = false := by decide) : PMk X (.Call (.Name x p) [] [] pos) (fun _ H Q => Q (.ref C) none H) := by
  intro pins s σ H Q I h
  refine wpAny_Call_Name_kw (ld_glob I hg gC ?_ hdb)
  refine PySem.W.callWith_K0 I.kIn kC ?_
  show wpAny _ _ (call (.ref C) []) _ _ _
  obtain ⟨bm, N, nm, qn, bs, hdct, sn, sub, ab, col, dd, k0, k1, k2, k3, k5, mN, hC, hN, hni, T⟩ := exc_obj I.kIn q
  refine wpAny_call_exc_subT F T hC hN hni (fun h' e hm => ?_) (Nat.zero_le _)
  exact mk_of I hm r h (I.hok.gone hm.new)
/-- an own error's class: the facts -/
structure ErrC (K : PySem.W.Frag) (mg : Str → Option Value) (nm : Str) (C : Addr) : Prop where
  g : mg nm = some (.ref C)
  q : PySem.W.excIn K C [.type "ValueError", .type "Exception", .type "BaseException", .type "object"] "ValueError.__new__" = true
  k : PySem.W.keepIn K (.ref C) = true
  b : PySem.W.subIn K (.ref C) (.type "BaseException") = some true
  t : PySem.W.typeIn K (.ref C) = some (.type "type")
theorem ps_err {W : WX} {x : Str} {p pos pos' : Pos} (hc : X.calm = true) (tk : Takes X W) (D : ErrC X.K X.mg x C) (hg : Gl X x) (hdb : (x == ("__debug__" : Str)) = false := by decide) :
    PS X (.Raise (some (.Call (.Name x p) [] [] pos)) none pos') (fun _ σ H => W (.ref C) none σ H) :=
  L2.ps_raise hc tk (pmk_own0 PySem.F.excBase_ValueError D.q D.g D.k (raises_own D.b D.t) hg hdb)
/-- a def that raises: called where the error is let out or caught -/
theorem pe_callDX {W : WX} {k : Nat} {ps : List Str} {sp : Sp} {x : Str} {p pos : Pos} {e : Expr} {es : List Expr} {t : TA} (D : DefOk X.prog X.w X.K X.mg X.base (L2.CX X.prog X.w) k x ps sp) (hr : Room k X.A) (hg : Gl X x) (tk : Takes X W) (ha : PA X (e :: es) t)
    (hdb : (x == ("__debug__" : Str)) = false := by decide) (he : starEach (e :: es) X.env = (false, eval e X.env) :: starEach es X.env := by rfl) (hpl : (backTo pos (starEach es X.env)).any (·.1) = false := by rfl) :
    PE X (.Call (.Name x p) (e :: es) [] pos) (tCallS sp (WE W) t) := by
  obtain ⟨f, fd, hm, hk, hb, F⟩ := D.ex
  exact pe_callS F hr hg hm hk hb (fun σ => passAt tk σ) ha hdb he hpl
theorem g_callS {sp : Sp} {E : L2.St → XK} {tA : TA} {σ : L2.St} {H : Hp} {Q : VK} (h : tA σ H fun vs H1 => sp vs H1 Q (E σ)) : tCallS sp E tA σ H Q := h
/-- a list or a tuple -/
def iSeq (K : PySem.W.Frag) (te : TE) : TI := fun σ H R => iList K te σ H R ∨ iTup K te σ H R
theorem pi_seq {tg l : Expr} {tl : TE} (hl : PE X l tl) : PI X tg l (iSeq X.K tl) := ⟨fun pins s σ H R I q => q.elim ((pi_list hl).run pins s σ H R I) ((pi_tup hl).run pins s σ H R I)⟩
theorem pi_seqK {K : PySem.W.Frag} (hK : X.K = K) {tg l : Expr} {tl : TE} (hl : PE X l tl) : PI X tg l (iSeq K tl) := hK ▸ pi_seq hl
theorem pe_fldK {K : PySem.W.Frag} (hK : X.K = K) {e : Expr} {f : Str} {pos : Pos} {ta : TE} (he : PE X e ta) (hb : attributeBase e f X.env (eval e X.env) = eval e X.env) : PE X (.Attribute e f pos) (tFld K ta f) := hK ▸ pe_fld he hb
end
end Fp

namespace Fp
open PySem L2
def top (i : Nat) : Stmt := PySem.Challenge.pw_frontparts_k84_wrong_lines_of_rows.main.body.getD i (.Pass ⟨0, 0, 0, 0⟩)
abbrev s_BadBag_init : Stmt := inClass (top 2) 0
abbrev N_BadBag_init : List Str := ["self", "part"]
theorem st_BadBag_init : ∀ v0 v1 : V, start N_BadBag_init [v0, v1] = [some v0, some v1] := fun _ _ => rfl
abbrev s_BadText_init : Stmt := inClass (top 3) 0
abbrev N_BadText_init : List Str := ["self", "line"]
theorem st_BadText_init : ∀ v0 v1 : V, start N_BadText_init [v0, v1] = [some v0, some v1] := fun _ _ => rfl
abbrev s_is_integer : Stmt := top 9
abbrev N_is_integer : List Str := ["thing"]
theorem st_is_integer : ∀ v0 : V, start N_is_integer [v0] = [some v0] := fun _ => rfl
theorem sc_is_integer : FnScope N_is_integer ["thing"] (defScope s_is_integer) := ⟨rfl, rfl, rfl, by decide +kernel, rfl, by decide +kernel, by decide +kernel⟩
abbrev s_is_within : Stmt := top 10
abbrev N_is_within : List Str := ["thing", "least", "most"]
theorem st_is_within : ∀ v0 v1 v2 : V, start N_is_within [v0, v1, v2] = [some v0, some v1, some v2] := fun _ _ _ => rfl
theorem sc_is_within : FnScope N_is_within ["thing", "least", "most"] (defScope s_is_within) := ⟨rfl, rfl, rfl, by decide +kernel, rfl, by decide +kernel, by decide +kernel⟩
abbrev s_is_clock : Stmt := top 11
abbrev N_is_clock : List Str := ["thing"]
theorem st_is_clock : ∀ v0 : V, start N_is_clock [v0] = [some v0] := fun _ => rfl
theorem sc_is_clock : FnScope N_is_clock ["thing"] (defScope s_is_clock) := ⟨rfl, rfl, rfl, by decide +kernel, rfl, by decide +kernel, by decide +kernel⟩
abbrev s_is_word : Stmt := top 12
abbrev N_is_word : List Str := ["thing", "letter"]
theorem st_is_word : ∀ v0 : V, start N_is_word [v0] = [some v0, none] := fun _ => rfl
theorem sc_is_word : FnScope N_is_word ["thing"] (defScope s_is_word) := ⟨rfl, rfl, rfl, by decide +kernel, rfl, by decide +kernel, by decide +kernel⟩
abbrev s_is_short_word : Stmt := top 13
abbrev N_is_short_word : List Str := ["thing"]
theorem st_is_short_word : ∀ v0 : V, start N_is_short_word [v0] = [some v0] := fun _ => rfl
theorem sc_is_short_word : FnScope N_is_short_word ["thing"] (defScope s_is_short_word) := ⟨rfl, rfl, rfl, by decide +kernel, rfl, by decide +kernel, by decide +kernel⟩
abbrev s_ahead_key : Stmt := top 15
abbrev N_ahead_key : List Str := ["word"]
theorem st_ahead_key : ∀ v0 : V, start N_ahead_key [v0] = [some v0] := fun _ => rfl
theorem sc_ahead_key : FnScope N_ahead_key ["word"] (defScope s_ahead_key) := ⟨rfl, rfl, rfl, by decide +kernel, rfl, by decide +kernel, by decide +kernel⟩
abbrev s_words_in_order : Stmt := top 16
abbrev N_words_in_order : List Str := ["sparse"]
theorem st_words_in_order : ∀ v0 : V, start N_words_in_order [v0] = [some v0] := fun _ => rfl
theorem sc_words_in_order : FnScope N_words_in_order ["sparse"] (defScope s_words_in_order) := ⟨rfl, rfl, rfl, by decide +kernel, rfl, by decide +kernel, by decide +kernel⟩
abbrev s_are_words : Stmt := top 18
abbrev N_are_words : List Str := ["clock", "thing", "word"]
theorem st_are_words : ∀ v0 v1 : V, start N_are_words [v0, v1] = [some v0, some v1, none] := fun _ _ => rfl
theorem sc_are_words : FnScope N_are_words ["clock", "thing"] (defScope s_are_words) := ⟨rfl, rfl, rfl, by decide +kernel, rfl, by decide +kernel, by decide +kernel⟩
abbrev s_Bag_init : Stmt := inClass (top 19) 0
abbrev N_Bag_init : List Str := ["self", "clock", "words"]
theorem st_Bag_init : ∀ v0 v1 v2 : V, start N_Bag_init [v0, v1, v2] = [some v0, some v1, some v2] := fun _ _ _ => rfl
theorem sc_Bag_init : FnScope N_Bag_init ["self", "clock", "words"] (defScope s_Bag_init) := ⟨rfl, rfl, rfl, by decide +kernel, rfl, by decide +kernel, by decide +kernel⟩
abbrev s_Bag_keep : Stmt := inClass (top 19) 1
abbrev N_Bag_keep : List Str := ["self", "clock", "sparse", "word"]
theorem st_Bag_keep : ∀ v0 v1 v2 : V, start N_Bag_keep [v0, v1, v2] = [some v0, some v1, some v2, none] := fun _ _ _ => rfl
theorem sc_Bag_keep : FnScope N_Bag_keep ["self", "clock", "sparse"] (defScope s_Bag_keep) := ⟨rfl, rfl, rfl, by decide +kernel, rfl, by decide +kernel, by decide +kernel⟩
abbrev s_Bag_eq : Stmt := inClass (top 19) 2
abbrev N_Bag_eq : List Str := ["self", "other"]
theorem st_Bag_eq : ∀ v0 v1 : V, start N_Bag_eq [v0, v1] = [some v0, some v1] := fun _ _ => rfl
theorem sc_Bag_eq : FnScope N_Bag_eq ["self", "other"] (defScope s_Bag_eq) := ⟨rfl, rfl, rfl, by decide +kernel, rfl, by decide +kernel, by decide +kernel⟩
abbrev s_RawBag_init : Stmt := inClass (top 20) 0
abbrev N_RawBag_init : List Str := ["self", "clock", "sparse"]
theorem st_RawBag_init : ∀ v0 v1 v2 : V, start N_RawBag_init [v0, v1, v2] = [some v0, some v1, some v2] := fun _ _ _ => rfl
theorem sc_RawBag_init : FnScope N_RawBag_init ["self", "clock", "sparse"] (defScope s_RawBag_init) := ⟨rfl, rfl, rfl, by decide +kernel, rfl, by decide +kernel, by decide +kernel⟩
abbrev s_raw : Stmt := top 21
abbrev N_raw : List Str := ["clock", "sparse"]
theorem st_raw : ∀ v0 v1 : V, start N_raw [v0, v1] = [some v0, some v1] := fun _ _ => rfl
theorem sc_raw : FnScope N_raw ["clock", "sparse"] (defScope s_raw) := ⟨rfl, rfl, rfl, by decide +kernel, rfl, by decide +kernel, by decide +kernel⟩
abbrev s_read_word : Stmt := top 23
abbrev N_read_word : List Str := ["clock", "text", "signs", "numbers", "number"]
theorem st_read_word : ∀ v0 v1 : V, start N_read_word [v0, v1] = [some v0, some v1, none, none, none] := fun _ _ => rfl
theorem sc_read_word : FnScope N_read_word ["clock", "text"] (defScope s_read_word) := ⟨rfl, rfl, rfl, by decide +kernel, rfl, by decide +kernel, by decide +kernel⟩
abbrev s_read_words : Stmt := top 24
abbrev N_read_words : List Str := ["clock", "text", "found", "piece", "told"]
theorem st_read_words : ∀ v0 v1 : V, start N_read_words [v0, v1] = [some v0, some v1, none, none, none] := fun _ _ => rfl
theorem sc_read_words : FnScope N_read_words ["clock", "text"] (defScope s_read_words) := ⟨rfl, rfl, rfl, by decide +kernel, rfl, by decide +kernel, by decide +kernel⟩
abbrev s_read_row : Stmt := top 25
abbrev N_read_row : List Str := ["text", "lines", "last", "clock", "found", "at", "line", "words"]
theorem st_read_row : ∀ v0 : V, start N_read_row [v0] = [some v0, none, none, none, none, none, none, none] := fun _ => rfl
theorem sc_read_row : FnScope N_read_row ["text"] (defScope s_read_row) := ⟨rfl, rfl, rfl, by decide +kernel, rfl, by decide +kernel, by decide +kernel⟩
abbrev s_law_tape : Stmt := top 27
abbrev N_law_tape : List Str := ["_law_script"]
theorem st_law_tape : ∀ v0 : V, start N_law_tape [v0] = [some v0] := fun _ => rfl
theorem sc_law_tape : FnScope N_law_tape ["_law_script"] (defScope s_law_tape) := ⟨rfl, rfl, rfl, by decide +kernel, rfl, by decide +kernel, by decide +kernel⟩
abbrev s_law_pick : Stmt := top 28
abbrev N_law_pick : List Str := ["_law_tape_here", "_law_many", "_law_digit", "_law_cell", "_law_mixed"]
theorem st_law_pick : ∀ v0 v1 : V, start N_law_pick [v0, v1] = [some v0, some v1, none, none, none] := fun _ _ => rfl
theorem sc_law_pick : FnScope N_law_pick ["_law_tape_here", "_law_many"] (defScope s_law_pick) := ⟨rfl, rfl, rfl, by decide +kernel, rfl, by decide +kernel, by decide +kernel⟩
abbrev s_law_word : Stmt := top 29
abbrev N_law_word : List Str := ["_law_tape_here", "_law_letters_here", "_law_most", "_law_turn"]
theorem st_law_word : ∀ v0 v1 v2 : V, start N_law_word [v0, v1, v2] = [some v0, some v1, some v2, none] := fun _ _ _ => rfl
theorem sc_law_word : FnScope N_law_word ["_law_tape_here", "_law_letters_here", "_law_most"] (defScope s_law_word) := ⟨rfl, rfl, rfl, by decide +kernel, rfl, by decide +kernel, by decide +kernel⟩
abbrev s_law_sparse : Stmt := top 30
abbrev N_law_sparse : List Str := ["_law_tape_here", "_law_clock_here", "_law_letters_here", "_law_many", "_law_most", "_law_found", "_law_turn", "_law_word_here"]
theorem st_law_sparse : ∀ v0 v1 v2 v3 v4 : V, start N_law_sparse [v0, v1, v2, v3, v4] = [some v0, some v1, some v2, some v3, some v4, none, none, none] := fun _ _ _ _ _ => rfl
theorem sc_law_sparse : FnScope N_law_sparse ["_law_tape_here", "_law_clock_here", "_law_letters_here", "_law_many", "_law_most"] (defScope s_law_sparse) := ⟨rfl, rfl, rfl, by decide +kernel, rfl, by decide +kernel, by decide +kernel⟩
abbrev s_law_clock : Stmt := top 31
abbrev N_law_clock : List Str := ["_law_tape_here"]
theorem st_law_clock : ∀ v0 : V, start N_law_clock [v0] = [some v0] := fun _ => rfl
theorem sc_law_clock : FnScope N_law_clock ["_law_tape_here"] (defScope s_law_clock) := ⟨rfl, rfl, rfl, by decide +kernel, rfl, by decide +kernel, by decide +kernel⟩
abbrev s_law_letters : Stmt := top 32
abbrev N_law_letters : List Str := ["_law_tape_here"]
theorem st_law_letters : ∀ v0 : V, start N_law_letters [v0] = [some v0] := fun _ => rfl
theorem sc_law_letters : FnScope N_law_letters ["_law_tape_here"] (defScope s_law_letters) := ⟨rfl, rfl, rfl, by decide +kernel, rfl, by decide +kernel, by decide +kernel⟩
abbrev s_law_pairs : Stmt := top 33
abbrev N_law_pairs : List Str := ["_law_sparse_here", "_law_word_here"]
theorem st_law_pairs : ∀ v0 : V, start N_law_pairs [v0] = [some v0, none] := fun _ => rfl
theorem sc_law_pairs : FnScope N_law_pairs ["_law_sparse_here"] (defScope s_law_pairs) := ⟨rfl, rfl, rfl, by decide +kernel, rfl, by decide +kernel, by decide +kernel⟩
abbrev s_law_sum : Stmt := top 34
abbrev N_law_sum : List Str := ["_law_clock_here", "_law_one", "_law_other", "_law_found", "_law_word_here", "_law_total"]
theorem st_law_sum : ∀ v0 v1 v2 : V, start N_law_sum [v0, v1, v2] = [some v0, some v1, some v2, none, none, none] := fun _ _ _ => rfl
theorem sc_law_sum : FnScope N_law_sum ["_law_clock_here", "_law_one", "_law_other"] (defScope s_law_sum) := ⟨rfl, rfl, rfl, by decide +kernel, rfl, by decide +kernel, by decide +kernel⟩
abbrev s_law_product : Stmt := top 35
abbrev N_law_product : List Str := ["_law_clock_here", "_law_one", "_law_other", "_law_found", "_law_front", "_law_back", "_law_word_here"]
theorem st_law_product : ∀ v0 v1 v2 : V, start N_law_product [v0, v1, v2] = [some v0, some v1, some v2, none, none, none, none] := fun _ _ _ => rfl
theorem sc_law_product : FnScope N_law_product ["_law_clock_here", "_law_one", "_law_other"] (defScope s_law_product) := ⟨rfl, rfl, rfl, by decide +kernel, rfl, by decide +kernel, by decide +kernel⟩
abbrev s_law_size : Stmt := top 36
abbrev N_law_size : List Str := ["_law_sparse_here", "_law_word_here"]
theorem st_law_size : ∀ v0 : V, start N_law_size [v0] = [some v0, none] := fun _ => rfl
theorem sc_law_size : FnScope N_law_size ["_law_sparse_here"] (defScope s_law_size) := ⟨rfl, rfl, rfl, by decide +kernel, rfl, by decide +kernel, by decide +kernel⟩
abbrev s_law_is : Stmt := top 37
abbrev N_law_is : List Str := ["_law_told_here", "_law_clock_here", "_law_sparse_here", "_law_due_here"]
theorem st_law_is : ∀ v0 v1 v2 : V, start N_law_is [v0, v1, v2] = [some v0, some v1, some v2, none] := fun _ _ _ => rfl
theorem sc_law_is : FnScope N_law_is ["_law_told_here", "_law_clock_here", "_law_sparse_here"] (defScope s_law_is) := ⟨rfl, rfl, rfl, by decide +kernel, rfl, by decide +kernel, by decide +kernel⟩
abbrev s_law_text_of : Stmt := top 38
abbrev N_law_text_of : List Str := ["_law_pairs_here", "_law_rows", "_law_word_here", "_law_number"]
theorem st_law_text_of : ∀ v0 : V, start N_law_text_of [v0] = [some v0, none, none, none] := fun _ => rfl
theorem sc_law_text_of : FnScope N_law_text_of ["_law_pairs_here"] (defScope s_law_text_of) := ⟨rfl, rfl, rfl, by decide +kernel, rfl, by decide +kernel, by decide +kernel⟩
abbrev s_law_word_told : Stmt := top 39
abbrev N_law_word_told : List Str := ["_law_clock_here", "_law_text", "_law_signs", "_law_number", "_law_word_here", "_law_sign"]
theorem st_law_word_told : ∀ v0 v1 : V, start N_law_word_told [v0, v1] = [some v0, some v1, none, none, none, none] := fun _ _ => rfl
theorem sc_law_word_told : FnScope N_law_word_told ["_law_clock_here", "_law_text"] (defScope s_law_word_told) := ⟨rfl, rfl, rfl, by decide +kernel, rfl, by decide +kernel, by decide +kernel⟩
abbrev s_law_read : Stmt := top 40
abbrev N_law_read : List Str := ["_law_clock_here", "_law_text", "_law_found", "_law_piece", "_law_told_here"]
theorem st_law_read : ∀ v0 v1 : V, start N_law_read [v0, v1] = [some v0, some v1, none, none, none] := fun _ _ => rfl
theorem sc_law_read : FnScope N_law_read ["_law_clock_here", "_law_text"] (defScope s_law_read) := ⟨rfl, rfl, rfl, by decide +kernel, rfl, by decide +kernel, by decide +kernel⟩
abbrev s_law_spoiled : Stmt := top 41
abbrev N_law_spoiled : List Str := ["_law_tape_here", "_law_text", "_law_signs", "_law_at", "_law_sign", "_law_more", "_law_changed_here"]
theorem st_law_spoiled : ∀ v0 v1 : V, start N_law_spoiled [v0, v1] = [some v0, some v1, none, none, none, none, none] := fun _ _ => rfl
theorem sc_law_spoiled : FnScope N_law_spoiled ["_law_tape_here", "_law_text"] (defScope s_law_spoiled) := ⟨rfl, rfl, rfl, by decide +kernel, rfl, by decide +kernel, by decide +kernel⟩
abbrev s_law_is_int : Stmt := top 42
abbrev N_law_is_int : List Str := ["_law_thing"]
theorem st_law_is_int : ∀ v0 : V, start N_law_is_int [v0] = [some v0] := fun _ => rfl
theorem sc_law_is_int : FnScope N_law_is_int ["_law_thing"] (defScope s_law_is_int) := ⟨rfl, rfl, rfl, by decide +kernel, rfl, by decide +kernel, by decide +kernel⟩
abbrev s_law_odd : Stmt := top 43
abbrev N_law_odd : List Str := ["_law_tape_here", "_law_things"]
theorem st_law_odd : ∀ v0 : V, start N_law_odd [v0] = [some v0, none] := fun _ => rfl
theorem sc_law_odd : FnScope N_law_odd ["_law_tape_here"] (defScope s_law_odd) := ⟨rfl, rfl, rfl, by decide +kernel, rfl, by decide +kernel, by decide +kernel⟩
abbrev s_law_deep : Stmt := top 44
abbrev N_law_deep : List Str := ["_law_tape_here", "_law_way", "_law_found", "_law_turn"]
theorem st_law_deep : ∀ v0 : V, start N_law_deep [v0] = [some v0, none, none, none] := fun _ => rfl
theorem sc_law_deep : FnScope N_law_deep ["_law_tape_here"] (defScope s_law_deep) := ⟨rfl, rfl, rfl, by decide +kernel, rfl, by decide +kernel, by decide +kernel⟩
abbrev s_law_due : Stmt := top 45
abbrev N_law_due : List Str := ["_law_text", "_law_lines", "_law_closed", "_law_found", "_law_k", "_law_words"]
theorem st_law_due : ∀ v0 : V, start N_law_due [v0] = [some v0, none, none, none, none, none] := fun _ => rfl
theorem sc_law_due : FnScope N_law_due ["_law_text"] (defScope s_law_due) := ⟨rfl, rfl, rfl, by decide +kernel, rfl, by decide +kernel, by decide +kernel⟩
abbrev s_law_told : Stmt := top 46
abbrev N_law_told : List Str := ["_law_text", "_law_told_here", "e"]
theorem st_law_told : ∀ v0 : V, start N_law_told [v0] = [some v0, none, none] := fun _ => rfl
theorem sc_law_told : FnScope N_law_told ["_law_text"] (defScope s_law_told) := ⟨rfl, rfl, rfl, by decide +kernel, rfl, by decide +kernel, by decide +kernel⟩
abbrev s_law_is_right : Stmt := top 47
abbrev N_law_is_right : List Str := ["_law_text", "_law_due_here", "_law_told_here", "_law_k"]
theorem st_law_is_right : ∀ v0 : V, start N_law_is_right [v0] = [some v0, none, none, none] := fun _ => rfl
theorem sc_law_is_right : FnScope N_law_is_right ["_law_text"] (defScope s_law_is_right) := ⟨rfl, rfl, rfl, by decide +kernel, rfl, by decide +kernel, by decide +kernel⟩
abbrev s_law_changed : Stmt := top 48
abbrev N_law_changed : List Str := ["_law_tape_here", "_law_lines", "_law_at", "_law_way", "_law_odd_here"]
theorem st_law_changed : ∀ v0 v1 : V, start N_law_changed [v0, v1] = [some v0, some v1, none, none, none] := fun _ _ => rfl
theorem sc_law_changed : FnScope N_law_changed ["_law_tape_here", "_law_lines"] (defScope s_law_changed) := ⟨rfl, rfl, rfl, by decide +kernel, rfl, by decide +kernel, by decide +kernel⟩
abbrev s_law : Stmt := top 49
abbrev N_law : List Str := ["_law_script", "_law_tape_here", "_law_turn", "_law_clock_here", "_law_lines", "_law_more", "_law_text", "_law_odd_here", "_law_texts", "_law_one", "_law_short", "_law_things", "_law_thing"]
theorem st_law : ∀ v0 : V, start N_law [v0] = [some v0, none, none, none, none, none, none, none, none, none, none, none, none] := fun _ => rfl
theorem sc_law : FnScope N_law ["_law_script"] (defScope s_law) := ⟨rfl, rfl, rfl, by decide +kernel, rfl, by decide +kernel, by decide +kernel⟩
local macro_rules | `(tactic| walk_at "hp") => `(tactic| first | assumption | rfl)
local macro_rules | `(tactic| walk_at "cond") => `(tactic| first | assumption | decide | omega | (unfold CMul; omega) | (refine ⟨?_, ?_⟩ <;> omega) | (unfold CDiv; omega) | (unfold CPow; omega))
local macro_rules | `(tactic| walk_at "g1") => `(tactic| first
  | with_reducible first
    | refine g_seq ?_ | refine g_asg ?_ | refine g_name ?_ | refine g_ret ?_ | refine g_retN ?_ | refine g_drop ?_ | refine g_ifs ?_
    | refine g_c ?_ | refine g_op ?_ | refine g_un ?_ | refine g_I0 ?_ | refine g_U ?_
    | refine g_test ?_ | refine g_tB ?_ | refine g_bl ?_ | refine g_and ?_ | refine g_or ?_ | refine g_not ?_
    | refine g_andV ?_ | refine g_orV ?_ | refine g_notV ?_ | refine g_if ?_ | refine g_nil ?_ | refine g_cons ?_ | refine g_cb ?_ | refine g_call ?_
    | refine g_lst ?_ | refine g_tup ?_ | refine g_itT ?_ | refine g_itF ?_ | refine g_itNT ?_ | refine g_itNF ?_ | refine g_lc ?_ | refine g_iStr ?_ | refine g_yes ?_ | refine g_exs ?_
    | refine g_chain ?_ | refine g_dget ?_ | refine g_dput ?_ | refine g_dget2 ?_ | refine g_dpop2 ?_ | refine g_fld ?_ | refine g_sfld ?_ | refine g_make ?_ | refine g_meth ?_
    | refine g_bm ?_ | refine g_kw ?_ | refine g_callS ?_ | refine g_revL ?_ | refine g_m1 ?_ | refine g_gsub ?_ | refine g_for ?_ | refine g_iList ?_ | refine g_iTup ?_ | refine g_iRng1 ?_ | refine g_iRng2 ?_ | refine g_sl ?_ | refine g_part ?_ | refine g_noPart ?_
    | refine g_exi ?_ | refine g_exr ?_ | refine g_dnew ?_ | refine g_disp ?_ | refine g_prs0 ?_ | refine g_prs ?_ | refine g_nxt ?_
  | ((with_reducible refine g_var (v := ?vv) ?gv ?_); (case gv => exact rfl))
  | ((with_reducible refine g_I ?gc ?_); (case gc => walk_at "cond"))
  | ((with_reducible refine g_eq ?ge ?_); (case ge => exact rfl))
  | ((with_reducible refine g_ne ?ge ?_); (case ge => exact rfl))
  | (refine g_ixl (SqL.of (by first | assumption | exact upd_same)) rfl ?_)
  | (refine g_setl (by first | assumption | exact upd_same) rfl ?_)
  | ((with_reducible show (∃ i, [V.int _] = [V.int i] ∧ _) ∨ _); refine Or.inl ⟨_, rfl, ?_⟩)
  | ((with_reducible show ∃ i, [V.int _] = [V.int i] ∧ _); refine ⟨_, rfl, ?_⟩)
  | dsimp only)
local macro_rules | `(tactic| walk_at "go") => `(tactic| repeat (walk_at "g1"))

/-! ### what stands in the module -/
structure Blt (mg : Str → Option Value) : Prop where
  b_isinstance : mg "isinstance" = none
  b_int : mg "int" = none
  b_bool : mg "bool" = none
  b_str : mg "str" = none
  b_dict : mg "dict" = none
  b_list : mg "list" = none
  b_tuple : mg "tuple" = none
  b_len : mg "len" = none
  b_abs : mg "abs" = none
  b_all : mg "all" = none
  b_any : mg "any" = none
  b_max : mg "max" = none
  b_min : mg "min" = none
  b_range : mg "range" = none
  b_sorted : mg "sorted" = none
  b_sum : mg "sum" = none
  b_zip : mg "zip" = none
  b_enumerate : mg "enumerate" = none
  b_repr : mg "repr" = none
  b_set : mg "set" = none
structure Txt (K : PySem.W.Frag) (mg : Str → Option Value) (C_Bag : Addr) (Cs : Addr → Prop) : Prop extends Blt mg where
  g_LETTERS : ∃ t, mg "LETTERS" = some (.str "xyz" t)
  g_MOST_LETTERS : ∃ t, mg "MOST_LETTERS" = some (.int 12 t)
  g_MOST_WORDS : ∃ t, mg "MOST_WORDS" = some (.int 300 t)
  g_CLOCKS : ∃ a, mg "CLOCKS" = some (.ref a) ∧ SqT K (fun _ => none) a [.int 2, .int 3, .int 5, .int 7]
  c_Bag : mg "Bag" = some (.ref C_Bag)
  cls : ∀ C, Cs C → Cls K C
  n_clock : ∀ C, Cs C → NoAttr K C "clock"
  n_sparse : ∀ C, Cs C → NoAttr K C "sparse"
  n_kept : ∀ C, Cs C → NoAttr K C "kept"
  n_words : ∀ C, Cs C → NoAttr K C "words"
  c_class : ∀ C, Cs C → PySem.W.findIn K (.ref C) "__class__" = some (some (.builtin "object.__class__"))
  c_get : PySem.W.specialIn K (.builtin "object.__class__") "__get__" = some (some (.builtin "getset_descriptor.__get__"))
  c_takes : PySem.W.takesIn K (.builtin "object.__class__") = some true
  c_obj : ∀ C, Cs C → PySem.W.mroIn K C (.type "object") = some true
  c_isB : ∀ C, Cs C → PySem.W.kitOne K (.ref C) (.ref C_Bag) = some true
  c_base : Cs C_Bag
  c_pl : ∀ C, Cs C → ∀ t ∈ (["NoneType", "bool", "int", "str", "list", "tuple", "dict"] : List String), PySem.W.notFirst K C (.type t) = true
  c_two : ∀ C D, Cs C → Cs D → PySem.W.notFirst K C (.ref D) = true ∨ (D ≠ C ∧ PySem.W.subIn K (.ref D) (.ref C) = some true)
  c_nb : ∀ t ∈ (["NoneType", "bool", "int", "str", "list", "tuple", "dict"] : List String), PySem.W.kitOne K (.type t) (.ref C_Bag) = some false
section
variable {P : Program} {w : World} {K : PySem.W.Frag} {mg : Str → Option Value} {base : Heap} {C_Bag : Addr} {Cs : Addr → Prop}
theorem g_isi {x : V} {n : String} {t : Value} {b : Bool} {H : Hp} {Q : VK} (ht : TyX K H x t) (hk : PySem.W.kitOne K t (.type n) = some b) (h : Q (.bl b) H) : rIsi K [x, .ty n] H Q := ⟨x, .ty n, t, _, b, rfl, .ty n, ht, hk, h⟩
theorem g_isC {x : V} {C : Addr} {t : Value} {b : Bool} {H : Hp} {Q : VK} (ht : TyX K H x t) (hk : PySem.W.kitOne K t (.ref C) = some b) (h : Q (.bl b) H) : rIsi K [x, .ref C] H Q := ⟨x, .ref C, t, _, b, rfl, .own C, ht, hk, h⟩
/-- the type of a bag -/
theorem bag_ty (T : Txt K mg C_Bag Cs) {H : Hp} {a C dx : Addr} {fs : List (Str × V)} (hc : Cs C) (h : H a = some (.ins C dx fs)) : TyX K H (.ref a) (.ref C) :=
  .base (.ins h (T.cls C hc) (T.c_class C hc) T.c_get T.c_takes (T.c_obj C hc))
/-! ### what things are -/
/-- an integer, or no integer -/
def IntIs (K : PySem.W.Frag) (H : Hp) (x : V) (b : Bool) : Prop := (∃ i, x = .int i ∧ b = true) ∨ (∃ c, x = .bl c ∧ b = false) ∨ (∃ t, TyX K H x t ∧ PySem.W.kitOne K t (.type "int") = some false ∧ b = false)
def WithinIs (K : PySem.W.Frag) (H : Hp) (x : V) (lo hi : Int) (b : Bool) : Prop := (∃ i, x = .int i ∧ b = (decide (lo ≤ i) && decide (i ≤ hi))) ∨ (IntIs K H x false ∧ b = false)
def ClockIs (K : PySem.W.Frag) (H : Hp) (x : V) (b : Bool) : Prop := (∃ i, x = .int i ∧ b = decide (i = 2 ∨ i = 3 ∨ i = 5 ∨ i = 7)) ∨ (IntIs K H x false ∧ b = false)
def isW (w : Str) : Bool := w.cps.toList.all fun c => decide (c ∈ ("xyz" : Str).cps.toList)
def WordIs (K : PySem.W.Frag) (H : Hp) (x : V) (b : Bool) : Prop := (∃ w : Str, x = .str w ∧ w.length ≤ 10000000 ∧ b = isW w) ∨ (∃ t, TyX K H x t ∧ PySem.W.kitOne K t (.type "str") = some false ∧ b = false)
def isSW (w : Str) : Bool := isW w && decide (w.length ≤ 12)
def ShortIs (K : PySem.W.Frag) (H : Hp) (x : V) (b : Bool) : Prop := (∃ w : Str, x = .str w ∧ w.length ≤ 10000000 ∧ b = isSW w) ∨ (∃ t, TyX K H x t ∧ PySem.W.kitOne K t (.type "str") = some false ∧ b = false)
def sp_is_integer (K : PySem.W.Frag) : Sp := fun vs H Q _ => ∃ x b, vs = [x] ∧ IntIs K H x b ∧ Q (.bl b) H
def sp_is_within (K : PySem.W.Frag) : Sp := fun vs H Q _ => ∃ x lo hi b, vs = [x, .int lo, .int hi] ∧ WithinIs K H x lo hi b ∧ Q (.bl b) H
def sp_is_clock (K : PySem.W.Frag) : Sp := fun vs H Q _ => ∃ x b, vs = [x] ∧ ClockIs K H x b ∧ Q (.bl b) H
def sp_is_word (K : PySem.W.Frag) : Sp := fun vs H Q _ => ∃ x b, vs = [x] ∧ WordIs K H x b ∧ ∀ H', Ex H H' → Q (.bl b) H'
def sp_is_short_word (K : PySem.W.Frag) : Sp := fun vs H Q _ => ∃ x b, vs = [x] ∧ ShortIs K H x b ∧ ∀ H', Ex H H' → Q (.bl b) H'
/-! ### checks -/
theorem ok_is_integer {f : Addr} {fd : FuncData} (F : Fun K "is_integer" "is_integer" s_is_integer f fd) (T : Txt K mg C_Bag Cs) : FnOk P w K mg base CX0 1 f fd ["thing"] (sp_is_integer K) := by
  refine F.ok sc_is_integer (fun vs H Q E h => ?_) (fun cdv A outer s H vs Q E hr h => ?_)
  · obtain ⟨x, b, rfl, _⟩ := h
    rfl
  · obtain ⟨x, b, rfl, hi, k⟩ := h
    have hu := hu_of hr; have hu64 := L2.Room.units hr; refine ⟨_, (pss_one (ps_ret (pe_and (pe_callB (r := rIsi K) call_isi (by rfl) T.b_isinstance (by decide +kernel) (pa_cons (pv 0) (pa_cons (pe_bltn (v := .ty "int") rfl T.b_int (by decide +kernel) rfl) pa_nil))) (pe_one (pe_not (pe_callB (r := rIsi K) call_isi (by rfl) T.b_isinstance (by decide +kernel) (pa_cons (pv 0) (pa_cons (pe_bltn (v := .ty "bool") rfl T.b_bool (by decide +kernel) rfl) pa_nil)))))))), ?_⟩; rw [st_is_integer]; (try dsimp only [cxOf]); walk_at "go"
    rcases hi with ⟨i, rfl, rfl⟩ | ⟨c, rfl, rfl⟩ | ⟨t, ht, hk, rfl⟩
    · refine g_isi (n := "int") (t := .type "int") (b := true) (.base (.int i)) (kit_ty (by decide +kernel)) ?_
      walk_at "go"
      refine g_isi (n := "bool") (t := .type "int") (b := false) (.base (.int i)) (kit_ty (by decide +kernel)) ?_
      walk_at "go"
      exact k
    · refine g_isi (n := "int") (t := .type "bool") (b := true) (.base (.bl c)) (kit_ty (by decide +kernel)) ?_
      walk_at "go"
      refine g_isi (n := "bool") (t := .type "bool") (b := true) (.base (.bl c)) (kit_ty (by decide +kernel)) ?_
      walk_at "go"
      exact k
    · refine g_isi (b := false) ht hk ?_
      walk_at "go"
      exact k
theorem ok_is_within {f : Addr} {fd : FuncData} (F : Fun K "is_within" "is_within" s_is_within f fd) (T : Txt K mg C_Bag Cs) (D_is_integer : DefOk P w K mg base CX0 1 "is_integer" ["thing"] (sp_is_integer K)) : FnOk P w K mg base CX0 2 f fd ["thing", "least", "most"] (sp_is_within K) := by
  refine F.ok sc_is_within (fun vs H Q E h => ?_) (fun cdv A outer s H vs Q E hr h => ?_)
  · obtain ⟨x, lo, hi, b, rfl, _⟩ := h
    rfl
  · obtain ⟨x, lo, hi, b, rfl, hi', k⟩ := h
    have hu := hu_of hr; have hu64 := L2.Room.units hr; refine ⟨_, (pss_one (ps_ret (pe_and (pe_callD D_is_integer (hr.mono (by decide)) rfl pass0 (pa_cons (pv 0) pa_nil)) (pe_one (pe_chain op_le op_le (pv 1) (pv 0) (pv 2)))))), ?_⟩; rw [st_is_within]; (try dsimp only [cxOf]); walk_at "go"
    rcases hi' with ⟨i, rfl, rfl⟩ | ⟨hi', rfl⟩
    · refine ⟨_, true, rfl, .inl ⟨i, rfl, rfl⟩, ?_⟩
      walk_at "go"
      by_cases h1 : lo ≤ i
      · rw [decide_eq_true h1] at k ⊢
        walk_at "go"
        exact k
      · rw [decide_eq_false h1] at k ⊢
        walk_at "go"
        exact k
    · refine ⟨_, false, rfl, hi', ?_⟩
      walk_at "go"
      exact k
theorem inV_clocks (i : Int) : inV (.int i) [.int 2, .int 3, .int 5, .int 7] = decide (i = 2 ∨ i = 3 ∨ i = 5 ∨ i = 7) := by
  rw [Bool.eq_iff_iff]
  simp [inV, eqV]
  omega
theorem ok_is_clock {f : Addr} {fd : FuncData} (F : Fun K "is_clock" "is_clock" s_is_clock f fd) (T : Txt K mg C_Bag Cs) (D_is_integer : DefOk P w K mg base CX0 1 "is_integer" ["thing"] (sp_is_integer K)) : FnOk P w K mg base CX0 2 f fd ["thing"] (sp_is_clock K) := by
  refine F.ok sc_is_clock (fun vs H Q E h => ?_) (fun cdv A outer s H vs Q E hr h => ?_)
  · obtain ⟨x, b, rfl, _⟩ := h
    rfl
  · obtain ⟨x, b, rfl, hi', k⟩ := h
    obtain ⟨a_CLOCKS, T_CLOCKS, hC⟩ := T.g_CLOCKS
    have hu := hu_of hr; have hu64 := L2.Room.units hr; refine ⟨_, (pss_one (ps_ret (pe_and (pe_callD D_is_integer (hr.mono (by decide)) rfl pass0 (pa_cons (pv 0) pa_nil)) (pe_one (pe_cmpR op_in_seq (pv 0) (pe_glob (v := .ref a_CLOCKS) rfl T_CLOCKS rfl) (by rfl)))))), ?_⟩; rw [st_is_clock]; (try dsimp only [cxOf]); walk_at "go"
    rcases hi' with ⟨i, rfl, rfl⟩ | ⟨hi', rfl⟩
    · refine ⟨_, true, rfl, .inl ⟨i, rfl, rfl⟩, ?_⟩
      walk_at "go"
      have hC' : SqT K H a_CLOCKS [.int 2, .int 3, .int 5, .int 7] := hC.elim (fun h => h.elim (fun h => nomatch h) fun ⟨_, h⟩ => nomatch h) .inr
      refine ⟨a_CLOCKS, _, rfl, .inr hC', rfl, rfl, ?_⟩
      rw [if_neg Bool.false_ne_true, inV_clocks]
      exact k
    · refine ⟨_, false, rfl, hi', ?_⟩
      walk_at "go"
      exact k
theorem ok_is_word {f : Addr} {fd : FuncData} (F : Fun K "is_word" "is_word" s_is_word f fd) (T : Txt K mg C_Bag Cs) : FnOk P w K mg base CX0 1 f fd ["thing"] (sp_is_word K) := by
  refine F.ok sc_is_word (fun vs H Q E h => ?_) (fun cdv A outer s H vs Q E hr h => ?_)
  · obtain ⟨x, b, rfl, _⟩ := h
    rfl
  · obtain ⟨x, b, rfl, hi', k⟩ := h
    obtain ⟨tL, T_LETTERS⟩ := T.g_LETTERS
    have hu := hu_of hr; have hu64 := L2.Room.units hr; refine ⟨_, (pss_one (ps_ret (pe_and (pe_callB (r := rIsi K) call_isi (by rfl) T.b_isinstance (by decide +kernel) (pa_cons (pv 0) (pa_cons (pe_bltn (v := .ty "str") rfl T.b_str (by decide +kernel) rfl) pa_nil))) (pe_one (pe_callB (r := rAll K) (cr_all rfl) (by rfl) T.b_all (by decide +kernel) (pa_cons (pe_lc (own := [("letter", 1)]) (g := (gName 1)) (tt := tYes) rfl sc_is_word.nd (pi_str (pv 0)) (blkOk_by (N := N_is_word) (sc := defScope s_is_word) (by decide +kernel)) (fun _ _ _ _ _ => (pg_name (i := 1) sc_is_word.nd rfl (by first | exact Or.inl rfl | exact Or.inr rfl))) (fun _ _ _ _ _ => pts_nil) (fun _ _ _ _ _ => (pe_cmpR op_in_sign (pv 1) (pe_glob (v := .str "xyz") rfl T_LETTERS ⟨_, rfl⟩) (by rfl)))) pa_nil)))))), ?_⟩; rw [st_is_word]; (try dsimp only [cxOf]); walk_at "go"
    rcases hi' with ⟨z, rfl, hz, rfl⟩ | ⟨t, ht, hk, rfl⟩
    · refine g_isi (n := "str") (t := .type "str") (b := true) (.base (.str z)) (kit_ty (by decide +kernel)) ?_
      walk_at "go"
      have hsz : z.cps.size ≤ sizeLine := Nat.le_trans hz (by decide)
      refine lc_pure (j := 1) walk_str (z.cps.toList.map fun c => V.bl (decide (c ∈ ("xyz" : Str).cps.toList))) (by simp) hsz (fun _ _ => trivial) (fun _ => rfl) ?_ ?_
      · rintro i x y H1 H2 Kc hi e ⟨rfl, c, hc, rfl⟩ hy hk
        walk_at "go"
        have hy' : y = V.bl (decide (c ∈ ("xyz" : Str).cps.toList)) := by
          rw [List.getElem?_map, Array.getElem?_toList, hc] at hy
          exact (Option.some.inj hy).symm
        subst hy'
        exact ⟨c, _, rfl, rfl, hk _ (Ex.refl _)⟩
      · intro D H' hD e hl
        walk_at "go"
        refine ⟨D, z.cps.toList.map fun c => decide (c ∈ ("xyz" : Str).cps.toList), rfl, SqL.of (by rw [List.map_map]; exact hl), ?_⟩
        have e2 : ((z.cps.toList.map fun c => decide (c ∈ ("xyz" : Str).cps.toList)).all id) = isW z := by
          unfold isW
          rw [List.all_map]
          rfl
        rw [e2]
        exact k _ e
    · refine g_isi (b := false) ht hk ?_
      walk_at "go"
      exact k _ (Ex.refl _)
theorem ok_is_short_word {f : Addr} {fd : FuncData} (F : Fun K "is_short_word" "is_short_word" s_is_short_word f fd) (T : Txt K mg C_Bag Cs) (D_is_word : DefOk P w K mg base CX0 1 "is_word" ["thing"] (sp_is_word K)) : FnOk P w K mg base CX0 2 f fd ["thing"] (sp_is_short_word K) := by
  refine F.ok sc_is_short_word (fun vs H Q E h => ?_) (fun cdv A outer s H vs Q E hr h => ?_)
  · obtain ⟨x, b, rfl, _⟩ := h
    rfl
  · obtain ⟨x, b, rfl, hi', k⟩ := h
    obtain ⟨tL, T_MOST_LETTERS⟩ := T.g_MOST_LETTERS
    have hu := hu_of hr; have hu64 := L2.Room.units hr; refine ⟨_, (pss_one (ps_ret (pe_and (pe_callD D_is_word (hr.mono (by decide)) rfl pass0 (pa_cons (pv 0) pa_nil)) (pe_one (pe_cmpR op_le (pe_callB call_len_str (by rfl) T.b_len (by decide +kernel) (pa_cons (pv 0) pa_nil)) (pe_glob (v := .int 12) rfl T_MOST_LETTERS ⟨_, rfl⟩) (nomark _)))))), ?_⟩; rw [st_is_short_word]; (try dsimp only [cxOf]); walk_at "go"
    rcases hi' with ⟨z, rfl, hz, rfl⟩ | ⟨t, ht, hk, rfl⟩
    · refine ⟨_, _, rfl, .inl ⟨z, rfl, hz, rfl⟩, fun H' e => ?_⟩
      walk_at "go"
      have k' := k H' e
      unfold isSW at k'
      cases hb : isW z
      · rw [hb] at k'
        walk_at "go"
        exact k'
      · rw [hb] at k'
        walk_at "go"
        refine ⟨z, rfl, Nat.le_trans hz (by decide), ?_⟩
        walk_at "go"
        have e3 : decide ((z.length : Int) ≤ 12) = decide (z.length ≤ 12) := by
          rw [Bool.eq_iff_iff]; simp; omega
        rw [e3]
        exact k'
    · refine ⟨_, _, rfl, .inr ⟨t, ht, hk, rfl⟩, fun H' e => ?_⟩
      walk_at "go"
      exact k _ e
end

end Fp

namespace Fp
open PySem L2
section
variable {P : Program} {w : World} {K : PySem.W.Frag} {mg : Str → Option Value} {base : Heap} {C_Bag : Addr} {Cs : Addr → Prop}
local macro_rules | `(tactic| walk_at "hp") => `(tactic| first | assumption | rfl)
local macro_rules | `(tactic| walk_at "cond") => `(tactic| first | assumption | decide | omega | (unfold CMul; omega) | (refine ⟨?_, ?_⟩ <;> omega) | (unfold CDiv; omega) | (unfold CPow; omega))
local macro_rules | `(tactic| walk_at "g1") => `(tactic| first
  | with_reducible first
    | refine g_seq ?_ | refine g_asg ?_ | refine g_name ?_ | refine g_ret ?_ | refine g_retN ?_ | refine g_drop ?_ | refine g_ifs ?_
    | refine g_c ?_ | refine g_op ?_ | refine g_un ?_ | refine g_I0 ?_ | refine g_U ?_
    | refine g_test ?_ | refine g_tB ?_ | refine g_bl ?_ | refine g_and ?_ | refine g_or ?_ | refine g_not ?_
    | refine g_andV ?_ | refine g_orV ?_ | refine g_notV ?_ | refine g_if ?_ | refine g_nil ?_ | refine g_cons ?_ | refine g_cb ?_ | refine g_call ?_
    | refine g_lst ?_ | refine g_tup ?_ | refine g_itT ?_ | refine g_itF ?_ | refine g_itNT ?_ | refine g_itNF ?_ | refine g_lc ?_ | refine g_iStr ?_ | refine g_yes ?_ | refine g_exs ?_
    | refine g_chain ?_ | refine g_dget ?_ | refine g_dput ?_ | refine g_dget2 ?_ | refine g_dpop2 ?_ | refine g_fld ?_ | refine g_sfld ?_ | refine g_make ?_ | refine g_meth ?_
    | refine g_bm ?_ | refine g_kw ?_ | refine g_callS ?_ | refine g_revL ?_ | refine g_m1 ?_ | refine g_gsub ?_ | refine g_for ?_ | refine g_iList ?_ | refine g_iTup ?_ | refine g_iRng1 ?_ | refine g_iRng2 ?_ | refine g_sl ?_ | refine g_part ?_ | refine g_noPart ?_
    | refine g_exi ?_ | refine g_exr ?_ | refine g_dnew ?_ | refine g_disp ?_ | refine g_prs0 ?_ | refine g_prs ?_ | refine g_nxt ?_
  | ((with_reducible refine g_var (v := ?vv) ?gv ?_); (case gv => exact rfl))
  | ((with_reducible refine g_I ?gc ?_); (case gc => walk_at "cond"))
  | ((with_reducible refine g_eq ?ge ?_); (case ge => exact rfl))
  | ((with_reducible refine g_ne ?ge ?_); (case ge => exact rfl))
  | (refine g_ixl (SqL.of (by first | assumption | exact upd_same)) rfl ?_)
  | (refine g_setl (by first | assumption | exact upd_same) rfl ?_)
  | ((with_reducible show (∃ i, [V.int _] = [V.int i] ∧ _) ∨ _); refine Or.inl ⟨_, rfl, ?_⟩)
  | ((with_reducible show ∃ i, [V.int _] = [V.int i] ∧ _); refine ⟨_, rfl, ?_⟩)
  | dsimp only)
local macro_rules | `(tactic| walk_at "go") => `(tactic| repeat (walk_at "g1"))

/-! ### the law's hand -/
structure HandAt (H : Hp) (h c : Addr) : Prop where
  ex : ∃ (i b m n : Int), H h = some (.lst [.ref c, .int i, .int b, .int m, .int n]) ∧ 0 ≤ i
  cs : ∃ cs : List Int, H c = some (.lst (cs.map V.int))
  ne : c ≠ h
theorem HandAt.ex' {H H' : Hp} {h c : Addr} (e : Ex H H') (x : HandAt H h c) : HandAt H' h c := by
  obtain ⟨⟨i, b, m, n, h1, h2⟩, ⟨cs, h3⟩, h4⟩ := x
  exact ⟨⟨i, b, m, n, e _ _ h1, h2⟩, ⟨cs, e _ _ h3⟩, h4⟩
theorem HandAt.kind {H : Hp} {h c : Addr} (x : HandAt H h c) : ∃ xs, H h = some (.lst xs) := by
  obtain ⟨⟨i, b, m, n, h1, h2⟩, _⟩ := x
  exact ⟨_, h1⟩
theorem HandAt.upd {H : Hp} {h c d : Addr} {o : HO} (x : HandAt H h c) (hd : d ≠ h) (hc : d ≠ c) : HandAt (upd H d o) h c := by
  obtain ⟨⟨i, b, m, n, h1, h2⟩, ⟨cs, h3⟩, h4⟩ := x
  exact ⟨⟨i, b, m, n, by rw [upd_ne (Ne.symm hd)]; exact h1, h2⟩, ⟨cs, by rw [upd_ne (Ne.symm hc)]; exact h3⟩, h4⟩
/-- but f's object all stands, and f is neither of the hand's -/
theorem HandAt.exb {H H' : Hp} {h c f : Addr} (e : ExB f H H') (x : HandAt H h c) (hf : f ≠ h) (hc : f ≠ c) : HandAt H' h c := by
  obtain ⟨⟨i, b, m, n, h1, h2⟩, ⟨cs, h3⟩, h4⟩ := x
  exact ⟨⟨i, b, m, n, e _ _ (Ne.symm hf) h1, h2⟩, ⟨cs, e _ _ (Ne.symm hc) h3⟩, h4⟩
theorem HandAt.new {H : Hp} {h c p : Addr} (x : HandAt H h c) (hp : H p = none) : p ≠ h ∧ p ≠ c := by
  obtain ⟨⟨i, b, m, n, h1, h2⟩, ⟨cs, h3⟩, h4⟩ := x
  exact ⟨Ne.symm (ne_of_none h1 hp), Ne.symm (ne_of_none h3 hp)⟩
def sp_law_hand (K : PySem.W.Frag) : Sp := fun vs H Q _ => ∃ (a : Addr) (ns : List Int), vs = [.ref a] ∧ SqL K H a (ns.map V.int) ∧ ∀ h c H', Ex H H' → H h = none → HandAt H' h c → Q (.ref h) H'
def sp_law_draw : Sp := fun vs H Q _ => ∃ (h c : Addr) (m : Int), vs = [.ref h, .int m] ∧ HandAt H h c ∧ 0 < m ∧ m ≤ 1000000 ∧ ∀ v H', 0 ≤ v → v < m → ExB h H H' → HandAt H' h c → Q (.int v) H'
theorem cutV_int (ns : List Int) (lo hi : Option Int) : ∃ ms : List Int, cutV (ns.map V.int) lo hi = ms.map V.int := by
  unfold cutV
  exact ⟨(ns.drop _).take _, by rw [List.map_take, List.map_drop]⟩
/-! ### the law's sums and products -/
def sp_law_put : Sp := fun vs H Q _ => ∃ (p : Int) (d : Addr) (s : Bg) (z : Str) (n : Int), vs = [.int p, .ref d, .str z, .int n] ∧ H d = some (.dK (toK s)) ∧ s.length < 10000000 ∧ 0 < p ∧
  Q .non (upd H d (.dK (toK (addTo p s z n))))
def sp_law_plus : Sp := fun vs H Q _ => ∃ (p : Int) (a b : Addr) (s t : Bg) (f : Int), vs = [.int p, .ref a, .ref b, .int f] ∧ Rd H a (.dK (toK s)) ∧ Rd H b (.dK (toK t)) ∧ (keys t).Nodup ∧ s.length + t.length < 10000000 ∧ 0 < p ∧ (-1000000 < f ∧ f < 1000000) ∧
  ∀ d H', Ex H H' → H d = none → H' d = some (.dK (toK (plusS p s t f))) → Q (.ref d) H'
theorem foldl_take {α β : Type} (g : β → α → β) (l : List α) (i : Nat) (a : α) (x : β) (h : l[i]? = some a) : (l.take (i + 1)).foldl g x = g ((l.take i).foldl g x) a := by
  rw [List.take_add_one, h, List.foldl_append]
  rfl
def sp_law_product : Sp := fun vs H Q _ => ∃ (p : Int) (a b : Addr) (s t : Bg), vs = [.int p, .ref a, .ref b] ∧ Rd H a (.dK (toK s)) ∧ Rd H b (.dK (toK t)) ∧ (keys s).Nodup ∧ (keys t).Nodup ∧ s.length * t.length < 10000000 ∧ 0 < p ∧ Good 1000000 s ∧
  (∀ u ∈ keys s, u.length ≤ 5000000) ∧ (∀ u ∈ keys t, u.length ≤ 5000000) ∧ ∀ d H', Ex H H' → H d = none → H' d = some (.dK (toK (prodS p s t))) → Q (.ref d) H'
end
end Fp

namespace Fp
open PySem L2
section
variable {P : Program} {w : World} {K : PySem.W.Frag} {mg : Str → Option Value} {base : Heap} {C_Bag : Addr} {Cs : Addr → Prop}
local macro_rules | `(tactic| walk_at "hp") => `(tactic| first | assumption | rfl)
local macro_rules | `(tactic| walk_at "cond") => `(tactic| first | assumption | decide | omega | (unfold CMul; omega) | (refine ⟨?_, ?_⟩ <;> omega) | (unfold CDiv; omega) | (unfold CPow; omega))
local macro_rules | `(tactic| walk_at "g1") => `(tactic| first
  | with_reducible first
    | refine g_seq ?_ | refine g_asg ?_ | refine g_name ?_ | refine g_ret ?_ | refine g_retN ?_ | refine g_drop ?_ | refine g_ifs ?_
    | refine g_c ?_ | refine g_op ?_ | refine g_un ?_ | refine g_I0 ?_ | refine g_U ?_
    | refine g_test ?_ | refine g_tB ?_ | refine g_bl ?_ | refine g_and ?_ | refine g_or ?_ | refine g_not ?_
    | refine g_andV ?_ | refine g_orV ?_ | refine g_notV ?_ | refine g_if ?_ | refine g_nil ?_ | refine g_cons ?_ | refine g_cb ?_ | refine g_call ?_
    | refine g_lst ?_ | refine g_tup ?_ | refine g_itT ?_ | refine g_itF ?_ | refine g_itNT ?_ | refine g_itNF ?_ | refine g_lc ?_ | refine g_iStr ?_ | refine g_yes ?_ | refine g_exs ?_
    | refine g_chain ?_ | refine g_dget ?_ | refine g_dput ?_ | refine g_dget2 ?_ | refine g_dpop2 ?_ | refine g_fld ?_ | refine g_sfld ?_ | refine g_make ?_ | refine g_meth ?_
    | refine g_bm ?_ | refine g_kw ?_ | refine g_callS ?_ | refine g_revL ?_ | refine g_m1 ?_ | refine g_gsub ?_ | refine g_for ?_ | refine g_iList ?_ | refine g_iTup ?_ | refine g_iRng1 ?_ | refine g_iRng2 ?_ | refine g_sl ?_ | refine g_part ?_ | refine g_noPart ?_
    | refine g_exi ?_ | refine g_exr ?_ | refine g_dnew ?_ | refine g_disp ?_ | refine g_prs0 ?_ | refine g_prs ?_ | refine g_nxt ?_
  | ((with_reducible refine g_var (v := ?vv) ?gv ?_); (case gv => exact rfl))
  | ((with_reducible refine g_I ?gc ?_); (case gc => walk_at "cond"))
  | ((with_reducible refine g_eq ?ge ?_); (case ge => exact rfl))
  | ((with_reducible refine g_ne ?ge ?_); (case ge => exact rfl))
  | (refine g_ixl (SqL.of (by first | assumption | exact upd_same)) rfl ?_)
  | (refine g_setl (by first | assumption | exact upd_same) rfl ?_)
  | ((with_reducible show (∃ i, [V.int _] = [V.int i] ∧ _) ∨ _); refine Or.inl ⟨_, rfl, ?_⟩)
  | ((with_reducible show ∃ i, [V.int _] = [V.int i] ∧ _); refine ⟨_, rfl, ?_⟩)
  | dsimp only)
local macro_rules | `(tactic| walk_at "go") => `(tactic| repeat (walk_at "g1"))

/-! ### words in order -/
def sp_law_order : Sp := fun vs H Q _ => ∃ (d : Addr) (s : Bg), vs = [.ref d] ∧ Rd H d (.dK (toK s)) ∧ s.length ≤ 10000000 ∧ (∀ u ∈ keys s, u.length ≤ 10000000) ∧
  ∀ l H', Ex H H' → H l = none → H' l = some (.lst ((ordW (keys s)).map V.str)) → Q (.ref l) H'
def sp_law_words : Sp := fun vs H Q _ => ∃ (d : Addr) (s : Bg), vs = [.ref d] ∧ Rd H d (.dK (toK s)) ∧ s.length ≤ 10000000 ∧ (∀ u ∈ keys s, u.length ≤ 10000000) ∧ (keys s).Nodup ∧
  ∀ t H', Ex H H' → H t = none → WordsAt H' t (wordsS s) → Q (.ref t) H'
theorem bs_of {H : Hp} {as : List Addr} {es : Bg} (h : Paired (fun a (e : Str × Int) => H a = some (.tup [.int (-(e.1.length : Int)), .str e.1])) as es) :
    ∃ bs : List (Addr × Str), as.map V.ref = bs.map (fun b => V.ref b.1) ∧ bs.map (·.2) = keys es ∧ ∀ b ∈ bs, H b.1 = some (.tup [.int (-(b.2.length : Int)), .str b.2]) := by
  induction h with
  | nil => exact ⟨[], rfl, rfl, fun _ h => nomatch h⟩
  | @cons a e as es h1 _ ih =>
    obtain ⟨bs, h2, h3, h4⟩ := ih
    refine ⟨(a, e.1) :: bs, by rw [List.map_cons, List.map_cons, h2], by rw [List.map_cons, h3]; rfl, fun b hb => ?_⟩
    rcases List.mem_cons.mp hb with rfl | hb
    · exact h1
    · exact h4 b hb
theorem pairs_at {s : Bg} {ws : List Str} {H : Hp} {as : List Addr} (h : Paired (fun a z => H a = some (.tup [.str z, .int (cf s z)])) as ws) : Paired (fun a (kv : Str × Int) => H a = some (.tup [.str kv.1, .int kv.2])) as (ws.map fun z => (z, cf s z)) :=
  paired_mapr h fun _ _ q => q
theorem getS_cf {s : Bg} {z : Str} (h : z ∈ keys s) : getS s z = some (cf s z) := by
  unfold cf
  cases q : getS s z with
  | none => exact absurd h (getS_none.mp q)
  | some n => rfl
/-! ### clocks and words at random -/
def sp_law_clock : Sp := fun vs H Q _ => ∃ (h c : Addr), vs = [.ref h] ∧ HandAt H h c ∧ ∀ p H', (p = 2 ∨ p = 3 ∨ p = 5 ∨ p = 7) → ExB h H H' → HandAt H' h c → Q (.int p) H'
def sp_law_word : Sp := fun vs H Q _ => ∃ (h c : Addr) (z : Str) (m : Int), vs = [.ref h, .str z, .int m] ∧ HandAt H h c ∧ 0 < z.length ∧ z.length ≤ 100 ∧ isW z = true ∧ 0 ≤ m ∧ m ≤ 1000 ∧
  ∀ u H', (u.length : Int) ≤ m → isW u = true → ExB h H H' → HandAt H' h c → Q (.str u) H'
end
end Fp

namespace Fp
open PySem L2
section
variable {P : Program} {w : World} {K : PySem.W.Frag} {mg : Str → Option Value} {base : Heap} {C_Bag : Addr} {Cs : Addr → Prop}
local macro_rules | `(tactic| walk_at "hp") => `(tactic| first | assumption | rfl)
local macro_rules | `(tactic| walk_at "cond") => `(tactic| first | assumption | decide | omega | (unfold CMul; omega) | (refine ⟨?_, ?_⟩ <;> omega) | (unfold CDiv; omega) | (unfold CPow; omega))
local macro_rules | `(tactic| walk_at "g1") => `(tactic| first
  | with_reducible first
    | refine g_seq ?_ | refine g_asg ?_ | refine g_name ?_ | refine g_ret ?_ | refine g_retN ?_ | refine g_drop ?_ | refine g_ifs ?_
    | refine g_c ?_ | refine g_op ?_ | refine g_un ?_ | refine g_I0 ?_ | refine g_U ?_
    | refine g_test ?_ | refine g_tB ?_ | refine g_bl ?_ | refine g_and ?_ | refine g_or ?_ | refine g_not ?_
    | refine g_andV ?_ | refine g_orV ?_ | refine g_notV ?_ | refine g_if ?_ | refine g_nil ?_ | refine g_cons ?_ | refine g_cb ?_ | refine g_call ?_
    | refine g_lst ?_ | refine g_tup ?_ | refine g_itT ?_ | refine g_itF ?_ | refine g_itNT ?_ | refine g_itNF ?_ | refine g_lc ?_ | refine g_iStr ?_ | refine g_yes ?_ | refine g_exs ?_
    | refine g_chain ?_ | refine g_dget ?_ | refine g_dput ?_ | refine g_dget2 ?_ | refine g_dpop2 ?_ | refine g_fld ?_ | refine g_sfld ?_ | refine g_make ?_ | refine g_meth ?_
    | refine g_bm ?_ | refine g_kw ?_ | refine g_callS ?_ | refine g_revL ?_ | refine g_m1 ?_ | refine g_gsub ?_ | refine g_for ?_ | refine g_iList ?_ | refine g_iTup ?_ | refine g_iRng1 ?_ | refine g_iRng2 ?_ | refine g_sl ?_ | refine g_part ?_ | refine g_noPart ?_
    | refine g_exi ?_ | refine g_exr ?_ | refine g_dnew ?_ | refine g_disp ?_ | refine g_prs0 ?_ | refine g_prs ?_ | refine g_nxt ?_
  | ((with_reducible refine g_var (v := ?vv) ?gv ?_); (case gv => exact rfl))
  | ((with_reducible refine g_I ?gc ?_); (case gc => walk_at "cond"))
  | ((with_reducible refine g_eq ?ge ?_); (case ge => exact rfl))
  | ((with_reducible refine g_ne ?ge ?_); (case ge => exact rfl))
  | (refine g_ixl (SqL.of (by first | assumption | exact upd_same)) rfl ?_)
  | (refine g_setl (by first | assumption | exact upd_same) rfl ?_)
  | ((with_reducible show (∃ i, [V.int _] = [V.int i] ∧ _) ∨ _); refine Or.inl ⟨_, rfl, ?_⟩)
  | ((with_reducible show ∃ i, [V.int _] = [V.int i] ∧ _); refine ⟨_, rfl, ?_⟩)
  | dsimp only)
local macro_rules | `(tactic| walk_at "go") => `(tactic| repeat (walk_at "g1"))

theorem isW_app {a b : Str} (ha : isW a = true) (hb : isW b = true) : isW (a ++ b) = true := by
  unfold isW at *
  rw [app_toList, List.all_append, ha, hb]
  rfl
theorem isW_empty : isW Str.empty = true := rfl
theorem isW_one {z : Str} {c : Nat} (hz : isW z = true) (h : c ∈ z.cps.toList) : isW ⟨#[c]⟩ = true := by
  unfold isW at *
  have := List.all_eq_true.mp hz c h
  show List.all [c] _ = true
  rw [List.all_cons, this]
  rfl
theorem join_ones : ∀ ys : List Str, (∀ y ∈ ys, y.length = 1 ∧ isW y = true) → (Str.join ("" : Str) ys).length = ys.length ∧ isW (Str.join ("" : Str) ys) = true
  | [], _ => ⟨rfl, rfl⟩
  | [x], h => ⟨(h x List.mem_cons_self).1, (h x List.mem_cons_self).2⟩
  | x :: y :: r, h => by
    have ih := join_ones (y :: r) fun z hz => h z (List.mem_cons_of_mem _ hz)
    have hx := h x List.mem_cons_self
    show (x ++ ("" : Str) ++ Str.join ("" : Str) (y :: r)).length = _ ∧ isW (x ++ ("" : Str) ++ Str.join ("" : Str) (y :: r)) = true
    have e0 : ("" : Str).length = 0 := rfl
    refine ⟨?_, isW_app (isW_app hx.2 rfl) ih.2⟩
    rw [len_app, len_app, hx.1, ih.1, e0]
    simp only [List.length_cons]
    omega
theorem sum_ones {α : Type} : ∀ l : List α, (l.map fun _ => 1).sum = l.length
  | [] => rfl
  | a :: r => by rw [List.map_cons, List.sum_cons, sum_ones r, List.length_cons, Nat.add_comm]
theorem strs_of : ∀ {ys : List V} {Pz : Str → Prop}, (∀ y ∈ ys, ∃ z, y = V.str z ∧ Pz z) → ∃ zs : List Str, ys = zs.map V.str ∧ ∀ z ∈ zs, Pz z
  | [], _, _ => ⟨[], rfl, fun _ h => nomatch h⟩
  | y :: r, Pz, h => by
    obtain ⟨zs, e, hz⟩ := strs_of (ys := r) fun y hy => h y (List.mem_cons_of_mem _ hy)
    obtain ⟨z, e1, h1⟩ := h y List.mem_cons_self
    refine ⟨z :: zs, by rw [e1, e]; rfl, fun u hu => ?_⟩
    rcases List.mem_cons.mp hu with q | q
    · rw [q]; exact h1
    · exact hz u q
end
end Fp

namespace Fp
open PySem L2
section
variable {P : Program} {w : World} {K : PySem.W.Frag} {mg : Str → Option Value} {base : Heap} {C_Bag : Addr} {Cs : Addr → Prop}
local macro_rules | `(tactic| walk_at "hp") => `(tactic| first | assumption | rfl)
local macro_rules | `(tactic| walk_at "cond") => `(tactic| first | assumption | decide | omega | (unfold CMul; omega) | (refine ⟨?_, ?_⟩ <;> omega) | (unfold CDiv; omega) | (unfold CPow; omega))
local macro_rules | `(tactic| walk_at "g1") => `(tactic| first
  | with_reducible first
    | refine g_seq ?_ | refine g_asg ?_ | refine g_name ?_ | refine g_ret ?_ | refine g_retN ?_ | refine g_drop ?_ | refine g_ifs ?_
    | refine g_c ?_ | refine g_op ?_ | refine g_un ?_ | refine g_I0 ?_ | refine g_U ?_
    | refine g_test ?_ | refine g_tB ?_ | refine g_bl ?_ | refine g_and ?_ | refine g_or ?_ | refine g_not ?_
    | refine g_andV ?_ | refine g_orV ?_ | refine g_notV ?_ | refine g_if ?_ | refine g_nil ?_ | refine g_cons ?_ | refine g_cb ?_ | refine g_call ?_
    | refine g_lst ?_ | refine g_tup ?_ | refine g_itT ?_ | refine g_itF ?_ | refine g_itNT ?_ | refine g_itNF ?_ | refine g_lc ?_ | refine g_iStr ?_ | refine g_yes ?_ | refine g_exs ?_
    | refine g_chain ?_ | refine g_dget ?_ | refine g_dput ?_ | refine g_dget2 ?_ | refine g_dpop2 ?_ | refine g_fld ?_ | refine g_sfld ?_ | refine g_make ?_ | refine g_meth ?_
    | refine g_bm ?_ | refine g_kw ?_ | refine g_callS ?_ | refine g_revL ?_ | refine g_m1 ?_ | refine g_gsub ?_ | refine g_for ?_ | refine g_iList ?_ | refine g_iTup ?_ | refine g_iRng1 ?_ | refine g_iRng2 ?_ | refine g_sl ?_ | refine g_part ?_ | refine g_noPart ?_
    | refine g_exi ?_ | refine g_exr ?_ | refine g_dnew ?_ | refine g_disp ?_ | refine g_prs0 ?_ | refine g_prs ?_ | refine g_nxt ?_
  | ((with_reducible refine g_var (v := ?vv) ?gv ?_); (case gv => exact rfl))
  | ((with_reducible refine g_I ?gc ?_); (case gc => walk_at "cond"))
  | ((with_reducible refine g_eq ?ge ?_); (case ge => exact rfl))
  | ((with_reducible refine g_ne ?ge ?_); (case ge => exact rfl))
  | (refine g_ixl (SqL.of (by first | assumption | exact upd_same)) rfl ?_)
  | (refine g_setl (by first | assumption | exact upd_same) rfl ?_)
  | ((with_reducible show (∃ i, [V.int _] = [V.int i] ∧ _) ∨ _); refine Or.inl ⟨_, rfl, ?_⟩)
  | ((with_reducible show ∃ i, [V.int _] = [V.int i] ∧ _); refine ⟨_, rfl, ?_⟩)
  | dsimp only)
local macro_rules | `(tactic| walk_at "go") => `(tactic| repeat (walk_at "g1"))

/-- a dict of words, how many and how long -/
structure Lot (p : Int) (s : Bg) (a b : Nat) : Prop where
  g : Good p s
  n : s.length ≤ a
  l : ∀ u ∈ keys s, u.length ≤ b ∧ isW u = true
theorem Lot.mono {p : Int} {s : Bg} {a b a' b' : Nat} (l : Lot p s a b) (h1 : a ≤ a') (h2 : b ≤ b') : Lot p s a' b' := ⟨l.g, Nat.le_trans l.n h1, fun u hu => ⟨Nat.le_trans (l.l u hu).1 h2, (l.l u hu).2⟩⟩
theorem Lot.nil {p : Int} {a b : Nat} : Lot p [] a b := ⟨Good.nil, Nat.zero_le _, fun _ h => nomatch h⟩
theorem Lot.prod {p : Int} {s t : Bg} {a b c d : Nat} (hp : 0 < p) (l : Lot p s a b) (m : Lot p t c d) : Lot p (prodS p s t) (a * c) (b + d) :=
  ⟨Good.prod hp s t, Nat.le_trans (len_prod (p := p)) (Nat.mul_le_mul l.n m.n), fun u hu => by
    obtain ⟨x, hx, y, hy, rfl⟩ := keys_prod hu
    rw [len_app]
    exact ⟨Nat.add_le_add (l.l x hx).1 (m.l y hy).1, isW_app (l.l x hx).2 (m.l y hy).2⟩⟩
theorem Lot.plus {p : Int} {s t : Bg} {f : Int} {a b c d e : Nat} (hp : 0 < p) (l : Lot p s a b) (m : Lot p t c d) (hb : b ≤ e) (hd : d ≤ e) : Lot p (plusS p s t f) (a + c) e :=
  ⟨Good.plus hp l.g t, Nat.le_trans (len_plus f) (Nat.add_le_add l.n m.n), fun u hu => by
    rcases keys_plus hu with h | h
    · exact ⟨Nat.le_trans (l.l u h).1 hb, (l.l u h).2⟩
    · exact ⟨Nat.le_trans (m.l u h).1 hd, (m.l u h).2⟩⟩
theorem Lot.put {p : Int} {s : Bg} {z : Str} {n : Int} {a b : Nat} (l : Lot p s a b) (h0 : 0 < n) (h1 : n < p) (hz : z.length ≤ b) (hw : isW z = true) : Lot p (putS s z n) (a + 1) b :=
  ⟨l.g.put h0 h1, Nat.le_trans (len_put s z n) (Nat.add_le_add_right l.n 1), fun u hu => by
    rw [keys_put] at hu
    split at hu
    · exact l.l u hu
    · rcases List.mem_append.mp hu with h | h
      · exact l.l u h
      · rw [List.mem_singleton.mp h]; exact ⟨hz, hw⟩⟩
/-- of a few words that are known -/
theorem Lot.of {p : Int} {s : Bg} {a b : Nat} (hn : (keys s).Nodup) (hl : s.length ≤ a) (hk : ∀ u ∈ keys s, u.length ≤ b ∧ isW u = true) (hv : ∀ kv ∈ s, 0 < kv.2 ∧ kv.2 < p) : Lot p s a b :=
  ⟨⟨hn, fun kv h => (hv kv h).1, fun kv h => (hv kv h).2⟩, hl, hk⟩
def sp_law_lot : Sp := fun vs H Q _ => ∃ (h c : Addr) (p : Int) (z : Str) (m n : Nat), vs = [.ref h, .int p, .str z, .int m, .int n] ∧ HandAt H h c ∧ 2 ≤ p ∧ p ≤ 1000 ∧ 0 < z.length ∧ z.length ≤ 100 ∧ isW z = true ∧ m ≤ 999 ∧ n ≤ 999 ∧
  ∀ d s H', ExB h H H' → H d = none → H' d = some (.dK (toK s)) → Lot p s n m → HandAt H' h c → Q (.ref d) H'
def sp_law_small : Sp := fun vs H Q _ => ∃ (h c : Addr) (p : Int), vs = [.ref h, .int p] ∧ HandAt H h c ∧ 2 ≤ p ∧ p ≤ 1000 ∧
  ∀ d s H', ExB h H H' → H d = none → H' d = some (.dK (toK s)) → Lot p s 3 2 → HandAt H' h c → Q (.ref d) H'
def sp_law_woven : Sp := fun vs H Q _ => ∃ (h c : Addr) (p m : Int), vs = [.ref h, .int p, .int m] ∧ HandAt H h c ∧ 2 ≤ p ∧ p ≤ 1000 ∧ 0 < m ∧ m ≤ 1000 ∧
  ∀ d s H', ExB h H H' → H d = none → H' d = some (.dK (toK s)) → Lot p s 120 7 → HandAt H' h c → Q (.ref d) H'
def sp_law_some : Sp := fun vs H Q _ => ∃ (h c : Addr) (p : Int), vs = [.ref h, .int p] ∧ HandAt H h c ∧ 2 ≤ p ∧ p ≤ 1000 ∧
  ∀ d s H', ExB h H H' → H d = none → H' d = some (.dK (toK s)) → Lot p s 120 7 → HandAt H' h c → Q (.ref d) H'
theorem ExB.one {f d : Addr} {H H' : Hp} {o : HO} (e : ExB f (L2.upd H d o) H') (hd : H d = none) : ExB f H H' := (Ex.new hd).exb.trans e
def small1 (n : Int) : List Bg := [[("x", 1)], [("y", 1)], [("x", 1), ("", n)], [("y", n), ("", 1)], [("x", 1), ("y", n)]]
def small2 (n : Int) : List Bg := [[("xy", 1), ("", n)], [("yx", 1), ("", n)], [("xx", 1), ("y", n)], [("xy", 1), ("yx", n)]]
def small3 (n : Int) : List Bg := [[("xy", n), ("x", 1), ("", 1)], [("", n)], [("z", 1), ("x", n)]]
def okWords (ks : List Str) : Bool := decide ks.Nodup && decide (ks.length ≤ 3) && ks.all fun u => decide (u.length ≤ 2) && isW u
theorem lot_of_ok {p n : Int} {s : Bg} (h : okWords (keys s) = true) (hn0 : 0 < n) (hn1 : n < p) (hv : ∀ kv ∈ s, kv.2 = 1 ∨ kv.2 = n) : Lot p s 3 2 := by
  unfold okWords at h
  simp only [Bool.and_eq_true, decide_eq_true_eq] at h
  obtain ⟨⟨h1, h2⟩, h3⟩ := h
  refine Lot.of h1 (by unfold keys at h2; rw [List.length_map] at h2; exact h2) (fun u hu => ?_) fun kv hkv => ?_
  · have := List.all_eq_true.mp h3 u hu
    simpa using this
  · rcases hv kv hkv with e | e <;> omega
theorem small_lot {p n : Int} (hn0 : 0 < n) (hn1 : n < p) : ∀ s ∈ small1 n ++ small2 n ++ small3 n, Lot p s 3 2 := by
  intro s hs
  have hk : ((small1 n ++ small2 n ++ small3 n).map keys).all okWords = true := by
    show ((small1 0 ++ small2 0 ++ small3 0).map keys).all okWords = true
    decide +kernel
  refine lot_of_ok (List.all_eq_true.mp hk _ (List.mem_map_of_mem hs)) hn0 hn1 ?_
  have hv : ∀ s ∈ small1 n ++ small2 n ++ small3 n, ∀ kv ∈ s, kv.2 = 1 ∨ kv.2 = n := by
    intro s hs kv hkv
    simp only [small1, small2, small3, List.mem_append, List.mem_cons, List.not_mem_nil, or_false] at hs
    rcases hs with ((rfl | rfl | rfl | rfl | rfl) | rfl | rfl | rfl | rfl) | rfl | rfl | rfl <;> simp only [List.mem_cons, List.not_mem_nil, or_false] at hkv
    all_goals first
      | (rcases hkv with rfl | rfl | rfl <;> first | exact .inl rfl | exact .inr rfl)
      | (rcases hkv with rfl | rfl <;> first | exact .inl rfl | exact .inr rfl)
      | (subst hkv; first | exact .inl rfl | exact .inr rfl)
  exact hv s hs
theorem lst_ok {tA : TA} {σ : St} {ss : List Bg} {H : Hp} {Q : VK} (h : ArgsOk tA σ ss) (hz : ss.length ≤ 1000) (q : ∀ l ps H', Ex H H' → H l = none → H' l = some (.lst (ps.map V.ref)) → Paired (fun p s => H p = none ∧ H' p = some (.dK (toK s))) ps ss → Q (.ref l) H') : tLst tA σ H Q :=
  h H _ fun ps H' e hp => ⟨by rw [List.length_map, hp.length]; exact Nat.le_trans hz (by decide), fun l hl => q l ps _ (e.trans (Ex.new hl)) (e.free hl) upd_same (Paired.mapP hp fun _ _ z => ⟨z.1, Ex.new hl _ _ z.2⟩)⟩
theorem small_ne {v : Int} (s : Bg) (hs : s ∈ small1 v ++ small2 v ++ small3 v) : s ≠ [] := by
  unfold small1 small2 small3 at hs
  simp only [List.cons_append, List.nil_append, List.mem_cons, List.not_mem_nil, or_false] at hs
  rcases hs with rfl | rfl | rfl | rfl | rfl | rfl | rfl | rfl | rfl | rfl | rfl | rfl <;> exact List.cons_ne_nil _ _
/-- few words, or three of which two are beginnings -/
def SmK (s : Bg) : Prop := s.length ≤ 2 ∨ keys s = (["xy", "x", ""] : List Str)
theorem small_K {v : Int} (s : Bg) (hs : s ∈ small1 v ++ small2 v ++ small3 v) : SmK s := by
  unfold small1 small2 small3 at hs
  simp only [List.cons_append, List.nil_append, List.mem_cons, List.not_mem_nil, or_false] at hs
  rcases hs with rfl | rfl | rfl | rfl | rfl | rfl | rfl | rfl | rfl | rfl | rfl | rfl <;> first | exact .inl (Nat.le_of_ble_eq_true rfl) | exact .inr rfl
/-- small bags are not nothing -/
def sp_law_smallN : Sp := fun vs H Q _ => ∃ (h c : Addr) (p : Int), vs = [.ref h, .int p] ∧ HandAt H h c ∧ 2 ≤ p ∧ p ≤ 1000 ∧
  ∀ d s H', ExB h H H' → H d = none → H' d = some (.dK (toK s)) → Lot p s 3 2 → s ≠ [] → HandAt H' h c → Q (.ref d) H'
def sp_law_smallI : Sp := fun vs H Q _ => ∃ (h c : Addr) (p : Int), vs = [.ref h, .int p] ∧ HandAt H h c ∧ 2 ≤ p ∧ p ≤ 1000 ∧
  ∀ d s H', ExB h H H' → H d = none → H' d = some (.dK (toK s)) → Lot p s 3 2 → s ≠ [] → SmK s → HandAt H' h c → Q (.ref d) H'
end
end Fp

namespace Fp
open PySem L2
section
variable {P : Program} {w : World} {K : PySem.W.Frag} {mg : Str → Option Value} {base : Heap} {C_Bag : Addr} {Cs : Addr → Prop}
local macro_rules | `(tactic| walk_at "hp") => `(tactic| first | assumption | rfl)
local macro_rules | `(tactic| walk_at "cond") => `(tactic| first | assumption | decide | omega | (unfold CMul; omega) | (refine ⟨?_, ?_⟩ <;> omega) | (unfold CDiv; omega) | (unfold CPow; omega))
local macro_rules | `(tactic| walk_at "g1") => `(tactic| first
  | with_reducible first
    | refine g_seq ?_ | refine g_asg ?_ | refine g_name ?_ | refine g_ret ?_ | refine g_retN ?_ | refine g_drop ?_ | refine g_ifs ?_
    | refine g_c ?_ | refine g_op ?_ | refine g_un ?_ | refine g_I0 ?_ | refine g_U ?_
    | refine g_test ?_ | refine g_tB ?_ | refine g_bl ?_ | refine g_and ?_ | refine g_or ?_ | refine g_not ?_
    | refine g_andV ?_ | refine g_orV ?_ | refine g_notV ?_ | refine g_if ?_ | refine g_nil ?_ | refine g_cons ?_ | refine g_cb ?_ | refine g_call ?_
    | refine g_lst ?_ | refine g_tup ?_ | refine g_itT ?_ | refine g_itF ?_ | refine g_itNT ?_ | refine g_itNF ?_ | refine g_lc ?_ | refine g_iStr ?_ | refine g_yes ?_ | refine g_exs ?_
    | refine g_chain ?_ | refine g_dget ?_ | refine g_dput ?_ | refine g_dget2 ?_ | refine g_dpop2 ?_ | refine g_fld ?_ | refine g_sfld ?_ | refine g_make ?_ | refine g_meth ?_
    | refine g_bm ?_ | refine g_kw ?_ | refine g_callS ?_ | refine g_revL ?_ | refine g_m1 ?_ | refine g_gsub ?_ | refine g_for ?_ | refine g_iList ?_ | refine g_iTup ?_ | refine g_iRng1 ?_ | refine g_iRng2 ?_ | refine g_sl ?_ | refine g_part ?_ | refine g_noPart ?_
    | refine g_exi ?_ | refine g_exr ?_ | refine g_dnew ?_ | refine g_disp ?_ | refine g_prs0 ?_ | refine g_prs ?_ | refine g_nxt ?_
  | ((with_reducible refine g_var (v := ?vv) ?gv ?_); (case gv => exact rfl))
  | ((with_reducible refine g_I ?gc ?_); (case gc => walk_at "cond"))
  | ((with_reducible refine g_eq ?ge ?_); (case ge => exact rfl))
  | ((with_reducible refine g_ne ?ge ?_); (case ge => exact rfl))
  | (refine g_ixl (SqL.of (by first | assumption | exact upd_same)) rfl ?_)
  | (refine g_setl (by first | assumption | exact upd_same) rfl ?_)
  | ((with_reducible show (∃ i, [V.int _] = [V.int i] ∧ _) ∨ _); refine Or.inl ⟨_, rfl, ?_⟩)
  | ((with_reducible show ∃ i, [V.int _] = [V.int i] ∧ _); refine ⟨_, rfl, ?_⟩)
  | dsimp only)
local macro_rules | `(tactic| walk_at "go") => `(tactic| repeat (walk_at "g1"))

theorem Good.up {p q : Int} {s : Bg} (g : Good p s) (h : p ≤ q) : Good q s := ⟨g.nd, g.lo, fun kv hk => by have := g.hi kv hk; omega⟩
end
end Fp

namespace Fp
open PySem L2
section
variable {P : Program} {w : World} {K : PySem.W.Frag} {mg : Str → Option Value} {base : Heap} {C_Bag : Addr} {Cs : Addr → Prop}
local macro_rules | `(tactic| walk_at "hp") => `(tactic| first | assumption | rfl)
local macro_rules | `(tactic| walk_at "cond") => `(tactic| first | assumption | decide | omega | (unfold CMul; omega) | (refine ⟨?_, ?_⟩ <;> omega) | (unfold CDiv; omega) | (unfold CPow; omega))
local macro_rules | `(tactic| walk_at "g1") => `(tactic| first
  | with_reducible first
    | refine g_seq ?_ | refine g_asg ?_ | refine g_name ?_ | refine g_ret ?_ | refine g_retN ?_ | refine g_drop ?_ | refine g_ifs ?_
    | refine g_c ?_ | refine g_op ?_ | refine g_un ?_ | refine g_I0 ?_ | refine g_U ?_
    | refine g_test ?_ | refine g_tB ?_ | refine g_bl ?_ | refine g_and ?_ | refine g_or ?_ | refine g_not ?_
    | refine g_andV ?_ | refine g_orV ?_ | refine g_notV ?_ | refine g_if ?_ | refine g_nil ?_ | refine g_cons ?_ | refine g_cb ?_ | refine g_call ?_
    | refine g_lst ?_ | refine g_tup ?_ | refine g_itT ?_ | refine g_itF ?_ | refine g_itNT ?_ | refine g_itNF ?_ | refine g_lc ?_ | refine g_iStr ?_ | refine g_yes ?_ | refine g_exs ?_
    | refine g_chain ?_ | refine g_dget ?_ | refine g_dput ?_ | refine g_dget2 ?_ | refine g_dpop2 ?_ | refine g_fld ?_ | refine g_sfld ?_ | refine g_make ?_ | refine g_meth ?_
    | refine g_bm ?_ | refine g_kw ?_ | refine g_callS ?_ | refine g_revL ?_ | refine g_m1 ?_ | refine g_gsub ?_ | refine g_for ?_ | refine g_iList ?_ | refine g_iTup ?_ | refine g_iRng1 ?_ | refine g_iRng2 ?_ | refine g_sl ?_ | refine g_part ?_ | refine g_noPart ?_
    | refine g_exi ?_ | refine g_exr ?_ | refine g_dnew ?_ | refine g_disp ?_ | refine g_prs0 ?_ | refine g_prs ?_ | refine g_nxt ?_
  | ((with_reducible refine g_var (v := ?vv) ?gv ?_); (case gv => exact rfl))
  | ((with_reducible refine g_I ?gc ?_); (case gc => walk_at "cond"))
  | ((with_reducible refine g_eq ?ge ?_); (case ge => exact rfl))
  | ((with_reducible refine g_ne ?ge ?_); (case ge => exact rfl))
  | (refine g_ixl (SqL.of (by first | assumption | exact upd_same)) rfl ?_)
  | (refine g_setl (by first | assumption | exact upd_same) rfl ?_)
  | ((with_reducible show (∃ i, [V.int _] = [V.int i] ∧ _) ∨ _); refine Or.inl ⟨_, rfl, ?_⟩)
  | ((with_reducible show ∃ i, [V.int _] = [V.int i] ∧ _); refine ⟨_, rfl, ?_⟩)
  | dsimp only)
local macro_rules | `(tactic| walk_at "go") => `(tactic| repeat (walk_at "g1"))

/-! ### the bags -/
structure KeyFn (K : PySem.W.Frag) (mg : Str → Option Value) : Prop where
  ex : ∃ f fd, Fun K "ahead_key" "ahead_key" s_ahead_key f fd ∧ mg "ahead_key" = some (.ref f) ∧ Binds K fd ["word"] []
theorem ok_words_in_order {f : Addr} {fd : FuncData} (F : Fun K "words_in_order" "words_in_order" s_words_in_order f fd) (T : Txt K mg C_Bag Cs) (KF : KeyFn K mg) : FnOk P w K mg base CX0 4 f fd ["sparse"] sp_law_order := by
  refine F.ok sc_words_in_order (fun vs H Q E h => ?_) (fun cdv A outer s H vs Q E hr h => ?_)
  · obtain ⟨d, s, rfl, _⟩ := h
    rfl
  · obtain ⟨d, s, rfl, hd, hz, hw, k⟩ := h
    obtain ⟨f_ahead_key, fd_ahead_key, F_ahead_key, M_ahead_key, B_ahead_key⟩ := KF.ex
    have hu := hu_of hr; have hu64 := L2.Room.units hr; refine ⟨_, (pss_one (ps_ret (pe_callBK (cr_sortedKey F_ahead_key sc_ahead_key rfl rfl rfl rfl B_ahead_key T.b_len (hr.mono (by decide))) (by rfl) T.b_sorted (by decide +kernel) (pa_cons (pe_callTy (call_listD rfl) (by rfl) T.b_list (by decide +kernel) (pa_cons (pv 0) pa_nil)) pa_nil) (pk_cons (pe_glob (v := .ref f_ahead_key) rfl M_ahead_key rfl) pk_nil)))), ?_⟩; rw [st_words_in_order]; (try dsimp only [cxOf]); walk_at "go"
    refine ⟨d, toK s, rfl, hd, fun p hp => ?_⟩
    rw [toK_keys]
    walk_at "go"
    refine ⟨p, keys s, rfl, rfl, SqL.of upd_same, fun w hw' => line5 (hw w hw'), fun q hq => ?_⟩
    exact k q _ ((Ex.new hp).trans (Ex.new hq)) ((Ex.new hp).free hq) upd_same
def sp_are_words : Sp := fun vs H Q _ => ∃ (p : Int) (d : Addr) (s : Bg), vs = [.int p, .ref d] ∧ H d = some (.dK (toK s)) ∧ Lot p s 300 12 ∧ ∀ H', Ex H H' → Q (.bl true) H'
theorem ok_are_words {f : Addr} {fd : FuncData} (F : Fun K "are_words" "are_words" s_are_words f fd) (T : Txt K mg C_Bag Cs) (D_is_short_word : DefOk P w K mg base CX0 2 "is_short_word" ["thing"] (sp_is_short_word K)) (D_is_within : DefOk P w K mg base CX0 2 "is_within" ["thing", "least", "most"] (sp_is_within K)) : FnOk P w K mg base CX0 3 f fd ["clock", "thing"] sp_are_words := by
  refine F.ok sc_are_words (fun vs H Q E h => ?_) (fun cdv A outer s H vs Q E hr h => ?_)
  · obtain ⟨p, d, s, rfl, _⟩ := h
    rfl
  · obtain ⟨p, d, s, rfl, hd, hl, k⟩ := h
    obtain ⟨tM, T_MOST_WORDS⟩ := T.g_MOST_WORDS
    have hu := hu_of hr; have hu64 := L2.Room.units hr; refine ⟨_, (pss_cons (ps_if (PW.pt (pw_or (pt_not (pt_val (pe_callB (r := rIsi K) call_isi (by rfl) T.b_isinstance (by decide +kernel) (pa_cons (pv 1) (pa_cons (pe_bltn (v := .ty "dict") rfl T.b_dict (by decide +kernel) rfl) pa_nil))))) (pw_or1 (pt_cmpR op_gt (pe_callB call_lenD (by rfl) T.b_len (by decide +kernel) (pa_cons (pv 1) pa_nil)) (pe_glob (v := .int 300) rfl T_MOST_WORDS ⟨_, rfl⟩) (nomark _))))) (pss_one (ps_ret pe_bl)) pss_nil) (pss_one (ps_ret (pe_callB (r := rAll K) (cr_all rfl) (by rfl) T.b_all (by decide +kernel) (pa_cons (pe_lockR (pe_lc (own := [("word", 2)]) (g := (gName 2)) (tt := tYes) rfl sc_are_words.nd (pi_keys (pv 1)) (blkOk_by (N := N_are_words) (sc := defScope s_are_words) (by decide +kernel)) (fun _ _ _ _ _ => (pg_name (i := 2) sc_are_words.nd rfl (by first | exact Or.inl rfl | exact Or.inr rfl))) (fun _ _ _ _ _ => pts_nil) (fun _ _ _ _ _ => (pe_and (pe_callD D_is_short_word (hr.mono (by decide)) rfl pass0 (pa_cons (pv 2) pa_nil)) (pe_one (pe_callD D_is_within (hr.mono (by decide)) rfl pass0 (pa_cons (pe_dget hu (pv 1) (pv 2) (fun _ _ => rfl)) (pa_cons pe_int (pa_cons (pe_op op_sub (pv 0) pe_int) pa_nil))))))))) pa_nil))))), ?_⟩; rw [st_are_words]; (try dsimp only [cxOf]); walk_at "go"
    refine g_isi (n := "dict") (t := .type "dict") (b := true) (.base (.dK hd)) (kit_ty (by decide +kernel)) ?_
    walk_at "go"
    refine ⟨d, _, rfl, hd, ?_⟩
    rw [toK_len]
    walk_at "go"
    have h3 : ¬ ((300 : Int) < (s.length : Int)) := by have := hl.n; omega
    rw [decide_eq_false h3]
    walk_at "go"
    refine lcd_rel (.inl hd) (line5 (Nat.le_trans hl.n (by decide))) (fun H' Q' _ q => ⟨_, rfl, q⟩) (fun e y H => y = V.bl true) (fun e y H H' t h1 => h1) (fun _ => rfl) ?_ ?_
    · intro i z n H1 Kc hi le hk
      obtain ⟨l1, l2⟩ := hl.l z (mem_keys.mpr ⟨n, mem_fr hi⟩)
      have hsw : isSW z = true := by unfold isSW; rw [l2, decide_eq_true l1]; rfl
      walk_at "go"
      refine ⟨_, true, rfl, .inl ⟨z, rfl, by omega, hsw.symm⟩, fun H2 e2 => ?_⟩
      walk_at "go"
      refine g_dg (e2.rd le.self) (getS_at hl.g.nd hi) ?_
      walk_at "go"
      have c1 := hl.g.lo _ (mem_fr hi)
      have c2 := hl.g.hi _ (mem_fr hi)
      dsimp only at c1 c2
      refine ⟨_, 1, p - 1, true, rfl, .inl ⟨n, rfl, ?_⟩, hk _ _ e2 rfl⟩
      rw [decide_eq_true (by omega : (1 : Int) ≤ n), decide_eq_true (by omega : n ≤ p - 1)]
      rfl
    · intro D H1 ys hD e hl1 hp
      have hys := paired_map (G := fun e : Str × Int => V.bl true) hp
      subst hys
      walk_at "go"
      refine ⟨D, s.map fun _ => true, rfl, SqL.of (by rw [hl1, List.map_map]; rfl), ?_⟩
      have : (s.map fun _ => true).all id = true := by rw [List.all_map]; exact List.all_eq_true.mpr fun _ _ => rfl
      rw [this]
      exact k _ e
theorem putF_len (f : Str) (v : V) : ∀ fs : List (Str × V), (putF f v fs).length ≤ fs.length + 1
  | [] => Nat.le_refl _
  | q :: r => by
    obtain ⟨g, u⟩ := q
    unfold putF
    split
    · simp
    · have := putF_len f v r
      simp only [List.length_cons]
      omega
theorem putF_lt {n k : Nat} (h : n ≤ k) (hk : k < 1000) : n < 1000 := Nat.lt_of_le_of_lt h hk
def sp_keep (Cs : Addr → Prop) : Sp := fun vs H Q _ => ∃ (x d : Addr) (p : Int) (s : Bg) (C dx : Addr), vs = [.ref x, .int p, .ref d] ∧ H x = some (.ins C dx []) ∧ Cs C ∧ H d = some (.dK (toK s)) ∧ s.length ≤ 10000000 ∧ (∀ u ∈ keys s, u.length ≤ 10000000) ∧ (keys s).Nodup ∧
  ∀ k t H', ExB x H H' → H' x = some (.ins C dx (bagF p d k t)) → WordsAt H' t (wordsS s) → Q .non H'
theorem ok_keep {f : Addr} {fd : FuncData} (F : Fun K "keep" "Bag.keep" s_Bag_keep f fd) (T : Txt K mg C_Bag Cs) (D_words_in_order : DefOk P w K mg base CX0 4 "words_in_order" ["sparse"] sp_law_order) : FnOk P w K mg base CX0 5 f fd ["self", "clock", "sparse"] (sp_keep Cs) := by
  refine F.ok sc_Bag_keep (fun vs H Q E h => ?_) (fun cdv A outer s H vs Q E hr h => ?_)
  · obtain ⟨x, d, p, s, C, dx, rfl, _⟩ := h
    rfl
  · obtain ⟨x, d, p, s, C, dx, rfl, hx, hc, hd, hz, hw, hn, k⟩ := h
    have hxd : d ≠ x := fun e => by subst e; rw [hx] at hd; cases hd
    have hu := hu_of hr; have hu64 := L2.Room.units hr; refine ⟨_, (pss_cons (ps_fld (pv 0) (pv 1) rfl) (pss_cons (ps_fld (pv 0) (pv 2) rfl) (pss_cons (ps_fld (pv 0) pe_dnewK rfl) (pss_one (ps_fld (pv 0) (pe_callTy (r := rTupleZ K) call_tupleZ (by rfl) T.b_tuple (by decide +kernel) (pa_cons (pe_lc (own := [("word", 3)]) (g := (gName 3)) (tt := tYes) rfl sc_Bag_keep.nd (pi_list (pe_callD D_words_in_order (hr.mono (by decide)) rfl pass0 (pa_cons (pv 2) pa_nil))) (blkOk_by (N := N_Bag_keep) (sc := defScope s_Bag_keep) (by decide +kernel)) (fun _ _ _ _ _ => (pg_name (i := 3) sc_Bag_keep.nd rfl (by first | exact Or.inl rfl | exact Or.inr rfl))) (fun _ _ _ _ _ => pts_nil) (fun _ _ _ _ _ => (pe_tup (pa_cons (pv 3) (pa_cons (pe_dget hu (pv 2) (pv 3) (fun _ _ => rfl)) pa_nil))))) pa_nil)) rfl))))), ?_⟩; rw [st_Bag_keep]; (try dsimp only [cxOf]); walk_at "go"
    refine ⟨x, C, dx, _, rfl, hx, T.cls C hc, T.n_clock C hc, by decide, ?_⟩
    walk_at "go"
    refine ⟨x, C, dx, _, rfl, upd_same, T.cls C hc, T.n_sparse C hc, putF_lt (putF_len _ _ _) (by decide), ?_⟩
    rw [upd_upd]
    walk_at "go"
    intro k1 hk1
    have hk1x : k1 ≠ x := fun e => by subst e; rw [upd_same] at hk1; cases hk1
    walk_at "go"
    refine ⟨x, C, dx, _, rfl, by rw [upd_ne (Ne.symm hk1x)]; exact upd_same, T.cls C hc, T.n_kept C hc, putF_lt (Nat.le_trans (putF_len _ _ _) (Nat.succ_le_succ (putF_len _ _ _))) (by decide), ?_⟩
    walk_at "go"
    have e0 : ExB x H (upd (upd (upd H x (.ins C dx (putF "sparse" (V.ref d) (putF "clock" (V.int p) [])))) k1 (.dK [])) x (.ins C dx (putF "kept" (V.ref k1) (putF "sparse" (V.ref d) (putF "clock" (V.int p) []))))) := (((ExB.refl x H).upd).new hk1).upd
    have hx0 := upd_same (H := upd (upd H x (.ins C dx (putF "sparse" (V.ref d) (putF "clock" (V.int p) [])))) k1 (.dK [])) (a := x) (o := .ins C dx (putF "kept" (V.ref k1) (putF "sparse" (V.ref d) (putF "clock" (V.int p) []))))
    generalize upd (upd (upd H x (.ins C dx (putF "sparse" (V.ref d) (putF "clock" (V.int p) [])))) k1 (.dK [])) x (.ins C dx (putF "kept" (V.ref k1) (putF "sparse" (V.ref d) (putF "clock" (V.int p) [])))) = H0 at e0 hx0 ⊢
    have hd0 := e0 _ _ hxd hd
    refine ⟨d, s, rfl, .inl hd0, hz, hw, fun l H1 e1 hl1 hl => ?_⟩
    walk_at "go"
    refine ⟨⟨_, SqL.of hl⟩, ?_⟩
    have hlen : (ordW (keys s)).length = s.length := by rw [ordW_len]; unfold keys; rw [List.length_map]
    refine lc_rel (j := 3) walk_list (ordW (keys s)) (by rw [List.length_map]) (by rw [List.length_map, hlen]; exact line5 hz) (fun H' e => SqL.of (e _ _ hl)) (fun z y H => ∃ a, y = V.ref a ∧ H a = some (.tup [.str z, .int (cf s z)])) (fun e y H H' t ⟨a, h1, h2⟩ => ⟨a, h1, t _ _ h2⟩) (fun _ => rfl) ?_ ?_
    · rintro i x z H2 H3 Kc hi e2 ⟨rfl, hx⟩ hz2 hk
      rw [List.getElem?_map, hz2] at hx
      obtain rfl := (Option.some.inj hx).symm
      walk_at "go"
      refine g_dg (.inl ((e1.trans e2) _ _ hd0)) (getS_cf ((ordW_perm _).mem_iff.mp (List.mem_of_getElem? hz2))) ?_
      walk_at "go"
      exact ⟨Nat.le_of_ble_eq_true rfl, fun q hq => hk _ _ (Ex.new hq) ⟨q, rfl, upd_same⟩⟩
    · intro D H2 ys hD e2 hlD hp
      obtain ⟨as, rfl, hp'⟩ := paired_refs hp
      walk_at "go"
      refine ⟨D, _, rfl, SqL.of hlD, fun t o ht ho => ?_⟩
      have e3 : Ex H0 (upd H2 t (.frz o (.tup (as.map V.ref)))) := (e1.trans e2).trans (Ex.new ht)
      have htx : t ≠ x := Ne.symm (ne_of_none ((e1.trans e2) _ _ hx0) ht)
      walk_at "go"
      refine ⟨x, C, dx, _, rfl, e3 _ _ hx0, T.cls C hc, T.n_words C hc, putF_lt (Nat.le_trans (putF_len _ _ _) (Nat.succ_le_succ (Nat.le_trans (putF_len _ _ _) (Nat.succ_le_succ (putF_len _ _ _))))) (by decide), ?_⟩
      refine k k1 t _ ((e0.trans e3.exb).upd) (by rw [upd_same, bagF_made]) ⟨as, o, by rw [upd_ne htx]; exact upd_same, ho, Paired.mapP (pairs_at hp') fun a b q => ?_⟩
      have hax : a ≠ x := fun e => by
        subst e
        have h1 := (e1.trans e2) _ _ hx0
        rw [h1] at q
        cases q
      rw [upd_ne hax]
      exact Ex.new ht _ _ q

end
end Fp

namespace Fp
open PySem L2
section
variable {P : Program} {w : World} {K : PySem.W.Frag} {mg : Str → Option Value} {base : Heap} {C_Bag : Addr} {Cs : Addr → Prop}
local macro_rules | `(tactic| walk_at "hp") => `(tactic| first | assumption | rfl)
local macro_rules | `(tactic| walk_at "cond") => `(tactic| first | assumption | decide | omega | (unfold CMul; omega) | (refine ⟨?_, ?_⟩ <;> omega) | (unfold CDiv; omega) | (unfold CPow; omega))
local macro_rules | `(tactic| walk_at "g1") => `(tactic| first
  | with_reducible first
    | refine g_seq ?_ | refine g_asg ?_ | refine g_name ?_ | refine g_ret ?_ | refine g_retN ?_ | refine g_drop ?_ | refine g_ifs ?_
    | refine g_c ?_ | refine g_op ?_ | refine g_un ?_ | refine g_I0 ?_ | refine g_U ?_
    | refine g_test ?_ | refine g_tB ?_ | refine g_bl ?_ | refine g_and ?_ | refine g_or ?_ | refine g_not ?_
    | refine g_andV ?_ | refine g_orV ?_ | refine g_notV ?_ | refine g_if ?_ | refine g_nil ?_ | refine g_cons ?_ | refine g_cb ?_ | refine g_call ?_
    | refine g_lst ?_ | refine g_tup ?_ | refine g_itT ?_ | refine g_itF ?_ | refine g_itNT ?_ | refine g_itNF ?_ | refine g_lc ?_ | refine g_iStr ?_ | refine g_yes ?_ | refine g_exs ?_
    | refine g_chain ?_ | refine g_dget ?_ | refine g_dput ?_ | refine g_dget2 ?_ | refine g_dpop2 ?_ | refine g_fld ?_ | refine g_sfld ?_ | refine g_make ?_ | refine g_meth ?_
    | refine g_bm ?_ | refine g_kw ?_ | refine g_callS ?_ | refine g_revL ?_ | refine g_m1 ?_ | refine g_gsub ?_ | refine g_for ?_ | refine g_iList ?_ | refine g_iTup ?_ | refine g_iRng1 ?_ | refine g_iRng2 ?_ | refine g_sl ?_ | refine g_part ?_ | refine g_noPart ?_
    | refine g_exi ?_ | refine g_exr ?_ | refine g_dnew ?_ | refine g_disp ?_ | refine g_prs0 ?_ | refine g_prs ?_ | refine g_nxt ?_
  | ((with_reducible refine g_var (v := ?vv) ?gv ?_); (case gv => exact rfl))
  | ((with_reducible refine g_I ?gc ?_); (case gc => walk_at "cond"))
  | ((with_reducible refine g_eq ?ge ?_); (case ge => exact rfl))
  | ((with_reducible refine g_ne ?ge ?_); (case ge => exact rfl))
  | (refine g_ixl (SqL.of (by first | assumption | exact upd_same)) rfl ?_)
  | (refine g_setl (by first | assumption | exact upd_same) rfl ?_)
  | ((with_reducible show (∃ i, [V.int _] = [V.int i] ∧ _) ∨ _); refine Or.inl ⟨_, rfl, ?_⟩)
  | ((with_reducible show ∃ i, [V.int _] = [V.int i] ∧ _); refine ⟨_, rfl, ?_⟩)
  | dsimp only)
local macro_rules | `(tactic| walk_at "go") => `(tactic| repeat (walk_at "g1"))

def Clk (p : Int) : Prop := p = 2 ∨ p = 3 ∨ p = 5 ∨ p = 7
theorem Clk.lo {p : Int} (h : Clk p) : 2 ≤ p := by rcases h with h | h | h | h <;> omega
theorem Clk.hi {p : Int} (h : Clk p) : p ≤ 7 := by rcases h with h | h | h | h <;> omega
def sp_bag_init (C_Bag : Addr) (Cs : Addr → Prop) : Sp := fun vs H Q _ => ∃ (x d : Addr) (p : Int) (s : Bg) (dx : Addr), vs = [.ref x, .int p, .ref d] ∧ H x = some (.ins C_Bag dx []) ∧ Clk p ∧ H d = some (.dK (toK s)) ∧ Lot p s 300 12 ∧
  ∀ H', ExB x H H' → BagAt Cs H' x p s → Q .non H'
theorem ok_bag_init {f : Addr} {fd : FuncData} (F : Fun K "__init__" "Bag.__init__" s_Bag_init f fd) (T : Txt K mg C_Bag Cs) (D_is_clock : DefOk P w K mg base CX0 2 "is_clock" ["thing"] (sp_is_clock K))
    (D_are_words : DefOk P w K mg base CX0 3 "are_words" ["clock", "thing"] sp_are_words) (D_mt_Bag_keep : MtOk P w K mg base CX0 5 C_Bag "keep" ["self", "clock", "sparse"] (sp_keep Cs)) : FnOk P w K mg base CX0 6 f fd ["self", "clock", "words"] (sp_bag_init C_Bag Cs) := by
  refine F.ok sc_Bag_init (fun vs H Q E h => ?_) (fun cdv A outer s H vs Q E hr h => ?_)
  · obtain ⟨x, d, p, s, dx, rfl, _⟩ := h
    rfl
  · obtain ⟨x, d, p, s, dx, rfl, hx, hp, hd, hl, k⟩ := h
    have hxd : d ≠ x := fun e => by subst e; rw [hx] at hd; cases hd
    have hu := hu_of hr; have hu64 := L2.Room.units hr; refine ⟨_, (pss_cons (ps_if (pt_not (pt_val (pe_callD D_is_clock (hr.mono (by decide)) rfl pass0 (pa_cons (pv 1) pa_nil)))) (pss_one ps_never) pss_nil) (pss_cons (ps_if (pt_not (pt_val (pe_callD D_are_words (hr.mono (by decide)) rfl pass0 (pa_cons (pv 1) (pa_cons (pv 2) pa_nil))))) (pss_one ps_never) pss_nil) (pss_one (ps_expr (pe_mtD D_mt_Bag_keep (hr.mono (by decide)) pass0 (pv 0) (pa_cons (pv 1) (pa_cons (pe_callTy call_dictD (by rfl) T.b_dict (by decide +kernel) (pa_cons (pv 2) pa_nil)) pa_nil))))))), ?_⟩; rw [st_Bag_init]; (try dsimp only [cxOf]); walk_at "go"
    refine ⟨_, true, rfl, .inl ⟨p, rfl, (decide_eq_true (show p = 2 ∨ p = 3 ∨ p = 5 ∨ p = 7 from hp)).symm⟩, ?_⟩
    walk_at "go"
    refine ⟨p, d, s, rfl, hd, hl, fun H1 e1 => ?_⟩
    walk_at "go"
    refine ⟨x, dx, [], rfl, e1 _ _ hx, rfl, ?_⟩
    walk_at "go"
    refine ⟨d, toK s, rfl, .inl (e1 _ _ hd), fun d2 hd2 => ?_⟩
    walk_at "go"
    have hd2x : d2 ≠ x := Ne.symm (ne_of_none (e1 _ _ hx) hd2)
    refine ⟨x, d2, p, s, C_Bag, dx, rfl, Ex.new hd2 _ _ (e1 _ _ hx), T.c_base, upd_same, Nat.le_trans hl.n (by decide), fun u hu => Nat.le_trans (hl.l u hu).1 (by decide), hl.g.nd, fun k1 t H2 e2 h2 hw => ?_⟩
    exact k H2 ((e1.trans (Ex.new hd2)).exb.trans e2) ⟨C_Bag, dx, d2, k1, t, T.c_base, h2, e2 _ _ hd2x upd_same, hw⟩
/-- what == with a bag says -/
def EqIs (K : PySem.W.Frag) (C_Bag : Addr) (Cs : Addr → Prop) (H : Hp) (p : Int) (s : Bg) (y : V) (b : Bool) : Prop :=
  (∃ c q t, y = .ref c ∧ BagAt Cs H c q t ∧ b = (decide (p = q) && decide (wordsS s = wordsS t))) ∨ (∃ ty, TyX K H y ty ∧ PySem.W.kitOne K ty (.ref C_Bag) = some false ∧ b = false)
def sp_bag_eq (K : PySem.W.Frag) (C_Bag : Addr) (Cs : Addr → Prop) : Sp := fun vs H Q _ => ∃ (x : Addr) (p : Int) (s : Bg) (y : V) (b : Bool), vs = [.ref x, y] ∧ BagAt Cs H x p s ∧ EqIs K C_Bag Cs H p s y b ∧ Q (.bl b) H
theorem ok_bag_eq {f : Addr} {fd : FuncData} (F : Fun K "__eq__" "Bag.__eq__" s_Bag_eq f fd) (T : Txt K mg C_Bag Cs) : FnOk P w K mg base CX0 1 f fd ["self", "other"] (sp_bag_eq K C_Bag Cs) := by
  refine F.ok sc_Bag_eq (fun vs H Q E h => ?_) (fun cdv A outer s H vs Q E hr h => ?_)
  · obtain ⟨x, p, s, y, b, rfl, _⟩ := h
    rfl
  · obtain ⟨x, p, s, y, b, rfl, hx, he, k⟩ := h
    obtain ⟨C, dx, d, k1, t1, hc, h1, h2, h3⟩ := hx.ex
    have hu := hu_of hr; have hu64 := L2.Room.units hr; refine ⟨_, (pss_one (ps_ret (pe_and (pe_callB (r := rIsi K) call_isi (by rfl) T.b_isinstance (by decide +kernel) (pa_cons (pv 1) (pa_cons (pe_glob (v := .ref C_Bag) rfl T.c_Bag rfl) pa_nil))) (pe_and (pe_cmpR op_eq (pe_fldK (K := K) rfl (pv 0) rfl) (pe_fldK (K := K) rfl (pv 1) rfl) (nomark _)) (pe_one (pe_cmpR (r := rEqP K false) (op_eqP hu64) (pe_fldK (K := K) rfl (pv 0) rfl) (pe_fldK (K := K) rfl (pv 1) rfl) (nomark _))))))), ?_⟩; rw [st_Bag_eq]; (try dsimp only [cxOf]); walk_at "go"
    rcases he with ⟨c, q, t, rfl, hy, rfl⟩ | ⟨ty, hty, hk, rfl⟩
    · obtain ⟨C', dx', d', k1', t1', hc', h1', h2', h3'⟩ := hy.ex
      refine g_isC (b := true) (bag_ty T hc' h1') (T.c_isB C' hc') ?_
      walk_at "go"
      refine ⟨x, C, dx, _, _, rfl, h1, T.cls C hc, T.n_clock C hc, bagF_clock _ _ _ _, ?_⟩
      walk_at "go"
      refine ⟨c, C', dx', _, _, rfl, h1', T.cls C' hc', T.n_clock C' hc', bagF_clock _ _ _ _, ?_⟩
      walk_at "go"
      by_cases hpq : p = q
      · rw [decide_eq_true (by rw [hpq])]
        rw [decide_eq_true hpq] at k
        walk_at "go"
        refine ⟨x, C, dx, _, _, rfl, h1, T.cls C hc, T.n_words C hc, bagF_words _ _ _ _, ?_⟩
        walk_at "go"
        refine ⟨c, C', dx', _, _, rfl, h1', T.cls C' hc', T.n_words C' hc', bagF_words _ _ _ _, ?_⟩
        refine ⟨_, _, h3.dp, h3'.dp, plain_words _, plain_words _, depth_words _, ?_⟩
        rw [if_neg Bool.false_ne_true, eqv_words]
        exact k
      · rw [decide_eq_false (fun e => hpq (V.int.inj e))]
        rw [decide_eq_false hpq] at k
        walk_at "go"
        exact k
    · refine g_isC (b := false) hty hk ?_
      walk_at "go"
      exact k
structure EqOk (P : Program) (w : World) (K : PySem.W.Frag) (mg : Str → Option Value) (base : Heap) (C_Bag : Addr) (Cs : Addr → Prop) : Prop where
  ex : ∃ f fd, FnOk P w K mg base CX0 1 f fd ["self", "other"] (sp_bag_eq K C_Bag Cs) ∧ EqCls K f Cs ∧ Binds K fd ["self", "other"] []
theorem op_eqBagD {X : Cx} (D : EqOk X.prog X.w X.K X.mg X.base C_Bag Cs) (hr : Room 2 X.A) : OpR X (compareOp .Eq) (rBagEq X.K (sp_bag_eq X.K C_Bag Cs) Cs false) := by
  obtain ⟨f, fd, F, ec, hb⟩ := D.ex
  exact op_eqBag F ec hb pass0 hr
theorem op_neBagD {X : Cx} (D : EqOk X.prog X.w X.K X.mg X.base C_Bag Cs) (hr : Room 2 X.A) : OpR X (compareOp .NotEq) (rBagEq X.K (sp_bag_eq X.K C_Bag Cs) Cs true) := by
  obtain ⟨f, fd, F, ec, hb⟩ := D.ex
  exact op_neBag F ec hb pass0 hr
/-- a bag == a bag -/
theorem g_beq (T : Txt K mg C_Bag Cs) {H : Hp} {a c : Addr} {p q : Int} {s t : Bg} {neg : Bool} {Q : VK} (hx : BagAt Cs H a p s) (hy : BagAt Cs H c q t)
    (h : Q (.bl (if neg = true then !(decide (p = q) && decide (wordsS s = wordsS t)) else (decide (p = q) && decide (wordsS s = wordsS t)))) H) : rBagEq K (sp_bag_eq K C_Bag Cs) Cs neg (.ref a) (.ref c) H Q := by
  obtain ⟨C, dx, d, k1, t1, hc, h1, h2, h3⟩ := hx.ex
  obtain ⟨C', dx', d', k1', t1', hc', h1', h2', h3'⟩ := hy.ex
  rcases T.c_two C C' hc hc' with n | ⟨n1, n2⟩
  · exact .inl ⟨a, C, dx, _, .ref C', rfl, h1, hc, bag_ty T hc' h1', n, a, p, s, .ref c, _, rfl, hx, .inl ⟨c, q, t, rfl, hy, rfl⟩, _, rfl, h⟩
  · have e : (decide (q = p) && decide (wordsS t = wordsS s)) = (decide (p = q) && decide (wordsS s = wordsS t)) := by
      rw [Bool.eq_iff_iff]
      simp only [Bool.and_eq_true, decide_eq_true_eq]
      exact ⟨fun z => ⟨z.1.symm, z.2.symm⟩, fun z => ⟨z.1.symm, z.2.symm⟩⟩
    refine .inr ⟨a, c, C, C', dx, _, dx', _, rfl, rfl, h1, h1', hc, hc', n1, n2, c, q, t, .ref a, _, rfl, hy, .inl ⟨a, p, s, rfl, hx, rfl⟩, _, rfl, ?_⟩
    rw [e]
    exact h
/-- a bag == another thing -/
theorem g_bne (T : Txt K mg C_Bag Cs) {H : Hp} {a : Addr} {y : V} {p : Int} {s : Bg} {neg : Bool} {Q : VK} {ty : String} (hx : BagAt Cs H a p s) (hy : TyX K H y (.type ty)) (ht : ty ∈ (["NoneType", "bool", "int", "str", "list", "tuple", "dict"] : List String))
    (h : Q (.bl (if neg = true then !false else false)) H) : rBagEq K (sp_bag_eq K C_Bag Cs) Cs neg (.ref a) y H Q := by
  obtain ⟨C, dx, d, k1, t1, hc, h1, h2, h3⟩ := hx.ex
  exact .inl ⟨a, C, dx, _, .type ty, rfl, h1, hc, hy, T.c_pl C hc ty ht, a, p, s, y, false, rfl, hx, .inr ⟨_, hy, T.c_nb ty ht, rfl⟩, _, rfl, h⟩
/-- Bag(p, d) -/
theorem g_mkBag {H : Hp} {R : Addr → Hp → Prop} {p : Int} {d : Addr} {s : Bg} {E : XK} (hp : Clk p) (hd : H d = some (.dK (toK s))) (hl : Lot p s 300 12) (k : ∀ x H', Ex H H' → H x = none → BagAt Cs H' x p s → R x H') :
    ∀ x dx, H x = none → H dx = none → dx ≠ x → sp_bag_init C_Bag Cs (.ref x :: ([.int p, .ref d] ++ [])) (upd (upd H dx (.own x)) x (.ins C_Bag dx [])) (fun v H2 => v = .non ∧ R x H2) E := by
  intro x dx hx hdx hne
  have hx1 : upd H dx (.own x) x = none := by rw [upd_ne (Ne.symm hne)]; exact hx
  have e1 : Ex H (upd (upd H dx (.own x)) x (.ins C_Bag dx [])) := (Ex.new hdx).trans (Ex.new hx1)
  exact ⟨x, d, p, s, dx, rfl, upd_same, hp, e1 _ _ hd, hl, fun H' e hb => ⟨rfl, k x H' (fun a o q => e a o (ne_of_none q hx) (e1 _ _ q)) hx hb⟩⟩
/-- the same words in any order -/
theorem words_of_perm {s t : Bg} {p : Int} (gs : Good p s) (gt : Good p t) (h : ∀ kv, kv ∈ s ↔ kv ∈ t) : wordsS s = wordsS t := by
  refine wordsS_congr gs gt fun w => ?_
  by_cases hw : w ∈ keys s
  · obtain ⟨n, hn⟩ := mem_keys.mp hw
    rw [cf_of_mem gs.nd hn, cf_of_mem gt.nd ((h _).mp hn)]
  · have hw2 : w ∉ keys t := fun q => by
      obtain ⟨n, hn⟩ := mem_keys.mp q
      exact hw (mem_keys.mpr ⟨n, (h _).mpr hn⟩)
    rw [cf_not_mem hw, cf_not_mem hw2]
/-! ### facts of classes -/
theorem kit_self {K : PySem.W.Frag} {C : Addr} : PySem.W.kitOne K (.ref C) (.ref C) = some true := by
  unfold PySem.W.kitOne
  rw [if_pos (beq_self_eq_true _)]
theorem first_self {K : PySem.W.Frag} {C : Addr} : PySem.W.notFirst K C (.ref C) = true := by
  unfold PySem.W.notFirst
  rw [beq_self_eq_true]
  rfl
theorem first_not {K : PySem.W.Frag} {C : Addr} {t : Value} (h : PySem.W.subIn K t (.ref C) = some false) : PySem.W.notFirst K C t = true := by
  unfold PySem.W.notFirst
  rw [h]
  exact Bool.or_true _
theorem kit_not {K : PySem.W.Frag} {C : Addr} {t : String} (hc : PySem.W.isClsIn K C = true) (ht : PySem.W.typeIn K (.ref C) = some (.type "type")) (hs : PySem.W.subIn K (.type t) (.ref C) = some false) : PySem.W.kitOne K (.type t) (.ref C) = some false := by
  unfold PySem.W.kitOne PySem.W.kitCls
  have hc' : (PySem.W.clsIn K C).isSome = true := hc
  have e : ((Value.type t) == (Value.ref C)) = false := rfl
  rw [e, if_neg Bool.false_ne_true]
  dsimp only
  rw [hc', ht, hs]
  rfl

end
end Fp

/-! The algebra of bags, word by word. -/
namespace Fp
open PySem
/-- the same numbers -/
def Eqv (s t : Bg) : Prop := ∀ l, cl s l = cl t l
theorem Eqv.refl (s : Bg) : Eqv s s := fun _ => rfl
theorem Eqv.symm {s t : Bg} (h : Eqv s t) : Eqv t s := fun l => (h l).symm
theorem Eqv.trans {s t u : Bg} (h : Eqv s t) (h2 : Eqv t u) : Eqv s u := fun l => (h l).trans (h2 l)
section
variable {p : Int} {s t u s' t' : Bg}
theorem Eqv.words (gs : Good p s) (gt : Good p t) (h : Eqv s t) : wordsS s = wordsS t := words_cl gs gt h
theorem Eqv.of_words (hs : (keys s).Nodup) (ht : (keys t).Nodup) (h : wordsS s = wordsS t) : Eqv s t := fun l => cf_congr_words hs ht h _
theorem prod_congr (hp : 0 < p) (hs : (keys s).Nodup) (ht : (keys t).Nodup) (hs' : (keys s').Nodup) (ht' : (keys t').Nodup) (h1 : Eqv s s') (h2 : Eqv t t') : Eqv (prodS p s t) (prodS p s' t') := fun l => by
  rw [cl_prod hp hs ht, cl_prod hp hs' ht', conv_congr h1 h2]
theorem plus_congr (hp : 0 < p) (gs : Good p s) (ht : (keys t).Nodup) (gs' : Good p s') (ht' : (keys t').Nodup) (f : Int) (h1 : Eqv s s') (h2 : Eqv t t') : Eqv (plusS p s t f) (plusS p s' t' f) := fun l => by
  rw [cl_plus hp gs ht, cl_plus hp gs' ht', h1 l, h2 l]
theorem assoc_eqv (hp : 0 < p) (gs : Good p s) (gt : Good p t) (gu : Good p u) : Eqv (prodS p (prodS p s t) u) (prodS p s (prodS p t u)) :=
  .of_words (Good.prod hp _ _).nd (Good.prod hp _ _).nd (prod_assoc hp gs gt gu)
def one1 : Bg := [("", 1)]
theorem one1_good (hp : 1 < p) : Good p one1 := ⟨by decide +kernel, fun kv h => by rw [List.mem_singleton.mp h]; decide, fun kv h => by rw [List.mem_singleton.mp h]; exact hp⟩
def delta (l : List Nat) : Int := if l = [] then 1 else 0
theorem cl_one (l : List Nat) : cl one1 l = delta l := by
  unfold cl delta
  by_cases h : l = []
  · subst h
    rfl
  · rw [if_neg h]
    refine cf_not_mem fun q => h ?_
    have : ofL l = ("" : Str) := List.mem_singleton.mp q
    exact ofL_inj.mp (this.trans (show ("" : Str) = ofL [] from rfl))
theorem conv_zero_l (G : List Nat → Int) : ∀ v, conv (fun _ => 0) G v = 0
  | [] => by rw [conv_nil, Int.zero_mul]
  | c :: v => by rw [conv_cons, Int.zero_mul, conv_zero_l G v]; rfl
theorem conv_delta_l (G : List Nat → Int) : ∀ v, conv delta G v = G v
  | [] => by rw [conv_nil]; exact Int.one_mul _
  | c :: v => by
    rw [conv_cons]
    have : (fun x => delta (c :: x)) = fun _ => (0 : Int) := rfl
    rw [this, conv_zero_l, show delta [] = 1 from rfl, Int.one_mul, Int.add_zero]
theorem conv_delta_r : ∀ (v : List Nat) (G : List Nat → Int), conv G delta v = G v
  | [], G => by rw [conv_nil]; exact Int.mul_one _
  | c :: v, G => by rw [conv_cons, conv_delta_r v, show delta (c :: v) = 0 from rfl, Int.mul_zero, Int.zero_add]
theorem one_prod (hp : 1 < p) (g : Good p s) : Eqv (prodS p one1 s) s := fun l => by
  rw [cl_prod (by omega) (one1_good hp).nd g.nd, conv_congr cl_one (fun _ => rfl), conv_delta_l, cl_mod (by omega) g]
theorem prod_one (hp : 1 < p) (g : Good p s) : Eqv (prodS p s one1) s := fun l => by
  rw [cl_prod (by omega) g.nd (one1_good hp).nd, conv_congr (fun _ => rfl) cl_one, conv_delta_r, cl_mod (by omega) g]
theorem prod_nil : prodS p s [] = [] := by
  unfold prodS
  have : ∀ (l acc : Bg), l.foldl (fun acc a => prodRow p acc a []) acc = acc := by
    intro l
    induction l with
    | nil => intro acc; rfl
    | cons a r ih => intro acc; exact ih acc
  exact this s []
theorem distrib_r (hp : 0 < p) (gs : Good p s) (gt : Good p t) (gu : Good p u) (f : Int) : Eqv (prodS p s (plusS p t u f)) (plusS p (prodS p s t) (prodS p s u) f) := fun l => by
  rw [cl_prod hp gs.nd (Good.plus hp gt u).nd, cl_plus hp (Good.prod hp s t) (Good.prod hp s u).nd, cl_prod hp gs.nd gt.nd, cl_prod hp gs.nd gu.nd]
  have h1 : conv (cl s) (cl (plusS p t u f)) l % p = conv (cl s) (fun x => cl t x + f * cl u x) l % p := conv_mod (fun _ => rfl) (fun x => by rw [cl_plus hp gt gu.nd, Int.emod_emod_of_dvd _ (Int.dvd_refl p)]) l
  rw [h1, conv_addr, conv_mulr]
  simp [Int.add_emod, Int.mul_emod]
theorem distrib_l (hp : 0 < p) (gs : Good p s) (gt : Good p t) (gu : Good p u) (f : Int) : Eqv (prodS p (plusS p t u f) s) (plusS p (prodS p t s) (prodS p u s) f) := fun l => by
  rw [cl_prod hp (Good.plus hp gt u).nd gs.nd, cl_plus hp (Good.prod hp t s) (Good.prod hp u s).nd, cl_prod hp gt.nd gs.nd, cl_prod hp gu.nd gs.nd]
  have h1 : conv (cl (plusS p t u f)) (cl s) l % p = conv (fun x => cl t x + f * cl u x) (cl s) l % p := conv_mod (fun x => by rw [cl_plus hp gt gu.nd, Int.emod_emod_of_dvd _ (Int.dvd_refl p)]) (fun _ => rfl) l
  rw [h1, conv_addl, conv_mull]
  simp [Int.add_emod, Int.mul_emod]
end
end Fp

/-! Full bags: what the numbers of the beginnings of words come to. -/
namespace Fp
open PySem L2
/-- what the numbers at the beginnings of a word come to -/
def pf (F : List Nat → Int) (l : List Nat) : Int := conv F (fun _ => 1) l
theorem pf_nil (F : List Nat → Int) : pf F [] = F [] := by unfold pf; rw [conv_nil, Int.mul_one]
theorem pf_cons (F : List Nat → Int) (c : Nat) (v : List Nat) : pf F (c :: v) = F [] + pf (fun x => F (c :: x)) v := by unfold pf; rw [conv_cons, Int.mul_one]
theorem pf_snoc (c : Nat) : ∀ (a : List Nat) (F : List Nat → Int), pf F (a ++ [c]) = pf F a + F (a ++ [c])
  | [], F => by rw [List.nil_append, pf_cons, pf_nil, pf_nil]
  | d :: a, F => by
    rw [List.cons_append, pf_cons, pf_cons, pf_snoc c a]
    show _ = _ + F (d :: (a ++ [c]))
    omega
theorem pf_zero : ∀ (m : List Nat) (F : List Nat → Int), (∀ x, x <+: m → F x = 0) → pf F m = 0
  | [], F, h => by rw [pf_nil]; exact h [] (List.prefix_refl _)
  | c :: m, F, h => by
    rw [pf_cons, h [] (List.nil_prefix), pf_zero m _ fun x hx => h (c :: x) (List.cons_prefix_cons.mpr ⟨rfl, hx⟩)]
    rfl
/-- nothing comes behind a -/
theorem pf_app (m : List Nat) : ∀ (a : List Nat) (F : List Nat → Int), (∀ x, x ≠ [] → x <+: m → F (a ++ x) = 0) → pf F (a ++ m) = pf F a
  | [], F, h => by
    cases m with
    | nil => rfl
    | cons c m =>
      have e0 : pf (fun x => F (c :: x)) m = 0 := pf_zero m _ fun x hx => h (c :: x) (List.cons_ne_nil _ _) (List.cons_prefix_cons.mpr ⟨rfl, hx⟩)
      rw [List.nil_append, pf_cons, pf_nil, e0]
      omega
  | d :: a, F, h => by
    rw [List.cons_append, pf_cons, pf_cons, pf_app m a _ fun x h1 h2 => h x h1 h2]
theorem pf_add (F G : List Nat → Int) (l : List Nat) : pf (fun x => F x + G x) l = pf F l + pf G l := conv_addl F G _ l
theorem pf_mul (k : Int) (F : List Nat → Int) (l : List Nat) : pf (fun x => k * F x) l = k * pf F l := conv_mull k F _ l
theorem pf_mod {p : Int} {F G : List Nat → Int} (h : ∀ x, F x % p = G x % p) (l : List Nat) : pf F l % p = pf G l % p := conv_mod h (fun _ => rfl) l
/-- the same as a sum over a word's beginnings -/
theorem pf_range (F : List Nat → Int) (l : List Nat) : ((List.range (l.length + 1)).map fun k => F (l.take k)).sum = pf F l := by
  have key : ∀ n, n ≤ l.length → ((List.range (n + 1)).map fun k => F (l.take k)).sum = pf F (l.take n) := by
    intro n
    induction n with
    | zero => intro _; rw [List.take_zero, pf_nil]; simp
    | succ n ih =>
      intro hn
      rw [List.range_succ, List.map_append, List.sum_append, ih (by omega)]
      obtain ⟨c, hc⟩ : ∃ c, l[n]? = some c := ⟨l[n], by rw [List.getElem?_eq_getElem]⟩
      rw [List.take_add_one, hc]
      simp only [Option.toList_some]
      rw [pf_snoc]
      simp only [List.map_cons, List.map_nil, List.sum_cons, List.sum_nil]
      rw [List.take_add_one, hc]
      simp only [Option.toList_some]
      omega
  rw [key l.length (Nat.le_refl _), List.take_length]
/-! ### full -/
def OverL (z l : List Nat) : Prop := ∀ c ∈ l, c ∈ z
theorem OverL.app {z a b : List Nat} (h : OverL z a) (h2 : OverL z b) : OverL z (a ++ b) := fun c hc => (List.mem_append.mp hc).elim (h c) (h2 c)
theorem OverL.rep {z : List Nat} {c : Nat} (h : c ∈ z) (n : Nat) : OverL z (List.replicate n c) := fun d hd => by rw [(List.mem_replicate.mp hd).2]; exact h
theorem OverL.left {z a b : List Nat} (h : OverL z (a ++ b)) : OverL z a := fun c hc => h c (List.mem_append_left _ hc)
theorem OverL.take {z l : List Nat} (h : OverL z l) (n : Nat) : OverL z (l.take n) := fun c hc => h c (List.mem_of_mem_take hc)
/-- F has no word of more than n letters -/
def Len (F : List Nat → Int) (n : Nat) : Prop := ∀ l, n < l.length → F l = 0
def Full (p : Int) (z : List Nat) (F : List Nat → Int) : Prop := ∃ n, ∀ l, OverL z l → n ≤ l.length → pf F l % p = 1
theorem pf_len {F : List Nat → Int} {n : Nat} (h : Len F n) {l m : List Nat} (hl : n ≤ l.length) : pf F (l ++ m) = pf F l :=
  pf_app m l F fun x hx _ => h _ (by rw [List.length_append]; have := List.length_pos_iff.mpr hx; omega)
theorem Full.at {p : Int} {z : List Nat} {F : List Nat → Int} {c n : Nat} (h : Full p z F) (hc : c ∈ z) (hn : Len F n) {l : List Nat} (hl : OverL z l) (hll : n ≤ l.length) : pf F l % p = 1 := by
  obtain ⟨N, h⟩ := h
  rw [← pf_len (m := List.replicate N c) hn hll]
  exact h _ (hl.app (OverL.rep hc N)) (by rw [List.length_append, List.length_replicate]; omega)
/-- at the words of just so many letters, as many as the longest has, alone -/
theorem full_iff {p : Int} {z : List Nat} {F : List Nat → Int} {c n m : Nat} (hc : c ∈ z) (hn : Len F n) (hm : n ≤ m) : Full p z F ↔ ∀ l, OverL z l → l.length = m → pf F l % p = 1 := by
  refine ⟨fun h l h1 h2 => h.at hc hn h1 (by omega), fun h => ⟨m, fun l h1 h2 => ?_⟩⟩
  rw [← List.take_append_drop m l, pf_len hn (by rw [List.length_take]; omega)]
  exact h _ (h1.take m) (by rw [List.length_take]; omega)
/-- K: words that go with their beginnings, all words of F among them -/
structure Tree (F : List Nat → Int) (K : List Nat → Prop) : Prop where
  nil : K []
  pre : ∀ a c, K (a ++ [c]) → K a
  has : ∀ l, F l ≠ 0 → K l
theorem Tree.pre' {F : List Nat → Int} {K : List Nat → Prop} (t : Tree F K) : ∀ (m a : List Nat), K (a ++ m) → K a
  | [], a, h => by rwa [List.append_nil] at h
  | c :: m, a, h => t.pre _ _ (t.pre' m (a ++ [c]) (by rw [List.append_assoc]; exact h))
theorem Tree.out {F : List Nat → Int} {K : List Nat → Prop} (t : Tree F K) {a : List Nat} {c : Nat} (h : ¬ K (a ++ [c])) (m : List Nat) : pf F (a ++ c :: m) = pf F a := by
  refine pf_app _ _ _ fun x hx hp => ?_
  cases x with
  | nil => exact absurd rfl hx
  | cons d x =>
    obtain rfl := (List.cons_prefix_cons.mp hp).1
    refine Classical.byContradiction fun h0 => h ?_
    have := t.has _ h0
    rw [show a ++ d :: x = a ++ [d] ++ x from by simp] at this
    exact t.pre' _ _ this
theorem full_tree {p : Int} {z : List Nat} {F : List Nat → Int} {K : List Nat → Prop} {c n : Nat} (hc : c ∈ z) (hn : Len F n) (t : Tree F K) (hK : ∀ l, K l → l.length ≤ n) :
    Full p z F ↔ ∀ l, OverL z l → K l → pf F l % p = 1 ∨ ∀ d ∈ z, K (l ++ [d]) := by
  constructor
  · intro h l hl hk
    by_cases hd : ∀ d ∈ z, K (l ++ [d])
    · exact .inr hd
    · refine .inl ?_
      obtain ⟨d, hd⟩ := Classical.not_forall.mp hd
      obtain ⟨hdz, hdk⟩ := Classical.not_imp.mp hd
      rw [← t.out hdk (List.replicate n d)]
      refine h.at hc hn ((hl.app fun e he => ?_)) ?_
      · rcases List.mem_cons.mp he with q | q
        · rw [q]; exact hdz
        · rw [(List.mem_replicate.mp q).2]; exact hdz
      · rw [List.length_append, List.length_cons, List.length_replicate]
        omega
  · intro h
    refine (full_iff hc hn (Nat.le_refl n)).mpr fun l hl hll => ?_
    have key : ∀ m a, OverL z (a ++ m) → n ≤ (a ++ m).length → K a → pf F (a ++ m) % p = 1 := by
      intro m
      induction m with
      | nil =>
        intro a ha hal hk
        rw [List.append_nil] at ha hal ⊢
        rcases h a ha hk with q | q
        · exact q
        · have := hK _ (q c hc)
          rw [List.length_append, List.length_singleton] at this
          omega
      | cons d m ih =>
        intro a ha hal hk
        by_cases hdk : K (a ++ [d])
        · have := ih (a ++ [d]) (by simpa using ha) (by simpa using hal) hdk
          simpa using this
        · rw [t.out hdk m]
          rcases h a ha.left hk with q | q
          · exact q
          · exact absurd (q d (ha d (by simp))) hdk
    exact key l [] hl (by rw [List.nil_append]; omega) t.nil
/-! ### grown -/
def dl (l : List Nat) : Int := if l = [] then 1 else 0
def lets (z : List Nat) (l : List Nat) : Int := if ∃ c ∈ z, l = [c] then 1 else 0
def Grown (p : Int) (z : List Nat) (P A : List Nat → Int) : Prop := ∀ l, P l % p = (dl l - A l + conv A (lets z) l) % p
theorem pf_dl : ∀ l, pf dl l = 1
  | [] => by rw [pf_nil]; rfl
  | c :: l => by
    have e0 : pf (fun x => dl (c :: x)) l = 0 := pf_zero l _ fun x _ => if_neg (List.cons_ne_nil _ _)
    rw [pf_cons, e0]
    rfl
theorem pf_lets {z : List Nat} {l : List Nat} (h : OverL z l) : pf (lets z) l = 1 - dl l := by
  cases l with
  | nil => rw [pf_nil]; unfold lets dl; rw [if_neg (by rintro ⟨c, _, e⟩; cases e), if_pos rfl]; rfl
  | cons c l =>
    have h1 : (fun x => lets z (c :: x)) = dl := by
      funext x
      unfold lets dl
      by_cases hx : x = []
      · subst hx
        rw [if_pos ⟨c, h c List.mem_cons_self, rfl⟩, if_pos rfl]
      · rw [if_neg hx, if_neg]
        rintro ⟨d, _, e⟩
        exact hx (List.cons.inj e).2
    have h2 : lets z [] = 0 := by unfold lets; rw [if_neg (by rintro ⟨c, _, e⟩; cases e)]
    rw [pf_cons, h1, pf_dl, h2]
    unfold dl
    rw [if_neg (List.cons_ne_nil _ _)]
    rfl
theorem conv_dl (A : List Nat → Int) (l : List Nat) : conv A dl l = A l := by
  induction l generalizing A with
  | nil => rw [conv_nil]; unfold dl; rw [if_pos rfl, Int.mul_one]
  | cons c l ih =>
    rw [conv_cons, ih]
    unfold dl
    rw [if_neg (List.cons_ne_nil _ _)]
    omega
theorem conv_over {A G G' : List Nat → Int} {z : List Nat} : ∀ {l : List Nat}, OverL z l → (∀ x, OverL z x → G x = G' x) → conv A G l = conv A G' l := by
  intro l
  induction l generalizing A with
  | nil => intro _ h; rw [conv_nil, conv_nil, h [] (fun _ z => nomatch z)]
  | cons c l ih =>
    intro hl h
    rw [conv_cons, conv_cons, h _ hl, ih (fun d hd => hl d (List.mem_cons_of_mem _ hd)) h]
theorem Grown.pfx {p : Int} {z : List Nat} {P A : List Nat → Int} (g : Grown p z P A) {l : List Nat} (hl : OverL z l) : pf P l % p = (1 - A l) % p := by
  have e1 : pf P l % p = pf (fun l => dl l + ((-1) * A l + conv A (lets z) l)) l % p := pf_mod (fun x => by rw [g x]; congr 1; omega) l
  rw [e1, pf_add, pf_add, pf_mul, pf_dl]
  have e2 : pf (conv A (lets z)) l = pf A l - A l := by
    unfold pf
    rw [conv_assoc, conv_over (G' := fun x => 1 + (-1) * dl x) hl (fun x hx => by have := pf_lets hx; unfold pf at this; rw [this]; omega), conv_addr, conv_mulr, conv_dl]
    omega
  rw [e2]
  congr 1
  omega
theorem Grown.full {p : Int} {z : List Nat} {P A : List Nat → Int} {n : Nat} (hp : 1 < p) (g : Grown p z P A) (hA : Len A n) : Full p z P :=
  ⟨n + 1, fun l hl hll => by rw [g.pfx hl, hA l (by omega)]; exact Int.emod_eq_of_lt (by omega) (by omega)⟩
/-- with the number of a word changed -/
theorem not_full {p k : Int} {z : List Nat} {F G : List Nat → Int} {c n : Nat} {w : List Nat} (hp : 1 < p) (hc : c ∈ z) (hn : Len F n) (hw : OverL z w) (hk : 0 < k) (hk1 : k < p) (hG : ∀ l, G l % p = (F l + k * (if l = w then 1 else 0)) % p)
    (h : Full p z F) (h2 : Full p z G) : False := by
  obtain ⟨N, h2⟩ := h2
  have hl : OverL z (w ++ List.replicate (N + n) c) := hw.app (OverL.rep hc _)
  have hlen : (w ++ List.replicate (N + n) c).length = w.length + (N + n) := by rw [List.length_append, List.length_replicate]
  have h3 := h2 _ hl (by omega)
  have h4 := h.at hc hn hl (by omega)
  rw [pf_mod hG, pf_add, pf_mul] at h3
  have h5 : ∀ (u : List Nat) (m : List Nat), pf (fun l => if l = u then (1 : Int) else 0) (u ++ m) = 1 := by
    intro u m
    induction u with
    | nil => exact pf_dl m
    | cons d u ih =>
      rw [List.cons_append, pf_cons, if_neg (by simp)]
      have : (fun x => if d :: x = d :: u then (1 : Int) else 0) = fun x => if x = u then 1 else 0 := by
        funext x
        by_cases q : x = u
        · rw [if_pos (by rw [q]), if_pos q]
        · rw [if_neg (fun e => q (List.cons.inj e).2), if_neg q]
      rw [this, ih]
      rfl
  rw [h5, Int.mul_one] at h3
  have h6 : (1 + k) % p = 1 := by
    have : (pf F (w ++ List.replicate (N + n) c) + k) % p = (pf F (w ++ List.replicate (N + n) c) % p + k) % p := by rw [Int.emod_add_emod]
    rw [this, h4] at h3
    exact h3
  by_cases q : 1 + k < p
  · rw [Int.emod_eq_of_lt (by omega) q] at h6; omega
  · have : 1 + k = p := by omega
    rw [this, Int.emod_self] at h6
    cases h6
end Fp

/-! Lists of bags. -/
namespace Fp
open PySem L2
/-- all but lists stand -/
def ExL (H H' : Hp) : Prop := ∀ a o, (∀ xs, o ≠ .lst xs) → H a = some o → H' a = some o
theorem ExL.trans {H H1 H2 : Hp} (a : ExL H H1) (b : ExL H1 H2) : ExL H H2 := fun x o n h => b x o n (a x o n h)
theorem Ex.exl {H H' : Hp} (e : Ex H H') : ExL H H' := fun a o _ h => e a o h
theorem ExL.upd {H : Hp} {a : Addr} {o : HO} {xs : List V} (h : H a = some (.lst xs)) : ExL H (L2.upd H a o) := fun b u n q => by
  rw [upd_ne (fun e => by subst e; rw [h] at q; exact n xs (Option.some.inj q).symm)]
  exact q
theorem BagAt.exl {Cs : Addr → Prop} {H H' : Hp} {a : Addr} {p : Int} {s : Bg} (e : ExL H H') (b : BagAt Cs H a p s) : BagAt Cs H' a p s := by
  obtain ⟨C, dx, d, k, t, h0, h1, h2, ⟨qs, o, h3, h4, h5⟩⟩ := b.ex
  exact ⟨C, dx, d, k, t, h0, e _ _ (fun _ z => nomatch z) h1, e _ _ (fun _ z => nomatch z) h2, ⟨qs, o, e _ _ (fun _ z => nomatch z) h3, h4, Paired.mapP h5 fun q kv z => e _ _ (fun _ z => nomatch z) z⟩⟩
theorem WordsAt.exl {H H' : Hp} {t : Addr} {l : Bg} (e : ExL H H') (h : WordsAt H t l) : WordsAt H' t l := by
  obtain ⟨qs, o, h1, hd, h2⟩ := h.ex
  exact ⟨qs, o, e _ _ (fun _ z => nomatch z) h1, hd, Paired.mapP h2 fun _ _ z => e _ _ (fun _ z => nomatch z) z⟩
section
variable {J : It} {n : Nat} {G : Hp → Prop} {Y : Nat → Hp → V → Hp → Prop} {α : Type}
theorem lc_relL (w : Walk J n G Y) {j : Nat} {te : TE} {vs : List Nat} {σ : St} {H1 : Hp} {Q : VK} (es : List α) (hl : es.length = n) (hn : n ≤ sizeLine) (hG : ∀ H, Ex H1 H → G H)
    (R : α → V → Hp → Prop) (hR : ∀ e y H H', ExL H H' → R e y H → R e y H') (hw : ∀ x, wipe ((wipe σ vs).set j x) vs = wipe σ vs)
    (hs : ∀ i x e H H' (K : VK), i < n → Ex H1 H → Y i H x H' → es[i]? = some e → (∀ y H4, Ex H H4 → R e y H4 → K y H4) → te ((wipe σ vs).set j (some x)) H' K)
    (hd : ∀ D H' ys, H1 D = none → Ex H1 H' → H' D = some (.lst ys) → Paired (fun y e => R e y H') ys es → Q (.ref D) H') :
    LcG J (gName j) tYes te vs σ H1 Q := by
  intro D hD
  refine lc_it w (fun i H => Ex H1 H ∧ ∃ ys, H D = some (.lst ys) ∧ Paired (fun y e => R e y H) ys (es.take i)) ⟨Ex.new hD, [], upd_same, .nil⟩ (fun i H _ p => hG H p.1) ?_ (fun H p => ?_)
  · rintro i x H H' hi ⟨e, ys, hacc, hp⟩ hy
    have hi' : i < es.length := by omega
    obtain ⟨y, hyi⟩ : ∃ y, es[i]? = some y := ⟨es[i], by simp [hi']⟩
    refine ⟨hw _, ?_⟩
    unfold tYes
    dsimp only
    rw [if_pos rfl]
    have hlen : ys.length = i := by rw [hp.length, List.length_take]; omega
    refine hs i x y H H' _ hi e hy hyi fun z H4 e4 rz => ⟨ys, e4 _ _ hacc, by omega, ?_, ys ++ [z], upd_same, ?_⟩
    · exact Ex.mut (e.trans e4) hD
    · have tu : ExL H4 (L2.upd H4 D (.lst (ys ++ [z]))) := ExL.upd (e4 _ _ hacc)
      rw [List.take_add_one, hyi]
      exact Paired.snoc (Paired.mapP hp fun a b q => hR _ _ _ _ (e4.exl.trans tu) q) (hR _ _ _ _ tu rz)
  · obtain ⟨e, ys, h, hp⟩ := p
    rw [← hl, List.take_length] at hp
    exact hd D H ys hD e h hp
end
theorem pe_bmK {X : Cx} {K : PySem.W.Frag} (hK : X.K = K) {ex : Expr} {T : String} {to : TE} {t : TA} {r : V → List V → Hp → VK → Prop} (h : PE X ex (tBM X.K T r to t)) : PE X ex (tBM K T r to t) := hK ▸ h
/-! ### lists of words -/
theorem dpAll_wordss {K : PySem.W.Frag} {H : Hp} {ts : List Addr} {ls : List Bg} (h : Paired (fun t l => WordsAt H t l) ts ls) : DpAll K H (ts.map V.ref) (ls.map wordsD) := by
  induction h with
  | nil => exact .nil
  | cons h1 _ ih => exact .cons h1.dp ih
theorem plainAll_wordss (ls : List Bg) : PyData.plainAll (ls.map wordsD) = true := by
  induction ls with
  | nil => rfl
  | cons q r ih => rw [List.map_cons, PyData.plainAll, ih, plain_words]; rfl
theorem depthAll_wordss (ls : List Bg) : PyData.depthAll (ls.map wordsD) ≤ 2 := by
  induction ls with
  | nil => simp [PyData.depthAll]
  | cons q r ih =>
    rw [List.map_cons, PyData.depthAll]
    have h1 := depthAll_words q
    have h2 : (wordsD q).depth ≤ 2 := by simp only [wordsD, PyData.depth]; omega
    omega
theorem eqvAll_wordss : ∀ l m : List Bg, PyData.eqvAll (l.map wordsD) (m.map wordsD) = decide (l = m)
  | [], [] => by simp [PyData.eqvAll]
  | [], b :: m => by simp [PyData.eqvAll]
  | a :: l, [] => by simp [PyData.eqvAll]
  | a :: l, b :: m => by
    rw [List.map_cons, List.map_cons, PyData.eqvAll, eqv_words, eqvAll_wordss l m]
    rw [Bool.eq_iff_iff]
    simp
/-- two lists of words are compared -/
theorem g_eqWs {K : PySem.W.Frag} {H : Hp} {a b : Addr} {ts us : List Addr} {ls ms : List Bg} {neg : Bool} {Q : VK} (ha : SqL K H a (ts.map V.ref)) (hb : SqL K H b (us.map V.ref)) (h1 : Paired (fun t l => WordsAt H t l) ts ls) (h2 : Paired (fun t l => WordsAt H t l) us ms)
    (h : Q (.bl (if neg = true then !decide (ls = ms) else decide (ls = ms))) H) : rEqP K neg (.ref a) (.ref b) H Q := by
  refine ⟨.list (ls.map wordsD), .list (ms.map wordsD), .lst ha (dpAll_wordss h1), .lst hb (dpAll_wordss h2), plainAll_wordss _, plainAll_wordss _, ?_, ?_⟩
  · have := depthAll_wordss ls
    simp only [PyData.depth]
    omega
  · have e : PyData.eqv (.list (ls.map wordsD)) (.list (ms.map wordsD)) = decide (ls = ms) := eqvAll_wordss ls ms
    rw [e]
    exact h
end Fp

/-! Comprehensions that choose; dict comprehensions over a dict; dict(pairs). -/
namespace Fp
open PySem L2
section
variable {J : It} {n : Nat} {G : Hp → Prop} {Y : Nat → Hp → V → Hp → Prop} {α : Type}
/-- a comprehension that chooses: its elements stand to the chosen es as R says -/
theorem lc_relF (w : Walk J n G Y) {j : Nat} {te : TE} {tt : TT} {vs : List Nat} {σ : St} {H1 : Hp} {Q : VK} (es : List α) (sel : α → Bool) (hl : es.length = n) (hn : n ≤ sizeLine) (hG : ∀ H, Ex H1 H → G H)
    (R : α → V → Hp → Prop) (hR : ∀ e y H H', ExL H H' → R e y H → R e y H') (hw : ∀ x, wipe ((wipe σ vs).set j x) vs = wipe σ vs)
    (hs : ∀ i x e H H' (K : VK) (N : Hp → Prop), i < n → Ex H1 H → Y i H x H' → es[i]? = some e → (sel e = true → ∀ y H4, Ex H H4 → R e y H4 → K y H4) → (sel e = false → ∀ H4, Ex H H4 → N H4) →
      tt ((wipe σ vs).set j (some x)) H' fun b H3 => if b = true then te ((wipe σ vs).set j (some x)) H3 K else N H3)
    (hd : ∀ D H' ys, H1 D = none → Ex H1 H' → H' D = some (.lst ys) → Paired (fun y e => R e y H') ys (es.filter sel) → Q (.ref D) H') :
    LcG J (gName j) tt te vs σ H1 Q := by
  intro D hD
  refine lc_it w (fun i H => Ex H1 H ∧ ∃ ys, H D = some (.lst ys) ∧ Paired (fun y e => R e y H) ys ((es.take i).filter sel)) ⟨Ex.new hD, [], upd_same, .nil⟩ (fun i H _ p => hG H p.1) ?_ (fun H p => ?_)
  · rintro i x H H' hi ⟨e, ys, hacc, hp⟩ hy
    have hi' : i < es.length := by omega
    obtain ⟨y, hyi⟩ : ∃ y, es[i]? = some y := ⟨es[i], by simp [hi']⟩
    refine ⟨hw _, ?_⟩
    have hlen : ys.length ≤ i := by
      rw [hp.length]
      refine Nat.le_trans (List.length_filter_le _ _) ?_
      rw [List.length_take]
      omega
    refine hs i x y H H' _ _ hi e hy hyi (fun hsel z H4 e4 rz => ⟨ys, e4 _ _ hacc, by omega, ?_, ys ++ [z], upd_same, ?_⟩) fun hsel H4 e4 => ⟨e.trans e4, ys, e4 _ _ hacc, ?_⟩
    · exact Ex.mut (e.trans e4) hD
    · have tu : ExL H4 (L2.upd H4 D (.lst (ys ++ [z]))) := ExL.upd (e4 _ _ hacc)
      rw [List.take_add_one, hyi, List.filter_append]
      have : List.filter sel (some y).toList = [y] := by simp [hsel]
      rw [this]
      exact Paired.snoc (Paired.mapP hp fun a b q => hR _ _ _ _ (e4.exl.trans tu) q) (hR _ _ _ _ tu rz)
    · rw [List.take_add_one, hyi, List.filter_append]
      have : List.filter sel (some y).toList = [] := by simp [hsel]
      rw [this, List.append_nil]
      exact Paired.mapP hp fun a b q => hR _ _ _ _ e4.exl q
  · obtain ⟨e, ys, h, hp⟩ := p
    rw [← hl, List.take_length] at hp
    exact hd D H ys hD e h hp
end
/-- ExL to a heap in which a dict is unlocked -/
def ExT (H H' : Hp) : Prop := TupS H H'
section
variable {σ : St} {H : Hp} {Q : VK} {d : Addr} {s : Bg}
/-- a loop of any kind over a dict's keys: the dict locked, then unlocked -/
theorem lock_any {t : TE} (hd : Rd H d (.dK (toK s)))
    (core : ∀ (Hl : Hp) (od : Obj) (Q' : VK), Hl d = some (.frz od (.dK (toK s))) → LkEx d s H Hl → (∀ a, Hl a = none → H a = none) →
      (∀ v H', (∀ D, v = .ref D → H D = none) → Ex Hl H' → (∀ H2, Ex H H2 → (∀ a, a ≠ d → H2 a = H' a) → TupS H' H2 → Q v H2) → Q' v H') → t σ Hl Q') : tLockRE t σ H Q := by
  rcases hd with hd | ⟨od, hd⟩
  · refine .inl ⟨d, _, hd, trivial, fun od => ?_⟩
    refine core _ od _ upd_same ⟨fun a o ha q => by rw [upd_ne ha]; exact q, .inr ⟨od, upd_same⟩⟩ (fun a ha => ?_) fun v H' hv e hq => ?_
    · by_cases q : a = d
      · subst q; rw [upd_same] at ha; cases ha
      · rw [upd_ne q] at ha; exact ha
    · have hdl : H' d = some (.frz od (.dK (toK s))) := e _ _ upd_same
      refine ⟨hdl, hq _ (fun a o q => ?_) (fun a ha => by rw [upd_ne ha]) (TupS.upd hdl fun _ => by simp)⟩
      by_cases ha : a = d
      · subst ha
        rw [hd] at q
        cases q
        exact upd_same
      · rw [upd_ne ha]
        exact e a o (by rw [upd_ne ha]; exact q)
  · exact .inr (core H od Q hd ⟨fun a o _ h => h, .inr ⟨od, hd⟩⟩ (fun _ h => h) fun v H' hv e hq => hq H' e (fun _ _ => rfl) fun _ _ h => h)
end
/-- a comprehension over a dict's keys that chooses -/
theorem lcd_relF {σ : St} {H : Hp} {Q : VK} {d : Addr} {s : Bg} {te0 te : TE} {tt : TT} {j : Nat} {vs : List Nat} (hd : Rd H d (.dK (toK s))) (hz : s.length ≤ sizeLine)
    (he : ∀ (H' : Hp) (Q : VK), LkEx d s H H' → Q (.ref d) H' → te0 σ H' Q) (sel : Str × Int → Bool)
    (R : Str × Int → V → Hp → Prop) (hR : ∀ e y H H', TupS H H' → R e y H → R e y H') (hw : ∀ x, wipe ((wipe σ vs).set j x) vs = wipe σ vs)
    (hs : ∀ (i : Nat) (w : Str) (n : Int) (H' : Hp) (K : VK) (N : Hp → Prop), s[i]? = some (w, n) → LkEx d s H H' → (sel (w, n) = true → ∀ y H4, Ex H' H4 → R (w, n) y H4 → K y H4) → (sel (w, n) = false → ∀ H4, Ex H' H4 → N H4) →
      tt ((wipe σ vs).set j (some (.str w))) H' fun b H3 => if b = true then te ((wipe σ vs).set j (some (.str w))) H3 K else N H3)
    (hend : ∀ D H' ys, H D = none → Ex H H' → H' D = some (.lst ys) → Paired (fun y e => R e y H') ys (s.filter sel) → Q (.ref D) H') : tLockRE (tLc (iKeys te0) (gName j) tt te vs) σ H Q := by
  refine lock_any hd fun Hl od Q' hl l0 hnone hq => ?_
  refine he Hl _ l0 ⟨d, od, rfl, .inl ⟨toK s, hl, ?_⟩⟩
  show LcG _ _ _ _ _ _ _ _
  refine lc_relF walk_keys s sel (toK_len s).symm (by rw [toK_len]; exact hz) (fun H' e => e _ _ hl) R (fun e y H H' t => hR e y H H' fun a xs h => t a _ (fun _ z => nomatch z) h) hw ?_ (fun D H' ys hD e hl2 hp => ?_)
  · rintro i x e H2 H3 K N hi e2 ⟨rfl, k, v, hk, rfl⟩ hei hK hN
    obtain ⟨w, n, hw', ekv⟩ := toK_get hk
    cases ekv
    rw [hw'] at hei
    obtain rfl := (Option.some.inj hei).symm
    exact hs i w n H3 K N hw' (l0.ex e2) hK hN
  · have hDd : D ≠ d := fun z => by subst z; rw [hl] at hD; cases hD
    refine hq _ H' (fun D' z => by cases z; exact hnone _ hD) e fun H2 e2 hs2 ht => hend D H2 ys (hnone _ hD) e2 (by rw [hs2 D hDd]; exact hl2) (Paired.mapP hp fun a b q => hR _ _ _ _ ht q)
theorem putS_new {t : Bg} {w : Str} {n : Int} (h : w ∉ keys t) : putS t w n = t ++ [(w, n)] := by
  unfold putS
  rw [if_neg]
  intro z
  rw [List.any_eq_true] at z
  obtain ⟨kv, h1, h2⟩ := z
  exact h (mem_keys.mpr ⟨kv.2, by rw [← of_decide_eq_true h2]; exact h1⟩)
/-- a dict comprehension over a dict's keys: the pairs that f makes of them -/
theorem dcd_rel {σ : St} {H : Hp} {Q : VK} {d : Addr} {s : Bg} {te0 tk tv : TE} {tt : TT} {j : Nat} {vs : List Nat} (hd : Rd H d (.dK (toK s))) (hz : s.length < sizeLine)
    (he : ∀ (H' : Hp) (Q : VK), LkEx d s H H' → Q (.ref d) H' → te0 σ H' Q) (f : Str × Int → Option (Str × Int)) (hnd : (keys (s.filterMap f)).Nodup) (hw : ∀ x, wipe ((wipe σ vs).set j x) vs = wipe σ vs)
    (hs : ∀ (i : Nat) (w : Str) (n : Int) (H' : Hp) (K : V → V → Hp → Prop) (N : Hp → Prop), s[i]? = some (w, n) → LkEx d s H H' → (∀ w' n' H5, f (w, n) = some (w', n') → Ex H' H5 → K (.str w') (.int n') H5) → (f (w, n) = none → ∀ H4, Ex H' H4 → N H4) →
      tt ((wipe σ vs).set j (some (.str w))) H' fun b H3 => if b = true then tk ((wipe σ vs).set j (some (.str w))) H3 fun y H4 => tv ((wipe σ vs).set j (some (.str w))) H4 fun z H5 => K y z H5 else N H3)
    (hend : ∀ D H', H D = none → Ex H H' → H' D = some (.dK (toK (s.filterMap f))) → Q (.ref D) H') : tLockRE (tDc (iKeys te0) (gName j) tt tk tv vs) σ H Q := by
  refine lock_any hd fun Hl od Q' hl l0 hnone hq => ?_
  refine he Hl _ l0 ⟨d, od, rfl, .inl ⟨toK s, hl, fun D hD => ?_⟩⟩
  have hDd : D ≠ d := fun z => by subst z; rw [hl] at hD; cases hD
  refine ⟨fun i m H' => m = s.length - i ∧ i ≤ s.length ∧ Ex Hl H' ∧ H' D = some (.dK (toK ((s.take i).filterMap f))), ⟨s.length, by simp, Nat.zero_le _, Ex.new hD, upd_same⟩, ?_⟩
  rintro i m H2 ⟨rfl, hi, e2, hD2⟩
  have hl2 := e2 _ _ hl
  by_cases hlt : i < s.length
  · refine .inr ⟨⟨hl2, by rw [toK_len]; exact hlt⟩, fun H' => Ex Hl H' ∧ H' D = some (.dK (toK ((s.take (i + 1)).filterMap f))), fun H' p => ⟨s.length - (i + 1), by omega, rfl, hlt, p.1, p.2⟩, ?_⟩
    rintro x H' ⟨rfl, k, v, hk, rfl⟩
    obtain ⟨w, n, hw', ekv⟩ := toK_get hk
    cases ekv
    have etk : s.take (i + 1) = s.take i ++ [(w, n)] := by rw [List.take_add_one, hw']; rfl
    refine ⟨hw _, ?_⟩
    refine hs i w n H' _ _ hw' (l0.ex e2) (fun w' n' H5 hf e5 => ⟨toK ((s.take i).filterMap f), Sum.inr w', rfl, e5 _ _ hD2, ?_, Ex.mut (e2.trans e5) hD, ?_⟩) fun hf H4 e4 => ⟨e2.trans e4, ?_⟩
    · rw [toK_len]
      exact Nat.lt_of_le_of_lt (Nat.le_trans (List.length_filterMap_le _ _) (by rw [List.length_take]; omega)) hz
    · rw [upd_same, putK_toK, etk, List.filterMap_append]
      have e3 : List.filterMap f [(w, n)] = [(w', n')] := by simp [hf]
      rw [e3, putS_new]
      intro hmem
      have hsub : keys ((s.take (i + 1)).filterMap f) = keys ((s.take i).filterMap f) ++ [w'] := by
        rw [etk, List.filterMap_append, e3]
        unfold keys
        rw [List.map_append]
        rfl
      have hnd2 : (keys ((s.take (i + 1)).filterMap f)).Nodup := by
        unfold keys at hnd ⊢
        refine List.Sublist.nodup (List.Sublist.map _ ?_) hnd
        exact List.Sublist.filterMap _ (List.take_sublist _ _)
      rw [hsub, List.nodup_append] at hnd2
      exact hnd2.2.2 _ hmem _ (by simp) rfl
    · rw [e4 _ _ hD2, etk, List.filterMap_append]
      have e3 : List.filterMap f [(w, n)] = [] := by simp [hf]
      rw [e3, List.append_nil]
  · have ei : i = s.length := by omega
    subst ei
    rw [List.take_length] at hD2
    refine .inl ⟨⟨hl2, by rw [toK_len]; exact Nat.le_refl _⟩, ?_⟩
    exact hq _ H2 (fun D' z => by cases z; exact hnone _ hD) e2 fun H3 e3 hs3 ht => hend D H3 (hnone _ hD) e3 (by rw [hs3 D hDd]; exact hD2)
/-! ### dict(list of pairs) -/
def rDictP (K : PySem.W.Frag) : List V → Hp → VK → Prop := fun xs H Q => ∃ (a : Addr) (ps : List Addr) (kvs : List (Key × V)), xs = [.ref a] ∧ SqL K H a (ps.map V.ref) ∧ Paired (fun p kv => SqT K H p [kV kv.1, kv.2]) ps kvs ∧
    ∀ p, H p = none → Q (.ref p) (upd H p (.dK (mergeK [] kvs)))
theorem call_dictQ {X : Cx} (h : X.calm = true) : CallR X (.type "dict") (rDictP X.K) := call_dictP h
/-- a list of tuples (word, number) -/
theorem g_dictP {K : PySem.W.Frag} {H : Hp} {a : Addr} {ps : List Addr} {s : Bg} {Q : VK} (hl : SqL K H a (ps.map V.ref)) (hp : Paired (fun p (kv : Str × Int) => SqT K H p [.str kv.1, .int kv.2]) ps s) (hn : (keys s).Nodup)
    (h : ∀ p, H p = none → Q (.ref p) (upd H p (.dK (toK s)))) : rDictP K [.ref a] H Q := by
  refine ⟨a, ps, toK s, rfl, hl, ?_, ?_⟩
  · exact paired_mapr hp fun a b z => z
  · rw [mergeK_toK hn]
    exact h
end Fp

/-! A dict comprehension of two clauses without tests: {k: v for t0 in i0 for t1 in i1}. -/
namespace Fp
open PySem PySem.Spec PyProof.Rows L2
/-- the two clauses -/
abbrev gens2 (t0 i0 t1 i1 : Expr) : List Comprehension := [⟨t0, i0, [], 0⟩, ⟨t1, i1, [], 0⟩]
theorem turn_out (kx vx t0 i0 t1 i1 : Expr) (scope : Scope) (pos : Pos) (it acc : Value) (env : Env) :
    compTurn (.DictComp kx vx (gens2 t0 i0 t1 i1) scope pos) 0 it acc env = (do
      standAt i0.pos
      match ← pyNext it with
      | none => pure (.done .next)
      | some v =>
        letOwnedTupleGo t0 it v
        assign t0 env v
        let x ← eval i1 env
        standAt i1.pos
        let x ← foldedSetIterable i1 env x
        let _ ← runOwn (.compStart (.DictComp kx vx (gens2 t0 i0 t1 i1) scope pos) 1 (← holding [x] (pyIter x)) acc env) env
        again (.compLoop (.DictComp kx vx (gens2 t0 i0 t1 i1) scope pos) 0 it acc env)) := by rfl
theorem turn_in (kx vx t0 i0 t1 i1 : Expr) (scope : Scope) (pos : Pos) (it : Value) (D : Addr) (env : Env) :
    compTurn (.DictComp kx vx (gens2 t0 i0 t1 i1) scope pos) 1 it (.ref D) env = (do
      standAt i1.pos
      match ← pyNext it with
      | none => pure (.done .next)
      | some v =>
        letOwnedTupleGo t1 it v
        assign t1 env v
        (do
          let kv ← eval kx env
          let vv ← holding [kv] (eval vx env)
          standAt { kx.pos with endLine := vx.pos.endLine, endCol := vx.pos.endCol }
          holding [kv, vv] (dictSet D kv vv))
        again (.compLoop (.DictComp kx vx (gens2 t0 i0 t1 i1) scope pos) 1 it (.ref D) env)) := by rfl
section
variable {prog : Program} {w : World} {A : Around} {R : Result → Shared → Prop} {s : Shared} {kx vx t0 i0 t1 i1 : Expr} {scope : Scope} {pos : Pos} {it acc : Value} {D : Addr} {env : Env}
abbrev nb (prog : Program) (w : World) (A : Around) (env : Env) (R : Result → Shared → Prop) : Value → Shared → Prop := notedBy (model prog w) A env fun e s' => R (.error e) s'
theorem loop_out (hs : ∀ x, foldedSetIterable i1 env x = pure x) (I : Nat → Shared → Prop)
    (turn : ∀ n s, I n s → wpAny (model prog w) A (pyNext it) (fun r s₁ => match r with
      | none => R (.ok .next) s₁
      | some v => wpAny (model prog w) A (letOwnedTupleGo t0 it v) (fun _ s₂ => wpAny (model prog w) A (assign t0 env v) (fun _ s₃ =>
          wpAny (model prog w) A (eval i1 env) (fun x s₄ => wpAny (model prog w) A (pyIter x) (fun it1 s₅ =>
            codeAny (model prog w) A (.compStart (.DictComp kx vx (gens2 t0 i0 t1 i1) scope pos) 1 it1 acc env) (fun r s' => match r with
              | .ok _ => ∃ m, m < n ∧ I m s'
              | .error _ => False) s₅) (nb prog w A env R) s₄) (nb prog w A env R) s₃) (nb prog w A env R) s₂) (nb prog w A env R) s₁) (nb prog w A env R) s)
    (n : Nat) (h : I n s) : codeAny (model prog w) A (.compLoop (.DictComp kx vx (gens2 t0 i0 t1 i1) scope pos) 0 it acc env) R s := by
  refine codeAny_loop rfl I (fun n s hI => ?_) n h
  show wpAny _ A ((compTurn (.DictComp kx vx (gens2 t0 i0 t1 i1) scope pos) 0 it acc env).onRaise (fun x => do noteFrame x env; theTreesLotGoes x)) _ _ s
  refine wpAny_noted ?_
  rw [turn_out]
  refine wpAny_bind (wpAny_standAt (wpAny_bind (wpAny_mono (turn n s hI) (fun r s₁ h₁ => ?_) fun _ _ h' => h')))
  cases r with
  | none => exact wpAny_pure h₁
  | some v =>
    refine wpAny_bind (wpAny_mono h₁ (fun _ s₂ h₂ => wpAny_bind (wpAny_mono h₂ (fun _ s₃ h₃ => wpAny_bind (wpAny_mono h₃ (fun x s₄ h₄ => ?_) fun _ _ h' => h')) fun _ _ h' => h')) fun _ _ h' => h')
    refine wpAny_bind (wpAny_standAt (wpAny_bind (wpAny_of_eq (hs x) (wpAny_bind (wpAny_holding (wpAny_mono h₄ (fun it1 s₅ h₅ => ?_) fun _ _ h' => h'))))))
    refine wpAny_bind (wpAny_runOwn ?_)
    rw [Around.mark_none]
    refine codeAny_mono h₅ fun r s' hr => ?_
    cases r with
    | ok f => exact wpAny_pure ⟨rfl, hr⟩
    | error e => exact hr.elim
theorem loop_in (I : Nat → Shared → Prop)
    (turn : ∀ n s, I n s → wpAny (model prog w) A (pyNext it) (fun r s₁ => match r with
      | none => R (.ok .next) s₁
      | some v => wpAny (model prog w) A (letOwnedTupleGo t1 it v) (fun _ s₂ => wpAny (model prog w) A (assign t1 env v) (fun _ s₃ =>
          wpAny (model prog w) A (eval kx env) (fun kv s₄ => wpAny (model prog w) A (eval vx env) (fun vv s₅ =>
            wpAny (model prog w) A (dictSet D kv vv) (fun _ s₆ => ∃ m, m < n ∧ I m s₆) (nb prog w A env R) s₅) (nb prog w A env R) s₄) (nb prog w A env R) s₃) (nb prog w A env R) s₂) (nb prog w A env R) s₁) (nb prog w A env R) s)
    (n : Nat) (h : I n s) : codeAny (model prog w) A (.compLoop (.DictComp kx vx (gens2 t0 i0 t1 i1) scope pos) 1 it (.ref D) env) R s := by
  refine codeAny_loop rfl I (fun n s hI => ?_) n h
  show wpAny _ A ((compTurn (.DictComp kx vx (gens2 t0 i0 t1 i1) scope pos) 1 it (.ref D) env).onRaise (fun x => do noteFrame x env; theTreesLotGoes x)) _ _ s
  refine wpAny_noted ?_
  rw [turn_in]
  refine wpAny_bind (wpAny_standAt (wpAny_bind (wpAny_mono (turn n s hI) (fun r s₁ h₁ => ?_) fun _ _ h' => h')))
  cases r with
  | none => exact wpAny_pure h₁
  | some v =>
    refine wpAny_bind (wpAny_mono h₁ (fun _ s₂ h₂ => wpAny_bind (wpAny_mono h₂ (fun _ s₃ h₃ => ?_) fun _ _ h' => h')) fun _ _ h' => h')
    exact wpAny_bind (wpAny_bind (wpAny_mono h₃ (fun kv s₄ h₄ => wpAny_bind (wpAny_holding (wpAny_mono h₄ (fun vv s₅ h₅ => wpAny_bind (wpAny_standAt (wpAny_holding (wpAny_mono h₅ (fun _ s₆ h₆ => wpAny_pure ⟨rfl, h₆⟩) fun _ _ h' => h')))) fun _ _ h' => h'))) fun _ _ h' => h'))
theorem start_in (h0 : codeAny (model prog w) A (.compLoop (.DictComp kx vx (gens2 t0 i0 t1 i1) scope pos) 1 it acc env) R s)
    (h : wpAny (model prog w) A (pyIter it) (fun it' s' => codeAny (model prog w) A (.compLoop (.DictComp kx vx (gens2 t0 i0 t1 i1) scope pos) 1 it' acc env) R s') (nb prog w A env R) s) :
    codeAny (model prog w) A (.compStart (.DictComp kx vx (gens2 t0 i0 t1 i1) scope pos) 1 it acc env) R s := by
  refine codeAny_of_tree ?_
  show wpAny _ _ ((compStart (.DictComp kx vx (gens2 t0 i0 t1 i1) scope pos) 1 it acc env).onRaise (fun x => do noteFrame x env; standAt theWindowsPlace)) _ _ s
  refine wpAny_notedAt ?_
  unfold compStart
  show wpAny _ _ (ask >>= _) _ _ s
  refine wpAny_bind (wpAny_askSetting (wpAny_ite ?_))
  split
  · first
      | exact wpAny_bind (wpAny_pure (wpAny_pure (And.intro rfl h0)))
      | exact wpAny_pure (And.intro rfl h0)
  · first
      | exact wpAny_bind (wpAny_rule (wpAny_bind (wpAny_standAt (wpAny_bind (wpAny_mono h (fun it' s' h' => wpAny_pure (And.intro rfl h')) fun _ _ x => x)))))
      | (refine wpAny_bind (wpAny_rule ?_); show wpAny _ _ (standAt i1.pos >>= _) _ _ s; exact wpAny_bind (wpAny_standAt (wpAny_bind (wpAny_mono h (fun it' s' h' => wpAny_pure (And.intro rfl h')) fun _ _ x => x))))
end
section
variable {X : Cx}
/-- behind the first clause's store the second source's own loop, from which Nx is reached; vs: the block's names, vs1: those of the second target -/
def tDc2 (wi : TI) (g : TG) (wi1 : TI) (g1 : TG) (tk tv : TE) (vs vs1 : List Nat) : TE := fun σ H Q => wi σ H fun J H1 => ∀ D, H1 D = none → ∃ W : Nat → Nat → Hp → Prop, (∃ m, W 0 m (upd H1 D (.dK []))) ∧ ∀ i m H, W i m H →
  (J.stop i H ∧ Q (.ref D) H) ∨ (J.go i H ∧ ∃ Nx : Hp → Prop, (∀ H', Nx H' → ∃ m', m' < m ∧ W (i + 1) m' H') ∧ ∀ x H', J.yld i H x H' → g x (wipe σ vs) H' fun σ2 H3 => wipe σ2 vs = wipe σ vs ∧
    wi1 σ2 H3 fun J1 H4 => ∃ W1 : Nat → Nat → Hp → Prop, (∃ m, W1 0 m H4) ∧ ∀ j k H, W1 j k H →
      (J1.stop j H ∧ Nx H) ∨ (J1.go j H ∧ ∃ Nx1 : Hp → Prop, (∀ H', Nx1 H' → ∃ k', k' < k ∧ W1 (j + 1) k' H') ∧ ∀ x H', J1.yld j H x H' → g1 x (wipe σ2 vs1) H' fun σ3 H5 => wipe σ3 vs1 = wipe σ2 vs1 ∧
        tk σ3 H5 fun y H6 => tv σ3 H6 fun z H7 => ∃ kvs ky, y = kV ky ∧ H7 D = some (.dK kvs) ∧ kvs.length < sizeLine ∧ Nx1 (upd H7 D (.dK (putK kvs ky z)))))
theorem pe_dc2 {kx vx tg iter tg1 iter1 : Expr} {scope : Scope} {own : List (Str × Nat)} {vs1 : List Nat} {pos : Pos} {wi wi1 : TI} {g g1 : TG} {tk tv : TE} (hc : X.calm = true) (hN : X.N.Nodup) (hi : PI X tg iter wi) (ok : BlkOk X.N X.env.scope scope own) (hv : ∀ i ∈ vs1, i ∈ own.map (·.2))
    (hg : ∀ (s : Shared) (H : Hp) (C : Addr) (cl : List (Str × Addr)) (fp : List Addr), PG (X.blk s H scope (compEnvC scope cl C X.env) fp) tg g)
    (hi1 : ∀ (s : Shared) (H : Hp) (C : Addr) (cl : List (Str × Addr)) (fp : List Addr), PI (X.blk s H scope (compEnvC scope cl C X.env) fp) tg1 iter1 wi1)
    (hg1 : ∀ (s : Shared) (H : Hp) (C : Addr) (cl : List (Str × Addr)) (fp : List Addr), PG (X.blk s H scope (compEnvC scope cl C X.env) fp) tg1 g1)
    (hk : ∀ (s : Shared) (H : Hp) (C : Addr) (cl : List (Str × Addr)) (fp : List Addr), PE (X.blk s H scope (compEnvC scope cl C X.env) fp) kx tk)
    (he : ∀ (s : Shared) (H : Hp) (C : Addr) (cl : List (Str × Addr)) (fp : List Addr), PE (X.blk s H scope (compEnvC scope cl C X.env) fp) vx tv) (hs : ∀ x, foldedSetIterable iter X.env x = pure x := by intro _; rfl) (hs1 : ∀ env x, foldedSetIterable iter1 env x = pure x := by intro _ _; rfl) :
    PE X (.DictComp kx vx (gens2 tg iter tg1 iter1) scope pos) (tDc2 wi g wi1 g1 tk tv (own.map (·.2)) vs1) := by
  refine ⟨fun pins s σ H Q I h => ?_⟩
  rw [arm_eval_DictComp]
  have hfree : ∀ y ∈ scope.names, y.2 = .free → ∃ c, X.env.cells.lookup y.1 = some c := fun y hy e => (ok.free y hy e).elim (fun k => I.ok.has _ (.inl k)) fun k => I.ok.has _ (.inr k)
  refine wpAny_comprehension_free rfl hs (closure_ok hfree) ok.kind (fun y hy e => by rw [ok.uniq y hy, e]) (thn (hi.run pins s σ H _ I h) fun xv s1 hx => thn hx fun itv s2 h2 => ?_)
  obtain ⟨it, fp, tn, J, H2, e, I2, T, st2, f2, q⟩ := h2
  subst e
  refine wpAny_newObj_type (newEnv_comp ?_)
  generalize hD : s2.heap.objs.size = D
  obtain ⟨W, ⟨m0, w0⟩, turn⟩ := q D (I2.hok.fresh (Nat.le_of_eq hD))
  -- the new dict
  generalize hs3 : ({ s2 with heap := s2.heap.push { cls := .type "dict", data := .dict #[] } } : Shared) = s3
  have I3 : Inv X pins σ (upd H2 D (.dK [])) s3 := by
    rw [← hs3]
    refine I2.laid (t' := s2.toks) (fun b o e => Heap.get?_push_of_some _ e) (Nat.le_of_eq hD) ?_
    rw [← hD]
    exact dk_empty s2.heap I2.big
  have h3 : s3.heap = s2.heap.push { cls := .type "dict", data := .dict #[] } := by rw [← hs3]
  have f3 : ∀ b ∈ fp, FpOk X pins (upd H2 D (.dK [])) b ∧ b < s3.heap.objs.size := fun b hb => by
    obtain ⟨o, e, _⟩ := T.obj _ _ st2 b hb
    have hlt := Heap.lt_size e
    refine ⟨⟨?_, (f2 b hb).2⟩, by rw [h3, Heap.size_push]; exact Nat.lt_succ_of_lt hlt⟩
    rw [upd_ne (by rw [← hD]; exact Nat.ne_of_lt hlt)]
    exact (f2 b hb).1
  have st3 : tn 0 s3.heap := T.keep _ _ _ st2 fun b _ o e => by rw [h3]; exact Heap.get?_push_of_some _ e
  have I4 := block_start I3 ok hN f3
  have pg := hg s3 (upd H2 D (.dK [])) s3.heap.objs.size (cellsFrom (s3.heap.objs.size + 1) scope.names (cloFrom X.env.cells scope.names [])) fp
  have pi1 := hi1 s3 (upd H2 D (.dK [])) s3.heap.objs.size (cellsFrom (s3.heap.objs.size + 1) scope.names (cloFrom X.env.cells scope.names [])) fp
  have pg1 := hg1 s3 (upd H2 D (.dK [])) s3.heap.objs.size (cellsFrom (s3.heap.objs.size + 1) scope.names (cloFrom X.env.cells scope.names [])) fp
  have pk := hk s3 (upd H2 D (.dK [])) s3.heap.objs.size (cellsFrom (s3.heap.objs.size + 1) scope.names (cloFrom X.env.cells scope.names [])) fp
  have pe := he s3 (upd H2 D (.dK [])) s3.heap.objs.size (cellsFrom (s3.heap.objs.size + 1) scope.names (cloFrom X.env.cells scope.names [])) fp
  have nfp : ∀ b ∈ fp, (upd H2 D (.dK [])) b = none := fun b hb => (f3 b hb).1.1
  have fin0 : ∀ s' m H', Inv X pins σ H' s' → Q (.ref D) H' → s'.heap.Ns s3.heap.objs.size m → FpOk X pins H' s3.heap.objs.size → compPost (model X.prog X.w) X.A X.xe none (EP X pins σ Q) (.ref D) s3.heap.objs.size (.ok .next) s' := fun s' m H' I' q hn f => ⟨m, hn, fun h'' sb => by
    obtain ⟨f0, f1, f2, f3, f4, f5⟩ := f
    exact ⟨.ref D, H', I'.turned (t' := s'.toks) (fun b o hb e => (sb.2 b hb).trans e) f0 f1 f3 f4 f5, rfl, q⟩⟩
  show codeAny _ _ (.compStart (.DictComp kx vx (gens2 tg iter tg1 iter1) scope pos) 0 (.ref it) (.ref D) (compEnvC scope (cellsFrom (s3.heap.objs.size + 1) scope.names (cloFrom X.env.cells scope.names [])) s3.heap.objs.size X.env)) (compPost (model X.prog X.w) X.A X.xe none (EP X pins σ Q) (.ref D) s3.heap.objs.size) { s3 with heap := pushCells (s3.heap.push { cls := .type "dict", data := .dict #[] }) scope.names }
  generalize hce : compEnvC scope (cellsFrom (s3.heap.objs.size + 1) scope.names (cloFrom X.env.cells scope.names [])) s3.heap.objs.size X.env = ce at I4 pg pk pe pi1 pg1 ⊢
  have cL : ce.locals = s3.heap.objs.size := by subst hce; rfl
  generalize hH3 : upd H2 D (.dK []) = H3 at I3 I4 pg pk pe pi1 pg1 w0 nfp f3
  generalize hs4 : ({ s3 with heap := pushCells (s3.heap.push { cls := .type "dict", data := .dict #[] }) scope.names } : Shared) = s4 at I4 ⊢
  have st4 : tn 0 s4.heap := T.keep _ _ _ st3 fun b _ o e => by rw [← hs4]; exact pushCells_keeps _ _ _ _ (Heap.get?_push_of_some _ e)
  have stat : ∀ {σ' : L2.St} {H' : Hp} {s' : Shared}, Inv (X.blk s3 H3 scope ce fp) [] σ' H' s' → (∀ b ∈ fp, H' b = none) → ∀ b ∈ fp, FpOk (X.blk s3 H3 scope ce fp) [] H' b := fun {σ' H' s'} I' hn b hb =>
    ⟨hn b hb, (I'.ok.exf b hb).1, I'.ok.exfs b hb, .inl hb, fun x c e => (I'.ok.exf b hb).2 x c e, fun p hp => absurd (show p ∈ ([] : List (Addr × Obj)) ++ [] from hp) (by simp)⟩
  have loop : codeAny (model X.prog X.w) X.A (.compLoop (.DictComp kx vx (gens2 tg iter tg1 iter1) scope pos) 0 (.ref it) (.ref D) ce) (compPost (model X.prog X.w) X.A X.xe none (EP X pins σ Q) (.ref D) s3.heap.objs.size) s4 := by
    refine loop_out (hs1 ce) (fun n s' => ∃ i H', Inv (X.blk s3 H3 scope ce fp) [] (wipe σ (own.map (·.2))) H' s' ∧ tn i s'.heap ∧ (∀ b ∈ fp, H' b = none) ∧ W i n H') ?_ m0 ⟨0, H3, I4, st4, nfp, w0⟩
    rintro n s5 ⟨i, H5, I5, st5, n5, w5⟩
    rcases turn i n H5 w5 with ⟨stop, qq⟩ | ⟨go, Nx, hNx, step⟩
    · refine thnF (T.done (X.blk s3 H3 scope ce fp) rfl rfl rfl hc i [] s5 _ H5 (fun _ _ => False) I5 (stat I5 n5) st5 stop) fun r s6 ⟨hr, I6⟩ => ?_
      subst hr
      have I7 : Inv X pins σ H5 s6 := I3.call' (ch := fp) I6.os I6.base I6.hok I6.bare fun b hb => ⟨(f3 b hb).1.2.2.2.1, (f3 b hb).1.2.1, (f3 b hb).1.2.2.2.2.1, (f3 b hb).1.2.2.2.2.2⟩
      have nC : H5 s3.heap.objs.size = none := by
        have z : H5 ce.locals = none := I6.free
        rwa [cL] at z
      obtain ⟨m, hn, _⟩ := I6.loc
      have hn : s6.heap.Ns ce.locals m := hn
      rw [cL] at hn
      exact fin0 s6 m H5 I7 qq hn (I3.fpOk (Nat.le_refl _) nC)
    · refine thnF (T.item (X.blk s3 H3 scope ce fp) rfl rfl rfl hc i [] s5 _ H5 (fun _ _ => False) I5 (stat I5 n5) st5 go) fun r s6 ⟨u, hr, h6⟩ => ?_
      subst hr
      refine thnF h6 fun _ s7 ⟨x, H7, I7, r7, y7, st7, n7⟩ => ?_
      have I7' := I7.pinned (stat I7 n7) (T.obj _ _ st7)
      refine thnF (pg.run _ s7 _ H7 x u _ I7' r7 (step x H7 y7)) fun _ s8 ⟨σ8, H8, I8, hw8, q8⟩ => ?_
      have fin : ∀ {σ9 : L2.St} {s' : Shared} {H' : Hp}, Inv (X.blk s3 H3 scope ce fp) ([] ++ pinsAt fp s7.heap) σ9 H' s' → (wipe σ (own.map (·.2))).length = σ9.length → (∀ (j : Nat) v, (wipe σ (own.map (·.2)))[j]? = some (some v) → σ9[j]? = some (some v)) → Nx H' →
          ∃ m, m < n ∧ ∃ i H', Inv (X.blk s3 H3 scope ce fp) [] (wipe σ (own.map (·.2))) H' s' ∧ tn i s'.heap ∧ (∀ b ∈ fp, H' b = none) ∧ W i m H' := fun {σ9 s' H'} I' hl hk nx => by
        obtain ⟨m', hm, w'⟩ := hNx H' nx
        have pin' : ∀ b ∈ fp, ∀ o, s7.heap.get? b = some o → s'.heap.get? b = some o ∧ H' b = none := fun b hb o e =>
          let z := I'.pin (b, o) (List.mem_append_right _ (List.mem_append_right _ (mem_pinsAt hb e)))
          ⟨z.1, z.2.1⟩
        refine ⟨m', hm, i + 1, H', (I'.unpinned (pins := [])).weak hl hk, T.keep _ _ _ st7 fun b hb o e => (pin' b hb o e).1, fun b hb => ?_, w'⟩
        obtain ⟨o, e, _⟩ := T.obj _ _ st7 b hb
        exact (pin' b hb o e).2
      have hl8 : (wipe σ (own.map (·.2))).length = σ8.length := by rw [← hw8, wipe_length]
      have hk9 : ∀ (j : Nat) v, (wipe σ (own.map (·.2)))[j]? = some (some v) → (wipe σ8 vs1)[j]? = some (some v) := fun j v e => by
        rw [← hw8] at e
        obtain ⟨e1, e2⟩ := wipe_some e
        rw [wipe_out fun z => e2 (hv j z)]
        exact e1
      refine thnF (pi1.run _ s8 σ8 H8 _ I8 q8) fun xv s10 hx => thnF hx fun itv s11 h11 => ?_
      obtain ⟨it1, fp1, tn1, J1, H11, e1, I11, T1, st11, f11, W1, ⟨m1, w1⟩, turn1⟩ := h11
      subst e1
      have stat1 : ∀ {H' : Hp}, (∀ b ∈ fp1, H' b = none) → ∀ b ∈ fp1, FpOk (X.blk s3 H3 scope ce fp) ([] ++ pinsAt fp s7.heap) H' b := fun hn b hb => ⟨hn b hb, (f11 b hb).2⟩
      have loop1 : codeAny (model X.prog X.w) X.A (.compLoop (.DictComp kx vx (gens2 tg iter tg1 iter1) scope pos) 1 (.ref it1) (.ref D) ce)
          (fun r s' => match r with
            | .ok _ => ∃ m, m < n ∧ ∃ i H', Inv (X.blk s3 H3 scope ce fp) [] (wipe σ (own.map (·.2))) H' s' ∧ tn i s'.heap ∧ (∀ b ∈ fp, H' b = none) ∧ W i m H'
            | .error _ => False) s11 := by
        refine loop_in (fun k s' => ∃ j H', Inv (X.blk s3 H3 scope ce fp) ([] ++ pinsAt fp s7.heap) (wipe σ8 vs1) H' s' ∧ tn1 j s'.heap ∧ (∀ b ∈ fp1, H' b = none) ∧ W1 j k H') ?_ m1 ⟨0, H11, I11.weak (wipe_length _ _) (fun j v e => (wipe_some e).1), st11, fun b hb => (f11 b hb).1, w1⟩
        rintro k s12 ⟨j, H12, I12, st12, n12, w12⟩
        rcases turn1 j k H12 w12 with ⟨stop1, nx1⟩ | ⟨go1, Nx1, hNx1, step1⟩
        · refine thnF (T1.done (X.blk s3 H3 scope ce fp) rfl rfl rfl hc j _ s12 (wipe σ8 vs1) H12 (fun _ _ => False) I12 (stat1 n12) st12 stop1) fun r s13 ⟨hr, I13⟩ => ?_
          subst hr
          exact fin I13 (hl8.trans (wipe_length σ8 vs1).symm) hk9 nx1
        · refine thnF (T1.item (X.blk s3 H3 scope ce fp) rfl rfl rfl hc j _ s12 (wipe σ8 vs1) H12 (fun _ _ => False) I12 (stat1 n12) st12 go1) fun r s13 ⟨u1, hr, h13⟩ => ?_
          subst hr
          refine thnF h13 fun _ s14 ⟨x1, H14, I14, r14, y14, st14, n14⟩ => ?_
          have I14' := I14.pinned (stat1 n14) (T1.obj _ _ st14)
          refine thnF (pg1.run _ s14 (wipe σ8 vs1) H14 x1 u1 _ I14' r14 (step1 x1 H14 y14)) fun _ s15 ⟨σ15, H15, I15, hw15, q15⟩ => ?_
          have fin1 : ∀ {s' : Shared} {H' : Hp}, Inv (X.blk s3 H3 scope ce fp) (([] ++ pinsAt fp s7.heap) ++ pinsAt fp1 s14.heap) σ15 H' s' → Nx1 H' → ∃ m, m < k ∧ ∃ j H', Inv (X.blk s3 H3 scope ce fp) ([] ++ pinsAt fp s7.heap) (wipe σ8 vs1) H' s' ∧ tn1 j s'.heap ∧ (∀ b ∈ fp1, H' b = none) ∧ W1 j m H' := fun {s' H'} I' nx => by
            obtain ⟨m', hm, w'⟩ := hNx1 H' nx
            have pin' : ∀ b ∈ fp1, ∀ o, s14.heap.get? b = some o → s'.heap.get? b = some o ∧ H' b = none := fun b hb o e =>
              let z := I'.pin (b, o) (List.mem_append_right _ (List.mem_append_right _ (mem_pinsAt hb e)))
              ⟨z.1, z.2.1⟩
            refine ⟨m', hm, j + 1, H', I'.unpinned.weak (by rw [← hw15, wipe_length]) (fun j v e => by rw [← hw15] at e; exact (wipe_some e).1), T1.keep _ _ _ st14 fun b hb o e => (pin' b hb o e).1, fun b hb => ?_, w'⟩
            obtain ⟨o, e, _⟩ := T1.obj _ _ st14 b hb
            exact (pin' b hb o e).2
          refine thnF (pk.run _ s15 σ15 H15 _ I15 q15) fun z s16 ⟨yk, H16, I16, r16, q16⟩ => ?_
          refine thnF (pe.run _ s16 σ15 H16 _ I16 q16) fun z2 s17 ⟨yv, H17, I17, r17, kvs, ky, ek, hD17, hz17, nx⟩ => ?_
          subst ek
          exact d_dictSet (X := X.blk s3 H3 scope ce fp) I17 hD17 hz17 r16 r17 fun s18 I18 => fin1 I18 nx
      exact start_in loop1 (T1.self X.A 0 _ _ _ st11 loop1)
  exact codeAny_compStart_dict loop (T.self X.A 0 _ _ _ st4 loop)
end
end Fp

/-! A comprehension whose elements are made while the hand turns. -/
namespace Fp
open PySem L2
theorem lc_mutR {J : It} {n : Nat} {G : Hp → Prop} {Y : Nat → Hp → V → Hp → Prop} (w : Walk J n G Y) {f : Addr} {o0 : HO} {j : Nat} {te : TE} {vs : List Nat} {σ : St} {H1 : Hp} {Q : VK} (hf : H1 f = some o0) (hn : n ≤ sizeLine) (I : Hp → Prop) (h0 : I H1)
    (hI : ∀ H D o, H1 D = none → I H → I (upd H D o)) (hG : ∀ H, ExB f H1 H → I H → G H) (R : Nat → V → Hp → Prop) (hR : ∀ i y H H', ExB f H H' → I H → R i y H → R i y H') (hRu : ∀ i y H D ys zs, H D = some (.lst ys) → R i y H → R i y (upd H D (.lst zs))) (hw : ∀ x, wipe ((wipe σ vs).set j x) vs = wipe σ vs)
    (hs : ∀ i x H H' (K : VK), i < n → ExB f H1 H → I H → Y i H x H' → (∀ y H4, ExB f H H4 → I H4 → R i y H4 → K y H4) → te ((wipe σ vs).set j (some x)) H' K)
    (hd : ∀ D H' ys, H1 D = none → ExB f H1 H' → I H' → H' D = some (.lst ys) → ys.length = n → (∀ (i : Nat) (y : V), ys[i]? = some y → R i y H') → Q (.ref D) H') :
    LcG J (gName j) tYes te vs σ H1 Q := by
  intro D hD
  have hDf : D ≠ f := Ne.symm (ne_of_none hf hD)
  refine lc_it w (fun i H => ExB f H1 H ∧ I H ∧ ∃ ys, H D = some (.lst ys) ∧ ys.length = i ∧ ∀ i y, ys[i]? = some y → R i y H) ⟨(Ex.new hD).exb, hI _ _ _ hD h0, [], upd_same, rfl, fun _ _ h => nomatch h⟩ (fun i H _ p => hG H p.1 p.2.1) ?_ (fun H p => ?_)
  · rintro i x H H' hi ⟨e, hi1, ys, hacc, hl, hp⟩ hy
    refine ⟨hw _, ?_⟩
    unfold tYes
    dsimp only
    rw [if_pos rfl]
    refine hs i x H H' _ hi e hi1 hy fun z H4 e4 i4 pz => ⟨ys, e4 _ _ hDf hacc, by omega, ?_, hI _ _ _ hD i4, ys ++ [z], upd_same, by rw [List.length_append, hl]; rfl, fun k y hy => ?_⟩
    · exact fun a o hne q => by rw [upd_ne (ne_of_none q hD)]; exact e4 a o hne (e a o hne q)
    · refine hRu _ _ _ _ _ _ (e4 _ _ hDf hacc) ?_
      rcases Nat.lt_or_ge k ys.length with hk | hk
      · rw [List.getElem?_append_left hk] at hy
        exact hR _ _ _ _ e4 hi1 (hp k y hy)
      · rw [List.getElem?_append_right hk] at hy
        have hk2 : k - ys.length = 0 := by
          rcases Nat.eq_zero_or_pos (k - ys.length) with q | q
          · exact q
          · rw [List.getElem?_eq_none (by simp; omega)] at hy; cases hy
        rw [hk2] at hy
        obtain rfl : z = y := Option.some.inj hy
        have : k = i := by omega
        subst this
        exact pz
  · obtain ⟨e, hi, ys, h, hl, hp⟩ := p
    exact hd D H ys hD e hi h hl hp
/-- each is one of such: they are so in pairs -/
theorem paired_all {α β : Type} {F : α → β → Prop} {g : α → V} : ∀ {ys : List V}, (∀ (i : Nat) (y : V), ys[i]? = some y → ∃ a b, y = g a ∧ F a b) → ∃ as bs, ys = List.map g as ∧ Paired F as bs
  | [], _ => ⟨[], [], rfl, .nil⟩
  | y :: ys, h => by
    obtain ⟨a, b, rfl, hab⟩ := h 0 y rfl
    obtain ⟨as, bs, rfl, hp⟩ := paired_all (ys := ys) fun i z hz => h (i + 1) z hz
    exact ⟨a :: as, b :: bs, rfl, .cons hab hp⟩
end Fp

/-! First words, lengths, tops, plain bags. -/
namespace Fp
open PySem PySem.W
/-- the first word -/
def lead (s : Bg) : Str := ((ordW (keys s)).head?).getD ""
theorem ordW_cons {ws : List Str} (h : ws ≠ []) : ∃ w r, ordW ws = w :: r := by
  cases e : ordW ws with
  | nil =>
    have := ordW_len ws
    rw [e] at this
    exact absurd (List.length_eq_zero_iff.mp this.symm) h
  | cons w r => exact ⟨w, r, rfl⟩
theorem keys_ne {s : Bg} (h : s ≠ []) : keys s ≠ [] := fun e => h (List.map_eq_nil_iff.mp e)
theorem lead_head {s : Bg} (h : s ≠ []) : (ordW (keys s)).head? = some (lead s) := by
  obtain ⟨w, r, e⟩ := ordW_cons (keys_ne h)
  unfold lead
  rw [e]
  rfl
theorem lead_mem {s : Bg} (h : s ≠ []) : lead s ∈ keys s := by
  have h1 := lead_head h
  exact (ordW_perm _).mem_iff.mp (List.mem_of_head? h1)
theorem lead_le {s : Bg} {u : Str} (hu : u ∈ keys s) : leW (lead s) u = true := by
  have h : s ≠ [] := fun e => by subst e; cases hu
  have hs := ordW_sorted (keys s)
  have hm := (ordW_perm (keys s)).mem_iff.mpr hu
  unfold lead
  cases e : ordW (keys s) with
  | nil => rw [e] at hm; cases hm
  | cons w r =>
    rw [e] at hs hm
    rcases List.mem_cons.mp hm with z | z
    · subst z; exact (leW_total.total _ _).elim id id
    · exact (List.pairwise_cons.mp hs).1 u z
theorem head_cons_ord {ws : List Str} {m : Str} (h : (ordW ws).head? = some m) : m ∈ ws ∧ ∀ w ∈ ws, leW m w = true := by
  have hs := ordW_sorted ws
  refine ⟨(ordW_perm _).mem_iff.mp (List.mem_of_head? h), fun w hw => ?_⟩
  have hm := (ordW_perm ws).mem_iff.mpr hw
  cases e : ordW ws with
  | nil => rw [e] at hm; cases hm
  | cons x r =>
    rw [e] at hs hm h
    obtain rfl : x = m := Option.some.inj h
    rcases List.mem_cons.mp hm with z | z
    · subst z; exact (leW_total.total _ _).elim id id
    · exact (List.pairwise_cons.mp hs).1 w z
theorem lead_is {s : Bg} {m : Str} (h : m ∈ keys s) (hl : ∀ u ∈ keys s, leW m u = true) : lead s = m := leW_anti (lead_le h) (hl _ (lead_mem fun e => by subst e; cases h))
theorem leW_len {a b : Str} (h : leW a b = true) : b.length ≤ a.length := by
  rw [leW_eq] at h
  rcases of_decide_eq_true h with h | h <;> omega
theorem lead_len {s : Bg} {u : Str} (hu : u ∈ keys s) : u.length ≤ (lead s).length := leW_len (lead_le hu)
theorem str_len (a : Str) : a.cps.toList.length = a.length := by
  show a.cps.toList.length = a.cps.size
  rw [Array.length_toList]
theorem le_app {a b : List Nat} {c d : List Nat} (hl : a.length = c.length) (h1 : a ≤ c) (h2 : b ≤ d) : a ++ b ≤ c ++ d := by
  induction a generalizing c with
  | nil =>
    cases c with
    | nil => exact h2
    | cons x c => cases hl
  | cons y a ih =>
    cases c with
    | nil => cases hl
    | cons x c =>
      rw [List.cons_append, List.cons_append, List.cons_le_cons_iff]
      rcases List.cons_le_cons_iff.mp h1 with h | ⟨h, h3⟩
      · exact .inl h
      · exact .inr ⟨h, ih (by simpa using hl) h3⟩
theorem leW_app {a b c d : Str} (h1 : leW a c = true) (h2 : leW b d = true) : leW (a ++ b) (c ++ d) = true := by
  rw [leW_eq] at h1 h2 ⊢
  refine decide_eq_true ?_
  have k1 := of_decide_eq_true h1
  have k2 := of_decide_eq_true h2
  rw [len_app, len_app]
  by_cases e1 : c.length < a.length
  · left
    rcases k2 with k2 | k2 <;> omega
  · by_cases e2 : d.length < b.length
    · left
      rcases k1 with k1 | k1 <;> omega
    · right
      obtain ⟨l1, m1⟩ := k1.resolve_left e1
      obtain ⟨l2, m2⟩ := k2.resolve_left e2
      refine ⟨by omega, ?_⟩
      rw [app_toList, app_toList]
      exact le_app (by rw [str_len, str_len]; exact l1) m1 m2
theorem app_inj {a b c d : Str} (hl : a.length = c.length) (h : a ++ b = c ++ d) : a = c ∧ b = d := by
  have h1 : a.cps.toList ++ b.cps.toList = c.cps.toList ++ d.cps.toList := by rw [← app_toList, ← app_toList, h]
  have h2 := List.append_inj h1 (by rw [str_len, str_len]; exact hl)
  exact ⟨str_ext h2.1, str_ext h2.2⟩
/-- the coefficient of a product at the first words -/
theorem cvS_lead {s t : Bg} (hs : (keys s).Nodup) (ht : (keys t).Nodup) {a b : Str} (ha : ∀ u ∈ keys s, u.length ≤ a.length) (hb : ∀ u ∈ keys t, u.length ≤ b.length) : cvS s t (a ++ b) = cf s a * cf t b := by
  have e : cvS s t (a ++ b) = sumL s fun x => (if x.1 = a then x.2 else 0) * sumL t fun y => if y.1 = b then y.2 else 0 := by
    unfold cvS
    refine sumL_congr fun x hx => ?_
    rw [← sumL_mul]
    refine sumL_congr fun y hy => ?_
    have hxa := ha x.1 (mem_keys.mpr ⟨x.2, hx⟩)
    have hyb := hb y.1 (mem_keys.mpr ⟨y.2, hy⟩)
    by_cases h : x.1 ++ y.1 = a ++ b
    · have hl : x.1.length = a.length := by
        have := congrArg Str.length h
        rw [len_app, len_app] at this
        omega
      obtain ⟨e1, e2⟩ := app_inj hl h
      rw [if_pos h, if_pos e1, if_pos e2]
    · rw [if_neg h]
      by_cases e1 : x.1 = a
      · by_cases e2 : y.1 = b
        · exact absurd (by rw [e1, e2]) h
        · rw [if_neg e2, Int.mul_zero]
      · rw [if_neg e1, Int.zero_mul]
  rw [e, sumL_mulr, sum_ind hs, sum_ind ht]
/-- the clocks -/
def Prm (p : Int) : Prop := p = 2 ∨ p = 3 ∨ p = 5 ∨ p = 7
theorem Prm.pos {p : Int} (h : Prm p) : 1 < p := by rcases h with rfl | rfl | rfl | rfl <;> decide
theorem rng_cases {x p : Int} (h0 : 0 < x) (h1 : x < p) (hp : p ≤ 7) : x = 1 ∨ x = 2 ∨ x = 3 ∨ x = 4 ∨ x = 5 ∨ x = 6 := by omega
theorem prm_mul {p x y : Int} (hp : Prm p) (hx : 0 < x) (hx1 : x < p) (hy : 0 < y) (hy1 : y < p) : 0 < x * y % p := by
  have h7 : p ≤ 7 := by rcases hp with rfl | rfl | rfl | rfl <;> decide
  rcases hp with rfl | rfl | rfl | rfl <;> rcases rng_cases hx hx1 h7 with rfl | rfl | rfl | rfl | rfl | rfl <;> rcases rng_cases hy hy1 h7 with rfl | rfl | rfl | rfl | rfl | rfl <;> first | decide | omega
/-- the inverse, as the program reckons it -/
def powM (p x : Int) : Nat → Int
  | 0 => 1
  | n + 1 => powM p x n * x % p
def inv (p x : Int) : Int := powM p x (p - 2).toNat
theorem inv_one {p x : Int} (hp : Prm p) (hx : 0 < x) (hx1 : x < p) : inv p x * x % p = 1 ∧ 0 < inv p x ∧ inv p x < p := by
  have h7 : p ≤ 7 := by rcases hp with rfl | rfl | rfl | rfl <;> decide
  rcases hp with rfl | rfl | rfl | rfl <;> rcases rng_cases hx hx1 h7 with rfl | rfl | rfl | rfl | rfl | rfl <;> first | decide | omega
theorem inv_uniq {p x n : Int} (hp : Prm p) (hx : 0 < x) (hx1 : x < p) (hn : 0 < n) (hn1 : n < p) (h : n * x % p = 1) : n = inv p x := by
  have h7 : p ≤ 7 := by rcases hp with rfl | rfl | rfl | rfl <;> decide
  rcases hp with rfl | rfl | rfl | rfl <;> rcases rng_cases hx hx1 h7 with rfl | rfl | rfl | rfl | rfl | rfl <;> rcases rng_cases hn hn1 h7 with rfl | rfl | rfl | rfl | rfl | rfl <;> first | rfl | omega | (revert h; decide)
theorem inv_mul {p x y : Int} (hp : Prm p) (hx : 0 < x) (hx1 : x < p) (hy : 0 < y) (hy1 : y < p) : inv p (x * y % p) % p = inv p x * inv p y % p := by
  have h7 : p ≤ 7 := by rcases hp with rfl | rfl | rfl | rfl <;> decide
  rcases hp with rfl | rfl | rfl | rfl <;> rcases rng_cases hx hx1 h7 with rfl | rfl | rfl | rfl | rfl | rfl <;> rcases rng_cases hy hy1 h7 with rfl | rfl | rfl | rfl | rfl | rfl <;> first | decide | omega
section
variable {p : Int} {s t : Bg}
theorem cf_pos_of {w : Str} (g : Good p s) (h : w ∈ keys s) : 0 < cf s w := by
  obtain ⟨n, hn⟩ := mem_keys.mp h
  rw [cf_of_mem g.nd hn]
  exact g.lo _ hn
theorem cf_lt_of {w : Str} (hp : 0 < p) (g : Good p s) : cf s w < p := cf_lt hp g w
theorem prod_lead (hp : Prm p) (gs : Good p s) (gt : Good p t) (hs : s ≠ []) (ht : t ≠ []) : lead s ++ lead t ∈ keys (prodS p s t) ∧ lead (prodS p s t) = lead s ++ lead t ∧ cf (prodS p s t) (lead s ++ lead t) = cf s (lead s) * cf t (lead t) % p := by
  have hp0 : 0 < p := by have := hp.pos; omega
  have e1 : cf (prodS p s t) (lead s ++ lead t) = cf s (lead s) * cf t (lead t) % p := by
    rw [cf_prod hp0, cvS_lead gs.nd gt.nd (fun u hu => lead_len hu) (fun u hu => lead_len hu)]
  have hm : lead s ++ lead t ∈ keys (prodS p s t) := by
    rw [cf_ne (Good.prod hp0 s t), e1]
    have := prm_mul hp (cf_pos_of gs (lead_mem hs)) (cf_lt_of hp0 gs) (cf_pos_of gt (lead_mem ht)) (cf_lt_of hp0 gt)
    exact (Int.ne_of_lt this).symm
  refine ⟨hm, lead_is hm fun u hu => ?_, e1⟩
  obtain ⟨a, ha, b, hb, rfl⟩ := keys_prod hu
  exact leW_app (lead_le ha) (lead_le hb)
theorem prod_ne (hp : Prm p) (gs : Good p s) (gt : Good p t) (hs : s ≠ []) (ht : t ≠ []) : prodS p s t ≠ [] := fun e => by
  have := (prod_lead hp gs gt hs ht).1
  rw [e] at this
  cases this
/-! ### words of one length -/
def sizedS (s : Bg) (n : Int) : Bg := s.filter fun kv => decide ((kv.1.length : Int) = n)
/-- the length -/
def sizeS (s : Bg) : Int := if s = [] then -1 else (lead s).length
theorem Good.sized (g : Good p s) (n : Int) : Good p (sizedS s n) := ⟨by
    unfold sizedS keys
    exact (List.filter_sublist.map _).nodup g.nd, fun kv h => g.lo kv (List.mem_filter.mp h).1, fun kv h => g.hi kv (List.mem_filter.mp h).1⟩
theorem sumL_filter {α : Type} (l : List α) (q : α → Bool) (f : α → Int) : sumL (l.filter q) f = sumL l fun a => if q a = true then f a else 0 := by
  induction l with
  | nil => rfl
  | cons a l ih =>
    rw [List.filter_cons, sumL_cons]
    by_cases h : q a = true
    · rw [if_pos h, if_pos h, sumL_cons, ih]
    · rw [if_neg h, if_neg h, ih, Int.zero_add]
theorem cf_sized (hn : (keys s).Nodup) (n : Int) (w : Str) : cf (sizedS s n) w = if (w.length : Int) = n then cf s w else 0 := by
  have hn2 : (keys (sizedS s n)).Nodup := by
    unfold sizedS keys
    exact (List.filter_sublist.map _).nodup hn
  rw [← sum_ind hn2 w]
  unfold sizedS
  rw [sumL_filter]
  by_cases h : (w.length : Int) = n
  · rw [if_pos h, ← sum_ind hn w]
    refine sumL_congr fun a ha => ?_
    by_cases e : a.1 = w
    · rw [if_pos e, e, if_pos (decide_eq_true h)]
    · rw [if_neg e, ite_self]
  · rw [if_neg h]
    refine sumL_zero fun a ha => ?_
    by_cases e : a.1 = w
    · rw [e, if_neg (by rw [decide_eq_false h]; exact Bool.false_ne_true)]
    · rw [if_neg e, ite_self]
theorem top_prod (hp : Prm p) (gs : Good p s) (gt : Good p t) (hs : s ≠ []) (ht : t ≠ []) : Eqv (sizedS (prodS p s t) (sizeS (prodS p s t))) (prodS p (sizedS s (sizeS s)) (sizedS t (sizeS t))) := fun l => by
  have hp0 : 0 < p := by have := hp.pos; omega
  obtain ⟨_, e1, _⟩ := prod_lead hp gs gt hs ht
  unfold cl
  rw [cf_sized (Good.prod hp0 s t).nd, cf_prod hp0, cf_prod hp0]
  unfold sizeS
  rw [if_neg hs, if_neg ht, if_neg (prod_ne hp gs gt hs ht), e1, len_app]
  have e : cvS (sizedS s (lead s).length) (sizedS t (lead t).length) (ofL l) = if ((ofL l).length : Int) = ((lead s).length + (lead t).length : Nat) then cvS s t (ofL l) else 0 := by
    unfold cvS sizedS
    rw [sumL_filter]
    have e2 : ∀ x ∈ s, (if decide ((x.1.length : Int) = (lead s).length) = true then sumL (t.filter fun kv => decide ((kv.1.length : Int) = (lead t).length)) (fun b => if x.1 ++ b.1 = ofL l then x.2 * b.2 else 0) else 0) =
        if ((ofL l).length : Int) = ((lead s).length + (lead t).length : Nat) then sumL t (fun b => if x.1 ++ b.1 = ofL l then x.2 * b.2 else 0) else 0 := by
      intro x hx
      have hxl := lead_len (mem_keys.mpr ⟨x.2, hx⟩)
      rw [sumL_filter]
      by_cases h : ((ofL l).length : Int) = ((lead s).length + (lead t).length : Nat)
      · rw [if_pos h]
        by_cases h2 : (x.1.length : Int) = (lead s).length
        · rw [if_pos (decide_eq_true h2)]
          refine sumL_congr fun y hy => ?_
          by_cases h3 : x.1 ++ y.1 = ofL l
          · have h4 := congrArg Str.length h3
            rw [len_app] at h4
            rw [if_pos (decide_eq_true (by omega))]
          · rw [if_neg h3, ite_self]
        · rw [if_neg (by rw [decide_eq_false h2]; exact Bool.false_ne_true)]
          refine (sumL_zero fun y hy => ?_).symm
          have hyl := lead_len (mem_keys.mpr ⟨y.2, hy⟩)
          refine if_neg fun h3 => ?_
          have h4 := congrArg Str.length h3
          rw [len_app] at h4
          omega
      · rw [if_neg h]
        by_cases h2 : (x.1.length : Int) = (lead s).length
        · rw [if_pos (decide_eq_true h2)]
          refine sumL_zero fun y hy => ?_
          by_cases h3 : x.1 ++ y.1 = ofL l
          · have h4 := congrArg Str.length h3
            rw [len_app] at h4
            rw [if_neg]
            intro h5
            have := of_decide_eq_true h5
            omega
          · rw [if_neg h3, ite_self]
        · rw [if_neg (by rw [decide_eq_false h2]; exact Bool.false_ne_true)]
    rw [sumL_congr e2]
    by_cases h : ((ofL l).length : Int) = ((lead s).length + (lead t).length : Nat)
    · simp only [if_pos h]
    · simp only [if_neg h]
      exact sumL_zero fun _ _ => rfl
  rw [e]
  split
  · rfl
  · exact (Int.zero_emod p).symm
/-! ### plain bags -/
def plainS (p : Int) (s : Bg) : Bg := plusS p [] s (inv p (cf s (lead s)))
theorem cf_plain (hp : 0 < p) (hn : (keys s).Nodup) (w : Str) : cf (plainS p s) w = inv p (cf s (lead s)) * cf s w % p := by
  unfold plainS
  rw [cf_plus hp Good.nil hn, cf_nil, Int.zero_add]
theorem plain_prod (hp : Prm p) (gs : Good p s) (gt : Good p t) (hs : s ≠ []) (ht : t ≠ []) : Eqv (plainS p (prodS p s t)) (prodS p (plainS p s) (plainS p t)) := fun l => by
  have hp0 : 0 < p := by have := hp.pos; omega
  obtain ⟨_, e1, e2⟩ := prod_lead hp gs gt hs ht
  have gps : Good p (plainS p s) := Good.plus hp0 Good.nil s
  have gpt : Good p (plainS p t) := Good.plus hp0 Good.nil t
  have h1 : cl (plainS p (prodS p s t)) l = inv p (cf s (lead s) * cf t (lead t) % p) * cl (prodS p s t) l % p := by
    unfold cl
    rw [cf_plain hp0 (Good.prod hp0 s t).nd, e1, e2]
  rw [h1, cl_prod hp0 gs.nd gt.nd, cl_prod hp0 gps.nd gpt.nd]
  have h2 : conv (cl (plainS p s)) (cl (plainS p t)) l % p = conv (fun v => inv p (cf s (lead s)) * cl s v) (fun v => inv p (cf t (lead t)) * cl t v) l % p := conv_mod (fun v => by
      unfold cl
      rw [cf_plain hp0 gs.nd, Int.emod_emod_of_dvd _ (Int.dvd_refl p)]) (fun v => by
      unfold cl
      rw [cf_plain hp0 gt.nd, Int.emod_emod_of_dvd _ (Int.dvd_refl p)]) l
  rw [h2, conv_mull, conv_mulr, ← Int.mul_assoc]
  have h3 := inv_mul hp (cf_pos_of gs (lead_mem hs)) (cf_lt_of hp0 gs) (cf_pos_of gt (lead_mem ht)) (cf_lt_of hp0 gt)
  rw [Int.mul_emod, h3, Int.emod_emod_of_dvd _ (Int.dvd_refl p), ← Int.mul_emod]
end
end Fp

/-! Dividing: what stands behind a front. -/
namespace Fp
open PySem PySem.W
/-! ### a bag with a word behind it -/
def withB (F : Bg) (t : Str) : Bg := F.map fun kv => (kv.1 ++ t, kv.2)
theorem app_cancel {a b t : Str} (h : a ++ t = b ++ t) : a = b := by
  have h1 : a.cps.toList ++ t.cps.toList = b.cps.toList ++ t.cps.toList := by rw [← app_toList, ← app_toList, h]
  exact str_ext (List.append_cancel_right h1)
theorem app_cancel_l {a b t : Str} (h : t ++ a = t ++ b) : a = b := by
  have h1 : t.cps.toList ++ a.cps.toList = t.cps.toList ++ b.cps.toList := by rw [← app_toList, ← app_toList, h]
  exact str_ext (List.append_cancel_left h1)
theorem withB_keys (F : Bg) (t : Str) : keys (withB F t) = (keys F).map fun u => u ++ t := by
  unfold withB keys
  rw [List.map_map, List.map_map]
  rfl
theorem withB_nodup {F : Bg} {t : Str} (h : (keys F).Nodup) : (keys (withB F t)).Nodup := by
  rw [withB_keys]
  exact List.Pairwise.map _ (fun a b q e => q (app_cancel e)) h
theorem withB_one {p : Int} {F : Bg} (t : Str) (hp : 0 < p) (g : Good p F) : (F.map fun kv => (kv.1 ++ t, kv.2 * 1 % p)) = withB F t := by
  unfold withB
  refine List.map_congr_left fun kv h => ?_
  have h1 := g.lo kv h
  have h2 := g.hi kv h
  rw [Int.mul_one, Int.emod_eq_of_lt (by omega) h2]
theorem addTo_new {p : Int} {s : Bg} {w : Str} {n : Int} (h : w ∉ keys s) (h0 : 0 < n) (h1 : n < p) : addTo p s w n = s ++ [(w, n)] := by
  unfold addTo
  have e : cf s w = 0 := cf_not_mem h
  have e2 : (cf s w + n) % p = n := by rw [e, Int.zero_add, Int.emod_eq_of_lt (by omega) h1]
  rw [e2, if_neg (by omega)]
  unfold putS
  rw [if_neg]
  intro z
  rw [List.any_eq_true] at z
  obtain ⟨kv, q1, q2⟩ := z
  exact h (mem_keys.mpr ⟨kv.2, by rw [← of_decide_eq_true q2]; exact q1⟩)
theorem fold_new {p : Int} {t : Str} : ∀ (l acc : Bg), (keys l).Nodup → (∀ kv ∈ l, 0 < kv.2 ∧ kv.2 < p) → (∀ u ∈ keys l, u ++ t ∉ keys acc) → l.foldl (fun acc a => prodRow p acc a [(t, 1)]) acc = acc ++ withB l t
  | [], acc, _, _, _ => (List.append_nil acc).symm
  | a :: l, acc, hn, hv, hd => by
    have hn2 := List.nodup_cons.mp (show (a.1 :: keys l).Nodup from hn)
    have ha := hv a List.mem_cons_self
    have e1 : prodRow p acc a [(t, 1)] = acc ++ [(a.1 ++ t, a.2)] := by
      show addTo p acc (a.1 ++ t) (a.2 * 1) = _
      rw [Int.mul_one]
      exact addTo_new (hd a.1 (show a.1 ∈ a.1 :: keys l from List.mem_cons_self)) ha.1 ha.2
    rw [List.foldl_cons, e1, fold_new l _ hn2.2 (fun kv h => hv kv (List.mem_cons_of_mem _ h)) (fun u hu hm => ?_), List.append_assoc]
    · rfl
    · unfold keys at hm
      rw [List.map_append, List.mem_append] at hm
      rcases hm with hm | hm
      · exact hd u (show u ∈ a.1 :: keys l from List.mem_cons_of_mem _ hu) hm
      · have e := List.mem_singleton.mp hm
        have e2 := app_cancel e
        rw [e2] at hu
        exact hn2.1 hu
theorem prod_word {p : Int} {F : Bg} (t : Str) (g : Good p F) : prodS p F [(t, 1)] = withB F t := by
  unfold prodS
  rw [fold_new F [] g.nd (fun kv h => ⟨g.lo kv h, g.hi kv h⟩) (fun _ _ h => nomatch h)]
  rfl
theorem withB_good {p : Int} {F : Bg} {t : Str} (g : Good p F) : Good p (withB F t) := ⟨withB_nodup g.nd, fun kv h => by
    obtain ⟨q, hq, rfl⟩ := List.mem_map.mp h
    exact g.lo q hq, fun kv h => by
    obtain ⟨q, hq, rfl⟩ := List.mem_map.mp h
    exact g.hi q hq⟩
theorem cf_withB {F : Bg} {t u : Str} (hn : (keys F).Nodup) : cf (withB F t) (u ++ t) = cf F u := by
  by_cases h : u ∈ keys F
  · obtain ⟨n, hm⟩ := mem_keys.mp h
    rw [cf_of_mem hn hm, cf_of_mem (withB_nodup hn) (n := n) (List.mem_map.mpr ⟨(u, n), hm, rfl⟩)]
  · rw [cf_not_mem h, cf_not_mem]
    rw [withB_keys]
    intro z
    obtain ⟨v, hv, e⟩ := List.mem_map.mp z
    exact h (by rw [← app_cancel e]; exact hv)
theorem withB_len (F : Bg) (t : Str) : (withB F t).length = F.length := List.length_map _
/-! ### numbers -/
theorem step_zero {p l x : Int} (hp : Prm p) (hl : 0 < l) (hl1 : l < p) (hx : 0 < x) (hx1 : x < p) : (l + (-(l * inv p x % p)) * x) % p = 0 ∧ 0 < l * inv p x % p ∧ l * inv p x % p < p := by
  have h7 : p ≤ 7 := by rcases hp with rfl | rfl | rfl | rfl <;> decide
  rcases hp with rfl | rfl | rfl | rfl <;> rcases rng_cases hl hl1 h7 with rfl | rfl | rfl | rfl | rfl | rfl <;> rcases rng_cases hx hx1 h7 with rfl | rfl | rfl | rfl | rfl | rfl <;> first | decide | omega
theorem step_only {p l x k : Int} (hp : Prm p) (hl : 0 < l) (hl1 : l < p) (hx : 0 < x) (hx1 : x < p) (hk : 0 < k) (hk1 : k < p) : (k * x - l) % p = 0 ↔ k = l * inv p x % p := by
  have h7 : p ≤ 7 := by rcases hp with rfl | rfl | rfl | rfl <;> decide
  rcases hp with rfl | rfl | rfl | rfl <;> rcases rng_cases hl hl1 h7 with rfl | rfl | rfl | rfl | rfl | rfl <;> rcases rng_cases hx hx1 h7 with rfl | rfl | rfl | rfl | rfl | rfl <;> rcases rng_cases hk hk1 h7 with rfl | rfl | rfl | rfl | rfl | rfl <;> first | decide | omega
theorem step_back {p c x : Int} (hp : Prm p) (hc : 0 < c) (hc1 : c < p) (hx : 0 < x) (hx1 : x < p) : (x * c % p) * inv p x % p = c := by
  have h7 : p ≤ 7 := by rcases hp with rfl | rfl | rfl | rfl <;> decide
  rcases hp with rfl | rfl | rfl | rfl <;> rcases rng_cases hc hc1 h7 with rfl | rfl | rfl | rfl | rfl | rfl <;> rcases rng_cases hx hx1 h7 with rfl | rfl | rfl | rfl | rfl | rfl <;> first | decide | omega
/-! ### the words of so many letters x, y, z -/
def allL : Nat → List (List Nat)
  | 0 => [[]]
  | n + 1 => [] :: ((allL n).map (120 :: ·) ++ ((allL n).map (121 :: ·) ++ (allL n).map (122 :: ·)))
def lenU : Nat → Nat
  | 0 => 1
  | n + 1 => 1 + (lenU n + (lenU n + lenU n))
theorem allL_len : ∀ n, (allL n).length = lenU n
  | 0 => rfl
  | n + 1 => by
    unfold allL lenU
    rw [List.length_cons, List.length_append, List.length_append, List.length_map, List.length_map, List.length_map, allL_len n]
    omega
def Ltr (l : List Nat) : Prop := ∀ c ∈ l, c = 120 ∨ c = 121 ∨ c = 122
theorem mem_allL : ∀ (n : Nat) (l : List Nat), l.length ≤ n → Ltr l → l ∈ allL n
  | 0, [], _, _ => List.mem_singleton.mpr rfl
  | 0, c :: l, h, _ => absurd h (by simp)
  | n + 1, [], _, _ => List.mem_cons_self
  | n + 1, c :: l, h, hl => by
    have ih := mem_allL n l (by simp at h; omega) fun d hd => hl d (List.mem_cons_of_mem _ hd)
    unfold allL
    refine List.mem_cons_of_mem _ ?_
    rcases hl c List.mem_cons_self with rfl | rfl | rfl
    · exact List.mem_append_left _ (List.mem_map.mpr ⟨l, ih, rfl⟩)
    · exact List.mem_append_right _ (List.mem_append_left _ (List.mem_map.mpr ⟨l, ih, rfl⟩))
    · exact List.mem_append_right _ (List.mem_append_right _ (List.mem_map.mpr ⟨l, ih, rfl⟩))
def allW (n : Nat) : List Str := (allL n).map ofL
/-- words of at most so many letters -/
def Bd (n : Nat) (s : Bg) : Prop := ∀ u ∈ keys s, u.length ≤ n ∧ Ltr u.cps.toList
theorem mem_allW {n : Nat} {w : Str} (h : w.length ≤ n) (hl : Ltr w.cps.toList) : w ∈ allW n :=
  List.mem_map.mpr ⟨w.cps.toList, mem_allL n _ (by rw [str_len]; exact h) hl, ofL_toList w⟩
theorem len_sub {α : Type} [DecidableEq α] : ∀ {l m : List α}, l.Nodup → (∀ x ∈ l, x ∈ m) → l.length ≤ m.length
  | [], _, _, _ => Nat.zero_le _
  | a :: l, m, hn, hs => by
    have hn2 := List.nodup_cons.mp hn
    have ha := hs a List.mem_cons_self
    have h1 := len_sub (l := l) (m := m.erase a) hn2.2 fun x hx => by
      have hne : x ≠ a := fun e => by subst e; exact hn2.1 hx
      exact (List.mem_erase_of_ne hne).mpr (hs x (List.mem_cons_of_mem _ hx))
    rw [List.length_erase_of_mem ha] at h1
    have := List.length_pos_of_mem ha
    rw [List.length_cons]
    omega
theorem Bd.len {n : Nat} {s : Bg} (hn : (keys s).Nodup) (h : Bd n s) : s.length ≤ lenU n := by
  have h1 := len_sub hn (m := allW n) fun u hu => mem_allW (h u hu).1 (h u hu).2
  unfold allW at h1
  rw [List.length_map, allL_len] at h1
  unfold keys at h1
  rw [List.length_map] at h1
  exact h1
theorem filter_le {α : Type} {p q : α → Bool} (h : ∀ x, q x = true → p x = true) : ∀ l : List α, (l.filter q).length ≤ (l.filter p).length
  | [] => Nat.le_refl _
  | a :: l => by
    have ih := filter_le h l
    rw [List.filter_cons, List.filter_cons]
    cases hq : q a with
    | true => rw [h a hq, if_pos rfl, if_pos rfl, List.length_cons, List.length_cons]; omega
    | false =>
      rw [if_neg Bool.false_ne_true]
      split
      · rw [List.length_cons]; omega
      · exact ih
theorem filter_lt {α : Type} {p q : α → Bool} (h : ∀ x, q x = true → p x = true) {a : α} (hp : p a = true) (hq : q a = false) : ∀ l : List α, a ∈ l → (l.filter q).length < (l.filter p).length
  | [], hm => nomatch hm
  | b :: l, hm => by
    have ih2 := filter_le h l
    rw [List.filter_cons, List.filter_cons]
    rcases List.mem_cons.mp hm with e | hm2
    · subst e
      rw [hp, hq, if_neg Bool.false_ne_true, if_pos rfl, List.length_cons]
      omega
    · have ih := filter_lt h hp hq l hm2
      cases hqb : q b with
      | true => rw [h b hqb, if_pos rfl, if_pos rfl, List.length_cons, List.length_cons]; omega
      | false =>
        rw [if_neg Bool.false_ne_true]
        split
        · rw [List.length_cons]; omega
        · exact ih
/-- how many words are not ahead of the first word -/
def mu (n : Nat) (L : Bg) : Nat := if L = [] then 0 else ((allW n).filter fun u => leW (lead L) u).length
theorem leW_refl (a : Str) : leW a a = true := (leW_total.total _ _).elim id id
theorem mu_lt {n : Nat} {L L' : Bg} (hL : L ≠ []) (hb : Bd n L) (h : L' ≠ [] → leW (lead L) (lead L') = true ∧ lead L ≠ lead L') : mu n L' < mu n L := by
  have hm := hb _ (lead_mem hL)
  have hin := mem_allW hm.1 hm.2
  unfold mu
  rw [if_neg hL]
  by_cases e : L' = []
  · rw [if_pos e]
    exact List.length_pos_of_mem (List.mem_filter.mpr ⟨hin, leW_refl _⟩)
  · rw [if_neg e]
    obtain ⟨h1, h2⟩ := h e
    refine filter_lt (p := fun u => leW (lead L) u) (q := fun u => leW (lead L') u) (fun u hu => leW_total.trans _ _ _ h1 hu) (a := lead L) (leW_refl _) ?_ _ hin
    show leW (lead L') (lead L) = false
    cases q : leW (lead L') (lead L) with
    | false => rfl
    | true => exact absurd (leW_anti h1 q) h2
/-! ### dividing -/
def divK (p : Int) (F L : Bg) : Int := cf L (lead L) * inv p (cf F (lead F)) % p
def divL (p : Int) (F L : Bg) (t : Str) : Bg := plusS p L (withB F t) (-(divK p F L))
inductive DivR (p : Int) (F : Bg) : Bg → Bg → Option Bg → Prop
  | done {f : Bg} : DivR p F [] f (some f)
  | stop {L f : Bg} : L ≠ [] → (¬ ∃ t, lead L = lead F ++ t) → DivR p F L f none
  | step {L f : Bg} {r : Option Bg} {t : Str} : L ≠ [] → lead L = lead F ++ t → DivR p F (divL p F L t) (putS f t (divK p F L)) r → DivR p F L f r
section
variable {p : Int} {F L : Bg} {t : Str}
theorem divK_bd (hp : Prm p) (gF : Good p F) (gL : Good p L) (hF : F ≠ []) (hL : L ≠ []) : 0 < divK p F L ∧ divK p F L < p := by
  have hp0 : 0 < p := by have := hp.pos; omega
  exact (step_zero hp (cf_pos_of gL (lead_mem hL)) (cf_lt_of hp0 gL) (cf_pos_of gF (lead_mem hF)) (cf_lt_of hp0 gF)).2
theorem divL_good (hp : Prm p) (gL : Good p L) : Good p (divL p F L t) := Good.plus (by have := hp.pos; omega) gL _
theorem divL_keys {u : Str} (h : u ∈ keys (divL p F L t)) : u ∈ keys L ∨ ∃ v ∈ keys F, u = v ++ t := by
  rcases keys_plus h with h | h
  · exact .inl h
  · rw [withB_keys] at h
    obtain ⟨v, hv, rfl⟩ := List.mem_map.mp h
    exact .inr ⟨v, hv, rfl⟩
theorem divL_bd {n : Nat} (hF : Bd n F) (hL : Bd n L) (hne : L ≠ []) (ht : lead L = lead F ++ t) : Bd n (divL p F L t) := fun u hu => by
  rcases divL_keys hu with h | ⟨v, hv, rfl⟩
  · exact hL u h
  · have h1 := hL _ (lead_mem hne)
    have h2 := lead_len hv
    rw [ht, len_app, app_toList] at h1
    rw [len_app, app_toList]
    refine ⟨by omega, fun c hc => ?_⟩
    rcases List.mem_append.mp hc with hc | hc
    · exact (hF v hv).2 c hc
    · exact h1.2 c (List.mem_append_right _ hc)
theorem divL_lead (hp : Prm p) (gF : Good p F) (gL : Good p L) (hF : F ≠ []) (hne : L ≠ []) (ht : lead L = lead F ++ t) : divL p F L t ≠ [] → leW (lead L) (lead (divL p F L t)) = true ∧ lead L ≠ lead (divL p F L t) := fun h => by
  have hp0 : 0 < p := by have := hp.pos; omega
  have hm := lead_mem h
  refine ⟨?_, fun e => ?_⟩
  · rcases divL_keys hm with q | ⟨v, hv, q⟩
    · exact lead_le q
    · rw [q, ht]
      exact leW_app (lead_le hv) (leW_refl _)
  · rw [← e, cf_ne (divL_good hp gL)] at hm
    refine hm ?_
    unfold divL
    rw [cf_plus hp0 gL (withB_nodup gF.nd)]
    have e2 : cf (withB F t) (lead L) = cf F (lead F) := by rw [ht]; exact cf_withB gF.nd
    rw [e2]
    exact (step_zero hp (cf_pos_of gL (lead_mem hne)) (cf_lt_of hp0 gL) (cf_pos_of gF (lead_mem hF)) (cf_lt_of hp0 gF)).1
theorem divL_mu {n : Nat} (hp : Prm p) (gF : Good p F) (gL : Good p L) (hF : F ≠ []) (hne : L ≠ []) (hb : Bd n L) (ht : lead L = lead F ++ t) : mu n (divL p F L t) < mu n L := mu_lt hne hb (divL_lead hp gF gL hF hne ht)
theorem DivR.det {f : Bg} {r r' : Option Bg} (h : DivR p F L f r) (h' : DivR p F L f r') : r = r' := by
  induction h with
  | done => cases h' with
    | done => rfl
    | stop q _ => exact absurd rfl q
    | step q _ _ => exact absurd rfl q
  | stop q1 q2 => cases h' with
    | done => exact absurd rfl q1
    | stop _ _ => rfl
    | step _ q3 _ => exact absurd ⟨_, q3⟩ q2
  | step q1 q2 _ ih => cases h' with
    | done => exact absurd rfl q1
    | stop _ q3 => exact absurd ⟨_, q2⟩ q3
    | step _ q3 q4 =>
      have e := app_cancel_l (q2.symm.trans q3)
      subst e
      exact ih q4
theorem eqv_nil {s : Bg} (g : Good p s) (h : Eqv s []) : s = [] := by
  cases s with
  | nil => rfl
  | cons q r =>
    have h1 := h q.1.cps.toList
    have hm : q.1 ∈ keys (q :: r) := List.mem_cons_self
    rw [cf_ne g] at hm
    unfold cl at h1
    rw [ofL_toList] at h1
    exact absurd h1 hm
theorem eqv_cf {s t : Bg} (h : Eqv s t) (w : Str) : cf s w = cf t w := by
  have := h w.cps.toList
  unfold cl at this
  rwa [ofL_toList] at this
theorem eqv_lead {s t : Bg} (gs : Good p s) (gt : Good p t) (h : Eqv s t) : lead s = lead t := by
  unfold lead
  rw [ordW_congr (keys_perm gs gt (eqv_cf h))]
theorem DivR.congr {f : Bg} {r : Option Bg} (hp : Prm p) (gF : Good p F) (h : DivR p F L f r) : ∀ {M : Bg}, Good p L → Good p M → Eqv L M → DivR p F M f r := by
  have hp0 : 0 < p := by have := hp.pos; omega
  induction h with
  | done =>
    intro M gL gM e
    rw [eqv_nil gM e.symm]
    exact .done
  | stop q1 q2 =>
    intro M gL gM e
    exact .stop (fun z => q1 (by subst z; exact eqv_nil gL e)) (by rw [← eqv_lead gL gM e]; exact q2)
  | @step L f r t q1 q2 _ ih =>
    intro M gL gM e
    have el := eqv_lead gL gM e
    have ek : divK p F M = divK p F L := by unfold divK; rw [← el, eqv_cf e]
    refine .step (t := t) (fun z => q1 (by subst z; exact eqv_nil gL e)) (by rw [← el]; exact q2) ?_
    rw [ek]
    refine ih (divL_good hp gL) (divL_good hp gM) ?_
    unfold divL
    rw [ek]
    exact plus_congr hp0 gL (withB_nodup gF.nd) gM (withB_nodup gF.nd) _ e (Eqv.refl _)
/-- of a product: the second bag is found -/
theorem DivR.planted {f : Bg} {r : Option Bg} (hp : Prm p) (gF : Good p F) (hF : F ≠ []) (h : DivR p F L f r) : ∀ {R : Bg}, Good p L → Good p R → Good p f → Eqv L (prodS p F R) → (∀ u ∈ keys R, u ∉ keys f) → ∃ f', r = some f' ∧ Good p f' ∧ ∀ w, cf f' w = cf f w + cf R w := by
  have hp0 : 0 < p := by have := hp.pos; omega
  induction h with
  | @done f =>
    intro R gL gR gf e hd
    have hR : R = [] := by
      by_cases h : R = []
      · exact h
      · have := prod_ne hp gF gR hF h
        exact absurd (eqv_nil (Good.prod hp0 F R) e.symm) this
    subst hR
    exact ⟨f, rfl, gf, fun w => by rw [cf_nil, Int.add_zero]⟩
  | stop q1 q2 =>
    intro R gL gR gf e hd
    have hR : R ≠ [] := fun z => by
      subst z
      rw [prod_nil] at e
      exact q1 (eqv_nil gL e)
    obtain ⟨_, e1, _⟩ := prod_lead hp gF gR hF hR
    exact absurd ⟨lead R, by rw [eqv_lead gL (Good.prod hp0 F R) e, e1]⟩ q2
  | @step L f r t q1 q2 _ ih =>
    intro R gL gR gf e hd
    have hR : R ≠ [] := fun z => by
      subst z
      rw [prod_nil] at e
      exact q1 (eqv_nil gL e)
    obtain ⟨_, e1, e2⟩ := prod_lead hp gF gR hF hR
    have el : lead L = lead F ++ lead R := by rw [eqv_lead gL (Good.prod hp0 F R) e, e1]
    obtain rfl : t = lead R := app_cancel_l (q2.symm.trans el)
    have ek : divK p F L = cf R (lead R) := by
      unfold divK
      rw [el, eqv_cf e, e2]
      exact step_back hp (cf_pos_of gR (lead_mem hR)) (cf_lt_of hp0 gR) (cf_pos_of gF (lead_mem hF)) (cf_lt_of hp0 gF)
    have hk := divK_bd hp gF gL hF q1
    have gw : Good p [(lead R, (1 : Int))] := ⟨by unfold keys; simp, fun kv h => by rw [List.mem_singleton.mp h]; exact (by decide : (0 : Int) < 1), fun kv h => by rw [List.mem_singleton.mp h]; exact hp.pos⟩
    have hcf : ∀ w, cf (plusS p R [(lead R, 1)] (-(divK p F L))) w = if w = lead R then 0 else cf R w := fun w => by
      rw [cf_plus hp0 gR gw.nd]
      by_cases h : w = lead R
      · subst h
        rw [if_pos rfl, cf_pos rfl, ek, Int.mul_one, Int.add_right_neg]
        exact Int.zero_emod p
      · rw [if_neg h, cf_neg (fun z => h z.symm), cf_nil, Int.mul_zero, Int.add_zero]
        exact cf_mod hp0 gR w
    have hdis : ∀ u ∈ keys (plusS p R [(lead R, 1)] (-(divK p F L))), u ∉ keys (putS f (lead R) (divK p F L)) := fun u hu hm => by
      have hne : u ≠ lead R := fun z => by
        subst z
        rw [cf_ne (Good.plus hp0 gR _), hcf] at hu
        exact hu (if_pos rfl)
      have hu2 : u ∈ keys R := by
        rw [cf_ne (Good.plus hp0 gR _), hcf, if_neg hne] at hu
        exact (cf_ne gR).mpr hu
      rw [keys_put] at hm
      split at hm
      · exact hd u hu2 hm
      · rcases List.mem_append.mp hm with hm | hm
        · exact hd u hu2 hm
        · exact hne (List.mem_singleton.mp hm)
    obtain ⟨f', h1, h2, h3⟩ := ih (R := plusS p R [(lead R, 1)] (-(divK p F L))) (divL_good hp gL) (Good.plus hp0 gR _) (gf.put hk.1 hk.2) (by
      unfold divL
      refine (plus_congr hp0 gL (withB_nodup gF.nd) (Good.prod hp0 F R) (Good.prod hp0 F _).nd _ e ?_).trans (distrib_r hp0 gF gR gw _).symm
      rw [prod_word (lead R) gF]
      exact Eqv.refl _) hdis
    · refine ⟨f', h1, h2, fun w => ?_⟩
      rw [h3 w, cf_put, hcf w]
      by_cases h : w = lead R
      · subst h
        rw [if_pos rfl, if_pos rfl, ek, cf_not_mem (hd _ (lead_mem hR))]
        omega
      · rw [if_neg h, if_neg h]
end
end Fp

/-! Dicts of any values by texts: comprehensions over their keys; loops over a dict's keys that change no object. -/
namespace Fp
open PySem L2
/-- all but d's object and lists stand -/
def ExD (d : Addr) (H H' : Hp) : Prop := ∀ a o, a ≠ d → (∀ xs, o ≠ .lst xs) → H a = some o → H' a = some o
theorem ExD.trans {d : Addr} {H H1 H2 : Hp} (a : ExD d H H1) (b : ExD d H1 H2) : ExD d H H2 := fun x o n m h => b x o n m (a x o n m h)
theorem Ex.exd {d : Addr} {H H' : Hp} (e : Ex H H') : ExD d H H' := fun a o _ _ h => e a o h
theorem ExD.upd {d : Addr} {H : Hp} {a : Addr} {o : HO} {xs : List V} (h : H a = some (.lst xs)) : ExD d H (L2.upd H a o) := fun b u _ n q => by
  rw [upd_ne (fun e => by subst e; rw [h] at q; exact n xs (Option.some.inj q).symm)]
  exact q
/-- a bag stands, whatever a locked dict's object becomes -/
theorem BagAt.exd {Cs : Addr → Prop} {d : Addr} {od : Obj} {kvs : List (Key × V)} {H H' : Hp} {a : Addr} {p : Int} {s : Bg} (e : ExD d H H') (hd : H d = some (.frz od (.dK kvs))) (b : BagAt Cs H a p s) : BagAt Cs H' a p s := by
  obtain ⟨C, dx, d', k, t, h0, h1, h2, ⟨qs, o, h3, h4, h5⟩⟩ := b.ex
  refine ⟨C, dx, d', k, t, h0, e _ _ (ne_of h1 hd (fun z => nomatch z)) (fun _ z => nomatch z) h1, e _ _ (ne_of h2 hd (fun z => nomatch z)) (fun _ z => nomatch z) h2, ⟨qs, o, e _ _ (ne_of h3 hd (fun z => by injection z with _ z2; cases z2)) (fun _ z => nomatch z) h3, h4, Paired.mapP h5 fun q kv z => e _ _ (ne_of z hd (fun z => nomatch z)) (fun _ z => nomatch z) z⟩⟩
/-- while the dict at d is walked -/
structure LkK (d : Addr) (kvs : List (Key × V)) (H H' : Hp) : Prop where
  keep : ∀ a o, a ≠ d → H a = some o → H' a = some o
  self : ∃ od, H' d = some (.frz od (.dK kvs))
theorem LkK.ex {d : Addr} {kvs : List (Key × V)} {H H' H'' : Hp} (l : LkK d kvs H H') (e : Ex H' H'') : LkK d kvs H H'' := ⟨fun a o n h => e _ _ (l.keep a o n h), let ⟨od, h⟩ := l.self; ⟨od, e _ _ h⟩⟩
theorem LkK.rd {d : Addr} {kvs : List (Key × V)} {H H' : Hp} (l : LkK d kvs H H') : Rd H' d (.dK kvs) := .inr l.self
/-- a bag stands while another dict is walked -/
theorem BagAt.lk {Cs : Addr → Prop} {d : Addr} {kvs : List (Key × V)} {H H' : Hp} {a : Addr} {p : Int} {s : Bg} (l : LkK d kvs H H') (hd : H d = some (.dK kvs)) (hk : kvs ≠ toK s) (b : BagAt Cs H a p s) : BagAt Cs H' a p s := by
  obtain ⟨C, dx, d', k, t, h0, h1, h2, ⟨qs, o, h3, h4, h5⟩⟩ := b.ex
  exact ⟨C, dx, d', k, t, h0, l.keep _ _ (ne_of h1 hd (fun z => nomatch z)) h1, l.keep _ _ (ne_of h2 hd (fun z => hk (HO.dK.inj z).symm)) h2, ⟨qs, o, l.keep _ _ (ne_of h3 hd (fun z => nomatch z)) h3, h4, Paired.mapP h5 fun q kv z => l.keep _ _ (ne_of z hd (fun z => nomatch z)) z⟩⟩
/-- anything over a dict's keys: the dict locked, then unlocked; it was unlocked -/
theorem lockK {σ : St} {H : Hp} {Q : VK} {d : Addr} {kvs : List (Key × V)} {t : TE} (hd : H d = some (.dK kvs))
    (core : ∀ (Hl : Hp) (od : Obj) (Q' : VK), Hl d = some (.frz od (.dK kvs)) → LkK d kvs H Hl → (∀ a, Hl a = none → H a = none) →
      (∀ v H', Ex Hl H' → (∀ H2, Ex H H2 → (∀ a, a ≠ d → H2 a = H' a) → ExD d H' H2 → Q v H2) → Q' v H') → t σ Hl Q') : tLockRE t σ H Q := by
  refine .inl ⟨d, _, hd, trivial, fun od => ?_⟩
  refine core _ od _ upd_same ⟨fun a o ha q => by rw [upd_ne ha]; exact q, od, upd_same⟩ (fun a ha => ?_) fun v H' e hq => ?_
  · by_cases q : a = d
    · subst q; rw [upd_same] at ha; cases ha
    · rw [upd_ne q] at ha; exact ha
  · have hdl : H' d = some (.frz od (.dK kvs)) := e _ _ upd_same
    refine ⟨hdl, hq _ (fun a o q => ?_) (fun a ha => by rw [upd_ne ha]) (fun a o n _ q => by rw [upd_ne n]; exact q)⟩
    by_cases ha : a = d
    · subst ha
      rw [hd] at q
      cases q
      exact upd_same
    · rw [upd_ne ha]
      exact e a o (by rw [upd_ne ha]; exact q)
theorem lcK_rel {σ : St} {H : Hp} {Q : VK} {d : Addr} {kvs : List (Key × V)} {te0 te : TE} {j : Nat} {vs : List Nat} (hd : H d = some (.dK kvs)) (hz : kvs.length ≤ sizeLine)
    (he : ∀ (H' : Hp) (Q : VK), LkK d kvs H H' → Q (.ref d) H' → te0 σ H' Q)
    (R : Key × V → V → Hp → Prop) (hR : ∀ e y H H', (∃ od, H d = some (.frz od (.dK kvs))) → ExD d H H' → R e y H → R e y H') (hw : ∀ x, wipe ((wipe σ vs).set j x) vs = wipe σ vs)
    (hs : ∀ (i : Nat) (k : Key) (v : V) (H' : Hp) (K : VK), kvs[i]? = some (k, v) → LkK d kvs H H' → (∀ y H4, Ex H' H4 → R (k, v) y H4 → K y H4) → te ((wipe σ vs).set j (some (kV k))) H' K)
    (hend : ∀ D H' ys, H D = none → Ex H H' → H' D = some (.lst ys) → Paired (fun y e => R e y H') ys kvs → Q (.ref D) H') : tLockRE (tLc (iKeys te0) (gName j) tYes te vs) σ H Q := by
  refine lockK hd fun Hl od Q' hl l0 hnone hq => ?_
  refine he Hl _ l0 ⟨d, od, rfl, .inl ⟨kvs, hl, ?_⟩⟩
  intro D hD
  refine lc_it walk_keys (fun i H => Ex Hl H ∧ ∃ ys, H D = some (.lst ys) ∧ Paired (fun y e => R e y H) ys (kvs.take i)) ⟨Ex.new hD, [], upd_same, .nil⟩ (fun i H _ p => p.1 _ _ hl) ?_ (fun H p => ?_)
  · rintro i x H1 H' hi ⟨e, ys, hacc, hp⟩ ⟨rfl, k, v, hk, rfl⟩
    refine ⟨hw _, ?_⟩
    unfold tYes
    dsimp only
    rw [if_pos rfl]
    have hlen : ys.length = i := by rw [hp.length, List.length_take]; omega
    refine hs i k v H' _ hk (l0.ex e) fun z H4 e4 rz => ⟨ys, e4 _ _ hacc, by omega, ?_, ys ++ [z], upd_same, ?_⟩
    · exact Ex.mut (e.trans e4) hD
    · have tu : ExD d H4 (L2.upd H4 D (.lst (ys ++ [z]))) := ExD.upd (e4 _ _ hacc)
      have hdl : H' d = some (.frz od (.dK kvs)) := e _ _ hl
      have hdl4 := e4 _ _ hdl
      have etk : kvs.take (i + 1) = kvs.take i ++ [(k, v)] := by rw [List.take_add_one, hk]; rfl
      rw [etk]
      exact Paired.snoc (Paired.mapP hp fun a b q => hR _ _ _ _ ⟨od, hdl⟩ (e4.exd.trans tu) q) (hR _ _ _ _ ⟨od, hdl4⟩ tu rz)
  · obtain ⟨e, ys, h, hp⟩ := p
    rw [List.take_length] at hp
    have hDd : D ≠ d := fun z => by subst z; rw [hl] at hD; cases hD
    exact hq _ H e fun H2 e2 hs2 ht => hend D H2 ys (hnone _ hD) e2 (by rw [hs2 D hDd]; exact h) (Paired.mapP hp fun a b q => hR _ _ _ _ ⟨od, e _ _ hl⟩ ht q)
/-- a loop over a dict's keys that changes no object that was there -/
theorem for_keysE {σ : St} {H : Hp} {D : Ends} {d : Addr} {s : Bg} {te : TE} {j : Nat} {tb : TS} (hd : Rd H d (.dK (toK s)))
    (he : ∀ (H' : Hp) (Q : VK), LkEx d s H H' → Q (.ref d) H' → te σ H' Q)
    (I : Nat → St → Hp → Prop) (h0 : I 0 σ H) (hI : ∀ i σ H H', (∀ a o, a ≠ d → H a = some o → H' a = some o) → I i σ H → I i σ H')
    (hs : ∀ i w n σ' H' (E : Ends), s[i]? = some (w, n) → I i σ' H' → LkEx d s H H' → (∀ σ'' H'', I (i + 1) σ'' H'' → Ex H' H'' → E.nx σ'' H'') → tb E (σ'.set j (some (.str w))) H')
    (hend : ∀ σ' H', I s.length σ' H' → Ex H H' → D.nx σ' H') : tLockR (tFor (iKeys te) (gName j) tb) D σ H := by
  have core : ∀ (Hl : Hp) (od : Obj) (E : Ends), Hl d = some (.frz od (.dK (toK s))) → LkEx d s H Hl → I 0 σ Hl → (∀ σ' H', I s.length σ' H' → Ex Hl H' → E.nx σ' H') → tFor (iKeys te) (gName j) tb E σ Hl := by
    intro Hl od E hl l0 hI0 hE
    refine he Hl _ l0 ⟨d, od, rfl, .inl ⟨toK s, hl, ?_⟩⟩
    refine for_it walk_keys (fun i σ' H' => I i σ' H' ∧ Ex Hl H') ⟨hI0, Ex.refl _⟩ (fun i σ' H' _ p => p.2 _ _ hl) ?_ (fun σ' H' p => ?_)
    · rintro i x σ' H' H1 hi ⟨hi1, e⟩ ⟨rfl, k, v, hk, rfl⟩
      obtain ⟨w, n, hw, ekv⟩ := toK_get hk
      cases ekv
      exact hs i w n σ' H1 _ hw hi1 (l0.ex e) fun σ'' H'' i2 e2 => ⟨i2, e.trans e2⟩
    · obtain ⟨hi1, e⟩ := p
      rw [toK_len] at hi1
      exact hE σ' H' hi1 e
  rcases hd with hd | ⟨od, hd⟩
  · refine .inl ⟨d, _, hd, trivial, fun od => ?_⟩
    refine core _ od _ upd_same ⟨fun a o ha q => by rw [upd_ne ha]; exact q, .inr ⟨od, upd_same⟩⟩ (hI _ _ _ _ (fun a o ha q => by rw [upd_ne ha]; exact q) h0) (fun σ' H' hi1 e => ?_)
    have hdl : H' d = some (.frz od (.dK (toK s))) := e _ _ upd_same
    refine ⟨hdl, hend σ' _ (hI _ _ _ _ (fun a o ha q => by rw [upd_ne ha]; exact q) hi1) (fun a o q => ?_)⟩
    by_cases ha : a = d
    · subst ha
      rw [hd] at q
      cases q
      exact upd_same
    · rw [upd_ne ha]
      exact e a o (by rw [upd_ne ha]; exact q)
  · exact .inr (core H od D hd ⟨fun a o _ h => h, .inr ⟨od, hd⟩⟩ h0 hend)
/-! ### the letters of words -/
def chS (c : Nat) : Str := ⟨#[c]⟩
theorem chS_inj {a b : Nat} (h : chS a = chS b) : a = b := by
  have := congrArg (fun z : Str => z.cps.toList) h
  simpa [chS] using this
/-- a dict of some letters of the words ws -/
def LetK (ws : List Str) (kvs : List (Key × V)) : Prop := ∃ cs : List Nat, kvs = cs.map (fun c => ((Sum.inr (chS c) : Key), V.bl true)) ∧ cs.Nodup ∧ ∀ c ∈ cs, ∃ w ∈ ws, c ∈ w.cps.toList
theorem LetK.put {ws : List Str} {kvs : List (Key × V)} {c : Nat} {w : Str} (h : LetK ws kvs) (hw : w ∈ ws) (hc : c ∈ w.cps.toList) : LetK ws (putK kvs (Sum.inr (chS c)) (.bl true)) := by
  obtain ⟨cs, rfl, hn, hm⟩ := h
  by_cases hcs : c ∈ cs
  · refine ⟨cs, ?_, hn, hm⟩
    unfold putK
    rw [if_pos]
    · rw [List.map_map]
      refine List.map_congr_left fun d _ => ?_
      show (if (Sum.inr (chS d) : Key) = Sum.inr (chS c) then ((Sum.inr (chS d) : Key), V.bl true) else ((Sum.inr (chS d) : Key), V.bl true)) = _
      split <;> rfl
    · exact List.any_eq_true.mpr ⟨_, List.mem_map.mpr ⟨c, hcs, rfl⟩, decide_eq_true rfl⟩
  · refine ⟨cs ++ [c], ?_, ?_, fun d hd => ?_⟩
    · unfold putK
      rw [if_neg, List.map_append]
      · rfl
      · intro z
        obtain ⟨kv, h1, h2⟩ := List.any_eq_true.mp z
        obtain ⟨d, hd, rfl⟩ := List.mem_map.mp h1
        have := chS_inj (Sum.inr.inj (of_decide_eq_true h2))
        rw [this] at hd
        exact hcs hd
    · rw [List.nodup_append]
      exact ⟨hn, by simp, fun a ha b hb e => by rw [List.mem_singleton.mp hb] at e; rw [e] at ha; exact hcs ha⟩
    · rcases List.mem_append.mp hd with h | h
      · exact hm d h
      · rw [List.mem_singleton.mp h]; exact ⟨w, hw, hc⟩
/-- {letter: True for word in s for letter in word} -/
theorem dc2_letters {σ : St} {H : Hp} {Q : VK} {d : Addr} {s : Bg} {te0 te1 tk tv : TE} {j j1 : Nat} {vs vs1 : List Nat} (hd : Rd H d (.dK (toK s))) (hz : ∀ u ∈ keys s, ∀ c ∈ u.cps.toList, c = 120 ∨ c = 121 ∨ c = 122)
    (he : ∀ (H' : Hp) (Q : VK), Q (.ref d) H' → te0 σ H' Q) (hw : ∀ x, wipe ((wipe σ vs).set j x) vs = wipe σ vs)
    (h1 : ∀ (w : Str) (H' : Hp) (R : It → Hp → Prop), R (Its w) H' → iStr te1 ((wipe σ vs).set j (some (.str w))) H' R) (hw1 : ∀ (w : Str) x, wipe ((wipe ((wipe σ vs).set j (some (.str w))) vs1).set j1 x) vs1 = wipe ((wipe σ vs).set j (some (.str w))) vs1)
    (hk : ∀ (w : Str) (c : Nat) (H' : Hp) (Q : VK), Q (.str (chS c)) H' → tk ((wipe ((wipe σ vs).set j (some (.str w))) vs1).set j1 (some (.str (chS c)))) H' Q)
    (hv : ∀ (w : Str) (c : Nat) (H' : Hp) (Q : VK), Q (.bl true) H' → tv ((wipe ((wipe σ vs).set j (some (.str w))) vs1).set j1 (some (.str (chS c)))) H' Q)
    (hend : ∀ D H' kvs, H D = none → Ex H H' → H' D = some (.dK kvs) → LetK (keys s) kvs → Q (.ref D) H') : tLockRE (tDc2 (iKeys te0) (gName j) (iStr te1) (gName j1) tk tv vs vs1) σ H Q := by
  refine lock_any hd fun Hl od Q' hl l0 hnone hq => ?_
  refine he Hl _ ⟨d, od, rfl, .inl ⟨toK s, hl, fun D hD => ?_⟩⟩
  have hDd : D ≠ d := fun z => by subst z; rw [hl] at hD; cases hD
  have small : ∀ kvs, LetK (keys s) kvs → kvs.length < sizeLine := fun kvs ⟨cs, e, hn, hm⟩ => by
    rw [e, List.length_map]
    have := len_sub hn (m := [120, 121, 122]) fun c hc => by
      obtain ⟨w, hw, hcw⟩ := hm c hc
      rcases hz w hw c hcw with rfl | rfl | rfl <;> simp
    exact Nat.lt_of_le_of_lt this (by decide)
  refine ⟨fun i m H' => m = s.length - i ∧ i ≤ s.length ∧ Ex Hl H' ∧ ∃ kvs, H' D = some (.dK kvs) ∧ LetK (keys s) kvs, ⟨s.length, by simp, Nat.zero_le _, Ex.new hD, [], upd_same, [], rfl, List.nodup_nil, fun _ z => nomatch z⟩, ?_⟩
  rintro i m H2 ⟨rfl, hi, e2, kvs, hD2, hL⟩
  have hl2 := e2 _ _ hl
  by_cases hlt : i < s.length
  · refine .inr ⟨⟨hl2, by rw [toK_len]; exact hlt⟩, fun H' => Ex Hl H' ∧ ∃ kvs, H' D = some (.dK kvs) ∧ LetK (keys s) kvs, fun H' p => ⟨s.length - (i + 1), by omega, rfl, hlt, p.1, p.2⟩, ?_⟩
    rintro x H' ⟨rfl, k, v, hk', rfl⟩
    obtain ⟨w, n, hw', ekv⟩ := toK_get hk'
    cases ekv
    have hmem : w ∈ keys s := mem_keys.mpr ⟨n, List.mem_of_getElem? hw'⟩
    refine ⟨hw _, ?_⟩
    refine h1 w H' _ ?_
    refine ⟨fun j k H3 => k = w.cps.size - j ∧ j ≤ w.cps.size ∧ Ex Hl H3 ∧ ∃ kvs, H3 D = some (.dK kvs) ∧ LetK (keys s) kvs, ⟨w.cps.size, by simp, Nat.zero_le _, e2, kvs, hD2, hL⟩, ?_⟩
    rintro a b H3 ⟨rfl, ha, e3, kvs3, hD3, hL3⟩
    by_cases hla : a < w.cps.size
    · refine .inr ⟨hla, fun H' => Ex Hl H' ∧ ∃ kvs, H' D = some (.dK kvs) ∧ LetK (keys s) kvs, fun H' p => ⟨w.cps.size - (a + 1), by omega, rfl, hla, p.1, p.2⟩, ?_⟩
      rintro x H4 ⟨rfl, c, hc, rfl⟩
      refine ⟨hw1 w _, ?_⟩
      refine hk w c H4 _ (hv w c H4 _ ⟨kvs3, Sum.inr (chS c), rfl, hD3, small _ hL3, Ex.mut e3 hD, _, upd_same, hL3.put hmem ?_⟩)
      have : w.cps.toList[a]? = some c := by rw [Array.getElem?_toList]; exact hc
      exact List.mem_of_getElem? this
    · exact .inl ⟨by show w.cps.size ≤ a; omega, e3, kvs3, hD3, hL3⟩
  · have ei : i = s.length := by omega
    subst ei
    refine .inl ⟨⟨hl2, by rw [toK_len]; exact Nat.le_refl _⟩, ?_⟩
    exact hq _ H2 (fun D' z => by cases z; exact hnone _ hD) e2 fun H3 e3 hs3 ht => hend D H3 kvs (hnone _ hD) e3 (by rw [hs3 D hDd]; exact hD2) hL
end Fp

/-! A caught error's class asked; beginnings of texts. -/
namespace Fp
open PySem L2 PyProof.Rows
section
variable {X : Cx}
/-- isinstance(e, c), e the error that the suite holds, of a class without own fields -/
def rIsEx (K : PySem.W.Frag) (cls : Value) (d : Option Addr) (a : Addr) : List V → Hp → VK → Prop := fun xs H Q => ∃ (D : Addr) (c : V) (cv : Value) (b : Bool), cls = .ref D ∧ d = none ∧ ExcC K D ∧ xs = [.ref a, c] ∧ (∀ u, RelV c u → u = cv) ∧ PySem.W.kitOne K (.ref D) cv = some b ∧ Q (.bl b) H
theorem call_isEx {a : Addr} {oe : Obj} {cls : Value} {d : Option Addr} {pn : List (Addr × Obj)} (hz : Zc cls d oe) (hf : ∃ vs, oe.data = .fields vs) : CallR (X.suite a ((a, oe) :: pn)) (.builtin "isinstance") (rIsEx X.K cls d a) := by
  intro pins s σ H xs us Q I r h
  obtain ⟨D, c, cv, b, rfl, rfl, C, rfl, hcv, e, q⟩ := h
  exact call_isE C hz hf pins s σ H _ us Q I r ⟨c, cv, b, rfl, hcv, e, q⟩
theorem g_isEx {K : PySem.W.Frag} {a D C : Addr} {b : Bool} {H : Hp} {Q : VK} (hD : ExcC K D) (hk : PySem.W.kitOne K (.ref D) (.ref C) = some b) (h : Q (.bl b) H) : rIsEx K (.ref D) none a [.ref a, .ref C] H Q :=
  ⟨D, .ref C, .ref C, b, rfl, rfl, hD, rfl, fun u r => by cases r; rfl, hk, h⟩
end
/-! ### beginnings -/
theorem startswith_iff (x y : Str) : Txt.startswith x y = true ↔ ∃ t, x = y ++ t := by
  unfold Txt.startswith
  rw [Bool.and_eq_true, decide_eq_true_iff, PySem.StrLaws.subAt_eq, List.drop_zero, beq_iff_eq]
  constructor
  · rintro ⟨h1, h2⟩
    refine ⟨ofL (x.cps.toList.drop y.length), str_ext ?_⟩
    rw [app_toList, toList_ofL, ← h2, List.take_append_drop]
  · rintro ⟨t, rfl⟩
    rw [len_app, app_toList]
    refine ⟨by omega, ?_⟩
    rw [← str_len y, List.take_left']
    rfl
theorem cutS_front (x y : Str) : cutS (x ++ y) none (some (x.length : Int)) = x := by
  refine str_ext ?_
  unfold cutS
  show ((((x ++ y).cps.toList.drop (HT.sIx (x ++ y).length 0 none)).take (HT.sIx (x ++ y).length (x ++ y).length (some (x.length : Int)) - HT.sIx (x ++ y).length 0 none)).toArray).toList = _
  rw [HT.sIx_none, HT.sIx_nat, List.drop_zero, len_app, Nat.min_eq_left (by omega), Nat.sub_zero, List.toList_toArray, app_toList, ← str_len x, List.take_left']
  rfl
theorem cutS_back (x y : Str) : cutS (x ++ y) (some (x.length : Int)) none = y := by
  refine str_ext ?_
  unfold cutS
  show ((((x ++ y).cps.toList.drop (HT.sIx (x ++ y).length 0 (some (x.length : Int)))).take (HT.sIx (x ++ y).length (x ++ y).length none - HT.sIx (x ++ y).length 0 (some (x.length : Int)))).toArray).toList = _
  rw [HT.sIx_none, HT.sIx_nat, len_app, Nat.min_eq_left (by omega), List.toList_toArray, app_toList, ← str_len x, List.drop_left']
  · rw [str_len, show x.length + y.length - x.length = y.length from by omega, ← str_len y, List.take_length]
  · rfl
theorem cutS_pre {w x : Str} (h : cutS w none (some (x.length : Int)) = x) : ∃ t, w = x ++ t := by
  have h1 : ((w.cps.toList.drop (HT.sIx w.length 0 none)).take (HT.sIx w.length w.length (some (x.length : Int)) - HT.sIx w.length 0 none)) = x.cps.toList := by
    have := congrArg (fun z : Str => z.cps.toList) h
    unfold cutS at this
    simpa using this
  rw [HT.sIx_none, HT.sIx_nat, List.drop_zero, Nat.sub_zero] at h1
  have h2 := congrArg List.length h1
  rw [List.length_take, str_len, str_len] at h2
  refine ⟨ofL (w.cps.toList.drop x.length), str_ext ?_⟩
  rw [app_toList, toList_ofL]
  have h3 : min x.length w.length = x.length := by omega
  rw [h3] at h1
  rw [← h1, List.take_append_drop]
end Fp

/-! Rules for beginnings of words: sorted by len, comprehensions of two clauses over a dict's words. -/
namespace Fp
open PySem L2 PySem.W
/-! ### cuts -/
theorem cutS_take (w : Str) {k : Nat} (hk : k ≤ w.length) : cutS w none (some (k : Int)) = ofL (w.cps.toList.take k) := by
  have e : w = ofL (w.cps.toList.take k) ++ ofL (w.cps.toList.drop k) := by rw [← ofL_app, List.take_append_drop, ofL_toList]
  have hl : (ofL (w.cps.toList.take k)).length = k := by
    rw [← str_len, toList_ofL, List.length_take, str_len]
    omega
  have := cutS_front (ofL (w.cps.toList.take k)) (ofL (w.cps.toList.drop k))
  rw [hl, ← e] at this
  exact this
theorem cutS_last (w : Str) : cutS w none (some (-1)) = ofL w.cps.toList.dropLast := by
  refine str_ext ?_
  unfold cutS
  show ((((w).cps.toList.drop (HT.sIx (w).length 0 none)).take (HT.sIx (w).length (w).length (some (-1)) - HT.sIx (w).length 0 none)).toArray).toList = w.cps.toList.dropLast
  rw [HT.sIx_none, List.drop_zero, List.toList_toArray, List.dropLast_eq_take]
  congr 1
  have h := str_len w
  show (if (-1 : Int) < 0 then ((-1 : Int) + (w.length : Int)).toNat else min (-1 : Int).toNat w.length) - 0 = _
  rw [if_pos (by decide)]
  omega
/-! ### sorted(xs, key=len) -/
def lenD (w : Str) : PyData := .int (w.length : Int)
def ordL (ws : List Str) : List Str := ws.mergeSort (dataLe false lenD)
theorem ordL_perm (ws : List Str) : (ordL ws).Perm ws := List.mergeSort_perm _ _
theorem lenD_eq : dataLe false lenD = fun a b : Str => decide ((a.length : Int) ≤ b.length) := dataLe_int fun w : Str => (w.length : Int)
theorem ordL_sorted (ws : List Str) : (ordL ws).Pairwise (fun a b => a.length ≤ b.length) := by
  have h : TotalLe (dataLe false lenD) := by
    rw [lenD_eq]
    exact ⟨fun a b c h1 h2 => by have := of_decide_eq_true h1; have := of_decide_eq_true h2; exact decide_eq_true (by omega), fun a b => (Nat.le_total a.length b.length).imp (fun h => decide_eq_true (by omega)) fun h => decide_eq_true (by omega)⟩
  refine (sort_pairwise h ws).imp fun {a b} q => ?_
  rw [lenD_eq] at q
  have := of_decide_eq_true q
  omega
def tSortLen (K : PySem.W.Frag) (te : TE) : TE := fun σ H Q => te σ H fun x H1 => ∃ (a : Addr) (ws : List Str), [x] = [V.ref a] ∧ SqL K H1 a (ws.map V.str) ∧ (∀ w ∈ ws, w.length ≤ sizeLine) ∧
  ∀ q, H1 q = none → Q (.ref q) (upd H1 q (.lst ((ordL ws).map V.str)))
theorem pe_sortLen {X : L2.Cx} {e : Expr} {te : TE} {p p2 pos kpos : Pos} (hg : Gl X "sorted") (hm : X.mg "sorted" = none) (hv : bootBuiltins "sorted" = some (.builtin "sorted")) (hg2 : Gl X "len") (hm2 : X.mg "len" = none) (hv2 : bootBuiltins "len" = some (.builtin "len")) (hr : Room 3 X.A) (he : PE X e te)
    (h0 : starEach [e] X.env = (false, eval e X.env) :: starEach [] X.env := by rfl) (h1 : backTo pos (starEach [e] X.env) = (false, eval e X.env) :: backTo pos (starEach [] X.env) := by rfl) (h2 : (backTo pos (starEach [e] X.env)).any (·.1) = false := by rfl) :
    PE X (.Call (.Name "sorted" p) [e] [⟨some "key", .Name "len" p2, kpos⟩] pos) (tSortLen X.K te) := by
  refine ⟨fun pins s σ H Q I h => ?_⟩
  refine wpAny_Call_Name_kw (ld_blt I hg hm hv ?_)
  have ha : PA X [e] (tCons te tNil) := pa_cons he pa_nil h0
  refine PyProof.Rows.callWith_kw (thn (ha.run pos pins s σ H (fun vs H1 => ∃ (a : Addr) (ws : List Str), vs = [.ref a] ∧ SqL X.K H1 a (ws.map V.str) ∧ (∀ w ∈ ws, w.length ≤ sizeLine) ∧
    ∀ q, H1 q = none → Q (.ref q) (upd H1 q (.lst ((ordL ws).map V.str)))) I ?_) fun us s1 ⟨vs, H1, I1, r1, q1⟩ => ?_) h1 h2 rfl rfl
  · exact h
  · show wpAny _ _ (evalAll ((do let v ← eval (.Name "len" p2) X.env; standAt pos; pure v) :: [])) _ _ s1
    refine wpAny_evalAll_cons (wpAny_bind (ld_blt I1 hg2 hm2 hv2 (wpAny_bind (wpAny_standAt (wpAny_pure (wpAny_evalAll_nil ?_))))))
    obtain ⟨a, ws, rfl, hs, hx, q⟩ := q1
    obtain rfl := Vals.ref1 r1
    obtain ⟨its, rv, hl, hz⟩ := I1.list hs
    rw [List.length_map] at hz
    show wpAny _ _ (call (.builtin "sorted") [.ref a] [(Str.ofString "key", .builtin "len")]) _ _ _
    refine PySem.W.sorted_key_data (R := fun v x => ∃ t, v = Value.str x t) (bs := ws) (b := false) lenD hl.isList (each_strs rv) (AllAlike.of fun _ _ => rfl) (Sortable.others fun b => ⟨(fun z => nomatch z), (fun xs z => nomatch z)⟩) hz (fun x _ => ?_) (PyProof.Rows.ksk_s1 _ _) (fun x => PyProof.Rows.ksk_l1 _ _) (fun x => PyProof.Rows.ksk_t4 "len" x) (fun v x hv hm h tk kk => ?_) (fun out c h' tk keep _ hget hlen ho => ?_)
    · have := hr.un
      show _ + 2 + 0 < _
      omega
    · obtain ⟨t, rfl⟩ := hv
      have := hx x hm
      have hn := L2.line63
      refine PyProof.Rows.len_str (by omega) ?_
      exact ⟨_, _, rfl, fun _ _ z => z, .int _ _⟩
    · have hl2 : ((ordL ws).map V.str).length ≤ sizeLine := by rw [List.length_map, (ordL_perm ws).length_eq]; exact hz
      exact ⟨.ref _, upd H1 (s1.heap.objs.size + 1) (.lst ((ordL ws).map V.str)), I1.laid (t' := tk) keep (Nat.le_succ _) ⟨hl2, out, c, vals_each ho, hget⟩, rfl, q _ (I1.hok.fresh (Nat.le_succ _))⟩
/-! ### the beginnings of a dict's words -/
def trueK (ws : List Str) : List (Key × V) := ws.map fun u => ((Sum.inr u : Key), V.bl true)
theorem putK_true (ws : List Str) (u : Str) : putK (trueK ws) (Sum.inr u) (.bl true) = trueK (if u ∈ ws then ws else ws ++ [u]) := by
  by_cases h : u ∈ ws
  · rw [if_pos h]
    unfold putK
    rw [if_pos]
    · unfold trueK
      rw [List.map_map]
      refine List.map_congr_left fun v _ => ?_
      show (if (Sum.inr v : Key) = Sum.inr u then ((Sum.inr v : Key), V.bl true) else ((Sum.inr v : Key), V.bl true)) = _
      split <;> rfl
    · exact List.any_eq_true.mpr ⟨_, List.mem_map.mpr ⟨u, h, rfl⟩, decide_eq_true rfl⟩
  · rw [if_neg h]
    unfold putK
    rw [if_neg]
    · unfold trueK
      rw [List.map_append]
      rfl
    · intro z
      obtain ⟨kv, h1, h2⟩ := List.any_eq_true.mp z
      obtain ⟨v, hv, rfl⟩ := List.mem_map.mp h1
      have e : v = u := Sum.inr.inj (of_decide_eq_true h2)
      rw [e] at hv
      exact h hv
/-- so far: all beginnings of the words us, and those of w of fewer than a letters -/
structure Pre (us : List Str) (w : Str) (a : Nat) (ws : List Str) : Prop where
  nd : ws.Nodup
  mem : ∀ u, u ∈ ws ↔ (∃ v ∈ us, u.cps.toList <+: v.cps.toList) ∨ ∃ k, k < a ∧ u = ofL (w.cps.toList.take k)
theorem Pre.put {us : List Str} {w : Str} {a : Nat} {ws : List Str} (h : Pre us w a ws) : Pre us w (a + 1) (if ofL (w.cps.toList.take a) ∈ ws then ws else ws ++ [ofL (w.cps.toList.take a)]) := by
  by_cases hm : ofL (w.cps.toList.take a) ∈ ws
  · rw [if_pos hm]
    refine ⟨h.nd, fun u => ⟨fun q => ((h.mem u).mp q).imp id fun ⟨k, h1, h2⟩ => ⟨k, by omega, h2⟩, fun q => ?_⟩⟩
    rcases q with q | ⟨k, h1, h2⟩
    · exact (h.mem u).mpr (.inl q)
    · by_cases e : k = a
      · subst e; rw [h2]; exact hm
      · exact (h.mem u).mpr (.inr ⟨k, by omega, h2⟩)
  · rw [if_neg hm]
    refine ⟨?_, fun u => ⟨fun q => ?_, fun q => ?_⟩⟩
    · rw [List.nodup_append]
      exact ⟨h.nd, by simp, fun a ha b hb e => by rw [List.mem_singleton.mp hb] at e; rw [e] at ha; exact hm ha⟩
    · rcases List.mem_append.mp q with q | q
      · exact ((h.mem u).mp q).imp id fun ⟨k, h1, h2⟩ => ⟨k, by omega, h2⟩
      · exact .inr ⟨a, by omega, List.mem_singleton.mp q⟩
    · rcases q with q | ⟨k, h1, h2⟩
      · exact List.mem_append_left _ ((h.mem u).mpr (.inl q))
      · by_cases e : k = a
        · subst e; rw [h2]; exact List.mem_append_right _ List.mem_cons_self
        · exact List.mem_append_left _ ((h.mem u).mpr (.inr ⟨k, by omega, h2⟩))
theorem take_prefix (l : List Nat) (k : Nat) : l.take k <+: l := List.take_prefix k l
theorem Pre.next {us : List Str} {w : Str} {ws : List Str} (h : Pre us w (w.length + 1) ws) (v : Str) : Pre (us ++ [w]) v 0 ws := by
  refine ⟨h.nd, fun u => ⟨fun q => .inl ?_, fun q => (h.mem u).mpr ?_⟩⟩
  · rcases (h.mem u).mp q with ⟨x, h1, h2⟩ | ⟨k, h1, h2⟩
    · exact ⟨x, List.mem_append_left _ h1, h2⟩
    · exact ⟨w, List.mem_append_right _ List.mem_cons_self, by rw [h2]; exact take_prefix _ _⟩
  · rcases q with ⟨x, h1, h2⟩ | ⟨k, h1, _⟩
    · rcases List.mem_append.mp h1 with h1 | h1
      · exact .inl ⟨x, h1, h2⟩
      · obtain rfl := List.mem_singleton.mp h1
        refine .inr ⟨u.length, ?_, ?_⟩
        · have := h2.length_le
          rw [str_len, str_len] at this
          omega
        · refine str_ext ?_
          rw [toList_ofL, ← str_len u]
          exact (List.prefix_iff_eq_take.mp h2)
    · omega
theorem Pre.other {us : List Str} {w v : Str} {ws : List Str} (h : Pre us w 0 ws) : Pre us v 0 ws :=
  ⟨h.nd, fun u => ⟨fun q => ((h.mem u).mp q).imp id fun ⟨k, h1, _⟩ => absurd h1 (by omega), fun q => (h.mem u).mpr (q.imp id fun ⟨k, h1, _⟩ => absurd h1 (by omega))⟩⟩
theorem put_len (ws : List Str) (u : Str) : (if u ∈ ws then ws else ws ++ [u]).length ≤ ws.length + 1 := by
  by_cases h : u ∈ ws
  · rw [if_pos h]; omega
  · rw [if_neg h, List.length_append, List.length_singleton]; omega
/-- {w[:k]: True for w in s for k in range(len(w) + 1)} -/
theorem dc2_pre {σ : St} {H : Hp} {Q : VK} {d : Addr} {s : Bg} {te0 tk tv : TE} {tA : TA} {j j1 : Nat} {vs vs1 : List Nat} (hd : Rd H d (.dK (toK s))) (hz : ∀ u ∈ keys s, u.length ≤ 1000) (hn : s.length ≤ 1000)
    (he : ∀ (H' : Hp) (Q : VK), LkEx d s H H' → Q (.ref d) H' → te0 σ H' Q) (hw : ∀ x, wipe ((wipe σ vs).set j x) vs = wipe σ vs)
    (h1 : ∀ (w : Str) (H' : Hp) (R : It → Hp → Prop), w.length ≤ 1000 → R (Itr 0 (w.length + 1)) H' → iRng1 tA ((wipe σ vs).set j (some (.str w))) H' R) (hw1 : ∀ (w : Str) x, wipe ((wipe ((wipe σ vs).set j (some (.str w))) vs1).set j1 x) vs1 = wipe ((wipe σ vs).set j (some (.str w))) vs1)
    (hk : ∀ (w : Str) (k : Nat) (H' : Hp) (Q : VK), w.length ≤ 1000 → k ≤ w.length → Q (.str (ofL (w.cps.toList.take k))) H' → tk ((wipe ((wipe σ vs).set j (some (.str w))) vs1).set j1 (some (.int (k : Int)))) H' Q)
    (hv : ∀ (w : Str) (k : Nat) (H' : Hp) (Q : VK), Q (.bl true) H' → tv ((wipe ((wipe σ vs).set j (some (.str w))) vs1).set j1 (some (.int (k : Int)))) H' Q)
    (hend : ∀ D H' ws, H D = none → Ex H H' → H' D = some (.dK (trueK ws)) → ws.Nodup → (∀ u, u ∈ ws ↔ ∃ v ∈ keys s, u.cps.toList <+: v.cps.toList) → ws.length ≤ 1001000 → Q (.ref D) H') : tLockRE (tDc2 (iKeys te0) (gName j) (iRng1 tA) (gName j1) tk tv vs vs1) σ H Q := by
  refine lock_any hd fun Hl od Q' hl l0 hnone hq => ?_
  refine he Hl _ l0 ⟨d, od, rfl, .inl ⟨toK s, hl, fun D hD => ?_⟩⟩
  have hDd : D ≠ d := fun z => by subst z; rw [hl] at hD; cases hD
  refine ⟨fun i m H' => m = s.length - i ∧ i ≤ s.length ∧ Ex Hl H' ∧ ∃ ws, H' D = some (.dK (trueK ws)) ∧ Pre (keys (s.take i)) Str.empty 0 ws ∧ ws.length ≤ i * 1001, ⟨s.length, by simp, Nat.zero_le _, Ex.new hD, [], upd_same, ⟨List.nodup_nil, fun u => ⟨(fun z => nomatch z), fun z => ?_⟩⟩, Nat.zero_le _⟩, ?_⟩
  · rcases z with ⟨v, h1, _⟩ | ⟨k, h1, _⟩
    · cases h1
    · omega
  rintro i m H2 ⟨rfl, hi, e2, ws, hD2, hP, hL⟩
  have hl2 := e2 _ _ hl
  by_cases hlt : i < s.length
  · refine .inr ⟨⟨hl2, by rw [toK_len]; exact hlt⟩, fun H' => Ex Hl H' ∧ ∃ ws, H' D = some (.dK (trueK ws)) ∧ Pre (keys (s.take (i + 1))) Str.empty 0 ws ∧ ws.length ≤ (i + 1) * 1001, fun H' p => ⟨s.length - (i + 1), by omega, rfl, hlt, p.1, p.2⟩, ?_⟩
    rintro x H' ⟨rfl, k, v, hk', rfl⟩
    obtain ⟨w, n, hw', ekv⟩ := toK_get hk'
    cases ekv
    have hmem : w ∈ keys s := mem_keys.mpr ⟨n, List.mem_of_getElem? hw'⟩
    have hwl := hz w hmem
    refine ⟨hw _, ?_⟩
    refine h1 w H' _ hwl ?_
    refine ⟨fun a k H3 => k = w.length + 1 - a ∧ a ≤ w.length + 1 ∧ Ex Hl H3 ∧ ∃ ws, H3 D = some (.dK (trueK ws)) ∧ Pre (keys (s.take i)) w a ws ∧ ws.length ≤ i * 1001 + a, ⟨w.length + 1, by simp, Nat.zero_le _, e2, ws, hD2, hP.other, by omega⟩, ?_⟩
    rintro a b H3 ⟨rfl, ha, e3, ws3, hD3, hP3, hL3⟩
    by_cases hla : a < w.length + 1
    · refine .inr ⟨hla, fun H' => Ex Hl H' ∧ ∃ ws, H' D = some (.dK (trueK ws)) ∧ Pre (keys (s.take i)) w (a + 1) ws ∧ ws.length ≤ i * 1001 + (a + 1), fun H' p => ⟨w.length + 1 - (a + 1), by omega, rfl, hla, p.1, p.2⟩, ?_⟩
      rintro x H4 ⟨rfl, rfl⟩
      rw [Int.zero_add]
      refine ⟨hw1 w _, ?_⟩
      have hbig : (trueK ws3).length < sizeLine := by
        unfold trueK
        rw [List.length_map]
        have : i * 1001 ≤ 1000 * 1001 := Nat.mul_le_mul_right _ (by omega)
        show _ < 2 ^ 24
        omega
      refine hk w a H4 _ hwl (by omega) (hv w a H4 _ ⟨_, Sum.inr (ofL (w.cps.toList.take a)), rfl, hD3, hbig, Ex.mut e3 hD, _, ?_, hP3.put, ?_⟩)
      · rw [upd_same, putK_true]
      · have := put_len ws3 (ofL (w.cps.toList.take a))
        omega
    · have ea : a = w.length + 1 := by omega
      subst ea
      refine .inl ⟨Nat.le_refl _, e3, ws3, hD3, ?_, by rw [Nat.succ_mul]; omega⟩
      have := hP3.next Str.empty
      have e : keys (s.take (i + 1)) = keys (s.take i) ++ [w] := by
        unfold keys
        rw [List.take_add_one, hw', List.map_append]
        rfl
      rw [e]
      exact this
  · have ei : i = s.length := by omega
    subst ei
    rw [List.take_length] at hP
    refine .inl ⟨⟨hl2, by rw [toK_len]; exact Nat.le_refl _⟩, ?_⟩
    refine hq _ H2 (fun D' z => by cases z; exact hnone _ hD) e2 fun H3 e3 hs3 ht => hend D H3 ws (hnone _ hD) e3 (by rw [hs3 D hDd]; exact hD2) hP.nd (fun u => (hP.mem u).trans ⟨fun q => q.elim id fun ⟨k, h1, _⟩ => absurd h1 (by omega), .inl⟩) ?_
    have : s.length * 1001 ≤ 1000 * 1001 := Nat.mul_le_mul_right _ hn
    omega
/-! ### flags of all letters of a dict's words -/
/-- [f(c) for w in s for c in w] -/
theorem lc2_flags {σ : St} {H : Hp} {Q : VK} {d : Addr} {s : Bg} {te0 te1 te : TE} {j j1 : Nat} {vs vs1 : List Nat} (f : Nat → Bool) (hd : Rd H d (.dK (toK s))) (hz : ∀ u ∈ keys s, u.length ≤ 1000) (hn : s.length ≤ 1000)
    (he : ∀ (H' : Hp) (Q : VK), LkEx d s H H' → Q (.ref d) H' → te0 σ H' Q) (hw : ∀ x, wipe ((wipe σ vs).set j x) vs = wipe σ vs)
    (h1 : ∀ (w : Str) (H' : Hp) (R : It → Hp → Prop), R (Its w) H' → iStr te1 ((wipe σ vs).set j (some (.str w))) H' R) (hw1 : ∀ (w : Str) x, wipe ((wipe ((wipe σ vs).set j (some (.str w))) vs1).set j1 x) vs1 = wipe ((wipe σ vs).set j (some (.str w))) vs1)
    (hk : ∀ (w : Str) (c : Nat) (H' : Hp) (Q : VK), Q (.bl (f c)) H' → te ((wipe ((wipe σ vs).set j (some (.str w))) vs1).set j1 (some (.str (chS c)))) H' Q)
    (hend : ∀ D H' (bs : List Bool), H D = none → Ex H H' → H' D = some (.lst (bs.map V.bl)) → bs = (keys s).flatMap (fun w => w.cps.toList.map f) → Q (.ref D) H') : tLockRE (tLc2 (iKeys te0) (gName j) tYes (iStr te1) (gName j1) tYes te vs vs1) σ H Q := by
  refine lock_any hd fun Hl od Q' hl l0 hnone hq => ?_
  refine he Hl _ l0 ⟨d, od, rfl, .inl ⟨toK s, hl, fun D hD => ?_⟩⟩
  have hDd : D ≠ d := fun z => by subst z; rw [hl] at hD; cases hD
  refine ⟨fun i m H' => m = s.length - i ∧ i ≤ s.length ∧ Ex Hl H' ∧ ∃ bs : List Bool, H' D = some (.lst (bs.map V.bl)) ∧ bs = (keys (s.take i)).flatMap (fun w => w.cps.toList.map f) ∧ bs.length ≤ i * 1000, ⟨s.length, by simp, Nat.zero_le _, Ex.new hD, [], upd_same, rfl, Nat.zero_le _⟩, ?_⟩
  rintro i m H2 ⟨rfl, hi, e2, bs, hD2, hP, hL⟩
  have hl2 := e2 _ _ hl
  by_cases hlt : i < s.length
  · refine .inr ⟨⟨hl2, by rw [toK_len]; exact hlt⟩, fun H' => Ex Hl H' ∧ ∃ bs : List Bool, H' D = some (.lst (bs.map V.bl)) ∧ bs = (keys (s.take (i + 1))).flatMap (fun w => w.cps.toList.map f) ∧ bs.length ≤ (i + 1) * 1000, fun H' p => ⟨s.length - (i + 1), by omega, rfl, hlt, p.1, p.2⟩, ?_⟩
    rintro x H' ⟨rfl, k, v, hk', rfl⟩
    obtain ⟨w, n, hw', ekv⟩ := toK_get hk'
    cases ekv
    have hmem : w ∈ keys s := mem_keys.mpr ⟨n, List.mem_of_getElem? hw'⟩
    have hwl := hz w hmem
    refine ⟨hw _, ?_⟩
    unfold tYes
    dsimp only
    rw [if_pos rfl]
    refine h1 w H' _ ?_
    refine ⟨fun a k H3 => k = w.cps.size - a ∧ a ≤ w.cps.size ∧ Ex Hl H3 ∧ ∃ bs : List Bool, H3 D = some (.lst (bs.map V.bl)) ∧ bs = (keys (s.take i)).flatMap (fun w => w.cps.toList.map f) ++ (w.cps.toList.take a).map f ∧ bs.length ≤ i * 1000 + a, ⟨w.cps.size, by simp, Nat.zero_le _, e2, bs, hD2, by rw [hP]; simp, by omega⟩, ?_⟩
    rintro a b H3 ⟨rfl, ha, e3, bs3, hD3, hP3, hL3⟩
    by_cases hla : a < w.cps.size
    · refine .inr ⟨hla, fun H' => Ex Hl H' ∧ ∃ bs : List Bool, H' D = some (.lst (bs.map V.bl)) ∧ bs = (keys (s.take i)).flatMap (fun w => w.cps.toList.map f) ++ (w.cps.toList.take (a + 1)).map f ∧ bs.length ≤ i * 1000 + (a + 1), fun H' p => ⟨w.cps.size - (a + 1), by omega, rfl, hla, p.1, p.2⟩, ?_⟩
      rintro x H4 ⟨rfl, c, hc, rfl⟩
      refine ⟨hw1 w _, ?_⟩
      dsimp only
      rw [if_pos rfl]
      have hwl' : w.cps.size ≤ 1000 := hwl
      refine hk w c H4 _ ⟨_, hD3, ?_, Ex.mut e3 hD, bs3 ++ [f c], by rw [upd_same, List.map_append]; rfl, ?_, by rw [List.length_append, List.length_singleton]; omega⟩
      · rw [List.length_map]
        have : i * 1000 ≤ 1000 * 1000 := Nat.mul_le_mul_right _ (by omega)
        show _ < 2 ^ 24
        omega
      · have hc' : w.cps.toList[a]? = some c := by rw [Array.getElem?_toList]; exact hc
        rw [hP3, List.take_add_one, hc', List.map_append, List.append_assoc]
        rfl
    · have ea : a = w.cps.size := by omega
      subst ea
      refine .inl ⟨Nat.le_refl _, e3, bs3, hD3, ?_, ?_⟩
      · have e : keys (s.take (i + 1)) = keys (s.take i) ++ [w] := by
          unfold keys
          rw [List.take_add_one, hw', List.map_append]
          rfl
        have e2' : w.cps.toList.take w.cps.size = w.cps.toList := by
          have : w.cps.size = w.cps.toList.length := Array.length_toList.symm
          rw [this, List.take_length]
        rw [hP3, e, List.flatMap_append, e2']
        simp
      · have hwl' : w.cps.size ≤ 1000 := hwl
        rw [Nat.succ_mul]
        omega
  · have ei : i = s.length := by omega
    subst ei
    rw [List.take_length] at hP
    refine .inl ⟨⟨hl2, by rw [toK_len]; exact Nat.le_refl _⟩, ?_⟩
    exact hq _ H2 (fun D' z => by cases z; exact hnone _ hD) e2 fun H3 e3 hs3 ht => hend D H3 bs (hnone _ hD) e3 (by rw [hs3 D hDd]; exact hD2) hP
end Fp

/-! Promises of defs that are called where no repr is under way (A.guards = some []): what repr of data asks. -/
namespace Fp
open PySem PySem.Spec PyProof.Rows L2
/-- the promise of a def, where no repr is under way -/
structure FnOkG (P : Program) (w : World) (K : PySem.W.Frag) (mg : Str → Option Value) (base : Heap) (CX : CXT) (k : Nat) (f : Addr) (fd : FuncData) (ps : List Str) (sp : Sp) : Prop where
  len : ∀ vs H Q E, sp vs H Q E → vs.length = ps.length
  run : ∀ (A : Around) (outer : List Env) (s : Shared) (H : Hp) (args : Args) (us : List Value) (vs : List V) (Q : VK) (E : XK), Room k A → A.guards = some [] → Env0 P w K mg base A outer s H → BindsTo s fd args (ps.zip us) → Vals vs us → sp vs H Q E →
    codeAny (model P w) A (.call (.ref f) args) (CR CX outer P w H s Q E) s
theorem FnOk.g {P : Program} {w : World} {K : PySem.W.Frag} {mg : Str → Option Value} {base : Heap} {CX : CXT} {k : Nat} {f : Addr} {fd : FuncData} {ps : List Str} {sp : Sp} (F : FnOk P w K mg base CX k f fd ps sp) : FnOkG P w K mg base CX k f fd ps sp :=
  ⟨F.len, fun A outer s H args us vs Q E hr _ => F.run A outer s H args us vs Q E hr⟩
theorem fn_ofG {CX : CXT} {P : Program} {w : World} {K : PySem.W.Frag} {mg : Str → Option Value} {base : Heap} {k : Nat} {f : Addr} {name qual : Str} {params : Arguments} {body : List Stmt} {scope : Scope} {dV kV doc pm cdv ct oc : Value} {an od : Option Addr}
    {osl : Array (Option Value)} {N ps : List Str} {sp : Sp} (lk : K.lookup f = some ⟨oc, od, .func (PySem.W.fnOf name qual params body scope dV kV doc pm an cdv ct), osl⟩) (hcd : PySem.W.codeIn K cdv qual = true) (S : FnScope N ps scope)
    (len : ∀ vs H Q E, sp vs H Q E → vs.length = ps.length)
    (hbody : ∀ (A : Around) (outer : List Env) (s : Shared) (H : Hp) (vs : List V) (Q : VK) (E : XK), Room k (A.deeper (envOfC qual scope s.heap.objs.size f cdv)) → (A.deeper (envOfC qual scope s.heap.objs.size f cdv)).guards = some [] → sp vs H Q E →
      ∃ t, PSs (cxOf CX P w K mg base N qual scope f cdv A outer s H E) body t ∧ t { nx := fun _ H' => Q .non H', rt := Q } (start N vs) H) :
    FnOkG P w K mg base CX (k + 1) f (PySem.W.fnOf name qual params body scope dV kV doc pm an cdv ct) ps sp := by
  refine ⟨len, fun A outer s H args us vs Q E hr hg e0 hb r hsp => ?_⟩
  obtain ⟨t, ht, hq⟩ := hbody A outer s H vs Q E (hr.deeper _) hg hsp
  have keepB : ∀ b o, base.get? b = some o → s.heap.get? b = some o := fun b o e => (e0.bs b o e).1
  have KX : K.In s.heap := e0.mod.kin.keeps keepB
  have hl := len _ _ _ _ hsp
  refine codeAny_call_function hr.depth (KX _ _ lk) rfl S.co S.gen rfl (PySem.W.codeRec_of KX hcd) (hb _ _ _ _ (wpAny_newFunctionEnv_cells S.kind (fun y hy => ?_) fun env he s1 x => ?_))
  · obtain ⟨n, v⟩ := y
    exact (S.par n (List.of_mem_zip hy).1).imp id fun q => ⟨q, PySem.W.cellsFrom_some _ _ _ (.inl q)⟩
  · subst he
    refine ⟨(e0.mod.nolimit.keeps keepB).keeps x.toInCall.keep, codeAny_func ?_⟩
    have told : ∀ {σ' : L2.St} {H' : Hp} {v : V} {u : Value} {s' : Shared}, Inv (cxOf CX P w K mg base N qual scope f cdv A outer s H E) [] σ' H' s' → RelV v u → Q v H' → CE outer P w H s Q u s' := fun J rv q => ⟨_, _, J.os, J.bare, J.base, J.hok, rv, q⟩
    refine wpAny_mono (ht.run [] s1 (start N vs) H _ (inv_start S hr.hd e0 hl r x) hq) (fun fl s' hs => ?_) fun _ _ z => z
    cases fl with
    | ret u =>
      obtain ⟨v, σ', H', J, rv, q⟩ := hs
      exact told J rv q
    | next =>
      obtain ⟨σ', H', J, q⟩ := hs
      exact told (v := V.non) (u := Value.none) J rfl q
    | brk =>
      obtain ⟨_, _, _, q⟩ := hs
      exact q.elim
    | cont =>
      obtain ⟨_, _, _, q⟩ := hs
      exact q.elim
/-- the rule for a def, where no repr is under way -/
theorem fun_okG {P : Program} {w : World} {K : PySem.W.Frag} {mg : Str → Option Value} {base : Heap} {x qual : Str} {st : Stmt} {f : Addr} {fd : FuncData} {N ps : List Str} {k : Nat} {sp : Sp} (F : Fun K x qual st f fd) (S : FnScope N ps (defScope st)) (len : ∀ vs H Q E, sp vs H Q E → vs.length = ps.length)
    (hbody : ∀ (cdv : Value) (A : Around) (outer : List Env) (s : Shared) (H : Hp) (vs : List V) (Q : VK) (E : XK), Room k (A.deeper (envOfC qual (defScope st) s.heap.objs.size f cdv)) → (A.deeper (envOfC qual (defScope st) s.heap.objs.size f cdv)).guards = some [] → sp vs H Q E →
      ∃ t, PSs (cxOf CX0 P w K mg base N qual (defScope st) f cdv A outer s H E).nox (defBody st) t ∧ t { nx := fun _ H' => Q .non H', rt := Q } (start N vs) H) : FnOkG P w K mg base CX0 (k + 1) f fd ps sp := by
  obtain ⟨oc, od, kV, doc, pm, an, cdv, ct, osl, rfl, lk, hcd⟩ := F.ex
  exact fn_ofG lk hcd S len fun A outer s H vs Q E hr hg hsp => (hbody cdv A outer s H vs Q E hr hg hsp).imp fun t h => ⟨h.1.nox, h.2⟩
/-- a def by name -/
structure DefOkG (P : Program) (w : World) (K : PySem.W.Frag) (mg : Str → Option Value) (base : Heap) (CX : CXT) (k : Nat) (nm : Str) (ps : List Str) (sp : Sp) : Prop where
  ex : ∃ f fd, mg nm = some (.ref f) ∧ PySem.W.keepIn K (.ref f) = true ∧ Binds K fd ps [] ∧ FnOkG P w K mg base CX k f fd ps sp
section
variable {X : L2.Cx} {CX : CXT} {k : Nat} {f : Addr} {fd : FuncData} {ps : List Str} {sp : Sp} {E : XK} {x : Str} {p pos : Pos} {e : Expr} {es : List Expr} {t : TA}
theorem run_fnG {pins : List (Addr × Obj)} {σ : L2.St} {H : Hp} {s : Shared} {Q : VK} {us : List Value} {vs : List V} (F : FnOkG X.prog X.w X.K X.mg X.base CX k f fd ps sp) (hr : Room k X.A) (hgd : X.A.guards = some []) (hb : Binds X.K fd ps []) (hx : Passes CX X E)
    (I : Inv X pins σ H s) (r : Vals vs us) (h : sp vs H Q E) : wpAny (model X.prog X.w) X.A (call (.ref f) us) (EP X pins σ Q) X.xe s := by
  have hb' := hb s us I.kIn (by rw [List.append_nil, ← r.length]; exact F.len _ _ _ _ h)
  rw [List.append_nil] at hb'
  refine wpAny_call (codeAny_mono (F.run X.A X.stack s H ⟨us, []⟩ us vs Q E hr hgd I.env0 hb' r h) fun res s' hq => ?_)
  match res, hq with
  | .error e, hq => exact hx pins σ H s e s' I hq
  | .ok (.ret u), hq => exact I.after hq
  | .ok .next, hq => exact False.elim hq
  | .ok .brk, hq => exact False.elim hq
  | .ok .cont, hq => exact False.elim hq
theorem pe_callDG (D : DefOkG X.prog X.w X.K X.mg X.base CX k x ps sp) (hr : Room k X.A) (hgd : X.A.guards = some []) (hg : Gl X x) (hx : Passes CX X E) (ha : PA X (e :: es) t)
    (hdb : (x == ("__debug__" : Str)) = false := by decide) (he : starEach (e :: es) X.env = (false, eval e X.env) :: starEach es X.env := by rfl) (hpl : (backTo pos (starEach es X.env)).any (·.1) = false := by rfl) :
    PE X (.Call (.Name x p) (e :: es) [] pos) (tCall sp [] E t) := by
  obtain ⟨f, fd, hm, hk, hb, F⟩ := D.ex
  refine ⟨fun pins s σ H Q I h => wpAny_Call_Name_kw (ld_glob I hg hm ?_ hdb)⟩
  refine PySem.W.callWith_K (h₀ := X.base) I.ok.mod.kin hk (thn (ha.run pos pins s σ H _ I h) fun us s1 ⟨vs, H1, I1, r, q⟩ => ⟨I1.kIn, ?_⟩) he hpl
  have q : sp (vs ++ []) H1 Q E := q
  rw [List.append_nil] at q
  exact run_fnG F hr hgd hb hx I1 r q
end
/-! ### the law called, where no repr is under way -/
section
variable {P : Program} {w : World} {K : PySem.W.Frag} {mg mb : Str → Option Value} {k : Nat} {fa a : Addr} {fd : FuncData} {x : Str} {sp : Sp} {s₁ : Shared} {vs : List Value} {ns : List Int}
/-- from a heap in which nothing but the script is tracked -/
theorem law_fromG {H : Hp} (KX : K.In s₁.heap) (hns : s₁.heap.Ns mainGlobals mg) (hb : s₁.heap.Ns builtinsNs mb) (hbb : ∀ x : Str, x ≠ "__name__" → mb x = bootBuiltins x) (hlim : s₁.heap.NoLimit) (hg : s₁.gens = #[])
    (ha : s₁.heap.get? a = some { cls := .type "list", data := .seq vs.toArray }) (hr : Room k callerA)
    (F : ∀ base : Heap, K.In base → base.Ns mainGlobals mg → FnOkG P w K mg base CX0 k fa fd [x] sp) (hbind : ∀ (s : Shared) (u : Value), BindsTo s fd ⟨[u], []⟩ [(x, u)])
    (hO : Only H) (hsp : sp [.ref a] H (fun v _ => v = .bl true) fun _ _ _ => False) (hok : HOk P w H s₁.heap) (hA : ∀ b, H b ≠ none → b = a) (hK : H a ≠ none → K.lookup a = none) :
    codeAny (model P w) callerA (.call (.ref fa) ⟨[.ref a], []⟩) (fun r s' => r = .ok (.ret (.bool true)) ∧ OldK s₁.heap s'.heap ∧ s'.os = s₁.os ∧ AllBare s'.gens) s₁ := by
  -- what the module needs is not the script's own object
  have free : ∀ {b : Addr} {o : Obj}, s₁.heap.get? b = some o → (b = a → H b = none) → (hidT s₁.heap H).get? b = some o := fun {b o} e n => by
    refine hidT_get e ?_
    cases q : H b with
    | none => rfl
    | some u => exact absurd (n (hA b (by rw [q]; simp))) (by rw [q]; simp)
  have ns : ∀ {b : Addr} {m : Str → Option Value}, s₁.heap.Ns b m → (hidT s₁.heap H).Ns b m := fun {b m} ⟨o, es, ep, e, d, r⟩ => ⟨o, es, ep, free e (fun z => by
    subst z
    rw [ha] at e
    cases e
    cases (show Data.seq vs.toArray _ = Data.dict es ep from d)), d, r⟩
  have kin : K.In (hidT s₁.heap H) := fun b o e => free (KX b o e) fun z => by
    subst z
    cases q : H b with
    | none => rfl
    | some u => rw [hK (by rw [q]; simp)] at e; cases e
  have md : Mod K mg (hidT s₁.heap H) := ⟨kin, ns hns, ⟨mb, ns hb, hbb⟩, hlim.imp fun mc h => ⟨ns h.1, h.2⟩⟩
  have env : Env0 P w K mg (hidT s₁.heap H) callerA [] s₁ H := ⟨rfl, md, fun b o e => of_hidT e, Nat.le_of_eq (hidT_size _ _), trivial, fun b hb => absurd (show b ∈ ([] : List Addr) from hb) (by simp), hok, .of_eq hg⟩
  refine codeAny_mono ((F _ kin (ns hns)).run callerA [] s₁ H ⟨[.ref a], []⟩ [.ref a] [.ref a] _ _ hr rfl env (hbind s₁ (.ref a)) (.cons rfl .nil) hsp) fun r s' h => ?_
  match r, h with
  | .error e, h => exact h.elim
  | .ok .next, h => exact False.elim h
  | .ok .brk, h => exact False.elim h
  | .ok .cont, h => exact False.elim h
  | .ok (.ret u), h =>
    obtain ⟨v, H', os, bare, un, hok', r', q⟩ := h
    have q' : v = .bl true := q
    subst q'
    obtain rfl : u = Value.bool true := r'
    refine ⟨rfl, OldK.of_keep fun b o e => ?_, os, bare⟩
    rcases hO b with z | ⟨ob, xs, z⟩
    · exact un.keep b o e z (fun q => absurd (show b ∈ ([] : List Addr) from q) (by simp)) (by simp)
    · have e1 := (hok b _ z).1
      rw [e] at e1
      cases e1
      exact (hok' b _ (un.frzs b _ _ z)).1
end
/-- the goal of a law, from its def's promise where no repr is under way -/
theorem walk_ofG {l : PySem.W.OpenLaw} {n k : Nat} {q : Program} {loose : List Str} {XP : (Str → Option Value) → Heap → Prop} {YP : World → Heap → Prop} {d : DefRec} {K : Params → PySem.W.Frag} {sp : World → Sp} {x : Str}
    (hn : l.most = some n) (hn2 : n ≤ sizeLine) (hdf : d.params.defaults = []) (hr : Room k callerA) (hY : ∀ (w : World) (h : Heap), YP w h → (K w.params).In h)
    (F : ∀ (w : World) (mg : Str → Option Value) (fa : Addr) (h : Heap), (K w.params).In h → h.Ns mainGlobals mg → mg d.name = some (.ref fa) →
      ∃ fd : FuncData, (∀ (s : Shared) (u : Value), BindsTo s fd ⟨[u], []⟩ [(x, u)]) ∧ ∀ base : Heap, (K w.params).In base → base.Ns mainGlobals mg → FnOkG l.prog w (K w.params) mg base CX0 k fa fd [x] (sp w))
    (hsp : ∀ (w : World) (H : Hp) (a : Addr) (ns : List Int), ns.length ≤ n → Only H → SqL (K w.params) H a (ns.map V.int) → sp w [.ref a] H (fun v _ => v = .bl true) fun _ _ _ => False) :
    PySem.W.WalkO q loose XP YP l.row.toRowW d [] (fun f vs => PySem.call f vs) := by
  refine Att.attach_call hn hdf fun w s₀ s₁ mg mb fa o pm cd doc a vs ns G Y ho hd hcd hmg hobj hints hlen hg => ?_
  obtain ⟨fd, hb, hF⟩ := F w mg fa _ (hY w _ Y) G.T.g hmg
  have rv := vals_ints hints
  have hls : vs.length ≤ sizeLine := by rw [hints.length]; exact Nat.le_trans hlen hn2
  have go := fun (H : Hp) (hO : Only H) hs hok hA hK => law_fromG (H := H) (hY w _ Y) G.T.g G.T.b G.T.builtins G.T.nolimit hg hobj hr hF hb hO (hsp w H a ns hlen hO hs) hok hA hK
  cases hk : (K w.params).lookup a with
  | some o2 =>
    -- the script is one of the module's own objects
    have e := hY w _ Y a o2 hk
    rw [hobj] at e
    cases e
    exact go (fun _ => none) (fun _ => .inl rfl) (.inr ⟨_, vs.toArray, _, hk, rfl, rfl, rfl, by rw [List.size_toArray]; exact hls, by simpa using rv⟩) (fun b u z => nomatch (show (none : Option HO) = some u from z)) (fun b z => absurd rfl z) fun z => absurd rfl z
  | none =>
    -- the script alone is tracked
    obtain ⟨ob, hob⟩ : ∃ ob : Obj, ob = { cls := .type "list", data := .seq vs.toArray } := ⟨_, rfl⟩
    obtain ⟨H, hH⟩ : ∃ H : Hp, ∀ b, H b = if b = a then some (.frz ob (.lst (ns.map V.int))) else none := ⟨fun b => if b = a then some (.frz ob (.lst (ns.map V.int))) else none, fun _ => rfl⟩
    have at_a : H a = some (.frz ob (.lst (ns.map V.int))) := by rw [hH, if_pos rfl]
    have off : ∀ {b}, b ≠ a → H b = none := fun h => by rw [hH, if_neg h]
    refine go H (fun b => ?_) (.inl (.inr ⟨ob, at_a⟩)) (fun b u z => ?_) (fun b z => ?_) fun _ => hk
    · by_cases h : b = a
      · exact .inr ⟨_, _, by rw [h]; exact at_a⟩
      · exact .inl (off h)
    · by_cases h : b = a
      · subst h
        rw [at_a] at z
        cases z
        subst hob
        exact ⟨hobj, by rw [List.length_map]; exact Nat.le_trans hlen hn2, vs, _, rv, hobj⟩
      · rw [off h] at z
        cases z
    · exact Classical.byContradiction fun h => z (off h)
end Fp

/-! repr of None, of lists and tuples of data, where no repr is under way -/
namespace Fp
open PySem PySem.Spec PyProof.Rows L2
section
variable {X : L2.Cx}
/-- repr -/
def rReprD (K : PySem.W.Frag) : List V → Hp → VK → Prop := fun xs H Q => (xs = [.non] ∧ Q (.str "None") H) ∨ ∃ (a : Addr) (d : PyData), xs = [.ref a] ∧ Dp K H (.ref a) d ∧ d.showable = true ∧ d.hasDict = false ∧ d.depth ≤ 60 ∧ d.shown.length ≤ sizeLine ∧ Q (.str d.shown) H
theorem cr_reprD (hg : X.A.guards = some []) (hu : X.A.units + 64 < cLine) : CallR X (.builtin "repr") (rReprD X.K) := by
  intro pins s σ H xs us Q I r h
  rcases h with ⟨rfl, q⟩ | ⟨a, d, rfl, hd, h1, h2, h3, h4, q⟩
  · obtain ⟨u, rfl, rx⟩ := vals1 r
    cases rx
    exact PySem.P.repr_of_none ⟨.str "None", H, I.tok _, ⟨_, rfl⟩, q⟩
  · obtain ⟨u, rfl, rx⟩ := vals1 r
    cases rx
    obtain ⟨as, rd⟩ := Dp.reads I d _ _ hd rfl
    refine repr_of_reads' rd h1 (fun z => absurd (h2.symm.trans z) (by simp)) hg (by omega) (fun b o e => e) (fun h' u tk keep => ⟨.str d.shown, H, I.kept (t' := tk) keep, ⟨_, rfl⟩, q⟩) h4
end
end Fp

/-! sums of powers of a bag: its numbers are found from the longest power on -/
namespace Fp
open PySem
variable {p : Int} {b s t : Bg}
/-- powers -/
def pwS (p : Int) (b : Bg) : Nat → Bg
  | 0 => one1
  | n + 1 => prodS p (pwS p b n) b
/-- what is known of the powers of a bag -/
structure Pw (p : Int) (b : Bg) (i : Nat) : Prop where
  g : Good p (pwS p b i)
  n : pwS p b i ≠ []
  l : (lead (pwS p b i)).length = i * (lead b).length
theorem lead_one : lead one1 = "" := by decide +kernel
theorem pw (hp : Prm p) (gb : Good p b) (hb : b ≠ []) : ∀ i, Pw p b i
  | 0 => ⟨one1_good hp.pos, (fun z => nomatch z), by
    rw [show pwS p b 0 = one1 from rfl, lead_one, Nat.zero_mul]
    rfl⟩
  | i + 1 => by
    have h := pw hp gb hb i
    have h1 := hp.pos
    obtain ⟨q1, q2, q3⟩ := prod_lead hp h.g gb h.n hb
    refine ⟨Good.prod (by omega) _ _, prod_ne hp h.g gb h.n hb, ?_⟩
    rw [show pwS p b (i + 1) = prodS p (pwS p b i) b from rfl, q2, len_app, h.l, Nat.succ_mul]
theorem Pw.le {i : Nat} (h : Pw p b i) {u : Str} (hu : u ∈ keys (pwS p b i)) : u.length ≤ i * (lead b).length := by
  rw [← h.l]
  exact lead_len hu
theorem Pw.off {i j : Nat} (h : Pw p b i) (hL : 0 < (lead b).length) (hij : i < j) {w : Str} (hw : w.length = j * (lead b).length) : cf (pwS p b i) w = 0 := cf_not_mem fun z => by
  have h1 := h.le z
  have h2 : (i + 1) * (lead b).length ≤ j * (lead b).length := Nat.mul_le_mul_right _ hij
  rw [Nat.succ_mul] at h2
  omega
/-- the sum of the powers 0 .. m - 1 with these numbers, at a word -/
def sumF (p : Int) (b : Bg) (ns : Nat → Int) (w : Str) : Nat → Int
  | 0 => 0
  | m + 1 => sumF p b ns w m + ns m * cf (pwS p b m) w
/-- s is that sum -/
def IsSum (p : Int) (b : Bg) (ns : Nat → Int) (m : Nat) (s : Bg) : Prop := ∀ w, cf s w = sumF p b ns w m % p
theorem sumF_off (hp : Prm p) (gb : Good p b) (hb : b ≠ []) (hL : 0 < (lead b).length) {ns : Nat → Int} {j : Nat} {w : Str} (hw : w.length = j * (lead b).length) : ∀ {m}, m ≤ j → sumF p b ns w m = 0
  | 0, _ => rfl
  | m + 1, h => by
    rw [sumF, sumF_off hp gb hb hL hw (Nat.le_of_succ_le h), (pw hp gb hb m).off hL h hw, Int.mul_zero]
    rfl
theorem sumF_long (hp : Prm p) (gb : Good p b) (hb : b ≠ []) {ns : Nat → Int} {j : Nat} {w : Str} (hw : j * (lead b).length < w.length) : ∀ {m}, m ≤ j + 1 → sumF p b ns w m = 0
  | 0, _ => rfl
  | m + 1, h => by
    have h1 : cf (pwS p b m) w = 0 := cf_not_mem fun z => by
      have := (pw hp gb hb m).le z
      have h2 : m * (lead b).length ≤ j * (lead b).length := Nat.mul_le_mul_right _ (by omega)
      omega
    rw [sumF, sumF_long hp gb hb hw (by omega), h1, Int.mul_zero]
    rfl
/-- the number that is taken off -/
def numAt (p : Int) (b s : Bg) (a : Nat) : Int := cf s (lead (pwS p b a)) * inv p (cf (pwS p b a) (lead (pwS p b a))) % p
/-- the numbers that are found from the power a on downward, or none -/
def tk (p : Int) (b : Bg) : Nat → Bg → Option (List Int)
  | 0, s => if (lead (pwS p b 0)).length < sizeS s then none else if plusS p s (pwS p b 0) (-numAt p b s 0) = [] then some [numAt p b s 0] else none
  | a + 1, s => if ((lead (pwS p b (a + 1))).length : Int) < sizeS s then none else (tk p b a (plusS p s (pwS p b (a + 1)) (-numAt p b s (a + 1)))).map fun l => l ++ [numAt p b s (a + 1)]
theorem Pw.pos {i : Nat} (hp : Prm p) (h : Pw p b i) : 0 < cf (pwS p b i) (lead (pwS p b i)) ∧ cf (pwS p b i) (lead (pwS p b i)) < p := ⟨cf_pos_of h.g (lead_mem h.n), cf_lt (by have := hp.pos; omega) h.g _⟩
theorem IsSum.size (hp : Prm p) (gb : Good p b) (hb : b ≠ []) {ns : Nat → Int} {a : Nat} (gs : Good p s) (h : IsSum p b ns (a + 1) s) : ¬ ((lead (pwS p b a)).length : Int) < sizeS s := by
  unfold sizeS
  split
  · omega
  · rename_i hs
    rw [(pw hp gb hb a).l]
    intro q
    have hm := lead_mem hs
    have := (cf_ne gs).mp hm
    rw [h, sumF_long hp gb hb (j := a) (by omega) (Nat.le_refl _), Int.zero_emod] at this
    exact this rfl
theorem IsSum.num (hp : Prm p) (gb : Good p b) (hb : b ≠ []) (hL : 0 < (lead b).length) {ns : Nat → Int} {a : Nat} (h : IsSum p b ns (a + 1) s) (h0 : 0 ≤ ns a) (h1 : ns a < p) : numAt p b s a = ns a := by
  have hP := pw hp gb hb a
  obtain ⟨c0, c1⟩ := hP.pos hp
  obtain ⟨i1, _, _⟩ := inv_one hp c0 c1
  unfold numAt
  rw [h, sumF, sumF_off hp gb hb hL hP.l (Nat.le_refl _), Int.zero_add]
  generalize cf (pwS p b a) (lead (pwS p b a)) = c at i1 ⊢
  rw [Int.mul_emod, Int.emod_emod, ← Int.mul_emod, Int.mul_assoc, Int.mul_comm c, Int.mul_emod, i1, Int.mul_one, Int.emod_emod]
  exact Int.emod_eq_of_lt h0 h1
theorem IsSum.take (hp : Prm p) (gb : Good p b) (hb : b ≠ []) {ns : Nat → Int} {a : Nat} (gs : Good p s) (h : IsSum p b ns (a + 1) s) : IsSum p b ns a (plusS p s (pwS p b a) (-ns a)) := fun w => by
  have h1 := hp.pos
  rw [cf_plus (by omega) gs (pw hp gb hb a).g.nd, h, sumF, Int.emod_add_emod, Int.neg_mul, Int.add_assoc, Int.add_right_neg, Int.add_zero]
theorem IsSum.none {ns : Nat → Int} (gs : Good p s) (h : IsSum p b ns 0 s) : s = [] := by
  cases s with
  | nil => rfl
  | cons q r =>
    have := (cf_ne gs (w := q.1)).mp (List.mem_map.mpr ⟨q, List.mem_cons_self, rfl⟩)
    rw [h, sumF, Int.zero_emod] at this
    exact absurd rfl this
/-- a sum of powers is told its numbers -/
theorem tk_sum (hp : Prm p) (gb : Good p b) (hb : b ≠ []) (hL : 0 < (lead b).length) {ns : Nat → Int} (hn : ∀ i, 0 ≤ ns i ∧ ns i < p) : ∀ {a : Nat} {s : Bg}, Good p s → IsSum p b ns (a + 1) s → tk p b a s = some ((List.range (a + 1)).map ns)
  | 0, s, gs, h => by
    have h1 := hp.pos
    have e := h.num hp gb hb hL (hn 0).1 (hn 0).2
    have h2 := h.take hp gb hb gs
    have h3 := h2.none (Good.plus (by omega) gs _)
    have hz := h.size hp gb hb gs
    unfold tk
    rw [if_neg hz, e, if_pos h3]
    rfl
  | a + 1, s, gs, h => by
    have h1 := hp.pos
    have e := h.num hp gb hb hL (hn (a + 1)).1 (hn (a + 1)).2
    have h2 := h.take hp gb hb gs
    have hz := h.size hp gb hb gs
    unfold tk
    rw [if_neg hz, e, tk_sum hp gb hb hL hn (Good.plus (by omega) gs _) h2, Option.map_some, List.range_succ (n := a + 1), List.map_append]
    rfl
/-- what is taken off makes the bag -/
theorem tk_is (hp : Prm p) (gb : Good p b) (hb : b ≠ []) : ∀ {a : Nat} {s : Bg} {l : List Int}, Good p s → tk p b a s = some l → l.length = a + 1 ∧ (∀ n ∈ l, 0 ≤ n ∧ n < p) ∧ IsSum p b (fun i => l.getD i 0) (a + 1) s
  | 0, s, l, gs, h => by
    have h1 := hp.pos
    unfold tk at h
    split at h
    · cases h
    split at h
    · rename_i hz
      cases Option.some.inj h
      refine ⟨rfl, fun n hn => ?_, fun w => ?_⟩
      · rw [List.mem_singleton.mp hn]
        exact ⟨Int.emod_nonneg _ (by omega), Int.emod_lt_of_pos _ (by omega)⟩
      · have h2 : cf (plusS p s (pwS p b 0) (-numAt p b s 0)) w = 0 := by rw [hz]; rfl
        rw [cf_plus (by omega) gs (pw hp gb hb 0).g.nd] at h2
        rw [sumF, sumF, Int.zero_add]
        show cf s w = numAt p b s 0 * cf (pwS p b 0) w % p
        rw [← cf_mod (by omega) gs w]
        refine Int.emod_eq_emod_iff_emod_sub_eq_zero.mpr ?_
        rw [← h2, Int.neg_mul, Int.sub_eq_add_neg]
    · cases h
  | a + 1, s, l, gs, h => by
    have h1 := hp.pos
    unfold tk at h
    split at h
    · cases h
    cases hq : tk p b a (plusS p s (pwS p b (a + 1)) (-numAt p b s (a + 1))) with
    | none => rw [hq] at h; cases h
    | some l' =>
      rw [hq] at h
      cases Option.some.inj h
      obtain ⟨i1, i2, i3⟩ := tk_is hp gb hb (Good.plus (by omega) gs _) hq
      refine ⟨by rw [List.length_append, i1]; rfl, fun n hn => ?_, fun w => ?_⟩
      · rcases List.mem_append.mp hn with hn | hn
        · exact i2 n hn
        · rw [List.mem_singleton.mp hn]
          exact ⟨Int.emod_nonneg _ (by omega), Int.emod_lt_of_pos _ (by omega)⟩
      · have h2 := i3 w
        rw [cf_plus (by omega) gs (pw hp gb hb (a + 1)).g.nd] at h2
        have e1 : sumF p b (fun i => (l' ++ [numAt p b s (a + 1)]).getD i 0) w (a + 1) = sumF p b (fun i => l'.getD i 0) w (a + 1) := by
          have gen : ∀ m, m ≤ a + 1 → sumF p b (fun i => (l' ++ [numAt p b s (a + 1)]).getD i 0) w m = sumF p b (fun i => l'.getD i 0) w m := fun m => by
            induction m with
            | zero => exact fun _ => rfl
            | succ m ih =>
              intro hm
              rw [sumF, sumF, ih (by omega)]
              have : (l' ++ [numAt p b s (a + 1)]).getD m 0 = l'.getD m 0 := by
                rw [List.getD_eq_getElem?_getD, List.getD_eq_getElem?_getD, List.getElem?_append_left (by omega)]
              rw [this]
          exact gen _ (Nat.le_refl _)
        have e2 : (l' ++ [numAt p b s (a + 1)]).getD (a + 1) 0 = numAt p b s (a + 1) := by
          rw [List.getD_eq_getElem?_getD, List.getElem?_append_right (by omega), i1, Nat.sub_self]
          rfl
        rw [sumF, e1]
        show cf s w = (_ + (l' ++ [numAt p b s (a + 1)]).getD (a + 1) 0 * _) % p
        rw [e2, ← Int.emod_add_emod, ← h2, Int.emod_add_emod, Int.neg_mul, Int.add_assoc, Int.add_left_neg, Int.add_zero, cf_mod (by omega) gs]
end Fp

namespace Fp
/-! ### sums of words without end (power series): what changes places with a third one changes places with one another -/
abbrev Ser := List Nat → Int
/-- the same by the clock -/
def Sm (p : Int) (F G : Ser) : Prop := ∀ v, F v % p = G v % p
theorem Sm.refl {p : Int} (F : Ser) : Sm p F F := fun _ => rfl
theorem Sm.symm {p : Int} {F G : Ser} (h : Sm p F G) : Sm p G F := fun v => (h v).symm
theorem Sm.trans {p : Int} {F G K : Ser} (h : Sm p F G) (h2 : Sm p G K) : Sm p F K := fun v => (h v).trans (h2 v)
theorem Sm.of {p : Int} {F G : Ser} (h : ∀ v, F v = G v) : Sm p F G := fun v => by rw [h v]
theorem Sm.cv {p : Int} {F F' G G' : Ser} (h1 : Sm p F F') (h2 : Sm p G G') : Sm p (conv F G) (conv F' G') := fun v => conv_mod h1 h2 v
theorem Sm.add {p : Int} {F F' G G' : Ser} (h1 : Sm p F F') (h2 : Sm p G G') : Sm p (fun x => F x + G x) (fun x => F' x + G' x) := fun v => by
  show (F v + G v) % p = (F' v + G' v) % p
  rw [Int.add_emod, h1, h2, ← Int.add_emod]
theorem Sm.mul {p : Int} {F F' : Ser} (c : Int) (h1 : Sm p F F') : Sm p (fun x => c * F x) (fun x => c * F' x) := fun v => by
  show (c * F v) % p = (c * F' v) % p
  rw [Int.mul_emod, h1, ← Int.mul_emod]
theorem Sm.dvd {p : Int} {F G : Ser} (h : Sm p F G) (v : List Nat) : p ∣ F v - G v := Int.dvd_of_emod_eq_zero (by rw [Int.sub_emod, h v, Int.sub_self, Int.zero_emod])
theorem Sm.of_dvd {p : Int} {F G : Ser} (h : ∀ v, p ∣ F v - G v) : Sm p F G := fun v => Int.emod_eq_emod_iff_emod_sub_eq_zero.mpr (Int.emod_eq_zero_of_dvd (h v))
theorem dvd_trans' {p a b : Int} (h : p ∣ a - b) (hb : p ∣ b) : p ∣ a := by
  have := Int.dvd_add h hb
  rwa [Int.sub_add_cancel] at this
theorem prm_dvd {p x y : Int} (hp : Prm p) (h : p ∣ x * y) : p ∣ x ∨ p ∣ y := by
  have h1 := hp.pos
  by_cases hx : p ∣ x
  · exact .inl hx
  by_cases hy : p ∣ y
  · exact .inr hy
  exfalso
  have a0 : x % p ≠ 0 := fun e => hx (Int.dvd_of_emod_eq_zero e)
  have b0 : y % p ≠ 0 := fun e => hy (Int.dvd_of_emod_eq_zero e)
  have a1 := Int.emod_nonneg x (show p ≠ 0 by omega)
  have b1 := Int.emod_nonneg y (show p ≠ 0 by omega)
  have a2 := Int.emod_lt_of_pos x (show 0 < p by omega)
  have b2 := Int.emod_lt_of_pos y (show 0 < p by omega)
  have := prm_mul hp (show 0 < x % p by omega) a2 (show 0 < y % p by omega) b2
  rw [← Int.mul_emod, Int.emod_eq_zero_of_dvd h] at this
  omega
/-! #### low words -/
theorem cv_lo_r {p : Int} {G : Ser} : ∀ (v : List Nat) (F : Ser), (∀ y, y.length ≤ v.length → p ∣ G y) → p ∣ conv F G v
  | [], F, h => by
    rw [conv_nil]
    exact Int.dvd_trans (h [] (Nat.le_refl _)) (Int.dvd_mul_left _ _)
  | c :: v, F, h => by
    rw [conv_cons]
    exact Int.dvd_add (Int.dvd_trans (h (c :: v) (Nat.le_refl _)) (Int.dvd_mul_left _ _)) (cv_lo_r v _ fun y hy => h y (Nat.le_succ_of_le hy))
theorem cv_lo_l {p : Int} {G : Ser} : ∀ (v : List Nat) (F : Ser), (∀ y, y.length ≤ v.length → p ∣ F y) → p ∣ conv F G v
  | [], F, h => by
    rw [conv_nil]
    exact Int.dvd_trans (h [] (Nat.le_refl _)) (Int.dvd_mul_right _ _)
  | c :: v, F, h => by
    rw [conv_cons]
    exact Int.dvd_add (Int.dvd_trans (h [] (Nat.zero_le _)) (Int.dvd_mul_right _ _)) (cv_lo_l v _ fun y hy => h (c :: y) (Nat.succ_le_succ hy))
theorem cv_top_l {p : Int} {G : Ser} : ∀ (w : List Nat) (F : Ser), (∀ x, x.length < w.length → p ∣ F x) → p ∣ conv F G w - F w * G []
  | [], F, h => by
    rw [conv_nil, Int.sub_self]
    exact Int.dvd_zero _
  | c :: w, F, h => by
    rw [conv_cons, Int.add_sub_assoc]
    exact Int.dvd_add (Int.dvd_trans (h [] (Nat.succ_pos _)) (Int.dvd_mul_right _ _)) (cv_top_l w _ fun y hy => h (c :: y) (Nat.succ_lt_succ hy))
theorem cv_app_r {p : Int} {G : Ser} {v : List Nat} (h : ∀ y, y.length < v.length → p ∣ G y) : ∀ (u : List Nat) (F : Ser), p ∣ conv F G (u ++ v) - conv F (fun y => G (y ++ v)) u
  | [], F => by
    rw [conv_nil, List.nil_append]
    cases v with
    | nil => rw [conv_nil, Int.sub_self]; exact Int.dvd_zero _
    | cons c v =>
      rw [conv_cons, Int.add_comm, Int.add_sub_cancel]
      exact cv_lo_r v _ fun y hy => h y (Nat.lt_succ_of_le hy)
  | c :: u, F => by
    rw [List.cons_append, conv_cons, conv_cons]
    have e : ∀ a b d : Int, a + b - (a + d) = b - d := fun a b d => by omega
    rw [List.cons_append, e]
    exact cv_app_r h u _
/-- no word of less than n letters -/
def Lo (p : Int) (n : Nat) (F : Ser) : Prop := ∀ v, v.length < n → p ∣ F v
/-- n letters at least, and some word of n -/
def Exo (p : Int) (n : Nat) (F : Ser) : Prop := Lo p n F ∧ ∃ w, w.length = n ∧ ¬ p ∣ F w
theorem Lo.sm {p : Int} {n : Nat} {F G : Ser} (h : Lo p n F) (e : Sm p G F) : Lo p n G := fun v hv => dvd_trans' (e.dvd v) (h v hv)
theorem Lo.cv {p : Int} {G : Ser} : ∀ (v : List Nat) (i j : Nat) (F : Ser), Lo p i F → Lo p j G → v.length < i + j → p ∣ conv F G v
  | [], i, j, F, hF, hG, h => by
    rw [conv_nil]
    by_cases hi : 0 < i
    · exact Int.dvd_trans (hF [] hi) (Int.dvd_mul_right _ _)
    · exact Int.dvd_trans (hG [] (by have : ([] : List Nat).length = 0 := rfl; omega)) (Int.dvd_mul_left _ _)
  | c :: v, i, j, F, hF, hG, h => by
    rw [conv_cons]
    have hl : (c :: v).length = v.length + 1 := rfl
    refine Int.dvd_add ?_ (Lo.cv v (i - 1) j _ (fun x hx => hF (c :: x) (by have : (c :: x).length = x.length + 1 := rfl; omega)) hG (by omega))
    by_cases hi : 0 < i
    · exact Int.dvd_trans (hF [] hi) (Int.dvd_mul_right _ _)
    · exact Int.dvd_trans (hG (c :: v) (by omega)) (Int.dvd_mul_left _ _)
/-- lengths add -/
theorem Lo.quot {p : Int} {n m : Nat} {t e : Ser} (hp : Prm p) (ht : Exo p n t) (h : Lo p m (conv t e)) : Lo p (m - n) e := by
  obtain ⟨ht, w, hw, hw0⟩ := ht
  have key : ∀ k, k < m - n → ∀ y : List Nat, y.length = k → p ∣ e y := by
    intro k
    induction k using Nat.strongRecOn with
    | ind k ih =>
      intro hk y hy
      have a1 := h (w ++ y) (by rw [List.length_append]; omega)
      have a2 := cv_app_r (p := p) (G := e) (v := y) (fun z hz => ih z.length (by omega) (by omega) z rfl) w t
      have a3 := cv_top_l (p := p) (G := fun z => e (z ++ y)) w t (fun x hx => ht x (by omega))
      have a4 : p ∣ conv t (fun z => e (z ++ y)) w := by
        have := Int.dvd_sub a1 a2
        rwa [Int.sub_sub_self] at this
      have a5 : p ∣ t w * e y := by
        have := Int.dvd_sub a4 a3
        rwa [Int.sub_sub_self] at this
      exact (prm_dvd hp a5).resolve_left hw0
  exact fun y hy => key _ hy y rfl
theorem cv_sub_r (F G G' : Ser) (v : List Nat) : conv F (fun x => G x - G' x) v = conv F G v - conv F G' v := by
  have e : ∀ x, (fun x => G x - G' x) x = (fun x => G x + (-1) * G' x) x := fun x => by dsimp only; omega
  rw [conv_congr (fun _ => rfl) e, conv_addr, conv_mulr]; omega
theorem cv_sub_l (F F' G : Ser) (v : List Nat) : conv (fun x => F x - F' x) G v = conv F G v - conv F' G v := by
  have e : ∀ x, (fun x => F x - F' x) x = (fun x => F x + (-1) * F' x) x := fun x => by dsimp only; omega
  rw [conv_congr e (fun _ => rfl), conv_addl, conv_mull]; omega
theorem cv_cancel {p : Int} {n : Nat} {t x y : Ser} (hp : Prm p) (ht : Exo p n t) (h : Sm p (conv t x) (conv t y)) : Sm p x y := by
  refine Sm.of_dvd fun v => ?_
  have := Lo.quot (m := n + v.length + 1) (e := fun v => x v - y v) hp ht (fun z _ => by rw [cv_sub_r]; exact h.dvd z)
  exact this v (by omega)
theorem exo_of {p : Int} {F : Ser} : ∀ (n : Nat), (∃ v : List Nat, v.length = n ∧ ¬ p ∣ F v) → ∃ m, m ≤ n ∧ Exo p m F := by
  intro n
  induction n using Nat.strongRecOn with
  | ind n ih =>
    rintro ⟨v, hv, h0⟩
    by_cases hl : Lo p n F
    · exact ⟨n, Nat.le_refl _, hl, v, hv, h0⟩
    · obtain ⟨u, hu, hu0⟩ : ∃ u : List Nat, u.length < n ∧ ¬ p ∣ F u := by
        false_or_by_contra
        rename_i hne
        refine hl fun u hu => ?_
        false_or_by_contra
        rename_i h9
        exact hne ⟨u, hu, h9⟩
      obtain ⟨m, hm, e⟩ := ih u.length hu ⟨u, rfl, hu0⟩
      exact ⟨m, by omega, e⟩
theorem least_nat {P : Nat → Prop} : ∀ n, P n → ∃ m, P m ∧ ∀ k, k < m → ¬ P k := by
  intro n
  induction n using Nat.strongRecOn with
  | ind n ih =>
    intro hn
    by_cases h : ∃ k, k < n ∧ P k
    · obtain ⟨k, hk, hP⟩ := h
      exact ih k hk hP
    · exact ⟨n, hn, fun k hk hP => h ⟨k, hk, hP⟩⟩
/-! #### the inverse -/
theorem parts_len : ∀ {v : List Nat} {q : List Nat × List Nat}, q ∈ parts v → q.2.length ≤ v.length
  | [], q, h => by rw [List.mem_singleton.mp h]; exact Nat.le_refl _
  | c :: v, q, h => by
    rcases List.mem_cons.mp h with e | e
    · rw [e]; exact Nat.le_refl _
    · obtain ⟨r, hr, rfl⟩ := List.mem_map.mp e
      exact Nat.le_succ_of_le (parts_len (q := r) hr)
def invS (F : Ser) (k : Int) : List Nat → Int
  | [] => k
  | c :: v => -k * ((parts v).attach.map fun q => F (c :: q.1.1) * invS F k q.1.2).sum
termination_by v => v.length
decreasing_by
  have := parts_len q.2
  show q.1.2.length < v.length + 1
  omega
theorem invS_cons (F : Ser) (k : Int) (c : Nat) (v : List Nat) : invS F k (c :: v) = -k * conv (fun x => F (c :: x)) (invS F k) v := by
  rw [invS]
  have : (List.map (fun q : {q // q ∈ parts v} => F (c :: q.1.1) * invS F k q.1.2) (parts v).attach) = (parts v).map fun q => F (c :: q.1) * invS F k q.2 := by
    conv => rhs; rw [← List.attach_map_subtype_val (parts v), List.map_map]
    rfl
  rw [this]
  rfl
theorem inv_ser {p : Int} {F : Ser} (hp : Prm p) (h : ¬ p ∣ F []) : ∃ g, Sm p (conv F g) delta := by
  have h1 := hp.pos
  have a0 : F [] % p ≠ 0 := fun e => h (Int.dvd_of_emod_eq_zero e)
  have a1 := Int.emod_nonneg (F []) (show p ≠ 0 by omega)
  have a2 := Int.emod_lt_of_pos (F []) (show 0 < p by omega)
  have hk := (inv_one hp (show 0 < F [] % p by omega) a2).1
  have hk' : (F [] * inv p (F [] % p)) % p = 1 := by
    rw [Int.mul_comm, ← hk, Int.mul_emod, Int.mul_emod (inv p (F [] % p)) (F [] % p), Int.emod_emod]
  refine ⟨invS F (inv p (F [] % p)), fun v => ?_⟩
  generalize inv p (F [] % p) = k at hk' ⊢
  cases v with
  | nil =>
    rw [conv_nil, invS, hk']
    exact (Int.emod_eq_of_lt (by decide) h1).symm
  | cons c v =>
    rw [conv_cons, invS_cons]
    have e : ∀ S : Int, F [] * (-k * S) + S = (1 - F [] * k) * S := fun S => by
      rw [Int.sub_mul, Int.one_mul, Int.neg_mul, Int.mul_neg, Int.mul_assoc]; omega
    rw [e]
    have hd : p ∣ 1 - F [] * k := Int.dvd_of_emod_eq_zero (by rw [Int.sub_emod, hk', Int.emod_eq_of_lt (by decide) h1]; rfl)
    rw [Int.emod_eq_zero_of_dvd (Int.dvd_trans hd (Int.dvd_mul_right _ _))]
    show 0 = (if c :: v = [] then (1 : Int) else 0) % p
    rw [if_neg (by simp), Int.zero_emod]
/-- a b = c d, d no longer (at its end) than b: a divides c -/
theorem rigid {p : Int} {a b c d : Ser} {q : Nat} (hp : Prm p) (h : Sm p (conv a b) (conv c d)) (hb : Lo p q b) (hd : Exo p q d) : ∃ e, Sm p c (conv a e) := by
  obtain ⟨hd, w, hw, hw0⟩ := hd
  have e1 : Sm p (conv a fun y => b (y ++ w)) (conv c fun y => d (y ++ w)) := fun u => by
    have x1 := cv_app_r (p := p) (G := b) (v := w) (fun y hy => hb y (by omega)) u a
    have x2 := cv_app_r (p := p) (G := d) (v := w) (fun y hy => hd y (by omega)) u c
    have x3 := h.dvd (u ++ w)
    refine Int.emod_eq_emod_iff_emod_sub_eq_zero.mpr (Int.emod_eq_zero_of_dvd ?_)
    have := Int.dvd_add (Int.dvd_sub x2 x1) x3
    have e : ∀ A B C D : Int, (C - D) - (A - B) + (A - C) = B - D := fun A B C D => by omega
    rwa [e] at this
  obtain ⟨g, hg⟩ := inv_ser (F := fun y => d (y ++ w)) hp (by rw [List.nil_append]; exact hw0)
  refine ⟨conv (fun y => b (y ++ w)) g, ?_⟩
  have z1 : Sm p c (conv c delta) := Sm.of fun v => (conv_delta_r v c).symm
  have z2 : Sm p (conv c delta) (conv c (conv (fun y => d (y ++ w)) g)) := Sm.cv (Sm.refl _) hg.symm
  have z3 : Sm p (conv c (conv (fun y => d (y ++ w)) g)) (conv (conv c fun y => d (y ++ w)) g) := Sm.of fun v => (conv_assoc _ _ _ v).symm
  have z4 : Sm p (conv (conv c fun y => d (y ++ w)) g) (conv (conv a fun y => b (y ++ w)) g) := Sm.cv e1.symm (Sm.refl _)
  exact z1.trans (z2.trans (z3.trans (z4.trans (Sm.of fun v => conv_assoc _ _ _ v))))
/-! #### what changes places -/
def Cm (p : Int) (a b : Ser) : Prop := Sm p (conv a b) (conv b a)
theorem Cm.symm {p : Int} {a b : Ser} (h : Cm p a b) : Cm p b a := Sm.symm h
theorem Cm.self {p : Int} (a : Ser) : Cm p a a := Sm.refl _
theorem Cm.sm {p : Int} {a b b' : Ser} (h : Cm p a b) (e : Sm p b' b) : Cm p a b' := (Sm.cv (Sm.refl a) e).trans (Sm.trans h (Sm.cv e.symm (Sm.refl a)))
theorem Cm.add {p : Int} {a b c : Ser} (h : Cm p a b) (h2 : Cm p a c) : Cm p a (fun x => b x + c x) := fun v => by
  rw [conv_addr, conv_addl, Int.add_emod, h v, h2 v, ← Int.add_emod]
theorem Cm.smul {p : Int} {a b : Ser} (k : Int) (h : Cm p a b) : Cm p a (fun x => k * b x) := fun v => by
  rw [conv_mulr, conv_mull, Int.mul_emod, h v, ← Int.mul_emod]
theorem Cm.one {p : Int} (a : Ser) : Cm p a delta := Sm.of fun v => by rw [conv_delta_l, conv_delta_r]
theorem Cm.zero {p : Int} (a : Ser) : Cm p a (fun _ => 0) := Sm.of fun v => by
  have e : conv a (fun x => 0 * delta x) v = 0 := by rw [conv_mulr, Int.zero_mul]
  rw [conv_zero_l]
  exact (conv_congr (fun _ => rfl) (fun x => (Int.zero_mul _).symm) v).trans e
theorem Cm.mul {p : Int} {a b c : Ser} (h : Cm p a b) (h2 : Cm p a c) : Cm p a (conv b c) := by
  have z1 : Sm p (conv a (conv b c)) (conv (conv a b) c) := Sm.of fun v => (conv_assoc _ _ _ v).symm
  have z2 : Sm p (conv (conv a b) c) (conv (conv b a) c) := Sm.cv h (Sm.refl _)
  have z3 : Sm p (conv (conv b a) c) (conv b (conv a c)) := Sm.of fun v => conv_assoc _ _ _ v
  have z4 : Sm p (conv b (conv a c)) (conv b (conv c a)) := Sm.cv (Sm.refl _) h2
  exact z1.trans (z2.trans (z3.trans (z4.trans (Sm.of fun v => (conv_assoc _ _ _ v).symm))))
/-- a sum of powers of t -/
def evS (t : Ser) : List Int → Ser
  | [] => fun _ => 0
  | c :: cs => fun v => c * delta v + conv t (evS t cs) v
theorem Cm.ev {p : Int} {a t : Ser} (h : Cm p a t) : ∀ cs, Cm p a (evS t cs)
  | [] => Cm.zero a
  | c :: cs => Cm.add (Cm.smul c (Cm.one a)) (Cm.mul h (Cm.ev h cs))
theorem ev_ev {p : Int} (t : Ser) (cs ds : List Int) : Cm p (evS t cs) (evS t ds) := Cm.ev (Cm.ev (Cm.self t) cs).symm ds
theorem cv_near {p : Int} {F F' G G' : Ser} {N : Nat} (h1 : Lo p N fun x => F x - F' x) (h2 : Lo p N fun x => G x - G' x) (v : List Nat) (hv : v.length < N) : conv F G v % p = conv F' G' v % p := by
  refine Int.emod_eq_emod_iff_emod_sub_eq_zero.mpr (Int.emod_eq_zero_of_dvd ?_)
  have a1 := cv_lo_l (p := p) (G := G) v (fun x => F x - F' x) fun y hy => h1 y (by omega)
  have a2 := cv_lo_r (p := p) (G := fun x => G x - G' x) v F' fun y hy => h2 y (by omega)
  rw [cv_sub_l] at a1
  rw [cv_sub_r] at a2
  have := Int.dvd_add a1 a2
  have e : ∀ A B C : Int, A - B + (B - C) = A - C := fun A B C => by omega
  rwa [e] at this
/-- two that change places with a third one, no number, change places -/
theorem comm3_0 {p : Int} {a b c : Ser} (hp : Prm p) (ha0 : p ∣ a []) (hn : ∃ v : List Nat, ¬ p ∣ a v) (hb : Cm p a b) (hc : Cm p a c) : Cm p b c := by
  obtain ⟨v0, hv0⟩ := hn
  have pos_of : ∀ {x : Ser} {m : Nat}, p ∣ x [] → Exo p m x → 1 ≤ m := by
    rintro x m h0 ⟨_, w, hw, hw0⟩
    cases w with
    | nil => exact absurd h0 hw0
    | cons c w => rw [← hw]; exact Nat.succ_le_succ (Nat.zero_le _)
  obtain ⟨m, _, hm⟩ := exo_of v0.length ⟨v0, rfl, hv0⟩
  obtain ⟨n, ⟨hn1, t, hCt, hEt⟩, hleast⟩ := least_nat (P := fun n => 1 ≤ n ∧ ∃ x, Cm p a x ∧ Exo p n x) m ⟨pos_of ha0 hm, a, Cm.self a, hm⟩
  have hmin : ∀ x, Cm p a x → p ∣ x [] → Lo p n x := by
    intro x hx h0 v hv
    false_or_by_contra
    rename_i h9
    obtain ⟨k, hk, e⟩ := exo_of v.length ⟨v, rfl, h9⟩
    exact hleast k (by omega) ⟨pos_of h0 e, x, hx, e⟩
  obtain ⟨e, he⟩ := rigid hp hCt.symm (hmin a (Cm.self a) ha0) hEt
  have hle : Lo p (m - n) e := Lo.quot hp hEt (hm.1.sm he.symm)
  have hnm : n ≤ m := by
    false_or_by_contra
    rename_i h9
    obtain ⟨w, hw, hw0⟩ := hm.2
    exact hw0 (hmin a (Cm.self a) ha0 w (by omega))
  have hdiv : ∀ x, Cm p a x → p ∣ x [] → ∃ f, Sm p x (conv t f) ∧ Cm p a f := by
    intro x hx h0
    have hl := hmin x hx h0
    have z : Sm p (conv t (conv e x)) (conv x a) := (Sm.of fun v => (conv_assoc _ _ _ v).symm).trans ((Sm.cv he.symm (Sm.refl x)).trans hx)
    obtain ⟨f, hf⟩ := rigid hp z (fun v hv => Lo.cv v (m - n) n e hle hl (by omega)) hm
    refine ⟨f, hf, cv_cancel hp hEt ?_⟩
    have z1 : Sm p (conv t (conv a f)) (conv (conv t a) f) := Sm.of fun v => (conv_assoc _ _ _ v).symm
    have z2 : Sm p (conv (conv t a) f) (conv (conv a t) f) := Sm.cv hCt.symm (Sm.refl f)
    have z3 : Sm p (conv (conv a t) f) (conv a (conv t f)) := Sm.of fun v => conv_assoc _ _ _ v
    have z4 : Sm p (conv a (conv t f)) (conv a x) := Sm.cv (Sm.refl _) hf.symm
    have z5 : Sm p (conv x a) (conv (conv t f) a) := Sm.cv hf (Sm.refl _)
    exact z1.trans (z2.trans (z3.trans (z4.trans (Sm.trans hx (z5.trans (Sm.of fun v => conv_assoc _ _ _ v))))))
  have happ : ∀ N x, Cm p a x → ∃ cs, Lo p N fun v => x v - evS t cs v := by
    intro N
    induction N with
    | zero => exact fun x _ => ⟨[], fun v hv => absurd hv (Nat.not_lt_zero _)⟩
    | succ N ih =>
      intro x hx
      obtain ⟨f, hf, hCf⟩ := hdiv (fun v => x v + (-(x [])) * delta v) (Cm.add hx (Cm.smul _ (Cm.one a))) (by
        show p ∣ x [] + (-(x [])) * (if ([] : List Nat) = [] then 1 else 0)
        rw [if_pos rfl, Int.mul_one, Int.add_right_neg]
        exact Int.dvd_zero _)
      obtain ⟨cs, hcs⟩ := ih f hCf
      refine ⟨x [] :: cs, fun v hv => ?_⟩
      have a1 := Lo.cv v n N t hEt.1 hcs (by omega)
      rw [cv_sub_r] at a1
      have a2 := hf.dvd v
      have a3 := Int.dvd_add a2 a1
      show p ∣ x v - (x [] * delta v + conv t (evS t cs) v)
      have e9 : ∀ A B C D E : Int, A + (-B) * C - D + (D - E) = A - (B * C + E) := fun A B C D E => by rw [Int.neg_mul]; omega
      rwa [e9] at a3
  intro v
  obtain ⟨cs, hcs⟩ := happ (v.length + 1) b hb
  obtain ⟨ds, hds⟩ := happ (v.length + 1) c hc
  rw [cv_near hcs hds v (Nat.lt_succ_self _), ev_ev t cs ds v]
  exact (cv_near hds hcs v (Nat.lt_succ_self _)).symm
theorem comm3 {p : Int} {a b c : Ser} (hp : Prm p) (hn : ∃ v : List Nat, v ≠ [] ∧ ¬ p ∣ a v) (hb : Cm p a b) (hc : Cm p a c) : Cm p b c := by
  obtain ⟨v, hv, h0⟩ := hn
  have hz : ∀ {x : Ser}, Cm p a x → Cm p (fun v => a v + (-(a [])) * delta v) x := fun h => (Cm.add h.symm (Cm.smul _ (Cm.one _))).symm
  refine comm3_0 (a := fun v => a v + (-(a [])) * delta v) hp ?_ ⟨v, ?_⟩ (hz hb) (hz hc)
  · show p ∣ a [] + (-(a [])) * (if ([] : List Nat) = [] then 1 else 0)
    rw [if_pos rfl, Int.mul_one, Int.add_right_neg]
    exact Int.dvd_zero _
  · show ¬ p ∣ a v + (-(a [])) * (if v = [] then 1 else 0)
    rw [if_neg hv, Int.mul_zero, Int.add_zero]
    exact h0
end Fp

/-! Dividing: what it tells is a rest; how big things get; bags told backward. -/
namespace Fp
open PySem PySem.W
section
variable {p : Int} {F L : Bg} {t : Str}
theorem word_good {t : Str} (hp : 1 < p) : Good p [(t, (1 : Int))] := ⟨by unfold keys; simp, fun kv h => by rw [List.mem_singleton.mp h]; exact (by decide : (0 : Int) < 1), fun kv h => by rw [List.mem_singleton.mp h]; exact hp⟩
theorem eqv_len {s u : Bg} (gs : Good p s) (gu : Good p u) (h : Eqv s u) : s.length = u.length := by
  have := (keys_perm gs gu (eqv_cf h)).length_eq
  unfold keys at this
  rwa [List.length_map, List.length_map] at this
theorem eqv_of_cf {s u : Bg} (h : ∀ w, cf s w = cf u w) : Eqv s u := fun l => h _
/-- what dividing tells is a rest -/
theorem DivR.sound {f : Bg} {r : Option Bg} (hp : Prm p) (gF : Good p F) (hF : F ≠ []) (h : DivR p F L f r) : ∀ {g : Bg}, r = some g → Good p L → Good p f → (∀ u ∈ keys f, L ≠ [] → leW (lead F ++ u) (lead L) = true ∧ lead F ++ u ≠ lead L) → Good p g ∧ Eqv (plusS p L (prodS p F f) 1) (prodS p F g) := by
  have hp0 : 0 < p := by have := hp.pos; omega
  induction h with
  | @done f =>
    intro g e gL gf hd
    obtain rfl := Option.some.inj e
    refine ⟨gf, fun l => ?_⟩
    rw [cl_plus hp0 Good.nil (Good.prod hp0 F f).nd]
    have : cl [] l = 0 := rfl
    rw [this, Int.zero_add, Int.one_mul]
    exact cl_mod hp0 (Good.prod hp0 F f) l
  | stop q1 q2 => intro g e; cases e
  | @step L f r t q1 q2 _ ih =>
    intro g e gL gf hd
    have hk := divK_bd hp gF gL hF q1
    have hl := divL_lead hp gF gL hF q1 q2
    have ht : t ∉ keys f := fun z => (hd t z q1).2 q2.symm
    have gf' := gf.put (w := t) hk.1 hk.2
    obtain ⟨gg, e2⟩ := ih e (divL_good hp gL) gf' (fun u hu hne => by
      obtain ⟨l1, l2⟩ := hl hne
      have hu' : u ∈ keys f ∨ u = t := by
        rw [keys_put] at hu
        split at hu
        · exact .inl hu
        · rcases List.mem_append.mp hu with z | z
          · exact .inl z
          · exact .inr (List.mem_singleton.mp z)
      rcases hu' with z | z
      · obtain ⟨m1, m2⟩ := hd u z q1
        refine ⟨leW_total.trans _ _ _ m1 l1, fun e => m2 (leW_anti m1 ?_)⟩
        rw [e]
        exact l1
      · rw [z, ← q2]
        exact ⟨l1, l2⟩)
    refine ⟨gg, Eqv.trans (fun l => ?_) e2⟩
    have gt : Good p [(t, (1 : Int))] := word_good hp.pos
    have ef : Eqv (putS f t (divK p F L)) (plusS p f [(t, 1)] (divK p F L)) := eqv_of_cf fun w => by
      rw [cf_put, cf_plus hp0 gf gt.nd]
      by_cases h : w = t
      · subst h
        rw [if_pos rfl, cf_not_mem ht, cf_pos rfl, Int.zero_add, Int.mul_one, Int.emod_eq_of_lt (by omega) hk.2]
      · rw [if_neg h, cf_neg (fun z => h z.symm), cf_nil, Int.mul_zero, Int.add_zero]
        exact (cf_mod hp0 gf w).symm
    have e3 : Eqv (prodS p F (putS f t (divK p F L))) (plusS p (prodS p F f) (withB F t) (divK p F L)) := by
      refine (prod_congr hp0 gF.nd gf'.nd gF.nd (Good.plus hp0 gf _).nd (Eqv.refl _) ef).trans ?_
      rw [← prod_word t gF]
      exact distrib_r hp0 gF gf gt _
    rw [cl_plus hp0 gL (Good.prod hp0 F f).nd, cl_plus hp0 (divL_good hp gL) (Good.prod hp0 F _).nd, e3 l, cl_plus hp0 (Good.prod hp0 F f) (withB_nodup gF.nd)]
    unfold divL
    rw [cl_plus hp0 gL (withB_nodup gF.nd), Int.one_mul, Int.one_mul, ← Int.add_emod]
    congr 1
    rw [Int.neg_mul]
    omega
/-- dividing comes to an end -/
theorem DivR.ends {n : Nat} (hp : Prm p) (gF : Good p F) (hF : F ≠ []) (bF : Bd n F) : ∀ (m : Nat) {L f : Bg}, mu n L < m → Good p L → Bd n L → ∃ r, DivR p F L f r
  | 0, _, _, h, _, _ => absurd h (Nat.not_lt_zero _)
  | m + 1, L, f, h, gL, bL => by
    by_cases hL : L = []
    · subst hL; exact ⟨_, .done⟩
    · by_cases ht : ∃ t, lead L = lead F ++ t
      · obtain ⟨t, ht⟩ := ht
        have h1 := divL_mu hp gF gL hF hL bL ht
        obtain ⟨r, hr⟩ := DivR.ends hp gF hF bF m (L := divL p F L t) (f := putS f t (divK p F L)) (by omega) (divL_good hp gL) (divL_bd bF bL hL ht)
        exact ⟨r, .step hL ht hr⟩
      · exact ⟨_, .stop hL ht⟩
theorem DivR.sound0 {r : Option Bg} {g : Bg} (hp : Prm p) (gF : Good p F) (hF : F ≠ []) (h : DivR p F L [] r) (e : r = some g) (gL : Good p L) : Good p g ∧ Eqv L (prodS p F g) := by
  have hp0 : 0 < p := by have := hp.pos; omega
  obtain ⟨h1, h2⟩ := h.sound hp gF hF e gL Good.nil (fun _ z => nomatch z)
  refine ⟨h1, Eqv.trans (fun l => ?_) h2⟩
  rw [prod_nil, cl_plus hp0 gL (Good.nil (p := p)).nd]
  have : cl [] l = 0 := rfl
  rw [this, Int.mul_zero, Int.add_zero]
  exact (cl_mod hp0 gL l).symm
theorem DivR.planted0 {r : Option Bg} {R : Bg} (hp : Prm p) (gF : Good p F) (hF : F ≠ []) (h : DivR p F L [] r) (gL : Good p L) (gR : Good p R) (e : Eqv L (prodS p F R)) : ∃ f, r = some f ∧ Good p f ∧ Eqv f R := by
  obtain ⟨f, h1, h2, h3⟩ := h.planted hp gF hF gL gR Good.nil e (fun _ _ z => nomatch z)
  exact ⟨f, h1, h2, eqv_of_cf fun w => by rw [h3 w, cf_nil, Int.zero_add]⟩
/-! ### how big things get -/
structure DivJ (p : Int) (F L : Bg) (J : Bg → Bg → Prop) : Prop where
  start : J L []
  step : ∀ L' f' t, J L' f' → L' ≠ [] → lead L' = lead F ++ t → J (divL p F L' t) (putS f' t (divK p F L'))
  size : ∀ L' f', J L' f' → L'.length ≤ 3000000 ∧ f'.length ≤ 3000000
theorem Bd.put' {n : Nat} {s : Bg} {t : Str} {k : Int} (h : Bd n s) (h1 : t.length ≤ n) (h2 : Ltr t.cps.toList) : Bd n (putS s t k) := fun u hu => by
  rw [keys_put] at hu
  split at hu
  · exact h u hu
  · rcases List.mem_append.mp hu with hu | hu
    · exact h u hu
    · rw [List.mem_singleton.mp hu]; exact ⟨h1, h2⟩
theorem tail_bd {n : Nat} (bL : Bd n L) (hL : L ≠ []) (ht : lead L = lead F ++ t) : t.length ≤ n ∧ Ltr t.cps.toList := by
  have h1 := bL _ (lead_mem hL)
  rw [ht, len_app, app_toList] at h1
  exact ⟨by omega, fun c hc => h1.2 c (List.mem_append_right _ hc)⟩
theorem DivJ.small {n : Nat} (hp : Prm p) (gF : Good p F) (hF : F ≠ []) (gL : Good p L) (bF : Bd n F) (bL : Bd n L) (hU : lenU n ≤ 3000000) : DivJ p F L fun L' f' => Good p L' ∧ Bd n L' ∧ Good p f' ∧ Bd n f' where
  start := ⟨gL, bL, Good.nil, fun _ h => nomatch h⟩
  step := fun L' f' t ⟨g1, b1, g2, b2⟩ hne ht => by
    have hk := divK_bd hp gF g1 hF hne
    obtain ⟨t1, t2⟩ := tail_bd b1 hne ht
    exact ⟨divL_good hp g1, divL_bd bF b1 hne ht, g2.put hk.1 hk.2, b2.put' t1 t2⟩
  size := fun L' f' ⟨g1, b1, g2, b2⟩ => ⟨Nat.le_trans (b1.len g1.nd) hU, Nat.le_trans (b2.len g2.nd) hU⟩
theorem DivJ.stop (h : ¬ ∃ t, lead L = lead F ++ t) (hl : L.length ≤ 3000000) : DivJ p F L fun L' f' => L' = L ∧ f' = [] where
  start := ⟨rfl, rfl⟩
  step := fun L' f' t ⟨e, _⟩ hne ht => absurd ⟨t, by rw [← e]; exact ht⟩ h
  size := fun L' f' ⟨e1, e2⟩ => by rw [e1, e2]; exact ⟨hl, Nat.zero_le _⟩
theorem drop_len {s : Bg} {t : Str} (hn : (keys s).Nodup) (h : t ∈ keys s) : (dropS s t).length + 1 ≤ s.length := by
  have h1 := len_sub (l := t :: keys (dropS s t)) (m := keys s) (List.nodup_cons.mpr ⟨fun z => by
    rw [keys_drop] at z
    exact absurd (List.mem_filter.mp z).2 (by simp), by rw [keys_drop]; exact hn.filter _⟩) (fun u hu => by
    rcases List.mem_cons.mp hu with z | z
    · rw [z]; exact h
    · rw [keys_drop] at z
      exact (List.mem_filter.mp z).1)
  unfold keys at h1
  rw [List.length_cons, List.length_map, List.length_map] at h1
  exact h1
/-- a product and short words more -/
theorem DivJ.long {R S : Bg} (hp : Prm p) (gF : Good p F) (hF : F ≠ []) (gL : Good p L) (gR : Good p R) (gS : Good p S) (hS : ∀ u ∈ keys S, u.length < (lead F).length) (he : Eqv L (plusS p (prodS p F R) S 1)) (hm : F.length * R.length + S.length ≤ 3000000) (hr : R.length ≤ 3000000) :
    DivJ p F L fun L' f' => ∃ R', Good p R' ∧ Good p L' ∧ Eqv L' (plusS p (prodS p F R') S 1) ∧ f'.length + R'.length ≤ R.length where
  start := ⟨R, gR, gL, he, by simp⟩
  step := fun L' f' t ⟨R', gR', gL', he', hlen⟩ hne ht => by
    have hp0 : 0 < p := by have := hp.pos; omega
    have hcf : ∀ w, cf L' w = (cf (prodS p F R') w + cf S w) % p := fun w => by rw [eqv_cf he' w, cf_plus hp0 (Good.prod hp0 F R') gS.nd, Int.one_mul]
    have hlS : ∀ w, (lead F).length ≤ w.length → cf S w = 0 := fun w hw => cf_not_mem fun z => by
      have := hS w z
      omega
    have hcl : ∀ w, (lead F).length ≤ w.length → cf L' w = cf (prodS p F R') w := fun w hw => by rw [hcf w, hlS w hw, Int.add_zero]; exact cf_mod hp0 (Good.prod hp0 F R') w
    have hll : (lead F).length ≤ (lead L').length := by rw [ht, len_app]; omega
    have hmem : lead L' ∈ keys (prodS p F R') := by
      rw [cf_ne (Good.prod hp0 F R'), ← hcl _ hll]
      exact (cf_ne gL').mp (lead_mem hne)
    have hR' : R' ≠ [] := fun z => by
      subst z
      rw [prod_nil] at hmem
      cases hmem
    obtain ⟨m1, m2, m3⟩ := prod_lead hp gF gR' hF hR'
    have hle := lead_len hmem
    have hin : lead (prodS p F R') ∈ keys L' := by
      rw [cf_ne gL', hcl _ (by omega)]
      rw [m2]
      exact (cf_ne (Good.prod hp0 F R')).mp m1
    have el : lead L' = lead (prodS p F R') := leW_anti (lead_le hin) (lead_le hmem)
    obtain rfl : t = lead R' := app_cancel_l (ht.symm.trans (el.trans m2))
    have ek : divK p F L' = cf R' (lead R') := by
      unfold divK
      rw [hcl _ hll, el, m2, m3]
      exact step_back hp (cf_pos_of gR' (lead_mem hR')) (cf_lt_of hp0 gR') (cf_pos_of gF (lead_mem hF)) (cf_lt_of hp0 gF)
    have gw : Good p [(lead R', (1 : Int))] := word_good hp.pos
    have hd : Eqv (dropS R' (lead R')) (plusS p R' [(lead R', 1)] (-(divK p F L'))) := eqv_of_cf fun w => by
      rw [cf_drop, cf_plus hp0 gR' gw.nd]
      by_cases h : w = lead R'
      · subst h
        rw [if_pos rfl, cf_pos rfl, ek, Int.mul_one, Int.add_right_neg]
        exact (Int.zero_emod p).symm
      · rw [if_neg h, cf_neg (fun z => h z.symm), cf_nil, Int.mul_zero, Int.add_zero]
        exact (cf_mod hp0 gR' w).symm
    refine ⟨dropS R' (lead R'), gR'.drop, divL_good hp gL', fun l => ?_, ?_⟩
    · have e3 : Eqv (prodS p F (dropS R' (lead R'))) (plusS p (prodS p F R') (withB F (lead R')) (-(divK p F L'))) := by
        refine (prod_congr hp0 gF.nd gR'.drop.nd gF.nd (Good.plus hp0 gR' _).nd (Eqv.refl _) hd).trans ?_
        rw [← prod_word (lead R') gF]
        exact distrib_r hp0 gF gR' gw _
      unfold divL
      rw [cl_plus hp0 gL' (withB_nodup gF.nd), he' l, cl_plus hp0 (Good.prod hp0 F R') gS.nd, cl_plus hp0 (Good.prod hp0 F _) gS.nd, e3 l, cl_plus hp0 (Good.prod hp0 F R') (withB_nodup gF.nd), Int.emod_add_emod, Int.emod_add_emod]
      congr 1
      omega
    · have h1 := drop_len gR'.nd (lead_mem hR')
      have h2 := len_put f' (lead R') (divK p F L')
      omega
  size := fun L' f' ⟨R', gR', gL', he', hlen⟩ => by
    have hp0 : 0 < p := by have := hp.pos; omega
    have h1 := eqv_len gL' (Good.plus hp0 (Good.prod hp0 F R') S) he'
    have h2 := len_plus (p := p) (s := prodS p F R') (t := S) 1
    have h3 := len_prod (p := p) (s := F) (t := R')
    have h4 : F.length * R'.length ≤ F.length * R.length := Nat.mul_le_mul_left _ (by omega)
    exact ⟨by omega, by omega⟩
end
/-! ### bags told backward -/
def revW (w : Str) : Str := ofL w.cps.toList.reverse
theorem revW_revW (w : Str) : revW (revW w) = w := by
  unfold revW
  rw [toList_ofL, List.reverse_reverse, ofL_toList]
theorem revW_app (a b : Str) : revW (a ++ b) = revW b ++ revW a := by
  unfold revW
  rw [app_toList, List.reverse_append, ofL_app]
theorem revW_inj {a b : Str} (h : revW a = revW b) : a = b := by rw [← revW_revW a, h, revW_revW]
theorem revW_len (w : Str) : (revW w).length = w.length := by
  rw [← str_len, ← str_len]
  unfold revW
  rw [toList_ofL, List.length_reverse]
def turnS (s : Bg) : Bg := s.map fun kv => (revW kv.1, kv.2)
theorem turnS_turnS (s : Bg) : turnS (turnS s) = s := by
  unfold turnS
  rw [List.map_map]
  conv => rhs; rw [← List.map_id s]
  refine List.map_congr_left fun kv _ => ?_
  simp [revW_revW]
theorem turn_keys (s : Bg) : keys (turnS s) = (keys s).map revW := by
  unfold turnS keys
  rw [List.map_map, List.map_map]
  rfl
theorem turn_nodup {s : Bg} (h : (keys s).Nodup) : (keys (turnS s)).Nodup := by
  rw [turn_keys]
  exact List.Pairwise.map _ (fun a b q e => q (revW_inj e)) h
theorem turn_good {p : Int} {s : Bg} (g : Good p s) : Good p (turnS s) := ⟨turn_nodup g.nd, fun kv h => by
    obtain ⟨q, hq, rfl⟩ := List.mem_map.mp h
    exact g.lo q hq, fun kv h => by
    obtain ⟨q, hq, rfl⟩ := List.mem_map.mp h
    exact g.hi q hq⟩
theorem turn_len (s : Bg) : (turnS s).length = s.length := List.length_map _
theorem turn_ne {s : Bg} (h : s ≠ []) : turnS s ≠ [] := fun e => h (List.map_eq_nil_iff.mp e)
theorem cf_turn {s : Bg} (hn : (keys s).Nodup) (w : Str) : cf (turnS s) w = cf s (revW w) := by
  by_cases h : revW w ∈ keys s
  · obtain ⟨n, hm⟩ := mem_keys.mp h
    rw [cf_of_mem hn hm, cf_of_mem (turn_nodup hn) (n := n) (List.mem_map.mpr ⟨_, hm, by simp [revW_revW]⟩)]
  · rw [cf_not_mem h, cf_not_mem]
    rw [turn_keys]
    intro z
    obtain ⟨v, hv, e⟩ := List.mem_map.mp z
    exact h (by rw [← e, revW_revW]; exact hv)
theorem turn_eqv {s u : Bg} (hs : (keys s).Nodup) (hu : (keys u).Nodup) (h : Eqv s u) : Eqv (turnS s) (turnS u) := eqv_of_cf fun w => by rw [cf_turn hs, cf_turn hu, eqv_cf h]
theorem turn_prod {p : Int} {s u : Bg} (hp : 0 < p) : Eqv (turnS (prodS p s u)) (prodS p (turnS u) (turnS s)) := eqv_of_cf fun w => by
  rw [cf_turn (Good.prod hp s u).nd, cf_prod hp, cf_prod hp]
  congr 1
  unfold cvS turnS
  rw [sumL_map, sumL_swap]
  refine sumL_congr fun b _ => ?_
  rw [sumL_map]
  refine sumL_congr fun a _ => ?_
  by_cases h : a.1 ++ b.1 = revW w
  · rw [if_pos h, if_pos]
    · exact Int.mul_comm _ _
    · show revW b.1 ++ revW a.1 = w
      rw [← revW_app, h, revW_revW]
  · rw [if_neg h, if_neg]
    intro e
    refine h ?_
    rw [← e]
    show _ = revW (revW b.1 ++ revW a.1)
    rw [← revW_app, revW_revW]
theorem turn_bd {n : Nat} {s : Bg} (h : Bd n s) : Bd n (turnS s) := fun u hu => by
  rw [turn_keys] at hu
  obtain ⟨v, hv, rfl⟩ := List.mem_map.mp hu
  rw [revW_len]
  refine ⟨(h v hv).1, fun c hc => (h v hv).2 c ?_⟩
  unfold revW at hc
  rw [toList_ofL] at hc
  exact List.mem_reverse.mp hc
end Fp

/-! A text told backward. -/
namespace Fp
open PySem L2 PyProof.Rows
section
variable {X : Cx}
theorem rev_sliceBy (x : Str) (u : Tok) : Txt.sliceBy x none none (-1, u) = revW x := by
  refine str_ext ?_
  rw [step_rev_list]
  unfold revW
  rw [toList_ofL]
  refine List.ext_getElem? fun i => ?_
  rcases Nat.lt_or_ge i x.length with h | h
  · have h2 : x.length - 1 - i < x.cps.toList.length := by rw [str_len]; omega
    rw [List.getElem?_map, List.getElem?_range h, List.getElem?_reverse (by rw [str_len]; exact h), str_len, List.getElem?_eq_getElem h2]
    have h3 : x.length - 1 - i < x.cps.size := by show _ < x.length; omega
    show some (x.cps.getD (x.length - 1 - i) 0) = _
    simp [Array.getD, h3]
  · rw [List.getElem?_eq_none (by simp; exact h), List.getElem?_eq_none (by rw [List.length_reverse, str_len]; exact h)]
def tRevS (te : TE) : TE := fun σ H Q => te σ H fun x H1 => ∃ z, x = .str z ∧ z.length ≤ sizeLine ∧ Q (.str (revW z)) H1
theorem g_revS {te : TE} {σ : L2.St} {H : Hp} {Q : VK} (h : te σ H fun x H1 => ∃ z, x = .str z ∧ z.length ≤ sizeLine ∧ Q (.str (revW z)) H1) : tRevS te σ H Q := h
theorem pe_revS {e : Expr} {te : TE} {k : Nat} {p1 p2 p3 pos : Pos} (he : PE X e te) : PE X (.Subscript e (.Slice none none (some (.UnaryOp .USub (.Constant (.int 1) k p1) p2)) p3) pos) (tRevS te) := by
  refine ⟨fun pins s σ H Q I h => ?_⟩
  refine Subscript_ (thn (he.run pins s σ H _ I h) fun v s1 ⟨x, H1, I1, r1, q1⟩ => ?_)
  obtain ⟨z, ex, hz, q⟩ := q1
  subst ex
  obtain ⟨t, rfl⟩ := r1
  have hst : PO X (some (.UnaryOp .USub (.Constant (.int 1) k p1) p2)) (tPart (tUn (rU fun i => .int (-i)) (tC (.int 1)))) := po_some (pe_un un_neg pe_int)
  refine wpAny_Slice (thn (po_none.run pins s1 σ H1 (fun o H2 => o = none ∧ H2 = H1) I1 ⟨rfl, rfl⟩) fun vl s2 ⟨l, H2, I2, pl, el, e2⟩ => ?_)
  subst el e2
  refine thn (po_none.run pins s2 σ H2 (fun o H3 => o = none ∧ H3 = H2) I2 ⟨rfl, rfl⟩) fun vu s3 ⟨u, H3, I3, pu, eu, e3⟩ => ?_
  subst eu e3
  refine thn (hst.run pins s3 σ H3 (fun o H4 => o = some (-1) ∧ H4 = H3) I3 ⟨1, rfl, -1, rfl, rfl, rfl⟩) fun vs s4 ⟨o, H4, I4, ps, eo, e4⟩ => ?_
  subst eo e4
  have I5 : Inv X pins σ H4 { s4 with heap := s4.heap.push { cls := .type "slice", data := .fields #[vl, vu, vs] } } := I4.kept (t' := s4.toks) fun b ob q => Heap.get?_push_of_some _ q
  show wpAny (model X.prog X.w) X.A (subscriptTail e (.Slice none none (some (.UnaryOp .USub (.Constant (.int 1) k p1) p2)) p3) (.str z t) (.ref s4.heap.objs.size)) (EP X pins σ Q) X.xe { s4 with heap := s4.heap.push { cls := .type "slice", data := .fields #[vl, vu, vs] } }
  obtain ⟨l, rfl, el⟩ := IsPart.raw pl
  obtain ⟨u, rfl, eu⟩ := IsPart.raw pu
  obtain ⟨sv, rfl, es⟩ := IsPart.raw ps
  have hl : l = none := by cases l with | none => rfl | some q => cases el
  have hu : u = none := by cases u with | none => rfl | some q => cases eu
  subst hl hu
  obtain ⟨⟨j, tk⟩, rfl⟩ : ∃ q, sv = some q := by cases sv with | none => cases es | some q => exact ⟨q, rfl⟩
  obtain rfl : j = -1 := Option.some.inj es
  refine tail_any (ops := [.ref s4.heap.objs.size, .str z t]) (typeIs_str _ z t) F.slot_str_getitem.lookup (wpAny_getItem_str_slice (l := none) (u := none) (st := some (-1, tk)) ⟨_, Heap.get?_push_size _ rfl, rfl, rfl⟩ rfl ?_) (by with_unfolding_all rfl)
  have hsm : sliceMade z t none none (some (-1, tk)) = Made.str (revW z) := by
    rw [← rev_sliceBy z tk]
    rfl
  rw [hsm]
  exact ⟨by rw [revW_len]; exact hz, .str _, H4, I5.tok _, ⟨_, rfl⟩, q⟩
end
end Fp

namespace Fp
open PySem
/-! ### bags that change places -/
def Com (p : Int) (s t : Bg) : Prop := Eqv (prodS p s t) (prodS p t s)
theorem com_cf {p : Int} {s t : Bg} : (∀ w, cf (prodS p s t) w = cf (prodS p t s) w) ↔ Com p s t := ⟨fun h => eqv_of_cf h, fun h w => eqv_cf h w⟩
theorem com_cm {p : Int} {s t : Bg} (hp : 0 < p) (hs : (keys s).Nodup) (ht : (keys t).Nodup) : Com p s t ↔ Cm p (cl s) (cl t) := by
  unfold Com Cm Eqv Sm
  exact ⟨fun h v => by rw [← cl_prod hp hs ht, ← cl_prod hp ht hs]; exact h v, fun h v => by rw [cl_prod hp hs ht, cl_prod hp ht hs]; exact h v⟩
theorem sm_prod {p : Int} {s t : Bg} (hp : 0 < p) (hs : (keys s).Nodup) (ht : (keys t).Nodup) : Sm p (cl (prodS p s t)) (conv (cl s) (cl t)) := fun v => by rw [cl_prod hp hs ht, Int.emod_emod]
theorem sm_plus {p : Int} {s t : Bg} (hp : 0 < p) (hs : Good p s) (ht : (keys t).Nodup) (f : Int) : Sm p (cl (plusS p s t f)) (fun x => cl s x + f * cl t x) := fun v => by rw [cl_plus hp hs ht, Int.emod_emod]
theorem cl_nil (l : List Nat) : cl [] l = 0 := rfl
theorem Com.symm {p : Int} {s t : Bg} (h : Com p s t) : Com p t s := Eqv.symm h
theorem Com.comm {p : Int} {s t : Bg} : Com p s t ↔ Com p t s := ⟨Com.symm, Com.symm⟩
theorem Com.self {p : Int} (s : Bg) : Com p s s := Eqv.refl _
section
variable {p : Int} {s t u m : Bg}
theorem Com.nil (hp : 0 < p) (gt : Good p t) : Com p [] t := (com_cm (s := []) hp List.nodup_nil gt.nd).mpr (Cm.symm (Cm.sm (Cm.zero (cl t)) (Sm.of cl_nil)))
theorem cl_num (n : Int) (l : List Nat) : cl [("", n)] l = n * delta l := by
  unfold cl delta
  by_cases h : l = []
  · rw [if_pos h, h, Int.mul_one]
    exact cf_pos rfl
  · rw [if_neg h, Int.mul_zero, cf_neg, cf_nil]
    exact fun e => h (ofL_inj.mp (e.symm : ofL l = ofL []))
theorem Com.num {n : Int} (hp : 0 < p) (gt : Good p t) : Com p [("", n)] t := (com_cm hp (by unfold keys; simp) gt.nd).mpr (Cm.symm (Cm.sm (Cm.smul n (Cm.one (cl t))) (Sm.of (cl_num n))))
theorem Com.prod (hp : 0 < p) (gm : Good p m) (gs : Good p s) (gt : Good p t) (h : Com p m s) (h2 : Com p m t) : Com p m (prodS p s t) :=
  (com_cm hp gm.nd (Good.prod hp s t).nd).mpr (Cm.sm (Cm.mul ((com_cm hp gm.nd gs.nd).mp h) ((com_cm hp gm.nd gt.nd).mp h2)) (sm_prod hp gs.nd gt.nd))
theorem Com.plus (f : Int) (hp : 0 < p) (gm : Good p m) (gs : Good p s) (gt : Good p t) (h : Com p m s) (h2 : Com p m t) : Com p m (plusS p s t f) :=
  (com_cm hp gm.nd (Good.plus hp gs t).nd).mpr (Cm.sm (Cm.add ((com_cm hp gm.nd gs.nd).mp h) (Cm.smul f ((com_cm hp gm.nd gt.nd).mp h2))) (sm_plus hp gs gt.nd f))
theorem Com.unplus (f : Int) (hp : 0 < p) (gm : Good p m) (gs : Good p s) (gt : Good p t) (h : Com p m (plusS p s t 1)) (h2 : Com p m s) : Com p m t := by
  refine (com_cm hp gm.nd gt.nd).mpr ?_
  have a := (com_cm hp gm.nd (Good.plus hp gs t).nd).mp h
  refine Cm.sm (Cm.add a (Cm.smul (-1) ((com_cm hp gm.nd gs.nd).mp h2))) (Sm.symm ?_)
  intro v
  have := sm_plus hp gs gt.nd 1 v
  show (cl (plusS p s t 1) v + -1 * cl s v) % p = cl t v % p
  rw [Int.add_emod, this, ← Int.add_emod]
  congr 1
  dsimp only
  omega
theorem Com.pow (hp : 1 < p) (gm : Good p m) (gs : Good p s) (h : Com p m s) (pw : Nat → Bg) (h0 : pw 0 = one1) (hS : ∀ n, pw (n + 1) = prodS p (pw n) s) : ∀ n, Good p (pw n) ∧ Com p m (pw n)
  | 0 => by
    rw [h0]
    exact ⟨one1_good hp, (Com.num (by omega) gm).symm⟩
  | n + 1 => by
    obtain ⟨g, c⟩ := Com.pow hp gm gs h pw h0 hS n
    rw [hS]
    exact ⟨Good.prod (by omega) _ _, Com.prod (by omega) gm g gs c h⟩
theorem com_times {n k : Int} (hp : Prm p) (gs : Good p s) (gt : Good p t) (hn : 0 < n) (hn1 : n < p) : Com p (plusS p [] s n) (plusS p t [("", k)] 1) ↔ Com p s t := by
  have h1 := hp.pos
  have h0 : 0 < p := by omega
  have nk : (keys [(("" : Str), k)]).Nodup := by unfold keys; simp
  rw [com_cm h0 (Good.plus h0 Good.nil s).nd (Good.plus h0 gt _).nd, com_cm h0 gs.nd gt.nd]
  have e1 : Sm p (cl (plusS p [] s n)) (fun x => n * cl s x) := (sm_plus h0 Good.nil gs.nd n).trans (Sm.of fun v => by rw [cl_nil, Int.zero_add])
  have e2 : Sm p (cl (plusS p t [("", k)] 1)) (fun x => cl t x + k * delta x) := (sm_plus h0 gt nk 1).trans (Sm.of fun v => by rw [cl_num, Int.one_mul])
  constructor
  · intro h
    have a1 : Cm p (cl t) (cl (plusS p [] s n)) := by
      refine Cm.symm (Cm.sm (Cm.add h (Cm.smul (-k) (Cm.one _))) (Sm.symm ?_))
      intro v
      show (cl (plusS p t [("", k)] 1) v + -k * delta v) % p = cl t v % p
      rw [Int.add_emod, e2 v, ← Int.add_emod]
      congr 1
      dsimp only
      rw [Int.neg_mul]; omega
    refine Cm.symm (Cm.sm (Cm.smul (inv p n) a1) ?_)
    intro v
    show cl s v % p = (inv p n * cl (plusS p [] s n) v) % p
    rw [Int.mul_emod, e1 v, ← Int.mul_emod, ← Int.mul_assoc, Int.mul_emod, (inv_one hp hn hn1).1, Int.one_mul, Int.emod_emod]
  · intro h
    refine Cm.sm (Cm.add ?_ (Cm.smul k (Cm.one _))) e2
    exact Cm.symm (Cm.sm (Cm.smul n h.symm) e1)
theorem com_turn (hp : 0 < p) (gs : Good p s) (gt : Good p t) : Com p (turnS s) (turnS t) ↔ Com p s t := by
  have a := turn_prod (s := t) (u := s) hp
  have b := turn_prod (s := s) (u := t) hp
  have n1 := (Good.prod hp s t).nd
  have n2 := (Good.prod hp t s).nd
  constructor
  · intro h
    have h' := a.trans (Eqv.trans h b.symm)
    have := turn_eqv (turn_nodup n2) (turn_nodup n1) h'
    rw [turnS_turnS, turnS_turnS] at this
    exact this.symm
  · intro h
    exact a.symm.trans ((turn_eqv n2 n1 (Eqv.symm h)).trans b)
/-- two that change places with a third one of length 1 or more -/
theorem Com.third (hp : Prm p) (gs : Good p s) (gt : Good p t) (gm : Good p m) {w : Str} (hw : w ∈ keys m) (hl : 0 < w.length) (h : Com p m s) (h2 : Com p m t) : Com p s t := by
  have h1 := hp.pos
  have h0 : 0 < p := by omega
  refine (com_cm h0 gs.nd gt.nd).mpr (comm3 hp ⟨w.cps.toList, fun e => ?_, fun hd => ?_⟩ ((com_cm h0 gm.nd gs.nd).mp h) ((com_cm h0 gm.nd gt.nd).mp h2))
  · have : w.length = 0 := by rw [← str_len, e]; rfl
    omega
  · unfold cl at hd
    rw [ofL_toList] at hd
    have p1 := cf_pos_of gm hw
    have p2 := cf_lt h0 gm w
    have := Int.emod_eq_zero_of_dvd hd
    rw [Int.emod_eq_of_lt (by omega) p2] at this
    omega
end
/-! #### words of seven letters -/
theorem shift7 {l : List Nat} (h : l.length = 7) {X Y : List Nat} (e : l.drop 1 ++ (l ++ X) = l ++ (l ++ Y)) : ∃ a, l = List.replicate 7 a := by
  match l, h with
  | [a, b, c, d, x, f, g], _ =>
    simp only [List.drop_succ_cons, List.drop_zero, List.cons_append, List.nil_append, List.cons.injEq] at e
    obtain ⟨rfl, rfl, rfl, rfl, rfl, rfl, _⟩ := e
    exact ⟨_, rfl⟩
end Fp

/-! what in_powers tells: the numbers without 0 at the end; sums of sums; what has numbers changes places -/
namespace Fp
open PySem
variable {p : Int} {b s t : Bg}
/-- without 0 at the end -/
def shortL (l : List Int) : List Int := (l.reverse.dropWhile fun n => decide (n = 0)).reverse
theorem shortL_nil : shortL [] = [] := rfl
theorem shortL_zero {l : List Int} : shortL (l ++ [0]) = shortL l := by
  unfold shortL
  rw [List.reverse_append, List.reverse_singleton, List.singleton_append, List.dropWhile_cons, if_pos (by decide)]
theorem shortL_stop {l : List Int} {n : Int} (h : n ≠ 0) : shortL (l ++ [n]) = l ++ [n] := by
  unfold shortL
  rw [List.reverse_append, List.reverse_singleton, List.singleton_append, List.dropWhile_cons, if_neg (by simpa using h), List.reverse_cons, List.reverse_reverse]
theorem shortL_len (l : List Int) : (shortL l).length ≤ l.length := by
  unfold shortL
  rw [List.length_reverse]
  exact Nat.le_trans ((List.dropWhile_sublist _).length_le) (by rw [List.length_reverse]; exact Nat.le_refl _)
theorem shortL_mem {l : List Int} {n : Int} (h : n ∈ shortL l) : n ∈ l := by
  unfold shortL at h
  rw [List.mem_reverse] at h
  exact List.mem_reverse.mp ((List.dropWhile_sublist _).subset h)
/-! ### sums by numbers -/
theorem sumF_congr {ns ms : Nat → Int} {w : Str} : ∀ {m : Nat}, (∀ i, i < m → ns i = ms i) → sumF p b ns w m = sumF p b ms w m
  | 0, _ => rfl
  | m + 1, h => by rw [sumF, sumF, sumF_congr (m := m) fun i hi => h i (Nat.lt_succ_of_lt hi), h m (Nat.lt_succ_self m)]
theorem sumF_zero {ns : Nat → Int} {w : Str} : ∀ {m : Nat}, (∀ i, i < m → ns i = 0) → sumF p b ns w m = 0
  | 0, _ => rfl
  | m + 1, h => by rw [sumF, sumF_zero (m := m) fun i hi => h i (Nat.lt_succ_of_lt hi), h m (Nat.lt_succ_self m), Int.zero_mul]; rfl
theorem sumF_add {ns ms : Nat → Int} {w : Str} : ∀ {m : Nat}, sumF p b (fun i => ns i + ms i) w m = sumF p b ns w m + sumF p b ms w m
  | 0 => rfl
  | m + 1 => by
    rw [sumF, sumF, sumF, sumF_add (m := m), Int.add_mul]
    omega
theorem sumF_mod {ns ms : Nat → Int} {w : Str} : ∀ {m : Nat}, (∀ i, i < m → ns i % p = ms i % p) → sumF p b ns w m % p = sumF p b ms w m % p
  | 0, _ => rfl
  | m + 1, h => by
    rw [sumF, sumF, Int.add_emod, sumF_mod (m := m) fun i hi => h i (Nat.lt_succ_of_lt hi), Int.mul_emod, h m (Nat.lt_succ_self m), ← Int.mul_emod, ← Int.add_emod]
theorem IsSum.more {ns : Nat → Int} {m : Nat} (h : IsSum p b ns m s) (hz : ns m = 0) : IsSum p b ns (m + 1) s := fun w => by
  rw [h w, sumF, hz, Int.zero_mul, Int.add_zero]
theorem IsSum.less {ns : Nat → Int} {m : Nat} (h : IsSum p b ns (m + 1) s) (hz : ns m = 0) : IsSum p b ns m s := fun w => by
  rw [h w, sumF, hz, Int.zero_mul, Int.add_zero]
theorem IsSum.ext {ns : Nat → Int} {m : Nat} (h : IsSum p b ns m s) : ∀ k, (∀ i, m ≤ i → ns i = 0) → IsSum p b ns (m + k) s
  | 0, _ => h
  | k + 1, hz => (h.ext k hz).more (hz _ (Nat.le_add_right _ _))
theorem IsSum.congr {ns ms : Nat → Int} {m : Nat} (h : IsSum p b ns m s) (e : ∀ i, i < m → ns i = ms i) : IsSum p b ms m s := fun w => by rw [h w, sumF_congr e]
theorem IsSum.plus {ns ms ks : Nat → Int} {m : Nat} (hp : 0 < p) (gs : Good p s) (gt : Good p t) (h : IsSum p b ns m s) (h2 : IsSum p b ms m t) (hk : ∀ i, i < m → ks i % p = (ns i + ms i) % p) : IsSum p b ks m (plusS p s t 1) := fun w => by
  rw [cf_plus hp gs gt.nd, h w, h2 w, Int.one_mul, Int.emod_add_emod, Int.add_emod_emod, ← sumF_add]
  exact (sumF_mod hk).symm
theorem IsSum.snoc {ns : List Int} {n : Int} (hp : Prm p) (gb : Good p b) (hb : b ≠ []) (gs : Good p s) (h : IsSum p b (fun i => ns.getD i 0) ns.length s) : IsSum p b (fun i => (ns ++ [n]).getD i 0) (ns ++ [n]).length (plusS p s (pwS p b ns.length) n) := fun w => by
  have h1 := hp.pos
  have e1 : ∀ i, i < ns.length → ns.getD i 0 = (ns ++ [n]).getD i 0 := fun i hi => by
    rw [List.getD_eq_getElem?_getD, List.getD_eq_getElem?_getD, List.getElem?_append_left hi]
  have e2 : (ns ++ [n]).getD ns.length 0 = n := by
    rw [List.getD_eq_getElem?_getD, List.getElem?_append_right (Nat.le_refl _), Nat.sub_self]
    rfl
  rw [cf_plus (by omega) gs (pw hp gb hb _).g.nd, h w, Int.emod_add_emod, List.length_append, List.length_singleton, sumF, sumF_congr e1]
  show _ = (_ + (ns ++ [n]).getD ns.length 0 * _) % p
  rw [e2]
theorem IsSum.nil {ns : Nat → Int} : IsSum p b ns 0 [] := fun w => by rw [sumF, Int.zero_emod]; rfl
theorem range_getD (l : List Int) : (List.range l.length).map (fun i => l.getD i 0) = l := by
  refine List.ext_getElem (by rw [List.length_map, List.length_range]) fun i h1 h2 => ?_
  rw [List.getElem_map, List.getElem_range, List.getD_eq_getElem?_getD, List.getElem?_eq_getElem h2]
  rfl
/-- what in_powers tells -/
def inP (p : Int) (b s : Bg) : Option (List Int) := (tk p b ((max 0 (sizeS s)).toNat / (lead b).length) s).map shortL
theorem getD_rng {l : List Int} (h0 : 0 < p) (hn : ∀ n ∈ l, 0 ≤ n ∧ n < p) (i : Nat) : 0 ≤ l.getD i 0 ∧ l.getD i 0 < p := by
  rw [List.getD_eq_getElem?_getD]
  cases h : l[i]? with
  | none => exact ⟨Int.le_refl 0, h0⟩
  | some n => exact hn n (List.mem_of_getElem? h)
theorem IsSum.sizeEq (hp : Prm p) (gb : Good p b) (hb : b ≠ []) (hL : 0 < (lead b).length) {ns : Nat → Int} {a : Nat} (gs : Good p s) (h : IsSum p b ns (a + 1) s) (h0 : 0 < ns a) (h1 : ns a < p) : sizeS s = (a * (lead b).length : Nat) := by
  have hP := pw hp gb hb a
  have hz := h.size hp gb hb gs
  have c0 := hP.pos hp
  have hc : cf s (lead (pwS p b a)) ≠ 0 := by
    rw [h, sumF, sumF_off hp gb hb hL hP.l (Nat.le_refl _), Int.zero_add]
    have := prm_mul hp h0 h1 c0.1 c0.2
    omega
  have hm := (cf_ne gs).mpr hc
  have hs : s ≠ [] := fun e => by subst e; cases hm
  have hl := lead_len hm
  rw [hP.l] at hl hz
  unfold sizeS at hz ⊢
  rw [if_neg hs] at hz ⊢
  omega
/-- a sum of powers is told its numbers, without 0 at their end -/
theorem inP_sum (hp : Prm p) (gb : Good p b) (hb : b ≠ []) (hL : 0 < (lead b).length) : ∀ (k : Nat) (ns : List Int), ns.length = k → (∀ n ∈ ns, 0 ≤ n ∧ n < p) → Good p s → IsSum p b (fun i => ns.getD i 0) ns.length s → inP p b s = some (shortL ns)
  | 0, ns, hk, hn, gs, h => by
    have e := List.length_eq_zero_iff.mp hk
    subst e
    have e := IsSum.none gs h
    subst e
    have hz : ∀ i : Nat, (0 : Int) ≤ (fun _ : Nat => (0 : Int)) i ∧ (fun _ : Nat => (0 : Int)) i < p := fun i => ⟨Int.le_refl _, by have := hp.pos; show (0 : Int) < p; omega⟩
    have q := tk_sum hp gb hb hL hz (a := 0) (s := []) gs (IsSum.nil.more rfl)
    unfold inP
    rw [show (max 0 (sizeS [])).toNat = 0 from rfl, Nat.zero_div, q]
    rfl
  | k + 1, ns, hk, hn, gs, h => by
    have h1 := hp.pos
    have hne : ns ≠ [] := fun e => by subst e; cases hk
    have e := List.dropLast_concat_getLast hne
    generalize ns.getLast hne = n at e
    generalize hl : ns.dropLast = l at e
    subst e
    clear hne hl
    have hlk : l.length = k := by rw [List.length_append] at hk; exact Nat.succ.inj hk
    rw [List.length_append, List.length_singleton] at h
    have e2 : (l ++ [n]).getD l.length 0 = n := by
      rw [List.getD_eq_getElem?_getD, List.getElem?_append_right (Nat.le_refl _), Nat.sub_self]
      rfl
    have e1 : ∀ i, i < l.length → (l ++ [n]).getD i 0 = l.getD i 0 := fun i hi => by
      rw [List.getD_eq_getElem?_getD, List.getD_eq_getElem?_getD, List.getElem?_append_left hi]
    by_cases hz : n = 0
    · subst hz
      rw [shortL_zero]
      exact inP_sum hp gb hb hL k l hlk (fun m hm => hn m (List.mem_append_left _ hm)) gs ((h.less e2).congr e1)
    · have hnn := hn n (List.mem_append_right _ List.mem_cons_self)
      have hs := h.sizeEq hp gb hb hL gs (by rw [e2]; omega) (by rw [e2]; omega)
      have q := tk_sum hp gb hb hL (getD_rng (by omega) hn) gs h
      have hr := range_getD (l ++ [n])
      rw [List.length_append, List.length_singleton] at hr
      rw [hr] at q
      unfold inP
      rw [hs, show (max 0 ((l.length * (lead b).length : Nat) : Int)).toNat = l.length * (lead b).length by omega, Nat.mul_div_cancel _ hL, q, Option.map_some, shortL_stop hz]
/-! ### what has numbers changes places with the base -/
theorem com_congr (hp : 0 < p) (gb : (keys b).Nodup) (gs : (keys s).Nodup) (gt : (keys t).Nodup) (e : Eqv s t) (h : Com p b s) : Com p b t :=
  ((prod_congr hp gb gs gb gt (Eqv.refl b) e).symm.trans h).trans (prod_congr hp gs gb gt gb e (Eqv.refl b))
theorem pw_com (hp : Prm p) (gb : Good p b) (hb : b ≠ []) (m : Nat) : Com p b (pwS p b m) := (Com.pow hp.pos gb gb (Com.self b) (pwS p b) rfl (fun _ => rfl) m).2
theorem IsSum.com (hp : Prm p) (gb : Good p b) (hb : b ≠ []) {ns : Nat → Int} : ∀ {m : Nat} {s : Bg}, Good p s → IsSum p b ns m s → Com p b s
  | 0, s, gs, h => by
    rw [h.none gs]
    exact (Com.nil (by have := hp.pos; omega) gb).symm
  | m + 1, s, gs, h => by
    have h1 := hp.pos
    have hP := pw hp gb hb m
    have gt : Good p (plusS p s (pwS p b m) (-ns m)) := Good.plus (by omega) gs _
    have h2 := IsSum.com hp gb hb gt (h.take hp gb hb gs)
    have h3 := Com.plus (ns m) (by omega) gb gt hP.g h2 (pw_com hp gb hb m)
    refine com_congr (by omega) gb.nd (Good.plus (by omega) gt _).nd gs.nd (eqv_of_cf fun w => ?_) h3
    rw [cf_plus (by omega) gt hP.g.nd, cf_plus (by omega) gs hP.g.nd, Int.emod_add_emod, Int.neg_mul, Int.add_assoc, Int.add_left_neg, Int.add_zero, cf_mod (by omega) gs]
theorem inP_com (hp : Prm p) (gb : Good p b) (hb : b ≠ []) {l : List Int} (gs : Good p s) (h : inP p b s = some l) : Com p s b := by
  unfold inP at h
  cases q : tk p b ((max 0 (sizeS s)).toNat / (lead b).length) s with
  | none => rw [q] at h; cases h
  | some l' => exact ((tk_is hp gb hb gs q).2.2.com hp gb hb gs).symm
/-! ### the same, turn by turn -/
def tkR (p : Int) (b : Bg) : Nat → Bg → Option (Bg × List Int)
  | 0, s => some (s, [])
  | a + 1, s => if ((lead (pwS p b a)).length : Int) < sizeS s then none else (tkR p b a (plusS p s (pwS p b a) (-numAt p b s a))).map fun q => (q.1, q.2 ++ [numAt p b s a])
theorem tk_tkR : ∀ (a : Nat) (s : Bg), tk p b a s = (tkR p b (a + 1) s).bind fun q => if q.1 = [] then some q.2 else none
  | 0, s => by
    unfold tk tkR tkR
    by_cases h : ((lead (pwS p b 0)).length : Int) < sizeS s
    · rw [if_pos h, if_pos h]; rfl
    · rw [if_neg h, if_neg h]; rfl
  | a + 1, s => by
    rw [tk, tkR]
    by_cases h : ((lead (pwS p b (a + 1))).length : Int) < sizeS s
    · rw [if_pos h, if_pos h]; rfl
    · rw [if_neg h, if_neg h, tk_tkR a]
      cases tkR p b (a + 1) (plusS p s (pwS p b (a + 1)) (-numAt p b s (a + 1))) with
      | none => rfl
      | some q =>
        show ((if q.1 = [] then some q.2 else none).map _) = if q.1 = [] then some (q.2 ++ [_]) else none
        by_cases e : q.1 = []
        · rw [if_pos e, if_pos e]; rfl
        · rw [if_neg e, if_neg e]; rfl
/-- m turns are left; l stands and f is found -/
def TkS (p : Int) (b : Bg) (n : Nat) (s : Bg) (m : Nat) (l : Bg) (f : List Int) : Prop := tkR p b n s = (tkR p b m l).map fun q => (q.1, q.2 ++ f)
theorem TkS.start {n : Nat} : TkS p b n s n s [] := by
  unfold TkS
  cases tkR p b n s with
  | none => rfl
  | some q => rw [Option.map_some, List.append_nil]
theorem TkS.step {n m : Nat} {l : Bg} {f : List Int} (h : TkS p b n s (m + 1) l f) (hz : ¬ ((lead (pwS p b m)).length : Int) < sizeS l) : TkS p b n s m (plusS p l (pwS p b m) (-numAt p b l m)) (numAt p b l m :: f) := by
  unfold TkS at *
  rw [h, tkR, if_neg hz]
  cases tkR p b m (plusS p l (pwS p b m) (-numAt p b l m)) with
  | none => rfl
  | some q => simp
theorem TkS.stop {n m : Nat} {l : Bg} {f : List Int} (h : TkS p b (n + 1) s (m + 1) l f) (hz : ((lead (pwS p b m)).length : Int) < sizeS l) : tk p b n s = none := by
  unfold TkS at h
  rw [tk_tkR, h, tkR, if_pos hz]
  rfl
theorem TkS.done {n : Nat} {l : Bg} {f : List Int} (h : TkS p b (n + 1) s 0 l f) : tk p b n s = if l = [] then some f else none := by
  unfold TkS at h
  rw [tk_tkR, h, tkR]
  rfl
/-- the one number by which the lead's number is told -/
theorem num_filter (hp : Prm p) {c x : Int} (h0 : 0 < c) (h1 : c < p) (x0 : 0 ≤ x) (x1 : x < p) : (List.range p.toNat).filter (fun k : Nat => decide ((k : Int) * c % p = x)) = [(x * inv p c % p).toNat] := by
  have gen : ∀ q : Nat, (q = 2 ∨ q = 3 ∨ q = 5 ∨ q = 7) → ∀ c : Nat, c < q → 0 < c → ∀ x : Nat, x < q → (List.range q).filter (fun k : Nat => decide (((k : Int) * (c : Int)) % (q : Int) = (x : Int))) = [((x : Int) * inv (q : Int) (c : Int) % (q : Int)).toNat] := by
    intro q hq
    rcases hq with rfl | rfl | rfl | rfl <;> decide
  obtain ⟨q, rfl⟩ : ∃ q : Nat, p = q := ⟨p.toNat, by have := hp.pos; omega⟩
  obtain ⟨c, rfl⟩ : ∃ q : Nat, c = q := ⟨c.toNat, by omega⟩
  obtain ⟨x, rfl⟩ : ∃ q : Nat, x = q := ⟨x.toNat, by omega⟩
  exact gen q (by rcases hp with h | h | h | h <;> omega) c (by omega) (by omega) x (by omega)
/-! ### what is no sum -/
/-- a word between two powers more -/
theorem tk_more (hp : Prm p) (gb : Good p b) (hb : b ≠ []) (hL : 0 < (lead b).length) {ns : Nat → Int} {a : Nat} {u : Str} (gt : Good p t) (h : IsSum p b ns (a + 2) t) (h0 : 0 < ns (a + 1)) (h1 : ns (a + 1) < p) (gu : Good p [(u, (1 : Int))])
    (hu0 : a * (lead b).length < u.length) (hu1 : u.length < (a + 1) * (lead b).length) : inP p b (plusS p t [(u, (1 : Int))] 1) = none := by
  have hp1 := hp.pos
  have hP := pw hp gb hb (a + 1)
  have gs := Good.plus (f := 1) (by omega : 0 < p) gt [(u, (1 : Int))]
  have hcu : ∀ w, w ≠ u → cf [(u, (1 : Int))] w = 0 := fun w hw => cf_not_mem fun z => hw (List.mem_singleton.mp z)
  have hcu1 : cf [(u, (1 : Int))] u = 1 := by rw [cf_pos rfl]
  have hne : lead (pwS p b (a + 1)) ≠ u := fun e => by have := hP.l; rw [e] at this; omega
  have c0 := hP.pos hp
  have ecl : cf (plusS p t [(u, (1 : Int))] 1) (lead (pwS p b (a + 1))) = cf t (lead (pwS p b (a + 1))) := by
    rw [cf_plus (by omega) gt gu.nd, hcu _ hne, Int.mul_zero, Int.add_zero, cf_mod (by omega) gt]
  have en : numAt p b (plusS p t [(u, (1 : Int))] 1) (a + 1) = ns (a + 1) := by
    have := h.num hp gb hb hL (by omega) h1
    unfold numAt at this ⊢
    rw [ecl]
    exact this
  have hst := h.sizeEq hp gb hb hL gt h0 h1
  have htn : t ≠ [] := fun e => by rw [e] at hst; unfold sizeS at hst; rw [if_pos rfl] at hst; omega
  -- the size
  have hsz : sizeS (plusS p t [(u, (1 : Int))] 1) = ((a + 1) * (lead b).length : Nat) := by
    have e1 : lead (plusS p t [(u, (1 : Int))] 1) = lead t := by
      have hlt : (lead t).length = (a + 1) * (lead b).length := by unfold sizeS at hst; rw [if_neg htn] at hst; omega
      refine lead_is ((cf_ne gs).mpr ?_) fun v hv => ?_
      · have hlu : lead t ≠ u := fun e => by rw [e] at hlt; omega
        rw [cf_plus (by omega) gt gu.nd, hcu _ hlu, Int.mul_zero, Int.add_zero, cf_mod (by omega) gt]
        exact (cf_ne gt).mp (lead_mem htn)
      · rcases keys_plus hv with z | z
        · exact lead_le z
        · rw [show v = u from List.mem_singleton.mp z, leW_eq]
          exact decide_eq_true (.inl (by omega))
    have hne2 : plusS p t [(u, (1 : Int))] 1 ≠ [] := fun e => by
      have hlu : lead t ≠ u := fun e => by unfold sizeS at hst; rw [if_neg htn, e] at hst; omega
      have h9 : cf (plusS p t [(u, (1 : Int))] 1) (lead t) = cf t (lead t) := by
        rw [cf_plus (by omega) gt gu.nd, hcu _ hlu, Int.mul_zero, Int.add_zero, cf_mod (by omega) gt]
      rw [e] at h9
      exact (cf_ne gt).mp (lead_mem htn) h9.symm
    unfold sizeS at hst ⊢
    rw [if_neg htn] at hst
    rw [if_neg hne2, e1]
    exact hst
  unfold inP
  rw [hsz, show (max 0 (((a + 1) * (lead b).length : Nat) : Int)).toNat = (a + 1) * (lead b).length by omega, Nat.mul_div_cancel _ hL]
  unfold tk
  rw [if_neg (by rw [hsz, hP.l]; omega), en]
  -- what is left is too long
  have gl := Good.plus (f := -ns (a + 1)) (by omega : 0 < p) gs (pwS p b (a + 1))
  have hcl : cf (plusS p (plusS p t [(u, (1 : Int))] 1) (pwS p b (a + 1)) (-ns (a + 1))) u = 1 := by
    have h5 := h.take hp gb hb gt u
    rw [cf_plus (by omega) gt hP.g.nd, sumF_long hp gb hb hu0 (Nat.le_refl _), Int.zero_emod] at h5
    rw [cf_plus (by omega) gs hP.g.nd, cf_plus (by omega) gt gu.nd, hcu1, Int.emod_add_emod]
    have : cf t u + 1 * 1 + -ns (a + 1) * cf (pwS p b (a + 1)) u = 1 + (cf t u + -ns (a + 1) * cf (pwS p b (a + 1)) u) := by omega
    rw [this, Int.add_emod, h5, Int.add_zero, Int.emod_emod]
    exact Int.emod_eq_of_lt (by omega) hp1
  have hmem := (cf_ne gl).mpr (by rw [hcl]; decide : cf _ u ≠ 0)
  have hn : tk p b a (plusS p (plusS p t [(u, (1 : Int))] 1) (pwS p b (a + 1)) (-ns (a + 1))) = none := by
    have h7 : ((lead (pwS p b a)).length : Int) < sizeS (plusS p (plusS p t [(u, (1 : Int))] 1) (pwS p b (a + 1)) (-ns (a + 1))) := by
      have h8 := lead_len hmem
      have h9 : plusS p (plusS p t [(u, (1 : Int))] 1) (pwS p b (a + 1)) (-ns (a + 1)) ≠ [] := fun e => by rw [e] at hmem; cases hmem
      unfold sizeS
      rw [if_neg h9, (pw hp gb hb a).l]
      omega
    cases a with
    | zero => unfold tk; rw [if_pos h7]
    | succ a => unfold tk; rw [if_pos h7]
  rw [hn]
  rfl
theorem inP_short (hs : s ≠ []) (h0 : 0 < (lead s).length) (h : (lead s).length < (lead b).length) : inP p b s = none := by
  unfold inP
  have e : sizeS s = ((lead s).length : Int) := by unfold sizeS; rw [if_neg hs]
  rw [e, show (max 0 ((lead s).length : Int)).toNat = (lead s).length by omega, Nat.div_eq_of_lt h]
  unfold tk
  rw [if_pos (by rw [e, show pwS p b 0 = one1 from rfl, lead_one]; show (0 : Int) < _; omega)]
  rfl
/-! ### two rows of numbers, laid together -/
def bothN (p : Int) (ns ms : List Int) (i : Nat) : List Int := (List.range ms.length).map fun j => if j < i then (ms.getD j 0 + ns.getD j 0) % p else ms.getD j 0
theorem bothN_len (p : Int) (ns ms : List Int) (i : Nat) : (bothN p ns ms i).length = ms.length := by unfold bothN; rw [List.length_map, List.length_range]
theorem bothN_zero (p : Int) (ns ms : List Int) : bothN p ns ms 0 = ms := by
  have := range_getD ms
  unfold bothN
  simpa using this
theorem bothN_get {ns ms : List Int} {i j : Nat} (h : j < ms.length) : (bothN p ns ms i)[j]? = some (if j < i then (ms.getD j 0 + ns.getD j 0) % p else ms.getD j 0) := by
  unfold bothN
  rw [List.getElem?_map, List.getElem?_range h]
  rfl
theorem bothN_set {ns ms : List Int} {i : Nat} (h : i < ms.length) : (bothN p ns ms i).set i ((ms.getD i 0 + ns.getD i 0) % p) = bothN p ns ms (i + 1) := by
  refine List.ext_getElem? fun j => ?_
  rw [List.getElem?_set]
  by_cases hj : j < ms.length
  · rw [bothN_get hj, bothN_get hj, bothN_len]
    by_cases e : i = j
    · subst e
      rw [if_pos rfl, if_pos h, if_pos (Nat.lt_succ_self i)]
    · rw [if_neg e]
      by_cases h2 : j < i
      · rw [if_pos h2, if_pos (by omega)]
      · rw [if_neg h2, if_neg (by omega)]
  · have e1 : (bothN p ns ms i)[j]? = none := List.getElem?_eq_none (by rw [bothN_len]; omega)
    have e2 : (bothN p ns ms (i + 1))[j]? = none := List.getElem?_eq_none (by rw [bothN_len]; omega)
    rw [e1, e2, if_neg (by omega)]
theorem bothN_past {ns ms : List Int} {i : Nat} (h : ms.length ≤ i) : bothN p ns ms (i + 1) = bothN p ns ms i := by
  unfold bothN
  refine List.map_congr_left fun j hj => ?_
  have := List.mem_range.mp hj
  rw [if_pos (by omega), if_pos (by omega)]
theorem bothN_rng {ns ms : List Int} (h0 : 0 < p) (hm : ∀ n ∈ ms, 0 ≤ n ∧ n < p) {i : Nat} : ∀ n ∈ bothN p ns ms i, 0 ≤ n ∧ n < p := fun n hn => by
  unfold bothN at hn
  obtain ⟨j, _, rfl⟩ := List.mem_map.mp hn
  split
  · exact ⟨Int.emod_nonneg _ (by omega), Int.emod_lt_of_pos _ h0⟩
  · exact getD_rng h0 hm j
theorem both_sum {ns ms : List Int} (hp : 0 < p) (hm : ∀ n ∈ ms, 0 ≤ n ∧ n < p) (gs : Good p s) (gt : Good p t) (hle : ns.length ≤ ms.length) (h : IsSum p b (fun i => ns.getD i 0) ns.length s) (h2 : IsSum p b (fun i => ms.getD i 0) ms.length t) :
    IsSum p b (fun i => (bothN p ns ms ns.length).getD i 0) (bothN p ns ms ns.length).length (plusS p s t 1) := by
  have h3 := h.ext (ms.length - ns.length) fun i hi => by
    show ns.getD i 0 = 0
    rw [List.getD_eq_getElem?_getD, List.getElem?_eq_none hi]
    rfl
  rw [show ns.length + (ms.length - ns.length) = ms.length by omega] at h3
  rw [bothN_len]
  refine h3.plus hp gs gt h2 fun i hi => ?_
  show (bothN p ns ms ns.length).getD i 0 % p = _
  rw [List.getD_eq_getElem?_getD, bothN_get hi, Option.getD_some]
  split
  · rw [Int.emod_emod, Int.add_comm]
  · rename_i hn
    rw [show ns.getD i 0 = 0 by rw [List.getD_eq_getElem?_getD, List.getElem?_eq_none (by omega)]; rfl, Int.zero_add]
end Fp

/-! repr of a tuple of small numbers -/
namespace Fp
open PySem PySem.Spec PyProof.Rows L2
/-- a tuple of numbers, as data -/
def numsD (l : List Int) : PyData := .tuple (l.map PyData.int)
theorem numsD_depth (l : List Int) : (numsD l).depth ≤ 60 := by
  have : PyData.depthAll (l.map PyData.int) = 0 := by
    induction l with
    | nil => rfl
    | cons n l ih =>
      rw [List.map_cons, PyData.depthAll.eq_2, ih]
      rfl
  unfold numsD
  rw [PyData.depth.eq_2, this]
  decide
theorem numsD_noDict (l : List Int) : (numsD l).hasDict = false := by
  have : PyData.hasDictAll (l.map PyData.int) = false := by
    induction l with
    | nil => rfl
    | cons n l ih =>
      rw [List.map_cons, PyData.hasDictAll.eq_2, ih]
      rfl
  exact this
theorem log_small {n : Int} (h0 : 0 ≤ n) (h1 : n < 10) : n.natAbs.log2 < 1920 := by
  rcases (by omega : n = 0 ∨ n = 1 ∨ n = 2 ∨ n = 3 ∨ n = 4 ∨ n = 5 ∨ n = 6 ∨ n = 7 ∨ n = 8 ∨ n = 9) with rfl | rfl | rfl | rfl | rfl | rfl | rfl | rfl | rfl | rfl <;> decide +kernel
theorem shown_small {n : Int} (h0 : 0 ≤ n) (h1 : n < 10) : (PyData.int n).shown.length ≤ 1 := by
  rw [PyData.shown.eq_3]
  rcases (by omega : n = 0 ∨ n = 1 ∨ n = 2 ∨ n = 3 ∨ n = 4 ∨ n = 5 ∨ n = 6 ∨ n = 7 ∨ n = 8 ∨ n = 9) with rfl | rfl | rfl | rfl | rfl | rfl | rfl | rfl | rfl | rfl <;> decide +kernel
theorem numsD_showable {l : List Int} (h : ∀ n ∈ l, 0 ≤ n ∧ n < 10) : (numsD l).showable = true := by
  show PyData.showableAll (l.map PyData.int) = true
  induction l with
  | nil => rfl
  | cons n l ih =>
    have hn := h n List.mem_cons_self
    rw [List.map_cons, PyData.showableAll.eq_2, ih fun m hm => h m (List.mem_cons_of_mem _ hm), PyData.showable.eq_4, decide_eq_true (log_small hn.1 hn.2)]
    rfl
theorem join_len (sep : Str) : ∀ ts : List Str, (sep.join ts).length ≤ (ts.map fun t => t.length + sep.length).sum
  | [] => by
    show (0 : Nat) ≤ _
    exact Nat.zero_le _
  | [t] => by
    show t.length ≤ _
    rw [List.map_singleton, List.sum_singleton]
    exact Nat.le_add_right _ _
  | t :: u :: r => by
    have ih := join_len sep (u :: r)
    have e : sep.join (t :: u :: r) = t ++ sep ++ sep.join (u :: r) := rfl
    rw [e, Str.length_append, Str.length_append, List.map_cons, List.sum_cons]
    omega
theorem numsD_len {l : List Int} (h : ∀ n ∈ l, 0 ≤ n ∧ n < 10) (hl : l.length ≤ 1000) : (numsD l).shown.length ≤ sizeLine := by
  have e : (numsD l).shown = tupleText (PyData.shownAll (l.map PyData.int)) := PyData.shown.eq_6 _
  rw [e]
  unfold tupleText
  rw [Str.length_append, Str.length_append]
  have h1 := join_len (Str.ofString ", ") (PyData.shownAll (l.map PyData.int))
  have h2 : ((PyData.shownAll (l.map PyData.int)).map fun t => t.length + (Str.ofString ", ").length).sum ≤ 3 * l.length := by
    clear h1 e hl
    induction l with
    | nil => exact Nat.le_refl _
    | cons n l ih =>
      have hn := h n List.mem_cons_self
      have h3 := shown_small hn.1 hn.2
      have h4 := ih fun m hm => h m (List.mem_cons_of_mem _ hm)
      rw [List.map_cons, PyData.shownAll.eq_2, List.map_cons, List.sum_cons, List.length_cons]
      have h5 : (Str.ofString ", ").length = 2 := by decide +kernel
      omega
  have h6 : (Str.ofString "(").length = 1 := by decide +kernel
  have h7 : (Str.ofString (if ((PyData.shownAll (l.map PyData.int)).length == 1) = true then ",)" else ")")).length ≤ 2 := by
    split <;> decide +kernel
  exact Nat.le_trans (by omega : _ ≤ 3003) (by decide)
theorem numsD_dp {K : PySem.W.Frag} {H : Hp} {T : Addr} {l : List Int} (h : SqT K H T (l.map V.int)) : Dp K H (.ref T) (numsD l) := by
  refine .tup h ?_
  clear h
  induction l with
  | nil => exact .nil
  | cons n l ih => exact .cons (.int n) ih
/-- repr of such a tuple -/
theorem g_reprT {K : PySem.W.Frag} {H : Hp} {T : Addr} {l : List Int} {Q : VK} (h : SqT K H T (l.map V.int)) (hn : ∀ n ∈ l, 0 ≤ n ∧ n < 10) (hl : l.length ≤ 1000) (q : Q (.str (numsD l).shown) H) : rReprD K [.ref T] H Q :=
  .inr ⟨T, numsD l, rfl, numsD_dp h, numsD_showable hn, numsD_noDict l, numsD_depth l, numsD_len hn hl, q⟩
theorem g_reprN {K : PySem.W.Frag} {H : Hp} {Q : VK} (q : Q (.str "None") H) : rReprD K [.non] H Q := .inl ⟨rfl, q⟩
/-- what in_powers tells, as a value -/
def Told (K : PySem.W.Frag) (H : Hp) (o : Option (List Int)) (v : V) : Prop := (o = none ∧ v = .non) ∨ ∃ T l, o = some l ∧ v = .ref T ∧ SqT K H T (l.map V.int)
def toldS : Option (List Int) → Str
  | none => "None"
  | some l => (numsD l).shown
theorem Told.ex {K : PySem.W.Frag} {H H' : Hp} {o : Option (List Int)} {v : V} (e : Ex H H') (h : Told K H o v) : Told K H' o v := by
  rcases h with h | ⟨T, l, h1, h2, h3⟩
  · exact .inl h
  · exact .inr ⟨T, l, h1, h2, e.sqt h3⟩
theorem Told.repr {K : PySem.W.Frag} {H : Hp} {o : Option (List Int)} {v : V} {Q : VK} (h : Told K H o v) (hn : ∀ l, o = some l → (∀ n ∈ l, 0 ≤ n ∧ n < 10) ∧ l.length ≤ 1000) (q : Q (.str (toldS o)) H) : rReprD K [v] H Q := by
  rcases h with ⟨rfl, rfl⟩ | ⟨T, l, rfl, rfl, h3⟩
  · exact g_reprN q
  · exact g_reprT h3 (hn l rfl).1 (hn l rfl).2 q
/-- the numbers that in_powers tells are small -/
theorem inP_small {p : Int} {b s : Bg} {M : Nat} (hp : Prm p) (gb : Good p b) (hb : b ≠ []) (gs : Good p s) (hM : (max 0 (sizeS s)).toNat / (lead b).length ≤ M) (hM1 : M ≤ 100) {l : List Int} (h : inP p b s = some l) : (∀ n ∈ l, 0 ≤ n ∧ n < 10) ∧ l.length ≤ 1000 := by
  unfold inP at h
  cases q : tk p b ((max 0 (sizeS s)).toNat / (lead b).length) s with
  | none => rw [q] at h; cases h
  | some l' =>
    rw [q] at h
    cases Option.some.inj h
    obtain ⟨i1, i2, _⟩ := tk_is hp gb hb gs q
    have h7 : p ≤ 7 := by rcases hp with h | h | h | h <;> omega
    refine ⟨fun n hn => ?_, ?_⟩
    · have := i2 n (shortL_mem hn)
      omega
    · have := shortL_len l'
      omega
end Fp

/-! sorted(words, key=lambda w: (-len(w), w)) -/
namespace Fp
open PySem PySem.Spec PyProof.Rows L2
/-- the table at P: each code object that it tells bears the name q -/
abbrev TabS := LamX.TabS
theorem triples_app (a b : Int) (t u : Tok) (c : Value) : ∀ l : List Value, TriplesOk l → TriplesOk (l ++ [.int a t, .int b u, c])
  | [], _ => by rw [List.nil_append, TriplesOk.eq_2, TriplesOk.eq_1]; trivial
  | [x], h => by
    rw [TriplesOk.eq_3 [x] (by simp) (by simp)] at h
    exact h.elim
  | [x, y], h => by
    rw [TriplesOk.eq_3 [x, y] (by simp) (by simp)] at h
    exact h.elim
  | x :: y :: z :: r, h => by
    by_cases hx : ∃ i t j u, x = Value.int i t ∧ y = Value.int j u
    · obtain ⟨i, t', j, u', rfl, rfl⟩ := hx
      rw [TriplesOk.eq_2] at h
      rw [List.cons_append, List.cons_append, List.cons_append, TriplesOk.eq_2]
      exact triples_app a b t u c r h
    · rw [TriplesOk.eq_3 (x :: y :: z :: r) (by simp) (fun i t j u _ _ z => hx ⟨i, t, j, u, (List.cons.inj z).1, (List.cons.inj (List.cons.inj z).2).1⟩)] at h
      exact h.elim
section
variable {X : L2.Cx} {pins : List (Addr × Obj)} {σ : L2.St} {H : Hp} {s : Shared} {c P : Addr} {params : Arguments} {body : Expr} {scope : Scope} {pos : Pos}
/-- a lambda is made: its code object is new, or found in the table -/
theorem lam_made {E Q : Value → Shared → Prop} (I : Inv X pins σ H s) (TB : LamX.TabB X.base X.mg c P) (hcode : X.env.code = .ref c) (hT : TabS H P (X.env.qual ++ Str.ofString "<lambda>")) (hdef : defaultsOf params X.env = ([], [])) (hclo : closureFor scope X.env = pure [])
    (h : ∀ (f c' : Addr) (pm ctv : Value) (H1 : Hp) (s' : Shared), Inv X pins σ H1 s' → ExB P H H1 → TabS H1 P (X.env.qual ++ Str.ofString "<lambda>") →
      s'.heap.get? f = some (PySem.W.kla_obj (Str.ofString "<lambda>") (X.env.qual ++ Str.ofString "<lambda>") params body scope [] pm c' ctv) → s'.heap.CodeRec (.ref c') (X.env.qual ++ Str.ofString "<lambda>") → Q (.ref f) s') :
    wpAny (model X.prog X.w) X.A (eval (.Lambda params body scope pos) X.env) Q E s := by
  obtain ⟨ps, hP, tri, hall⟩ := id hT
  have gP : s.heap.get? P = some { cls := Value.none, data := Data.fields ps } := I.hok P _ hP
  have hglob : X.env.globals = mainGlobals := I.ok.glob
  have hns : s.heap.Ns mainGlobals X.mg := I.mod.glob.keeps fun b o q => I.bk b o q
  refine PySem.W.kla_eval hdef ?_
  cases hq : codeAmong pos ps.toList with
  | none =>
    refine PySem.W.kla_makeFunction hclo hglob hns hcode (TB.code.keeps fun b o q => I.bk b o q) gP tri hq TB.gP (TB.bm.keeps fun b o q => I.bk b o q) fun c' ctv h' tk hk hc hc2 hrec hP' => ?_
    obtain ⟨c2, oc, vs, t, e1, e2, e3, e4⟩ := id hrec
    cases e1
    have J := LamX.inv_table (q := X.env.qual ++ Str.ofString "<lambda>") (t' := tk) I hP (fun b o hb q => hk b o hb q) hP' hc ⟨oc, vs, t, e2, e3, e4⟩
    have hcn : H c' = none := I.hok.fresh hc
    have hcP : P ≠ c' := fun e => by rw [e, hcn] at hP; cases hP
    refine h _ c' _ ctv _ _ (J.kept (t' := tk) fun b u q => Heap.get?_push_of_some _ q) (fun a o ha q => ?_) ⟨_, by rw [upd_ne hcP, upd_same], ?_, fun pos2 cv hcv => ?_⟩ (Heap.get?_push_size _ rfl) ⟨c', oc, vs, t, rfl, Heap.get?_push_of_some _ e2, e3, e4⟩
    · have hac : a ≠ c' := fun e => by rw [e, hcn] at q; cases q
      rw [upd_ne hac, upd_ne ha]
      exact q
    · rw [Array.toList_append]
      exact triples_app _ _ _ _ _ _ tri
    · rw [Array.toList_append] at hcv
      rcases LamX.among_app _ tri hcv with z | z
      · obtain ⟨c3, e5, e6⟩ := hall _ _ z
        have hc3P : c3 ≠ P := fun e => by rw [e, hP] at e6; exact LamX.codeO_ne _ (Option.some.inj e6).symm
        have hc3c : c3 ≠ c' := fun e => by rw [e, hcn] at e6; cases e6
        exact ⟨c3, e5, by rw [upd_ne hc3c, upd_ne hc3P]; exact e6⟩
      · exact ⟨c', z, upd_same⟩
  | some cv =>
    obtain ⟨c', rfl, hc'⟩ := hall _ _ hq
    refine PySem.W.kla_makeFunctionHit hclo hglob hns hcode (TB.code.keeps fun b o q => I.bk b o q) gP tri hq (TB.bm.keeps fun b o q => I.bk b o q) fun ctv h' tk hk hsz => ?_
    obtain ⟨oc, vs, t, e2, e3, e4⟩ := (I.hok c' _ hc').1
    have kp : ∀ b u, s.heap.get? b = some u → (h'.push { cls := Value.type "function", data := Data.func (PySem.W.kla_fn (Str.ofString "<lambda>") (X.env.qual ++ Str.ofString "<lambda>") params body scope [] ((X.mg (Str.ofString "__name__")).getD Value.none) (.ref c') ctv) }).get? b = some u := fun b u q => Heap.get?_push_of_some _ (hk b u q)
    exact h _ c' _ ctv H _ (I.kept (t' := tk) kp) (ExB.refl _ _) hT (Heap.get?_push_size _ rfl) ⟨c', oc, vs, t, rfl, kp _ _ e2, e3, e4⟩
end
section
variable {X : L2.Cx} {wn : Str} {pins : List (Addr × Obj)} {σ : L2.St} {H : Hp} {s : Shared} {p1 p2 p3 p4 p5 p6 : Pos} {params : Arguments} {body : Expr} {scope : Scope}
/-- the lambda called -/
theorem lam_call {kk : _} (hbody : body = .Tuple [.UnaryOp .USub (.Call (.Name "len" p1) [.Name wn p2] [] p3) p4, .Name wn p5] kk p6) (hk : scope.kind = .function) (hco : scope.isCoroutine = false) (hgen : scope.isGenerator = false)
    (hwn : scope.names.lookup wn = some .local) (hlen : scope.names.lookup ("len" : Str) = some .globalImplicit) (hwd : (wn == ("__debug__" : Str)) = false)
    (hbind : ∀ (q : Str) (pm cv ctv v : Value), bindArgs (PySem.W.kla_fn (Str.ofString "<lambda>") q params body scope [] pm cv ctv) ⟨[v], []⟩ = pure [(wn, v)]) (bl : X.mg "len" = none) (I : Inv X pins σ H s) {A' : Around} (hr : Room 1 A')
    {f c' : Addr} {q : Str} {pm ctv : Value} (hf : s.heap.get? f = some (PySem.W.kla_obj (Str.ofString "<lambda>") q params body scope [] pm c' ctv)) (hc : s.heap.CodeRec (.ref c') q)
    (x : Str) (t : Tok) (hx : x.length ≤ sizeLine) (h : Heap) (tk : Nat) (keep : ∀ b o, s.heap.get? b = some o → h.get? b = some o) :
    wpAny (model X.prog X.w) A' (call (.ref f) [.str x t]) (PySem.W.KeyPure (keyD x) { s with heap := h, toks := tk }) (fun _ _ => False) { s with heap := h, toks := tk } := by
  have lim : h.NoLimit := I.nolimit.keeps keep
  obtain ⟨c2, oc, vs, tt, e1, e2, e3, e4⟩ := hc
  refine wpAny_call (PySem.W.kla_callFunE hr.depth (keep _ _ hf) rfl hco hgen rfl ⟨c2, oc, vs, tt, e1, keep _ _ e2, e3, e4⟩ ?_)
  rw [hbind]
  refine wpAny_pure ?_
  have hkind : ∀ y ∈ [(wn, Value.str x t)], scope.names.lookup y.1 = some .local ∨ (scope.names.lookup y.1 = some .cell ∧ ((cellsFrom (h.objs.size + 1) scope.names []).lookup y.1).isSome = true) := fun y hy => by
    rw [List.mem_singleton.mp hy]
    exact .inl hwn
  refine wpAny_newFunctionEnv_cells hk hkind fun env he s1 xx => ?_
  obtain ⟨h1, tk1, rfl, hk1⟩ := xx.done
  have hns := xx.toInCall.ns
  refine ⟨lim.keeps hk1, PySem.W.kla_codeExpr ?_⟩
  have henv : env.scope = scope ∧ env.globals = mainGlobals ∧ env.builtins = builtinsNs := by rw [he]; exact ⟨rfl, rfl, rfl⟩
  obtain ⟨e5, e6, e7⟩ := henv
  have kw : env.kindOf wn = some .local := by unfold Env.kindOf; rw [e5]; exact hwn
  have kl : env.kindOf "len" = some .globalImplicit := by unfold Env.kindOf; rw [e5]; exact hlen
  have mw : bindL env.kindOf [(wn, Value.str x t)] (fun _ => none) wn = some (.str x t) := by
    unfold bindL
    simp [bindL, kw]
  have keep1 : ∀ b o, s.heap.get? b = some o → h1.get? b = some o := fun b o q => hk1 b o (keep b o q)
  obtain ⟨mb, b1, b2⟩ := I.mod.blt
  rw [hbody]
  refine wpAny_Tuple_spliced ?_
  refine Calls.spliced_cons (PyProof.Rows.UnaryOp_ (wpAny_Call_Name_kw (Calls.Name_function_global (by rw [e5]; exact hk) kl (Calls.loadGlobal_builtin (by rw [e6]; exact I.mod.glob.keeps fun b o q => keep1 b o (I.bk b o q)) bl
    (by rw [e7]; exact b1.keeps fun b o q => keep1 b o (I.bk b o q)) ((b2 ("len" : Str) (by decide)).trans PySem.boot_len) ?_))))
  refine PyProof.Rows.callWith_builtin1 (Calls.spliced_cons (wpAny_Name (wpAny_loadName_local (by rw [e5]; exact hk) kw hns mw (Calls.spliced_nil ?_)) hwd))
  have hn := L2.line63
  refine PyProof.Rows.len_str (by omega) (PyProof.Rows.neg_int ?_)
  refine Calls.spliced_cons (wpAny_Name (wpAny_loadName_local (by rw [e5]; exact hk) kw hns mw (Calls.spliced_nil ⟨by show 2 ≤ sizeLine; decide, ?_⟩)) hwd)
  refine ⟨_, _, rfl, fun b o q => Heap.get?_push_of_some _ (hk1 b o q), ?_⟩
  exact .tuple (o := { cls := .type "tuple", data := .seq #[.int (-(x.length : Int)) _, .str x t] }) (Heap.get?_push_size _ rfl) rfl rfl (.cons (.int _ _) (.cons (.str _ _) .nil))
end
theorem tab_ne {H : Hp} {P a : Addr} {q : Str} {o : HO} (h : TabS H P q) (ho : H a = some o) (hn : ∀ ps, o ≠ .tbl ps) : a ≠ P := fun e => by
  obtain ⟨ps, hP, _⟩ := h
  rw [e, hP] at ho
  exact hn _ (Option.some.inj ho).symm
theorem sql_exP {K : PySem.W.Frag} {H H' : Hp} {P a : Addr} {q : Str} {xs : List V} (e : ExB P H H') (hT : TabS H P q) (h : SqL K H a xs) : SqL K H' a xs := by
  rcases h with (h | ⟨o, h⟩) | h
  · exact .inl (.inl (e _ _ (tab_ne hT h fun _ z => nomatch z) h))
  · exact .inl (.inr ⟨o, e _ _ (tab_ne hT h fun _ z => nomatch z) h⟩)
  · exact .inr h
/-- sorted(words, key=lambda w: (-len(w), w)) -/
def tSortLam (K : PySem.W.Frag) (P : Addr) (q : Str) (te : TE) : TE := fun σ H Q => te σ H fun x H1 => TabS H1 P q ∧ ∃ (a : Addr) (ws : List Str), x = V.ref a ∧ SqL K H1 a (ws.map V.str) ∧ (∀ w ∈ ws, w.length ≤ sizeLine) ∧
  ∀ H2, ExB P H1 H2 → TabS H2 P q → ∀ r, H2 r = none → Q (.ref r) (upd H2 r (.lst ((ordW ws).map V.str)))
theorem pe_sortLam {X : L2.Cx} {e : Expr} {te : TE} {c P : Addr} {wn : Str} {p pos kpos lpos p1 p2 p3 p4 p5 p6 : Pos} {params : Arguments} {body : Expr} {scope : Scope} {kk : _} (TB : LamX.TabB X.base X.mg c P) (hcode : X.env.code = .ref c) (hg : Gl X "sorted") (hm : X.mg "sorted" = none) (hv : bootBuiltins "sorted" = some (.builtin "sorted")) (bl : X.mg "len" = none) (hr : Room 3 X.A)
    (hbody : body = .Tuple [.UnaryOp .USub (.Call (.Name "len" p1) [.Name wn p2] [] p3) p4, .Name wn p5] kk p6) (hk : scope.kind = .function) (hco : scope.isCoroutine = false) (hgen : scope.isGenerator = false)
    (hwn : scope.names.lookup wn = some .local) (hlen : scope.names.lookup ("len" : Str) = some .globalImplicit) (hwd : (wn == ("__debug__" : Str)) = false)
    (hbind : ∀ (q : Str) (pm cv ctv v : Value), bindArgs (PySem.W.kla_fn (Str.ofString "<lambda>") q params body scope [] pm cv ctv) ⟨[v], []⟩ = pure [(wn, v)]) (hdef : defaultsOf params X.env = ([], [])) (hclo : closureFor scope X.env = pure []) (he : PE X e te)
    (h0 : starEach [e] X.env = (false, eval e X.env) :: starEach [] X.env := by rfl) (h1 : backTo pos (starEach [e] X.env) = (false, eval e X.env) :: backTo pos (starEach [] X.env) := by rfl) (h2 : (backTo pos (starEach [e] X.env)).any (·.1) = false := by rfl) :
    PE X (.Call (.Name "sorted" p) [e] [⟨some "key", .Lambda params body scope lpos, kpos⟩] pos) (tSortLam X.K P (X.env.qual ++ Str.ofString "<lambda>") te) := by
  refine ⟨fun pins s σ H Q I h => ?_⟩
  refine wpAny_Call_Name_kw (ld_blt I hg hm hv ?_)
  have ha : PA X [e] (tCons te tNil) := pa_cons he pa_nil h0
  refine PyProof.Rows.callWith_kw (thn (ha.run pos pins s σ H (fun vs H1 => TabS H1 P (X.env.qual ++ Str.ofString "<lambda>") ∧ ∃ (a : Addr) (ws : List Str), vs = [.ref a] ∧ SqL X.K H1 a (ws.map V.str) ∧ (∀ w ∈ ws, w.length ≤ sizeLine) ∧
    ∀ H2, ExB P H1 H2 → TabS H2 P (X.env.qual ++ Str.ofString "<lambda>") → ∀ r, H2 r = none → Q (.ref r) (upd H2 r (.lst ((ordW ws).map V.str)))) I ?_) fun us s1 ⟨vs, H1, I1, r1, q1⟩ => ?_) h1 h2 rfl rfl
  · have g : te σ H fun x H1 => TabS H1 P (X.env.qual ++ Str.ofString "<lambda>") ∧ ∃ (a : Addr) (ws : List Str), [x] = [V.ref a] ∧ SqL X.K H1 a (ws.map V.str) ∧ (∀ w ∈ ws, w.length ≤ sizeLine) ∧
      ∀ H2, ExB P H1 H2 → TabS H2 P (X.env.qual ++ Str.ofString "<lambda>") → ∀ r, H2 r = none → Q (.ref r) (upd H2 r (.lst ((ordW ws).map V.str))) := by
      have e : (fun (x : V) (H1 : Hp) => TabS H1 P (X.env.qual ++ Str.ofString "<lambda>") ∧ ∃ (a : Addr) (ws : List Str), [x] = [V.ref a] ∧ SqL X.K H1 a (ws.map V.str) ∧ (∀ w ∈ ws, w.length ≤ sizeLine) ∧
        ∀ H2, ExB P H1 H2 → TabS H2 P (X.env.qual ++ Str.ofString "<lambda>") → ∀ r, H2 r = none → Q (.ref r) (upd H2 r (.lst ((ordW ws).map V.str)))) = fun x H1 => TabS H1 P (X.env.qual ++ Str.ofString "<lambda>") ∧ ∃ (a : Addr) (ws : List Str), x = V.ref a ∧ SqL X.K H1 a (ws.map V.str) ∧ (∀ w ∈ ws, w.length ≤ sizeLine) ∧
        ∀ H2, ExB P H1 H2 → TabS H2 P (X.env.qual ++ Str.ofString "<lambda>") → ∀ r, H2 r = none → Q (.ref r) (upd H2 r (.lst ((ordW ws).map V.str))) := by
        funext x H1
        simp only [List.cons.injEq, and_true]
      rw [e]
      exact h
    exact g
  · obtain ⟨hT, a, ws, rfl, hs, hx, q⟩ := q1
    obtain rfl := Vals.ref1 r1
    show wpAny _ _ (evalAll ((do let v ← eval (.Lambda params body scope lpos) X.env; standAt pos; pure v) :: [])) _ _ s1
    refine wpAny_evalAll_cons (wpAny_bind (lam_made I1 TB hcode hT hdef hclo fun f c' pm ctv H2 s2 I2 e2 hT2 hf hc => wpAny_bind (wpAny_standAt (wpAny_pure (wpAny_evalAll_nil ?_)))))
    obtain ⟨its, rv, hl, hz⟩ := I2.list (sql_exP e2 hT hs)
    rw [List.length_map] at hz
    show wpAny _ _ (call (.builtin "sorted") [.ref a] [(Str.ofString "key", .ref f)]) _ _ _
    refine PySem.W.sorted_key_data (R := fun v x => ∃ t, v = Value.str x t) (bs := ws) (b := false) keyD hl.isList (each_strs rv) (PySem.W.AllAlike.of keyD_alike) (PySem.W.Sortable.tuples fun b => ⟨_, _, rfl⟩) hz (fun x _ => ?_) (PyProof.Rows.ksk_s1 _ _) (fun x => PyProof.Rows.ksk_l1 _ _) (fun x => PyProof.Rows.ksk_t1 f x) (fun v x hv hm h tk kk => ?_) (fun out c h' tk keep _ hget hlen ho => ?_)
    · have := hr.un
      have := keyD_depth x
      omega
    · obtain ⟨t, rfl⟩ := hv
      exact lam_call hbody hk hco hgen hwn hlen hwd hbind bl I2 hr.in1.in1 hf hc x t (hx x hm) h tk kk
    · have hl2 : ((ordW ws).map V.str).length ≤ sizeLine := by rw [List.length_map, ordW_len]; exact hz
      exact ⟨.ref _, upd H2 (s2.heap.objs.size + 1) (.lst ((ordW ws).map V.str)), I2.laid (t' := tk) keep (Nat.le_succ _) ⟨hl2, out, c, vals_each ho, hget⟩, rfl, q H2 e2 hT2 _ (I2.hok.fresh (Nat.le_succ _))⟩
end Fp

/-! defs whose code object is known; the end with a table -/
namespace Fp
open PySem PySem.Spec PyProof.Rows L2
/-- the rule for a def whose code object is known -/
theorem fun_okT {P : Program} {w : World} {K : PySem.W.Frag} {mg : Str → Option Value} {base : Heap} {x qual : Str} {st : Stmt} {f c : Addr} {fd : FuncData} {N ps : List Str} {k : Nat} {sp : Sp} (F : Fun K x qual st f fd) (hfd : fd.code = .ref c) (S : FnScope N ps (defScope st)) (len : ∀ vs H Q E, sp vs H Q E → vs.length = ps.length)
    (hbody : ∀ (A : Around) (outer : List Env) (s : Shared) (H : Hp) (vs : List V) (Q : VK) (E : XK), Room k (A.deeper (envOfC qual (defScope st) s.heap.objs.size f (.ref c))) → sp vs H Q E →
      ∃ t, PSs (cxOf CX0 P w K mg base N qual (defScope st) f (.ref c) A outer s H E).nox (defBody st) t ∧ t { nx := fun _ H' => Q .non H', rt := Q } (start N vs) H) : FnOk P w K mg base CX0 (k + 1) f fd ps sp := by
  obtain ⟨oc, od, kV, doc, pm, an, cdv, ct, osl, rfl, lk, hcd⟩ := F.ex
  obtain rfl : cdv = .ref c := hfd
  exact fn_of lk hcd S len fun A outer s H vs Q E hr hsp => (hbody A outer s H vs Q E hr hsp).imp fun t h => ⟨h.1.nox, h.2⟩
section
variable {P : Program} {w : World} {K : PySem.W.Frag} {mg mb : Str → Option Value} {k : Nat} {fa a c T : Addr} {fd : FuncData} {x : Str} {sp : Sp} {s₁ : Shared} {vs : List Value} {ns : List Int}
/-- from a heap in which nothing but the script and a table is tracked -/
theorem law_fromT {H : Hp} (KX : K.In s₁.heap) (hns : s₁.heap.Ns mainGlobals mg) (hb : s₁.heap.Ns builtinsNs mb) (hbb : ∀ x : Str, x ≠ "__name__" → mb x = bootBuiltins x) (hlim : s₁.heap.NoLimit) (hg : s₁.gens = #[])
    (hbm : ∃ bm ob, mg (Str.ofString "__builtins__") = some (.ref bm) ∧ bm ≠ builtinsNs ∧ s₁.heap.get? bm = some ob ∧ ob.cls = .type "module" ∧ ob.dict = some builtinsNs ∧ ob.data = Data.plain)
    (hcd : s₁.heap.IsCode c T #[]) (htab : s₁.heap.TableAt c T #[]) (hKT : K.lookup T = none)
    (ha : s₁.heap.get? a = some { cls := .type "list", data := .seq vs.toArray }) (hr : Room k callerA)
    (F : ∀ base : Heap, K.In base → base.Ns mainGlobals mg → LamX.TabB base mg c T → FnOkG P w K mg base CX0 k fa fd [x] sp) (hbind : ∀ (s : Shared) (u : Value), BindsTo s fd ⟨[u], []⟩ [(x, u)])
    (hO : ∀ b, H b = none ∨ (∃ o xs, H b = some (.frz o (.lst xs))) ∨ b = T) (hT : H T = some (.tbl #[])) (hsp : sp [.ref a] H (fun v _ => v = .bl true) fun _ _ _ => False) (hok : HOk P w H s₁.heap) (hA : ∀ b, H b ≠ none → b = a ∨ b = T) (hK : H a ≠ none → K.lookup a = none) :
    codeAny (model P w) callerA (.call (.ref fa) ⟨[.ref a], []⟩) (fun r s' => r = .ok (.ret (.bool true)) ∧ OldK s₁.heap s'.heap ∧ s'.os = s₁.os ∧ AllBare s'.gens) s₁ := by
  have gT : s₁.heap.get? T = some { cls := .none, data := .fields #[] } := htab.2
  have free : ∀ {b : Addr} {o : Obj}, s₁.heap.get? b = some o → (b = a → H b = none) → (b = T → H b = none) → (hidT s₁.heap H).get? b = some o := fun {b o} e n n2 => by
    refine hidT_get e ?_
    cases q : H b with
    | none => rfl
    | some u =>
      rcases hA b (by rw [q]; simp) with z | z
      · exact absurd (n z) (by rw [q]; simp)
      · exact absurd (n2 z) (by rw [q]; simp)
  have notA : ∀ {b : Addr} {o : Obj}, s₁.heap.get? b = some o → (∀ xs n, o.data ≠ .seq xs n) → b ≠ a := fun {b o} e h z => by
    rw [z, ha] at e
    cases e
    exact h _ _ rfl
  have notT : ∀ {b : Addr} {o : Obj}, s₁.heap.get? b = some o → (∀ xs, o.data ≠ .fields xs) → b ≠ T := fun {b o} e h z => by
    rw [z, gT] at e
    cases e
    exact h _ rfl
  have ns : ∀ {b : Addr} {m : Str → Option Value}, s₁.heap.Ns b m → (hidT s₁.heap H).Ns b m := fun {b m} ⟨o, es, ep, e, d, r⟩ =>
    ⟨o, es, ep, free e (fun z => absurd z (notA e fun xs n q => by rw [d] at q; cases q)) (fun z => absurd z (notT e fun xs q => by rw [d] at q; cases q)), d, r⟩
  have kin : K.In (hidT s₁.heap H) := fun b o e => free (KX b o e) (fun z => by
    subst z
    cases q : H b with
    | none => rfl
    | some u => rw [hK (by rw [q]; simp)] at e; cases e) fun z => by
    subst z
    rw [hKT] at e
    cases e
  have md : Mod K mg (hidT s₁.heap H) := ⟨kin, ns hns, ⟨mb, ns hb, hbb⟩, hlim.imp fun mc h => ⟨ns h.1, h.2⟩⟩
  have env : Env0 P w K mg (hidT s₁.heap H) callerA [] s₁ H := ⟨rfl, md, fun b o e => of_hidT e, Nat.le_of_eq (hidT_size _ _), trivial, fun b hb => absurd (show b ∈ ([] : List Addr) from hb) (by simp), hok, .of_eq hg⟩
  have hgT : mainGlobals ≠ T := fun z => by
    obtain ⟨o, es, ep, e, d, _⟩ := hns
    exact notT e (fun xs q => by rw [d] at q; cases q) z
  have tb : LamX.TabB (hidT s₁.heap H) mg c T := by
    obtain ⟨o, vs1, file, tf, flags, tg, inF, text, tt, e1, e2, e3, e4, e5, e6, e7, e8, e9, e10⟩ := PySem.W.CodeHd.of hcd htab
    refine ⟨⟨o, vs1, file, tf, flags, tg, inF, text, tt, free e1 (fun z => absurd z (notA e1 fun xs n q => by rw [e3] at q; cases q)) (fun z => absurd z e10), e2, e3, e4, e5, e6, e7, e8, e9, e10⟩, ?_, hgT⟩
    obtain ⟨bm, ob, b1, b2, b3, b4, b5, b6⟩ := hbm
    refine ⟨bm, ob, b1, b2, fun z => ?_, notT b3 (fun xs q => by rw [b6] at q; cases q), free b3 (fun z => absurd z (notA b3 fun xs n q => by rw [b6] at q; cases q)) (fun z => absurd z (notT b3 fun xs q => by rw [b6] at q; cases q)), b4, b5, b6⟩
    obtain ⟨o2, es, ep, e, d, _⟩ := hns
    rw [z, e] at b3
    cases b3
    rw [d] at b6
    cases b6
  refine codeAny_mono ((F _ kin (ns hns) tb).run callerA [] s₁ H ⟨[.ref a], []⟩ [.ref a] [.ref a] _ _ hr rfl env (hbind s₁ (.ref a)) (.cons rfl .nil) hsp) fun r s' h => ?_
  match r, h with
  | .error e, h => exact h.elim
  | .ok .next, h => exact False.elim h
  | .ok .brk, h => exact False.elim h
  | .ok .cont, h => exact False.elim h
  | .ok (.ret u), h =>
    obtain ⟨v, H', os, bare, un, hok', r', q⟩ := h
    have q' : v = .bl true := q
    subst q'
    obtain rfl : u = Value.bool true := r'
    have keep : ∀ b o, b ≠ T → s₁.heap.get? b = some o → s'.heap.get? b = some o := fun b o hbT e => by
      rcases hO b with z | ⟨ob, xs, z⟩ | z
      · exact un.keep b o e z (fun q => absurd (show b ∈ ([] : List Addr) from q) (by simp)) (by simp)
      · have e1 := (hok b _ z).1
        rw [e] at e1
        cases e1
        exact (hok' b _ (un.frzs b _ _ z)).1
      · exact absurd z hbT
    obtain ⟨more, hmore⟩ := un.tbls T #[] hT
    have gT' : s'.heap.get? T = some { cls := Value.none, data := Data.fields (#[] ++ more) } := hok' T _ hmore
    refine ⟨rfl, ⟨fun b o e => ?_, fun b o e => ?_⟩, os, bare⟩
    · by_cases hbT : b = T
      · subst hbT
        rw [gT] at e
        cases e
        exact .inr (.inl ⟨htab.isCodeTable, rfl, #[], more, rfl, gT'⟩)
      · exact .inl (keep b o hbT e)
    · by_cases hbT : b = T
      · subst hbT
        exact ⟨_, gT'⟩
      · exact ⟨o, keep b o hbT e⟩
end
/-- the goal of a law, from its def's promise, with the table of one def's code object -/
theorem walk_ofT {l : PySem.W.OpenLaw} {n k : Nat} {q : Program} {loose : List Str} {XP : (Str → Option Value) → Heap → Prop} {YP : World → Heap → Prop} {d : DefRec} {K : Params → PySem.W.Frag} {x : Str} (lam : Str) (hrec : ((recsOf q).any fun e => e.name == lam) = true)
    (hn : l.most = some n) (hn2 : n ≤ sizeLine) (hdf : d.params.defaults = []) (hr : Room k callerA) (hY : ∀ (w : World) (h : Heap), YP w h → (K w.params).In h)
    (F : ∀ (w : World) (mg : Str → Option Value) (fa : Addr) (h : Heap) (c T : Addr), (K w.params).In h → h.Ns mainGlobals mg → mg d.name = some (.ref fa) →
      (∃ (a : Addr) (o : Obj) (fd : FuncData), mg lam = some (.ref a) ∧ h.get? a = some o ∧ o.data = .func fd ∧ fd.code = .ref c ∧ h.TableAt c T #[]) →
      (K w.params).lookup T = none ∧ ∃ (fd : FuncData) (sp : Sp), (∀ (s : Shared) (u : Value), BindsTo s fd ⟨[u], []⟩ [(x, u)]) ∧
        (∀ (H : Hp) (a : Addr) (ns : List Int), ns.length ≤ n → H T = some (.tbl #[]) → SqL (K w.params) H a (ns.map V.int) → sp [.ref a] H (fun v _ => v = .bl true) fun _ _ _ => False) ∧
        ∀ base : Heap, (K w.params).In base → base.Ns mainGlobals mg → LamX.TabB base mg c T → FnOkG l.prog w (K w.params) mg base CX0 k fa fd [x] sp) :
    PySem.W.WalkO q loose XP YP l.row.toRowW d [] (fun f vs => PySem.call f vs) := by
  refine Att.attach_call hn hdf fun w s₀ s₁ mg mb fa o pm cd doc a vs ns G Y ho hd hcd hmg hobj hints hlen hg => ?_
  obtain ⟨e, he, hen⟩ := List.any_eq_true.mp hrec
  obtain ⟨fl, ol, fdl, c, T, t1, t2, t3, t4, t5, t6⟩ := G.T.tab e he
  have hnm : e.name = lam := eq_of_beq hen
  obtain ⟨hKT, fd, sp, hb, hsp, hF⟩ := F w mg fa _ c T (hY w _ Y) G.T.g hmg ⟨fl, ol, fdl, by rw [← hnm]; exact t1, t2, t3, t4, t6⟩
  have rv := vals_ints hints
  have hls : vs.length ≤ sizeLine := by rw [hints.length]; exact Nat.le_trans hlen hn2
  have haT : a ≠ T := fun z => by
    rw [z, t6.2] at hobj
    cases hobj
  have go := fun (H : Hp) (hO) (hT : H T = some (.tbl #[])) hs hok hA hK => law_fromT (H := H) (hY w _ Y) G.T.g G.T.b G.T.builtins G.T.nolimit hg G.T.bmain t5 t6 hKT hobj hr hF hb hO hT (hsp H a ns hlen hT hs) hok hA hK
  cases hk : (K w.params).lookup a with
  | some o2 =>
    have e := hY w _ Y a o2 hk
    rw [hobj] at e
    cases e
    obtain ⟨H, hH⟩ : ∃ H : Hp, ∀ b, H b = if b = T then some (.tbl #[]) else none := ⟨fun b => if b = T then some (.tbl #[]) else none, fun _ => rfl⟩
    have off : ∀ {b}, b ≠ T → H b = none := fun h => by rw [hH, if_neg h]
    have at_T : H T = some (.tbl #[]) := by rw [hH, if_pos rfl]
    refine go H (fun b => ?_) at_T (.inr ⟨_, vs.toArray, _, hk, rfl, rfl, rfl, by rw [List.size_toArray]; exact hls, by simpa using rv⟩) (fun b u z => ?_) (fun b z => ?_) fun z => absurd (off haT) z
    · by_cases h : b = T
      · exact .inr (.inr h)
      · exact .inl (off h)
    · by_cases h : b = T
      · subst h
        rw [at_T] at z
        cases z
        exact t6.2
      · rw [off h] at z
        cases z
    · exact .inr (Classical.byContradiction fun h => z (off h))
  | none =>
    obtain ⟨ob, hob⟩ : ∃ ob : Obj, ob = { cls := .type "list", data := .seq vs.toArray } := ⟨_, rfl⟩
    obtain ⟨H, hH⟩ : ∃ H : Hp, ∀ b, H b = if b = a then some (.frz ob (.lst (ns.map V.int))) else if b = T then some (.tbl #[]) else none := ⟨fun b => if b = a then some (.frz ob (.lst (ns.map V.int))) else if b = T then some (.tbl #[]) else none, fun _ => rfl⟩
    have at_a : H a = some (.frz ob (.lst (ns.map V.int))) := by rw [hH, if_pos rfl]
    have at_T : H T = some (.tbl #[]) := by rw [hH, if_neg (Ne.symm haT), if_pos rfl]
    have off : ∀ {b}, b ≠ a → b ≠ T → H b = none := fun h h2 => by rw [hH, if_neg h, if_neg h2]
    refine go H (fun b => ?_) at_T (.inl (.inr ⟨ob, at_a⟩)) (fun b u z => ?_) (fun b z => ?_) fun _ => hk
    · by_cases h : b = a
      · exact .inr (.inl ⟨_, _, by rw [h]; exact at_a⟩)
      · by_cases h2 : b = T
        · exact .inr (.inr h2)
        · exact .inl (off h h2)
    · by_cases h : b = a
      · subst h
        rw [at_a] at z
        cases z
        subst hob
        exact ⟨hobj, by rw [List.length_map]; exact Nat.le_trans hlen hn2, vs, _, rv, hobj⟩
      · by_cases h2 : b = T
        · subst h2
          rw [at_T] at z
          cases z
          exact t6.2
        · rw [off h h2] at z
          cases z
    · by_cases h : b = a
      · exact .inl h
      · exact .inr (Classical.byContradiction fun h2 => z (off h h2))
end Fp

/-! methods without arguments; repr of tuples of words with numbers; a table beside other things -/
namespace Fp
open PySem PySem.Spec PyProof.Rows L2
section
variable {X : L2.Cx} {CX : CXT} {k : Nat} {ps : List Str} {sp : Sp} {E : XK} {pos apos : Pos} {o : Expr} {ta : TE}
/-- o.m() -/
theorem pe_mtD0 {pl : Sem Bool} {C : Addr} {m : Str} (D : MtOk X.prog X.w X.K X.mg X.base CX k C m ps sp) (hr : Room k X.A) (hx : Passes CX X E) (he : PE X o ta)
    (ht : eval (.Call (.Attribute o m apos) [] [] pos) X.env = (do
      let ov ← eval o X.env
      standAt apos.atName
      let (f, first) ← holding [ov] (getMethod ov m pl)
      callWith pos f first (backTo pos (starEach [] X.env)) (backToKw pos (keywordEach [] X.env))) := by rfl) :
    PE X (.Call (.Attribute o m apos) [] [] pos) (tMeth C m sp [] E ta tNil) := by
  obtain ⟨f, fd, c, hm, hb, F⟩ := D.ex
  exact pe_meth0 he c hm F hr hb .nil hx ht
end
theorem tuple_len (ts : List Str) : (tupleText ts).length ≤ 3 + (ts.map fun t => t.length + 2).sum := by
  unfold tupleText
  rw [Str.length_append, Str.length_append]
  have h1 := join_len (Str.ofString ", ") ts
  have h5 : (Str.ofString ", ").length = 2 := by decide +kernel
  rw [h5] at h1
  have h6 : (Str.ofString "(").length = 1 := by decide +kernel
  have h7 : (Str.ofString (if (ts.length == 1) = true then ",)" else ")")).length ≤ 2 := by split <;> decide +kernel
  omega
theorem repr_char {q c : Nat} (h : q = 39 ∨ q = 34) (hc : c = 120 ∨ c = 121 ∨ c = 122) : (Builtin.Str.reprChar q c).length = 1 := by
  rcases h with rfl | rfl <;> rcases hc with rfl | rfl | rfl <;> decide +kernel
theorem repr_len {u : Str} (h : ∀ c ∈ u.cps.toList, c = 120 ∨ c = 121 ∨ c = 122) : (reprText u).length ≤ u.length + 2 := by
  have hq : reprQuote u = 39 ∨ reprQuote u = 34 := by unfold reprQuote; split; exact .inr rfl; exact .inl rfl
  unfold reprText
  show (((u.cps.foldl (fun out c => out ++ (Builtin.Str.reprChar (reprQuote u) c).toArray) #[reprQuote u]).push (reprQuote u)).size) ≤ _
  rw [Array.size_push, ← Array.foldl_toList]
  have gen : ∀ (l : List Nat) (acc : Array Nat), (∀ c ∈ l, c = 120 ∨ c = 121 ∨ c = 122) → (l.foldl (fun out c => out ++ (Builtin.Str.reprChar (reprQuote u) c).toArray) acc).size = acc.size + l.length := by
    intro l
    induction l with
    | nil => intro acc _; rfl
    | cons c l ih =>
      intro acc hl
      have e9 : (Builtin.Str.reprChar (reprQuote u) c).toArray.size = 1 := by rw [List.size_toArray]; exact repr_char hq (hl c List.mem_cons_self)
      rw [List.foldl_cons, ih _ fun d hd => hl d (List.mem_cons_of_mem _ hd), Array.size_append, e9, List.length_cons]
      omega
  rw [gen _ _ h]
  have e1 : u.cps.toList.length = u.length := Array.length_toList
  have e2 : (#[reprQuote u] : Array Nat).size = 1 := rfl
  omega
theorem pairD_len {kv : Str × Int} (h : ∀ c ∈ kv.1.cps.toList, c = 120 ∨ c = 121 ∨ c = 122) (h0 : 0 ≤ kv.2) (h1 : kv.2 < 10) : (pairD kv).shown.length ≤ kv.1.length + 10 := by
  have e : (pairD kv).shown = tupleText (PyData.shownAll [.str kv.1, .int kv.2]) := PyData.shown.eq_6 _
  rw [e]
  refine Nat.le_trans (tuple_len _) ?_
  rw [PyData.shownAll.eq_2, PyData.shownAll.eq_2, PyData.shownAll.eq_1, PyData.shown.eq_4]
  have h2 := repr_len h
  have h3 := shown_small h0 h1
  simp only [List.map_cons, List.map_nil, List.sum_cons, List.sum_nil]
  omega
/-- small words with small numbers -/
def Small (l : Bg) : Prop := l.length ≤ 1000 ∧ ∀ kv ∈ l, (∀ c ∈ kv.1.cps.toList, c = 120 ∨ c = 121 ∨ c = 122) ∧ kv.1.length ≤ 1000 ∧ 0 ≤ kv.2 ∧ kv.2 < 10
theorem wordsD_len {l : Bg} (h : Small l) : (wordsD l).shown.length ≤ sizeLine := by
  obtain ⟨hl, h⟩ := h
  have e : (wordsD l).shown = tupleText (PyData.shownAll (l.map pairD)) := PyData.shown.eq_6 _
  rw [e]
  refine Nat.le_trans (tuple_len _) ?_
  have h2 : ((PyData.shownAll (l.map pairD)).map fun t => t.length + 2).sum ≤ 1012 * l.length := by
    clear e hl
    induction l with
    | nil => exact Nat.le_refl _
    | cons kv l ih =>
      obtain ⟨a1, a2, a3, a4⟩ := h kv List.mem_cons_self
      have h3 := pairD_len a1 a3 a4
      have h4 := ih fun m hm => h m (List.mem_cons_of_mem _ hm)
      rw [List.map_cons, PyData.shownAll.eq_2, List.map_cons, List.sum_cons, List.length_cons]
      omega
  exact Nat.le_trans (by omega : _ ≤ 1012003) (by decide)
theorem wordsD_show {l : Bg} (h : Small l) : (wordsD l).showable = true := by
  replace h := h.2
  show PyData.showableAll (l.map pairD) = true
  induction l with
  | nil => rfl
  | cons kv l ih =>
    obtain ⟨a1, a2, a3, a4⟩ := h kv List.mem_cons_self
    have e : (pairD kv).showable = true := by
      show PyData.showableAll [.str kv.1, .int kv.2] = true
      rw [PyData.showableAll.eq_2, PyData.showableAll.eq_2, PyData.showable.eq_4, decide_eq_true (log_small a3 a4)]
      rfl
    rw [List.map_cons, PyData.showableAll.eq_2, e, ih fun m hm => h m (List.mem_cons_of_mem _ hm)]
    rfl
theorem wordsD_noDict (l : Bg) : (wordsD l).hasDict = false := by
  show PyData.hasDictAll (l.map pairD) = false
  induction l with
  | nil => rfl
  | cons kv l ih =>
    have e : (pairD kv).hasDict = false := rfl
    rw [List.map_cons, PyData.hasDictAll.eq_2, e, ih]
    rfl
theorem g_reprW {K : PySem.W.Frag} {H : Hp} {t : Addr} {l : Bg} {Q : VK} (h : WordsAt H t l) (hs : Small l) (q : Q (.str (wordsD l).shown) H) : rReprD K [.ref t] H Q :=
  .inr ⟨t, wordsD l, rfl, h.dp, wordsD_show hs, wordsD_noDict l, depth_words l, wordsD_len hs, q⟩
/-! ### a table beside other things -/
theorem WordsAt.exP {H H' : Hp} {P t : Addr} {q : Str} {l : Bg} (e : ExB P H H') (hT : TabS H P q) (h : WordsAt H t l) : WordsAt H' t l := by
  obtain ⟨qs, o, h1, hd, h2⟩ := h.ex
  exact ⟨qs, o, e _ _ (tab_ne hT h1 fun _ z => nomatch z) h1, hd, Paired.mapP h2 fun _ _ z => e _ _ (tab_ne hT z fun _ z => nomatch z) z⟩
theorem TabS.exb {H H' : Hp} {P f : Addr} {q : Str} (e : ExB f H H') (hT : TabS H P q) {o : HO} (hf : H f = some o) (ho : ∀ ps, o ≠ .tbl ps) (ho2 : ∀ φ, o ≠ .ext φ) : TabS H' P q := by
  obtain ⟨ps, h1, h2, h3⟩ := hT
  refine ⟨ps, e _ _ (fun z => ?_) h1, h2, fun pos cv hcv => ?_⟩
  · rw [z, hf] at h1
    exact ho _ (Option.some.inj h1)
  · obtain ⟨c, e1, e2⟩ := h3 pos cv hcv
    refine ⟨c, e1, e _ _ (fun z => ?_) e2⟩
    rw [z, hf] at e2
    exact ho2 _ (Option.some.inj e2)
theorem TabS.ex' {H H' : Hp} {P : Addr} {q : Str} (e : Ex H H') (hT : TabS H P q) : TabS H' P q := LamX.TabS.ext hT e
end Fp

namespace Fp
open PySem L2
section
variable {P : Program} {w : World} {K : PySem.W.Frag} {mg : Str → Option Value} {base : Heap} {C_Bag : Addr} {Cs : Addr → Prop}
local macro_rules | `(tactic| walk_at "hp") => `(tactic| first | assumption | rfl)
local macro_rules | `(tactic| walk_at "cond") => `(tactic| first | assumption | decide | omega | (unfold CMul; omega) | (refine ⟨?_, ?_⟩ <;> omega) | (unfold CDiv; omega) | (unfold CPow; omega))
local macro_rules | `(tactic| walk_at "g1") => `(tactic| first
  | with_reducible first
    | refine g_seq ?_ | refine g_asg ?_ | refine g_name ?_ | refine g_ret ?_ | refine g_retN ?_ | refine g_drop ?_ | refine g_ifs ?_
    | refine g_c ?_ | refine g_op ?_ | refine g_un ?_ | refine g_I0 ?_ | refine g_U ?_
    | refine g_test ?_ | refine g_tB ?_ | refine g_bl ?_ | refine g_and ?_ | refine g_or ?_ | refine g_not ?_
    | refine g_andV ?_ | refine g_orV ?_ | refine g_notV ?_ | refine g_if ?_ | refine g_nil ?_ | refine g_cons ?_ | refine g_cb ?_ | refine g_call ?_
    | refine g_lst ?_ | refine g_tup ?_ | refine g_itT ?_ | refine g_itF ?_ | refine g_itNT ?_ | refine g_itNF ?_ | refine g_lc ?_ | refine g_iStr ?_ | refine g_yes ?_ | refine g_exs ?_
    | refine g_chain ?_ | refine g_dget ?_ | refine g_dput ?_ | refine g_dget2 ?_ | refine g_dpop2 ?_ | refine g_fld ?_ | refine g_sfld ?_ | refine g_make ?_ | refine g_meth ?_
    | refine g_bm ?_ | refine g_kw ?_ | refine g_callS ?_ | refine g_revL ?_ | refine g_m1 ?_ | refine g_gsub ?_ | refine g_for ?_ | refine g_iList ?_ | refine g_iTup ?_ | refine g_iRng1 ?_ | refine g_iRng2 ?_ | refine g_sl ?_ | refine g_part ?_ | refine g_noPart ?_
    | refine g_exi ?_ | refine g_exr ?_ | refine g_dnew ?_ | refine g_disp ?_ | refine g_prs0 ?_ | refine g_prs ?_ | refine g_nxt ?_
  | ((with_reducible refine g_var (v := ?vv) ?gv ?_); (case gv => exact rfl))
  | ((with_reducible refine g_I ?gc ?_); (case gc => walk_at "cond"))
  | ((with_reducible refine g_eq ?ge ?_); (case ge => exact rfl))
  | ((with_reducible refine g_ne ?ge ?_); (case ge => exact rfl))
  | (refine g_ixl (SqL.of (by first | assumption | exact upd_same)) rfl ?_)
  | (refine g_setl (by first | assumption | exact upd_same) rfl ?_)
  | ((with_reducible show (∃ i, [V.int _] = [V.int i] ∧ _) ∨ _); refine Or.inl ⟨_, rfl, ?_⟩)
  | ((with_reducible show ∃ i, [V.int _] = [V.int i] ∧ _); refine ⟨_, rfl, ?_⟩)
  | dsimp only)
local macro_rules | `(tactic| walk_at "go") => `(tactic| repeat (walk_at "g1"))

theorem joined {zs : List Str} (hzs : ∀ z ∈ zs, z.length = 1 ∧ isW z = true) : (zs.map (·.length)).sum = zs.length ∧ (Txt.join ("" : Str) zs).length = zs.length ∧ isW (Txt.join ("" : Str) zs) = true := by
  have hsum : (zs.map (·.length)).sum = zs.length := by
    have : zs.map (·.length) = zs.map fun _ => 1 := List.map_congr_left fun u hu => (hzs u hu).1
    rw [this]
    exact sum_ones zs
  have e3 : Txt.join ("" : Str) zs = Str.join ("" : Str) zs := TL.join_eq _ _
  rw [e3]
  exact ⟨hsum, join_ones zs hzs⟩
/-! ### the tape, what is drawn -/
def sp_bb_tape (K : PySem.W.Frag) : Sp := fun vs H Q _ => ∃ (a : Addr) (ns : List Int), vs = [.ref a] ∧ SqL K H a (ns.map V.int) ∧ ∀ h c H', Ex H H' → H h = none → H c = none → HandAt H' h c → Q (.ref h) H'
theorem ok_law_tape {f : Addr} {fd : FuncData} (F : Fun K "_law_tape" "_law_tape" s_law_tape f fd) (T : Txt K mg C_Bag Cs) : FnOk P w K mg base CX0 1 f fd ["_law_script"] (sp_bb_tape K) := by
  refine F.ok sc_law_tape (fun vs H Q E h => ?_) (fun cdv A outer s H vs Q E hr h => ?_)
  · obtain ⟨a, ns, rfl, _⟩ := h
    rfl
  · obtain ⟨a, ns, rfl, hs, k⟩ := h
    have hu := hu_of hr; have hu64 := L2.Room.units hr; refine ⟨_, (pss_one (ps_ret (pe_lst (pa_cons (pe_callTy call_list_of (by rfl) T.b_list (by decide +kernel) (pa_cons (pv 0) pa_nil)) (pa_cons pe_int (pa_cons pe_int (pa_cons pe_int (pa_cons pe_int pa_nil)))))))), ?_⟩; rw [st_law_tape]; (try dsimp only [cxOf]); walk_at "go"
    refine ⟨a, _, rfl, .inl hs, fun q hq => ?_⟩
    walk_at "go"
    refine ⟨Nat.le_of_ble_eq_true rfl, fun p hp => ?_⟩
    have hqp : q ≠ p := ne_of_none upd_same hp
    exact k p q _ ((Ex.new hq).trans (Ex.new hp)) ((Ex.new hq).free hp) hq ⟨⟨0, 0, 1, 0, upd_same, Int.le_refl _⟩, ⟨ns, by rw [upd_ne hqp]; exact upd_same⟩, hqp⟩
theorem ok_law_pick {f : Addr} {fd : FuncData} (F : Fun K "_law_pick" "_law_pick" s_law_pick f fd) (T : Txt K mg C_Bag Cs) : FnOk P w K mg base CX0 1 f fd ["_law_tape_here", "_law_many"] sp_law_draw := by
  refine F.ok sc_law_pick (fun vs H Q E h => ?_) (fun cdv A outer s H vs Q E hr h => ?_)
  · obtain ⟨a, c, m, rfl, _⟩ := h
    rfl
  · obtain ⟨h, c, m, rfl, hh, hm0, hm1, k⟩ := h
    obtain ⟨⟨i, b, mm, n, h1, h4⟩, ⟨cs, h2⟩, h3⟩ := hh
    have hu := hu_of hr; have hu64 := L2.Room.units hr; refine ⟨_, (pss_cons (ps_if (pt_cmpR op_gt (pe_ix (r := rIxL K) ix_list (pv 0) pe_int (fun _ _ => rfl)) pe_int (nomark _)) (pss_cons (ps_set (i := 2) sc_law_pick.nd rfl (by first | exact Or.inl rfl | exact Or.inr rfl) (pe_op op_mod (pe_callTy call_int1 (by rfl) T.b_int (by decide +kernel) (pa_cons (pe_ix (r := rIxL K) ix_list (pv 0) pe_int (fun _ _ => rfl)) pa_nil)) (pv 1))) (pss_cons (ps_asg (pe_op op_fdiv (pe_ix (r := rIxL K) ix_list (pv 0) pe_int (fun _ _ => rfl)) (pv 1)) (pg_sub (pv 0) pe_int set_list)) (pss_one (ps_ret (pv 2))))) pss_nil) (pss_cons (ps_asg (pe_op op_add (pe_ix (r := rIxL K) ix_list (pv 0) pe_int (fun _ _ => rfl)) pe_int) (pg_sub (pv 0) pe_int set_list)) (pss_cons (ps_set (i := 3) sc_law_pick.nd rfl (by first | exact Or.inl rfl | exact Or.inr rfl) pe_int) (pss_cons (ps_if (pt_cmpR op_lt (pe_ix (r := rIxL K) ix_list (pv 0) pe_int (fun _ _ => rfl)) (pe_callB call_len_seq (by rfl) T.b_len (by decide +kernel) (pa_cons (pe_ix (r := rIxL K) ix_list (pv 0) pe_int (fun _ _ => rfl)) pa_nil)) (nomark _)) (pss_cons (ps_set (i := 3) sc_law_pick.nd rfl (by first | exact Or.inl rfl | exact Or.inr rfl) (pe_ix (r := rIxL K) ix_list (pe_ix (r := rIxL K) ix_list (pv 0) pe_int (fun _ _ => rfl)) (pe_ix (r := rIxL K) ix_list (pv 0) pe_int (fun _ _ => rfl)) (fun _ _ => rfl))) (pss_one (ps_asg (pe_op op_add (pe_ix (r := rIxL K) ix_list (pv 0) pe_int (fun _ _ => rfl)) pe_int) (pg_sub (pv 0) pe_int set_list)))) pss_nil) (pss_cons (ps_if (pt_cmpR op_ge (pv 3) (pe_op op_pow pe_int pe_int) (nomark _)) (pss_cons (ps_asg (pe_op op_fdiv (pv 3) (pv 1)) (pg_sub (pv 0) pe_int set_list)) (pss_one (ps_ret (pe_op op_mod (pe_callTy call_int1 (by rfl) T.b_int (by decide +kernel) (pa_cons (pv 3) pa_nil)) (pv 1))))) pss_nil) (pss_cons (ps_set (i := 4) sc_law_pick.nd rfl (by first | exact Or.inl rfl | exact Or.inr rfl) (pe_op op_mod (pe_callTy call_int1 (by rfl) T.b_int (by decide +kernel) (pa_cons (pe_op op_add (pe_op op_add (pe_op op_mul (pe_ix (r := rIxL K) ix_list (pv 0) pe_int (fun _ _ => rfl)) pe_int) (pe_op op_mod (pe_callTy call_int1 (by rfl) T.b_int (by decide +kernel) (pa_cons (pv 3) pa_nil)) pe_int)) (pe_op op_mul (pe_ix (r := rIxL K) ix_list (pv 0) pe_int (fun _ _ => rfl)) pe_int)) pa_nil)) pe_int)) (pss_cons (ps_set (i := 4) sc_law_pick.nd rfl (by first | exact Or.inl rfl | exact Or.inr rfl) (pe_op op_mod (pe_callTy call_int1 (by rfl) T.b_int (by decide +kernel) (pa_cons (pe_op op_mul (pv 4) (pe_op op_add (pe_op op_fdiv (pv 4) pe_int) pe_int)) pa_nil)) pe_int)) (pss_cons (ps_asg (pv 4) (pg_sub (pv 0) pe_int set_list)) (pss_one (ps_ret (pe_op op_mod (pe_callTy call_int1 (by rfl) T.b_int (by decide +kernel) (pa_cons (pe_op op_fdiv (pv 4) pe_int) pa_nil)) (pv 1)))))))))))), ?_⟩; rw [st_law_pick]; (try dsimp only [cxOf])
    walk_at "go"
    by_cases hb : b > 1
    · rw [decide_eq_true hb]
      walk_at "go"
      exact k _ _ (Int.emod_nonneg _ (by omega)) (Int.emod_lt_of_pos _ hm0) (ExB.refl h H).upd ⟨⟨i, _, mm, n, upd_same, h4⟩, ⟨cs, by rw [upd_ne h3]; exact h2⟩, h3⟩
    · rw [decide_eq_false hb]
      walk_at "go"
      have ht : ([V.ref c, V.int i, V.int b, V.int mm, V.int n].set (Int.toNat 4) (V.int (n + 1))) = [V.ref c, V.int i, V.int b, V.int mm, V.int (n + 1)] := rfl
      rw [ht]
      have e0 : ExB h H (upd H h (.lst [.ref c, .int i, .int b, .int mm, .int (n + 1)])) := (ExB.refl h H).upd
      have h1' : upd H h (.lst [.ref c, .int i, .int b, .int mm, .int (n + 1)]) h = some (.lst [.ref c, .int i, .int b, .int mm, .int (n + 1)]) := upd_same
      have h2' : upd H h (.lst [.ref c, .int i, .int b, .int mm, .int (n + 1)]) c = some (.lst (cs.map V.int)) := by rw [upd_ne h3]; exact h2
      generalize upd H h (.lst [.ref c, .int i, .int b, .int mm, .int (n + 1)]) = H1 at e0 h1' h2' ⊢
      refine ⟨c, cs.map V.int, rfl, .inl (SqL.of h2'), ?_⟩
      walk_at "go"
      by_cases hi : i < ((cs.map V.int).length : Int)
      · rw [decide_eq_true hi]
        walk_at "go"
        have hi' : i.toNat < cs.length := by rw [List.length_map] at hi; omega
        refine g_ixl (SqL.of h2') (atI_get h4 (by rw [List.getElem?_map, List.getElem?_eq_getElem hi']; rfl)) ?_
        walk_at "go"
        refine g_ite (fun _ => ?_) fun _ => ?_
        · walk_at "go"
          exact k _ _ (Int.emod_nonneg _ (by omega)) (Int.emod_lt_of_pos _ hm0) (e0.upd).upd ⟨⟨i + 1, _, mm, n + 1, upd_same, by omega⟩, ⟨cs, by rw [upd_ne h3, upd_ne h3]; exact h2'⟩, h3⟩
        · walk_at "go"
          exact k _ _ (Int.emod_nonneg _ (by omega)) (Int.emod_lt_of_pos _ hm0) (e0.upd).upd ⟨⟨i + 1, _, _, n + 1, upd_same, by omega⟩, ⟨cs, by rw [upd_ne h3, upd_ne h3]; exact h2'⟩, h3⟩
      · rw [decide_eq_false hi]
        walk_at "go"
        refine g_iff (by decide) ?_
        walk_at "go"
        exact k _ _ (Int.emod_nonneg _ (by omega)) (Int.emod_lt_of_pos _ hm0) e0.upd ⟨⟨i, _, _, n + 1, upd_same, h4⟩, ⟨cs, by rw [upd_ne h3]; exact h2'⟩, h3⟩
def sp_bb_clock : Sp := fun vs H Q _ => ∃ (h c : Addr), vs = [.ref h] ∧ HandAt H h c ∧ ∀ p H', Clk p → ExB h H H' → HandAt H' h c → Q (.int p) H'
theorem ok_law_clock {f : Addr} {fd : FuncData} (F : Fun K "_law_clock" "_law_clock" s_law_clock f fd) (T : Txt K mg C_Bag Cs) (D_law_pick : DefOk P w K mg base CX0 1 "_law_pick" ["_law_tape_here", "_law_many"] sp_law_draw) : FnOk P w K mg base CX0 2 f fd ["_law_tape_here"] sp_bb_clock := by
  refine F.ok sc_law_clock (fun vs H Q E h => ?_) (fun cdv A outer s H vs Q E hr h => ?_)
  · obtain ⟨h, c, rfl, _⟩ := h
    rfl
  · obtain ⟨h, c, rfl, hh, k⟩ := h
    have hu := hu_of hr; have hu64 := L2.Room.units hr; refine ⟨_, (pss_one (ps_ret (pe_ix (r := rIxL K) ix_list (pe_lst (pa_cons pe_int (pa_cons pe_int (pa_cons pe_int (pa_cons pe_int (pa_cons pe_int (pa_cons pe_int pa_nil))))))) (pe_callD D_law_pick (hr.mono (by decide)) rfl pass0 (pa_cons (pv 0) (pa_cons pe_int pa_nil))) (fun _ _ => rfl)))), ?_⟩; rw [st_law_clock]; (try dsimp only [cxOf]); walk_at "go"
    refine ⟨Nat.le_of_ble_eq_true rfl, fun l hl => ?_⟩
    walk_at "go"
    refine ⟨h, c, 6, rfl, hh.ex' (Ex.new hl), by decide, by decide, fun v H' h0 h1 e hh' => ?_⟩
    have hlh : l ≠ h := Ne.symm (ne_of_none hh.kind.choose_spec hl)
    have hL : H' l = some (.lst [.int 2, .int 2, .int 3, .int 3, .int 5, .int 7]) := e _ _ hlh upd_same
    have eH : ExB h H H' := (Ex.new hl).exb.trans e
    obtain ⟨i, hi, rfl⟩ : ∃ i : Nat, i < 6 ∧ v = i := ⟨v.toNat, by omega, by omega⟩
    match i, hi with
    | 0, _ => exact g_ixl (SqL.of hL) rfl (k 2 H' (by unfold Clk; decide) eH hh')
    | 1, _ => exact g_ixl (SqL.of hL) rfl (k 2 H' (by unfold Clk; decide) eH hh')
    | 2, _ => exact g_ixl (SqL.of hL) rfl (k 3 H' (by unfold Clk; decide) eH hh')
    | 3, _ => exact g_ixl (SqL.of hL) rfl (k 3 H' (by unfold Clk; decide) eH hh')
    | 4, _ => exact g_ixl (SqL.of hL) rfl (k 5 H' (by unfold Clk; decide) eH hh')
    | 5, _ => exact g_ixl (SqL.of hL) rfl (k 7 H' (by unfold Clk; decide) eH hh')
def sp_bb_letters : Sp := fun vs H Q _ => ∃ (h c : Addr), vs = [.ref h] ∧ HandAt H h c ∧ ∀ z H', 0 < z.length → z.length ≤ 3 → isW z = true → ExB h H H' → HandAt H' h c → Q (.str z) H'
def bbLs : List Str := ["xy", "xy", "xy", "yx", "xyz", "x", "z"]
theorem bbLs_ok : ∀ u ∈ bbLs, 0 < u.length ∧ u.length ≤ 3 ∧ isW u = true := by decide +kernel
theorem ok_law_letters {f : Addr} {fd : FuncData} (F : Fun K "_law_letters" "_law_letters" s_law_letters f fd) (T : Txt K mg C_Bag Cs) (D_law_pick : DefOk P w K mg base CX0 1 "_law_pick" ["_law_tape_here", "_law_many"] sp_law_draw) : FnOk P w K mg base CX0 2 f fd ["_law_tape_here"] sp_bb_letters := by
  refine F.ok sc_law_letters (fun vs H Q E h => ?_) (fun cdv A outer s H vs Q E hr h => ?_)
  · obtain ⟨h, c, rfl, _⟩ := h
    rfl
  · obtain ⟨h, c, rfl, hh, k⟩ := h
    have hu := hu_of hr; have hu64 := L2.Room.units hr; refine ⟨_, (pss_one (ps_ret (pe_ix (r := rIxL K) ix_list (pe_lst (pa_cons pe_str (pa_cons pe_str (pa_cons pe_str (pa_cons pe_str (pa_cons pe_str (pa_cons pe_str (pa_cons pe_str pa_nil)))))))) (pe_callD D_law_pick (hr.mono (by decide)) rfl pass0 (pa_cons (pv 0) (pa_cons pe_int pa_nil))) (fun _ _ => rfl)))), ?_⟩; rw [st_law_letters]; (try dsimp only [cxOf]); walk_at "go"
    refine ⟨Nat.le_of_ble_eq_true rfl, fun l hl => ?_⟩
    walk_at "go"
    refine ⟨h, c, 7, rfl, hh.ex' (Ex.new hl), by decide, by decide, fun v H' h0 h1 e hh' => ?_⟩
    have hlh : l ≠ h := Ne.symm (ne_of_none hh.kind.choose_spec hl)
    have hL : H' l = some (.lst (bbLs.map V.str)) := e _ _ hlh upd_same
    have eH : ExB h H H' := (Ex.new hl).exb.trans e
    obtain ⟨u, hu9⟩ : ∃ u, bbLs[v.toNat]? = some u := ⟨_, List.getElem?_eq_getElem (by show v.toNat < 7; omega)⟩
    obtain ⟨hu0, hu2, huw⟩ := bbLs_ok u (List.mem_of_getElem? hu9)
    exact g_ixl (SqL.of hL) (atI_get h0 (v := .str u) (by rw [List.getElem?_map, hu9]; rfl)) (k u H' hu0 hu2 huw eH hh')
def sp_bb_word : Sp := fun vs H Q _ => ∃ (h c : Addr) (z : Str) (m : Int), vs = [.ref h, .str z, .int m] ∧ HandAt H h c ∧ 0 < z.length ∧ z.length ≤ 100 ∧ isW z = true ∧ 0 ≤ m ∧ m ≤ 900 ∧ ∀ u H', (u.length : Int) ≤ m → isW u = true → ExB h H H' → HandAt H' h c → Q (.str u) H'
theorem ok_law_word {f : Addr} {fd : FuncData} (F : Fun K "_law_word" "_law_word" s_law_word f fd) (T : Txt K mg C_Bag Cs) (D_law_pick : DefOk P w K mg base CX0 1 "_law_pick" ["_law_tape_here", "_law_many"] sp_law_draw) : FnOk P w K mg base CX0 2 f fd ["_law_tape_here", "_law_letters_here", "_law_most"] sp_bb_word := by
  refine F.ok sc_law_word (fun vs H Q E h => ?_) (fun cdv A outer s H vs Q E hr h => ?_)
  · obtain ⟨h, c, z, m, rfl, _⟩ := h
    rfl
  · obtain ⟨h, c, z, m, rfl, hh, hz0, hz1, hzw, hm0, hm1, k⟩ := h
    have hu := hu_of hr; have hu64 := L2.Room.units hr; refine ⟨_, (pss_one (ps_ret (pe_join pe_str (pe_lc (own := [("_law_turn", 3)]) (g := (gName 3)) (tt := tYes) rfl sc_law_word.nd (pi_range1 rfl T.b_range (pa_cons (pe_callD D_law_pick (hr.mono (by decide)) rfl pass0 (pa_cons (pv 0) (pa_cons (pe_op op_add (pv 2) pe_int) pa_nil))) pa_nil)) (blkOk_by (N := N_law_word) (sc := defScope s_law_word) (by decide +kernel)) (fun _ _ _ _ _ => (pg_name (i := 3) sc_law_word.nd rfl (by first | exact Or.inl rfl | exact Or.inr rfl))) (fun _ _ _ _ _ => pts_nil) (fun _ _ _ _ _ => (pe_ix (r := rIxS) ix_str (pv 1) (pe_callD D_law_pick (hr.mono (by decide)) rfl pass0 (pa_cons (pv 0) (pa_cons (pe_callB call_len_str (by rfl) T.b_len (by decide +kernel) (pa_cons (pv 1) pa_nil)) pa_nil))) (fun _ _ => rfl))))))), ?_⟩; rw [st_law_word]; (try dsimp only [cxOf]); walk_at "go"
    refine ⟨⟨_, rfl⟩, ?_⟩
    walk_at "go"
    refine ⟨h, c, m + 1, rfl, hh, by omega, by omega, fun v H1 hv0 hv1 e1 hh1 => ?_⟩
    walk_at "go"
    refine ⟨by omega, by omega, ?_⟩
    obtain ⟨o0, ho⟩ := hh1.kind
    refine lc_mut (f := h) (j := 3) walk_range ho (Nat.le_trans (by omega : v.toNat ≤ 1000) (by decide)) (fun H => HandAt H h c) hh1 (fun H D o hD x => x.upd (hh1.new hD).1 (hh1.new hD).2) (fun _ _ _ => trivial) (fun y => ∃ u : Str, y = V.str u ∧ u.length = 1 ∧ isW u = true) (fun _ => rfl) ?_ ?_
    · rintro i x H2 H3 Kc hi e2 hh2 ⟨rfl, rfl⟩ hk
      walk_at "go"
      refine ⟨z, rfl, Nat.le_trans hz1 (by decide), ?_⟩
      walk_at "go"
      refine ⟨h, c, z.length, rfl, hh2, by omega, by omega, fun q H4 hq0 hq1 e4 hh4 => ?_⟩
      have hql : q.toNat < z.cps.toList.length := by
        have : z.cps.toList.length = z.length := Array.length_toList
        omega
      refine g_ixs (Nat.le_trans hz1 (by decide)) (atI_get hq0 (List.getElem?_eq_getElem hql)) ?_
      exact hk _ _ e4 hh4 ⟨_, rfl, rfl, isW_one hzw (List.getElem_mem hql)⟩
    · intro D H2 ys hD e2 hh2 hl2 hlen hp
      obtain ⟨zs, rfl, hzs⟩ := strs_of hp
      rw [List.length_map] at hlen
      obtain ⟨hsum, j1, j2⟩ := joined hzs
      refine ⟨_, D, zs, rfl, rfl, .inl (SqL.of hl2), ?_, ?_⟩
      · rw [hsum]
        have : ("" : Str).length = 0 := rfl
        rw [this]
        omega
      · exact k _ _ (by rw [j1]; omega) j2 (e1.trans e2) hh2
def sp_bb_sparse : Sp := fun vs H Q _ => ∃ (h c : Addr) (p : Int) (z : Str) (m n : Nat), vs = [.ref h, .int p, .str z, .int n, .int m] ∧ HandAt H h c ∧ 2 ≤ p ∧ p ≤ 1000 ∧ 0 < z.length ∧ z.length ≤ 100 ∧ isW z = true ∧ m ≤ 900 ∧ n ≤ 900 ∧
  ∀ d s H', ExB h H H' → H d = none → H' d = some (.dK (toK s)) → Lot p s n m → HandAt H' h c → Q (.ref d) H'
theorem ok_law_sparse {f : Addr} {fd : FuncData} (F : Fun K "_law_sparse" "_law_sparse" s_law_sparse f fd) (T : Txt K mg C_Bag Cs) (D_law_pick : DefOk P w K mg base CX0 1 "_law_pick" ["_law_tape_here", "_law_many"] sp_law_draw) (D_law_word : DefOk P w K mg base CX0 2 "_law_word" ["_law_tape_here", "_law_letters_here", "_law_most"] sp_bb_word) : FnOk P w K mg base CX0 3 f fd ["_law_tape_here", "_law_clock_here", "_law_letters_here", "_law_many", "_law_most"] sp_bb_sparse := by
  refine F.ok sc_law_sparse (fun vs H Q E h => ?_) (fun cdv A outer s H vs Q E hr h => ?_)
  · obtain ⟨h, c, p, z, m, n, rfl, _⟩ := h
    rfl
  · obtain ⟨h, c, p, z, m, n, rfl, hh, hp0, hp1, hz0, hz1, hzw, hm, hn, k⟩ := h
    have hu := hu_of hr; have hu64 := L2.Room.units hr; refine ⟨_, (pss_cons (ps_set (i := 5) sc_law_sparse.nd rfl (by first | exact Or.inl rfl | exact Or.inr rfl) pe_dnewK) (pss_cons (ps_for PassesOwn.never rfl (pi_range1 rfl T.b_range (pa_cons (pe_callD D_law_pick (hr.mono (by decide)) rfl pass0 (pa_cons (pv 0) (pa_cons (pe_op op_add (pv 3) pe_int) pa_nil))) pa_nil)) (pg_name (i := 6) sc_law_sparse.nd rfl (by first | exact Or.inl rfl | exact Or.inr rfl)) (pss_cons (ps_set (i := 7) sc_law_sparse.nd rfl (by first | exact Or.inl rfl | exact Or.inr rfl) (pe_callD D_law_word (hr.mono (by decide)) rfl pass0 (pa_cons (pv 0) (pa_cons (pv 2) (pa_cons (pv 4) pa_nil))))) (pss_one (ps_dput hu (pv 5) (pv 7) (pe_op op_add pe_int (pe_callD D_law_pick (hr.mono (by decide)) rfl pass0 (pa_cons (pv 0) (pa_cons (pe_op op_sub (pv 1) pe_int) pa_nil)))) rfl)))) (pss_one (ps_ret (pv 5))))), ?_⟩; rw [st_law_sparse]; (try dsimp only [cxOf]); walk_at "go"
    intro d hd
    walk_at "go"
    obtain ⟨hdh, hdc⟩ := hh.new hd
    refine ⟨h, c, n + 1, rfl, hh.upd hdh hdc, by omega, by omega, fun v H1 hv0 hv1 e1 hh1 => ?_⟩
    walk_at "go"
    refine ⟨by omega, by omega, ?_⟩
    refine forG walk_range (fun i σ' H' => (∃ x y, σ' = [some (.ref h), some (.int p), some (.str z), some (.int n), some (.int m), some (.ref d), x, y]) ∧ ExB h H H' ∧ HandAt H' h c ∧ ∃ s, H' d = some (.dK (toK s)) ∧ Lot p s i m) ⟨⟨none, none, rfl⟩, (Ex.new hd).exb.trans e1, hh1, [], e1 _ _ hdh upd_same, Lot.nil⟩ (fun _ _ _ _ _ => trivial) ?_ ?_
    · rintro i x σ' H2 H3 hi ⟨⟨x, y, rfl⟩, e2, hh2, s, hs, hl⟩ ⟨rfl, rfl⟩
      walk_at "go"
      refine ⟨h, c, z, m, rfl, hh2, hz0, hz1, hzw, by omega, by omega, fun u H4 hu1 hu2 e4 hh4 => ?_⟩
      walk_at "go"
      refine ⟨h, c, p - 1, rfl, hh4, by omega, by omega, fun v2 H5 h1 h2 e5 hh5 => ?_⟩
      walk_at "go"
      have hs5 := e5 _ _ hdh (e4 _ _ hdh hs)
      refine g_dp hs5 (Nat.lt_of_le_of_lt hl.n (Nat.lt_of_lt_of_le (by omega : i < 1000) (by decide))) ?_
      refine ⟨⟨_, _, rfl⟩, ?_, hh5.upd hdh hdc, _, upd_same, hl.put (by omega) (by omega) (by omega) hu2⟩
      exact fun a o hne q => by rw [upd_ne (ne_of_none q hd)]; exact e5 _ _ hne (e4 _ _ hne (e2 _ _ hne q))
    · rintro σ' H2 ⟨⟨x, y, rfl⟩, e2, hh2, s, hs, hl⟩
      walk_at "go"
      exact k d s H2 e2 hd hs (hl.mono (by omega) (Nat.le_refl _)) hh2

end
end Fp

/-! Sums of dicts of words in which a 0 stays to the end. -/
namespace Fp
open PySem L2
def rawP (p : Int) (s : Bg) (w : Str) (n : Int) : Bg := putS s w ((cf s w + n) % p)
def nzS (s : Bg) : Bg := s.filter fun kv => decide (kv.2 ≠ 0)
structure RawG (p : Int) (s : Bg) : Prop where
  nd : (keys s).Nodup
  lo : ∀ kv ∈ s, 0 ≤ kv.2
  hi : ∀ kv ∈ s, kv.2 < p
theorem Good.raw {p : Int} {s : Bg} (g : Good p s) : RawG p s := ⟨g.nd, fun kv h => by have := g.lo kv h; omega, g.hi⟩
theorem RawG.put {p n : Int} {s : Bg} {w : Str} (hp : 0 < p) (g : RawG p s) : RawG p (rawP p s w n) :=
  ⟨nodup_put g.nd, fun kv h => (mem_put h).elim (g.lo kv) fun e => by rw [e]; exact Int.emod_nonneg _ (by omega), fun kv h => (mem_put h).elim (g.hi kv) fun e => by rw [e]; exact Int.emod_lt_of_pos _ hp⟩
theorem keys_nz {s : Bg} {u : Str} (h : u ∈ keys (nzS s)) : u ∈ keys s := by
  obtain ⟨n, hn⟩ := mem_keys.mp h
  exact mem_keys.mpr ⟨n, (List.mem_filter.mp hn).1⟩
theorem nz_nodup {s : Bg} (h : (keys s).Nodup) : (keys (nzS s)).Nodup := by
  unfold keys nzS
  exact List.Sublist.nodup (List.Sublist.map _ List.filter_sublist) h
theorem RawG.good {p : Int} {s : Bg} (g : RawG p s) : Good p (nzS s) :=
  ⟨nz_nodup g.nd, fun kv h => by
    obtain ⟨h1, h2⟩ := List.mem_filter.mp h
    have := g.lo kv h1
    have := of_decide_eq_true h2
    omega, fun kv h => g.hi kv ((List.mem_filter.mp h).1)⟩
theorem cf_nz {s : Bg} (h : (keys s).Nodup) (u : Str) : cf (nzS s) u = cf s u := by
  by_cases hu : u ∈ keys (nzS s)
  · obtain ⟨n, hn⟩ := mem_keys.mp hu
    rw [cf_of_mem (nz_nodup h) hn, cf_of_mem h ((List.mem_filter.mp hn).1)]
  · rw [cf_not_mem hu]
    by_cases hs : u ∈ keys s
    · obtain ⟨n, hn⟩ := mem_keys.mp hs
      rw [cf_of_mem h hn]
      by_cases h0 : n = 0
      · exact h0.symm
      · exact absurd (mem_keys.mpr ⟨n, List.mem_filter.mpr ⟨hn, decide_eq_true h0⟩⟩) hu
    · rw [cf_not_mem hs]
theorem cf_rawP (p : Int) (s : Bg) (w u : Str) (n : Int) : cf (rawP p s w n) u = if u = w then (cf s w + n) % p else cf s u := cf_put s w u _
theorem raw_fold {p : Int} {α : Type} (k : α → Str) (v : α → Int) : ∀ (l : List α) (s s' : Bg), (∀ u, cf s u = cf s' u) → ∀ u, cf (l.foldl (fun acc a => rawP p acc (k a) (v a)) s) u = cf (l.foldl (fun acc a => addTo p acc (k a) (v a)) s') u
  | [], s, s', h, u => h u
  | a :: l, s, s', h, u => raw_fold k v l _ _ (fun x => by rw [cf_rawP, cf_addTo, h, h]) u
def plusR (p : Int) (s t : Bg) (f : Int) : Bg := t.foldl (fun acc kv => rawP p acc kv.1 (f * kv.2)) s
def rowR (p : Int) (acc : Bg) (a : Str × Int) (t : Bg) : Bg := t.foldl (fun acc b => rawP p acc (a.1 ++ b.1) (a.2 * b.2)) acc
def prodR (p : Int) (s t : Bg) : Bg := s.foldl (fun acc a => rowR p acc a t) []
theorem fold_rawG {p : Int} {α : Type} (hp : 0 < p) (k : α → Str) (v : α → Int) : ∀ (l : List α) (s : Bg), RawG p s → RawG p (l.foldl (fun acc a => rawP p acc (k a) (v a)) s)
  | [], s, h => h
  | a :: l, s, h => fold_rawG hp k v l _ (h.put hp)
theorem plusR_raw {p f : Int} {s t : Bg} (hp : 0 < p) (g : RawG p s) : RawG p (plusR p s t f) := fold_rawG hp _ _ t s g
theorem rowR_raw {p : Int} {s t : Bg} {a : Str × Int} (hp : 0 < p) (g : RawG p s) : RawG p (rowR p s a t) := fold_rawG hp _ _ t s g
theorem prodR_raw {p : Int} {s t : Bg} (hp : 0 < p) : RawG p (prodR p s t) := by
  have key : ∀ (l acc : Bg), RawG p acc → RawG p (l.foldl (fun acc a => rowR p acc a t) acc) := by
    intro l
    induction l with
    | nil => intro acc h; exact h
    | cons a l ih => intro acc h; exact ih _ (rowR_raw hp h)
  exact key s [] Good.nil.raw
theorem cf_plusR {p f : Int} {s t : Bg} (u : Str) : cf (plusR p s t f) u = cf (plusS p s t f) u := raw_fold _ _ t s s (fun _ => rfl) u
theorem cf_prodR {p : Int} {s t : Bg} (u : Str) : cf (prodR p s t) u = cf (prodS p s t) u := by
  have key : ∀ (l acc acc' : Bg), (∀ u, cf acc u = cf acc' u) → ∀ u, cf (l.foldl (fun acc a => rowR p acc a t) acc) u = cf (l.foldl (fun acc a => prodRow p acc a t) acc') u := by
    intro l
    induction l with
    | nil => intro acc acc' h u; exact h u
    | cons a l ih => intro acc acc' h u; exact ih _ _ (fun x => raw_fold _ _ t acc acc' h x) u
  exact key s [] [] (fun _ => rfl) u
theorem len_rawP (p : Int) (s : Bg) (w : Str) (n : Int) : (rawP p s w n).length ≤ s.length + 1 := len_put _ _ _
theorem len_foldR {p : Int} {α : Type} (k : α → Str) (v : α → Int) : ∀ (l : List α) (s : Bg), (l.foldl (fun acc a => rawP p acc (k a) (v a)) s).length ≤ s.length + l.length
  | [], s => Nat.le_refl _
  | a :: l, s => by
    have h1 := len_foldR (p := p) k v l (rawP p s (k a) (v a))
    have h2 := len_rawP p s (k a) (v a)
    rw [List.foldl_cons, List.length_cons]
    omega
theorem len_plusR {p f : Int} {s t : Bg} : (plusR p s t f).length ≤ s.length + t.length := len_foldR _ _ t s
theorem len_rowR {p : Int} {s t : Bg} {a : Str × Int} : (rowR p s a t).length ≤ s.length + t.length := len_foldR _ _ t s
theorem len_prodR {p : Int} {s t : Bg} : (prodR p s t).length ≤ s.length * t.length := by
  have key : ∀ (l acc : Bg), (l.foldl (fun acc a => rowR p acc a t) acc).length ≤ acc.length + l.length * t.length := by
    intro l
    induction l with
    | nil => intro acc; simp
    | cons a l ih =>
      intro acc
      have h1 := ih (rowR p acc a t)
      have h2 := len_rowR (p := p) (s := acc) (t := t) (a := a)
      rw [List.foldl_cons, List.length_cons, Nat.succ_mul]
      omega
  have h := key s []
  rw [List.length_nil, Nat.zero_add] at h
  exact h
/-- what two good dicts with the same numbers have alike -/
theorem same_keys {p : Int} {s t : Bg} (gs : Good p s) (gt : Good p t) (h : ∀ u, cf s u = cf t u) (u : Str) : u ∈ keys s ↔ u ∈ keys t := by rw [cf_ne gs, cf_ne gt, h]
theorem same_len {p : Int} {s t : Bg} (gs : Good p s) (gt : Good p t) (h : ∀ u, cf s u = cf t u) : s.length = t.length := by
  have := (keys_perm gs gt h).length_eq
  unfold keys at this
  rwa [List.length_map, List.length_map] at this
end Fp

/-! y = {k: v for .. in .. for .. in ..}: one rule for the loop of a clause, used for both of them. -/
namespace Fp
open PySem PySem.Spec PyProof.Rows L2
/-- what a clause does at a turn, k behind its tests -/
def turnOf (p : Pos) (it : Value) (tg : Expr) (ifs : List Expr) (env : Env) (k : Bool → Sem PySem.Fin) : Sem PySem.Fin := do
  standAt p
  match ← pyNext it with
  | none => pure (.done .next)
  | some v =>
    letOwnedTupleGo tg it v
    assign tg env v
    let ok ← forIn ifs true fun c r => if r = true then do let ok ← isTrue c env (eval c env); pure (ForInStep.yield ok) else pure (ForInStep.yield r)
    k ok
abbrev two (kx vx t0 i0 : Expr) (f0 : List Expr) (t1 i1 : Expr) (f1 : List Expr) (sc : Scope) (pos : Pos) : Expr := .DictComp kx vx [⟨t0, i0, f0, 0⟩, ⟨t1, i1, f1, 0⟩] sc pos
/-- behind the first clause's tests -/
def firstEnd (kx vx t0 i0 : Expr) (f0 : List Expr) (t1 i1 : Expr) (f1 : List Expr) (sc : Scope) (pos : Pos) (it acc : Value) (env : Env) (ok : Bool) : Sem PySem.Fin := do
  if ok then
    let x ← eval i1 env
    standAt i1.pos
    let x ← foldedSetIterable i1 env x
    let _ ← runOwn (.compStart (two kx vx t0 i0 f0 t1 i1 f1 sc pos) 1 (← holding [x] (pyIter x)) acc env) env
  again (.compLoop (two kx vx t0 i0 f0 t1 i1 f1 sc pos) 0 it acc env)
/-- behind the second one's -/
def secondEnd (kx vx t0 i0 : Expr) (f0 : List Expr) (t1 i1 : Expr) (f1 : List Expr) (sc : Scope) (pos : Pos) (it : Value) (D : Addr) (env : Env) (ok : Bool) : Sem PySem.Fin := do
  if ok then
    (do
      let kv ← eval kx env
      let vv ← holding [kv] (eval vx env)
      standAt { kx.pos with endLine := vx.pos.endLine, endCol := vx.pos.endCol }
      holding [kv, vv] (dictSet D kv vv))
  again (.compLoop (two kx vx t0 i0 f0 t1 i1 f1 sc pos) 1 it (.ref D) env)
theorem first_turn (kx vx t0 i0 : Expr) (f0 : List Expr) (t1 i1 : Expr) (f1 : List Expr) (sc : Scope) (pos : Pos) (it acc : Value) (env : Env) :
    compTurn (two kx vx t0 i0 f0 t1 i1 f1 sc pos) 0 it acc env = turnOf i0.pos it t0 f0 env (firstEnd kx vx t0 i0 f0 t1 i1 f1 sc pos it acc env) := by rfl
theorem second_turn (kx vx t0 i0 : Expr) (f0 : List Expr) (t1 i1 : Expr) (f1 : List Expr) (sc : Scope) (pos : Pos) (it : Value) (D : Addr) (env : Env) :
    compTurn (two kx vx t0 i0 f0 t1 i1 f1 sc pos) 1 it (.ref D) env = turnOf i1.pos it t1 f1 env (secondEnd kx vx t0 i0 f0 t1 i1 f1 sc pos it D env) := by rfl
section
variable {X : Cx}
/-- behind a turn: what the loop knew at its start is known again -/
def Back (X : Cx) (pins : List (Addr × Obj)) (σ0 : L2.St) (Nx : Hp → Prop) (s' : Shared) : Prop := ∃ σ H, Inv X pins σ H s' ∧ σ0.length = σ.length ∧ (∀ (j : Nat) v, σ0[j]? = some (some v) → σ[j]? = some (some v)) ∧ Nx H
theorem clause_loop {kx vx t0 i0 : Expr} {f0 : List Expr} {t1 i1 : Expr} {f1 : List Expr} {sc : Scope} {pos : Pos} {d : Nat} {it : Addr} {acc : Value} {tg : Expr} {p : Pos} {k : Bool → Sem PySem.Fin} {J : It} {fp : List Addr} {tn : Nat → Heap → Prop} {g : TG} {pins : List (Addr × Obj)} {σ0 : L2.St} {R : Result → Shared → Prop}
    (hx : ∀ v s, X.xe v s → False) (ht : compTurn (two kx vx t0 i0 f0 t1 i1 f1 sc pos) d (.ref it) acc X.env = turnOf p (.ref it) tg [] X.env k) (hc : X.calm = true) (T : Turn X.prog X.w X.K tg J fp it tn) (pg : PG X tg g)
    (hfp : ∀ {σ' : L2.St} {H' : Hp} {s' : Shared}, Inv X pins σ' H' s' → ∀ b ∈ fp, H' b = none → FpOk X pins H' b) (W : Nat → Nat → Hp → Prop)
    (turn : ∀ i m H, W i m H → (J.stop i H ∧ ∀ s', Inv X pins σ0 H s' → R (.ok .next) s') ∨ (J.go i H ∧ ∃ Nx : Hp → Prop, (∀ H', Nx H' → ∃ m', m' < m ∧ W (i + 1) m' H') ∧ ∀ x H', J.yld i H x H' → ∃ Z : L2.St → Hp → Prop, g x σ0 H' Z ∧
      ∀ σ2 H2 ps s9, Z σ2 H2 → Inv X (pins ++ ps) σ2 H2 s9 → wpAny (model X.prog X.w) X.A (k true) (fun f s' => f = .again (.compLoop (two kx vx t0 i0 f0 t1 i1 f1 sc pos) d (.ref it) acc X.env) ∧ Back X (pins ++ ps) σ0 Nx s') (notedBy (model X.prog X.w) X.A X.env fun e s' => R (.error e) s') s9))
    {m0 : Nat} {H : Hp} {s : Shared} (I : Inv X pins σ0 H s) (st : tn 0 s.heap) (hn : ∀ b ∈ fp, H b = none) (w0 : W 0 m0 H) :
    codeAny (model X.prog X.w) X.A (.compLoop (two kx vx t0 i0 f0 t1 i1 f1 sc pos) d (.ref it) acc X.env) R s := by
  refine codeAny_loop rfl (fun n s' => ∃ i H', Inv X pins σ0 H' s' ∧ tn i s'.heap ∧ (∀ b ∈ fp, H' b = none) ∧ W i n H') (fun n s5 hI => ?_) m0 ⟨0, H, I, st, hn, w0⟩
  obtain ⟨i, H5, I5, st5, n5, w5⟩ := hI
  show wpAny _ X.A ((compTurn (two kx vx t0 i0 f0 t1 i1 f1 sc pos) d (.ref it) acc X.env).onRaise (fun x => do noteFrame x X.env; theTreesLotGoes x)) _ _ s5
  refine wpAny_noted ?_
  rw [ht]
  rcases turn i n H5 w5 with ⟨stop, hr⟩ | ⟨go, Nx, hNx, step⟩
  · refine wpAny_bind (wpAny_standAt (wpAny_bind (thnF (T.done X rfl rfl rfl hc i pins s5 _ H5 (fun _ _ => False) I5 (fun b hb => hfp I5 b hb (n5 b hb)) st5 stop) fun r s6 ⟨e1, I6⟩ => ?_)))
    subst e1
    exact wpAny_pure (hr s6 I6)
  · refine wpAny_bind (wpAny_standAt (wpAny_bind (thnF (T.item X rfl rfl rfl hc i pins s5 _ H5 (fun _ _ => False) I5 (fun b hb => hfp I5 b hb (n5 b hb)) st5 go) fun r s6 ⟨u, e1, h6⟩ => ?_)))
    subst e1
    refine wpAny_bind (thnF h6 fun _ s7 ⟨x, H7, I7, r7, y7, st7, n7⟩ => ?_)
    have I7' := I7.pinned (fun b hb => hfp I7 b hb (n7 b hb)) (T.obj _ _ st7)
    obtain ⟨Z, hZ, hk⟩ := step x H7 y7
    refine wpAny_bind (wpAny_mono (pg.run _ s7 _ H7 x u _ I7' r7 hZ) (fun _ s8 ⟨σ8, H8, I8, q8⟩ => ?_) fun v s' z => (hx v s' z).elim)
    refine wpAny_bind (wpAny_tests_nil ?_)
    refine wpAny_mono (hk σ8 H8 _ s8 q8 I8) (fun f s' ⟨ef, σ3, H', I', hl, hk, nx⟩ => ?_) fun _ _ z => z
    subst ef
    obtain ⟨m', hm, w'⟩ := hNx H' nx
    have old : ∀ b ∈ fp, ∀ o, s7.heap.get? b = some o → s'.heap.get? b = some o ∧ H' b = none := fun b hb o eo =>
      let z := I'.pin (b, o) (List.mem_append_right _ (List.mem_append_right _ (mem_pinsAt hb eo)))
      ⟨z.1, z.2.1⟩
    refine ⟨rfl, m', hm, i + 1, H', I'.unpinned.weak hl hk, T.keep _ _ _ st7 fun b hb o eo => (old b hb o eo).1, fun b hb => ?_, w'⟩
    obtain ⟨o, eo, _⟩ := T.obj _ _ st7 b hb
    exact (old b hb o eo).2
/-- the second clause begins: its source is an iterator already -/
theorem second_start {kx vx t0 i0 : Expr} {f0 : List Expr} {t1 i1 : Expr} {f1 : List Expr} {sc : Scope} {pos : Pos} {it acc : Value} {env : Env} {P : Program} {w : World} {A : Around} {R : Result → Shared → Prop} {s : Shared}
    (h : codeAny (model P w) A (.compLoop (two kx vx t0 i0 f0 t1 i1 f1 sc pos) 1 it acc env) R s)
    (h2 : wpAny (model P w) A (pyIter it) (fun it' s' => codeAny (model P w) A (.compLoop (two kx vx t0 i0 f0 t1 i1 f1 sc pos) 1 it' acc env) R s') (notedBy (model P w) A env fun x s' => R (.error x) s') s) :
    codeAny (model P w) A (.compStart (two kx vx t0 i0 f0 t1 i1 f1 sc pos) 1 it acc env) R s := by
  refine codeAny_of_tree ?_
  show wpAny _ A ((compStart (two kx vx t0 i0 f0 t1 i1 f1 sc pos) 1 it acc env).onRaise (fun x => do noteFrame x env; standAt theWindowsPlace)) _ _ s
  refine wpAny_notedAt ?_
  unfold compStart
  refine wpAny_bind ?_
  refine wpAny_askSetting (wpAny_ite ?_)
  split
  · exact wpAny_pure ⟨rfl, h⟩
  · refine wpAny_bind (wpAny_rule ?_)
    refine wpAny_bind (wpAny_standAt (wpAny_bind (wpAny_mono h2 (fun it' s' h' => ?_) fun _ _ z => z)))
    exact wpAny_pure ⟨rfl, h'⟩
/-- the store at the end of the second clause -/
theorem second_end {kx vx t0 i0 : Expr} {f0 : List Expr} {t1 i1 : Expr} {f1 : List Expr} {sc : Scope} {pos : Pos} {it : Value} {D : Addr} {pins : List (Addr × Obj)} {tk tv : TE} {σ0 σ : L2.St} {H : Hp} {Nx : Hp → Prop} {s : Shared} {E : Value → Shared → Prop}
    (hx : ∀ v s, X.xe v s → False) (pk : PE X kx tk) (pv : PE X vx tv) (I : Inv X pins σ H s) (hl : σ0.length = σ.length) (hk : ∀ (j : Nat) v, σ0[j]? = some (some v) → σ[j]? = some (some v))
    (h : tk σ H fun y H5 => tv σ H5 fun z H6 => ∃ kvs q, y = kV q ∧ H6 D = some (.dK kvs) ∧ kvs.length < sizeLine ∧ Nx (upd H6 D (.dK (putK kvs q z)))) :
    wpAny (model X.prog X.w) X.A (secondEnd kx vx t0 i0 f0 t1 i1 f1 sc pos it D X.env true) (fun f s' => f = .again (.compLoop (two kx vx t0 i0 f0 t1 i1 f1 sc pos) 1 it (.ref D) X.env) ∧ Back X pins σ0 Nx s') E s := by
  unfold secondEnd
  refine wpAny_bind (wpAny_bind (wpAny_mono (pk.run pins s σ H _ I h) (fun u s1 ⟨y, H1, I1, r1, q1⟩ => ?_) fun v s' z => (hx v s' z).elim))
  refine wpAny_bind (wpAny_holding (wpAny_mono (pv.run pins s1 σ H1 _ I1 q1) (fun r s2 ⟨z, H2, I2, r2, kvs, q, ey, hD, hz, nx⟩ => ?_) fun v s' z => (hx v s' z).elim))
  subst ey
  refine wpAny_bind (wpAny_standAt (wpAny_holding (d_dictSet I2 hD hz r1 r2 fun s3 I3 => ?_)))
  exact wpAny_pure ⟨rfl, σ, _, I3, hl, hk, nx⟩
/-- the loop of both clauses -/
theorem both_loops {kx vx t0 i0 t1 i1 : Expr} {sc : Scope} {pos : Pos} {it D : Addr} {J : It} {fp : List Addr} {tn : Nat → Heap → Prop} {wi1 : TI} {g g1 : TG} {tk tv : TE} {vs vs1 : List Nat} {pins : List (Addr × Obj)} {σ : L2.St} {R : Result → Shared → Prop} {Q : Hp → Prop}
    (hx : ∀ v s, X.xe v s → False) (hc : X.calm = true) (T : Turn X.prog X.w X.K t0 J fp it tn) (pg : PG X t0 g) (pi1 : PI X t1 i1 wi1) (pg1 : PG X t1 g1) (pk : PE X kx tk) (pv : PE X vx tv) (hs1 : ∀ x, foldedSetIterable i1 X.env x = pure x) (hv : ∀ i ∈ vs1, i ∈ vs)
    (hfp : ∀ {σ' : L2.St} {H' : Hp} {s' : Shared}, Inv X pins σ' H' s' → ∀ b ∈ fp, H' b = none → FpOk X pins H' b) (W : Nat → Nat → Hp → Prop)
    (hR : ∀ H s', Q H → Inv X pins (wipe σ vs) H s' → R (.ok .next) s')
    (turn : ∀ i m H, W i m H →
      (J.stop i H ∧ Q H) ∨ (J.go i H ∧ ∃ Nx : Hp → Prop, (∀ H', Nx H' → ∃ m', m' < m ∧ W (i + 1) m' H') ∧ ∀ x H', J.yld i H x H' → g x (wipe σ vs) H' fun σ2 H2 => wipe σ2 vs = wipe σ vs ∧ wi1 σ2 H2 fun J1 H3 =>
        ∃ W1 : Nat → Nat → Hp → Prop, (∃ m, W1 0 m H3) ∧ ∀ j k H, W1 j k H → (J1.stop j H ∧ Nx H) ∨ (J1.go j H ∧ ∃ Nx1 : Hp → Prop, (∀ H', Nx1 H' → ∃ k', k' < k ∧ W1 (j + 1) k' H') ∧ ∀ x H', J1.yld j H x H' → g1 x (wipe σ2 vs1) H' fun σ3 H4 =>
          wipe σ3 vs1 = wipe σ2 vs1 ∧ tk σ3 H4 fun y H5 => tv σ3 H5 fun z H6 => ∃ kvs q, y = kV q ∧ H6 D = some (.dK kvs) ∧ kvs.length < sizeLine ∧ Nx1 (upd H6 D (.dK (putK kvs q z))))))
    {m0 : Nat} {H : Hp} {s : Shared} (I : Inv X pins (wipe σ vs) H s) (st : tn 0 s.heap) (hn : ∀ b ∈ fp, H b = none) (w0 : W 0 m0 H) :
    codeAny (model X.prog X.w) X.A (.compLoop (two kx vx t0 i0 [] t1 i1 [] sc pos) 0 (.ref it) (.ref D) X.env) R s := by
  refine clause_loop hx (first_turn kx vx t0 i0 [] t1 i1 [] sc pos _ _ _) hc T pg hfp W (fun i m H w0 => ?_) I st hn w0
  rcases turn i m H w0 with ⟨stop, q⟩ | ⟨go, Nx, hNx, step⟩
  · exact .inl ⟨stop, fun s' I' => hR H s' q I'⟩
  · refine .inr ⟨go, Nx, hNx, fun x H1 hy => ⟨_, step x H1 hy, ?_⟩⟩
    rintro σ2 H2 ps s9 ⟨hw, q2⟩ I9
    unfold firstEnd
    refine wpAny_bind (wpAny_mono (pi1.run _ s9 σ2 H2 _ I9 q2) (fun xv s10 h10 => ?_) fun v s' z => (hx v s' z).elim)
    refine wpAny_bind (wpAny_standAt (wpAny_bind (wpAny_of_eq (hs1 xv) (wpAny_bind (wpAny_holding (wpAny_mono h10 (fun itv s11 h11 => ?_) fun v s' z => (hx v s' z).elim))))))
    obtain ⟨it1, fp1, tn1, J1, H11, e1, I11, T1, st11, f11, W1, ⟨m1, w1⟩, turn1⟩ := h11
    subst e1
    have hl2 : (wipe σ vs).length = σ2.length := by rw [← hw, wipe_length]
    have hk2 : ∀ (j : Nat) v, (wipe σ vs)[j]? = some (some v) → (wipe σ2 vs1)[j]? = some (some v) := fun j v e => by
      rw [← hw] at e
      obtain ⟨e1, e2⟩ := wipe_some e
      rw [wipe_out fun z => e2 (hv j z)]
      exact e1
    have inner : codeAny (model X.prog X.w) X.A (.compLoop (two kx vx t0 i0 [] t1 i1 [] sc pos) 1 (.ref it1) (.ref D) X.env) (fun r s' => match r with | .ok _ => Back X (pins ++ ps) (wipe σ vs) Nx s' | .error _ => False) s11 := by
      refine clause_loop (σ0 := wipe σ2 vs1) hx (second_turn kx vx t0 i0 [] t1 i1 [] sc pos _ _ _) hc T1 pg1 (fun I' b hb e => ⟨e, (f11 b hb).2⟩) W1 (fun j k H w1 => ?_) (I11.weak (wipe_length _ _) fun j v e => (wipe_some e).1) st11 (fun b hb => (f11 b hb).1) w1
      rcases turn1 j k H w1 with ⟨stop1, q1⟩ | ⟨go1, Nx1, hNx1, step1⟩
      · exact .inl ⟨stop1, fun s' I' => ⟨_, _, I', hl2.trans (wipe_length σ2 vs1).symm, hk2, q1⟩⟩
      · refine .inr ⟨go1, Nx1, hNx1, fun x1 H12 hy1 => ⟨_, step1 x1 H12 hy1, ?_⟩⟩
        rintro σ3 H13 ps3 s13 ⟨hw3, q3⟩ I13
        exact second_end hx pk pv I13 (by rw [← hw3, wipe_length]) (fun j v e => by rw [← hw3] at e; exact (wipe_some e).1) q3
    refine wpAny_bind (wpAny_runOwn ?_)
    rw [Around.mark_none]
    refine codeAny_mono (second_start inner (T1.self X.A 0 _ _ _ st11 inner)) fun r s' hr => ?_
    cases r with
    | ok f => exact wpAny_pure ⟨rfl, hr⟩
    | error e => exact hr.elim
abbrev InBlk (X : Cx) (scope : Scope) (q : Cx → Prop) : Prop := ∀ (s : Shared) (H : Hp) (C : Addr) (cl : List (Str × Addr)) (fp : List Addr), q (X.blk s H scope (compEnvC scope cl C X.env) fp)
/-- the comprehension itself, whatever is done with the new dict -/
theorem dc2_core {kx vx t0 i0 t1 i1 : Expr} {scope : Scope} {own : List (Str × Nat)} {vs1 : List Nat} {pos pos' : Pos} {wi wi1 : TI} {g g1 : TG} {tk tv : TE} {use : Option (Value → Sem Unit)} {Qf : Value → Shared → Prop} {pins : List (Addr × Obj)} {s : Shared} {σ : L2.St} {H : Hp} {Q : VK}
    (hc : X.calm = true) (hN : X.N.Nodup) (I : Inv X pins σ H s) (hi : PI X t0 i0 wi) (ok : BlkOk X.N X.env.scope scope own) (hv : ∀ i ∈ vs1, i ∈ own.map (·.2))
    (hg : InBlk X scope fun Y => PG Y t0 g) (hi1 : InBlk X scope fun Y => PI Y t1 i1 wi1) (hg1 : InBlk X scope fun Y => PG Y t1 g1) (hk : InBlk X scope fun Y => PE Y kx tk) (he : InBlk X scope fun Y => PE Y vx tv)
    (hs : ∀ x, foldedSetIterable i0 X.env x = pure x) (hs1 : ∀ env x, foldedSetIterable i1 env x = pure x) (h : tDc2 wi g wi1 g1 tk tv (own.map (·.2)) vs1 σ H Q)
    (hRR : ∀ D C s' m H', Inv X pins σ H' s' → Q (.ref D) H' → s'.heap.Ns C m → FpOk X pins H' C → compPost (model X.prog X.w) X.A X.xe use Qf (.ref D) C (.ok .next) s') :
    wpAny (model X.prog X.w) X.A (comprehension (two kx vx t0 i0 [] t1 i1 [] scope pos) scope X.env pos' newDict false (eval i0 X.env) use) Qf X.xe s := by
  have hcl : ∀ y ∈ scope.names, y.2 = .free → ∃ c, X.env.cells.lookup y.1 = some c := fun y hy e => (ok.free y hy e).elim (fun k => I.ok.has _ (.inl k)) fun k => I.ok.has _ (.inr k)
  refine wpAny_comprehension_free (use := use) rfl hs (closure_ok hcl) ok.kind (fun y hy e => by rw [ok.uniq y hy, e]) (thn (hi.run pins s σ H _ I h) fun xv s1 hx => thn hx fun itv s2 h2 => ?_)
  obtain ⟨it, fp, tn, J, H2, e, I2, T, st2, f2, q⟩ := h2
  subst e
  refine wpAny_newObj_type (newEnv_comp ?_)
  obtain ⟨W, ⟨m0, w0⟩, turn⟩ := q s2.heap.objs.size (I2.hok.fresh (Nat.le_refl _))
  generalize hD : s2.heap.objs.size = D at w0 turn ⊢
  generalize hs3 : ({ s2 with heap := s2.heap.push { cls := .type "dict", data := .dict #[] } } : Shared) = s3
  have e3 : s3.heap = s2.heap.push { cls := .type "dict", data := .dict #[] } := by rw [← hs3]
  generalize hH3 : upd H2 D (.dK []) = H3 at w0
  have I3 : Inv X pins σ H3 s3 := by
    rw [← hs3, ← hH3]
    refine I2.laid (t' := s2.toks) (fun b o e => Heap.get?_push_of_some _ e) (Nat.le_of_eq hD) ?_
    rw [← hD]
    exact dk_empty s2.heap I2.big
  have f3 : ∀ b ∈ fp, FpOk X pins H3 b ∧ b < s3.heap.objs.size := fun b hb => by
    obtain ⟨o, eo, _⟩ := T.obj _ _ st2 b hb
    have lt : b < s2.heap.objs.size := Heap.lt_size eo
    refine ⟨⟨?_, (f2 b hb).2⟩, by rw [e3, Heap.size_push]; exact Nat.lt_succ_of_lt lt⟩
    rw [← hH3, upd_ne (show b ≠ D from by rw [← hD]; exact Nat.ne_of_lt lt)]
    exact (f2 b hb).1
  have I4 := block_start I3 ok hN f3
  generalize hc' : compEnvC scope (cellsFrom (s3.heap.objs.size + 1) scope.names (cloFrom X.env.cells scope.names [])) s3.heap.objs.size X.env = ce at I4
  generalize hs4 : ({ s3 with heap := pushCells (s3.heap.push { cls := .type "dict", data := .dict #[] }) scope.names } : Shared) = s4 at I4
  have all : ∀ q : Cx → Prop, InBlk X scope q → q (X.blk s3 H3 scope ce fp) := fun q z => by rw [← hc']; exact z _ _ _ _ _
  have cL : ce.locals = s3.heap.objs.size := by rw [← hc']; rfl
  have st4 : tn 0 s4.heap := T.keep _ _ _ st2 fun b _ o eo => by
    rw [← hs4]
    refine pushCells_keeps _ _ _ _ (Heap.get?_push_of_some _ ?_)
    rw [e3]
    exact Heap.get?_push_of_some _ eo
  have loop : codeAny (model X.prog X.w) X.A (.compLoop (two kx vx t0 i0 [] t1 i1 [] scope pos) 0 (.ref it) (.ref D) ce) (compPost (model X.prog X.w) X.A X.xe use Qf (.ref D) s3.heap.objs.size) s4 := by
    refine both_loops (X := X.blk s3 H3 scope ce fp) (Q := fun H => Q (.ref D) H) (fun _ _ z => z) hc T (all _ hg) (all _ hi1) (all _ hg1) (all _ hk) (all _ he) (hs1 _) hv (fun {σ' H' s'} I' b hb hn => ⟨hn, (I'.ok.exf b hb).1, I'.ok.exfs b hb, .inl hb, fun x c e => (I'.ok.exf b hb).2 x c e, fun p hp => absurd (show p ∈ ([] : List (Addr × Obj)) ++ [] from hp) (by simp)⟩) W (fun H' s' qq I6 => ?_) turn I4 st4 (fun b hb => (f3 b hb).1.1) w0
    have I7 : Inv X pins σ H' s' := I3.call' (ch := fp) I6.os I6.base I6.hok I6.bare fun b hb => ⟨(f3 b hb).1.2.2.2.1, (f3 b hb).1.2.1, (f3 b hb).1.2.2.2.2.1, (f3 b hb).1.2.2.2.2.2⟩
    have nC : H' s3.heap.objs.size = none := by rw [← cL]; exact I6.free
    obtain ⟨m, hn, _⟩ := I6.loc
    exact hRR D _ s' m H' I7 qq (by rw [← cL]; exact hn) (I3.fpOk (Nat.le_refl _) nC)
  subst hs4
  subst hc'
  exact codeAny_compStart_dict loop (T.self X.A 0 _ _ _ st4 loop)
theorem ps_setDc2 {i : Nat} {y : Str} {py : Pos} {kx vx t0 i0 t1 i1 : Expr} {scope : Scope} {own : List (Str × Nat)} {vs1 : List Nat} {pos spos : Pos} {wi wi1 : TI} {g g1 : TG} {tk tv : TE} (hc : X.calm = true) (hN : X.N.Nodup) (hy : X.N[i]? = some y) (hyl : X.env.scope.names.lookup y = some .local)
    (hsw : swapsWith (two kx vx t0 i0 [] t1 i1 [] scope pos) (some (.Name y py)) spos.line X.env = pure true) (hi : PI X t0 i0 wi) (ok : BlkOk X.N X.env.scope scope own) (hv : ∀ i ∈ vs1, i ∈ own.map (·.2))
    (hg : InBlk X scope fun Y => PG Y t0 g) (hi1 : InBlk X scope fun Y => PI Y t1 i1 wi1) (hg1 : InBlk X scope fun Y => PG Y t1 g1) (hk : InBlk X scope fun Y => PE Y kx tk) (he : InBlk X scope fun Y => PE Y vx tv)
    (hs : ∀ x, foldedSetIterable i0 X.env x = pure x := by intro _; rfl) (hs1 : ∀ env x, foldedSetIterable i1 env x = pure x := by intro _ _; rfl) :
    PS X (.Assign [.Name y py] (.DictComp kx vx [⟨t0, i0, [], 0⟩, ⟨t1, i1, [], 0⟩] scope pos) spos) (tAsg (tDc2 wi g wi1 g1 tk tv (own.map (·.2)) vs1) (gName i)) := by
  refine ⟨fun pins s σ H D I h => ?_⟩
  rw [exec_Assign_Name_used _ _ _ _ hsw]
  refine wpAny_bind (wpAny_standAt (wpAny_bind ?_))
  show wpAny _ X.A (do let _ ← comprehension (two kx vx t0 i0 [] t1 i1 [] scope pos) scope X.env (firstIterPos [⟨t0, i0, [], 0⟩, ⟨t1, i1, [], 0⟩] pos) newDict false (eval i0 X.env) (some (assign (.Name y py) X.env))) _ _ s
  have h : tDc2 wi g wi1 g1 tk tv (own.map (·.2)) vs1 σ H (fun x H1 => gName i x σ H1 D.nx) := h
  refine wpAny_bind (thn (dc2_core (Qf := fun _ s' => SP X pins D .next s') hc hN I hi ok hv hg hi1 hg1 hk he hs hs1 h fun L C s' m H' I' q hn f => ?_) fun _ s' hq => wpAny_pure (wpAny_pure hq))
  show wpAny _ _ (assign (.Name y py) X.env (.ref L)) _ _ _
  refine wpAny_assign_Name (store_ok2 (v := V.ref L) I' hN hy (.inl hyl) rfl (fun s2 I2 ⟨a, sb, ha⟩ => ?_) (.inr hyl))
  obtain ⟨f0, f1, f2, f3, f4, f5⟩ := f
  have haC : C ≠ a := by
    rcases ha with z | z
    · rw [z]; exact f1
    · exact fun e => f4 y a z e.symm
  exact ⟨m, hn.sameBut sb haC, fun h3 sb3 => ⟨_, H', I2.turned (t' := s2.toks) (fun b o hb e => (sb3.2 b hb).trans e) f0 f1 f3 f4 f5, q⟩⟩
end
end Fp

/-! A loop over a dict's keys that may return a plain value from within. -/
namespace Fp
open PySem L2
theorem for_keysR {σ : St} {H : Hp} {D : Ends} {d : Addr} {s : Bg} {te : TE} {j : Nat} {tb : TS} (hd : Rd H d (.dK (toK s)))
    (he : ∀ (H' : Hp) (Q : VK), LkEx d s H H' → Q (.ref d) H' → te σ H' Q)
    (I : Nat → St → Hp → Prop) (h0 : I 0 σ H) (hI : ∀ i σ H H', (∀ a o, a ≠ d → H a = some o → H' a = some o) → I i σ H → I i σ H')
    (hs : ∀ i w n σ' H' (E : Ends), s[i]? = some (w, n) → I i σ' H' → LkEx d s H H' → (∀ σ'' H'', I (i + 1) σ'' H'' → Ex H' H'' → E.nx σ'' H'') → (∀ σ'' H'', I (i + 1) σ'' H'' → Ex H' H'' → E.ct σ'' H'') →
      (∀ v H'', Ex H' H'' → (∀ H3, Ex H H3 → D.rt v H3) → E.rt v H'') → tb E (σ'.set j (some (.str w))) H')
    (hend : ∀ σ' H', I s.length σ' H' → Ex H H' → D.nx σ' H') : tLockR (tFor (iKeys te) (gName j) tb) D σ H := by
  have core : ∀ (Hl : Hp) (od : Obj) (E : Ends), Hl d = some (.frz od (.dK (toK s))) → LkEx d s H Hl → I 0 σ Hl → (∀ σ' H', I s.length σ' H' → Ex Hl H' → E.nx σ' H') →
      (∀ v H', Ex Hl H' → (∀ H3, Ex H H3 → D.rt v H3) → E.rt v H') → tFor (iKeys te) (gName j) tb E σ Hl := by
    intro Hl od E hl l0 hI0 hE hR
    refine he Hl _ l0 ⟨d, od, rfl, .inl ⟨toK s, hl, ?_⟩⟩
    refine for_it walk_keys (fun i σ' H' => I i σ' H' ∧ Ex Hl H') ⟨hI0, Ex.refl _⟩ (fun i σ' H' _ p => p.2 _ _ hl) ?_ (fun σ' H' p => ?_)
    · rintro i x σ' H' H1 hi ⟨hi1, e⟩ ⟨rfl, k, v, hk, rfl⟩
      obtain ⟨w, n, hw, ekv⟩ := toK_get hk
      cases ekv
      exact hs i w n σ' H1 _ hw hi1 (l0.ex e) (fun σ'' H'' i2 e2 => ⟨i2, e.trans e2⟩) (fun σ'' H'' i2 e2 => ⟨i2, e.trans e2⟩) fun v H'' e2 q => hR v H'' (e.trans e2) q
    · obtain ⟨hi1, e⟩ := p
      rw [toK_len] at hi1
      exact hE σ' H' hi1 e
  rcases hd with hd | ⟨od, hd⟩
  · have back : ∀ (od : Obj) (H' : Hp), Ex (upd H d (.frz od (.dK (toK s)))) H' → Ex H (upd H' d (.dK (toK s))) := fun od H' e a o q => by
      by_cases ha : a = d
      · subst ha
        rw [hd] at q
        cases q
        exact upd_same
      · rw [upd_ne ha]
        exact e a o (by rw [upd_ne ha]; exact q)
    refine .inl ⟨d, _, hd, trivial, fun od => ?_⟩
    refine core _ od _ upd_same ⟨fun a o ha q => by rw [upd_ne ha]; exact q, .inr ⟨od, upd_same⟩⟩ (hI _ _ _ _ (fun a o ha q => by rw [upd_ne ha]; exact q) h0) (fun σ' H' hi1 e => ?_) fun v H' e q => ⟨e _ _ upd_same, q _ (back od H' e)⟩
    exact ⟨e _ _ upd_same, hend σ' _ (hI _ _ _ _ (fun a o ha q => by rw [upd_ne ha]; exact q) hi1) (back od H' e)⟩
  · exact .inr (core H od D hd ⟨fun a o _ h => h, .inr ⟨od, hd⟩⟩ h0 hend fun v H' e q => q H' e)
/-- a comprehension over a locked dict, stored -/
theorem lock_asg {te : TE} {i : Nat} {D : Ends} {σ : St} {H : Hp} (h : tLockRE te σ H fun x H1 => D.nx (σ.set i (some x)) H1) : tLockR (tAsg te (gName i)) D σ H := h.elim (fun q => .inl q) fun q => .inr q
end Fp

namespace Fp
open PySem L2
section
variable {P : Program} {w : World} {K : PySem.W.Frag} {mg : Str → Option Value} {base : Heap} {C_Bag : Addr} {Cs : Addr → Prop}
local macro_rules | `(tactic| walk_at "hp") => `(tactic| first | assumption | rfl)
local macro_rules | `(tactic| walk_at "cond") => `(tactic| first | assumption | decide | omega | (unfold CMul; omega) | (refine ⟨?_, ?_⟩ <;> omega) | (unfold CDiv; omega) | (unfold CPow; omega))
local macro_rules | `(tactic| walk_at "g1") => `(tactic| first
  | with_reducible first
    | refine g_seq ?_ | refine g_asg ?_ | refine g_name ?_ | refine g_ret ?_ | refine g_retN ?_ | refine g_drop ?_ | refine g_ifs ?_
    | refine g_c ?_ | refine g_op ?_ | refine g_un ?_ | refine g_I0 ?_ | refine g_U ?_
    | refine g_test ?_ | refine g_tB ?_ | refine g_bl ?_ | refine g_and ?_ | refine g_or ?_ | refine g_not ?_
    | refine g_andV ?_ | refine g_orV ?_ | refine g_notV ?_ | refine g_if ?_ | refine g_nil ?_ | refine g_cons ?_ | refine g_cb ?_ | refine g_call ?_
    | refine g_lst ?_ | refine g_tup ?_ | refine g_itT ?_ | refine g_itF ?_ | refine g_itNT ?_ | refine g_itNF ?_ | refine g_lc ?_ | refine g_iStr ?_ | refine g_yes ?_ | refine g_exs ?_
    | refine g_chain ?_ | refine g_dget ?_ | refine g_dput ?_ | refine g_dget2 ?_ | refine g_dpop2 ?_ | refine g_fld ?_ | refine g_sfld ?_ | refine g_make ?_ | refine g_meth ?_
    | refine g_bm ?_ | refine g_kw ?_ | refine g_callS ?_ | refine g_revL ?_ | refine g_m1 ?_ | refine g_gsub ?_ | refine g_for ?_ | refine g_iList ?_ | refine g_iTup ?_ | refine g_iRng1 ?_ | refine g_iRng2 ?_ | refine g_sl ?_ | refine g_part ?_ | refine g_noPart ?_
    | refine g_exi ?_ | refine g_exr ?_ | refine g_dnew ?_ | refine g_disp ?_ | refine g_prs0 ?_ | refine g_prs ?_ | refine g_nxt ?_
  | ((with_reducible refine g_var (v := ?vv) ?gv ?_); (case gv => exact rfl))
  | ((with_reducible refine g_I ?gc ?_); (case gc => walk_at "cond"))
  | ((with_reducible refine g_eq ?ge ?_); (case ge => exact rfl))
  | ((with_reducible refine g_ne ?ge ?_); (case ge => exact rfl))
  | (refine g_ixl (SqL.of (by first | assumption | exact upd_same)) rfl ?_)
  | (refine g_setl (by first | assumption | exact upd_same) rfl ?_)
  | ((with_reducible show (∃ i, [V.int _] = [V.int i] ∧ _) ∨ _); refine Or.inl ⟨_, rfl, ?_⟩)
  | ((with_reducible show ∃ i, [V.int _] = [V.int i] ∧ _); refine ⟨_, rfl, ?_⟩)
  | dsimp only)
local macro_rules | `(tactic| walk_at "go") => `(tactic| repeat (walk_at "g1"))

/-! ### lengths, words of one length, plain bags -/
theorem size_max {s : Bg} {m : Int} (h : m ∈ (s.map fun e => (e.1.length : Int)) ++ [-1]) (hl : ∀ y, y ∈ (s.map fun e => (e.1.length : Int)) ++ [-1] → y ≤ m) : m = sizeS s := by
  unfold sizeS
  by_cases e : s = []
  · subst e
    rw [if_pos rfl]
    simpa using h
  · rw [if_neg e]
    obtain ⟨n, hn⟩ := mem_keys.mp (lead_mem e)
    have h1 := hl ((lead s).length : Int) (List.mem_append_left _ (List.mem_map.mpr ⟨_, hn, rfl⟩))
    rcases List.mem_append.mp h with h | h
    · obtain ⟨q, hq, rfl⟩ := List.mem_map.mp h
      have := lead_len (mem_keys.mpr ⟨q.2, hq⟩)
      omega
    · have := List.mem_singleton.mp h
      omega
def sp_size : Sp := fun vs H Q _ => ∃ (d : Addr) (s : Bg), vs = [.ref d] ∧ Rd H d (.dK (toK s)) ∧ s.length ≤ 10000000 ∧ (∀ u ∈ keys s, u.length ≤ 10000000) ∧ ∀ H', Ex H H' → Q (.int (sizeS s)) H'
/-! ### pairs in order -/
theorem rd_exP {H H' : Hp} {P a : Addr} {q : Str} {kvs : List (Key × V)} (e : ExB P H H') (hT : TabS H P q) (h : Rd H a (.dK kvs)) : Rd H' a (.dK kvs) := by
  rcases h with h | ⟨o, h⟩
  · exact .inl (e _ _ (tab_ne hT h fun _ z => nomatch z) h)
  · exact .inr ⟨o, e _ _ (tab_ne hT h fun _ z => nomatch z) h⟩
abbrev lamQ : Str := (PyProof.Rows.envOfC "_law_pairs" (defScope s_law_pairs) 0 0 Value.none).qual ++ Str.ofString "<lambda>"
def sp_bb_pairs (T0 : Addr) : Sp := fun vs H Q _ => ∃ (d : Addr) (s : Bg), vs = [.ref d] ∧ Rd H d (.dK (toK s)) ∧ s.length ≤ 10000000 ∧ (∀ u ∈ keys s, u.length ≤ 10000000) ∧ TabS H T0 lamQ ∧
  ∀ t H', ExB T0 H H' → TabS H' T0 lamQ → H t = none → WordsAt H' t (wordsS s) → Q (.ref t) H'
theorem g_sortLam {σ : St} {H : Hp} {Q : VK} {T0 : Addr} {q : Str} {te : TE} (h : te σ H fun x H1 => TabS H1 T0 q ∧ ∃ (a : Addr) (ws : List Str), x = V.ref a ∧ SqL K H1 a (ws.map V.str) ∧ (∀ w ∈ ws, w.length ≤ sizeLine) ∧
  ∀ H2, ExB T0 H1 H2 → TabS H2 T0 q → ∀ r, H2 r = none → Q (.ref r) (upd H2 r (.lst ((ordW ws).map V.str)))) : tSortLam K T0 q te σ H Q := h
theorem getS_cfB {s : Bg} {z : Str} (h : z ∈ keys s) : getS s z = some (cf s z) := by
  unfold cf
  cases q : getS s z with
  | none => exact absurd h (getS_none.mp q)
  | some n => rfl
theorem ok_law_pairs {f c T0 : Addr} {fd : FuncData} (F : Fun K "_law_pairs" "_law_pairs" s_law_pairs f fd) (T : Txt K mg C_Bag Cs) (hfd : fd.code = .ref c) (TB : LamX.TabB base mg c T0) : FnOk P w K mg base CX0 4 f fd ["_law_sparse_here"] (sp_bb_pairs T0) := by
  refine fun_okT F hfd sc_law_pairs (fun vs H Q E h => ?_) (fun A outer s H vs Q E hr h => ?_)
  · obtain ⟨d, s, rfl, _⟩ := h
    rfl
  · obtain ⟨d, s, rfl, hd, hz, hw, hT, k⟩ := h
    have hu := hu_of hr; have hu64 := L2.Room.units hr; refine ⟨_, (pss_one (ps_ret (pe_callTy (r := rTupleZ K) call_tupleZ (by rfl) T.b_tuple (by decide +kernel) (pa_cons (pe_lc (own := [("_law_word_here", 1)]) (g := (gName 1)) (tt := tYes) rfl sc_law_pairs.nd (pi_list (pe_sortLam (wn := "_law_word_here") TB rfl (by rfl) T.b_sorted (by decide +kernel) T.b_len (hr.mono (by decide)) rfl rfl rfl rfl rfl rfl rfl (fun _ _ _ _ _ => rfl) rfl rfl (pe_callTy (call_listD rfl) (by rfl) T.b_list (by decide +kernel) (pa_cons (pv 0) pa_nil)))) (blkOk_by (N := N_law_pairs) (sc := defScope s_law_pairs) (by decide +kernel)) (fun _ _ _ _ _ => (pg_name (i := 1) sc_law_pairs.nd rfl (by first | exact Or.inl rfl | exact Or.inr rfl))) (fun _ _ _ _ _ => pts_nil) (fun _ _ _ _ _ => (pe_tup (pa_cons (pv 1) (pa_cons (pe_dget hu (pv 0) (pv 1) (fun _ _ => rfl)) pa_nil))))) pa_nil)))), ?_⟩; rw [st_law_pairs]; (try dsimp only [cxOf]); walk_at "go"
    refine g_sortLam ?_
    walk_at "go"
    refine ⟨d, toK s, rfl, hd, fun p hp => ?_⟩
    rw [toK_keys]
    have e1 : Ex H (upd H p (.lst ((keys s).map V.str))) := Ex.new hp
    have hp1 := upd_same (H := H) (a := p) (o := .lst ((keys s).map V.str))
    generalize upd H p (.lst ((keys s).map V.str)) = H1 at e1 hp1 ⊢
    have hT1 := hT.ex' e1
    walk_at "go"
    refine ⟨hT1, p, keys s, rfl, SqL.of hp1, fun w hw' => line5 (hw w hw'), fun H2 e2 hT2 r hr => ?_⟩
    have e3 : Ex H2 (upd H2 r (.lst ((ordW (keys s)).map V.str))) := Ex.new hr
    have hr3 := upd_same (H := H2) (a := r) (o := .lst ((ordW (keys s)).map V.str))
    generalize upd H2 r (.lst ((ordW (keys s)).map V.str)) = H3 at e3 hr3 ⊢
    have hd3 := e3.rd (rd_exP e2 hT1 (e1.rd hd))
    have hT3 := hT2.ex' e3
    have e03 : ExB T0 H H3 := e1.exb.trans (e2.trans e3.exb)
    have free : ∀ {t : Addr}, H3 t = none → H t = none := fun {t} ht => by
      have h2 := e3.free ht
      by_cases htT : t = T0
      · subst htT
        obtain ⟨ps, q, _⟩ := hT2
        rw [q] at h2
        cases h2
      · cases h9 : H t with
        | none => rfl
        | some o =>
          have := e2 _ _ htT (e1 _ _ h9)
          rw [h2] at this
          cases this
    walk_at "go"
    refine ⟨⟨_, SqL.of hr3⟩, ?_⟩
    have hlen : (ordW (keys s)).length = s.length := by rw [ordW_len]; unfold keys; rw [List.length_map]
    refine lc_rel (j := 1) walk_list (ordW (keys s)) (by rw [List.length_map]) (by rw [List.length_map, hlen]; exact line5 hz) (fun H' e => SqL.of (e _ _ hr3)) (fun z y H => ∃ a, y = V.ref a ∧ H a = some (.tup [.str z, .int (cf s z)])) (fun e y H H' t ⟨a, h1, h2⟩ => ⟨a, h1, t _ _ h2⟩) (fun _ => rfl) ?_ ?_
    · rintro i x z H4 H4' Kc hi e4 ⟨rfl, hx⟩ hz2 hk
      rw [List.getElem?_map, hz2] at hx
      obtain rfl := (Option.some.inj hx).symm
      walk_at "go"
      refine g_dg (e4.rd hd3) (getS_cfB ((ordW_perm _).mem_iff.mp (List.mem_of_getElem? hz2))) ?_
      walk_at "go"
      exact ⟨Nat.le_of_ble_eq_true rfl, fun q hq => hk _ _ (Ex.new hq) ⟨q, rfl, upd_same⟩⟩
    · intro D H4 ys hD e4 hlD hp
      obtain ⟨as, rfl, hp'⟩ := paired_refs hp
      walk_at "go"
      refine ⟨D, _, rfl, SqL.of hlD, fun t o ht ho => ?_⟩
      have e5 := e4.trans (Ex.new (o := .frz o (.tup (as.map V.ref))) ht)
      exact k _ _ (e03.trans e5.exb) (hT3.ex' e5) (free (e4.free ht)) ⟨as, o, upd_same, ho, Paired.mapP (pairs_at hp') fun a b q => Ex.new ht _ _ q⟩
def sp_bb_sum : Sp := fun vs H Q _ => ∃ (p : Int) (a b : Addr) (s t : Bg), vs = [.int p, .ref a, .ref b] ∧ Rd H a (.dK (toK s)) ∧ Rd H b (.dK (toK t)) ∧ (keys t).Nodup ∧ s.length + t.length < 10000000 ∧ 0 < p ∧
  ∀ d H', Ex H H' → H d = none → H' d = some (.dK (toK (plusS p s t 1))) → Q (.ref d) H'
theorem drop_put (w : Str) (n : Int) : ∀ s : Bg, dropS (putS s w n) w = dropS s w := fun s => by
  have e : ∀ r : Bg, (r.map fun kv => if kv.1 = w then (kv.1, n) else kv).filter (fun kv => decide (kv.1 ≠ w)) = r.filter fun kv => decide (kv.1 ≠ w) := by
    intro r
    induction r with
    | nil => rfl
    | cons q r ih =>
      rw [List.map_cons, List.filter_cons, List.filter_cons, ih]
      by_cases h : q.1 = w
      · rw [if_pos h, if_neg (by simp [h]), if_neg (by simp [h])]
      · rw [if_neg h]
  unfold putS dropS
  split
  · exact e s
  · rw [List.filter_append, List.filter_cons, if_neg (by simp), List.filter_nil, List.append_nil]
theorem ok_law_sum {f : Addr} {fd : FuncData} (F : Fun K "_law_sum" "_law_sum" s_law_sum f fd) (T : Txt K mg C_Bag Cs) : FnOk P w K mg base CX0 1 f fd ["_law_clock_here", "_law_one", "_law_other"] sp_bb_sum := by
  refine F.ok sc_law_sum (fun vs H Q E h => ?_) (fun cdv A outer s H vs Q E hr h => ?_)
  · obtain ⟨p, a, b, s, t, rfl, _⟩ := h
    rfl
  · obtain ⟨p, a, b, s, t, rfl, ha, hb, hn, hl, hp, k⟩ := h
    have hu := hu_of hr; have hu64 := L2.Room.units hr; refine ⟨_, (pss_cons (ps_set (i := 3) sc_law_sum.nd rfl (by first | exact Or.inl rfl | exact Or.inr rfl) (pe_callTy call_dictD (by rfl) T.b_dict (by decide +kernel) (pa_cons (pv 1) pa_nil))) (pss_cons (ps_lockR (ps_for PassesOwn.never rfl (pi_keys (pv 2)) (pg_name (i := 4) sc_law_sum.nd rfl (by first | exact Or.inl rfl | exact Or.inr rfl)) (pss_cons (ps_set (i := 5) sc_law_sum.nd rfl (by first | exact Or.inl rfl | exact Or.inr rfl) (pe_op op_mod (pe_callTy call_int1 (by rfl) T.b_int (by decide +kernel) (pa_cons (pe_op op_add (pe_dget2 hu (pv 3) (pv 4) pe_int ⟨rfl, rfl, rfl, rfl⟩) (pe_dget hu (pv 2) (pv 4) (fun _ _ => rfl))) pa_nil)) (pv 0))) (pss_cons (ps_dput hu (pv 3) (pv 4) (pv 5) rfl) (pss_one (ps_if (pt_cmpR op_eq (pv 5) pe_int (nomark _)) (pss_one (ps_expr (pe_dpop1 (pv 3) (pv 4) ⟨rfl, rfl, rfl, rfl⟩))) pss_nil)))))) (pss_one (ps_ret (pv 3))))), ?_⟩; rw [st_law_sum]; (try dsimp only [cxOf]); walk_at "go"
    refine ⟨a, toK s, rfl, ha, fun d hd => ?_⟩
    walk_at "go"
    have hbd : b ≠ d := fun e => by subst e; rcases hb with h | ⟨o, h⟩ <;> rw [hd] at h <;> cases h
    have hb' : Rd (upd H d (.dK (toK s))) b (.dK (toK t)) := (Ex.new hd).rd hb
    refine for_keys hb' upd_same hbd (fun H' Q' _ q => ⟨_, rfl, q⟩) (fun i σ' o => (∃ x y, σ' = [some (.int p), some (.ref a), some (.ref b), some (.ref d), x, y]) ∧ o = .dK (toK (plusS p s (t.take i) 1))) ⟨⟨none, none, rfl⟩, rfl⟩ ?_ ?_
    · rintro i z n σ' H' o E hi ⟨⟨x, y, rfl⟩, rfl⟩ le hfo _ hE
      walk_at "go"
      refine ⟨.inl ⟨_, .inl hfo⟩, ?_⟩
      walk_at "go"
      refine ⟨_, .inl ⟨_, .inr z, .inl hfo, rfl, rfl⟩, ?_⟩
      rw [getD_toK]
      walk_at "go"
      refine g_dg le.self (getS_at hn hi) ?_
      walk_at "go"
      have hlen : (plusS p s (t.take i) 1).length < sizeLine := by
        have h1 := len_plus (p := p) (s := s) (t := t.take i) 1
        have h3 : (t.take i).length ≤ t.length := by rw [List.length_take]; omega
        show _ < 2 ^ 24
        omega
      refine g_dp hfo hlen ?_
      walk_at "go"
      have hnext : plusS p s (t.take (i + 1)) 1 = addTo p (plusS p s (t.take i) 1) z n := by
        unfold plusS
        rw [foldl_take _ _ _ _ _ hi, Int.one_mul]
      by_cases h0 : (cf (plusS p s (t.take i) 1) z + n) % p = 0
      · rw [decide_eq_true (congrArg V.int h0)]
        walk_at "go"
        refine g_var (v := .ref d) rfl ⟨d, rfl, .inl ⟨_, .inl upd_same⟩, ?_⟩
        walk_at "go"
        refine ⟨_, .inr z, .int ((cf (plusS p s (t.take i) 1) z + n) % p), upd_same, rfl, ?_, ?_⟩
        · rw [valV_toK, getS_put, if_pos rfl]
          rfl
        · rw [dropK_toK, drop_put]
          walk_at "go"
          refine hE _ _ _ ⟨⟨_, _, rfl⟩, rfl⟩ (((ExB.refl d _).upd).upd) ?_
          rw [upd_same, hnext]
          unfold addTo
          rw [if_pos h0]
      · rw [decide_eq_false (fun e => h0 (V.int.inj e))]
        walk_at "go"
        refine hE _ _ _ ⟨⟨_, _, rfl⟩, rfl⟩ ((ExB.refl d _).upd) ?_
        rw [upd_same, hnext]
        unfold addTo
        rw [if_neg h0]
    · rintro σ' H' o ⟨⟨x, y, rfl⟩, rfl⟩ e ho
      walk_at "go"
      rw [List.take_length] at ho
      exact k d H' (fun a' o' h' => e a' o' (ne_of_none h' hd) (Ex.new hd a' o' h')) hd ho
theorem filt_pairs {σ : St} {H : Hp} {Q : VK} {d : Addr} {s : Bg} {te0 : TE} {j : Nat} {tt : TT} {te : TE} {vs : List Nat} (hd : H d = some (.dK (toK s))) (hz : s.length ≤ 10000000) (hn : (keys s).Nodup)
    (he : ∀ (H' : Hp) (Q : VK), LkEx d s H H' → Q (.ref d) H' → te0 σ H' Q) (hw : ∀ x, wipe ((wipe σ vs).set j x) vs = wipe σ vs)
    (ht : ∀ (i : Nat) (w : Str) (n : Int) (H' : Hp) (R : Bool → Hp → Prop), s[i]? = some (w, n) → LkEx d s H H' → R (decide (n ≠ 0)) H' → tt ((wipe σ vs).set j (some (.str w))) H' R)
    (hte : ∀ (i : Nat) (w : Str) (n : Int) (H' : Hp) (R : VK), s[i]? = some (w, n) → LkEx d s H H' → (∀ q, H' q = none → R (.ref q) (upd H' q (.tup [.str w, .int n]))) → te ((wipe σ vs).set j (some (.str w))) H' R)
    (hend : ∀ D H' (ps : List Addr), H D = none → Ex H H' → H' D = some (.lst (ps.map V.ref)) → Paired (fun p (kv : Str × Int) => SqT K H' p [.str kv.1, .int kv.2]) ps (nzS s) → Q (.ref D) H') :
    tLockRE (tLc (iKeys te0) (gName j) tt te vs) σ H Q := by
  refine lcd_relF (.inl hd) (line5 hz) he (fun kv => decide (kv.2 ≠ 0)) (fun e y H => ∃ t, y = V.ref t ∧ H t = some (.tup [.str e.1, .int e.2])) (fun e y H H' t ⟨x, h1, h2⟩ => ⟨x, h1, t _ _ h2⟩) hw ?_ ?_
  · intro i w n H' Kc N hi le hk hN
    refine ht i w n H' _ hi le ?_
    by_cases h0 : n ≠ 0
    · rw [decide_eq_true h0, if_pos rfl]
      exact hte i w n H' _ hi le fun q hq => hk (decide_eq_true h0) _ _ (Ex.new hq) ⟨q, rfl, upd_same⟩
    · rw [decide_eq_false h0, if_neg Bool.false_ne_true]
      exact hN (decide_eq_false h0) _ (Ex.refl _)
  · intro D H' ys hD e hl hp
    obtain ⟨ts, rfl, hts⟩ := paired_refs hp
    exact hend D H' ts hD e hl (Paired.mapP hts fun _ _ q => SqT.of q)
def sp_tp_product : Sp := fun vs H Q _ => ∃ (p : Int) (a b : Addr) (s t : Bg), vs = [.int p, .ref a, .ref b] ∧ Rd H a (.dK (toK s)) ∧ Rd H b (.dK (toK t)) ∧ (keys s).Nodup ∧ (keys t).Nodup ∧ s.length * t.length < 10000000 ∧ 0 < p ∧ Good 1000000 s ∧
  (∀ u ∈ keys s, u.length ≤ 5000000) ∧ (∀ u ∈ keys t, u.length ≤ 5000000) ∧ ∀ d r H', Ex H H' → H d = none → H' d = some (.dK (toK r)) → Good p r → (∀ u, cf r u = cf (prodS p s t) u) → Q (.ref d) H'
theorem ok_law_product {f : Addr} {fd : FuncData} (F : Fun K "_law_product" "_law_product" s_law_product f fd) (T : Txt K mg C_Bag Cs) : FnOk P w K mg base CX0 1 f fd ["_law_clock_here", "_law_one", "_law_other"] sp_tp_product := by
  refine F.ok sc_law_product (fun vs H Q E h => ?_) (fun cdv A outer s H vs Q E hr h => ?_)
  · obtain ⟨p, a, b, s, t, rfl, _⟩ := h
    rfl
  · obtain ⟨p, a, b, s, t, rfl, ha, hb, hns, hnt, hl, hp, hg, hsl, htl, k⟩ := h
    have hu := hu_of hr; have hu64 := L2.Room.units hr; refine ⟨_, (pss_cons (ps_set (i := 3) sc_law_product.nd rfl (by first | exact Or.inl rfl | exact Or.inr rfl) pe_dnewK) (pss_cons (ps_lockR (ps_for PassesOwn.never rfl (pi_keys (pv 1)) (pg_name (i := 4) sc_law_product.nd rfl (by first | exact Or.inl rfl | exact Or.inr rfl)) (pss_one (ps_lockR (ps_for PassesOwn.never rfl (pi_keys (pv 2)) (pg_name (i := 5) sc_law_product.nd rfl (by first | exact Or.inl rfl | exact Or.inr rfl)) (pss_one (ps_dput hu (pv 3) (pe_op op_add_str (pv 4) (pv 5)) (pe_op op_mod (pe_callTy call_int1 (by rfl) T.b_int (by decide +kernel) (pa_cons (pe_op op_add (pe_dget2 hu (pv 3) (pe_op op_add_str (pv 4) (pv 5)) pe_int ⟨rfl, rfl, rfl, rfl⟩) (pe_op op_mul (pe_dget hu (pv 1) (pv 4) (fun _ _ => rfl)) (pe_dget hu (pv 2) (pv 5) (fun _ _ => rfl)))) pa_nil)) (pv 0)) rfl))))))) (pss_one (ps_ret (pe_callTy (r := rDictP K) (call_dictQ rfl) (by rfl) T.b_dict (by decide +kernel) (pa_cons (pe_lockR (pe_lc (own := [("_law_word_here", 6)]) (g := (gName 6)) rfl sc_law_product.nd (pi_keys (pv 3)) (blkOk_by (N := N_law_product) (sc := defScope s_law_product) (by decide +kernel)) (fun _ _ _ _ _ => (pg_name (i := 6) sc_law_product.nd rfl (by first | exact Or.inl rfl | exact Or.inr rfl))) (fun _ _ _ _ _ => (pts_one (pt_cmpR op_ne (pe_dget hu (pv 3) (pv 6) (fun _ _ => rfl)) pe_int (nomark _)))) (fun _ _ _ _ _ => (pe_tup (pa_cons (pv 6) (pa_cons (pe_dget hu (pv 3) (pv 6) (fun _ _ => rfl)) pa_nil)))))) pa_nil)))))), ?_⟩; rw [st_law_product]; (try dsimp only [cxOf]); walk_at "go"
    intro d hd
    walk_at "go"
    have had : a ≠ d := fun e => by subst e; rcases ha with h | ⟨o, h⟩ <;> rw [hd] at h <;> cases h
    have hbd : b ≠ d := fun e => by subst e; rcases hb with h | ⟨o, h⟩ <;> rw [hd] at h <;> cases h
    have ha' : Rd (upd H d (.dK (toK []))) a (.dK (toK s)) := (Ex.new hd).rd ha
    have hb' : Rd (upd H d (.dK (toK []))) b (.dK (toK t)) := (Ex.new hd).rd hb
    have hlen : ∀ i j, i < s.length → (prodR p (s.take i) t).length + (t.take j).length < 10000000 := fun i j hi => by
      have h1 := len_prodR (p := p) (s := s.take i) (t := t)
      have h2 : (s.take i).length = i := by rw [List.length_take]; omega
      have h3 : (t.take j).length ≤ t.length := by rw [List.length_take]; omega
      rw [h2] at h1
      have h4 : (i + 1) * t.length ≤ s.length * t.length := Nat.mul_le_mul_right _ hi
      rw [Nat.succ_mul] at h4
      omega
    refine for_keys (o0 := .dK (toK [])) ha' upd_same had (fun H' Q' _ q => ⟨_, rfl, q⟩) (fun i σ' o => (∃ x y, σ' = [some (.int p), some (.ref a), some (.ref b), some (.ref d), x, y, none]) ∧ o = .dK (toK (prodR p (s.take i) t))) ⟨⟨none, none, rfl⟩, rfl⟩ ?_ ?_
    · rintro i z n σ' H' o E hi ⟨⟨x, y, rfl⟩, rfl⟩ le hfo _ hE
      have hil : i < s.length := by
        rcases Nat.lt_or_ge i s.length with h | h
        · exact h
        · rw [List.getElem?_eq_none h] at hi; cases hi
      have hb2 : Rd H' b (.dK (toK t)) := le.rd ha' hb' hbd
      refine for_keys hb2 hfo hbd (fun H' Q' _ q => ⟨_, rfl, q⟩) (fun j σ' o => (∃ y, σ' = [some (.int p), some (.ref a), some (.ref b), some (.ref d), some (.str z), y, none]) ∧ o = .dK (toK (rowR p (prodR p (s.take i) t) (z, n) (t.take j)))) ⟨⟨y, rfl⟩, rfl⟩ ?_ ?_
      · rintro j u m σ' H2 o E2 hj ⟨⟨y, rfl⟩, rfl⟩ le2 hfo2 _ hE2
        have ha3 : Rd H2 a (.dK (toK s)) := le2.rd hb2 le.self had
        walk_at "go"
        have hz := hsl z (mem_keys.mpr ⟨n, mem_fr hi⟩)
        have hu' := htl u (mem_keys.mpr ⟨m, mem_fr hj⟩)
        refine ⟨.inl ⟨_, .inl hfo2⟩, ?_⟩
        walk_at "go"
        refine ⟨z, u, rfl, rfl, line5 (by omega), ?_⟩
        walk_at "go"
        refine ⟨_, .inl ⟨_, .inr (z ++ u), .inl hfo2, rfl, rfl⟩, ?_⟩
        rw [getD_toK]
        walk_at "go"
        refine g_dg ha3 (getS_at hns hi) ?_
        walk_at "go"
        refine g_dg le2.self (getS_at hnt hj) ?_
        have c1 := hg.lo _ (mem_fr hi)
        have c2 := hg.hi _ (mem_fr hi)
        dsimp only at c1 c2
        walk_at "go"
        have hlen2 : (rowR p (prodR p (s.take i) t) (z, n) (t.take j)).length < sizeLine := by
          have h1 := len_rowR (p := p) (s := prodR p (s.take i) t) (t := t.take j) (a := (z, n))
          have h2 := hlen i j hil
          show _ < 2 ^ 24
          omega
        refine ⟨z, u, rfl, rfl, line5 (by omega), ?_⟩
        walk_at "go"
        refine g_dp hfo2 hlen2 ?_
        refine hE2 _ _ _ ⟨⟨_, rfl⟩, rfl⟩ ((ExB.refl d _).upd) ?_
        rw [upd_same]
        unfold rowR
        rw [foldl_take _ _ _ _ _ hj]
        rfl
      · rintro σ' H2 o ⟨⟨y, rfl⟩, rfl⟩ e2 ho
        refine hE _ _ _ ⟨⟨_, _, rfl⟩, rfl⟩ e2 ?_
        rw [ho, List.take_length]
        unfold prodR
        rw [foldl_take _ _ _ _ _ hi]
    · rintro σ' H' o ⟨⟨x, y, rfl⟩, rfl⟩ e ho
      rw [List.take_length] at ho
      have rg : RawG p (prodR p s t) := prodR_raw hp
      have hlen : (prodR p s t).length ≤ 10000000 := by
        have h1 := len_prodR (p := p) (s := s) (t := t)
        omega
      have e0 : Ex H H' := fun a' o' h' => e a' o' (ne_of_none h' hd) (Ex.new hd a' o' h')
      walk_at "go"
      refine filt_pairs (K := K) ho hlen rg.nd (fun H' Q' _ q => ⟨_, rfl, q⟩) (fun _ => rfl) ?_ ?_ ?_
      · intro i w n H1 R hi le q
        walk_at "go"
        refine g_dg le.self (getS_at rg.nd hi) ?_
        walk_at "go"
        by_cases h0 : n = 0
        · subst h0
          exact q
        · rw [decide_eq_false (fun e => h0 (V.int.inj e))]
          rw [decide_eq_true h0] at q
          exact q
      · intro i w n H1 R hi le q
        walk_at "go"
        refine g_dg le.self (getS_at rg.nd hi) ?_
        walk_at "go"
        exact ⟨Nat.le_of_ble_eq_true rfl, fun x hx => q x hx⟩
      · intro D H1 ps hD e1 hl1 hp1
        walk_at "go"
        refine g_dictP (SqL.of hl1) hp1 (nz_nodup rg.nd) fun d2 hd2 => ?_
        exact k d2 _ _ ((e0.trans e1).trans (Ex.new hd2)) ((e0.trans e1).free hd2) upd_same rg.good fun u => by rw [cf_nz rg.nd, cf_prodR]
theorem ok_law_size {f : Addr} {fd : FuncData} (F : Fun K "_law_size" "_law_size" s_law_size f fd) (T : Txt K mg C_Bag Cs) : FnOk P w K mg base CX0 1 f fd ["_law_sparse_here"] sp_size := by
  refine F.ok sc_law_size (fun vs H Q E h => ?_) (fun cdv A outer s H vs Q E hr h => ?_)
  · obtain ⟨d, s, rfl, _⟩ := h
    rfl
  · obtain ⟨d, s, rfl, hd, hz, hw, k⟩ := h
    have hu := hu_of hr; have hu64 := L2.Room.units hr; refine ⟨_, (pss_one (ps_ret (pe_callB (r := rMax K) (cr_max rfl) (by rfl) T.b_max (by decide +kernel) (pa_cons (pe_op op_cat (pe_lst (pa_cons (pe_un un_neg pe_int) pa_nil)) (pe_lockR (pe_lc (own := [("_law_word_here", 1)]) (g := (gName 1)) (tt := tYes) rfl sc_law_size.nd (pi_keys (pv 0)) (blkOk_by (N := N_law_size) (sc := defScope s_law_size) (by decide +kernel)) (fun _ _ _ _ _ => (pg_name (i := 1) sc_law_size.nd rfl (by first | exact Or.inl rfl | exact Or.inr rfl))) (fun _ _ _ _ _ => pts_nil) (fun _ _ _ _ _ => (pe_callB call_len_str (by rfl) T.b_len (by decide +kernel) (pa_cons (pv 1) pa_nil)))))) pa_nil)))), ?_⟩; rw [st_law_size]; (try dsimp only [cxOf]); walk_at "go"
    refine ⟨Nat.le_of_ble_eq_true rfl, fun q hq => ?_⟩
    have hqd : Rd (upd H q (.lst [V.int (-1)])) d (.dK (toK s)) := (Ex.new hq).rd hd
    have eq1 := Ex.new (o := .lst [V.int (-1)]) hq
    have hqq := upd_same (H := H) (a := q) (o := .lst [V.int (-1)])
    generalize upd H q (.lst [V.int (-1)]) = H0 at hqd eq1 hqq ⊢
    refine lcd_rel hqd (line5 hz) (fun H' Q' _ q => ⟨_, rfl, q⟩) (fun e y H => y = V.int (e.1.length : Nat)) (fun e y H H' t h1 => h1) (fun _ => rfl) ?_ ?_
    · intro i z n H1 Kc hi le hk
      walk_at "go"
      exact ⟨z, rfl, line5 (hw z (mem_keys.mpr ⟨n, mem_fr hi⟩)), hk _ _ (Ex.refl _) rfl⟩
    · intro D H1 ys hD e hl1 hp
      have hys := paired_map (G := fun e : Str × Int => V.int (e.1.length : Nat)) hp
      subst hys
      have hq1 := e _ _ hqq
      refine ⟨q, D, _, _, rfl, rfl, hq1, hl1, ?_, fun r hr => ?_⟩
      · rw [List.length_map, List.length_singleton]
        exact Nat.le_trans (show 1 + s.length ≤ 10000001 by omega) (by decide)
      · walk_at "go"
        refine ⟨r, [-1] ++ (s.map fun e => (e.1.length : Int)), rfl, SqL.of ?_, by rw [List.length_append, List.length_singleton]; omega, fun m h1 h2 => ?_⟩
        · rw [upd_same, List.map_append, List.map_map]
          rfl
        · have h1' : m ∈ (s.map fun e => (e.1.length : Int)) ++ [-1] := (List.mem_append.mp h1).elim (List.mem_append_right _) (List.mem_append_left _)
          rw [size_max h1' fun y hy => h2 y ((List.mem_append.mp hy).elim (List.mem_append_right _) (List.mem_append_left _))]
          exact k _ ((eq1.trans e).trans (Ex.new hr))

end
end Fp

namespace Fp
open PySem L2
section
variable {P : Program} {w : World} {K : PySem.W.Frag} {mg : Str → Option Value} {base : Heap} {C_Bag : Addr} {Cs : Addr → Prop}
local macro_rules | `(tactic| walk_at "hp") => `(tactic| first | assumption | rfl)
local macro_rules | `(tactic| walk_at "cond") => `(tactic| first | assumption | decide | omega | (unfold CMul; omega) | (refine ⟨?_, ?_⟩ <;> omega) | (unfold CDiv; omega) | (unfold CPow; omega))
local macro_rules | `(tactic| walk_at "g1") => `(tactic| first
  | with_reducible first
    | refine g_seq ?_ | refine g_asg ?_ | refine g_name ?_ | refine g_ret ?_ | refine g_retN ?_ | refine g_drop ?_ | refine g_ifs ?_
    | refine g_c ?_ | refine g_op ?_ | refine g_un ?_ | refine g_I0 ?_ | refine g_U ?_
    | refine g_test ?_ | refine g_tB ?_ | refine g_bl ?_ | refine g_and ?_ | refine g_or ?_ | refine g_not ?_
    | refine g_andV ?_ | refine g_orV ?_ | refine g_notV ?_ | refine g_if ?_ | refine g_nil ?_ | refine g_cons ?_ | refine g_cb ?_ | refine g_call ?_
    | refine g_lst ?_ | refine g_tup ?_ | refine g_itT ?_ | refine g_itF ?_ | refine g_itNT ?_ | refine g_itNF ?_ | refine g_lc ?_ | refine g_iStr ?_ | refine g_yes ?_ | refine g_exs ?_
    | refine g_chain ?_ | refine g_dget ?_ | refine g_dput ?_ | refine g_dget2 ?_ | refine g_dpop2 ?_ | refine g_fld ?_ | refine g_sfld ?_ | refine g_make ?_ | refine g_meth ?_
    | refine g_bm ?_ | refine g_kw ?_ | refine g_callS ?_ | refine g_revL ?_ | refine g_m1 ?_ | refine g_gsub ?_ | refine g_for ?_ | refine g_iList ?_ | refine g_iTup ?_ | refine g_iRng1 ?_ | refine g_iRng2 ?_ | refine g_sl ?_ | refine g_part ?_ | refine g_noPart ?_
    | refine g_exi ?_ | refine g_exr ?_ | refine g_dnew ?_ | refine g_disp ?_ | refine g_prs0 ?_ | refine g_prs ?_ | refine g_nxt ?_
  | ((with_reducible refine g_var (v := ?vv) ?gv ?_); (case gv => exact rfl))
  | ((with_reducible refine g_I ?gc ?_); (case gc => walk_at "cond"))
  | ((with_reducible refine g_eq ?ge ?_); (case ge => exact rfl))
  | ((with_reducible refine g_ne ?ge ?_); (case ge => exact rfl))
  | (refine g_ixl (SqL.of (by first | assumption | exact upd_same)) rfl ?_)
  | (refine g_setl (by first | assumption | exact upd_same) rfl ?_)
  | ((with_reducible show (∃ i, [V.int _] = [V.int i] ∧ _) ∨ _); refine Or.inl ⟨_, rfl, ?_⟩)
  | ((with_reducible show ∃ i, [V.int _] = [V.int i] ∧ _); refine ⟨_, rfl, ?_⟩)
  | dsimp only)
local macro_rules | `(tactic| walk_at "go") => `(tactic| repeat (walk_at "g1"))

/-! ### the program's own sums -/
/-! ### the program's own products -/
/-! ### bags that are made raw -/
def sp_raw_init (C_Raw : Addr) (Cs : Addr → Prop) : Sp := fun vs H Q _ => ∃ (x d : Addr) (p : Int) (s : Bg) (dx : Addr), vs = [.ref x, .int p, .ref d] ∧ H x = some (.ins C_Raw dx []) ∧ H d = some (.dK (toK s)) ∧ s.length ≤ 10000000 ∧ (∀ u ∈ keys s, u.length ≤ 10000000) ∧ (keys s).Nodup ∧
  ∀ H', ExB x H H' → BagAt Cs H' x p s → Q .non H'
theorem ok_raw_init {C_Raw : Addr} {f : Addr} {fd : FuncData} (F : Fun K "__init__" "RawBag.__init__" s_RawBag_init f fd) (T : Txt K mg C_Bag Cs) (hR : Cs C_Raw) (D_mt_RawBag_keep : MtOk P w K mg base CX0 5 C_Raw "keep" ["self", "clock", "sparse"] (sp_keep Cs)) : FnOk P w K mg base CX0 6 f fd ["self", "clock", "sparse"] (sp_raw_init C_Raw Cs) := by
  refine F.ok sc_RawBag_init (fun vs H Q E h => ?_) (fun cdv A outer s H vs Q E hr h => ?_)
  · obtain ⟨x, d, p, s, dx, rfl, _⟩ := h
    rfl
  · obtain ⟨x, d, p, s, dx, rfl, hx, hd, hz, hw, hn, k⟩ := h
    have hxd : d ≠ x := fun e => by subst e; rw [hx] at hd; cases hd
    have hu := hu_of hr; have hu64 := L2.Room.units hr; refine ⟨_, (pss_one (ps_expr (pe_mtD D_mt_RawBag_keep (hr.mono (by decide)) pass0 (pv 0) (pa_cons (pv 1) (pa_cons (pv 2) pa_nil))))), ?_⟩; rw [st_RawBag_init]; (try dsimp only [cxOf]); walk_at "go"
    refine ⟨x, dx, [], rfl, hx, rfl, ?_⟩
    walk_at "go"
    refine ⟨x, d, p, s, C_Raw, dx, rfl, hx, hR, hd, hz, hw, hn, fun k1 t H2 e2 h2 hw' => ?_⟩
    exact k H2 e2 ⟨C_Raw, dx, d, k1, t, hR, h2, e2 _ _ hxd hd, hw'⟩
def sp_raw (Cs : Addr → Prop) : Sp := fun vs H Q _ => ∃ (d : Addr) (p : Int) (s : Bg), vs = [.int p, .ref d] ∧ H d = some (.dK (toK s)) ∧ s.length ≤ 10000000 ∧ (∀ u ∈ keys s, u.length ≤ 10000000) ∧ (keys s).Nodup ∧
  ∀ x H', Ex H H' → H x = none → BagAt Cs H' x p s → Q (.ref x) H'
theorem ok_raw {C_RawBag : Addr} {f : Addr} {fd : FuncData} (F : Fun K "raw" "raw" s_raw f fd) (T : Txt K mg C_Bag Cs) (D_mk_RawBag : MkOk P w K mg base CX0 6 "RawBag" C_RawBag ["self", "clock", "sparse"] (sp_raw_init C_RawBag Cs)) : FnOk P w K mg base CX0 8 f fd ["clock", "sparse"] (sp_raw Cs) := by
  refine F.ok sc_raw (fun vs H Q E h => ?_) (fun cdv A outer s H vs Q E hr h => ?_)
  · obtain ⟨d, p, s, rfl, _⟩ := h
    rfl
  · obtain ⟨d, p, s, rfl, hd, hz, hw, hn, k⟩ := h
    have hu := hu_of hr; have hu64 := L2.Room.units hr; refine ⟨_, (pss_one (ps_ret (pe_mkD D_mk_RawBag (hr.mono (by decide)) rfl pass0 (pa_cons (pv 0) (pa_cons (pv 1) pa_nil))))), ?_⟩; rw [st_raw]; (try dsimp only [cxOf]); walk_at "go"
    intro x dx hx hdx hne
    have hx1 : upd H dx (.own x) x = none := by rw [upd_ne (Ne.symm hne)]; exact hx
    have e1 : Ex H (upd (upd H dx (.own x)) x (.ins C_RawBag dx [])) := (Ex.new hdx).trans (Ex.new hx1)
    exact ⟨x, d, p, s, dx, rfl, upd_same, e1 _ _ hd, hz, hw, hn, fun H' e hb => ⟨rfl, k x H' (fun a o q => e a o (ne_of_none q hx) (e1 _ _ q)) hx hb⟩⟩
/-- two bags by one clock -/
def sp_check_clocks (Cs : Addr → Prop) : Sp := fun vs H Q _ => ∃ (a b : Addr) (p : Int) (s t : Bg), vs = [.ref a, .ref b] ∧ BagAt Cs H a p s ∧ BagAt Cs H b p t ∧ Q .non H
end
end Fp

namespace Fp
open PySem L2
section
variable {P : Program} {w : World} {K : PySem.W.Frag} {mg : Str → Option Value} {base : Heap} {C_Bag : Addr} {Cs : Addr → Prop}
local macro_rules | `(tactic| walk_at "hp") => `(tactic| first | assumption | rfl)
local macro_rules | `(tactic| walk_at "cond") => `(tactic| first | assumption | decide | omega | (unfold CMul; omega) | (refine ⟨?_, ?_⟩ <;> omega) | (unfold CDiv; omega) | (unfold CPow; omega))
local macro_rules | `(tactic| walk_at "g1") => `(tactic| first
  | with_reducible first
    | refine g_seq ?_ | refine g_asg ?_ | refine g_name ?_ | refine g_ret ?_ | refine g_retN ?_ | refine g_drop ?_ | refine g_ifs ?_
    | refine g_c ?_ | refine g_op ?_ | refine g_un ?_ | refine g_I0 ?_ | refine g_U ?_
    | refine g_test ?_ | refine g_tB ?_ | refine g_bl ?_ | refine g_and ?_ | refine g_or ?_ | refine g_not ?_
    | refine g_andV ?_ | refine g_orV ?_ | refine g_notV ?_ | refine g_if ?_ | refine g_nil ?_ | refine g_cons ?_ | refine g_cb ?_ | refine g_call ?_
    | refine g_lst ?_ | refine g_tup ?_ | refine g_itT ?_ | refine g_itF ?_ | refine g_itNT ?_ | refine g_itNF ?_ | refine g_lc ?_ | refine g_iStr ?_ | refine g_yes ?_ | refine g_exs ?_
    | refine g_chain ?_ | refine g_dget ?_ | refine g_dput ?_ | refine g_dget2 ?_ | refine g_dpop2 ?_ | refine g_fld ?_ | refine g_sfld ?_ | refine g_make ?_ | refine g_meth ?_
    | refine g_bm ?_ | refine g_kw ?_ | refine g_callS ?_ | refine g_revL ?_ | refine g_m1 ?_ | refine g_gsub ?_ | refine g_for ?_ | refine g_iList ?_ | refine g_iTup ?_ | refine g_iRng1 ?_ | refine g_iRng2 ?_ | refine g_sl ?_ | refine g_part ?_ | refine g_noPart ?_
    | refine g_exi ?_ | refine g_exr ?_ | refine g_dnew ?_ | refine g_disp ?_ | refine g_prs0 ?_ | refine g_prs ?_ | refine g_nxt ?_
  | ((with_reducible refine g_var (v := ?vv) ?gv ?_); (case gv => exact rfl))
  | ((with_reducible refine g_I ?gc ?_); (case gc => walk_at "cond"))
  | ((with_reducible refine g_eq ?ge ?_); (case ge => exact rfl))
  | ((with_reducible refine g_ne ?ge ?_); (case ge => exact rfl))
  | (refine g_ixl (SqL.of (by first | assumption | exact upd_same)) rfl ?_)
  | (refine g_setl (by first | assumption | exact upd_same) rfl ?_)
  | ((with_reducible show (∃ i, [V.int _] = [V.int i] ∧ _) ∨ _); refine Or.inl ⟨_, rfl, ?_⟩)
  | ((with_reducible show ∃ i, [V.int _] = [V.int i] ∧ _); refine ⟨_, rfl, ?_⟩)
  | dsimp only)
local macro_rules | `(tactic| walk_at "go") => `(tactic| repeat (walk_at "g1"))

/-! ### together, behind; what the law asks of a bag -/
def sp_sum (f : Int) (Cs : Addr → Prop) : Sp := fun vs H Q _ => ∃ (a b : Addr) (p : Int) (s t : Bg) (n1 l1 n2 l2 : Nat), vs = [.ref a, .ref b] ∧ BagAt Cs H a p s ∧ BagAt Cs H b p t ∧ Lot p s n1 l1 ∧ Lot p t n2 l2 ∧ n1 + n2 < 10000000 ∧ l1 ≤ 10000000 ∧ l2 ≤ 10000000 ∧ 0 < p ∧
  ∀ x H', Ex H H' → H x = none → BagAt Cs H' x p (plusS p s t f) → Q (.ref x) H'
def sp_behind (Cs : Addr → Prop) : Sp := fun vs H Q _ => ∃ (a b : Addr) (p : Int) (s t : Bg) (n1 l1 n2 l2 : Nat), vs = [.ref a, .ref b] ∧ BagAt Cs H a p s ∧ BagAt Cs H b p t ∧ Lot p s n1 l1 ∧ Lot p t n2 l2 ∧ n1 * n2 < 10000000 ∧ l1 ≤ 5000000 ∧ l2 ≤ 5000000 ∧ 0 < p ∧ p ≤ 1000000 ∧
  ∀ x H', Ex H H' → H x = none → BagAt Cs H' x p (prodS p s t) → Q (.ref x) H'
def sp_law_is (Cs : Addr → Prop) : Sp := fun vs H Q _ => ∃ (x d : Addr) (p q : Int) (s t : Bg), vs = [.ref x, .int p, .ref d] ∧ BagAt Cs H x q t ∧ Rd H d (.dK (toK s)) ∧ s.length ≤ 10000000 ∧ (∀ u ∈ keys s, u.length ≤ 10000000) ∧ (keys s).Nodup ∧
  ∀ H', Ex H H' → Q (.bl (decide (q = p) && decide (wordsS t = wordsS s))) H'
end
end Fp

namespace Fp
open PySem L2
section
variable {P : Program} {w : World} {K : PySem.W.Frag} {mg : Str → Option Value} {base : Heap} {C_Bag : Addr} {Cs : Addr → Prop}
local macro_rules | `(tactic| walk_at "hp") => `(tactic| first | assumption | rfl)
local macro_rules | `(tactic| walk_at "cond") => `(tactic| first | assumption | decide | omega | (unfold CMul; omega) | (refine ⟨?_, ?_⟩ <;> omega) | (unfold CDiv; omega) | (unfold CPow; omega))
local macro_rules | `(tactic| walk_at "g1") => `(tactic| first
  | with_reducible first
    | refine g_seq ?_ | refine g_asg ?_ | refine g_name ?_ | refine g_ret ?_ | refine g_retN ?_ | refine g_drop ?_ | refine g_ifs ?_
    | refine g_c ?_ | refine g_op ?_ | refine g_un ?_ | refine g_I0 ?_ | refine g_U ?_
    | refine g_test ?_ | refine g_tB ?_ | refine g_bl ?_ | refine g_and ?_ | refine g_or ?_ | refine g_not ?_
    | refine g_andV ?_ | refine g_orV ?_ | refine g_notV ?_ | refine g_if ?_ | refine g_nil ?_ | refine g_cons ?_ | refine g_cb ?_ | refine g_call ?_
    | refine g_lst ?_ | refine g_tup ?_ | refine g_itT ?_ | refine g_itF ?_ | refine g_itNT ?_ | refine g_itNF ?_ | refine g_lc ?_ | refine g_iStr ?_ | refine g_yes ?_ | refine g_exs ?_
    | refine g_chain ?_ | refine g_dget ?_ | refine g_dput ?_ | refine g_dget2 ?_ | refine g_dpop2 ?_ | refine g_fld ?_ | refine g_sfld ?_ | refine g_make ?_ | refine g_meth ?_
    | refine g_bm ?_ | refine g_kw ?_ | refine g_callS ?_ | refine g_revL ?_ | refine g_m1 ?_ | refine g_gsub ?_ | refine g_for ?_ | refine g_iList ?_ | refine g_iTup ?_ | refine g_iRng1 ?_ | refine g_iRng2 ?_ | refine g_sl ?_ | refine g_part ?_ | refine g_noPart ?_
    | refine g_exi ?_ | refine g_exr ?_ | refine g_dnew ?_ | refine g_disp ?_ | refine g_prs0 ?_ | refine g_prs ?_ | refine g_nxt ?_
  | ((with_reducible refine g_var (v := ?vv) ?gv ?_); (case gv => exact rfl))
  | ((with_reducible refine g_I ?gc ?_); (case gc => walk_at "cond"))
  | ((with_reducible refine g_eq ?ge ?_); (case ge => exact rfl))
  | ((with_reducible refine g_ne ?ge ?_); (case ge => exact rfl))
  | (refine g_ixl (SqL.of (by first | assumption | exact upd_same)) rfl ?_)
  | (refine g_setl (by first | assumption | exact upd_same) rfl ?_)
  | ((with_reducible show (∃ i, [V.int _] = [V.int i] ∧ _) ∨ _); refine Or.inl ⟨_, rfl, ?_⟩)
  | ((with_reducible show ∃ i, [V.int _] = [V.int i] ∧ _); refine ⟨_, rfl, ?_⟩)
  | dsimp only)
local macro_rules | `(tactic| walk_at "go") => `(tactic| repeat (walk_at "g1"))

/-! ### whether a bag is what the law has -/
theorem BagAt.exP {H H' : Hp} {P a : Addr} {q : Str} {p : Int} {s : Bg} (e : ExB P H H') (hT : TabS H P q) (b : BagAt Cs H a p s) : BagAt Cs H' a p s := by
  obtain ⟨C, dx, d, k, t, h0, h1, h2, h3⟩ := b.ex
  exact ⟨C, dx, d, k, t, h0, e _ _ (tab_ne hT h1 fun _ z => nomatch z) h1, e _ _ (tab_ne hT h2 fun _ z => nomatch z) h2, h3.exP e hT⟩
theorem Lot.small {p : Int} {s : Bg} {a b : Nat} (l : Lot p s a b) (ha : a ≤ 1000) (hb : b ≤ 1000) (hp : p ≤ 7) : Small (wordsS s) := by
  refine ⟨by rw [wordsS_len]; exact Nat.le_trans l.n ha, fun kv hkv => ?_⟩
  obtain ⟨h1, h2⟩ := (mem_wordsS (w := kv.1) (n := kv.2)).mp hkv
  obtain ⟨h3, h4⟩ := l.l _ h1
  refine ⟨fun c hc => ?_, by omega, ?_, ?_⟩
  · unfold isW at h4
    rw [List.all_eq_true] at h4
    have h5 := of_decide_eq_true (h4 c hc)
    have h6 : ("xyz" : Str).cps.toList = [120, 121, 122] := by decide +kernel
    rw [h6] at h5
    simpa using h5
  · rw [h2]
    exact cf_nonneg l.g _
  · rw [h2]
    by_cases h0 : 0 < p
    · have := cf_lt h0 l.g kv.1
      omega
    · obtain ⟨n, hn⟩ := mem_keys.mp h1
      have := l.g.lo _ hn
      have := l.g.hi _ hn
      omega
def sp_bb_is (T0 : Addr) (Cs : Addr → Prop) : Sp := fun vs H Q _ => ∃ (x d : Addr) (p : Int) (s t : Bg) (n l : Nat), vs = [.ref x, .int p, .ref d] ∧ BagAt Cs H x p t ∧ Rd H d (.dK (toK s)) ∧ Lot p s n l ∧ n ≤ 1000 ∧ l ≤ 1000 ∧ Clk p ∧ wordsS t = wordsS s ∧ TabS H T0 lamQ ∧
  ∀ H', ExB T0 H H' → TabS H' T0 lamQ → Q (.bl true) H'
theorem ok_law_is {T0 : Addr} {f : Addr} {fd : FuncData} (F : Fun K "_law_is" "_law_is" s_law_is f fd) (T : Txt K mg C_Bag Cs) (D_law_pairs : DefOk P w K mg base CX0 4 "_law_pairs" ["_law_sparse_here"] (sp_bb_pairs T0)) : FnOkG P w K mg base CX0 5 f fd ["_law_told_here", "_law_clock_here", "_law_sparse_here"] (sp_bb_is T0 Cs) := by
  refine fun_okG F sc_law_is (fun vs H Q E h => ?_) (fun cdv A outer s H vs Q E hr hgd h => ?_)
  · obtain ⟨x, d, p, s, t, n, l, rfl, _⟩ := h
    rfl
  · obtain ⟨x, d, p, s, t, n, l, rfl, hx, hd, L, hn, hl, hp, hw, hT, k⟩ := h
    obtain ⟨C, dx, db, k1, t1, hc, g1, g2, g3⟩ := hx.ex
    have hp7 := hp.hi
    have hu := hu_of hr; have hu64 := L2.Room.units hr; refine ⟨_, (pss_cons (ps_if (PW.pt (pw_or (pt_not (pt_val (pe_callB (r := rIsi K) call_isi (by rfl) T.b_isinstance (by decide +kernel) (pa_cons (pv 0) (pa_cons (pe_glob (v := .ref C_Bag) rfl T.c_Bag rfl) pa_nil))))) (pw_or (pt_val (pe_callB (r := rIsi K) call_isi (by rfl) T.b_isinstance (by decide +kernel) (pa_cons (pe_fldK (K := K) rfl (pv 0) rfl) (pa_cons (pe_bltn (v := .ty "bool") rfl T.b_bool (by decide +kernel) rfl) pa_nil)))) (pw_or1 (pt_cmpR op_ne (pe_fldK (K := K) rfl (pv 0) rfl) (pv 1) (nomark _)))))) (pss_one (ps_ret pe_bl)) pss_nil) (pss_cons (ps_set (i := 3) sc_law_is.nd rfl (by first | exact Or.inl rfl | exact Or.inr rfl) (pe_callD D_law_pairs (hr.mono (by decide)) rfl pass0 (pa_cons (pv 2) pa_nil))) (pss_one (ps_ret (pe_and (pe_callB (r := rIsi K) call_isi (by rfl) T.b_isinstance (by decide +kernel) (pa_cons (pe_fldK (K := K) rfl (pv 0) rfl) (pa_cons (pe_bltn (v := .ty "tuple") rfl T.b_tuple (by decide +kernel) rfl) pa_nil))) (pe_and (pe_cmpR (r := rEqP K false) (op_eqP hu64) (pe_fldK (K := K) rfl (pv 0) rfl) (pv 3) (nomark _)) (pe_one (pe_cmpR op_eq (pe_callB (r := rReprD K) (cr_reprD hgd hu64) (by rfl) T.b_repr (by decide +kernel) (pa_cons (pe_fldK (K := K) rfl (pv 0) rfl) pa_nil)) (pe_callB (r := rReprD K) (cr_reprD hgd hu64) (by rfl) T.b_repr (by decide +kernel) (pa_cons (pv 3) pa_nil)) (nomark _))))))))), ?_⟩; rw [st_law_is]; (try dsimp only [cxOf]); walk_at "go"
    refine g_isC (b := true) (bag_ty T hc g1) (T.c_isB C hc) ?_
    walk_at "go"
    refine ⟨x, C, dx, _, _, rfl, g1, T.cls C hc, T.n_clock C hc, bagF_clock _ _ _ _, ?_⟩
    walk_at "go"
    refine g_isi (n := "bool") (t := .type "int") (b := false) (.base (.int _)) (kit_ty (by decide +kernel)) ?_
    walk_at "go"
    refine ⟨x, C, dx, _, _, rfl, g1, T.cls C hc, T.n_clock C hc, bagF_clock _ _ _ _, ?_⟩
    walk_at "go"
    rw [decide_eq_true rfl]
    walk_at "go"
    refine ⟨d, s, rfl, hd, Nat.le_trans L.n (by omega), fun u hu => by have := (L.l u hu).1; omega, hT, fun t2 H1 e1 hT1 ht2 hw2 => ?_⟩
    walk_at "go"
    have g1' := e1 _ _ (tab_ne hT g1 fun _ z => nomatch z) g1
    have g3' := g3.exP e1 hT
    refine ⟨x, C, dx, _, _, rfl, g1', T.cls C hc, T.n_words C hc, bagF_words _ _ _ _, ?_⟩
    walk_at "go"
    obtain ⟨qs, o9, w1, w2, w3⟩ := id g3'
    refine g_isi (n := "tuple") (t := .type "tuple") (b := true) (.fTuple w1) (kit_ty (by decide +kernel)) ?_
    walk_at "go"
    refine ⟨x, C, dx, _, _, rfl, g1', T.cls C hc, T.n_words C hc, bagF_words _ _ _ _, ?_⟩
    walk_at "go"
    refine ⟨_, _, g3'.dp, hw2.dp, plain_words _, plain_words _, depth_words _, ?_⟩
    rw [if_neg Bool.false_ne_true, eqv_words, decide_eq_true hw]
    walk_at "go"
    refine ⟨x, C, dx, _, _, rfl, g1', T.cls C hc, T.n_words C hc, bagF_words _ _ _ _, ?_⟩
    walk_at "go"
    have hsm := L.small hn hl hp7
    refine g_reprW g3' (by rw [hw]; exact hsm) ?_
    walk_at "go"
    refine g_reprW hw2 hsm ?_
    rw [hw]
    walk_at "go"
    rw [decide_eq_true rfl]
    exact k H1 e1 hT1
/-! ### the bench -/
structure BTxt (K : PySem.W.Frag) (C_Bench : Addr) : Prop where
  cls : Cls K C_Bench
  n_clock : NoAttr K C_Bench "clock"
  n_row : NoAttr K C_Bench "row"
  n_past : NoAttr K C_Bench "past"
def benchF (p : Int) (row past : Addr) : List (Str × V) := [("clock", .int p), ("row", .ref row), ("past", .ref past)]
theorem k_rc : ¬ (("row" : Str) = "clock") := by decide +kernel
theorem k_pc : ¬ (("past" : Str) = "clock") := by decide +kernel
theorem k_pr : ¬ (("past" : Str) = "row") := by decide +kernel
theorem k_cr : ¬ (("clock" : Str) = "row") := by decide +kernel
theorem benchF_clock (p : Int) (r q : Addr) : (benchF p r q).lookup ("clock" : Str) = some (.int p) := lk_pos
theorem benchF_row (p : Int) (r q : Addr) : (benchF p r q).lookup ("row" : Str) = some (.ref r) := by
  unfold benchF
  rw [lk_cons k_rc]
  exact lk_pos
theorem benchF_past (p : Int) (r q : Addr) : (benchF p r q).lookup ("past" : Str) = some (.ref q) := by
  unfold benchF
  rw [lk_cons k_pc, lk_cons k_pr]
  exact lk_pos
theorem benchF_put (p : Int) (r q r' : Addr) : putF "row" (V.ref r') (benchF p r q) = benchF p r' q := by
  unfold benchF putF
  rw [if_neg k_cr]
  unfold putF
  rw [if_pos rfl]
/-- the bags of a row -/
def RowB (Cs : Addr → Prop) (K : PySem.W.Frag) (H : Hp) (r : Addr) (p : Int) (ts : List Bg) : Prop := ∃ xs : List Addr, SqT K H r (xs.map V.ref) ∧ Paired (fun a t => BagAt Cs H a p t) xs ts
structure BenchAt (Cs : Addr → Prop) (K : PySem.W.Frag) (C_Bench : Addr) (H : Hp) (b pa : Addr) (p : Int) (ts : List Bg) (n : Nat) : Prop where
  ex : ∃ (dx row : Addr) (qs : List V), H b = some (.ins C_Bench dx (benchF p row pa)) ∧ H pa = some (.lst qs) ∧ qs.length = n ∧ RowB Cs K H row p ts
def Ex2 (b pa : Addr) (H H' : Hp) : Prop := ∀ a o, a ≠ b → a ≠ pa → H a = some o → H' a = some o

end
end Fp

/-! texts of bags: pieces joined by " + ", and what splits them again -/
namespace Fp
open PySem TL
/-- the signs of a word over the letters -/
def Lt3 (l : List Nat) : Prop := ∀ c ∈ l, 120 ≤ c ∧ c ≤ 122
def numT (n : Int) : Str := Str.ofString (toString n)
def pieceT (kv : Str × Int) : Str := if kv.1 = Str.ofString "" then numT kv.2 else if kv.2 = 1 then kv.1 else numT kv.2 ++ Str.ofString " " ++ kv.1
def textT (l : Bg) : Str := if l = [] then Str.ofString "0" else Txt.join (Str.ofString " + ") (l.map pieceT)
/-- a pair that has a text here -/
def PcOk (kv : Str × Int) : Prop := Lt3 (tl kv.1) ∧ 1 ≤ kv.2 ∧ kv.2 ≤ 9
theorem tl_numT {n : Int} (h0 : 0 ≤ n) (h9 : n ≤ 9) : tl (numT n) = [48 + n.toNat] := by
  obtain ⟨m, rfl⟩ := Int.eq_ofNat_of_zero_le h0
  unfold numT
  rw [tl_num, numL_lt (by omega)]
  rfl
theorem tl_sp : tl (Str.ofString " ") = [32] := by decide +kernel
theorem tl_plus : tl (Str.ofString " + ") = [32, 43, 32] := by decide +kernel
theorem tl_zero : tl (Str.ofString "0") = [48] := by decide +kernel
theorem tl_empty : tl (Str.ofString "") = [] := by decide +kernel
theorem ne_empty {w : Str} (h : w ≠ Str.ofString "") : tl w ≠ [] := fun z => h (ext_tl (z.trans tl_empty.symm))
/-- the signs of a piece -/
inductive PcL : Str × Int → List Nat → Prop where
  | num (n : Int) (d : Nat) (hd : 49 ≤ d ∧ d ≤ 57) (he : tl (numT n) = [d]) : PcL (Str.ofString "", n) [d]
  | word (w : Str) (hw : Lt3 (tl w)) (hn : tl w ≠ []) : PcL (w, 1) (tl w)
  | both (w : Str) (n : Int) (d : Nat) (hd : 49 ≤ d ∧ d ≤ 57) (he : tl (numT n) = [d]) (hw : Lt3 (tl w)) (hn : tl w ≠ []) (h1 : n ≠ 1) : PcL (w, n) (d :: 32 :: tl w)
theorem pcL {kv : Str × Int} (h : PcOk kv) : PcL kv (tl (pieceT kv)) := by
  obtain ⟨w, n⟩ := kv
  obtain ⟨hw, h1, h9⟩ := h
  have h1 : 1 ≤ n := h1
  have h9 : n ≤ 9 := h9
  have hw : Lt3 (tl w) := hw
  have he := tl_numT (show 0 ≤ n by omega) h9
  have hd : 49 ≤ 48 + n.toNat ∧ 48 + n.toNat ≤ 57 := by omega
  unfold pieceT
  by_cases e : w = Str.ofString ""
  · rw [if_pos e]
    subst e
    show PcL _ (tl (numT n))
    rw [he]
    exact .num n _ hd he
  · rw [if_neg e]
    have hn := ne_empty e
    by_cases e1 : n = 1
    · rw [if_pos e1]
      subst e1
      exact .word w hw hn
    · rw [if_neg e1]
      show PcL _ (tl (numT n ++ Str.ofString " " ++ w))
      rw [tl_append, tl_append, he, tl_sp]
      exact .both w n _ hd he hw hn e1
theorem PcL.ne {kv : Str × Int} {l : List Nat} (h : PcL kv l) : l ≠ [] := by
  cases h with
  | num => simp
  | word _ _ hn => exact hn
  | both => simp
/-- behind a space no plus -/
def NoPlus (p : List Nat) : Prop := ∀ i, p[i]? = some 32 → ∃ d, p[i + 1]? = some d ∧ d ≠ 43
theorem PcL.noPlus {kv : Str × Int} {l : List Nat} (h : PcL kv l) : NoPlus l := by
  have no : ∀ {q : List Nat} {i : Nat}, Lt3 q → q[i]? = some 32 → False := fun {q i} hq hi => by
    have := hq 32 (List.mem_of_getElem? hi)
    omega
  intro i hi
  cases h with
  | num n d hd he =>
    match i, hi with
    | 0, hi =>
      have : d = 32 := by simpa using hi
      omega
    | i + 1, hi => simp at hi
  | word w hw hn => exact (no hw hi).elim
  | both w n d hd he hw hn h1 =>
    match i, hi with
    | 0, hi =>
      have : d = 32 := by simpa using hi
      omega
    | 1, hi =>
      obtain ⟨c, r, e⟩ := List.exists_cons_of_ne_nil hn
      refine ⟨c, by rw [e]; rfl, ?_⟩
      have := hw c (by rw [e]; exact List.mem_cons_self)
      omega
    | i + 2, hi => exact (no hw (show (tl w)[i]? = some 32 from hi)).elim
theorem noPlus_pre {p rest : List Nat} (h : NoPlus p) : ∀ i, i < p.length → pre [32, 43, 32] ((p ++ rest).drop i) = false := fun i hi => by
  cases hp : pre [32, 43, 32] ((p ++ rest).drop i) with
  | false => rfl
  | true =>
    exfalso
    have e : ((p ++ rest).drop i).take 3 = [32, 43, 32] := eq_of_beq hp
    have e0 : (((p ++ rest).drop i).take 3)[0]? = some 32 := by rw [e]; rfl
    have e1 : (((p ++ rest).drop i).take 3)[1]? = some 43 := by rw [e]; rfl
    rw [List.getElem?_take_of_lt (by decide), List.getElem?_drop] at e0 e1
    rw [Nat.add_zero, List.getElem?_append_left hi] at e0
    obtain ⟨d, hd, hne⟩ := h i e0
    have hi2 : i + 1 < p.length := (List.getElem?_eq_some_iff.mp hd).1
    rw [List.getElem?_append_left hi2, hd] at e1
    exact hne (Option.some.inj e1)
theorem spl_plus : ∀ {parts : List (List Nat)}, parts ≠ [] → (∀ p ∈ parts, NoPlus p) → spl [32, 43, 32] 0 [] (joinL [32, 43, 32] parts) = parts
  | [], h, _ => absurd rfl h
  | [p], _, hp => by
    show spl [32, 43, 32] 0 [] p = [p]
    rw [spl_last (S := [32, 43, 32]) (p := p) (acc := []) fun i hi => by
      have := noPlus_pre (rest := []) (hp p (List.mem_singleton.mpr rfl)) i hi
      rw [List.append_nil] at this
      exact this, List.nil_append]
  | p :: q :: r, _, hp => by
    show spl [32, 43, 32] 0 [] (p ++ ([32, 43, 32] ++ joinL [32, 43, 32] (q :: r))) = p :: q :: r
    rw [spl_part (by simp) fun i hi => noPlus_pre (hp p (List.mem_cons_self ..)) i hi, List.nil_append, spl_plus (by simp) fun z hz => hp z (List.mem_cons_of_mem _ hz)]
/-- a text's pieces -/
theorem split_text {l : Bg} (hl : l ≠ []) (h : ∀ kv ∈ l, PcOk kv) : Txt.split (Txt.join (Str.ofString " + ") (l.map pieceT)) (Str.ofString " + ") = l.map pieceT := by
  refine map_tl_inj ?_
  rw [split_spl _ (Str.ofString " + ") (by rw [tl_plus]; simp) (kind_ok (by decide +kernel)), join_eq, tl_join, tl_plus]
  refine spl_plus (fun e => hl (List.map_eq_nil_iff.mp (List.map_eq_nil_iff.mp e))) fun p hp => ?_
  obtain ⟨z, hz, rfl⟩ := List.mem_map.mp hp
  obtain ⟨kv, hkv, rfl⟩ := List.mem_map.mp hz
  exact (pcL (h kv hkv)).noPlus
/-- a piece's signs: the number, the word, or both -/
theorem split_piece {kv : Str × Int} (h : PcOk kv) : Txt.split (pieceT kv) (Str.ofString " ") = if kv.1 = Str.ofString "" then [numT kv.2] else if kv.2 = 1 then [kv.1] else [numT kv.2, kv.1] := by
  have q := pcL h
  refine map_tl_inj ?_
  rw [split_spl _ (Str.ofString " ") (by rw [tl_sp]; simp) (kind_ok (by decide +kernel)), tl_sp]
  have lt : ∀ {q : List Nat}, Lt3 q → 32 ∉ q := fun {q} hq hi => by
    have := hq 32 hi
    omega
  obtain ⟨w, n⟩ := kv
  obtain ⟨hw, h1, h9⟩ := h
  have h1 : 1 ≤ n := h1
  have h9 : n ≤ 9 := h9
  have hw : Lt3 (tl w) := hw
  have he := tl_numT (show 0 ≤ n by omega) h9
  unfold pieceT
  by_cases e : w = Str.ofString ""
  · rw [if_pos e, if_pos e]
    show spl [32] 0 [] (tl (numT n)) = [tl (numT n)]
    rw [he, spl_last1 (by simp; omega), List.nil_append]
  · rw [if_neg e, if_neg e]
    have hn := ne_empty e
    by_cases e1 : n = 1
    · rw [if_pos e1, if_pos e1]
      show spl [32] 0 [] (tl w) = [tl w]
      rw [spl_last1 (lt hw), List.nil_append]
    · rw [if_neg e1, if_neg e1]
      show spl [32] 0 [] (tl (numT n ++ Str.ofString " " ++ w)) = [tl (numT n), tl w]
      rw [tl_append, tl_append, tl_sp, List.append_assoc, spl_part1 (by rw [he]; simp; omega), List.nil_append, spl_last1 (lt hw), List.nil_append]
/-- a text that is not that of nothing -/
theorem text_ne {l : Bg} (hl : l ≠ []) (h : ∀ kv ∈ l, PcOk kv) : Txt.join (Str.ofString " + ") (l.map pieceT) ≠ Str.ofString "0" := fun e => by
  have e1 := split_text hl h
  have e2 : Txt.split (Str.ofString "0") (Str.ofString " + ") = [Str.ofString "0"] := by
    refine map_tl_inj ?_
    rw [split_spl _ (Str.ofString " + ") (by rw [tl_plus]; simp) (kind_ok (by decide +kernel)), tl_plus, tl_zero, spl_last1 (by decide)]
    rw [List.nil_append]
    show _ = [tl (Str.ofString "0")]
    rw [tl_zero]
  rw [e, e2] at e1
  obtain ⟨kv, r, e3⟩ := List.exists_cons_of_ne_nil hl
  rw [e3] at e1
  have e4 : Str.ofString "0" = pieceT kv := by
    have := congrArg List.head? e1
    exact Option.some.inj this
  have q := pcL (h kv (by rw [e3]; exact List.mem_cons_self))
  rw [← e4, tl_zero] at q
  generalize hz : ([48] : List Nat) = z at q
  cases q with
  | num n d hd he =>
    have : 48 = d := by simpa using hz
    omega
  | word w hw hn =>
    have := hw 48 (by rw [← hz]; exact List.mem_cons_self)
    omega
  | both w n d hd he hw hn h1 =>
    have := congrArg List.length hz
    simp at this
end Fp

namespace Fp
open PySem L2
theorem g_gcons {t : TG} {u : TGs} {v : V} {r : List V} {σ : St} {H : Hp} {Q : St → Hp → Prop} (h : t v σ H fun σ' H' => u r σ' H' Q) : gCons t u (v :: r) σ H Q := ⟨v, r, rfl, h⟩
theorem g_gnil {σ : St} {H : Hp} {Q : St → Hp → Prop} (h : Q σ H) : gNil [] σ H Q := ⟨rfl, h⟩
theorem g_gtup {K : PySem.W.Frag} {n : Nat} {t : TGs} {a : Addr} {xs : List V} {σ : St} {H : Hp} {Q : St → Hp → Prop} (ht : SqT K H a xs) (hn : xs.length = n) (h : t xs σ H Q) : gTup K n t (.ref a) σ H Q := ⟨a, xs, rfl, ht, hn, h⟩
theorem g_zip {K : PySem.W.Frag} {i j : Nat} {σ : St} {H : Hp} {a b : Addr} {xs ys : List V} {R : It → Hp → Prop} (hi : σ[i]? = some (some (.ref a))) (hj : σ[j]? = some (some (.ref b))) (h1 : SqL K H a xs) (h2 : SqL K H b ys) (h : R (Itz K a b) H) : iZip K (tCons (tVar i) (tCons (tVar j) tNil)) σ H R := ⟨_, hi, _, hj, a, b, xs, ys, rfl, h1, h2, h⟩
end Fp

/-! Comprehensions with a target (a, b); comprehensions with a test over lists. -/
namespace Fp
open PySem L2
section
variable {J : It} {n : Nat} {G : Hp → Prop} {Y : Nat → Hp → V → Hp → Prop} {α : Type} {fx fy : Nat → Option V}
theorem lc_relP {K : PySem.W.Frag} (w : Walk J n G (YPair fx fy)) {i j : Nat} {te : TE} {vs : List Nat} {σ : St} {H1 : Hp} {Q : VK} (es : List α) (hl : es.length = n) (hn : n ≤ sizeLine) (hG : ∀ H, Ex H1 H → G H)
    (R : α → V → Hp → Prop) (hR : ∀ e y H H', ExL H H' → R e y H → R e y H') (hw : ∀ x y, wipe (((wipe σ vs).set i x).set j y) vs = wipe σ vs)
    (hs : ∀ k x y e H (Kc : VK), k < n → Ex H1 H → fx k = some x → fy k = some y → es[k]? = some e → (∀ z H4, Ex H H4 → R e z H4 → Kc z H4) → te (((wipe σ vs).set i (some x)).set j (some y)) H Kc)
    (hd : ∀ D H' ys, H1 D = none → Ex H1 H' → H' D = some (.lst ys) → Paired (fun y e => R e y H') ys es → Q (.ref D) H') :
    LcG J (gTup K 2 (gCons (gName i) (gCons (gName j) gNil))) tYes te vs σ H1 Q := by
  intro D hD
  refine lc_it w (fun i H => Ex H1 H ∧ ∃ ys, H D = some (.lst ys) ∧ Paired (fun y e => R e y H) ys (es.take i)) ⟨Ex.new hD, [], upd_same, .nil⟩ (fun i H _ p => hG H p.1) ?_ (fun H p => ?_)
  · rintro k x H H' hi ⟨e, ys, hacc, hp⟩ ⟨T, x1, y1, rfl, hT, rfl, hx1, hy1⟩
    have hi' : k < es.length := by omega
    obtain ⟨c, hc⟩ : ∃ c, es[k]? = some c := ⟨es[k], by simp [hi']⟩
    have eT : Ex H (upd H T (.tup [x1, y1])) := Ex.new hT
    have hlen : ys.length = k := by rw [hp.length, List.length_take]; omega
    refine g_gtup (SqT.of upd_same) rfl (g_gcons ?_)
    (try dsimp only [gName])
    refine g_gcons ?_
    (try dsimp only [gName])
    refine g_gnil ⟨hw _ _, ?_⟩
    unfold tYes
    dsimp only
    rw [if_pos rfl]
    refine hs k x1 y1 c _ _ hi (e.trans eT) hx1 hy1 hc fun z H4 e4 rz => ⟨ys, e4 _ _ (eT _ _ hacc), by omega, ?_, ys ++ [z], upd_same, ?_⟩
    · exact Ex.mut ((e.trans eT).trans e4) hD
    · have tu : ExL H4 (L2.upd H4 D (.lst (ys ++ [z]))) := ExL.upd (e4 _ _ (eT _ _ hacc))
      rw [List.take_add_one, hc]
      exact Paired.snoc (Paired.mapP hp fun a b q => hR _ _ _ _ ((eT.trans e4).exl.trans tu) q) (hR _ _ _ _ tu rz)
  · obtain ⟨e, ys, h, hp⟩ := p
    rw [← hl, List.take_length] at hp
    exact hd D H ys hD e h hp
theorem lc_selL (w : Walk J n G Y) {j : Nat} {tt : TT} {te : TE} {vs : List Nat} {σ : St} {H1 : Hp} {Q : VK} (es : List α) (hl : es.length = n) (hn : n ≤ sizeLine) (hG : ∀ H, Ex H1 H → G H)
    (R : α → V → Hp → Prop) (hR : ∀ e y H H', ExL H H' → R e y H → R e y H') (q : α → Bool) (hw : ∀ x, wipe ((wipe σ vs).set j x) vs = wipe σ vs)
    (hs : ∀ i x e H H' (KT : Hp → Prop) (KY : VK), i < n → Ex H1 H → Y i H x H' → es[i]? = some e → (q e = false → ∀ H3, Ex H H3 → KT H3) → (q e = true → ∀ y H4, Ex H H4 → R e y H4 → KY y H4) →
      tt ((wipe σ vs).set j (some x)) H' fun b H3 => if b = true then te ((wipe σ vs).set j (some x)) H3 KY else KT H3)
    (hd : ∀ D H' ys, H1 D = none → Ex H1 H' → H' D = some (.lst ys) → Paired (fun y e => R e y H') ys (es.filter q) → Q (.ref D) H') :
    LcG J (gName j) tt te vs σ H1 Q := by
  intro D hD
  refine lc_it w (fun i H => Ex H1 H ∧ ∃ ys, H D = some (.lst ys) ∧ Paired (fun y e => R e y H) ys ((es.take i).filter q)) ⟨Ex.new hD, [], upd_same, .nil⟩ (fun i H _ p => hG H p.1) ?_ (fun H p => ?_)
  · rintro i x H H' hi ⟨e, ys, hacc, hp⟩ hy
    have hi' : i < es.length := by omega
    obtain ⟨c, hc⟩ : ∃ c, es[i]? = some c := ⟨es[i], by simp [hi']⟩
    have hlen : ys.length ≤ i := by
      rw [hp.length]
      exact Nat.le_trans (List.length_filter_le _ _) (by rw [List.length_take]; omega)
    refine ⟨hw _, ?_⟩
    refine hs i x c H H' _ _ hi e hy hc (fun hq H3 e3 => ⟨e.trans e3, ys, e3 _ _ hacc, ?_⟩) fun hq y H4 e4 rz => ⟨ys, e4 _ _ hacc, by omega, Ex.mut (e.trans e4) hD, ys ++ [y], upd_same, ?_⟩
    · rw [List.take_add_one, hc, List.filter_append]
      have : (Option.toList (some c)).filter q = [] := by
        show [c].filter q = []
        rw [List.filter_cons, hq, if_neg Bool.false_ne_true]
        rfl
      rw [this, List.append_nil]
      exact Paired.mapP hp fun a b z => hR _ _ _ _ e3.exl z
    · have tu : ExL H4 (L2.upd H4 D (.lst (ys ++ [y]))) := ExL.upd (e4 _ _ hacc)
      rw [List.take_add_one, hc, List.filter_append]
      have : (Option.toList (some c)).filter q = [c] := by
        show [c].filter q = [c]
        rw [List.filter_cons, hq, if_pos rfl]
        rfl
      rw [this]
      exact Paired.snoc (Paired.mapP hp fun a b z => hR _ _ _ _ (e4.exl.trans tu) z) (hR _ _ _ _ tu rz)
  · obtain ⟨e, ys, h, hp⟩ := p
    rw [← hl, List.take_length] at hp
    exact hd D H ys hD e h hp
end
end Fp

/-! Comprehensions over pairs that stand, with a target (a, b) -/
namespace Fp
open PySem L2
section
variable {J : It} {n : Nat} {G : Hp → Prop} {Y : Nat → Hp → V → Hp → Prop}
theorem lc_pureT {K : PySem.W.Frag} (w : Walk J n G Y) {i j : Nat} {te : TE} {vs : List Nat} {σ : St} {H1 : Hp} {Q : VK} (ys : List V) (hl : ys.length = n) (hn : n ≤ sizeLine) (hG : ∀ H, Ex H1 H → G H) (fx fy : Nat → V)
    (hY : ∀ k H x H', k < n → Ex H1 H → Y k H x H' → H' = H ∧ ∃ q, x = .ref q ∧ SqT K H q [fx k, fy k]) (hw : ∀ x y, wipe (((wipe σ vs).set i x).set j y) vs = wipe σ vs)
    (hs : ∀ k y H (Kc : VK), k < n → Ex H1 H → ys[k]? = some y → (∀ H4, Ex H H4 → Kc y H4) → te (((wipe σ vs).set i (some (fx k))).set j (some (fy k))) H Kc)
    (hd : ∀ D H', H1 D = none → Ex H1 H' → H' D = some (.lst ys) → Q (.ref D) H') :
    LcG J (gTup K 2 (gCons (gName i) (gCons (gName j) gNil))) tYes te vs σ H1 Q := by
  intro D hD
  refine lc_it w (fun i H => Ex H1 H ∧ H D = some (.lst (ys.take i))) ⟨Ex.new hD, upd_same⟩ (fun i H _ p => hG H p.1) ?_ (fun H p => ?_)
  · rintro k x H H' hi ⟨e, hacc⟩ hy
    obtain ⟨rfl, T, rfl, hT⟩ := hY k H x H' hi e hy
    have hi' : k < ys.length := by omega
    obtain ⟨y, hyi⟩ : ∃ y, ys[k]? = some y := ⟨ys[k], by simp [hi']⟩
    refine g_gtup hT rfl (g_gcons ?_)
    (try dsimp only [gName])
    refine g_gcons ?_
    (try dsimp only [gName])
    refine g_gnil ⟨hw _ _, ?_⟩
    unfold tYes
    dsimp only
    rw [if_pos rfl]
    refine hs k y _ _ hi e hyi fun H4 e4 => ⟨ys.take k, e4 _ _ hacc, by rw [List.length_take]; omega, ?_, ?_⟩
    · exact Ex.mut (e.trans e4) hD
    · rw [upd_same, List.take_add_one, hyi]
      rfl
  · obtain ⟨e, h⟩ := p
    rw [← hl, List.take_length] at h
    exact hd D H hD e h
end
theorem paired_ix {α β : Type} {F : α → β → Prop} {a : List α} {b : List β} (h : Paired F a b) {i : Nat} {y : β} (hy : b[i]? = some y) : ∃ x, a[i]? = some x ∧ F x y := by
  induction h generalizing i with
  | nil => cases hy
  | cons h1 _ ih =>
    cases i with
    | zero => cases Option.some.inj hy; exact ⟨_, rfl, h1⟩
    | succ i => exact ih hy
open TL
theorem len_numT {n : Int} (h0 : 0 ≤ n) (h9 : n ≤ 9) : (numT n).length = 1 := by
  rw [len_tl, tl_numT h0 h9]
  rfl
theorem piece_len {u : Str} {n : Int} {l : Nat} (h0 : 0 ≤ n) (h9 : n ≤ 9) (hu : u.length ≤ l) : (pieceT (u, n)).length ≤ l + 2 := by
  have e : (Str.ofString " ").length = 1 := by decide +kernel
  have e1 := len_numT h0 h9
  have ap : ∀ a b : Str, (a ++ b).length = a.length + b.length := fun a b => by rw [len_tl, len_tl, len_tl, tl_append, List.length_append]
  unfold pieceT
  split
  · show (numT n).length ≤ _
    omega
  · split
    · show u.length ≤ _
      omega
    · show (numT n ++ Str.ofString " " ++ u).length ≤ _
      rw [ap, ap]
      omega
end Fp

/-! an exception's own __init__ that says super().__init__(text) and keeps one field: its promise -/
namespace Fp
open PySem PySem.Spec PyProof.Rows L2
section
variable {P : Program} {w : World} {K : PySem.W.Frag} {mg : Str → Option Value} {base : Heap} {qual : Str} {scope : Scope} {f cda cc : Addr} {A : Around} {outer : List Env} {s : Shared} {H : Hp} {N : List Str}
abbrev envS (qual : Str) (scope : Scope) (L f cda cc : Addr) : Env := PySem.W.ksEnv qual scope L f (.ref cda) cc
/-- the context of such a body -/
def cxS (P : Program) (w : World) (K : PySem.W.Frag) (mg : Str → Option Value) (base : Heap) (N : List Str) (qual : Str) (scope : Scope) (f cda cc : Addr) (A : Around) (outer : List Env) (s : Shared) (H : Hp) : Cx where
  prog := P
  w := w
  K := K
  mg := mg
  base := base
  A := A.deeper (envS qual scope s.heap.objs.size f cda cc)
  N := N
  s_0 := s
  H_0 := H
  env := envS qual scope s.heap.objs.size f cda cc
  outer := outer
  stack := envS qual scope s.heap.objs.size f cda cc :: outer
  ex := []
  calm := true
  fn := fun _ => false
  pn := []
  xe := fun _ _ => False
/-- what the scope says -/
structure SupScope (prm : Str) (sc : Scope) : Prop where
  kind : sc.kind = .function
  co : sc.isCoroutine = false
  gen : sc.isGenerator = false
  nocell : ∀ x ∈ sc.names, x.2 ≠ .cell
  free : ∀ x ∈ sc.names, x.2 = .free → x.1 = "__class__"
  self : sc.names.lookup ("self" : Str) = some .local
  par : sc.names.lookup prm = some .local
  sup : sc.names.lookup ("super" : Str) = some .globalImplicit
  cls : sc.names.lookup ("__class__" : Str) = some .free
  ne : ("self" : Str) ≠ prm
  dbg : (prm == ("__debug__" : Str)) = false
  cdi : (prm == ("__classdict__" : Str)) = false
theorem inv_startS {prm : Str} {h₁ : Heap} {tk : Nat} {x y : V} {ux uy : Value} {D : Addr} {cl : Value} {cld : Option Addr} {csl : Array (Option Value)} (S : SupScope prm scope) (hd : A.handled = none) (e0 : Env0 P w K mg base A outer s H) (rx : RelV x ux) (ry : RelV y uy)
    (hcell : K.lookup cc = some ⟨cl, cld, .cell (some (.ref D)), csl⟩) (hns : h₁.Ns s.heap.objs.size fun z => ((["self", prm] : List Str).zip [ux, uy]).reverse.lookup z)
    (kp : ∀ b o, s.heap.get? b = some o → h₁.get? b = some o) : Inv (cxS P w K mg base ["self", prm] qual scope f cda cc A outer s H) [] [some x, some y] H { s with heap := h₁, toks := tk } := by
  have noA : ∀ b : Addr, b ∉ (cxS P w K mg base ["self", prm] qual scope f cda cc A outer s H).ex := fun b z => absurd (show b ∈ ([] : List Addr) from z) (by simp)
  have hb := e0.bs cc _ (e0.mod.kin _ _ hcell)
  have only : ∀ {z : Str} {c : Addr}, (envS qual scope s.heap.objs.size f cda cc).cells.lookup z = some c → z = "__class__" ∧ c = cc := fun {z c} e => by
    have e' : ([("__class__", cc)] : List (Str × Addr)).lookup z = some c := e
    have h2 := PySem.mem_of_lookup e'
    rw [List.mem_singleton] at h2
    exact ⟨(Prod.mk.inj h2).1, (Prod.mk.inj h2).2⟩
  refine ⟨⟨e0.mod, S.kind, rfl, rfl, Nat.le_refl _, fun a b c h1 h2 => ?_, fun z hz => ?_, fun z c e _ => ?_, fun _ => hd, Around.frames_deeper e0.frames, .inr ⟨rfl, rfl⟩, fun b z => absurd z (noA b), e0.bs, e0.bsz, fun b _ _ => noA b,
      fun b z => absurd z (noA b), e0.funs, e0.frf⟩,
    rfl, e0.bare, Un.kept kp, ⟨_, hns, fun i z v e1 e2 e3 => ?_⟩, fun z c e => ?_, e0.hok.fresh (Nat.le_refl _), fun z c e => ?_, fun q hq => absurd (show q ∈ ([] : List (Addr × Obj)) ++ [] from hq) (by simp), e0.hok.kept kp, rfl⟩
  · rw [(only h1).1, (only h2).1]
  · have hz : scope.names.lookup z = some .cell ∨ scope.names.lookup z = some .free := hz
    rcases hz with hz | hz
    · exact absurd rfl (S.nocell _ (PySem.mem_of_lookup hz))
    · have e := S.free _ (PySem.mem_of_lookup hz) rfl
      have e : z = "__class__" := e
      subst e
      exact ⟨cc, rfl⟩
  · have e : false = true := e
    cases e
  · have e1 : (["self", prm] : List Str)[i]? = some z := e1
    match i, e1, e2 with
    | 0, e1, e2 =>
      cases e1
      cases e2
      refine ⟨ux, rx, .inl ⟨S.self, ?_⟩⟩
      show ([(prm, uy), ("self", ux)] : List (Str × Value)).lookup ("self" : Str) = some ux
      have : (("self" : Str) == prm) = false := by simpa using S.ne
      simp [List.lookup, this]
    | 1, e1, e2 =>
      cases e1
      cases e2
      refine ⟨uy, ry, .inl ⟨S.par, ?_⟩⟩
      show ([(prm, uy), ("self", ux)] : List (Str × Value)).lookup prm = some uy
      simp [List.lookup]
    | i + 2, e1, e2 => simp at e1
  · have e' := (only e).2
    subst e'
    exact ⟨_, _, kp _ _ hb.1, rfl⟩
  · have e' := (only e).2
    subst e'
    exact hb.2
/-- the bound built-in __init__ called: nothing of it is told -/
theorem sinit_ok {X : Cx} {pins : List (Addr × Obj)} {σ : L2.St} {H : Hp} {s : Shared} {a C u : Addr} {A : Around} {E : Value → Shared → Prop} {us : List Value} {Q : Value → Shared → Prop} (T : OexC X.K C) (I : Inv X pins σ H s) (e : H a = some (exo a C none)) (hu : s.heap.get? u = some (PySem.W.kxs_mw "ValueError.__init__" a))
    (hl : us.length ≤ sizeLine) (h : ∀ s', Inv X pins σ H s' → Q .none s') : wpAny (model X.prog X.w) A (call (.ref u) us) Q E s := by
  obtain ⟨nm, q, N, bs, bm, sn, sub, ab, col, dd, k0, k1, k2, k3, k5, hC, hbm⟩ := T.cls
  obtain ⟨t1, ho⟩ := exo_at I.hok e
  have hC' := I.kIn _ _ hC
  obtain ⟨hp, g, d, t, os⟩ := s
  refine wpAny_call (codeAny_of_tree ?_)
  show wpAny _ A.in1 (callAny (.ref u) ⟨us, []⟩) _ _ _
  simp only [callAny]
  refine wpAny_bind (wpAny_load hu ?_)
  simp only [PySem.W.kxs_mw, show (Value.type "method-wrapper" == Value.type "method" || Value.type "method-wrapper" == Value.type "builtin_function_or_method" || Value.type "method-wrapper" == Value.type "method-wrapper") = true by decide, if_true]
  refine PySem.W.KFB.if_so (by decide) ?_
  refine wpAny_bind (PySem.W.check_bound_init F.excBase_ValueError.toExcCallFacts hC' ho rfl ?_)
  refine wpAny_bind (wpAny_pure (wpAny_pure ?_))
  refine ⟨plainId_quiet F.excBase_ValueError.init.plain _, codeAny_builtin F.excBase_ValueError.initEntry ?_⟩
  refine PySem.W.exc_init_tree (cls := .ref C) (t0 := t1) (dv := none) (c2 := .none) (c3 := .none) (b4 := .bool false) ho hl fun h' k hx _ => ?_
  have J := I.write (t' := t) (x := a) (e := a) (o := exo a C none) (by rw [e]; exact True.intro) (.inl rfl) k ⟨_, hx⟩ (exo_ok hx)
  have eu : upd H a (exo a C none) = H := by
    funext b
    by_cases hb : b = a
    · rw [hb, upd_same, e]
    · rw [upd_ne hb]
  rw [eu] at J
  exact h _ J
/-- what such an __init__ does -/
def sp_sup (C : Addr) (fld : Str) : Sp := fun vs H Q _ => ∃ (a : Addr) (y : V), vs = [.ref a, y] ∧ H a = some (exo a C none) ∧ ∀ dx, H dx = none → dx ≠ a → Q .non (upd (upd H dx (exd dx [(fld, y)])) a (exo a C (some dx)))
/-- what the written part says of the class and of its __init__ -/
structure SupK (P : Program) (K : PySem.W.Frag) (C f cda cc : Addr) (fld : Str) : Prop where
  T : OexC K C
  no : PySem.W.findIn K (.ref C) fld = some none
  code : ∃ (ccl : Value) (cdd : Option Addr) (vs : Array Value) (ccs : Array (Option Value)) (file : Str) (tf : Tok), K.lookup cda = some ⟨ccl, cdd, .fields vs, ccs⟩ ∧ vs[2]? = some (.str file tf) ∧ ((P.main.file : Str) == file) = true
  cell : ∃ (cl : Value) (cld : Option Addr) (csl : Array (Option Value)), K.lookup cc = some ⟨cl, cld, .cell (some (.ref C)), csl⟩
  mro : PySem.W.mroIn K C (.ref C) = some true
  opq : PySem.W.nsIn K cStatics "thirdparty.any" = some none
  init : PySem.W.ks_superIn K C C "__init__" = some (some (.builtin "ValueError.__init__"))
  ve : PySem.W.subIn K (.ref C) (.type "ValueError") = some true
  top : (P.main.scope.names.lookup ("super" : Str)).isSome = false
theorem fn_super {CX : CXT} {k : Nat} {C : Addr} {name prm fld msg : Str} {params : Arguments} {body : List Stmt} {dV kV doc pm ct oc : Value} {an od : Option Addr} {osl : Array (Option Value)} {ar : Arg} {p0 p1 p2 p3 p4 p5 p6 p7 p8 p9 : Pos} {j : _} {pl : Sem Bool}
    (lk : K.lookup f = some ⟨oc, od, .func (PySem.W.ksFn name qual params body scope dV kV doc pm an (.ref cda) ct cc), osl⟩) (hcd : PySem.W.codeIn K (.ref cda) qual = true) (S : SupScope prm scope) (SK : SupK P K C f cda cc fld) (hms : mg "super" = none)
    (hp : (params.posonlyargs ++ params.args).head? = some ar) (har : ar.arg = "self")
    (hc : ∀ env : Env, eval (.Call (.Attribute (.Call (.Name "super" p0) [] [] p1) "__init__" p2) [.Constant (.str msg) j p3] [] p4) env = (do
      let ov ← attributeBase (.Call (.Name "super" p0) [] [] p1) "__init__" env (eval (.Call (.Name "super" p0) [] [] p1) env)
      standAt p2.atName
      let (f, first) ← holding [ov] (getMethod ov "__init__" pl)
      callWith p4 f first (backTo p4 (starEach [.Constant (.str msg) j p3] env)) []))
    (hb : body = [.Expr (.Call (.Attribute (.Call (.Name "super" p0) [] [] p1) "__init__" p2) [.Constant (.str msg) j p3] [] p4) p5, .Assign [.Attribute (.Name "self" p6) fld p7] (.Name prm p8) p9]) :
    FnOk P w K mg base CX (k + 1) f (PySem.W.ksFn name qual params body scope dV kV doc pm an (.ref cda) ct cc) ["self", prm] (sp_sup C fld) := by
  refine ⟨fun vs H Q E h => ?_, fun A outer s H args us vs Q E hr e0 hbd r hsp => ?_⟩
  · obtain ⟨a, y, rfl, _⟩ := h
    rfl
  obtain ⟨a, y, rfl, ha, q⟩ := hsp
  obtain ⟨ua, uy, rfl, ra, ry⟩ : ∃ ua uy, us = [ua, uy] ∧ RelV (.ref a) ua ∧ RelV y uy := by
    cases r with
    | cons h1 h2 =>
      cases h2 with
      | cons h3 h4 =>
        cases h4
        exact ⟨_, _, rfl, h1, h3⟩
  obtain rfl : ua = .ref a := ra
  have KX : K.In s.heap := e0.mod.kin.keeps fun b o e => (e0.bs b o e).1
  have lim : s.heap.NoLimit := e0.mod.nolimit.keeps fun b o e => (e0.bs b o e).1
  obtain ⟨ccl, cdd, cvs, ccs, file, tf, hcode, hvs, hfile⟩ := SK.code
  obtain ⟨cl, cld, csl, hcell⟩ := SK.cell
  subst hb
  refine ks_codeAny_call_defAt (fd := PySem.W.ksFn name qual params _ scope dV kV doc pm an (.ref cda) ct cc) (binds := (["self", prm] : List Str).zip [.ref a, uy]) hr.depth (KX _ _ lk) rfl lim (PySem.W.codeRec_of KX hcd) rfl hbd S.nocell (fun z hz => ?_) (fun h₁ hns kp => ?_) S.co S.gen S.kind
  · rcases List.mem_cons.mp hz with rfl | hz
    · exact S.self
    · rw [List.mem_singleton.mp hz]
      exact S.par
  have I : Inv (cxS P w K mg base ["self", prm] qual scope f cda cc A outer s H) [] [some (.ref a), some y] H { s with heap := h₁, toks := s.toks + 2 } := inv_startS S hr.hd e0 rfl ry hcell hns kp
  obtain ⟨t1, ho⟩ := exo_at I.hok ha
  obtain ⟨mb, hmb, hbo⟩ := e0.mod.blt
  obtain ⟨nm, qn, N', bs, bm, sn, sub, ab, col, dd, k0, k1, k2, k3, k5, hC, hbm⟩ := SK.T.cls
  have X1 : K.In h₁ := I.kIn
  refine ks_wpAt_execs_cons (ks_wpAt_Expr_any (ks_wpAt_MethodCall (pl := pl) ?_ (hc _)) I.quiet)
  refine ks_wpAt_super_base (ar := ar) (f := f) (cc := cda) (file := file) (tf := tf) (vs := cvs) S.sup S.cls (by decide) rfl (X1 _ _ lk) rfl hp rfl (X1 _ _ hcode) rfl hvs hfile SK.top ?_
  refine PySem.W.ks_loadName_global S.kind S.sup (PySem.Calls.loadGlobal_builtin (env := envS qual scope s.heap.objs.size f cda cc) (e0.mod.glob.keeps I.bk) hms (hmb.keeps I.bk) ((hbo _ (by decide +kernel)).trans (by first | rfl | decide +kernel)) ⟨rfl, ?_⟩)
  obtain ⟨oD, hD1, cdD, hD2, hDm⟩ : ∃ oD, h₁.get? C = some oD ∧ ∃ cdD, oD.data = .cls cdD ∧ cdD.mro = .ref C :: bm := ⟨_, X1 _ _ hC, _, rfl, rfl⟩
  refine wpAny_loadName_free S.kind S.cls rfl ⟨_, X1 _ _ hcell, rfl⟩ ?_
  rw [har]
  refine wpAny_loadName_local S.kind S.self hns (v := .ref a) (by
    show ([(prm, uy), ("self", .ref a)] : List (Str × Value)).lookup ("self" : Str) = some (.ref a)
    have : (("self" : Str) == prm) = false := by simpa using S.ne
    simp [List.lookup, this]) ?_
  refine ks_wpAny_isType_cls hD1 hD2 ⟨rfl, ?_⟩
  refine ks_wpAny_call_super hD1 hD2 ho rfl (fun c e => nomatch e) (PySem.W.looks_mroIn X1 SK.mro) (fun h' e k1 => ?_)
  have I2 : Inv (cxS P w K mg base ["self", prm] qual scope f cda cc A outer s H) [] [some (.ref a), some y] H { s with heap := h', toks := s.toks + 2 } := I.kept k1
  have X2 : K.In h' := I2.kIn
  have Ia : PySem.W.InstAt h' a { cls := .ref C, dict := none, data := .fields #[.ref t1, .none, .none, .none, .bool false, .none] } C none := ⟨k1 _ _ ho, rfl, rfl, trivial⟩
  have hinit := SK.init
  have hcl : PySem.W.clsIn K C = some { name := nm, bases := bs, mro := .ref C :: bm, ns := N', qualname := qn, hasDict := true, slotNames := sn, subclasses := sub, abstract := ab, collection := col, hasDel := false } := by unfold PySem.W.clsIn; rw [hC] <;> rfl
  unfold PySem.W.ks_superIn at hinit
  rw [hcl] at hinit
  refine PySem.W.kxs_getMethod PySem.W.kxs_ValueError e (PySem.W.looks_opaque X2 SK.opq) (l₀ := .ref C :: bm) ?_ rfl X2 hinit (Ia.type.andThen (PySem.W.looks_subIn X2 SK.ve)) (PySem.W.ks_ne X2 Ia hcl) (by decide) ?_
  · exact fun A Q E s k q => wpAny_bind ((PySem.W.looks_clsIn X2 hcl) A _ E s k (wpAny_pure q))
  have I3' : Inv (cxS P w K mg base ["self", prm] qual scope f cda cc A outer s H) [] [some (.ref a), some y] H { s with heap := h'.push (PySem.W.kxs_mw "ValueError.__init__" a), toks := s.toks + 2 + 1 } := I2.kept (fun b o e => Heap.get?_push_of_some _ e)
  have hu : (h'.push (PySem.W.kxs_mw "ValueError.__init__" a)).get? h'.objs.size = some (PySem.W.kxs_mw "ValueError.__init__" a) := Heap.get?_push_at rfl rfl
  have hlt : s.heap.objs.size < h'.objs.size := I2.lt
  have I3 : Inv (cxS P w K mg base ["self", prm] qual scope f cda cc A outer s H) [(h'.objs.size, PySem.W.kxs_mw "ValueError.__init__" a)] [some (.ref a), some y] H { s with heap := h'.push (PySem.W.kxs_mw "ValueError.__init__" a), toks := s.toks + 2 + 1 } := { I3' with
    pin := fun p hp => by
      obtain rfl : p = (h'.objs.size, PySem.W.kxs_mw "ValueError.__init__" a) := List.mem_singleton.mp hp
      exact ⟨hu, I2.hok.fresh (Nat.le_refl _), fun z => absurd hlt (by rw [show h'.objs.size = s.heap.objs.size from z]; exact Nat.lt_irrefl _), I2.nofs (Nat.le_refl _), fun v z => nomatch z⟩ }
  refine PySem.W.kxs_callWith1 (i := "ValueError.__init__") (x := a) (h₀ := h') (L := s.heap.objs.size) (news := [(h'.objs.size, PySem.W.kxs_mw "ValueError.__init__" a)]) (fun p hp => ?_) (List.mem_singleton.mpr rfl) ?_
  · rw [List.mem_singleton.mp hp]
    exact ⟨hu, Nat.ne_of_gt hlt, Heap.get?_none_of_le (Nat.le_refl _)⟩
  have ha3 : PA (cxS P w K mg base ["self", prm] qual scope f cda cc A outer s H) [.Constant (.str msg) j p3] (tCons (tC (.str msg)) tNil) := pa_cons pe_str pa_nil
  refine wpAny_mono (ha3.run p4 _ _ [some (.ref a), some y] H (fun vs H1 => H1 = H ∧ vs.length = 1) I3 ⟨rfl, rfl⟩) (fun us s1 hs => ?_) fun _ _ z => z.elim
  obtain ⟨vs, H1, I4, r1, rfl, hl1⟩ := hs
  refine ⟨(I4.pin _ (List.mem_append_right _ (List.mem_singleton.mpr rfl))).1, ?_⟩
  refine sinit_ok SK.T I4 ha ((I4.pin _ (List.mem_append_right _ (List.mem_singleton.mpr rfl))).1) (by rw [← Paired.length r1, hl1]; decide) fun s2 I5 => ?_
  refine ks_wpAt_execs_cons (wpAt_of_wpAny ?_)
  have hx : PS (cxS P w K mg base ["self", prm] qual scope f cda cc A outer s H1) (.Assign [.Attribute (.Name "self" p6) fld p7] (.Name prm p8) p9) (tOst K fld (tVar 0) (tVar 1)) := ps_ost (pe_var (i := 0) rfl (.inl S.self)) (pe_var (i := 1) rfl (.inl S.par) S.dbg S.cdi)
  refine wpAny_mono (hx.run _ s2 [some (.ref a), some y] H1 { nx := fun _ H' => Q .non H', rt := fun _ _ => False } I5 ⟨y, rfl, .ref a, rfl, a, C, rfl, SK.T, SK.no, .inl ⟨ha, fun dx n ne => q dx n ne⟩⟩) (fun fl s3 hs => ?_) fun _ _ z => z.elim
  cases fl with
  | next =>
    obtain ⟨σ', H', J, qq⟩ := hs
    refine wpAt_of_wpAny (wpAny_pure ?_)
    exact ⟨.non, H', J.os, J.bare, J.base, J.hok, rfl, qq⟩
  | ret u =>
    obtain ⟨_, _, _, _, _, z⟩ := hs
    exact z.elim
  | brk =>
    obtain ⟨_, _, _, z⟩ := hs
    exact z.elim
  | cont =>
    obtain ⟨_, _, _, z⟩ := hs
    exact z.elim
end
end Fp

/-! raise X(e), X with a field by its own __init__ -/
namespace Fp
open PySem PySem.Spec PyProof.Rows L2
structure ErrF (P : Program) (w : World) (K : PySem.W.Frag) (mg : Str → Option Value) (base : Heap) (k : Nat) (nm : Str) (C : Addr) (fld : Str) : Prop where
  ex : OexC K C ∧ mg nm = some (.ref C) ∧ ∃ (fI : Addr) (fd : FuncData) (prm : Str), PySem.W.findIn K (.ref C) "__init__" = some (some (.ref fI)) ∧ PySem.W.typeIn K (.ref fI) = some (.type "function") ∧
    FnOk P w K mg base CX0 k fI fd ["self", prm] (sp_sup C fld) ∧ Binds K fd ["self", prm] []
section
variable {X : Cx} {W : WX} {x fld : Str} {C : Addr} {k : Nat} {p pos pos' : Pos} {e : Expr} {te : TE}
/-- the reading of raise X(e): what stands behind e's -/
def tErrF (W : WX) (C : Addr) (fld : Str) (te : TE) : TS := fun _ σ H => tMkO C (sp_sup C fld) [] (tCons te tNil) σ H fun cls d H' => W cls d σ H'
theorem ps_errF (hc : X.calm = true) (tk : Takes X W) (D : ErrF X.prog X.w X.K X.mg X.base k x C fld) (hr : Room (k + 1) X.A) (hg : Gl X x) (he : PE X e te) (hdb : (x == ("__debug__" : Str)) = false := by decide)
    (hse : starEach [e] X.env = (false, eval e X.env) :: starEach [] X.env := by rfl) :
    PS X (.Raise (some (.Call (.Name x p) [e] [] pos)) none pos') (tErrF W C fld te) := by
  obtain ⟨T, hm, fI, fd, prm, h1, h2, h3, h4⟩ := D.ex
  exact L2.ps_raise (pos := pos') hc tk (pmk_oex (p := p) (pos := pos) T h1 h2 h3 hr h4 .nil pass0 hg hm (pa_cons he pa_nil hse) hdb hse)
theorem g_errF {D : Ends} {σ : L2.St} {H : Hp} (h : te σ H fun y H1 => ([y] : List V).length ≤ 1000 ∧ ∀ a, H1 a = none → sp_sup C fld (.ref a :: ([y] ++ [])) (upd H1 a (exo a C none))
    (fun v H2 => v = .non ∧ ∃ (d : Addr) (fs : List (Str × V)), H2 a = some (exo a C (some d)) ∧ H2 d = some (exd d fs) ∧ H1 d = none ∧ W (.ref C) (some d) σ (upd (del H2 a) d (.xd fs))) fun _ _ _ => False) : tErrF W C fld te D σ H := h
/-- behind e: the error is out -/
theorem errF_end {R : Option Addr → Hp → Prop} {H1 : Hp} {y : V} {E : XK} (h : ∀ d, H1 d = none → R (some d) (upd H1 d (.xd [(fld, y)]))) : ([y] : List V).length ≤ 1000 ∧ ∀ a, H1 a = none → sp_sup C fld (.ref a :: ([y] ++ [])) (upd H1 a (exo a C none))
    (fun v H2 => v = .non ∧ ∃ (d : Addr) (fs : List (Str × V)), H2 a = some (exo a C (some d)) ∧ H2 d = some (exd d fs) ∧ H1 d = none ∧ R (some d) (upd (del H2 a) d (.xd fs))) E := by
  refine ⟨Nat.le_of_ble_eq_true rfl, fun a ha => ⟨a, y, rfl, upd_same, fun dx hdx hne => ⟨rfl, dx, [(fld, y)], upd_same, ?_, ?_, ?_⟩⟩⟩
  · rw [upd_ne hne, upd_same]
  · rw [upd_ne hne] at hdx
    exact hdx
  · rw [upd_ne hne] at hdx
    have e : upd (del (upd (upd (upd H1 a (exo a C none)) dx (exd dx [(fld, y)])) a (exo a C (some dx))) a) dx (.xd [(fld, y)]) = upd H1 dx (.xd [(fld, y)]) := by
      funext b
      by_cases hb : b = dx
      · rw [hb, upd_same, upd_same]
      · rw [upd_ne hb, upd_ne hb]
        by_cases hba : b = a
        · rw [hba, del_same, ha]
        · rw [del_ne hba, upd_ne hba, upd_ne hb, upd_ne hba]
    rw [e]
    exact h dx hdx
end
end Fp

namespace Fp
open PySem L2
section
variable {P : Program} {w : World} {K : PySem.W.Frag} {mg : Str → Option Value} {base : Heap} {C_Bag : Addr} {Cs : Addr → Prop}
local macro_rules | `(tactic| walk_at "hp") => `(tactic| first | assumption | rfl)
local macro_rules | `(tactic| walk_at "cond") => `(tactic| first | assumption | decide | omega | (unfold CMul; omega) | (refine ⟨?_, ?_⟩ <;> omega) | (unfold CDiv; omega) | (unfold CPow; omega))
local macro_rules | `(tactic| walk_at "g1") => `(tactic| first
  | with_reducible first
    | refine g_seq ?_ | refine g_asg ?_ | refine g_name ?_ | refine g_ret ?_ | refine g_retN ?_ | refine g_drop ?_ | refine g_ifs ?_
    | refine g_c ?_ | refine g_op ?_ | refine g_un ?_ | refine g_I0 ?_ | refine g_U ?_
    | refine g_test ?_ | refine g_tB ?_ | refine g_bl ?_ | refine g_and ?_ | refine g_or ?_ | refine g_not ?_
    | refine g_andV ?_ | refine g_orV ?_ | refine g_notV ?_ | refine g_if ?_ | refine g_nil ?_ | refine g_cons ?_ | refine g_cb ?_ | refine g_call ?_
    | refine g_lst ?_ | refine g_tup ?_ | refine g_itT ?_ | refine g_itF ?_ | refine g_itNT ?_ | refine g_itNF ?_ | refine g_lc ?_ | refine g_iStr ?_ | refine g_yes ?_ | refine g_exs ?_
    | refine g_chain ?_ | refine g_dget ?_ | refine g_dput ?_ | refine g_dget2 ?_ | refine g_dpop2 ?_ | refine g_fld ?_ | refine g_sfld ?_ | refine g_make ?_ | refine g_meth ?_
    | refine g_bm ?_ | refine g_kw ?_ | refine g_callS ?_ | refine g_revL ?_ | refine g_m1 ?_ | refine g_gsub ?_ | refine g_for ?_ | refine g_iList ?_ | refine g_iTup ?_ | refine g_iRng1 ?_ | refine g_iRng2 ?_ | refine g_sl ?_ | refine g_part ?_ | refine g_noPart ?_
    | refine g_exi ?_ | refine g_exr ?_ | refine g_dnew ?_ | refine g_disp ?_ | refine g_prs0 ?_ | refine g_prs ?_ | refine g_nxt ?_
  | ((with_reducible refine g_var (v := ?vv) ?gv ?_); (case gv => exact rfl))
  | ((with_reducible refine g_I ?gc ?_); (case gc => walk_at "cond"))
  | ((with_reducible refine g_eq ?ge ?_); (case ge => exact rfl))
  | ((with_reducible refine g_ne ?ge ?_); (case ge => exact rfl))
  | (refine g_ixl (SqL.of (by first | assumption | exact upd_same)) rfl ?_)
  | (refine g_setl (by first | assumption | exact upd_same) rfl ?_)
  | ((with_reducible show (∃ i, [V.int _] = [V.int i] ∧ _) ∨ _); refine Or.inl ⟨_, rfl, ?_⟩)
  | ((with_reducible show ∃ i, [V.int _] = [V.int i] ∧ _); refine ⟨_, rfl, ?_⟩)
  | dsimp only)
local macro_rules | `(tactic| walk_at "go") => `(tactic| repeat (walk_at "g1"))

theorem isW_lt3 {w : Str} (h : isW w = true) : Lt3 (TL.tl w) := fun c hc => by
  unfold isW at h
  have h2 := List.all_eq_true.mp h c hc
  have e : ("xyz" : Str).cps.toList = [120, 121, 122] := by decide +kernel
  have h3 := of_decide_eq_true h2
  rw [e] at h3
  rcases List.mem_cons.mp h3 with h3 | h3
  · omega
  · rcases List.mem_cons.mp h3 with h3 | h3
    · omega
    · have := List.mem_singleton.mp h3
      omega
def sp_word_text : Sp := fun vs H Q _ => ∃ (u : Str) (n : Int), vs = [.str u, .int n] ∧ u.length ≤ 1000 ∧ 0 ≤ n ∧ n ≤ 9 ∧ Q (.str (pieceT (u, n))) H
def sp_bag_text (Cs : Addr → Prop) : Sp := fun vs H Q _ => ∃ (b : Addr) (p : Int) (s : Bg) (n l : Nat), vs = [.ref b] ∧ BagAt Cs H b p s ∧ Lot p s n l ∧ n ≤ 1000 ∧ l ≤ 1000 ∧ p ≤ 7 ∧ ∀ H', Ex H H' → Q (.str (textT (wordsS s))) H'
end
end Fp

/-! pieces of a split text; membership among texts -/
namespace Fp
open PySem TL L2
theorem split_ne (x y : Str) : Txt.split x y ≠ [] := by
  unfold Txt.split
  split
  · simp
  · split
    · simp
    · intro z
      have := congrArg List.length z
      rw [PyProof.Rows.len_partsBetween] at this
      simp at this
theorem len_joinL (S : List Nat) : ∀ {parts : List (List Nat)} {p : List Nat}, p ∈ parts → p.length ≤ (joinL S parts).length
  | [p], q, h => by
    rw [List.mem_singleton.mp h]
    exact Nat.le_refl _
  | p :: q :: r, u, h => by
    show u.length ≤ (p ++ (S ++ joinL S (q :: r))).length
    rw [List.length_append, List.length_append]
    rcases List.mem_cons.mp h with e | h
    · rw [e]; omega
    · have := len_joinL S h
      omega
theorem split_part {x y p : Str} (h : p ∈ Txt.split x y) : p.length ≤ x.length := by
  have e := PySem.StrLaws.join_split x y
  have e2 := congrArg tl e
  rw [tl_join] at e2
  have h2 := len_joinL (tl y) (List.mem_map_of_mem (f := tl) h)
  rw [e2] at h2
  exact h2
theorem inV_str (a : Str) : ∀ ys : List Str, inV (.str a) (ys.map V.str) = decide (a ∈ ys)
  | [] => by simp [inV]
  | y :: r => by
    have ih := inV_str a r
    unfold inV at ih ⊢
    rw [List.map_cons, List.any_cons, ih]
    by_cases h : y = a
    · subst h
      simp [eqV]
    · have h' : ¬ a = y := fun z => h z.symm
      simp [eqV, h, h']
theorem flat_strs (ys : List Str) : (ys.map V.str).all flatV = true := by
  rw [List.all_map]
  exact List.all_eq_true.mpr fun _ _ => rfl
end Fp

namespace Fp
open PySem L2
section
variable {P : Program} {w : World} {K : PySem.W.Frag} {mg : Str → Option Value} {base : Heap} {C_Bag : Addr} {Cs : Addr → Prop}
local macro_rules | `(tactic| walk_at "hp") => `(tactic| first | assumption | rfl)
local macro_rules | `(tactic| walk_at "cond") => `(tactic| first | assumption | decide | omega | (unfold CMul; omega) | (refine ⟨?_, ?_⟩ <;> omega) | (unfold CDiv; omega) | (unfold CPow; omega))
local macro_rules | `(tactic| walk_at "g1") => `(tactic| first
  | with_reducible first
    | refine g_seq ?_ | refine g_asg ?_ | refine g_name ?_ | refine g_ret ?_ | refine g_retN ?_ | refine g_drop ?_ | refine g_ifs ?_
    | refine g_c ?_ | refine g_op ?_ | refine g_un ?_ | refine g_I0 ?_ | refine g_U ?_
    | refine g_test ?_ | refine g_tB ?_ | refine g_bl ?_ | refine g_and ?_ | refine g_or ?_ | refine g_not ?_
    | refine g_andV ?_ | refine g_orV ?_ | refine g_notV ?_ | refine g_if ?_ | refine g_nil ?_ | refine g_cons ?_ | refine g_cb ?_ | refine g_call ?_
    | refine g_lst ?_ | refine g_tup ?_ | refine g_itT ?_ | refine g_itF ?_ | refine g_itNT ?_ | refine g_itNF ?_ | refine g_lc ?_ | refine g_iStr ?_ | refine g_yes ?_ | refine g_exs ?_
    | refine g_chain ?_ | refine g_dget ?_ | refine g_dput ?_ | refine g_dget2 ?_ | refine g_dpop2 ?_ | refine g_fld ?_ | refine g_sfld ?_ | refine g_make ?_ | refine g_meth ?_
    | refine g_bm ?_ | refine g_kw ?_ | refine g_callS ?_ | refine g_revL ?_ | refine g_m1 ?_ | refine g_gsub ?_ | refine g_for ?_ | refine g_iList ?_ | refine g_iTup ?_ | refine g_iRng1 ?_ | refine g_iRng2 ?_ | refine g_sl ?_ | refine g_part ?_ | refine g_noPart ?_
    | refine g_exi ?_ | refine g_exr ?_ | refine g_dnew ?_ | refine g_disp ?_ | refine g_prs0 ?_ | refine g_prs ?_ | refine g_nxt ?_
  | ((with_reducible refine g_var (v := ?vv) ?gv ?_); (case gv => exact rfl))
  | ((with_reducible refine g_I ?gc ?_); (case gc => walk_at "cond"))
  | ((with_reducible refine g_eq ?ge ?_); (case ge => exact rfl))
  | ((with_reducible refine g_ne ?ge ?_); (case ge => exact rfl))
  | (refine g_ixl (SqL.of (by first | assumption | exact upd_same)) rfl ?_)
  | (refine g_setl (by first | assumption | exact upd_same) rfl ?_)
  | ((with_reducible show (∃ i, [V.int _] = [V.int i] ∧ _) ∨ _); refine Or.inl ⟨_, rfl, ?_⟩)
  | ((with_reducible show ∃ i, [V.int _] = [V.int i] ∧ _); refine ⟨_, rfl, ?_⟩)
  | dsimp only)
local macro_rules | `(tactic| walk_at "go") => `(tactic| repeat (walk_at "g1"))

theorem cutV_dropN {xs : List V} {k : Nat} (h : k ≤ xs.length) : cutV xs (some (k : Int)) none = xs.drop k := by
  unfold cutV HT.sIx
  show List.take (xs.length - (if (k : Int) < 0 then _ else min (k : Int).toNat xs.length)) (List.drop (if (k : Int) < 0 then _ else min (k : Int).toNat xs.length) xs) = _
  rw [if_neg (by omega), show min (k : Int).toNat xs.length = k by omega, List.take_of_length_le (by rw [List.length_drop]; omega)]
theorem atI_lastD {sg : List Str} (h : sg ≠ []) : atI (sg.map V.str) (-1) = some (.str (sg.getLastD Str.empty)) := by
  have e : sg = sg.dropLast ++ [sg.getLastD Str.empty] := by
    rw [List.getLastD_eq_getLast?, List.getLast?_eq_some_getLast h]
    exact (List.dropLast_concat_getLast h).symm
  generalize sg.getLastD Str.empty = la at e ⊢
  rw [e, List.map_append]
  exact atI_last _ _
theorem g_ifT {σ : St} {H : Hp} {D : Ends} {ct : TT} {t u : TS} (R : Bool → Hp → Prop) (h : ∀ QB : Bool → Hp → Prop, (∀ g H', R g H' → QB g H') → ct σ H QB) (h1 : ∀ H', R true H' → t D σ H') (h2 : ∀ H', R false H' → u D σ H') : tIfS ct t u D σ H :=
  h _ fun g H' r => by
    cases g with
    | true => rw [if_pos rfl]; exact h1 _ r
    | false => rw [if_neg Bool.false_ne_true]; exact h2 _ r
/-- the numbers that stand ahead of a word, as texts -/
def numsT (p : Int) : List Str := (List.range (p - 1).toNat).map fun (k : Nat) => numT (1 + (k : Int))
/-- what read_word tells -/
def readW (p : Int) (t : Str) : Option (Str × Int) :=
  let sg := Txt.split t (Str.ofString " ")
  if sg.length = 1 ∧ sg.headD Str.empty ∈ numsT p then some (Str.ofString "", (intText? (sg.headD Str.empty)).getD 0)
  else if sg.getLastD Str.empty = Str.ofString "" ∨ isSW (sg.getLastD Str.empty) = false ∨ 2 < sg.length then none
  else if sg.length = 1 then some (sg.headD Str.empty, 1)
  else if sg.headD Str.empty ∈ (numsT p).drop 1 then some (sg.getD 1 Str.empty, (intText? (sg.headD Str.empty)).getD 0) else none
/-- None or the pair -/
def PairV (H : Hp) (v : V) (o : Option (Str × Int)) : Prop := (o = none ∧ v = .non) ∨ ∃ (a : Addr) (u : Str) (n : Int), o = some (u, n) ∧ v = .ref a ∧ H a = some (.tup [.str u, .int n])
def sp_read_word : Sp := fun vs H Q _ => ∃ (p : Int) (t : Str), vs = [.int p, .str t] ∧ 2 ≤ p ∧ p ≤ 7 ∧ t.length ≤ 1000000 ∧ ∀ v H', Ex H H' → PairV H' v (readW p t) → Q v H'
theorem ok_read_word {f : Addr} {fd : FuncData} (F : Fun K "read_word" "read_word" s_read_word f fd) (T : Txt K mg C_Bag Cs) (D_is_short_word : DefOk P w K mg base CX0 2 "is_short_word" ["thing"] (sp_is_short_word K)) : FnOk P w K mg base CX0 3 f fd ["clock", "text"] sp_read_word := by
  refine F.ok sc_read_word (fun vs H Q E h => ?_) (fun cdv A outer s H vs Q E hr h => ?_)
  · obtain ⟨p, t, rfl, _⟩ := h
    rfl
  · obtain ⟨p, t, rfl, hp2, hp7, ht, k⟩ := h
    have hsl : (Str.ofString " ").length = 1 := by decide +kernel
    have hp1 := split_ne t (Str.ofString " ")
    have hple := PyProof.Rows.split_le t (Str.ofString " ")
    have hpart : ∀ u ∈ Txt.split t (Str.ofString " "), u.length ≤ t.length := fun u hu => split_part hu
    have hk : ∀ v H', Ex H H' → PairV H' v (readW p t) → Q v H' := k
    unfold readW at hk
    have hu := hu_of hr; have hu64 := L2.Room.units hr; refine ⟨_, (pss_cons (ps_set (i := 2) sc_read_word.nd rfl (by first | exact Or.inl rfl | exact Or.inr rfl) (pe_split (pv 1) pe_str)) (pss_cons (ps_setLc (i := 3) (own := [("number", 4)]) (g := (gName 4)) (tt := tYes) rfl sc_read_word.nd rfl rfl rfl (pi_range2 rfl T.b_range (pa_cons pe_int (pa_cons (pv 0) pa_nil))) (blkOk_by (N := N_read_word) (sc := defScope s_read_word) (by decide +kernel)) (fun _ _ _ _ _ => (pg_name (i := 4) sc_read_word.nd rfl (by first | exact Or.inl rfl | exact Or.inr rfl))) (fun _ _ _ _ _ => pts_nil) (fun _ _ _ _ _ => (pe_callTy call_str_int (by rfl) T.b_str (by decide +kernel) (pa_cons (pv 4) pa_nil)))) (pss_cons (ps_if (PW.pt (pw_and (pt_cmpR op_eq (pe_callB call_len_seq (by rfl) T.b_len (by decide +kernel) (pa_cons (pv 2) pa_nil)) pe_int (nomark _)) (pw_and1 (pt_cmpR op_in_seq (pe_ix (r := rIxL K) ix_list (pv 2) pe_int (fun _ _ => rfl)) (pv 3) (by rfl))))) (pss_one (ps_ret (pe_tup (pa_cons pe_str (pa_cons (pe_callTy call_int_str (by rfl) T.b_int (by decide +kernel) (pa_cons (pe_ix (r := rIxL K) ix_list (pv 2) pe_int (fun _ _ => rfl)) pa_nil)) pa_nil))))) pss_nil) (pss_cons (ps_if (PW.pt (pw_or (pt_cmpR op_eq (pe_ix (r := rIxL K) ix_list (pv 2) (pe_un un_neg pe_int) (fun _ _ => rfl)) pe_str (nomark _)) (pw_or (pt_not (pt_val (pe_callD D_is_short_word (hr.mono (by decide)) rfl pass0 (pa_cons (pe_ix (r := rIxL K) ix_list (pv 2) (pe_un un_neg pe_int) (fun _ _ => rfl)) pa_nil)))) (pw_or1 (pt_cmpR op_gt (pe_callB call_len_seq (by rfl) T.b_len (by decide +kernel) (pa_cons (pv 2) pa_nil)) pe_int (nomark _)))))) (pss_one (ps_ret pe_non)) pss_nil) (pss_cons (ps_if (pt_cmpR op_eq (pe_callB call_len_seq (by rfl) T.b_len (by decide +kernel) (pa_cons (pv 2) pa_nil)) pe_int (nomark _)) (pss_one (ps_ret (pe_tup (pa_cons (pe_ix (r := rIxL K) ix_list (pv 2) pe_int (fun _ _ => rfl)) (pa_cons pe_int pa_nil))))) pss_nil) (pss_one (ps_ret (pe_ifExp (pt_cmpR op_in_seq (pe_ix (r := rIxL K) ix_list (pv 2) pe_int (fun _ _ => rfl)) (pe_slice sl_list (pv 3) (po_some pe_int) po_none) (by rfl)) (pe_tup (pa_cons (pe_ix (r := rIxL K) ix_list (pv 2) pe_int (fun _ _ => rfl)) (pa_cons (pe_callTy call_int_str (by rfl) T.b_int (by decide +kernel) (pa_cons (pe_ix (r := rIxL K) ix_list (pv 2) pe_int (fun _ _ => rfl)) pa_nil)) pa_nil))) pe_non)))))))), ?_⟩; rw [st_read_word]; (try dsimp only [cxOf]); walk_at "go"
    refine ⟨⟨_, rfl⟩, ?_⟩
    walk_at "go"
    refine ⟨t, _, rfl, rfl, by rw [hsl]; rfl, Nat.le_trans (by omega : t.length + 2 ≤ 1000002) (by decide), fun q1 hq1 => ?_⟩
    generalize Txt.split t (Str.ofString " ") = sg at hp1 hple hpart hk hq1 ⊢
    have e1 : Ex H (upd H q1 (.lst (sg.map V.str))) := Ex.new hq1
    have hq1' := upd_same (H := H) (a := q1) (o := .lst (sg.map V.str))
    generalize upd H q1 (.lst (sg.map V.str)) = H1 at e1 hq1' ⊢
    obtain ⟨a0, r, rfl⟩ := List.exists_cons_of_ne_nil hp1
    have hat0 : atI ((a0 :: r).map V.str) 0 = some (.str a0) := atI_get (by decide) rfl
    have hatl : atI ((a0 :: r).map V.str) (-1) = some (.str ((a0 :: r).getLastD Str.empty)) := atI_lastD (by simp)
    have hlam : (a0 :: r).getLastD Str.empty ∈ a0 :: r := by
      rw [List.getLastD_eq_getLast?, List.getLast?_eq_some_getLast (by simp)]
      exact List.getLast_mem _
    have hk : ∀ v H', Ex H H' → PairV H' v (if (a0 :: r).length = 1 ∧ a0 ∈ numsT p then some (Str.ofString "", (intText? a0).getD 0)
          else if (a0 :: r).getLastD Str.empty = Str.ofString "" ∨ isSW ((a0 :: r).getLastD Str.empty) = false ∨ 2 < (a0 :: r).length then none
          else if (a0 :: r).length = 1 then some (a0, 1)
          else if a0 ∈ List.drop 1 (numsT p) then some ((a0 :: r).getD 1 Str.empty, (intText? a0).getD 0) else none) → Q v H' := hk
    generalize (a0 :: r).getLastD Str.empty = la at hatl hlam hk
    have hint : ∀ u ∈ numsT p, intText? u = some ((intText? u).getD 0) ∧ u.length ≤ 640 := fun u hu => by
      obtain ⟨j, hj, rfl⟩ := List.mem_map.mp hu
      have hj := List.mem_range.mp hj
      have e9 : (1 : Int) + (j : Int) = ((1 + j : Nat) : Int) := by omega
      refine ⟨?_, by rw [len_numT (by omega) (by omega)]; decide⟩
      rw [e9]
      unfold numT
      rw [TL.int_num (by rw [TL.numL_lt (by omega)]; show (1 : Nat) ≤ 4300; decide)]
      rfl
    walk_at "go"
    refine ⟨1, p, rfl, ⟨by decide, by decide, by omega, by omega⟩, ?_⟩
    have hnl : (numsT p).length = (p - 1).toNat := by unfold numsT; rw [List.length_map, List.length_range]
    refine lc_pure walk_range ((numsT p).map V.str) (by rw [List.length_map, hnl]) (Nat.le_trans (by omega : (p - 1).toNat ≤ 10) (by decide)) (fun _ _ => trivial) (fun _ => rfl) ?_ ?_
    · rintro i x y H2 H3 Kc hi e ⟨rfl, rfl⟩ hy hK
      unfold numsT at hy
      rw [List.getElem?_map, List.getElem?_map, List.getElem?_range hi] at hy
      cases hy
      walk_at "go"
      exact ⟨log_small (by omega) (by omega), hK _ (Ex.refl _)⟩
    · intro D H2 hD e2 hDl
      have hq2 := e2 _ _ hq1'
      have e12 := e1.trans e2
      refine g_name ?_
      dsimp only [List.set]
      refine g_seq ?_
      have one : decide (V.int (((a0 :: r).length : Nat) : Int) = V.int 1) = true ↔ (a0 :: r).length = 1 := by
        constructor
        · intro z
          have := of_decide_eq_true z
          injection this with this
          omega
        · intro z
          rw [z]
          rfl
      refine g_ifT (fun g H' => H2 = H' ∧ (g = true ↔ ((a0 :: r).length = 1 ∧ a0 ∈ numsT p))) (fun QB hQ => ?_) ?_ ?_
      · walk_at "go"
        refine ⟨q1, _, rfl, .inl (SqL.of hq2), ?_⟩
        rw [List.length_map]
        walk_at "go"
        refine g_ite (fun g1 => ?_) fun g1 => hQ _ _ ⟨rfl, fun z => Bool.noConfusion z, fun z => absurd (one.mpr z.1) (by rw [g1]; decide)⟩
        have g1' := one.mp g1
        walk_at "go"
        refine g_ixl (SqL.of hq2) hat0 ?_
        walk_at "go"
        refine ⟨D, _, rfl, .inl (SqL.of hDl), rfl, flat_strs _, ?_⟩
        rw [inV_str]
        walk_at "go"
        exact hQ _ _ ⟨rfl, fun z => ⟨g1', of_decide_eq_true z⟩, fun z => decide_eq_true z.2⟩
      · rintro H3 ⟨rfl, hg⟩
        have hg := hg.mp rfl
        have hi := hint a0 hg.2
        rw [if_pos hg] at hk
        walk_at "go"
        refine g_ixl (SqL.of hq2) hat0 ?_
        walk_at "go"
        refine ⟨a0, _, rfl, hi.1, hi.2, ?_⟩
        walk_at "go"
        refine ⟨Nat.le_of_ble_eq_true rfl, fun tp htp => ?_⟩
        exact hk _ _ (e12.trans (Ex.new htp)) (.inr ⟨tp, _, _, rfl, rfl, upd_same⟩)
      · rintro H3 ⟨rfl, hg⟩
        have hg : ¬ ((a0 :: r).length = 1 ∧ a0 ∈ numsT p) := fun z => Bool.noConfusion (hg.mpr z)
        rw [if_neg hg] at hk
        refine g_nxt ?_
        dsimp only
        refine g_seq ?_
        refine g_ifT (fun g H' => Ex H2 H' ∧ (g = true ↔ (la = Str.ofString "" ∨ isSW la = false ∨ 2 < (a0 :: r).length))) (fun QB hQ => ?_) ?_ ?_
        · walk_at "go"
          refine g_ixl (SqL.of hq2) hatl ?_
          walk_at "go"
          refine g_ite (fun g1 => hQ _ _ ⟨Ex.refl _, fun _ => .inl ?_, fun _ => rfl⟩) fun g1 => ?_
          · have := of_decide_eq_true g1
            injection this
          have n1 : la ≠ Str.ofString "" := fun z => of_decide_eq_false g1 (by rw [z])
          walk_at "go"
          refine g_ixl (SqL.of hq2) hatl ?_
          walk_at "go"
          refine ⟨_, isSW la, rfl, .inl ⟨la, rfl, Nat.le_trans (hpart la hlam) (by omega), rfl⟩, fun H4 e4 => ?_⟩
          walk_at "go"
          refine g_ite (fun g2 => hQ _ _ ⟨e4, fun _ => .inr (.inl ?_), fun _ => rfl⟩) fun g2 => ?_
          · cases hh : isSW la with
            | false => rfl
            | true => rw [hh] at g2; cases g2
          have n2 : isSW la ≠ false := fun z => by rw [z] at g2; cases g2
          walk_at "go"
          refine ⟨q1, _, rfl, .inl (SqL.of (e4 _ _ hq2)), ?_⟩
          rw [List.length_map]
          walk_at "go"
          refine hQ _ _ ⟨e4, fun z => .inr (.inr (by have := of_decide_eq_true z; omega)), fun z => ?_⟩
          rcases z with z | z | z
          · exact absurd z n1
          · exact absurd z n2
          · exact decide_eq_true (by omega)
        · rintro H4 ⟨e4, hg4⟩
          have hg4 := hg4.mp rfl
          rw [if_pos hg4] at hk
          walk_at "go"
          exact hk _ _ (e12.trans e4) (.inl ⟨rfl, rfl⟩)
        · rintro H4 ⟨e4, hg4⟩
          have hg4 : ¬ (la = Str.ofString "" ∨ isSW la = false ∨ 2 < (a0 :: r).length) := fun z => Bool.noConfusion (hg4.mpr z)
          rw [if_neg hg4] at hk
          have hq4 := e4 _ _ hq2
          have hD4 := e4 _ _ hDl
          refine g_nxt ?_
          dsimp only
          refine g_seq ?_
          refine g_ifT (fun g H' => H4 = H' ∧ (g = true ↔ (a0 :: r).length = 1)) (fun QB hQ => ?_) ?_ ?_
          · walk_at "go"
            refine ⟨q1, _, rfl, .inl (SqL.of hq4), ?_⟩
            rw [List.length_map]
            walk_at "go"
            exact hQ _ _ ⟨rfl, one⟩
          · rintro H5 ⟨rfl, hg5⟩
            have hg5 := hg5.mp rfl
            rw [if_pos hg5] at hk
            walk_at "go"
            refine g_ixl (SqL.of hq4) hat0 ?_
            walk_at "go"
            refine ⟨Nat.le_of_ble_eq_true rfl, fun tp htp => ?_⟩
            exact hk _ _ (e12.trans (e4.trans (Ex.new htp))) (.inr ⟨tp, _, _, rfl, rfl, upd_same⟩)
          · rintro H5 ⟨rfl, hg5⟩
            have hg5 : ¬ (a0 :: r).length = 1 := fun z => Bool.noConfusion (hg5.mpr z)
            rw [if_neg hg5] at hk
            have hl2 : (a0 :: r).length = 2 := by
              have h1 : ¬ 2 < (a0 :: r).length := fun z => hg4 (.inr (.inr z))
              have h2 : (a0 :: r).length = r.length + 1 := rfl
              omega
            obtain ⟨a1, rfl⟩ : ∃ a1, r = [a1] := by
              match r, hl2 with
              | [a1], _ => exact ⟨a1, rfl⟩
            refine g_nxt ?_
            dsimp only
            walk_at "go"
            refine ⟨D, _, rfl, SqL.of hD4, fun r5 hr5 => ?_⟩
            have ec : cutV ((numsT p).map V.str) (some 1) none = ((numsT p).drop 1).map V.str := by
              rw [List.map_drop]
              exact cutV_dropN (k := 1) (by rw [List.length_map, hnl]; omega)
            rw [ec]
            have e5 : Ex H4 (upd H4 r5 (.lst (((numsT p).drop 1).map V.str))) := Ex.new hr5
            have hr5' := upd_same (H := H4) (a := r5) (o := .lst (((numsT p).drop 1).map V.str))
            generalize upd H4 r5 (.lst (((numsT p).drop 1).map V.str)) = H5 at e5 hr5' ⊢
            have hq5 := e5 _ _ hq4
            walk_at "go"
            refine ⟨r5, _, rfl, .inl (SqL.of hr5'), rfl, flat_strs _, ?_⟩
            rw [inV_str]
            walk_at "go"
            refine g_ite (fun g6 => ?_) fun g6 => ?_
            · have g6' := of_decide_eq_true g6
              have hi := hint a0 (List.mem_of_mem_drop g6')
              rw [if_pos g6'] at hk
              walk_at "go"
              refine ⟨a0, _, rfl, hi.1, hi.2, ?_⟩
              walk_at "go"
              refine ⟨Nat.le_of_ble_eq_true rfl, fun tp htp => ?_⟩
              exact hk _ _ (e12.trans (e4.trans (e5.trans (Ex.new htp)))) (.inr ⟨tp, _, _, rfl, rfl, upd_same⟩)
            · have g6' := of_decide_eq_false g6
              rw [if_neg g6'] at hk
              walk_at "go"
              exact hk _ _ (e12.trans (e4.trans e5)) (.inl ⟨rfl, rfl⟩)

end
end Fp

namespace Fp
open PySem L2
section
variable {P : Program} {w : World} {K : PySem.W.Frag} {mg : Str → Option Value} {base : Heap} {C_Bag : Addr} {Cs : Addr → Prop}
local macro_rules | `(tactic| walk_at "hp") => `(tactic| first | assumption | rfl)
local macro_rules | `(tactic| walk_at "cond") => `(tactic| first | assumption | decide | omega | (unfold CMul; omega) | (refine ⟨?_, ?_⟩ <;> omega) | (unfold CDiv; omega) | (unfold CPow; omega))
local macro_rules | `(tactic| walk_at "g1") => `(tactic| first
  | with_reducible first
    | refine g_seq ?_ | refine g_asg ?_ | refine g_name ?_ | refine g_ret ?_ | refine g_retN ?_ | refine g_drop ?_ | refine g_ifs ?_
    | refine g_c ?_ | refine g_op ?_ | refine g_un ?_ | refine g_I0 ?_ | refine g_U ?_
    | refine g_test ?_ | refine g_tB ?_ | refine g_bl ?_ | refine g_and ?_ | refine g_or ?_ | refine g_not ?_
    | refine g_andV ?_ | refine g_orV ?_ | refine g_notV ?_ | refine g_if ?_ | refine g_nil ?_ | refine g_cons ?_ | refine g_cb ?_ | refine g_call ?_
    | refine g_lst ?_ | refine g_tup ?_ | refine g_itT ?_ | refine g_itF ?_ | refine g_itNT ?_ | refine g_itNF ?_ | refine g_lc ?_ | refine g_iStr ?_ | refine g_yes ?_ | refine g_exs ?_
    | refine g_chain ?_ | refine g_dget ?_ | refine g_dput ?_ | refine g_dget2 ?_ | refine g_dpop2 ?_ | refine g_fld ?_ | refine g_sfld ?_ | refine g_make ?_ | refine g_meth ?_
    | refine g_bm ?_ | refine g_kw ?_ | refine g_callS ?_ | refine g_revL ?_ | refine g_m1 ?_ | refine g_gsub ?_ | refine g_for ?_ | refine g_iList ?_ | refine g_iTup ?_ | refine g_iRng1 ?_ | refine g_iRng2 ?_ | refine g_sl ?_ | refine g_part ?_ | refine g_noPart ?_
    | refine g_exi ?_ | refine g_exr ?_ | refine g_dnew ?_ | refine g_disp ?_ | refine g_prs0 ?_ | refine g_prs ?_ | refine g_nxt ?_
  | ((with_reducible refine g_var (v := ?vv) ?gv ?_); (case gv => exact rfl))
  | ((with_reducible refine g_I ?gc ?_); (case gc => walk_at "cond"))
  | ((with_reducible refine g_eq ?ge ?_); (case ge => exact rfl))
  | ((with_reducible refine g_ne ?ge ?_); (case ge => exact rfl))
  | (refine g_ixl (SqL.of (by first | assumption | exact upd_same)) rfl ?_)
  | (refine g_setl (by first | assumption | exact upd_same) rfl ?_)
  | ((with_reducible show (∃ i, [V.int _] = [V.int i] ∧ _) ∨ _); refine Or.inl ⟨_, rfl, ?_⟩)
  | ((with_reducible show ∃ i, [V.int _] = [V.int i] ∧ _); refine ⟨_, rfl, ?_⟩)
  | dsimp only)
local macro_rules | `(tactic| walk_at "go") => `(tactic| repeat (walk_at "g1"))

theorem nums_val {p : Int} {u : Str} (hp : p ≤ 7) (hu : u ∈ numsT p) : 1 ≤ (intText? u).getD 0 ∧ (intText? u).getD 0 < p := by
  obtain ⟨j, hj, rfl⟩ := List.mem_map.mp hu
  have hj := List.mem_range.mp hj
  have e9 : (1 : Int) + (j : Int) = ((1 + j : Nat) : Int) := by omega
  have e : intText? (numT (1 + (j : Int))) = some (1 + (j : Int)) := by
    rw [e9]
    unfold numT
    exact TL.int_num (by rw [TL.numL_lt (by omega)]; show (1 : Nat) ≤ 4300; decide)
  rw [e]
  show 1 ≤ 1 + (j : Int) ∧ 1 + (j : Int) < p
  omega
/-- what is read of a piece is a word and a number of the clock -/
theorem readW_ok {p : Int} {t u : Str} {n : Int} (hp2 : 2 ≤ p) (hp : p ≤ 7) (h : readW p t = some (u, n)) : isSW u = true ∧ 1 ≤ n ∧ n < p := by
  unfold readW at h
  dsimp only at h
  have hne := split_ne t (Str.ofString " ")
  generalize Txt.split t (Str.ofString " ") = sg at h hne
  obtain ⟨a0, r, rfl⟩ := List.exists_cons_of_ne_nil hne
  split at h
  · rename_i h1
    cases h
    exact ⟨by decide +kernel, nums_val hp h1.2⟩
  · split at h
    · cases h
    · rename_i h2
      have hs : isSW ((a0 :: r).getLastD Str.empty) = true := by
        cases hh : isSW ((a0 :: r).getLastD Str.empty) with
        | true => rfl
        | false => exact absurd (.inr (.inl hh)) h2
      have h3 : ¬ 2 < (a0 :: r).length := fun z => h2 (.inr (.inr z))
      split at h
      · rename_i h4
        obtain rfl : r = [] := List.length_eq_zero_iff.mp (by have : (a0 :: r).length = r.length + 1 := rfl; omega)
        cases h
        exact ⟨hs, by omega, by omega⟩
      · rename_i h4
        split at h
        · rename_i h5
          obtain ⟨a1, rfl⟩ : ∃ a1, r = [a1] := by
            match r, h3, h4 with
            | [], _, h4 => exact absurd rfl h4
            | [a1], _, _ => exact ⟨a1, rfl⟩
            | a :: b :: c, h3, _ => exact absurd (by show 2 < c.length + 1 + 1 + 1; omega) h3
          cases h
          exact ⟨hs, nums_val hp (List.mem_of_mem_drop h5)⟩
        · cases h
/-- what read_words tells -/
def foldR (p : Int) : Bg → List Str → Option Bg
  | acc, [] => some acc
  | acc, t :: r => match readW p t with
    | none => none
    | some kv => if kv.1 ∈ keys acc ∨ acc.length = 300 then none else foldR p (acc ++ [kv]) r
theorem foldR_app (p : Int) : ∀ (l m : List Str) (acc : Bg), foldR p acc (l ++ m) = (foldR p acc l).bind fun b => foldR p b m
  | [], m, acc => rfl
  | t :: r, m, acc => by
    rw [List.cons_append, foldR.eq_2, foldR.eq_2]
    cases readW p t with
    | none => rfl
    | some kv =>
      dsimp only
      split
      · rfl
      · exact foldR_app p r m _
def readWs (p : Int) (t : Str) : Option Bg := if t = Str.ofString "0" then some [] else foldR p [] (Txt.split t (Str.ofString " + "))
/-- a lot that was read -/
def RdOk (p : Int) (l : Bg) : Prop := (keys l).Nodup ∧ l.length ≤ 300 ∧ ∀ kv ∈ l, isSW kv.1 = true ∧ 1 ≤ kv.2 ∧ kv.2 < p
theorem foldR_ok {p : Int} (hp2 : 2 ≤ p) (hp : p ≤ 7) : ∀ {ts : List Str} {acc l : Bg}, RdOk p acc → foldR p acc ts = some l → RdOk p l
  | [], acc, l, ha, h => by
    cases h
    exact ha
  | t :: r, acc, l, ha, h => by
    unfold foldR at h
    cases hr : readW p t with
    | none => rw [hr] at h; cases h
    | some kv =>
      rw [hr] at h
      dsimp only at h
      split at h
      · cases h
      · rename_i hn
        obtain ⟨u, n⟩ := kv
        have ok := readW_ok hp2 hp hr
        refine foldR_ok hp2 hp ⟨?_, ?_, fun kv hkv => ?_⟩ h
        · unfold keys
          rw [List.map_append, List.nodup_append]
          refine ⟨ha.1, by simp, fun x hx y hy z => hn (.inl ?_)⟩
          have : y = u := List.mem_singleton.mp hy
          rw [← this, ← z]
          exact hx
        · rw [List.length_append]
          have : ¬ acc.length = 300 := fun z => hn (.inr z)
          have := ha.2.1
          show acc.length + 1 ≤ 300
          omega
        · rcases List.mem_append.mp hkv with q | q
          · exact ha.2.2 kv q
          · rw [List.mem_singleton.mp q]
            exact ok
theorem readWs_ok {p : Int} {t : Str} {l : Bg} (hp2 : 2 ≤ p) (hp : p ≤ 7) (h : readWs p t = some l) : RdOk p l := by
  unfold readWs at h
  split at h
  · cases h
    exact ⟨by unfold keys; simp, by decide, by simp⟩
  · exact foldR_ok (acc := []) hp2 hp ⟨by unfold keys; simp, by decide, by simp⟩ h
/-- None or the dict -/
def DictV (H : Hp) (v : V) (o : Option Bg) : Prop := (o = none ∧ v = .non) ∨ ∃ (d : Addr) (l : Bg), o = some l ∧ v = .ref d ∧ H d = some (.dK (toK l))
theorem g_din {ty td : TE} {σ : L2.St} {H : Hp} {Q : VK} (h : ty σ H fun y H1 => td σ H1 fun x H2 => ∃ a o, x = .ref a ∧ DGet H2 a y o ∧ Q (.bl o.isSome) H2) : tDIn ty td σ H Q := h
def sp_read_words : Sp := fun vs H Q _ => ∃ (p : Int) (t : Str), vs = [.int p, .str t] ∧ 2 ≤ p ∧ p ≤ 7 ∧ t.length ≤ 1000000 ∧ ∀ v H', Ex H H' → DictV H' v (readWs p t) → Q v H'
theorem ok_read_words {f : Addr} {fd : FuncData} (F : Fun K "read_words" "read_words" s_read_words f fd) (T : Txt K mg C_Bag Cs) (D_read_word : DefOk P w K mg base CX0 3 "read_word" ["clock", "text"] sp_read_word) : FnOk P w K mg base CX0 4 f fd ["clock", "text"] sp_read_words := by
  refine F.ok sc_read_words (fun vs H Q E h => ?_) (fun cdv A outer s H vs Q E hr h => ?_)
  · obtain ⟨p, t, rfl, _⟩ := h
    rfl
  · obtain ⟨p, t, rfl, hp2, hp7, ht, k⟩ := h
    have hsl : (Str.ofString " + ").length = 3 := by decide +kernel
    have hple := PyProof.Rows.split_le t (Str.ofString " + ")
    have hpart : ∀ u ∈ Txt.split t (Str.ofString " + "), u.length ≤ t.length := fun u hu => split_part hu
    unfold readWs at k
    obtain ⟨tk0, T_MOST_WORDS⟩ := T.g_MOST_WORDS
    have hu := hu_of hr; have hu64 := L2.Room.units hr; refine ⟨_, (pss_cons (ps_if (pt_cmpR op_eq (pv 1) pe_str (nomark _)) (pss_one (ps_ret pe_dnewK)) pss_nil) (pss_cons (ps_set (i := 2) sc_read_words.nd rfl (by first | exact Or.inl rfl | exact Or.inr rfl) pe_dnewK) (pss_cons (ps_for PassesOwn.never rfl (pi_list (pe_split (pv 1) pe_str)) (pg_name (i := 3) sc_read_words.nd rfl (by first | exact Or.inl rfl | exact Or.inr rfl)) (pss_cons (ps_set (i := 4) sc_read_words.nd rfl (by first | exact Or.inl rfl | exact Or.inr rfl) (pe_callD D_read_word (hr.mono (by decide)) rfl pass0 (pa_cons (pv 0) (pa_cons (pv 3) pa_nil)))) (pss_cons (ps_if (PW.pt (pw_or (pt_cmpR op_isN (pv 4) pe_non (nomark _)) (pw_or (pt_cmp (pc_din hu (pe_ix (r := rIxT K) ix_tup (pv 4) pe_int (fun _ _ => rfl)) (pv 2))) (pw_or1 (pt_cmpR op_eq (pe_callB call_lenD (by rfl) T.b_len (by decide +kernel) (pa_cons (pv 2) pa_nil)) (pe_glob (v := .int 300) rfl T_MOST_WORDS ⟨_, rfl⟩) (nomark _)))))) (pss_one (ps_ret pe_non)) pss_nil) (pss_one (ps_dput hu (pv 2) (pe_ix (r := rIxT K) ix_tup (pv 4) pe_int (fun _ _ => rfl)) (pe_ix (r := rIxT K) ix_tup (pv 4) pe_int (fun _ _ => rfl)) rfl))))) (pss_one (ps_ret (pv 2)))))), ?_⟩; rw [st_read_words]; (try dsimp only [cxOf]); walk_at "go"
    refine g_ite (fun g1 => ?_) fun g1 => ?_
    · have g1' : t = Str.ofString "0" := by
        have := of_decide_eq_true g1
        injection this
      rw [if_pos g1'] at k
      walk_at "go"
      intro d hd
      exact k _ _ (Ex.new hd) (.inr ⟨d, [], rfl, rfl, upd_same⟩)
    · have g1' : t ≠ Str.ofString "0" := fun z => of_decide_eq_false g1 (by rw [z])
      rw [if_neg g1'] at k
      walk_at "go"
      intro d hd
      have e1 : Ex H (upd H d (.dK (toK []))) := Ex.new hd
      have hd1 := upd_same (H := H) (a := d) (o := .dK (toK []))
      have hz : (upd H d (.dK [])) = upd H d (.dK (toK [])) := rfl
      rw [hz]
      generalize upd H d (.dK (toK [])) = H1 at e1 hd1 ⊢
      walk_at "go"
      refine ⟨⟨_, rfl⟩, ?_⟩
      walk_at "go"
      refine ⟨t, _, rfl, rfl, by rw [hsl]; rfl, Nat.le_trans (by omega : t.length + 2 ≤ 1000002) (by decide), fun q1 hq1 => ?_⟩
      generalize Txt.split t (Str.ofString " + ") = sg at hple hpart k hq1 ⊢
      have e2 : Ex H1 (upd H1 q1 (.lst (sg.map V.str))) := Ex.new hq1
      have hq1' := upd_same (H := H1) (a := q1) (o := .lst (sg.map V.str))
      have hqd : q1 ≠ d := (ne_of_none hd1 hq1).symm
      have hd2 := e2 _ _ hd1
      generalize upd H1 q1 (.lst (sg.map V.str)) = H2 at e2 hq1' hd2 ⊢
      walk_at "go"
      have e12 := e1.trans e2
      refine ⟨⟨_, SqL.of hq1'⟩, ?_⟩
      refine forG (walk_list (xs := sg.map V.str)) (fun i σ' H' => ∃ y3 y4 acc, σ' = [some (.int p), some (.str t), some (.ref d), y3, y4] ∧ Ex H H' ∧ H' q1 = some (.lst (sg.map V.str)) ∧ H' d = some (.dK (toK acc)) ∧ foldR p [] (sg.take i) = some acc) ⟨none, none, [], rfl, e12, hq1', hd2, rfl⟩ (fun i σ' H' _ ⟨_, _, _, _, _, h, _⟩ => SqL.of h) ?_ ?_
      · rintro i z σ' H3' H3 hi ⟨y3, y4, acc, rfl, e3, hq3, hd3, hf⟩ ⟨rfl, hz⟩
        rw [List.length_map] at hi
        obtain ⟨u, hu⟩ : ∃ u, sg[i]? = some u := ⟨_, List.getElem?_eq_getElem hi⟩
        obtain rfl : z = .str u := by
          have hz : (sg.map V.str)[i]? = some z := hz
          rw [List.getElem?_map, hu] at hz
          exact (Option.some.inj hz).symm
        have hsp : sg = sg.take i ++ u :: sg.drop (i + 1) := by
          have h1 : sg.drop i = u :: sg.drop (i + 1) := by
            obtain ⟨hl, h2⟩ := List.getElem?_eq_some_iff.mp hu
            rw [List.drop_eq_getElem_cons hl, h2]
          rw [← h1, List.take_append_drop]
        have hwhole : foldR p [] sg = foldR p acc (u :: sg.drop (i + 1)) := by
          rw [hsp, foldR_app, ← hsp, hf]
          rfl
        rw [foldR.eq_2] at hwhole
        have hnext : ∀ kv, readW p u = some kv → ¬ (kv.1 ∈ keys acc ∨ acc.length = 300) → foldR p [] (sg.take (i + 1)) = some (acc ++ [kv]) := fun kv h1 h2 => by
          rw [List.take_succ, hu]
          show foldR p [] (sg.take i ++ [u]) = _
          rw [foldR_app, hf]
          show foldR p acc [u] = _
          rw [foldR.eq_2, h1]
          dsimp only
          rw [if_neg h2]
          rfl
        have hok := foldR_ok (acc := []) hp2 hp7 ⟨by unfold keys; simp, by decide, by simp⟩ hf
        walk_at "go"
        refine ⟨p, u, rfl, hp2, hp7, Nat.le_trans (hpart u (List.mem_of_getElem? hu)) ht, fun v H4 e4 hv => ?_⟩
        have hq4 := e4 _ _ hq3
        have hd4 := e4 _ _ hd3
        walk_at "go"
        rcases hv with ⟨hn, rfl⟩ | ⟨a, u1, n, hs, rfl, ha⟩
        · rw [hn] at hwhole
          refine ⟨rfl, _, rfl, ?_⟩
          rw [decide_eq_true rfl, if_pos rfl, if_pos rfl]
          walk_at "go"
          exact k _ _ (e3.trans e4) (.inl ⟨hwhole, rfl⟩)
        · rw [hs] at hwhole
          have ok := readW_ok hp2 hp7 hs
          refine ⟨rfl, _, rfl, ?_⟩
          rw [decide_eq_false (fun z => nomatch z), if_neg Bool.false_ne_true]
          walk_at "go"
          refine g_din ?_
          walk_at "go"
          refine g_ixt (SqT.of ha) rfl ?_
          walk_at "go"
          refine ⟨d, _, rfl, .inl ⟨_, .inr u1, .inl hd4, rfl, rfl⟩, ?_⟩
          have eb : (valV (toK acc) (Sum.inr u1 : Key)).isSome = decide (u1 ∈ keys acc) := by
            rw [valV_toK]
            cases hg : getS acc u1 with
            | none => rw [decide_eq_false (getS_none.mp hg)]; rfl
            | some m => rw [decide_eq_true (mem_keys.mpr ⟨m, getS_mem hg⟩)]; rfl
          rw [eb]
          dsimp only at hwhole
          walk_at "go"
          refine g_ite (fun g5 => ?_) fun g5 => ?_
          · rw [if_pos (.inl (of_decide_eq_true g5))] at hwhole
            rw [if_pos rfl]
            walk_at "go"
            exact k _ _ (e3.trans e4) (.inl ⟨hwhole, rfl⟩)
          · have n5 := of_decide_eq_false g5
            walk_at "go"
            refine ⟨d, _, rfl, hd4, ?_⟩
            rw [toK_len]
            walk_at "go"
            refine g_ite (fun g6 => ?_) fun g6 => ?_
            · have g6' : acc.length = 300 := by
                have := of_decide_eq_true g6
                injection this with this
                omega
              rw [if_pos (.inr g6')] at hwhole
              try rw [if_pos rfl]
              walk_at "go"
              exact k _ _ (e3.trans e4) (.inl ⟨hwhole, rfl⟩)
            · have n6 : ¬ acc.length = 300 := fun z => of_decide_eq_false g6 (by rw [z]; rfl)
              walk_at "go"
              refine g_ixt (SqT.of ha) rfl ?_
              walk_at "go"
              refine g_ixt (SqT.of ha) rfl ?_
              have hput : putS acc u1 n = acc ++ [(u1, n)] := by
                unfold putS
                rw [getS_any, getS_none.mpr n5]
                rfl
              refine g_dp hd4 (Nat.lt_of_le_of_lt hok.2.1 (by decide)) ?_
              rw [hput]
              exact ⟨_, _, acc ++ [(u1, n)], rfl, Ex.mut (e3.trans e4) hd, by rw [upd_ne hqd]; exact hq4, upd_same, hnext (u1, n) hs fun z => z.elim n5 n6⟩
      · rintro σ' H3 ⟨y3, y4, acc, rfl, e3, hq3, hd3, hf⟩
        rw [List.length_map, List.take_length] at hf
        walk_at "go"
        exact k _ _ e3 (.inr ⟨d, acc, hf, rfl, hd3⟩)

end
end Fp

/-! texts of one piece; numbers as texts -/
namespace Fp
open PySem TL L2
theorem split_one {t s a : Str} (h : Txt.split t s = [a]) : a = t := by
  have e := PySem.StrLaws.join_split t s
  rw [h] at e
  refine ext_tl ?_
  have e2 := congrArg tl e
  rw [tl_join] at e2
  exact e2
theorem split_num {n : Int} (h1 : 1 ≤ n) (h9 : n ≤ 9) : Txt.split (numT n) (Str.ofString " ") = [numT n] := by
  have h := split_piece (kv := (Str.ofString "", n)) ⟨by rw [tl_empty]; exact (fun c hc => nomatch hc), h1, h9⟩
  unfold pieceT at h
  rw [if_pos rfl] at h
  rw [if_pos rfl] at h
  exact h
theorem int_numT {n : Int} (h0 : 0 ≤ n) (h9 : n ≤ 9) : intText? (numT n) = some n := by
  obtain ⟨m, rfl⟩ := Int.eq_ofNat_of_zero_le h0
  unfold numT
  exact int_num (by rw [numL_lt (by omega)]; show (1 : Nat) ≤ 4300; decide)
theorem numT_inj {n m : Int} (h0 : 0 ≤ n) (h9 : n ≤ 9) (g0 : 0 ≤ m) (g9 : m ≤ 9) (h : numT n = numT m) : n = m := by
  have h1 := int_numT h0 h9
  rw [h, int_numT g0 g9] at h1
  exact (Option.some.inj h1).symm
theorem len_lt1 {x : Str} (h : x.length < 1) : x = Str.ofString "" := ext_tl (by
  rw [tl_empty]
  exact List.eq_nil_of_length_eq_zero (by show x.cps.toList.length = 0; have : x.cps.toList.length = x.length := Array.length_toList; omega))
end Fp

namespace Fp
open PySem L2
section
variable {P : Program} {w : World} {K : PySem.W.Frag} {mg : Str → Option Value} {base : Heap} {C_Bag : Addr} {Cs : Addr → Prop}
local macro_rules | `(tactic| walk_at "hp") => `(tactic| first | assumption | rfl)
local macro_rules | `(tactic| walk_at "cond") => `(tactic| first | assumption | decide | omega | (unfold CMul; omega) | (refine ⟨?_, ?_⟩ <;> omega) | (unfold CDiv; omega) | (unfold CPow; omega))
local macro_rules | `(tactic| walk_at "g1") => `(tactic| first
  | with_reducible first
    | refine g_seq ?_ | refine g_asg ?_ | refine g_name ?_ | refine g_ret ?_ | refine g_retN ?_ | refine g_drop ?_ | refine g_ifs ?_
    | refine g_c ?_ | refine g_op ?_ | refine g_un ?_ | refine g_I0 ?_ | refine g_U ?_
    | refine g_test ?_ | refine g_tB ?_ | refine g_bl ?_ | refine g_and ?_ | refine g_or ?_ | refine g_not ?_
    | refine g_andV ?_ | refine g_orV ?_ | refine g_notV ?_ | refine g_if ?_ | refine g_nil ?_ | refine g_cons ?_ | refine g_cb ?_ | refine g_call ?_
    | refine g_lst ?_ | refine g_tup ?_ | refine g_itT ?_ | refine g_itF ?_ | refine g_itNT ?_ | refine g_itNF ?_ | refine g_lc ?_ | refine g_iStr ?_ | refine g_yes ?_ | refine g_exs ?_
    | refine g_chain ?_ | refine g_dget ?_ | refine g_dput ?_ | refine g_dget2 ?_ | refine g_dpop2 ?_ | refine g_fld ?_ | refine g_sfld ?_ | refine g_make ?_ | refine g_meth ?_
    | refine g_bm ?_ | refine g_kw ?_ | refine g_callS ?_ | refine g_revL ?_ | refine g_m1 ?_ | refine g_gsub ?_ | refine g_for ?_ | refine g_iList ?_ | refine g_iTup ?_ | refine g_iRng1 ?_ | refine g_iRng2 ?_ | refine g_sl ?_ | refine g_part ?_ | refine g_noPart ?_
    | refine g_exi ?_ | refine g_exr ?_ | refine g_dnew ?_ | refine g_disp ?_ | refine g_prs0 ?_ | refine g_prs ?_ | refine g_nxt ?_
  | ((with_reducible refine g_var (v := ?vv) ?gv ?_); (case gv => exact rfl))
  | ((with_reducible refine g_I ?gc ?_); (case gc => walk_at "cond"))
  | ((with_reducible refine g_eq ?ge ?_); (case ge => exact rfl))
  | ((with_reducible refine g_ne ?ge ?_); (case ge => exact rfl))
  | (refine g_ixl (SqL.of (by first | assumption | exact upd_same)) rfl ?_)
  | (refine g_setl (by first | assumption | exact upd_same) rfl ?_)
  | ((with_reducible show (∃ i, [V.int _] = [V.int i] ∧ _) ∨ _); refine Or.inl ⟨_, rfl, ?_⟩)
  | ((with_reducible show ∃ i, [V.int _] = [V.int i] ∧ _); refine ⟨_, rfl, ?_⟩)
  | dsimp only)
local macro_rules | `(tactic| walk_at "go") => `(tactic| repeat (walk_at "g1"))

theorem mem_nums {p : Int} {u : Str} : u ∈ numsT p ↔ ∃ n : Int, 1 ≤ n ∧ n < p ∧ u = numT n := by
  unfold numsT
  rw [List.mem_map]
  constructor
  · rintro ⟨j, hj, rfl⟩
    have hj := List.mem_range.mp hj
    exact ⟨1 + (j : Int), by omega, by omega, rfl⟩
  · rintro ⟨n, h1, h2, rfl⟩
    exact ⟨(n - 1).toNat, List.mem_range.mpr (by omega), by rw [show (1 : Int) + ((n - 1).toNat : Int) = n by omega]⟩
theorem mem_nums1 {p : Int} {u : Str} : u ∈ (numsT p).drop 1 ↔ ∃ n : Int, 2 ≤ n ∧ n < p ∧ u = numT n := by
  constructor
  · intro h
    unfold numsT at h
    rw [← List.map_drop, List.mem_map] at h
    obtain ⟨j, hj, rfl⟩ := h
    obtain ⟨i, hi, hj⟩ := List.getElem_of_mem hj
    rw [List.getElem_drop, List.getElem_range] at hj
    have hl := hi
    rw [List.length_drop, List.length_range] at hl
    exact ⟨1 + (j : Int), by omega, by omega, rfl⟩
  · rintro ⟨n, h1, h2, rfl⟩
    unfold numsT
    rw [← List.map_drop, List.mem_map]
    refine ⟨(n - 1).toNat, ?_, by rw [show (1 : Int) + ((n - 1).toNat : Int) = n by omega]⟩
    rw [List.mem_iff_getElem?]
    refine ⟨(n - 2).toNat, ?_⟩
    rw [List.getElem?_drop, List.getElem?_range (by omega)]
    congr 1
    omega
theorem readW_num {p n : Int} (hp : p ≤ 7) (h1 : 1 ≤ n) (h2 : n < p) : readW p (numT n) = some (Str.ofString "", n) := by
  unfold readW
  rw [split_num h1 (by omega)]
  dsimp only
  rw [if_pos ⟨rfl, mem_nums.mpr ⟨n, h1, h2, rfl⟩⟩]
  show some (Str.ofString "", (intText? (numT n)).getD 0) = _
  rw [int_numT (by omega) (by omega)]
  rfl
/-- what is read of a text that is no number of the clock -/
def restW (p : Int) (sg : List Str) : Option (Str × Int) :=
  if sg.getLastD Str.empty = Str.ofString "" ∨ isSW (sg.getLastD Str.empty) = false ∨ 2 < sg.length then none
  else if sg.length = 1 then some (sg.headD Str.empty, 1)
  else if sg.headD Str.empty ∈ (numsT p).drop 1 then some (sg.getD 1 Str.empty, (intText? (sg.headD Str.empty)).getD 0) else none
theorem readW_rest {p : Int} {t : Str} (h : ∀ n : Int, 1 ≤ n → n < p → t ≠ numT n) : readW p t = restW p (Txt.split t (Str.ofString " ")) := by
  unfold readW restW
  dsimp only
  rw [if_neg]
  rintro ⟨hl, hm⟩
  obtain ⟨n, h1, h2, e⟩ := mem_nums.mp hm
  obtain ⟨a, ha⟩ := List.length_eq_one_iff.mp hl
  rw [ha] at e
  have e' : a = numT n := e
  exact h n h1 h2 ((split_one ha).symm.trans e')
theorem restW_none {p : Int} {sg : List Str} (h : sg.getLastD Str.empty = Str.ofString "" ∨ isSW (sg.getLastD Str.empty) = false) : restW p sg = none := by
  unfold restW
  rw [if_pos (h.elim .inl fun h => .inr (.inl h))]
theorem restW_one {p : Int} {a : Str} (h1 : a ≠ Str.ofString "") (h2 : isSW a = true) : restW p [a] = some (a, 1) := by
  unfold restW
  rw [if_neg, if_pos (show [a].length = 1 from rfl)]
  · rfl
  · rintro (h | h | h)
    · exact h1 h
    · have h : isSW a = false := h
      rw [h2] at h
      cases h
    · exact absurd h (by simp)
theorem restW_two {p n : Int} {a b : Str} (hp : p ≤ 7) (h1 : b ≠ Str.ofString "") (h2 : isSW b = true) (hn : 2 ≤ n) (hn2 : n < p) (ha : a = numT n) : restW p [a, b] = some (b, n) := by
  unfold restW
  rw [if_neg, if_neg (by simp), if_pos (show [a, b].headD Str.empty ∈ List.drop 1 (numsT p) from mem_nums1.mpr ⟨n, hn, hn2, ha⟩)]
  · show some (b, (intText? a).getD 0) = _
    rw [ha, int_numT (by omega) (by omega)]
    rfl
  · rintro (h | h | h)
    · exact h1 h
    · have h : isSW b = false := h
      rw [h2] at h
      cases h
    · exact absurd h (by simp)
theorem restW_not {p : Int} {sg : List Str} (h1 : sg.length ≠ 1) (h : ∀ n : Int, 2 ≤ n → n < p → ¬ (sg.length = 2 ∧ sg.headD Str.empty = numT n)) : restW p sg = none := by
  unfold restW
  split
  · rfl
  · rename_i g
    try rw [if_neg h1]
    rw [if_neg]
    intro hm
    obtain ⟨n, h2, h3, e⟩ := mem_nums1.mp hm
    refine h n h2 h3 ⟨?_, e⟩
    have g1 : ¬ 2 < sg.length := fun z => g (.inr (.inr z))
    have g2 : sg.length ≠ 0 := fun z => g (.inl (by rw [List.eq_nil_of_length_eq_zero z]; decide +kernel))
    omega
theorem ok_law_word_told {f : Addr} {fd : FuncData} (F : Fun K "_law_word_told" "_law_word_told" s_law_word_told f fd) (T : Txt K mg C_Bag Cs) : FnOk P w K mg base CX0 1 f fd ["_law_clock_here", "_law_text"] sp_read_word := by
  refine F.ok sc_law_word_told (fun vs H Q E h => ?_) (fun cdv A outer s H vs Q E hr h => ?_)
  · obtain ⟨p, t, rfl, _⟩ := h
    rfl
  · obtain ⟨p, t, rfl, hp2, hp7, ht, k⟩ := h
    have hsl : (Str.ofString " ").length = 1 := by decide +kernel
    have hp1 := split_ne t (Str.ofString " ")
    have hple := PyProof.Rows.split_le t (Str.ofString " ")
    have hpart : ∀ u ∈ Txt.split t (Str.ofString " "), u.length ≤ t.length := fun u hu => split_part hu
    have hu := hu_of hr; have hu64 := L2.Room.units hr; refine ⟨_, (pss_cons (ps_set (i := 2) sc_law_word_told.nd rfl (by first | exact Or.inl rfl | exact Or.inr rfl) (pe_split (pv 1) pe_str)) (pss_cons (ps_for PassesOwn.never rfl (pi_range2 rfl T.b_range (pa_cons pe_int (pa_cons (pv 0) pa_nil))) (pg_name (i := 3) sc_law_word_told.nd rfl (by first | exact Or.inl rfl | exact Or.inr rfl)) (pss_one (ps_if (pt_cmpR op_eq (pv 1) (pe_callTy call_str_int (by rfl) T.b_str (by decide +kernel) (pa_cons (pv 3) pa_nil)) (nomark _)) (pss_one (ps_ret (pe_tup (pa_cons pe_str (pa_cons (pv 3) pa_nil))))) pss_nil))) (pss_cons (ps_set (i := 4) sc_law_word_told.nd rfl (by first | exact Or.inl rfl | exact Or.inr rfl) (pe_ix (r := rIxL K) ix_list (pv 2) (pe_un un_neg pe_int) (fun _ _ => rfl))) (pss_cons (ps_if (PW.pt (pw_or (pt_cmpR op_lt (pe_callB call_len_str (by rfl) T.b_len (by decide +kernel) (pa_cons (pv 4) pa_nil)) pe_int (nomark _)) (pw_or (pt_cmpR op_gt (pe_callB call_len_str (by rfl) T.b_len (by decide +kernel) (pa_cons (pv 4) pa_nil)) pe_int (nomark _)) (pw_or1 (pt_cmpR op_gt (pe_callB call_len_seq (by rfl) T.b_len (by decide +kernel) (pa_cons (pe_lc (own := [("_law_sign", 5)]) (g := (gName 5)) rfl sc_law_word_told.nd (pi_str (pv 4)) (blkOk_by (N := N_law_word_told) (sc := defScope s_law_word_told) (by decide +kernel)) (fun _ _ _ _ _ => (pg_name (i := 5) sc_law_word_told.nd rfl (by first | exact Or.inl rfl | exact Or.inr rfl))) (fun _ _ _ _ _ => (pts_one (pt_cmpR op_notIn_sign (pv 5) pe_str (by rfl)))) (fun _ _ _ _ _ => (pv 5))) pa_nil)) pe_int (nomark _)))))) (pss_one (ps_ret pe_non)) pss_nil) (pss_cons (ps_if (pt_cmpR op_eq (pe_callB call_len_seq (by rfl) T.b_len (by decide +kernel) (pa_cons (pv 2) pa_nil)) pe_int (nomark _)) (pss_one (ps_ret (pe_tup (pa_cons (pv 4) (pa_cons pe_int pa_nil))))) pss_nil) (pss_cons (ps_for PassesOwn.never rfl (pi_range2 rfl T.b_range (pa_cons pe_int (pa_cons (pv 0) pa_nil))) (pg_name (i := 3) sc_law_word_told.nd rfl (by first | exact Or.inl rfl | exact Or.inr rfl)) (pss_one (ps_if (PW.pt (pw_and (pt_cmpR op_eq (pe_callB call_len_seq (by rfl) T.b_len (by decide +kernel) (pa_cons (pv 2) pa_nil)) pe_int (nomark _)) (pw_and1 (pt_cmpR op_eq (pe_ix (r := rIxL K) ix_list (pv 2) pe_int (fun _ _ => rfl)) (pe_callTy call_str_int (by rfl) T.b_str (by decide +kernel) (pa_cons (pv 3) pa_nil)) (nomark _))))) (pss_one (ps_ret (pe_tup (pa_cons (pv 4) (pa_cons (pv 3) pa_nil))))) pss_nil))) (pss_one (ps_ret pe_non)))))))), ?_⟩; rw [st_law_word_told]; (try dsimp only [cxOf]); walk_at "go"
    refine ⟨⟨_, rfl⟩, ?_⟩
    walk_at "go"
    refine ⟨t, _, rfl, rfl, by rw [hsl]; rfl, Nat.le_trans (by omega : t.length + 2 ≤ 1000002) (by decide), fun q1 hq1 => ?_⟩
    have hlam : (Txt.split t (Str.ofString " ")).getLastD Str.empty ∈ Txt.split t (Str.ofString " ") := by
      rw [List.getLastD_eq_getLast?, List.getLast?_eq_some_getLast hp1]
      exact List.getLast_mem _
    have hla := hpart _ hlam
    have hrest := readW_rest (p := p) (t := t)
    have e1 : Ex H (upd H q1 (.lst ((Txt.split t (Str.ofString " ")).map V.str))) := Ex.new hq1
    have hq1' := upd_same (H := H) (a := q1) (o := .lst ((Txt.split t (Str.ofString " ")).map V.str))
    generalize upd H q1 (.lst ((Txt.split t (Str.ofString " ")).map V.str)) = H1 at e1 hq1' ⊢
    generalize Txt.split t (Str.ofString " ") = sg at hp1 hple hpart hrest hlam hla e1 hq1' ⊢
    walk_at "go"
    refine ⟨1, p, rfl, ⟨by decide, by decide, by omega, by omega⟩, ?_⟩
    refine forG walk_range (fun i σ' H' => H' = H1 ∧ (∃ y3, σ' = [some (.int p), some (.str t), some (.ref q1), y3, none, none]) ∧ ∀ n : Int, 1 ≤ n → n < 1 + i → t ≠ numT n) ⟨rfl, ⟨none, rfl⟩, fun n h1 h2 => by omega⟩ (fun _ _ _ _ _ => trivial) ?_ ?_
    · rintro i z σ' H2 H3 hi ⟨rfl, ⟨y3, rfl⟩, hno⟩ ⟨rfl, rfl⟩
      walk_at "go"
      refine ⟨log_small (by omega) (by omega), ?_⟩
      walk_at "go"
      refine g_ite (fun g1 => ?_) fun g1 => ?_
      · have g1' : t = numT (1 + (i : Int)) := by
          have := of_decide_eq_true g1
          injection this
        walk_at "go"
        refine ⟨Nat.le_of_ble_eq_true rfl, fun tp htp => ?_⟩
        exact k _ _ (e1.trans (Ex.new htp)) (.inr ⟨tp, _, _, by rw [g1']; exact readW_num hp7 (by omega) (by omega), rfl, upd_same⟩)
      · have g1' : t ≠ numT (1 + (i : Int)) := fun z => of_decide_eq_false g1 (by rw [z]; rfl)
        walk_at "go"
        refine ⟨rfl, ⟨_, rfl⟩, fun n h1 h2 => ?_⟩
        by_cases e : n = 1 + (i : Int)
        · rw [e]; exact g1'
        · exact hno n h1 (by omega)
    · rintro σ' H2 ⟨rfl, ⟨y3, rfl⟩, hno⟩
      have hrw := hrest fun n h1 h2 => hno n h1 (by omega)
      rw [hrw] at k
      clear hrw hrest hno
      walk_at "go"
      have hatl : atI (sg.map V.str) (-1) = some (.str (sg.getLastD Str.empty)) := atI_lastD hp1
      refine g_ixl (SqL.of hq1') hatl ?_
      have hnone : sg.getLastD Str.empty = Str.ofString "" ∨ isSW (sg.getLastD Str.empty) = false → restW p sg = none := restW_none
      generalize hlaeq : sg.getLastD Str.empty = la at hla hnone ⊢
      refine g_name ?_
      dsimp only [List.set]
      refine g_seq ?_
      refine g_ifT (fun g H' => Ex H2 H' ∧ (g = true ↔ (la = Str.ofString "" ∨ isSW la = false))) (fun QB hQ => ?_) ?_ ?_
      · walk_at "go"
        refine ⟨la, rfl, Nat.le_trans hla (Nat.le_trans ht (by decide)), ?_⟩
        walk_at "go"
        refine g_ite (fun g1 => hQ _ _ ⟨Ex.refl _, (fun _ => .inl ?_), fun _ => rfl⟩) fun g1 => ?_
        · have := of_decide_eq_true g1
          exact len_lt1 (by omega)
        have n1 : la ≠ Str.ofString "" := fun z => of_decide_eq_false g1 (by rw [z]; decide +kernel)
        walk_at "go"
        refine ⟨la, rfl, Nat.le_trans hla (Nat.le_trans ht (by decide)), ?_⟩
        walk_at "go"
        refine g_ite (fun g2 => hQ _ _ ⟨Ex.refl _, (fun _ => .inr ?_), fun _ => rfl⟩) fun g2 => ?_
        · have := of_decide_eq_true g2
          unfold isSW
          rw [decide_eq_false (by omega : ¬ la.length ≤ 12), Bool.and_false]
        have n2 : la.length ≤ 12 := by have := of_decide_eq_false g2; omega
        walk_at "go"
        have hsz : la.cps.size ≤ sizeLine := Nat.le_trans (show la.cps.size ≤ 12 from n2) (by decide)
        refine lc_relF walk_str la.cps.toList (fun c => !decide (c ∈ ("xyz" : Str).cps.toList)) Array.length_toList hsz (fun _ _ => trivial) (fun c y H => True) (fun _ _ _ _ _ h => h) (fun _ => rfl) ?_ ?_
        · rintro i x e H3 H4 Kc N hi e3 ⟨rfl, c, hc, rfl⟩ hei hK hN
          rw [Array.getElem?_toList, hc] at hei
          cases Option.some.inj hei
          walk_at "go"
          refine ⟨e, _, rfl, rfl, ?_⟩
          cases hq : decide (e ∈ ("xyz" : Str).cps.toList) with
          | true =>
            walk_at "go"
            exact hN (by rw [hq]; rfl) _ (Ex.refl _)
          | false =>
            walk_at "go"
            exact hK (by rw [hq]; rfl) _ _ (Ex.refl _) trivial
        · intro D H3 ys hD e3 hl1 hp1
          walk_at "go"
          refine ⟨D, ys, rfl, .inl (SqL.of hl1), ?_⟩
          walk_at "go"
          refine hQ _ _ ⟨e3, ?_⟩
          rw [decide_eq_true_iff, hp1.length]
          have hw : isSW la = isW la := by unfold isSW; rw [decide_eq_true n2, Bool.and_true]
          rw [hw]
          constructor
          · intro z
            refine .inr ?_
            cases hh : isW la with
            | false => rfl
            | true =>
              unfold isW at hh
              rw [List.filter_eq_nil_iff.mpr fun c hc h => by
                rw [List.all_eq_true.mp hh c hc] at h
                cases h] at z
              exact absurd z (by simp)
          · rintro (z | z)
            · exact absurd z n1
            · have z' : ¬ isW la = true := by rw [z]; decide
              unfold isW at z'
              rw [List.all_eq_true] at z'
              have : ∃ c ∈ la.cps.toList, ¬ decide (c ∈ ("xyz" : Str).cps.toList) = true := Classical.byContradiction fun hn => z' fun c hc => Classical.byContradiction fun hx => hn ⟨c, hc, hx⟩
              obtain ⟨c, hc, hx⟩ := this
              have hm : c ∈ la.cps.toList.filter (fun c => !decide (c ∈ ("xyz" : Str).cps.toList)) := List.mem_filter.mpr ⟨hc, by cases hz : decide (c ∈ ("xyz" : Str).cps.toList) with | true => exact absurd hz hx | false => rfl⟩
              have := List.length_pos_of_mem hm
              omega
      · rintro H3 ⟨e3, hg⟩
        have hg := hnone (hg.mp rfl)
        walk_at "go"
        exact k _ _ (e1.trans e3) (.inl ⟨hg, rfl⟩)
      · rintro H3 ⟨e3, hg⟩
        have hg : ¬ (la = Str.ofString "" ∨ isSW la = false) := fun z => Bool.noConfusion (hg.mpr z)
        have n1 : la ≠ Str.ofString "" := fun z => hg (.inl z)
        have n2 : isSW la = true := by
          cases hh : isSW la with
          | true => rfl
          | false => exact absurd (.inr hh) hg
        clear hnone hg
        have hq3 := e3 _ _ hq1'
        have e13 := e1.trans e3
        walk_at "go"
        refine ⟨q1, _, rfl, .inl (SqL.of hq3), ?_⟩
        rw [List.length_map]
        walk_at "go"
        refine g_ite (fun g3 => ?_) fun g3 => ?_
        · have g3' : sg.length = 1 := by
            have := of_decide_eq_true g3
            injection this with this
            omega
          obtain ⟨a0, rfl⟩ := List.length_eq_one_iff.mp g3'
          have hla' : a0 = la := hlaeq
          subst hla'
          walk_at "go"
          refine ⟨Nat.le_of_ble_eq_true rfl, fun tp htp => ?_⟩
          exact k _ _ (e13.trans (Ex.new htp)) (.inr ⟨tp, _, _, restW_one n1 n2, rfl, upd_same⟩)
        · have g3' : sg.length ≠ 1 := fun z => of_decide_eq_false g3 (by rw [z]; rfl)
          obtain ⟨a0, r, rfl⟩ := List.exists_cons_of_ne_nil hp1
          have hat0 : atI ((a0 :: r).map V.str) 0 = some (.str a0) := atI_get (by decide) rfl
          walk_at "go"
          refine ⟨2, p, rfl, ⟨by decide, by decide, by omega, by omega⟩, ?_⟩
          refine forG walk_range (fun i σ' H' => H' = H3 ∧ (∃ y3 y5, σ' = [some (.int p), some (.str t), some (.ref q1), y3, some (.str la), y5]) ∧ ∀ n : Int, 2 ≤ n → n < 2 + i → ¬ ((a0 :: r).length = 2 ∧ (a0 :: r).headD Str.empty = numT n)) ⟨rfl, ⟨_, _, rfl⟩, fun n h1 h2 => by omega⟩ (fun _ _ _ _ _ => trivial) ?_ ?_
          · rintro i z σ' H4 H5 hi ⟨rfl, ⟨y3, y5, rfl⟩, hno⟩ ⟨rfl, rfl⟩
            walk_at "go"
            refine ⟨q1, _, rfl, .inl (SqL.of hq3), ?_⟩
            rw [List.length_map]
            walk_at "go"
            have stay : ¬ ((a0 :: r).length = 2 ∧ a0 = numT (2 + (i : Int))) → ∀ n : Int, 2 ≤ n → n < 2 + ((i + 1 : Nat) : Int) → ¬ ((a0 :: r).length = 2 ∧ (a0 :: r).headD Str.empty = numT n) := fun hx n h1 h2 => by
              by_cases e : n = 2 + (i : Int)
              · rw [e]; exact hx
              · exact hno n h1 (by omega)
            refine g_ite (fun g4 => ?_) fun g4 => ?_
            · have g4' : (a0 :: r).length = 2 := by
                have := of_decide_eq_true g4
                injection this with this
                omega
              walk_at "go"
              refine g_ixl (SqL.of hq3) hat0 ?_
              walk_at "go"
              refine ⟨log_small (by omega) (by omega), ?_⟩
              walk_at "go"
              refine g_ite (fun g5 => ?_) fun g5 => ?_
              · have g5' : a0 = numT (2 + (i : Int)) := by
                  have := of_decide_eq_true g5
                  injection this
                obtain ⟨a1, rfl⟩ : ∃ a1, r = [a1] := by
                  match r, g4' with
                  | [a1], _ => exact ⟨a1, rfl⟩
                have hla' : a1 = la := hlaeq
                subst hla'
                walk_at "go"
                refine ⟨Nat.le_of_ble_eq_true rfl, fun tp htp => ?_⟩
                exact k _ _ (e13.trans (Ex.new htp)) (.inr ⟨tp, _, _, restW_two hp7 n1 n2 (by omega) (by omega) g5', rfl, upd_same⟩)
              · have g5' : a0 ≠ numT (2 + (i : Int)) := fun z => of_decide_eq_false g5 (by rw [z]; rfl)
                walk_at "go"
                exact ⟨rfl, ⟨_, _, rfl⟩, stay fun z => g5' z.2⟩
            · have g4' : (a0 :: r).length ≠ 2 := fun z => of_decide_eq_false g4 (by rw [z]; rfl)
              walk_at "go"
              exact ⟨rfl, ⟨_, _, rfl⟩, stay fun z => g4' z.1⟩
          · rintro σ' H4 ⟨rfl, ⟨y3, y5, rfl⟩, hno⟩
            walk_at "go"
            exact k _ _ e13 (.inl ⟨restW_not g3' fun n h1 h2 => hno n h1 (by omega), rfl⟩)

end
end Fp



namespace Fp
open PySem L2
section
variable {P : Program} {w : World} {K : PySem.W.Frag} {mg : Str → Option Value} {base : Heap} {C_Bag : Addr} {Cs : Addr → Prop}
local macro_rules | `(tactic| walk_at "hp") => `(tactic| first | assumption | rfl)
local macro_rules | `(tactic| walk_at "cond") => `(tactic| first | assumption | decide | omega | (unfold CMul; omega) | (refine ⟨?_, ?_⟩ <;> omega) | (unfold CDiv; omega) | (unfold CPow; omega))
local macro_rules | `(tactic| walk_at "g1") => `(tactic| first
  | with_reducible first
    | refine g_seq ?_ | refine g_asg ?_ | refine g_name ?_ | refine g_ret ?_ | refine g_retN ?_ | refine g_drop ?_ | refine g_ifs ?_
    | refine g_c ?_ | refine g_op ?_ | refine g_un ?_ | refine g_I0 ?_ | refine g_U ?_
    | refine g_test ?_ | refine g_tB ?_ | refine g_bl ?_ | refine g_and ?_ | refine g_or ?_ | refine g_not ?_
    | refine g_andV ?_ | refine g_orV ?_ | refine g_notV ?_ | refine g_if ?_ | refine g_nil ?_ | refine g_cons ?_ | refine g_cb ?_ | refine g_call ?_
    | refine g_lst ?_ | refine g_tup ?_ | refine g_itT ?_ | refine g_itF ?_ | refine g_itNT ?_ | refine g_itNF ?_ | refine g_lc ?_ | refine g_iStr ?_ | refine g_yes ?_ | refine g_exs ?_
    | refine g_chain ?_ | refine g_dget ?_ | refine g_dput ?_ | refine g_dget2 ?_ | refine g_dpop2 ?_ | refine g_fld ?_ | refine g_sfld ?_ | refine g_make ?_ | refine g_meth ?_
    | refine g_bm ?_ | refine g_kw ?_ | refine g_callS ?_ | refine g_revL ?_ | refine g_m1 ?_ | refine g_gsub ?_ | refine g_for ?_ | refine g_iList ?_ | refine g_iTup ?_ | refine g_iRng1 ?_ | refine g_iRng2 ?_ | refine g_sl ?_ | refine g_part ?_ | refine g_noPart ?_
    | refine g_exi ?_ | refine g_exr ?_ | refine g_dnew ?_ | refine g_disp ?_ | refine g_prs0 ?_ | refine g_prs ?_ | refine g_nxt ?_
  | ((with_reducible refine g_var (v := ?vv) ?gv ?_); (case gv => exact rfl))
  | ((with_reducible refine g_I ?gc ?_); (case gc => walk_at "cond"))
  | ((with_reducible refine g_eq ?ge ?_); (case ge => exact rfl))
  | ((with_reducible refine g_ne ?ge ?_); (case ge => exact rfl))
  | (refine g_ixl (SqL.of (by first | assumption | exact upd_same)) rfl ?_)
  | (refine g_setl (by first | assumption | exact upd_same) rfl ?_)
  | ((with_reducible show (∃ i, [V.int _] = [V.int i] ∧ _) ∨ _); refine Or.inl ⟨_, rfl, ?_⟩)
  | ((with_reducible show ∃ i, [V.int _] = [V.int i] ∧ _); refine ⟨_, rfl, ?_⟩)
  | dsimp only)
local macro_rules | `(tactic| walk_at "go") => `(tactic| repeat (walk_at "g1"))

/-- what the law's own reader gathers: as foldR, but with no bound -/
def foldL (p : Int) : Bg → List Str → Option Bg
  | acc, [] => some acc
  | acc, t :: r => match readW p t with
    | none => none
    | some kv => if kv.1 ∈ keys acc then none else foldL p (acc ++ [kv]) r
theorem foldL_app (p : Int) : ∀ (l m : List Str) (acc : Bg), foldL p acc (l ++ m) = (foldL p acc l).bind fun b => foldL p b m
  | [], m, acc => rfl
  | t :: r, m, acc => by
    rw [List.cons_append, foldL.eq_2, foldL.eq_2]
    cases readW p t with
    | none => rfl
    | some kv =>
      dsimp only
      split
      · rfl
      · exact foldL_app p r m _
theorem foldL_len {p : Int} : ∀ {ts : List Str} {acc l : Bg}, foldL p acc ts = some l → acc.length ≤ l.length ∧ l.length = acc.length + ts.length
  | [], acc, l, h => by
    cases h
    exact ⟨Nat.le_refl _, rfl⟩
  | t :: r, acc, l, h => by
    rw [foldL.eq_2] at h
    cases hr : readW p t with
    | none => rw [hr] at h; cases h
    | some kv =>
      rw [hr] at h
      dsimp only at h
      split at h
      · cases h
      · have := foldL_len h
        rw [List.length_append] at this
        have h1 : ([kv] : Bg).length = 1 := rfl
        rw [List.length_cons]
        omega
theorem foldR_foldL {p : Int} : ∀ {ts : List Str} {acc : Bg}, acc.length ≤ 300 → foldR p acc ts = (foldL p acc ts).bind fun l => if l.length ≤ 300 then some l else none
  | [], acc, h => by
    show some acc = if acc.length ≤ 300 then some acc else none
    rw [if_pos h]
  | t :: r, acc, h => by
    rw [foldR.eq_2, foldL.eq_2]
    cases readW p t with
    | none => rfl
    | some kv =>
      dsimp only
      by_cases h1 : kv.1 ∈ keys acc
      · rw [if_pos (.inl h1), if_pos h1]
        rfl
      · rw [if_neg h1]
        by_cases h2 : acc.length = 300
        · rw [if_pos (.inr h2)]
          cases hf : foldL p (acc ++ [kv]) r with
          | none => rfl
          | some l =>
            have := (foldL_len hf).1
            rw [List.length_append] at this
            have h3 : ([kv] : Bg).length = 1 := rfl
            show none = if l.length ≤ 300 then some l else none
            rw [if_neg (by omega)]
        · rw [if_neg (fun z => z.elim h1 h2)]
          exact foldR_foldL (by rw [List.length_append]; show acc.length + 1 ≤ 300; omega)
theorem ok_law_read {f : Addr} {fd : FuncData} (F : Fun K "_law_read" "_law_read" s_law_read f fd) (T : Txt K mg C_Bag Cs) (D_law_word_told : DefOk P w K mg base CX0 1 "_law_word_told" ["_law_clock_here", "_law_text"] sp_read_word) : FnOk P w K mg base CX0 2 f fd ["_law_clock_here", "_law_text"] sp_read_words := by
  refine F.ok sc_law_read (fun vs H Q E h => ?_) (fun cdv A outer s H vs Q E hr h => ?_)
  · obtain ⟨p, t, rfl, _⟩ := h
    rfl
  · obtain ⟨p, t, rfl, hp2, hp7, ht, k⟩ := h
    have hsl : (Str.ofString " + ").length = 3 := by decide +kernel
    have hple := PyProof.Rows.split_le t (Str.ofString " + ")
    have hpart : ∀ u ∈ Txt.split t (Str.ofString " + "), u.length ≤ t.length := fun u hu => split_part hu
    unfold readWs at k
    have hu := hu_of hr; have hu64 := L2.Room.units hr; refine ⟨_, (pss_cons (ps_set (i := 2) sc_law_read.nd rfl (by first | exact Or.inl rfl | exact Or.inr rfl) pe_dnewK) (pss_cons (ps_if (pt_cmpR op_eq (pv 1) pe_str (nomark _)) (pss_one (ps_ret (pv 2))) pss_nil) (pss_cons (ps_for PassesOwn.never rfl (pi_list (pe_split (pv 1) pe_str)) (pg_name (i := 3) sc_law_read.nd rfl (by first | exact Or.inl rfl | exact Or.inr rfl)) (pss_cons (ps_set (i := 4) sc_law_read.nd rfl (by first | exact Or.inl rfl | exact Or.inr rfl) (pe_callD D_law_word_told (hr.mono (by decide)) rfl pass0 (pa_cons (pv 0) (pa_cons (pv 3) pa_nil)))) (pss_cons (ps_if (PW.pt (pw_or (pt_cmpR op_isN (pv 4) pe_non (nomark _)) (pw_or1 (pt_cmp (pc_din hu (pe_ix (r := rIxT K) ix_tup (pv 4) pe_int (fun _ _ => rfl)) (pv 2)))))) (pss_one (ps_ret pe_non)) pss_nil) (pss_one (ps_dput hu (pv 2) (pe_ix (r := rIxT K) ix_tup (pv 4) pe_int (fun _ _ => rfl)) (pe_ix (r := rIxT K) ix_tup (pv 4) pe_int (fun _ _ => rfl)) rfl))))) (pss_cons (ps_if (pt_cmpR op_gt (pe_callB call_lenD (by rfl) T.b_len (by decide +kernel) (pa_cons (pv 2) pa_nil)) pe_int (nomark _)) (pss_one (ps_ret pe_non)) pss_nil) (pss_one (ps_ret (pv 2))))))), ?_⟩; rw [st_law_read]; (try dsimp only [cxOf]); walk_at "go"
    intro d hd
    have e1 : Ex H (upd H d (.dK (toK []))) := Ex.new hd
    have hd1 := upd_same (H := H) (a := d) (o := .dK (toK []))
    have hz : (upd H d (.dK [])) = upd H d (.dK (toK [])) := rfl
    rw [hz]
    generalize upd H d (.dK (toK [])) = H1 at e1 hd1 ⊢
    walk_at "go"
    refine g_ite (fun g1 => ?_) fun g1 => ?_
    · have g1' : t = Str.ofString "0" := by
        have := of_decide_eq_true g1
        injection this
      rw [if_pos g1'] at k
      walk_at "go"
      exact k _ _ e1 (.inr ⟨d, [], rfl, rfl, hd1⟩)
    · have g1' : t ≠ Str.ofString "0" := fun z => of_decide_eq_false g1 (by rw [z])
      rw [if_neg g1', foldR_foldL (by decide)] at k
      walk_at "go"
      refine ⟨⟨_, rfl⟩, ?_⟩
      walk_at "go"
      refine ⟨t, _, rfl, rfl, by rw [hsl]; rfl, Nat.le_trans (by omega : t.length + 2 ≤ 1000002) (by decide), fun q1 hq1 => ?_⟩
      generalize Txt.split t (Str.ofString " + ") = sg at hple hpart k hq1 ⊢
      have e2 : Ex H1 (upd H1 q1 (.lst (sg.map V.str))) := Ex.new hq1
      have hq1' := upd_same (H := H1) (a := q1) (o := .lst (sg.map V.str))
      have hqd : q1 ≠ d := (ne_of_none hd1 hq1).symm
      have hd2 := e2 _ _ hd1
      generalize upd H1 q1 (.lst (sg.map V.str)) = H2 at e2 hq1' hd2 ⊢
      walk_at "go"
      have e12 := e1.trans e2
      refine ⟨⟨_, SqL.of hq1'⟩, ?_⟩
      refine forG (walk_list (xs := sg.map V.str)) (fun i σ' H' => ∃ y3 y4 acc, σ' = [some (.int p), some (.str t), some (.ref d), y3, y4] ∧ Ex H H' ∧ H' q1 = some (.lst (sg.map V.str)) ∧ H' d = some (.dK (toK acc)) ∧ foldL p [] (sg.take i) = some acc) ⟨none, none, [], rfl, e12, hq1', hd2, rfl⟩ (fun i σ' H' _ ⟨_, _, _, _, _, h, _⟩ => SqL.of h) ?_ ?_
      · rintro i z σ' H3' H3 hi ⟨y3, y4, acc, rfl, e3, hq3, hd3, hf⟩ ⟨rfl, hz⟩
        rw [List.length_map] at hi
        obtain ⟨u, hu⟩ : ∃ u, sg[i]? = some u := ⟨_, List.getElem?_eq_getElem hi⟩
        obtain rfl : z = .str u := by
          have hz : (sg.map V.str)[i]? = some z := hz
          rw [List.getElem?_map, hu] at hz
          exact (Option.some.inj hz).symm
        have hsp : sg = sg.take i ++ u :: sg.drop (i + 1) := by
          have h1 : sg.drop i = u :: sg.drop (i + 1) := by
            obtain ⟨hl, h2⟩ := List.getElem?_eq_some_iff.mp hu
            rw [List.drop_eq_getElem_cons hl, h2]
          rw [← h1, List.take_append_drop]
        have hwhole : foldL p [] sg = foldL p acc (u :: sg.drop (i + 1)) := by
          rw [hsp, foldL_app, ← hsp, hf]
          rfl
        rw [foldL.eq_2] at hwhole
        have hnext : ∀ kv, readW p u = some kv → ¬ kv.1 ∈ keys acc → foldL p [] (sg.take (i + 1)) = some (acc ++ [kv]) := fun kv h1 h2 => by
          rw [List.take_succ, hu]
          show foldL p [] (sg.take i ++ [u]) = _
          rw [foldL_app, hf]
          show foldL p acc [u] = _
          rw [foldL.eq_2, h1]
          dsimp only
          rw [if_neg h2]
          rfl
        have hal : acc.length ≤ 1000001 := by
          have h1 := (foldL_len hf).2
          rw [List.length_take] at h1
          have h2 : ([] : Bg).length = 0 := rfl
          omega
        walk_at "go"
        refine ⟨p, u, rfl, hp2, hp7, Nat.le_trans (hpart u (List.mem_of_getElem? hu)) ht, fun v H4 e4 hv => ?_⟩
        have hq4 := e4 _ _ hq3
        have hd4 := e4 _ _ hd3
        walk_at "go"
        rcases hv with ⟨hn, rfl⟩ | ⟨a, u1, n, hs, rfl, ha⟩
        · rw [hn] at hwhole
          rw [show foldL p [] sg = none from hwhole] at k
          refine ⟨rfl, _, rfl, ?_⟩
          rw [decide_eq_true rfl, if_pos rfl, if_pos rfl]
          walk_at "go"
          exact k _ _ (e3.trans e4) (.inl ⟨rfl, rfl⟩)
        · rw [hs] at hwhole
          refine ⟨rfl, _, rfl, ?_⟩
          rw [decide_eq_false (fun z => nomatch z), if_neg Bool.false_ne_true]
          walk_at "go"
          refine g_din ?_
          walk_at "go"
          refine g_ixt (SqT.of ha) rfl ?_
          walk_at "go"
          refine ⟨d, _, rfl, .inl ⟨_, .inr u1, .inl hd4, rfl, rfl⟩, ?_⟩
          have eb : (valV (toK acc) (Sum.inr u1 : Key)).isSome = decide (u1 ∈ keys acc) := by
            rw [valV_toK]
            cases hg : getS acc u1 with
            | none => rw [decide_eq_false (getS_none.mp hg)]; rfl
            | some m => rw [decide_eq_true (mem_keys.mpr ⟨m, getS_mem hg⟩)]; rfl
          rw [eb]
          dsimp only at hwhole
          walk_at "go"
          refine g_ite (fun g5 => ?_) fun g5 => ?_
          · rw [if_pos (of_decide_eq_true g5)] at hwhole
            rw [show foldL p [] sg = none from hwhole] at k
            walk_at "go"
            exact k _ _ (e3.trans e4) (.inl ⟨rfl, rfl⟩)
          · have n5 := of_decide_eq_false g5
            walk_at "go"
            refine g_ixt (SqT.of ha) rfl ?_
            walk_at "go"
            refine g_ixt (SqT.of ha) rfl ?_
            have hput : putS acc u1 n = acc ++ [(u1, n)] := by
              unfold putS
              rw [getS_any, getS_none.mpr n5]
              rfl
            refine g_dp hd4 (Nat.lt_of_le_of_lt hal (by decide)) ?_
            rw [hput]
            exact ⟨_, _, acc ++ [(u1, n)], rfl, Ex.mut (e3.trans e4) hd, by rw [upd_ne hqd]; exact hq4, upd_same, hnext (u1, n) hs n5⟩
      · rintro σ' H3 ⟨y3, y4, acc, rfl, e3, hq3, hd3, hf⟩
        rw [List.length_map, List.take_length] at hf
        rw [hf] at k
        have k : ∀ (v : V) (H' : Hp), Ex H H' → DictV H' v (if acc.length ≤ 300 then some acc else none) → Q v H' := k
        walk_at "go"
        refine ⟨d, _, rfl, hd3, ?_⟩
        rw [toK_len]
        walk_at "go"
        refine g_ite (fun g6 => ?_) fun g6 => ?_
        · have g6' : ¬ acc.length ≤ 300 := by have := of_decide_eq_true g6; omega
          rw [if_neg g6'] at k
          walk_at "go"
          exact k _ _ e3 (.inl ⟨rfl, rfl⟩)
        · have g6' : acc.length ≤ 300 := by have := of_decide_eq_false g6; omega
          rw [if_pos g6'] at k
          walk_at "go"
          exact k _ _ e3 (.inr ⟨d, acc, rfl, rfl, hd3⟩)

end
end Fp

/-! try with several except clauses, some of which name what they catch. -/
namespace Fp
open PySem PySem.Spec L2 PyProof.Rows
/-- a clause: its class, the slot of its name (if any), its suite's reading -/
abbrev Clause := Value × Option Nat × (Addr → Value → Option Addr → TS)
def outC (D : Ends) : Option Nat → Ends
  | none => D
  | some i => { nx := fun p q => D.nx (p.set i none) q, rt := D.rt, bk := fun p q => D.bk (p.set i none) q, ct := fun p q => D.ct (p.set i none) q }
def inC (p : L2.St) (a : Addr) : Option Nat → L2.St
  | none => p
  | some i => p.set i (some (.ref a))
/-- what the clauses wish of an exception of the body -/
def wMix (K : PySem.W.Frag) (Wout : WX) (D : Ends) : List Clause → WX
  | [] => Wout
  | (c, oi, ts) :: more => fun cls d p q => ∃ b, PySem.W.exmOne K cls c = some b ∧ (b = true → ∀ a, q a = none → ts a cls d (outC D oi) (inC p a oi) q) ∧ (b = false → wMix K Wout D more cls d p q)
inductive MixOk (X : Cx) : List ExceptHandler → List Clause → Prop
  | nil : MixOk X [] []
  | bare {x : Str} {c : Value} {ts : Addr → Value → Option Addr → TS} {b₀ : Stmt} {su : List Stmt} {n1 n2 : Pos} {hds : List ExceptHandler} {l : List Clause} (hc : Names X x c)
      (hsu : ∀ (a : Addr) (oe : Obj) (cls : Value) (d : Option Addr) (pn : List (Addr × Obj)), Zc cls d oe → (∃ vs, oe.data = .fields vs) → PSs (X.suite a ((a, oe) :: pn)) (b₀ :: su) (ts a cls d)) (more : MixOk X hds l) :
      MixOk X (.ExceptHandler (some (.Name x n1)) none (b₀ :: su) n2 :: hds) ((c, none, ts) :: l)
  | named {x n : Str} {i : Nat} {c : Value} {ts : Addr → Value → Option Addr → TS} {b₀ : Stmt} {su : List Stmt} {n1 n2 : Pos} {hds : List ExceptHandler} {l : List Clause} (hN : X.N.Nodup) (hi : X.N[i]? = some n) (hln : X.env.kindOf n = some .local) (hc : Names X x c)
      (hsu : ∀ (a : Addr) (oe : Obj) (cls : Value) (d : Option Addr) (pn : List (Addr × Obj)), Zc cls d oe → (∃ vs, oe.data = .fields vs) → PSs (X.suite a ((a, oe) :: pn)) (b₀ :: su) (ts a cls d)) (more : MixOk X hds l) :
      MixOk X (.ExceptHandler (some (.Name x n1)) (some n) (b₀ :: su) n2 :: hds) ((c, some i, ts) :: l)
section
variable {X : Cx} {body : List Stmt} {h₀ : ExceptHandler} {hds : List ExceptHandler} {l : List Clause} {pos : Pos} {tb : WX → TS} {Wout : WX}
theorem ps_try_mix (hs : X.stack = X.env :: X.outer) (hf : X.env.frame = some X.env.locals) (tk : Takes X Wout)
    (hb : ∀ (W : WX) (pn : List (Addr × Obj)) (xe : Value → Shared → Prop), Takes (X.tr pn xe) W → PassesOwn (model X.prog X.w) X.A X.env xe → PSs (X.tr pn xe) body (tb W))
    (hh : MixOk X (h₀ :: hds) l) : PS X (.Try body (h₀ :: hds) [] [] pos) (fun D p q => tb (wMix X.K Wout D l) D p q) := by
  refine ⟨fun pins s p q D I hw => ?_⟩
  have okX := I.ok
  have hfr : X.A.frames = some (X.env :: X.outer) := by rw [okX.frames, hs]
  refine wpAny_Try_except ?_
  refine wpAny_mono ((hb (wMix X.K Wout D l) (X.pn ++ pins) (fun e z₁ => wpAny (model X.prog X.w) X.A (noteFrame e X.env) (fun _ z₂ => wpAny (model X.prog X.w) X.A (setFlight e none) (fun _ z₃ => wpAny (model X.prog X.w) X.A (handleBy e X.env (h₀ :: hds)) (SP X pins D) X.xe z₃) X.xe z₂) X.xe z₁)
    (fun u s' got => ?_) PassesOwn.looking).run [] s p q D (I.toTry _) hw) (fun fl s1 done => ?_) (fun e s1 he => he)
  · obtain ⟨a, B, sI, pins', p', q', cls, d, rfl, J', nb, up, sky, na, os, ag, want⟩ := got
    have J : Inv X pins p' q' sI := J'.ofTry okX
    have sky1 : Sky B (X.env :: X.outer) a (Zc cls d) X.env.locals s'.heap := by rw [← hs]; exact sky
    show wpAny (model X.prog X.w) X.A (noteFrame (.ref a) X.env) _ _ _
    refine Sky.land Zc.steady hfr hf sky1 fun hp ld up3 => ?_
    have J3 : Inv X pins p' q' { s' with heap := hp } := J.landed nb ld.1 (up.trans up3) os ag
    obtain ⟨oe, vs, g1, g2, g3⟩ := ld.there
    have away : a ∉ frs (X.env :: X.outer) := fun hm => by
      obtain ⟨_, o1, e1, hnf⟩ := ld.2.2.1.mem hm
      rw [g1] at e1
      cases e1
      exact hnf _ g3
    have aL : a ≠ X.env.locals := fun z => away (List.mem_filterMap.mpr ⟨X.env, List.mem_cons_self, by rw [hf, z]⟩)
    have aF : a ∉ X.fs := fun hm => by
      obtain ⟨e, he, z⟩ := List.mem_filterMap.mp hm
      exact away (List.mem_filterMap.mpr ⟨e, List.mem_cons_of_mem _ he, z⟩)
    have S3 := J3.suite g1 g3 na aL aF
    have named? : ∀ {x : Str} {c : Value} {np : Pos}, Names X x c → ∀ {Q E : Value → Shared → Prop}, Q c { s' with heap := hp } → wpAny (model X.prog X.w) (X.A.mark (some (.ref a))) (eval (.Name x np) X.env) Q E { s' with heap := hp } := fun {x c np} hc {Q E} z => by
      obtain ⟨hg, hdbg, hm | ⟨hm, hv, hnn⟩⟩ := hc
      · exact ld_glob (X := X.suite a ((a, oe) :: (X.pn ++ pins))) S3 hg hm z hdbg
      · exact ld_blt (X := X.suite a ((a, oe) :: (X.pn ++ pins))) S3 hg hm hv z hnn hdbg
    have looks : PySem.W.Looks (model X.prog X.w) hp (typeOf (.ref a)) cls := fun A Q E s k z => wpAny_typeOf_ref (k _ _ g1) (by rw [g2.1]; exact z)
    have all : ∀ {hs1 : List ExceptHandler} {l1 : List Clause}, MixOk X hs1 l1 → wMix X.K Wout D l1 cls d p' q' → wpAny (model X.prog X.w) X.A (handleBy (.ref a) X.env hs1) (SP X pins D) X.xe { s' with heap := hp } := by
      intro hs1 l1 hk
      induction hk with
      | nil =>
        intro want
        refine wpAny_handleBy_nil ?_
        obtain ⟨_, _, _, o5, v5, T5, _, _, k1, _, k2, k3, _⟩ := id ld
        unfold PySem.passOn
        refine wpAny_bind (wpAny_field k1 k2 k3 ?_)
        rw [if_neg (by simp : ¬ ((Value.ref T5 == Value.none) = true))]
        have away5 : wpAny (model X.prog X.w) X.A (setFlight (.ref a) X.env.frame) (fun _ s4 => wpAny (model X.prog X.w) X.A (throw (.ref a) : Sem Flow) (SP X pins D) X.xe s4) X.xe { s' with heap := hp } := by
          rw [hf]
          exact HandSPX.setFlight_upZ ld fun h4 hh4 up4 => wpAny_throw (tk _ _ ⟨a, B, sI, pins, p', q', cls, d, rfl, J, nb, (up.trans up3).trans up4, .inr (.inr (by rw [hs]; exact hh4)), na, os, ag, want⟩)
        first | exact wpAny_bind (wpAny_pure (wpAny_bind away5)) | exact wpAny_bind away5
      | @bare x c ts b₀ su n1 n2 hds2 l2 hc hsu more ih =>
        rintro ⟨b, hb1, hyes, hno⟩
        refine wpAny_handleBy_cons (codeAny_handlers_test ?_) (fun z => nomatch z)
        refine named? hc ((PySem.W.exm_one (M := model X.prog X.w) (J3.kIn) looks hb1).here ?_)
        match b, hyes, hno with
        | false, _, hno => exact ih (hno rfl)
        | true, hyes, _ =>
          refine codeAny_handlers_suite (HandSPX.lands_againZ ld fun h4 ld4 up4 => ?_)
          have J4 : Inv X pins p' q' { s' with heap := h4 } := J.landed nb ld4.1 ((up.trans up3).trans up4) os ag
          obtain ⟨o4, v4, k1, k2, k3⟩ := ld4.there
          refine wpAny_mono ((hsu a o4 cls d (X.pn ++ pins) k2 ⟨_, k3⟩).run [] _ _ q' _ (J4.suite k1 k3 na aL aF) (hyes rfl a na)) (fun fl s6 r => ?_) (fun _ _ z => z.elim)
          match fl, r with
          | .next, ⟨_, _, S6, z⟩ => exact ⟨_, _, S6.unsuite okX, z⟩
          | .brk, ⟨_, _, S6, z⟩ => exact ⟨_, _, S6.unsuite okX, z⟩
          | .cont, ⟨_, _, S6, z⟩ => exact ⟨_, _, S6.unsuite okX, z⟩
          | .ret u, ⟨_, _, _, S6, r6, z⟩ => exact ⟨_, _, _, S6.unsuite okX, r6, z⟩
      | @named x n i c ts b₀ su n1 n2 hds2 l2 hN hi hln hc hsu more ih =>
        rintro ⟨b, hb1, hyes, hno⟩
        refine wpAny_handleBy_cons (codeAny_handlers_test ?_) (fun z => nomatch z)
        refine named? hc ((PySem.W.exm_one (M := model X.prog X.w) (J3.kIn) looks hb1).here ?_)
        match b, hyes, hno with
        | false, _, hno => exact ih (hno rfl)
        | true, hyes, _ =>
          refine codeAny_handlers_suite_as (HandSPX.lands_againZ ld fun h4 ld4 up4 => ?_)
          have J4 : Inv X pins p' q' { s' with heap := h4 } := J.landed nb ld4.1 ((up.trans up3).trans up4) os ag
          obtain ⟨o4, v4, k1, k2, k3⟩ := ld4.there
          refine store_ok (X := X.suite a ((a, o4) :: (X.pn ++ pins))) (v := .ref a) (J4.suite k1 k3 na aL aF) hN hi (.inl hln) rfl (fun s5 S5 => ?_) (.inr hln)
          refine wpAny_mono ((hsu a o4 cls d (X.pn ++ pins) k2 ⟨_, k3⟩).run [] s5 _ q' _ S5 (hyes rfl a na)) (fun fl s6 r => ?_) (fun _ _ z => z.elim)
          have forget : ∀ {p6 : L2.St} {q6 : Hp} {G : Shared → Prop}, Inv (X.suite a ((a, o4) :: (X.pn ++ pins))) [] p6 q6 s6 → (∀ s7, Inv X pins (p6.set i none) q6 s7 → G s7) →
              wpAny (model X.prog X.w) X.A (do bindName X.env n .none; unbindBehindTheSuite X.env n n2) (fun _ s7 => G s7) X.xe s6 := fun {p6 q6 G} S6 hq => gone_ok (S6.unsuite okX) hN hi hln hq
          match fl, r with
          | .next, ⟨_, _, S6, z⟩ => exact forget S6 fun s7 J7 => ⟨_, _, J7, z⟩
          | .brk, ⟨_, _, S6, z⟩ => exact forget S6 fun s7 J7 => ⟨_, _, J7, z⟩
          | .cont, ⟨_, _, S6, z⟩ => exact forget S6 fun s7 J7 => ⟨_, _, J7, z⟩
          | .ret u, ⟨_, _, _, S6, r6, z⟩ => exact forget S6 fun s7 J7 => ⟨_, _, _, J7, r6, z⟩
    exact all hh want
  · match fl, done with
    | .next, ⟨_, _, J', z⟩ => exact wpAny_execs_nil ⟨_, _, J'.ofTry okX, z⟩
    | .brk, ⟨_, _, J', z⟩ => exact ⟨_, _, J'.ofTry okX, z⟩
    | .cont, ⟨_, _, J', z⟩ => exact ⟨_, _, J'.ofTry okX, z⟩
    | .ret u, ⟨_, _, _, J', r, z⟩ => exact ⟨_, _, _, J'.ofTry okX, r, z⟩
end
end Fp

namespace Fp
open PySem L2
section
variable {P : Program} {w : World} {K : PySem.W.Frag} {mg : Str → Option Value} {base : Heap} {C_Bag : Addr} {Cs : Addr → Prop}
local macro_rules | `(tactic| walk_at "hp") => `(tactic| first | assumption | rfl)
local macro_rules | `(tactic| walk_at "cond") => `(tactic| first | assumption | decide | omega | (unfold CMul; omega) | (refine ⟨?_, ?_⟩ <;> omega) | (unfold CDiv; omega) | (unfold CPow; omega))
local macro_rules | `(tactic| walk_at "g1") => `(tactic| first
  | with_reducible first
    | refine g_seq ?_ | refine g_asg ?_ | refine g_name ?_ | refine g_ret ?_ | refine g_retN ?_ | refine g_drop ?_ | refine g_ifs ?_
    | refine g_c ?_ | refine g_op ?_ | refine g_un ?_ | refine g_I0 ?_ | refine g_U ?_
    | refine g_test ?_ | refine g_tB ?_ | refine g_bl ?_ | refine g_and ?_ | refine g_or ?_ | refine g_not ?_
    | refine g_andV ?_ | refine g_orV ?_ | refine g_notV ?_ | refine g_if ?_ | refine g_nil ?_ | refine g_cons ?_ | refine g_cb ?_ | refine g_call ?_
    | refine g_lst ?_ | refine g_tup ?_ | refine g_itT ?_ | refine g_itF ?_ | refine g_itNT ?_ | refine g_itNF ?_ | refine g_lc ?_ | refine g_iStr ?_ | refine g_yes ?_ | refine g_exs ?_
    | refine g_chain ?_ | refine g_dget ?_ | refine g_dput ?_ | refine g_dget2 ?_ | refine g_dpop2 ?_ | refine g_fld ?_ | refine g_sfld ?_ | refine g_make ?_ | refine g_meth ?_
    | refine g_bm ?_ | refine g_kw ?_ | refine g_callS ?_ | refine g_revL ?_ | refine g_m1 ?_ | refine g_gsub ?_ | refine g_for ?_ | refine g_iList ?_ | refine g_iTup ?_ | refine g_iRng1 ?_ | refine g_iRng2 ?_ | refine g_sl ?_ | refine g_part ?_ | refine g_noPart ?_
    | refine g_exi ?_ | refine g_exr ?_ | refine g_dnew ?_ | refine g_disp ?_ | refine g_prs0 ?_ | refine g_prs ?_ | refine g_nxt ?_
  | ((with_reducible refine g_var (v := ?vv) ?gv ?_); (case gv => exact rfl))
  | ((with_reducible refine g_I ?gc ?_); (case gc => walk_at "cond"))
  | ((with_reducible refine g_eq ?ge ?_); (case ge => exact rfl))
  | ((with_reducible refine g_ne ?ge ?_); (case ge => exact rfl))
  | (refine g_ixl (SqL.of (by first | assumption | exact upd_same)) rfl ?_)
  | (refine g_setl (by first | assumption | exact upd_same) rfl ?_)
  | ((with_reducible show (∃ i, [V.int _] = [V.int i] ∧ _) ∨ _); refine Or.inl ⟨_, rfl, ?_⟩)
  | ((with_reducible show ∃ i, [V.int _] = [V.int i] ∧ _); refine ⟨_, rfl, ?_⟩)
  | dsimp only)
local macro_rules | `(tactic| walk_at "go") => `(tactic| repeat (walk_at "g1"))

theorem RdOk.lot {p : Int} {l : Bg} (h : RdOk p l) : Lot p l 300 12 := ⟨⟨h.1, fun kv hk => by have := (h.2.2 kv hk).2.1; omega, fun kv hk => (h.2.2 kv hk).2.2⟩, h.2.1, fun u hu => by
  obtain ⟨n, hn⟩ := mem_keys.mp hu
  have h1 := (h.2.2 _ hn).1
  unfold isSW at h1
  have h2 := Bool.and_eq_true_iff.mp h1
  exact ⟨of_decide_eq_true h2.2, h2.1⟩⟩
theorem tyx_ex {H H' : Hp} {y : V} {t : Value} (e : Ex H H') (h : TyX K H y t) : TyX K H' y t := by
  cases h with
  | base h =>
    cases h with
    | non => exact .base .non
    | bl x => exact .base (.bl x)
    | int x => exact .base (.int x)
    | str x => exact .base (.str x)
    | flt x => exact .base (.flt x)
    | lst h => exact .base (.lst (e _ _ h))
    | frz h => exact .base (.frz (e _ _ h))
    | tup h => exact .base (.tup (e _ _ h))
    | dK h => exact .base (.dK (e _ _ h))
    | dT h => exact .base (.dT (e _ _ h))
    | ins h a b c d f => exact .base (.ins (e _ _ h) a b c d f)
  | byt b => exact .byt b
  | set h => exact .set (e _ _ h)
  | kList h c => exact .kList h c
  | kTuple h c => exact .kTuple h c
  | kDict h c => exact .kDict h c
  | fTuple h => exact .fTuple (e _ _ h)
  | fDict h => exact .fDict (e _ _ h)
theorem clockF_ex {H H' : Hp} {x : V} (e : Ex H H') (h : ClockIs K H x false) : ClockIs K H' x false := by
  rcases h with h | ⟨h, z⟩
  · exact .inl h
  · refine .inr ⟨?_, z⟩
    rcases h with h | h | ⟨t, h1, h2, h3⟩
    · exact .inl h
    · exact .inr (.inl h)
    · exact .inr (.inr ⟨t, tyx_ex e h1, h2, h3⟩)
/-- what is no string -/
def NoStr (K : PySem.W.Frag) (H : Hp) (y : V) : Prop := ∃ t, TyX K H y t ∧ PySem.W.kitOne K t (.type "str") = some false
theorem g_xf {a : Addr} {cls : Value} {d : Option Addr} {C : Addr} {fl : Str} {te : TE} {σ : L2.St} {H : Hp} {Q : VK} (h : te σ H fun x H1 => x = .ref a ∧ cls = .ref C ∧ ∃ (dd : Addr) (fs : List (Str × V)) (v : V), d = some dd ∧ H1 dd = some (.xd fs) ∧ fs.lookup fl = some v ∧ Q v H1) : tXf a cls d C fl te σ H Q := h

end
end Fp



namespace Fp
open PySem L2
section
variable {P : Program} {w : World} {K : PySem.W.Frag} {mg : Str → Option Value} {base : Heap} {C_Bag : Addr} {Cs : Addr → Prop}
local macro_rules | `(tactic| walk_at "hp") => `(tactic| first | assumption | rfl)
local macro_rules | `(tactic| walk_at "cond") => `(tactic| first | assumption | decide | omega | (unfold CMul; omega) | (refine ⟨?_, ?_⟩ <;> omega) | (unfold CDiv; omega) | (unfold CPow; omega))
local macro_rules | `(tactic| walk_at "g1") => `(tactic| first
  | with_reducible first
    | refine g_seq ?_ | refine g_asg ?_ | refine g_name ?_ | refine g_ret ?_ | refine g_retN ?_ | refine g_drop ?_ | refine g_ifs ?_
    | refine g_c ?_ | refine g_op ?_ | refine g_un ?_ | refine g_I0 ?_ | refine g_U ?_
    | refine g_test ?_ | refine g_tB ?_ | refine g_bl ?_ | refine g_and ?_ | refine g_or ?_ | refine g_not ?_
    | refine g_andV ?_ | refine g_orV ?_ | refine g_notV ?_ | refine g_if ?_ | refine g_nil ?_ | refine g_cons ?_ | refine g_cb ?_ | refine g_call ?_
    | refine g_lst ?_ | refine g_tup ?_ | refine g_itT ?_ | refine g_itF ?_ | refine g_itNT ?_ | refine g_itNF ?_ | refine g_lc ?_ | refine g_iStr ?_ | refine g_yes ?_ | refine g_exs ?_
    | refine g_chain ?_ | refine g_dget ?_ | refine g_dput ?_ | refine g_dget2 ?_ | refine g_dpop2 ?_ | refine g_fld ?_ | refine g_sfld ?_ | refine g_make ?_ | refine g_meth ?_
    | refine g_bm ?_ | refine g_kw ?_ | refine g_callS ?_ | refine g_revL ?_ | refine g_m1 ?_ | refine g_gsub ?_ | refine g_for ?_ | refine g_iList ?_ | refine g_iTup ?_ | refine g_iRng1 ?_ | refine g_iRng2 ?_ | refine g_sl ?_ | refine g_part ?_ | refine g_noPart ?_
    | refine g_exi ?_ | refine g_exr ?_ | refine g_dnew ?_ | refine g_disp ?_ | refine g_prs0 ?_ | refine g_prs ?_ | refine g_nxt ?_
  | ((with_reducible refine g_var (v := ?vv) ?gv ?_); (case gv => exact rfl))
  | ((with_reducible refine g_I ?gc ?_); (case gc => walk_at "cond"))
  | ((with_reducible refine g_eq ?ge ?_); (case ge => exact rfl))
  | ((with_reducible refine g_ne ?ge ?_); (case ge => exact rfl))
  | (refine g_ixl (SqL.of (by first | assumption | exact upd_same)) rfl ?_)
  | (refine g_setl (by first | assumption | exact upd_same) rfl ?_)
  | ((with_reducible show (∃ i, [V.int _] = [V.int i] ∧ _) ∨ _); refine Or.inl ⟨_, rfl, ?_⟩)
  | ((with_reducible show ∃ i, [V.int _] = [V.int i] ∧ _); refine ⟨_, rfl, ?_⟩)
  | dsimp only)
local macro_rules | `(tactic| walk_at "go") => `(tactic| repeat (walk_at "g1"))

/-- the clocks as texts -/
def clkT : List Str := ["2", "3", "5", "7"]
/-- the number that a line tells -/
def clkN (t : Str) : Int := (intText? t).getD 0
theorem clkT_int : ∀ u ∈ clkT, intText? u = some (clkN u) ∧ (clkN u = 2 ∨ clkN u = 3 ∨ clkN u = 5 ∨ clkN u = 7) ∧ u.length ≤ 640 := by decide +kernel
theorem clkT_num : clkT = [numT 2, numT 3, numT 5, numT 7] := by decide +kernel
/-- the lines behind the first one: the number of the first wrong one, or the dicts -/
def scanR (p : Int) : Nat → List Str → Nat ⊕ List Bg
  | _, [] => .inr []
  | k, t :: r => match readWs p t with
    | none => .inl k
    | some l => match scanR p (k + 1) r with
      | .inl e => .inl e
      | .inr ls => .inr (l :: ls)
theorem scanR_app (p : Int) : ∀ (a b : List Str) (k : Nat), scanR p k (a ++ b) = match scanR p k a with
    | .inl e => .inl e
    | .inr ls => match scanR p (k + a.length) b with
      | .inl e => .inl e
      | .inr ms => .inr (ls ++ ms)
  | [], b, k => by
    rw [List.nil_append, scanR.eq_1]
    dsimp only
    rw [show k + ([] : List Str).length = k from rfl]
    cases scanR p k b <;> rfl
  | t :: r, b, k => by
    rw [List.cons_append, scanR.eq_2, scanR.eq_2]
    cases readWs p t with
    | none => rfl
    | some l =>
      dsimp only
      rw [scanR_app p r b (k + 1), List.length_cons, show k + 1 + r.length = k + (r.length + 1) by omega]
      cases scanR p (k + 1) r with
      | inl e => rfl
      | inr ls =>
        dsimp only
        cases scanR p (k + (r.length + 1)) b <;> rfl
theorem scanR_len {p : Int} : ∀ {a : List Str} {k : Nat} {ls : List Bg}, scanR p k a = .inr ls → ls.length = a.length
  | [], _, ls, h => by cases h; rfl
  | t :: r, k, ls, h => by
    rw [scanR.eq_2] at h
    cases hr : readWs p t with
    | none => rw [hr] at h; cases h
    | some l =>
      rw [hr] at h
      dsimp only at h
      cases h2 : scanR p (k + 1) r with
      | inl e => rw [h2] at h; cases h
      | inr ms =>
        rw [h2] at h
        cases h
        rw [List.length_cons, List.length_cons, scanR_len h2]
theorem scanR_ok {p : Int} (hp2 : 2 ≤ p) (hp : p ≤ 7) : ∀ {a : List Str} {k : Nat} {ls : List Bg}, scanR p k a = .inr ls → ∀ l ∈ ls, RdOk p l
  | [], _, ls, h => by cases h; exact fun _ h => nomatch h
  | t :: r, k, ls, h => by
    rw [scanR.eq_2] at h
    cases hr : readWs p t with
    | none => rw [hr] at h; cases h
    | some l =>
      rw [hr] at h
      dsimp only at h
      cases h2 : scanR p (k + 1) r with
      | inl e => rw [h2] at h; cases h
      | inr ms =>
        rw [h2] at h
        cases h
        intro x hx
        rcases List.mem_cons.mp hx with rfl | hx
        · exact readWs_ok hp2 hp hr
        · exact scanR_ok hp2 hp h2 x hx
/-- what a text of a row tells -/
def readRow (t : Str) : Nat ⊕ (Int × List Bg) :=
  let L := Txt.split t (Str.ofString "\n")
  if L.dropLast ≠ [] ∧ L.dropLast.headD Str.empty ∉ clkT then .inl 1
  else match scanR (clkN (L.dropLast.headD Str.empty)) 2 (L.dropLast.drop 1) with
    | .inl e => .inl e
    | .inr ls => if ls = [] ∨ L.getLastD Str.empty ≠ Str.ofString "" then .inl (L.dropLast.length + 1) else .inr (clkN (L.dropLast.headD Str.empty), ls)
theorem readRow_eq {t la : Str} {cl : List Str} (h : Txt.split t (Str.ofString "\n") = cl ++ [la]) : readRow t = if cl ≠ [] ∧ cl.headD Str.empty ∉ clkT then .inl 1
  else match scanR (clkN (cl.headD Str.empty)) 2 (cl.drop 1) with
    | .inl e => .inl e
    | .inr ls => if ls = [] ∨ la ≠ Str.ofString "" then .inl (cl.length + 1) else .inr (clkN (cl.headD Str.empty), ls) := by
  unfold readRow
  rw [h]
  dsimp only
  rw [List.dropLast_concat, List.getLastD_concat]
theorem cutV_drop (xs : List V) (i : Nat) : cutV xs (some (i : Int)) none = xs.drop i := by
  unfold cutV
  rw [HT.sIx_none, HT.sIx_nat]
  rcases Nat.le_total i xs.length with h | h
  · rw [Nat.min_eq_left h, List.take_of_length_le (by rw [List.length_drop]; exact Nat.le_refl _)]
  · rw [Nat.min_eq_right h, List.drop_length, List.drop_of_length_le h, List.take_nil]
theorem BagAt.exhT {H H' : Hp} {h a : Addr} {p : Int} {s : Bg} {xs : List V} (e : ExB h H H') (hh : H h = some (.lst xs)) (b : BagAt Cs H a p s) : BagAt Cs H' a p s := by
  obtain ⟨C, dx, d, k, t, h0, h1, h2, ⟨qs, o, h3, h4, h5⟩⟩ := b.ex
  exact ⟨C, dx, d, k, t, h0, e _ _ (ne_of h1 hh (fun z => nomatch z)) h1, e _ _ (ne_of h2 hh (fun z => nomatch z)) h2, ⟨qs, o, e _ _ (ne_of h3 hh (fun z => nomatch z)) h3, h4, Paired.mapP h5 fun q kv z => e _ _ (ne_of z hh (fun z => nomatch z)) z⟩⟩
theorem g_iEnum {ta : TA} {σ : L2.St} {H : Hp} {R : It → Hp → Prop} (h : ta σ H fun vs H1 => ∃ a xs, vs = [.ref a] ∧ SqL K H1 a xs ∧ R (Ite K a) H1) : iEnum K ta σ H R := h
abbrev BagsL (Cs : Addr → Prop) (H : Hp) (p : Int) (qs : List Addr) (ls : List Bg) : Prop := Paired (fun q l => BagAt Cs H q p l) qs ls
def sp_read_rowX (K : PySem.W.Frag) (C_BadText : Addr) (Cs : Addr → Prop) : Sp := fun vs H Q E => ∃ y, vs = [y] ∧ ((NoStr K H y ∧ (∀ d H', Ex H H' → H' d = some (.xd [("line", .int 0)]) → E (.ref C_BadText) (some d) H')) ∨
  ∃ t : Str, y = .str t ∧ t.length ≤ 1000000 ∧ (∀ n d H', readRow t = .inl n → Ex H H' → H' d = some (.xd [("line", .int n)]) → E (.ref C_BadText) (some d) H') ∧
    ∀ p ls r qs H', readRow t = .inr (p, ls) → Ex H H' → H' r = some (.lst (qs.map V.ref)) → BagsL Cs H' p qs ls → Q (.ref r) H')
theorem ok_read_rowX {C_BadText : Addr} {f : Addr} {fd : FuncData} (F : Fun K "read_row" "read_row" s_read_row f fd) (T : Txt K mg C_Bag Cs) (D_read_words : DefOk P w K mg base CX0 4 "read_words" ["clock", "text"] sp_read_words) (D_raw : DefOk P w K mg base CX0 8 "raw" ["clock", "sparse"] (sp_raw Cs))
    (X_BadText : ErrF P w K mg base 1 "BadText" C_BadText "line") : FnOk P w K mg base (L2.CX P w) 9 f fd ["text"] (sp_read_rowX K C_BadText Cs) := by
  refine F.okX sc_read_row (fun vs H Q E h => ?_) (fun cdv A outer s H vs Q E hr h => ?_)
  · obtain ⟨y, rfl, _⟩ := h
    rfl
  · obtain ⟨y, rfl, h⟩ := h
    obtain ⟨a_CLOCKS, T_CLOCKS, hC⟩ := T.g_CLOCKS
    have hu := hu_of hr; have hu64 := L2.Room.units hr; refine ⟨_, (pss_cons (ps_if (pt_not (pt_val (pe_callB (r := rIsi K) call_isi (by rfl) T.b_isinstance (by decide +kernel) (pa_cons (pv 0) (pa_cons (pe_bltn (v := .ty "str") rfl T.b_str (by decide +kernel) rfl) pa_nil))))) (pss_one (ps_errF rfl (takes_of rfl rfl rfl rfl) X_BadText (hr.mono (by decide)) rfl pe_int)) pss_nil) (pss_cons (ps_set (i := 1) sc_read_row.nd rfl (by first | exact Or.inl rfl | exact Or.inr rfl) (pe_split (pv 0) pe_str)) (pss_cons (ps_set (i := 2) sc_read_row.nd rfl (by first | exact Or.inl rfl | exact Or.inr rfl) (pe_bm0 PySem.F.plainAttrs_list PySem.F.slot_list_pop PySem.F.type_list_pop mt_pop (pv 1))) (pss_cons (ps_if (PW.pt (pw_and (pt_cmpR op_gt (pe_callB call_len_seq (by rfl) T.b_len (by decide +kernel) (pa_cons (pv 1) pa_nil)) pe_int (nomark _)) (pw_and1 (pt_cmpR op_notIn_seq (pe_ix (r := rIxL K) ix_list (pv 1) pe_int (fun _ _ => rfl)) (pe_lc (own := [("clock", 3)]) (g := (gName 3)) (tt := tYes) rfl sc_read_row.nd (pi_tup (pe_glob (v := .ref a_CLOCKS) rfl T_CLOCKS rfl)) (blkOk_by (N := N_read_row) (sc := defScope s_read_row) (by decide +kernel)) (fun _ _ _ _ _ => (pg_name (i := 3) sc_read_row.nd rfl (by first | exact Or.inl rfl | exact Or.inr rfl))) (fun _ _ _ _ _ => pts_nil) (fun _ _ _ _ _ => (pe_callTy call_str_int (by rfl) T.b_str (by decide +kernel) (pa_cons (pv 3) pa_nil)))) (by rfl))))) (pss_one (ps_errF rfl (takes_of rfl rfl rfl rfl) X_BadText (hr.mono (by decide)) rfl pe_int)) pss_nil) (pss_cons (ps_set (i := 4) sc_read_row.nd rfl (by first | exact Or.inl rfl | exact Or.inr rfl) (pe_lst pa_nil)) (pss_cons (ps_for (passes_of rfl) rfl (pi_enum rfl T.b_enumerate (pa_cons (pe_slice sl_list (pv 1) (po_some pe_int) po_none) pa_nil)) (pg_tup rfl (pgs_cons (pg_name (i := 5) sc_read_row.nd rfl (by first | exact Or.inl rfl | exact Or.inr rfl)) (pgs_cons (pg_name (i := 6) sc_read_row.nd rfl (by first | exact Or.inl rfl | exact Or.inr rfl)) pgs_nil))) (pss_cons (ps_set (i := 7) sc_read_row.nd rfl (by first | exact Or.inl rfl | exact Or.inr rfl) (pe_callD D_read_words (hr.mono (by decide)) rfl pass0 (pa_cons (pe_callTy call_int_str (by rfl) T.b_int (by decide +kernel) (pa_cons (pe_ix (r := rIxL K) ix_list (pv 1) pe_int (fun _ _ => rfl)) pa_nil)) (pa_cons (pv 6) pa_nil)))) (pss_cons (ps_if (pt_cmpR op_isN (pv 7) pe_non (nomark _)) (pss_one (ps_errF rfl (takes_of rfl rfl rfl rfl) X_BadText (hr.mono (by decide)) rfl (pe_op op_add (pv 5) pe_int))) pss_nil) (pss_one (ps_expr (pe_bmK (K := K) rfl (pe_bm (r := rAppend) PySem.F.plainAttrs_list PySem.F.slot_list_append PySem.F.type_list_append mt_append (pv 4) (pa_cons (pe_callD D_raw (hr.mono (by decide)) rfl pass0 (pa_cons (pe_callTy call_int_str (by rfl) T.b_int (by decide +kernel) (pa_cons (pe_ix (r := rIxL K) ix_list (pv 1) pe_int (fun _ _ => rfl)) pa_nil)) (pa_cons (pv 7) pa_nil))) pa_nil)))))))) (pss_cons (ps_if (PW.pt (pw_or (pt_cmpR op_eq (pe_callB call_len_seq (by rfl) T.b_len (by decide +kernel) (pa_cons (pv 4) pa_nil)) pe_int (nomark _)) (pw_or1 (pt_cmpR op_ne (pv 2) pe_str (nomark _))))) (pss_one (ps_errF rfl (takes_of rfl rfl rfl rfl) X_BadText (hr.mono (by decide)) rfl (pe_op op_add (pe_callB call_len_seq (by rfl) T.b_len (by decide +kernel) (pa_cons (pv 1) pa_nil)) pe_int))) pss_nil) (pss_one (ps_ret (pv 4)))))))))), ?_⟩; rw [st_read_row]; (try dsimp only [cxOf]); walk_at "go"
    rcases h with ⟨⟨ty, ht, hk⟩, k⟩ | ⟨t, rfl, ht, k1, k2⟩
    · refine g_isi (b := false) ht hk ?_
      walk_at "go"
      refine g_errF ?_
      walk_at "go"
      exact errF_end (R := fun d H' => E (.ref C_BadText) d H') fun d hd => k d _ (Ex.new hd) upd_same
    refine g_isi (n := "str") (t := .type "str") (b := true) (.base (.str t)) (kit_ty (by decide +kernel)) ?_
    walk_at "go"
    refine ⟨⟨_, rfl⟩, ?_⟩
    walk_at "go"
    have hsl : (Str.ofString "\n").length = 1 := by decide +kernel
    refine ⟨t, _, rfl, rfl, by rw [hsl]; rfl, Nat.le_trans (by omega : t.length + 2 ≤ 1000002) (by decide), fun q1 hq1 => ?_⟩
    have hple := PyProof.Rows.split_le t (Str.ofString "\n")
    have hpart : ∀ u ∈ Txt.split t (Str.ofString "\n"), u.length ≤ t.length := fun u hu => split_part hu
    obtain ⟨cl, la, hcl⟩ : ∃ cl la, Txt.split t (Str.ofString "\n") = cl ++ [la] := ⟨_, _, (List.dropLast_concat_getLast (split_ne t (Str.ofString "\n"))).symm⟩
    have hrow := readRow_eq hcl
    rw [hcl] at hple hpart ⊢
    have e1 : Ex H (upd H q1 (.lst ((cl ++ [la]).map V.str))) := Ex.new hq1
    have h1 := upd_same (H := H) (a := q1) (o := .lst ((cl ++ [la]).map V.str))
    generalize upd H q1 (.lst ((cl ++ [la]).map V.str)) = H1 at e1 h1 ⊢
    walk_at "go"
    refine ⟨_, rfl, .inl ⟨rfl, _, SqL.of h1⟩, q1, _, .str la, rfl, rfl, h1, ?_, ?_⟩
    · rw [List.map_append, List.getElem?_append_right (by rw [List.length_append]; simp), List.length_append]
      simp
    have e2 : Ex H (upd H1 q1 (.lst ((cl ++ [la]).map V.str).dropLast)) := Ex.mut e1 hq1
    have h2 := upd_same (H := H1) (a := q1) (o := .lst ((cl ++ [la]).map V.str).dropLast)
    have hdl : ((cl ++ [la]).map V.str).dropLast = cl.map V.str := by rw [List.map_append]; exact List.dropLast_concat
    rw [hdl] at e2 h2 ⊢
    generalize upd H1 q1 (.lst (cl.map V.str)) = H2 at e2 h2 ⊢
    clear e1 h1
    rw [List.length_append] at hple
    have hple : cl.length ≤ t.length + 1 := by
      have h3 : ([la] : List Str).length = 1 := rfl
      omega
    refine g_name ?_
    dsimp only [List.set]
    refine g_seq ?_
    have hpart : ∀ u ∈ cl, u.length ≤ t.length := fun u hu => hpart u (List.mem_append_left _ hu)
    refine g_ifT (fun g H' => Ex H2 H' ∧ (g = true ↔ (cl ≠ [] ∧ cl.headD Str.empty ∉ clkT))) (fun QB hQ => ?_) ?_ ?_
    · walk_at "go"
      refine ⟨q1, _, rfl, .inl (SqL.of h2), ?_⟩
      rw [List.length_map]
      walk_at "go"
      refine g_ite (fun g1 => ?_) fun g1 => ?_
      · have g1' : 0 < cl.length := by have := of_decide_eq_true g1; omega
        obtain ⟨c0, r, rfl⟩ := List.exists_cons_of_ne_nil (List.ne_nil_of_length_pos g1')
        walk_at "go"
        refine g_ixl (SqL.of h2) (atI_get (by decide) rfl) ?_
        walk_at "go"
        have hCk : ∀ Hx : Hp, SqT K Hx a_CLOCKS [.int 2, .int 3, .int 5, .int 7] := fun Hx => hC.elim (fun h => h.elim (fun h => nomatch h) fun ⟨_, h⟩ => nomatch h) .inr
        refine ⟨⟨_, hCk _⟩, ?_⟩
        refine lc_pure (walk_tup (xs := [.int 2, .int 3, .int 5, .int 7])) (clkT.map V.str) rfl (Nat.le_of_ble_eq_true rfl) (fun H' e => hCk _) (fun _ => rfl) ?_ ?_
        · rintro i y z HU HV Kc hi eU ⟨rfl, hz⟩ hzy hK
          rw [clkT_num] at hzy
          have hz : ([.int 2, .int 3, .int 5, .int 7] : List V)[i]? = some y := hz
          walk_at "go"
          match i, hz, hzy with
          | 0, hz, hzy =>
            cases hz
            cases hzy
            exact ⟨2, rfl, by decide, hK _ (Ex.refl _)⟩
          | 1, hz, hzy =>
            cases hz
            cases hzy
            exact ⟨3, rfl, by decide, hK _ (Ex.refl _)⟩
          | 2, hz, hzy =>
            cases hz
            cases hzy
            exact ⟨5, rfl, by decide, hK _ (Ex.refl _)⟩
          | 3, hz, hzy =>
            cases hz
            cases hzy
            exact ⟨7, rfl, by decide, hK _ (Ex.refl _)⟩
          | i + 4, hz, _ => simp at hz
        · intro D H3 hD e3 hlD
          refine ⟨D, _, rfl, .inl (SqL.of hlD), rfl, flat_strs _, ?_⟩
          rw [inV_str, if_pos rfl]
          walk_at "go"
          refine hQ _ _ ⟨e3, ?_⟩
          show (!decide (c0 ∈ clkT)) = true ↔ _
          rw [Bool.not_eq_true', decide_eq_false_iff_not]
          exact ⟨fun z => ⟨by simp, z⟩, fun z => z.2⟩
      · have g1' : cl = [] := by
          have := of_decide_eq_false g1
          exact List.length_eq_zero_iff.mp (by omega)
        exact hQ _ _ ⟨Ex.refl _, ⟨(fun z => nomatch z), fun z => absurd g1' z.1⟩⟩
    · rintro H3 ⟨e3, hg⟩
      rw [if_pos (hg.mp rfl)] at hrow
      refine g_errF ?_
      walk_at "go"
      exact errF_end (R := fun d H' => E (.ref C_BadText) d H') fun d hd => k1 1 d _ hrow (e2.trans (e3.trans (Ex.new hd))) upd_same
    · rintro H3 ⟨e3, hg⟩
      have hgn : ¬ (cl ≠ [] ∧ cl.headD Str.empty ∉ clkT) := fun z => Bool.noConfusion (hg.mpr z)
      have h3 := e3 _ _ h2
      have e23 := e2.trans e3
      clear hg e3 h2 e2
      walk_at "go"
      refine ⟨Nat.zero_le _, fun fo hfo => ?_⟩
      have e4 : Ex H (upd H3 fo (.lst [])) := e23.trans (Ex.new hfo)
      have hf4 := upd_same (H := H3) (a := fo) (o := .lst [])
      have h4 := Ex.new hfo (o := .lst []) _ _ h3
      have hfq : fo ≠ q1 := (ne_of_none h3 hfo).symm
      have hfo0 : H fo = none := e23.free hfo
      generalize upd H3 fo (.lst []) = H4 at e4 hf4 h4 ⊢
      clear h3 e23
      walk_at "go"
      refine g_iEnum ?_
      walk_at "go"
      refine ⟨q1, _, rfl, SqL.of h4, fun sl hsl => ?_⟩
      rw [show (1 : Int) = ((1 : Nat) : Int) from rfl, cutV_drop, ← List.map_drop]
      have e5 : Ex H (upd H4 sl (.lst ((cl.drop 1).map V.str))) := e4.trans (Ex.new hsl)
      have hs5 := upd_same (H := H4) (a := sl) (o := .lst ((cl.drop 1).map V.str))
      have h5 := Ex.new hsl (o := .lst ((cl.drop 1).map V.str)) _ _ h4
      have hf5 := Ex.new hsl (o := .lst ((cl.drop 1).map V.str)) _ _ hf4
      have hfs : fo ≠ sl := ne_of_none hf4 hsl
      generalize upd H4 sl (.lst ((cl.drop 1).map V.str)) = H5 at e5 hs5 h5 hf5 ⊢
      clear hf4 e4 h4
      walk_at "go"
      refine ⟨sl, _, rfl, SqL.of hs5, ?_⟩
      have hlen5 : ((cl.drop 1).map V.str).length = cl.length - 1 := by rw [List.length_map, List.length_drop]
      refine forG (walk_enum (xs := (cl.drop 1).map V.str)) (fun i σ' H' => (∃ y3 y5 y6 y7, σ' = [some (.str t), some (.ref q1), some (.str la), y3, some (.ref fo), y5, y6, y7]) ∧ Ex H H' ∧ H' q1 = some (.lst (cl.map V.str)) ∧ H' sl = some (.lst ((cl.drop 1).map V.str)) ∧
        ∃ qs ls, H' fo = some (.lst (qs.map V.ref)) ∧ BagsL Cs H' (clkN (cl.headD Str.empty)) qs ls ∧ scanR (clkN (cl.headD Str.empty)) 2 ((cl.drop 1).take i) = .inr ls)
        ⟨⟨_, _, _, _, rfl⟩, e5, h5, hs5, [], [], hf5, .nil, rfl⟩ (fun i σ' H' _ q => SqL.of q.2.2.2.1) ?_ ?_
      · rintro i x σ' H6 H7 hi ⟨⟨y3, y5, y6, y7, rfl⟩, e6, h6, hs6, qs, ls, hf6, hb6, hscan⟩ ⟨T', x1, y1, rfl, hT, rfl, hx1, hy1⟩
        cases Option.some.inj hx1
        have hy1 : ((cl.drop 1).map V.str)[i]? = some y1 := hy1
        rw [hlen5] at hi
        obtain ⟨c0, r, rfl⟩ := List.exists_cons_of_ne_nil (List.ne_nil_of_length_pos (by omega : 0 < cl.length))
        have hdr : (c0 :: r).drop 1 = r := rfl
        rw [hdr] at *
        have hhd : (c0 :: r).headD Str.empty = c0 := rfl
        rw [hhd] at *
        rw [List.getElem?_map] at hy1
        obtain ⟨ln, hln, rfl⟩ := Option.map_eq_some_iff.mp hy1
        have hc0 : c0 ∈ clkT := Classical.byContradiction fun z => hgn ⟨by simp, z⟩
        obtain ⟨hci, hcc, hcl6⟩ := clkT_int c0 hc0
        have eT : Ex H6 (upd H6 T' (.tup [.int (i : Nat), .str ln])) := Ex.new hT
        have e7 := e6.trans eT
        have h7 := eT _ _ h6
        have hs7 := eT _ _ hs6
        have hf7 := eT _ _ hf6
        have hb7 : BagsL Cs (upd H6 T' (.tup [.int (i : Nat), .str ln])) (clkN c0) qs ls := Paired.mapP hb6 fun _ _ z => z.ex' eT
        have hT7 := upd_same (H := H6) (a := T') (o := .tup [.int (i : Nat), .str ln])
        generalize upd H6 T' (.tup [.int (i : Nat), .str ln]) = H7 at e7 h7 hs7 hf7 hb7 hT7 ⊢
        clear e6 h6 hs6 hf6 hb6 eT
        walk_at "go"
        refine g_gtup (SqT.of hT7) rfl ?_
        refine g_gcons ?_
        refine g_name ?_
        refine g_gcons ?_
        refine g_name ?_
        refine g_gnil ?_
        dsimp only [List.set]
        walk_at "go"
        have hat0 : atI ((c0 :: r).map V.str) 0 = some (.str c0) := atI_get (by decide) rfl
        refine g_ixl (SqL.of h7) hat0 ?_
        walk_at "go"
        refine ⟨c0, _, rfl, hci, hcl6, ?_⟩
        walk_at "go"
        have hlnm : ln ∈ c0 :: r := List.mem_of_mem_drop (List.mem_of_getElem? hln)
        have hp2 : 2 ≤ clkN c0 := by omega
        have hp7 : clkN c0 ≤ 7 := by omega
        refine ⟨clkN c0, ln, rfl, hp2, hp7, Nat.le_trans (hpart ln hlnm) ht, fun v H8 e8 hv => ?_⟩
        have h8 := e8 _ _ h7
        have hs8 := e8 _ _ hs7
        have hf8 := e8 _ _ hf7
        have hb8 : BagsL Cs H8 (clkN c0) qs ls := Paired.mapP hb7 fun _ _ z => z.ex' e8
        have hln' : r[i]? = some ln := hln
        have htk : r.take (i + 1) = r.take i ++ [ln] := by rw [List.take_add_one, hln']; rfl
        have hscan' : scanR (clkN c0) 2 (r.take i) = .inr ls := hscan
        have hlsl := scanR_len hscan'
        rw [List.length_take] at hlsl
        have hil : i < r.length := (List.getElem?_eq_some_iff.mp hln').1
        have hsp : r = r.take i ++ ln :: r.drop (i + 1) := by
          have h1 : r.drop i = ln :: r.drop (i + 1) := by
            obtain ⟨hl, h2⟩ := List.getElem?_eq_some_iff.mp hln'
            rw [List.drop_eq_getElem_cons hl, h2]
          rw [← h1, List.take_append_drop]
        walk_at "go"
        rcases hv with ⟨hv, rfl⟩ | ⟨d, l, hv, rfl, hd⟩
        · refine ⟨rfl, _, rfl, ?_⟩
          rw [decide_eq_true rfl, if_pos rfl]
          refine g_errF ?_
          walk_at "go"
          have hbad : scanR (clkN c0) 2 r = .inl (2 + i) := by
            rw [hsp, scanR_app, hscan']
            dsimp only
            rw [scanR.eq_2, hv, List.length_take, Nat.min_eq_left (by omega)]
          have hrow' : readRow t = .inl (2 + i) := by
            rw [hrow, if_neg hgn]
            show (match scanR (clkN c0) 2 r with | .inl e => Sum.inl e | .inr ls => if ls = [] ∨ la ≠ Str.ofString "" then .inl ((c0 :: r).length + 1) else .inr (clkN c0, ls)) = _
            rw [hbad]
          refine errF_end (R := fun d H' => E (.ref C_BadText) d H') fun d hd => k1 (2 + i) d _ hrow' (e7.trans (e8.trans (Ex.new hd))) ?_
          rw [upd_same]
          congr 5
          omega
        · have L := (readWs_ok hp2 hp7 hv).lot
          refine ⟨rfl, _, rfl, ?_⟩
          rw [decide_eq_false (fun z => nomatch z), if_neg Bool.false_ne_true]
          walk_at "go"
          refine ⟨.inl ⟨rfl, _, SqL.of hf8⟩, ?_⟩
          walk_at "go"
          refine g_ixl (SqL.of h8) hat0 ?_
          walk_at "go"
          refine ⟨c0, _, rfl, hci, hcl6, ?_⟩
          walk_at "go"
          refine ⟨d, clkN c0, l, rfl, hd, Nat.le_trans L.n (by decide), (fun u hu => Nat.le_trans (L.l u hu).1 (by decide)), L.g.nd, fun y H9 e9 hy hby => ?_⟩
          have hf9 := e9 _ _ hf8
          have hb9 : BagsL Cs H9 (clkN c0) qs ls := Paired.mapP hb8 fun _ _ z => z.ex' e9
          have hqsl : qs.length = ls.length := hb9.length
          walk_at "go"
          refine ⟨fo, _, _, rfl, rfl, hf9, by rw [List.length_map, hqsl]; exact Nat.lt_of_le_of_lt (by omega : ls.length ≤ 1000001) (by decide), ?_⟩
          have e789 : Ex H H9 := e7.trans (e8.trans e9)
          refine ⟨⟨_, _, _, _, rfl⟩, Ex.mut e789 hfo0, by rw [upd_ne hfq.symm]; exact e9 _ _ h8, by rw [upd_ne hfs.symm]; exact e9 _ _ hs8, qs ++ [y], ls ++ [l], ?_, ?_, ?_⟩
          · rw [upd_same, List.map_append]
            rfl
          · have eB : ExB fo H9 (L2.upd H9 fo (.lst (qs.map V.ref ++ [.ref y]))) := ExB.upd (ExB.refl _ _)
            exact Paired.snoc (Paired.mapP hb9 fun _ _ z => z.exhT eB hf9) (hby.exhT eB hf9)
          · show scanR (clkN c0) 2 (r.take (i + 1)) = _
            rw [htk, scanR_app, hscan']
            dsimp only
            rw [scanR.eq_2, hv]
            rfl
      · rintro σ' H6 ⟨⟨y3, y5, y6, y7, rfl⟩, e6, h6, hs6, qs, ls, hf6, hb6, hscan⟩
        rw [List.length_map, List.take_length] at hscan
        rw [if_neg hgn, hscan] at hrow
        have hrow : readRow t = if ls = [] ∨ la ≠ Str.ofString "" then .inl (cl.length + 1) else .inr (clkN (cl.headD Str.empty), ls) := hrow
        have hqsl : qs.length = ls.length := hb6.length
        dsimp only
        refine g_seq ?_
        refine g_ifT (fun g H' => H6 = H' ∧ (g = true ↔ (ls = [] ∨ la ≠ Str.ofString ""))) (fun QB hQ => ?_) ?_ ?_
        · walk_at "go"
          refine ⟨fo, _, rfl, .inl (SqL.of hf6), ?_⟩
          rw [List.length_map, hqsl]
          walk_at "go"
          refine g_ite (fun g1 => ?_) fun g1 => ?_
          · refine hQ _ _ ⟨rfl, fun _ => .inl (List.length_eq_zero_iff.mp ?_), fun _ => rfl⟩
            have := of_decide_eq_true g1
            injection this with this
            omega
          · have n1 : ls ≠ [] := fun z => of_decide_eq_false g1 (by rw [z]; rfl)
            walk_at "go"
            refine hQ _ _ ⟨rfl, fun z => .inr fun w => ?_, fun z => ?_⟩
            · rw [w, decide_eq_true rfl] at z
              cases z
            · rcases z with z | z
              · exact absurd z n1
              · rw [decide_eq_false fun w => z (V.str.inj w)]
                rfl
        · rintro H7 ⟨rfl, hg⟩
          rw [if_pos (hg.mp rfl)] at hrow
          refine g_errF ?_
          walk_at "go"
          refine ⟨q1, _, rfl, .inl (SqL.of h6), ?_⟩
          rw [List.length_map]
          walk_at "go"
          refine errF_end (R := fun d H' => E (.ref C_BadText) d H') fun d hd => k1 _ d _ hrow (e6.trans (Ex.new hd)) ?_
          rw [upd_same]
          rfl
        · rintro H7 ⟨rfl, hg⟩
          rw [if_neg (fun z => Bool.noConfusion (hg.mpr z))] at hrow
          walk_at "go"
          exact k2 _ _ fo qs _ hrow e6 hf6 hb6

end
end Fp



namespace Fp
open PySem L2
section
variable {P : Program} {w : World} {K : PySem.W.Frag} {mg : Str → Option Value} {base : Heap} {C_Bag : Addr} {Cs : Addr → Prop}
local macro_rules | `(tactic| walk_at "hp") => `(tactic| first | assumption | rfl)
local macro_rules | `(tactic| walk_at "cond") => `(tactic| first | assumption | decide | omega | (unfold CMul; omega) | (refine ⟨?_, ?_⟩ <;> omega) | (unfold CDiv; omega) | (unfold CPow; omega))
local macro_rules | `(tactic| walk_at "g1") => `(tactic| first
  | with_reducible first
    | refine g_seq ?_ | refine g_asg ?_ | refine g_name ?_ | refine g_ret ?_ | refine g_retN ?_ | refine g_drop ?_ | refine g_ifs ?_
    | refine g_c ?_ | refine g_op ?_ | refine g_un ?_ | refine g_I0 ?_ | refine g_U ?_
    | refine g_test ?_ | refine g_tB ?_ | refine g_bl ?_ | refine g_and ?_ | refine g_or ?_ | refine g_not ?_
    | refine g_andV ?_ | refine g_orV ?_ | refine g_notV ?_ | refine g_if ?_ | refine g_nil ?_ | refine g_cons ?_ | refine g_cb ?_ | refine g_call ?_
    | refine g_lst ?_ | refine g_tup ?_ | refine g_itT ?_ | refine g_itF ?_ | refine g_itNT ?_ | refine g_itNF ?_ | refine g_lc ?_ | refine g_iStr ?_ | refine g_yes ?_ | refine g_exs ?_
    | refine g_chain ?_ | refine g_dget ?_ | refine g_dput ?_ | refine g_dget2 ?_ | refine g_dpop2 ?_ | refine g_fld ?_ | refine g_sfld ?_ | refine g_make ?_ | refine g_meth ?_
    | refine g_bm ?_ | refine g_kw ?_ | refine g_callS ?_ | refine g_revL ?_ | refine g_m1 ?_ | refine g_gsub ?_ | refine g_for ?_ | refine g_iList ?_ | refine g_iTup ?_ | refine g_iRng1 ?_ | refine g_iRng2 ?_ | refine g_sl ?_ | refine g_part ?_ | refine g_noPart ?_
    | refine g_exi ?_ | refine g_exr ?_ | refine g_dnew ?_ | refine g_disp ?_ | refine g_prs0 ?_ | refine g_prs ?_ | refine g_nxt ?_
  | ((with_reducible refine g_var (v := ?vv) ?gv ?_); (case gv => exact rfl))
  | ((with_reducible refine g_I ?gc ?_); (case gc => walk_at "cond"))
  | ((with_reducible refine g_eq ?ge ?_); (case ge => exact rfl))
  | ((with_reducible refine g_ne ?ge ?_); (case ge => exact rfl))
  | (refine g_ixl (SqL.of (by first | assumption | exact upd_same)) rfl ?_)
  | (refine g_setl (by first | assumption | exact upd_same) rfl ?_)
  | ((with_reducible show (∃ i, [V.int _] = [V.int i] ∧ _) ∨ _); refine Or.inl ⟨_, rfl, ?_⟩)
  | ((with_reducible show ∃ i, [V.int _] = [V.int i] ∧ _); refine ⟨_, rfl, ?_⟩)
  | dsimp only)
local macro_rules | `(tactic| walk_at "go") => `(tactic| repeat (walk_at "g1"))

theorem cutV_init (xs : List V) : cutV xs none (some (-1)) = xs.dropLast := by
  unfold cutV
  rw [HT.sIx_none, List.drop_zero, Nat.sub_zero, List.dropLast_eq_take]
  congr 1
  unfold HT.sIx
  show (if (-1 : Int) < 0 then _ else _) = _
  rw [if_pos (by decide)]
  omega
theorem readRow_ok {t : Str} {p : Int} {ls : List Bg} (h : readRow t = .inr (p, ls)) : Clk p ∧ ∀ l ∈ ls, RdOk p l := by
  obtain ⟨cl, la, hcl⟩ : ∃ cl la, Txt.split t (Str.ofString "\n") = cl ++ [la] := ⟨_, _, (List.dropLast_concat_getLast (split_ne t (Str.ofString "\n"))).symm⟩
  rw [readRow_eq hcl] at h
  split at h
  · cases h
  · rename_i hn
    match cl, hn, h with
    | [], hn, h =>
      rw [show ([] : List Str).drop 1 = [] from rfl, scanR.eq_1] at h
      dsimp only at h
      rw [if_pos (.inl rfl)] at h
      cases h
    | c0 :: r, hn, h =>
      have hc0 : c0 ∈ clkT := Classical.byContradiction fun z => hn ⟨by simp, z⟩
      obtain ⟨hci, hcc, hcl6⟩ := clkT_int c0 hc0
      rw [show (c0 :: r).headD Str.empty = c0 from rfl] at h
      cases hs : scanR (clkN c0) 2 ((c0 :: r).drop 1) with
      | inl e =>
        rw [hs] at h
        cases h
      | inr ms =>
        rw [hs] at h
        dsimp only at h
        split at h
        · cases h
        · cases h
          exact ⟨hcc, scanR_ok (by omega) (by omega) hs⟩
abbrev DictsL (H : Hp) (ds : List Addr) (ls : List Bg) : Prop := Paired (fun d l => H d = some (.dK (toK l))) ds ls
/-- what is due of a text of a row -/
def DueV (H : Hp) (r : Addr) (o : Nat ⊕ (Int × List Bg)) : Prop := (∃ n : Nat, o = .inl n ∧ H r = some (.tup [.str "bad", .int n])) ∨
  ∃ (p : Int) (ls : List Bg) (lt : Addr) (ds : List Addr), o = .inr (p, ls) ∧ H r = some (.tup [.str "told", .int p, .ref lt]) ∧ H lt = some (.lst (ds.map V.ref)) ∧ DictsL H ds ls
def sp_rd_due : Sp := fun vs H Q _ => ∃ t : Str, vs = [.str t] ∧ t.length ≤ 1000000 ∧ ∀ r H', Ex H H' → DueV H' r (readRow t) → Q (.ref r) H'
theorem ok_law_due {f : Addr} {fd : FuncData} (F : Fun K "_law_due" "_law_due" s_law_due f fd) (T : Txt K mg C_Bag Cs) (D_law_read : DefOk P w K mg base CX0 2 "_law_read" ["_law_clock_here", "_law_text"] sp_read_words) : FnOk P w K mg base CX0 3 f fd ["_law_text"] sp_rd_due := by
  refine F.ok sc_law_due (fun vs H Q E h => ?_) (fun cdv A outer s H vs Q E hr h => ?_)
  · obtain ⟨t, rfl, _⟩ := h
    rfl
  · obtain ⟨t, rfl, ht, k⟩ := h
    have hu := hu_of hr; have hu64 := L2.Room.units hr; refine ⟨_, (pss_cons (ps_set (i := 1) sc_law_due.nd rfl (by first | exact Or.inl rfl | exact Or.inr rfl) (pe_split (pv 0) pe_str)) (pss_cons (ps_set (i := 2) sc_law_due.nd rfl (by first | exact Or.inl rfl | exact Or.inr rfl) (pe_slice sl_list (pv 1) po_none (po_some (pe_un un_neg pe_int)))) (pss_cons (ps_if (PW.pt (pw_and (pt_cmpR op_gt (pe_callB call_len_seq (by rfl) T.b_len (by decide +kernel) (pa_cons (pv 2) pa_nil)) pe_int (nomark _)) (pw_and1 (pt_cmpR op_notIn_seq (pe_ix (r := rIxL K) ix_list (pv 2) pe_int (fun _ _ => rfl)) (pe_lst (pa_cons pe_str (pa_cons pe_str (pa_cons pe_str (pa_cons pe_str pa_nil))))) (by rfl))))) (pss_one (ps_ret (pe_tup (pa_cons pe_str (pa_cons pe_int pa_nil))))) pss_nil) (pss_cons (ps_set (i := 3) sc_law_due.nd rfl (by first | exact Or.inl rfl | exact Or.inr rfl) (pe_lst pa_nil)) (pss_cons (ps_for PassesOwn.never rfl (pi_range2 rfl T.b_range (pa_cons pe_int (pa_cons (pe_callB call_len_seq (by rfl) T.b_len (by decide +kernel) (pa_cons (pv 2) pa_nil)) pa_nil))) (pg_name (i := 4) sc_law_due.nd rfl (by first | exact Or.inl rfl | exact Or.inr rfl)) (pss_cons (ps_set (i := 5) sc_law_due.nd rfl (by first | exact Or.inl rfl | exact Or.inr rfl) (pe_callD D_law_read (hr.mono (by decide)) rfl pass0 (pa_cons (pe_callTy call_int_str (by rfl) T.b_int (by decide +kernel) (pa_cons (pe_ix (r := rIxL K) ix_list (pv 2) pe_int (fun _ _ => rfl)) pa_nil)) (pa_cons (pe_ix (r := rIxL K) ix_list (pv 2) (pv 4) (fun _ _ => rfl)) pa_nil)))) (pss_cons (ps_if (pt_cmpR op_isN (pv 5) pe_non (nomark _)) (pss_one (ps_ret (pe_tup (pa_cons pe_str (pa_cons (pe_op op_add (pv 4) pe_int) pa_nil))))) pss_nil) (pss_one (ps_expr (pe_bmK (K := K) rfl (pe_bm (r := rAppend) PySem.F.plainAttrs_list PySem.F.slot_list_append PySem.F.type_list_append mt_append (pv 3) (pa_cons (pv 5) pa_nil)))))))) (pss_cons (ps_if (PW.pt (pw_or (pt_cmpR op_lt (pe_callB call_len_seq (by rfl) T.b_len (by decide +kernel) (pa_cons (pv 2) pa_nil)) pe_int (nomark _)) (pw_or1 (pt_cmpR op_ne (pe_ix (r := rIxL K) ix_list (pv 1) (pe_un un_neg pe_int) (fun _ _ => rfl)) pe_str (nomark _))))) (pss_one (ps_ret (pe_tup (pa_cons pe_str (pa_cons (pe_op op_add (pe_callB call_len_seq (by rfl) T.b_len (by decide +kernel) (pa_cons (pv 2) pa_nil)) pe_int) pa_nil))))) pss_nil) (pss_one (ps_ret (pe_tup (pa_cons pe_str (pa_cons (pe_callTy call_int_str (by rfl) T.b_int (by decide +kernel) (pa_cons (pe_ix (r := rIxL K) ix_list (pv 2) pe_int (fun _ _ => rfl)) pa_nil)) (pa_cons (pv 3) pa_nil)))))))))))), ?_⟩; rw [st_law_due]; (try dsimp only [cxOf]); walk_at "go"
    refine ⟨⟨_, rfl⟩, ?_⟩
    walk_at "go"
    have hsl : (Str.ofString "\n").length = 1 := by decide +kernel
    refine ⟨t, _, rfl, rfl, by rw [hsl]; rfl, Nat.le_trans (by omega : t.length + 2 ≤ 1000002) (by decide), fun q1 hq1 => ?_⟩
    have hple := PyProof.Rows.split_le t (Str.ofString "\n")
    have hpart : ∀ u ∈ Txt.split t (Str.ofString "\n"), u.length ≤ t.length := fun u hu => split_part hu
    obtain ⟨cl, la, hcl⟩ : ∃ cl la, Txt.split t (Str.ofString "\n") = cl ++ [la] := ⟨_, _, (List.dropLast_concat_getLast (split_ne t (Str.ofString "\n"))).symm⟩
    have hrow := readRow_eq hcl
    rw [hcl] at hple hpart ⊢
    have e1 : Ex H (upd H q1 (.lst ((cl ++ [la]).map V.str))) := Ex.new hq1
    have h1 := upd_same (H := H) (a := q1) (o := .lst ((cl ++ [la]).map V.str))
    generalize upd H q1 (.lst ((cl ++ [la]).map V.str)) = H1 at e1 h1 ⊢
    walk_at "go"
    refine ⟨q1, _, rfl, SqL.of h1, fun q2 hq2 => ?_⟩
    rw [cutV_init, List.map_append, show (cl.map V.str ++ [la].map V.str).dropLast = cl.map V.str from List.dropLast_concat]
    have e2 : Ex H (upd H1 q2 (.lst (cl.map V.str))) := e1.trans (Ex.new hq2)
    have h2 := upd_same (H := H1) (a := q2) (o := .lst (cl.map V.str))
    have h12 := Ex.new hq2 (o := .lst (cl.map V.str)) _ _ h1
    generalize upd H1 q2 (.lst (cl.map V.str)) = H2 at e2 h2 h12 ⊢
    clear e1 h1
    rw [List.length_append] at hple
    have hple : cl.length ≤ t.length + 1 := by
      have h3 : ([la] : List Str).length = 1 := rfl
      omega
    have hpart : ∀ u ∈ cl, u.length ≤ t.length := fun u hu => hpart u (List.mem_append_left _ hu)
    refine g_name ?_
    dsimp only [List.set]
    refine g_seq ?_
    refine g_ifT (fun g H' => Ex H2 H' ∧ (g = true ↔ (cl ≠ [] ∧ cl.headD Str.empty ∉ clkT))) (fun QB hQ => ?_) ?_ ?_
    · walk_at "go"
      refine ⟨q2, _, rfl, .inl (SqL.of h2), ?_⟩
      rw [List.length_map]
      walk_at "go"
      refine g_ite (fun g1 => ?_) fun g1 => ?_
      · have g1' : 0 < cl.length := by have := of_decide_eq_true g1; omega
        obtain ⟨c0, r, rfl⟩ := List.exists_cons_of_ne_nil (List.ne_nil_of_length_pos g1')
        walk_at "go"
        refine g_ixl (SqL.of h2) (atI_get (by decide) rfl) ?_
        walk_at "go"
        refine ⟨Nat.le_of_ble_eq_true rfl, fun D hD => ?_⟩
        refine ⟨D, clkT.map V.str, rfl, .inl (SqL.of upd_same), rfl, flat_strs _, ?_⟩
        rw [inV_str, if_pos rfl]
        walk_at "go"
        refine hQ _ _ ⟨Ex.new hD, ?_⟩
        show (!decide (c0 ∈ clkT)) = true ↔ _
        rw [Bool.not_eq_true', decide_eq_false_iff_not]
        exact ⟨fun z => ⟨by simp, z⟩, fun z => z.2⟩
      · have g1' : cl = [] := by
          have := of_decide_eq_false g1
          exact List.length_eq_zero_iff.mp (by omega)
        exact hQ _ _ ⟨Ex.refl _, ⟨(fun z => nomatch z), fun z => absurd g1' z.1⟩⟩
    · rintro H3 ⟨e3, hg⟩
      rw [if_pos (hg.mp rfl)] at hrow
      walk_at "go"
      refine ⟨Nat.le_of_ble_eq_true rfl, fun tp htp => ?_⟩
      exact k tp _ (e2.trans (e3.trans (Ex.new htp))) (.inl ⟨1, hrow, upd_same⟩)
    · rintro H3 ⟨e3, hg⟩
      have hgn : ¬ (cl ≠ [] ∧ cl.headD Str.empty ∉ clkT) := fun z => Bool.noConfusion (hg.mpr z)
      have h3 := e3 _ _ h2
      have h13 := e3 _ _ h12
      have e23 := e2.trans e3
      clear hg e3 h2 e2 h12
      walk_at "go"
      refine ⟨Nat.zero_le _, fun fo hfo => ?_⟩
      have e5 : Ex H (upd H3 fo (.lst [])) := e23.trans (Ex.new hfo)
      have hf5 := upd_same (H := H3) (a := fo) (o := .lst [])
      have h5 := Ex.new hfo (o := .lst []) _ _ h3
      have h15 := Ex.new hfo (o := .lst []) _ _ h13
      have hfq : fo ≠ q2 := (ne_of_none h3 hfo).symm
      have hfq1 : fo ≠ q1 := (ne_of_none h13 hfo).symm
      have hfo0 : H fo = none := e23.free hfo
      generalize upd H3 fo (.lst []) = H5 at e5 hf5 h5 h15 ⊢
      clear h3 e23 h13
      walk_at "go"
      refine ⟨q2, _, rfl, .inl (SqL.of h5), ?_⟩
      rw [List.length_map]
      walk_at "go"
      refine ⟨1, _, rfl, ⟨by decide, by decide, by omega, by omega⟩, ?_⟩
      have hcn : ((cl.length : Int) - 1).toNat = cl.length - 1 := by omega
      refine forG walk_range (fun i σ' H' => (∃ y4 y5, σ' = [some (.str t), some (.ref q1), some (.ref q2), some (.ref fo), y4, y5]) ∧ Ex H H' ∧ H' q1 = some (.lst ((cl ++ [la]).map V.str)) ∧ H' q2 = some (.lst (cl.map V.str)) ∧
        ∃ ds ls, H' fo = some (.lst (ds.map V.ref)) ∧ DictsL H' ds ls ∧ scanR (clkN (cl.headD Str.empty)) 2 ((cl.drop 1).take i) = .inr ls)
        ⟨⟨_, _, rfl⟩, e5, h15, h5, [], [], hf5, .nil, rfl⟩ (fun _ _ _ _ _ => trivial) ?_ ?_
      · rintro i x σ' H6 H7 hi ⟨⟨y4, y5, rfl⟩, e7, h17, h7, ds, ls, hf7, hb7, hscan⟩ ⟨rfl, rfl⟩
        rw [hcn] at hi
        obtain ⟨c0, r, rfl⟩ := List.exists_cons_of_ne_nil (List.ne_nil_of_length_pos (by omega : 0 < cl.length))
        have hdr : (c0 :: r).drop 1 = r := rfl
        rw [hdr] at *
        have hhd : (c0 :: r).headD Str.empty = c0 := rfl
        rw [hhd] at *
        have hil : i < r.length := by
          rw [List.length_cons] at hi
          omega
        obtain ⟨ln, hln'⟩ : ∃ ln, r[i]? = some ln := ⟨_, List.getElem?_eq_getElem hil⟩
        have hc0 : c0 ∈ clkT := Classical.byContradiction fun z => hgn ⟨by simp, z⟩
        obtain ⟨hci, hcc, hcl6⟩ := clkT_int c0 hc0
        have hat0 : atI ((c0 :: r).map V.str) 0 = some (.str c0) := atI_get (by decide) rfl
        have hatk : atI ((c0 :: r).map V.str) (1 + (i : Int)) = some (.str ln) := atI_get (by omega) (by
          rw [show (1 + (i : Int)).toNat = i + 1 by omega, List.map_cons, List.getElem?_cons_succ, List.getElem?_map, hln']
          rfl)
        walk_at "go"
        refine g_ixl (SqL.of h7) hat0 ?_
        walk_at "go"
        refine ⟨c0, _, rfl, hci, hcl6, ?_⟩
        walk_at "go"
        refine g_ixl (SqL.of h7) hatk ?_
        walk_at "go"
        have hlnm : ln ∈ c0 :: r := List.mem_cons_of_mem _ (List.mem_of_getElem? hln')
        have hp2 : 2 ≤ clkN c0 := by omega
        have hp7 : clkN c0 ≤ 7 := by omega
        refine ⟨clkN c0, ln, rfl, hp2, hp7, Nat.le_trans (hpart ln hlnm) ht, fun v H8 e8 hv => ?_⟩
        have h8 := e8 _ _ h7
        have h18 := e8 _ _ h17
        have hf8 := e8 _ _ hf7
        have hb8 : DictsL H8 ds ls := Paired.mapP hb7 fun _ _ z => e8 _ _ z
        have htk : r.take (i + 1) = r.take i ++ [ln] := by rw [List.take_add_one, hln']; rfl
        have hscan' : scanR (clkN c0) 2 (r.take i) = .inr ls := hscan
        have hlsl := scanR_len hscan'
        rw [List.length_take] at hlsl
        have hsp : r = r.take i ++ ln :: r.drop (i + 1) := by
          have h1 : r.drop i = ln :: r.drop (i + 1) := by
            obtain ⟨hl, h2⟩ := List.getElem?_eq_some_iff.mp hln'
            rw [List.drop_eq_getElem_cons hl, h2]
          rw [← h1, List.take_append_drop]
        walk_at "go"
        rcases hv with ⟨hv, rfl⟩ | ⟨d, l, hv, rfl, hd⟩
        · refine ⟨rfl, _, rfl, ?_⟩
          rw [decide_eq_true rfl, if_pos rfl]
          walk_at "go"
          have hbad : scanR (clkN c0) 2 r = .inl (2 + i) := by
            rw [hsp, scanR_app, hscan']
            dsimp only
            rw [scanR.eq_2, hv, List.length_take, Nat.min_eq_left (by omega)]
          have hrow' : readRow t = .inl (2 + i) := by
            rw [hrow, if_neg hgn]
            show (match scanR (clkN c0) 2 r with | .inl e => Sum.inl e | .inr ls => if ls = [] ∨ la ≠ Str.ofString "" then .inl ((c0 :: r).length + 1) else .inr (clkN c0, ls)) = _
            rw [hbad]
          refine ⟨Nat.le_of_ble_eq_true rfl, fun tp htp => ?_⟩
          refine k tp _ (e7.trans (e8.trans (Ex.new htp))) (.inl ⟨2 + i, hrow', ?_⟩)
          rw [upd_same]
          congr 5
          omega
        · refine ⟨rfl, _, rfl, ?_⟩
          rw [decide_eq_false (fun z => nomatch z), if_neg Bool.false_ne_true]
          walk_at "go"
          refine ⟨.inl ⟨rfl, _, SqL.of hf8⟩, ?_⟩
          have hqsl : ds.length = ls.length := hb8.length
          walk_at "go"
          refine ⟨fo, _, _, rfl, rfl, hf8, by rw [List.length_map, hqsl]; exact Nat.lt_of_le_of_lt (by omega : ls.length ≤ 1000001) (by decide), ?_⟩
          have e78 : Ex H H8 := e7.trans e8
          refine ⟨⟨_, _, rfl⟩, Ex.mut e78 hfo0, by rw [upd_ne hfq1.symm]; exact h18, by rw [upd_ne hfq.symm]; exact h8, ds ++ [d], ls ++ [l], ?_, ?_, ?_⟩
          · rw [upd_same, List.map_append]
            rfl
          · have ne : ∀ {x : Addr} {kvs : List (Key × V)}, H8 x = some (.dK kvs) → upd H8 fo (.lst (ds.map V.ref ++ [.ref d])) x = some (.dK kvs) := fun z => by rw [upd_ne (ne_of z hf8 (fun z => nomatch z))]; exact z
            exact Paired.snoc (Paired.mapP hb8 fun _ _ z => ne z) (ne hd)
          · show scanR (clkN c0) 2 (r.take (i + 1)) = _
            rw [htk, scanR_app, hscan']
            dsimp only
            rw [scanR.eq_2, hv]
            rfl
      · rintro σ' H6 ⟨⟨y4, y5, rfl⟩, e6, h16, h6, ds, ls, hf6, hb6, hscan⟩
        rw [hcn, show (cl.drop 1).take (cl.length - 1) = cl.drop 1 from List.take_of_length_le (by rw [List.length_drop]; exact Nat.le_refl _)] at hscan
        have hll := scanR_len hscan
        rw [List.length_drop] at hll
        rw [if_neg hgn, hscan] at hrow
        have hrow : readRow t = if ls = [] ∨ la ≠ Str.ofString "" then .inl (cl.length + 1) else .inr (clkN (cl.headD Str.empty), ls) := hrow
        dsimp only
        refine g_seq ?_
        refine g_ifT (fun g H' => H6 = H' ∧ (g = true ↔ (ls = [] ∨ la ≠ Str.ofString ""))) (fun QB hQ => ?_) ?_ ?_
        · walk_at "go"
          refine ⟨q2, _, rfl, .inl (SqL.of h6), ?_⟩
          rw [List.length_map]
          walk_at "go"
          refine g_ite (fun g1 => ?_) fun g1 => ?_
          · refine hQ _ _ ⟨rfl, fun _ => .inl (List.length_eq_zero_iff.mp ?_), fun _ => rfl⟩
            have := of_decide_eq_true g1
            omega
          · have n1 : ls ≠ [] := fun z => by
              have := of_decide_eq_false g1
              have h0 : ls.length = 0 := by rw [z]; rfl
              omega
            walk_at "go"
            refine g_ixl (SqL.of h16) (by rw [List.map_append]; exact atI_last _ _) ?_
            walk_at "go"
            refine hQ _ _ ⟨rfl, fun z => .inr fun w => ?_, fun z => ?_⟩
            · rw [w, decide_eq_true rfl] at z
              cases z
            · rcases z with z | z
              · exact absurd z n1
              · rw [decide_eq_false fun w => z (V.str.inj w)]
                rfl
        · rintro H7 ⟨rfl, hg⟩
          rw [if_pos (hg.mp rfl)] at hrow
          walk_at "go"
          refine ⟨q2, _, rfl, .inl (SqL.of h6), ?_⟩
          rw [List.length_map]
          walk_at "go"
          refine ⟨Nat.le_of_ble_eq_true rfl, fun tp htp => ?_⟩
          refine k tp _ (e6.trans (Ex.new htp)) (.inl ⟨_, hrow, ?_⟩)
          rw [upd_same]
          rfl
        · rintro H7 ⟨rfl, hg⟩
          have hgn2 : ¬ (ls = [] ∨ la ≠ Str.ofString "") := fun z => Bool.noConfusion (hg.mpr z)
          rw [if_neg hgn2] at hrow
          obtain ⟨c0, r, rfl⟩ : ∃ c0 r, cl = c0 :: r := List.exists_cons_of_ne_nil fun z => hgn2 (.inl (by
            rw [z] at hll
            exact List.length_eq_zero_iff.mp hll))
          have hc0 : c0 ∈ clkT := Classical.byContradiction fun z => hgn ⟨by simp, z⟩
          obtain ⟨hci, hcc, hcl6⟩ := clkT_int c0 hc0
          have hat0 : atI ((c0 :: r).map V.str) 0 = some (.str c0) := atI_get (by decide) rfl
          walk_at "go"
          refine g_ixl (SqL.of h6) hat0 ?_
          walk_at "go"
          refine ⟨c0, _, rfl, hci, hcl6, ?_⟩
          walk_at "go"
          refine ⟨Nat.le_of_ble_eq_true rfl, fun tp htp => ?_⟩
          have eT : Ex H6 (upd H6 tp (.tup [.str (Str.ofString "told"), .int (clkN c0), .ref fo])) := Ex.new htp
          exact k tp _ (e6.trans eT) (.inr ⟨_, ls, fo, ds, hrow, upd_same, eT _ _ hf6, Paired.mapP hb6 fun _ _ z => eT _ _ z⟩)

end
end Fp



namespace Fp
open PySem L2
section
variable {P : Program} {w : World} {K : PySem.W.Frag} {mg : Str → Option Value} {base : Heap} {C_Bag : Addr} {Cs : Addr → Prop}
local macro_rules | `(tactic| walk_at "hp") => `(tactic| first | assumption | rfl)
local macro_rules | `(tactic| walk_at "cond") => `(tactic| first | assumption | decide | omega | (unfold CMul; omega) | (refine ⟨?_, ?_⟩ <;> omega) | (unfold CDiv; omega) | (unfold CPow; omega))
local macro_rules | `(tactic| walk_at "g1") => `(tactic| first
  | with_reducible first
    | refine g_seq ?_ | refine g_asg ?_ | refine g_name ?_ | refine g_ret ?_ | refine g_retN ?_ | refine g_drop ?_ | refine g_ifs ?_
    | refine g_c ?_ | refine g_op ?_ | refine g_un ?_ | refine g_I0 ?_ | refine g_U ?_
    | refine g_test ?_ | refine g_tB ?_ | refine g_bl ?_ | refine g_and ?_ | refine g_or ?_ | refine g_not ?_
    | refine g_andV ?_ | refine g_orV ?_ | refine g_notV ?_ | refine g_if ?_ | refine g_nil ?_ | refine g_cons ?_ | refine g_cb ?_ | refine g_call ?_
    | refine g_lst ?_ | refine g_tup ?_ | refine g_itT ?_ | refine g_itF ?_ | refine g_itNT ?_ | refine g_itNF ?_ | refine g_lc ?_ | refine g_iStr ?_ | refine g_yes ?_ | refine g_exs ?_
    | refine g_chain ?_ | refine g_dget ?_ | refine g_dput ?_ | refine g_dget2 ?_ | refine g_dpop2 ?_ | refine g_fld ?_ | refine g_sfld ?_ | refine g_make ?_ | refine g_meth ?_
    | refine g_bm ?_ | refine g_kw ?_ | refine g_callS ?_ | refine g_revL ?_ | refine g_m1 ?_ | refine g_gsub ?_ | refine g_for ?_ | refine g_iList ?_ | refine g_iTup ?_ | refine g_iRng1 ?_ | refine g_iRng2 ?_ | refine g_sl ?_ | refine g_part ?_ | refine g_noPart ?_
    | refine g_exi ?_ | refine g_exr ?_ | refine g_dnew ?_ | refine g_disp ?_ | refine g_prs0 ?_ | refine g_prs ?_ | refine g_nxt ?_
  | ((with_reducible refine g_var (v := ?vv) ?gv ?_); (case gv => exact rfl))
  | ((with_reducible refine g_I ?gc ?_); (case gc => walk_at "cond"))
  | ((with_reducible refine g_eq ?ge ?_); (case ge => exact rfl))
  | ((with_reducible refine g_ne ?ge ?_); (case ge => exact rfl))
  | (refine g_ixl (SqL.of (by first | assumption | exact upd_same)) rfl ?_)
  | (refine g_setl (by first | assumption | exact upd_same) rfl ?_)
  | ((with_reducible show (∃ i, [V.int _] = [V.int i] ∧ _) ∨ _); refine Or.inl ⟨_, rfl, ?_⟩)
  | ((with_reducible show ∃ i, [V.int _] = [V.int i] ∧ _); refine ⟨_, rfl, ?_⟩)
  | dsimp only)
local macro_rules | `(tactic| walk_at "go") => `(tactic| repeat (walk_at "g1"))

theorem lc_mutT {J : It} {n : Nat} {G : Hp → Prop} {Y : Nat → Hp → V → Hp → Prop} (w : Walk J n G Y) {f : Addr} {o0 : HO} {j : Nat} {te : TE} {vs : List Nat} {σ : St} {H1 : Hp} {Q : VK} (hf : H1 f = some o0) (hn : n ≤ sizeLine) (I : Hp → Prop) (h0 : I H1)
    (hI : ∀ H D o, (H D = none ∨ ∃ xs, H D = some (.lst xs)) → I H → I (upd H D o)) (hG : ∀ H, ExB f H1 H → I H → G H) (P : V → Prop) (hw : ∀ x, wipe ((wipe σ vs).set j x) vs = wipe σ vs)
    (hs : ∀ i x H H' (K : VK), i < n → ExB f H1 H → I H → Y i H x H' → (∀ y H4, ExB f H H4 → I H4 → P y → K y H4) → te ((wipe σ vs).set j (some x)) H' K)
    (hd : ∀ D H' ys, H1 D = none → ExB f H1 H' → I H' → H' D = some (.lst ys) → ys.length = n → (∀ y ∈ ys, P y) → Q (.ref D) H') :
    LcG J (gName j) tYes te vs σ H1 Q := by
  intro D hD
  have hDf : D ≠ f := Ne.symm (ne_of_none hf hD)
  refine lc_it w (fun i H => ExB f H1 H ∧ I H ∧ ∃ ys, H D = some (.lst ys) ∧ ys.length = i ∧ ∀ y ∈ ys, P y) ⟨(Ex.new hD).exb, hI _ _ _ (.inl hD) h0, [], upd_same, rfl, fun _ h => nomatch h⟩ (fun i H _ p => hG H p.1 p.2.1) ?_ (fun H p => ?_)
  · rintro i x H H' hi ⟨e, hi1, ys, hacc, hl, hp⟩ hy
    refine ⟨hw _, ?_⟩
    unfold tYes
    dsimp only
    rw [if_pos rfl]
    refine hs i x H H' _ hi e hi1 hy fun z H4 e4 i4 pz => ⟨ys, e4 _ _ hDf hacc, by omega, ?_, hI _ _ _ (.inr ⟨_, e4 _ _ hDf hacc⟩) i4, ys ++ [z], upd_same, by rw [List.length_append, hl]; rfl, fun y hy => ?_⟩
    · exact fun a o hne q => by rw [upd_ne (ne_of_none q hD)]; exact e4 a o hne (e a o hne q)
    · rcases List.mem_append.mp hy with h | h
      · exact hp y h
      · rw [List.mem_singleton.mp h]; exact pz
  · obtain ⟨e, hi, ys, h, hl, hp⟩ := p
    exact hd D H ys hD e hi h hl hp
theorem TabS.upd {H : Hp} {T0 D : Addr} {q : Str} {o : HO} (h : TabS H T0 q) (hD : H D = none ∨ ∃ xs, H D = some (.lst xs)) : TabS (upd H D o) T0 q := by
  rcases hD with hD | ⟨xs, hD⟩
  · exact h.ex' (Ex.new hD)
  · exact h.exb (ExB.upd (ExB.refl D H)) hD (fun _ z => nomatch z) (fun _ z => nomatch z)
theorem TabS.kind {H : Hp} {T0 : Addr} {q : Str} (h : TabS H T0 q) : ∃ ps, H T0 = some (.tbl ps) := by
  obtain ⟨ps, h1, _⟩ := h
  exact ⟨ps, h1⟩

theorem readRow_len {t : Str} {p : Int} {ls : List Bg} (h : readRow t = .inr (p, ls)) : ls.length ≤ t.length + 2 := by
  have hple := PyProof.Rows.split_le t (Str.ofString "\n")
  obtain ⟨cl, la, hcl⟩ : ∃ cl la, Txt.split t (Str.ofString "\n") = cl ++ [la] := ⟨_, _, (List.dropLast_concat_getLast (split_ne t (Str.ofString "\n"))).symm⟩
  rw [readRow_eq hcl] at h
  rw [hcl, List.length_append] at hple
  split at h
  · cases h
  · cases hs : scanR (clkN (cl.headD Str.empty)) 2 (cl.drop 1) with
    | inl e =>
      rw [hs] at h
      cases h
    | inr ms =>
      rw [hs] at h
      dsimp only at h
      split at h
      · cases h
      · cases h
        rw [scanR_len hs, List.length_drop]
        omega
/-- all of a list of true -/
theorem all_bl : ∀ {ys : List V}, (∀ y ∈ ys, y = V.bl true) → ∃ n, ys = (List.replicate n true).map V.bl
  | [], _ => ⟨0, rfl⟩
  | y :: r, h => by
    obtain ⟨n, hn⟩ := all_bl (ys := r) fun x hx => h x (List.mem_cons_of_mem _ hx)
    exact ⟨n + 1, by rw [h y List.mem_cons_self, hn]; rfl⟩
theorem all_rep (n : Nat) : (List.replicate n true).all id = true := by
  rw [List.all_eq_true]
  intro x hx
  exact (List.mem_replicate.mp hx).2
/-- what is told of a text of a row -/
def ToldR (Cs : Addr → Prop) (H : Hp) (r : Addr) (o : Nat ⊕ (Int × List Bg)) : Prop := (∃ n : Nat, o = .inl n ∧ H r = some (.tup [.str "bad", .int n])) ∨
  ∃ (p : Int) (ls : List Bg) (lt : Addr) (qs : List Addr), o = .inr (p, ls) ∧ H r = some (.tup [.str "told", .ref lt]) ∧ H lt = some (.lst (qs.map V.ref)) ∧ BagsL Cs H p qs ls
def sp_rd_toldR (K : PySem.W.Frag) (Cs : Addr → Prop) : Sp := fun vs H Q _ => ∃ y, vs = [y] ∧ ((NoStr K H y ∧ ∀ r H', Ex H H' → H' r = some (.tup [.str "bad", .int 0]) → Q (.ref r) H') ∨
  ∃ t : Str, y = .str t ∧ t.length ≤ 1000000 ∧ ∀ r H', Ex H H' → ToldR Cs H' r (readRow t) → Q (.ref r) H')
theorem ok_law_told {C_BadText : Addr} {f : Addr} {fd : FuncData} (F : Fun K "_law_told" "_law_told" s_law_told f fd) (T : Txt K mg C_Bag Cs) (D_read_rowX : DefOk P w K mg base (L2.CX P w) 9 "read_row" ["text"] (sp_read_rowX K C_BadText Cs)) (X_BadText : ErrF P w K mg base 1 "BadText" C_BadText "line")
    (XF_BadText : XfC K C_BadText) (NF_BadText : PySem.W.findIn K (.ref C_BadText) "line" = some none) (hex : PySem.W.exmOne K (.ref C_BadText) (.ref C_BadText) = some true) : FnOk P w K mg base CX0 10 f fd ["_law_text"] (sp_rd_toldR K Cs) := by
  refine F.ok sc_law_told (fun vs H Q E h => ?_) (fun cdv A outer s H vs Q E hr h => ?_)
  · obtain ⟨y, rfl, _⟩ := h
    rfl
  · obtain ⟨y, rfl, h⟩ := h
    have hu := hu_of hr; have hu64 := L2.Room.units hr; refine ⟨_, (pss_cons (ps_set (i := 1) sc_law_told.nd rfl (by first | exact Or.inl rfl | exact Or.inr rfl) (pe_tup (pa_cons pe_str (pa_cons pe_non pa_nil)))) (pss_cons (L2.ps_try_as (i := 2) (c := .ref C_BadText) rfl rfl sc_law_told.nd rfl rfl ⟨rfl, by decide, .inl X_BadText.ex.2.1⟩ takes0 (fun W pn xe tk _ => (pss_one (ps_set (i := 1) sc_law_told.nd rfl (by first | exact Or.inl rfl | exact Or.inr rfl) (pe_tup (pa_cons pe_str (pa_cons (pe_callDX D_read_rowX (hr.mono (by decide)) rfl tk (pa_cons (pv 0) pa_nil)) pa_nil)))))) (fun a oe cls d pn hz hf => (pss_one (ps_set (i := 1) sc_law_told.nd rfl (by first | exact Or.inl rfl | exact Or.inr rfl) (pe_tup (pa_cons pe_str (pa_cons (pe_xf XF_BadText NF_BadText hz hf (pv 2) rfl) pa_nil))))))) (pss_one (ps_ret (pv 1))))), ?_⟩; rw [st_law_told]; (try dsimp only [cxOf]); walk_at "go"
    refine ⟨Nat.le_of_ble_eq_true rfl, fun t0 ht0 => ?_⟩
    have e1 : Ex H (upd H t0 (.tup [.str (Str.ofString "none"), .non])) := Ex.new ht0
    generalize upd H t0 (.tup [.str (Str.ofString "none"), .non]) = H1 at e1 ⊢
    walk_at "go"
    rcases h with ⟨⟨ty, hy1, hy2⟩, k⟩ | ⟨t, rfl, ht, k⟩
    · refine ⟨_, rfl, .inl ⟨⟨ty, tyx_ex e1 hy1, hy2⟩, fun d H2 e2 hd => ?_⟩⟩
      refine ⟨true, hex, fun _ ax hax => ?_, fun z => nomatch z⟩
      walk_at "go"
      refine g_xf ?_
      walk_at "go"
      refine ⟨rfl, rfl, d, _, .int 0, rfl, hd, rfl, ?_⟩
      walk_at "go"
      refine ⟨Nat.le_of_ble_eq_true rfl, fun t1 ht1 => ?_⟩
      walk_at "go"
      exact k t1 _ (e1.trans (e2.trans (Ex.new ht1))) upd_same
    · refine ⟨_, rfl, .inr ⟨t, rfl, ht, fun n d H2 hn e2 hd => ?_, fun p ls r qs H2 hl e2 hr2 hb => ?_⟩⟩
      · refine ⟨true, hex, fun _ ax hax => ?_, fun z => nomatch z⟩
        walk_at "go"
        refine g_xf ?_
        walk_at "go"
        refine ⟨rfl, rfl, d, _, .int n, rfl, hd, rfl, ?_⟩
        walk_at "go"
        refine ⟨Nat.le_of_ble_eq_true rfl, fun t1 ht1 => ?_⟩
        walk_at "go"
        exact k t1 _ (e1.trans (e2.trans (Ex.new ht1))) (.inl ⟨n, hn, upd_same⟩)
      · walk_at "go"
        refine ⟨Nat.le_of_ble_eq_true rfl, fun t1 ht1 => ?_⟩
        walk_at "go"
        have e3 : Ex H2 (upd H2 t1 (.tup [.str (Str.ofString "told"), .ref r])) := Ex.new ht1
        exact k t1 _ (e1.trans (e2.trans e3)) (.inr ⟨p, ls, r, qs, hl, upd_same, e3 _ _ hr2, Paired.mapP hb fun _ _ z => z.ex' e3⟩)
def sp_rd_rightR (T0 : Addr) : Sp := fun vs H Q _ => ∃ (t : Str), vs = [.str t] ∧ t.length ≤ 1000000 ∧ TabS H T0 lamQ ∧ ∀ H', ExB T0 H H' → TabS H' T0 lamQ → Q (.bl true) H'
theorem ok_law_is_right {T0 : Addr} {f : Addr} {fd : FuncData} (F : Fun K "_law_is_right" "_law_is_right" s_law_is_right f fd) (T : Txt K mg C_Bag Cs) (D_law_due : DefOk P w K mg base CX0 3 "_law_due" ["_law_text"] sp_rd_due) (D_law_told : DefOk P w K mg base CX0 10 "_law_told" ["_law_text"] (sp_rd_toldR K Cs)) (D_law_is : DefOkG P w K mg base CX0 5 "_law_is" ["_law_told_here", "_law_clock_here", "_law_sparse_here"] (sp_bb_is T0 Cs)) : FnOkG P w K mg base CX0 11 f fd ["_law_text"] (sp_rd_rightR T0) := by
  refine fun_okG F sc_law_is_right (fun vs H Q E h => ?_) (fun cdv A outer s0 H vs Q E hr hgd h => ?_)
  · obtain ⟨t, rfl, _⟩ := h
    rfl
  · obtain ⟨t, rfl, htl, hT, k⟩ := h
    have hu := hu_of hr; have hu64 := L2.Room.units hr; refine ⟨_, (pss_cons (ps_set (i := 1) sc_law_is_right.nd rfl (by first | exact Or.inl rfl | exact Or.inr rfl) (pe_callD D_law_due (hr.mono (by decide)) rfl pass0 (pa_cons (pv 0) pa_nil))) (pss_cons (ps_set (i := 2) sc_law_is_right.nd rfl (by first | exact Or.inl rfl | exact Or.inr rfl) (pe_callD D_law_told (hr.mono (by decide)) rfl pass0 (pa_cons (pv 0) pa_nil))) (pss_cons (ps_if (pt_cmpR op_eq (pe_ix (r := rIxT K) ix_tup (pv 1) pe_int (fun _ _ => rfl)) pe_str (nomark _)) (pss_one (ps_ret (pe_cmpR (r := rEqP K false) (op_eqP hu64) (pv 2) (pv 1) (nomark _)))) pss_nil) (pss_cons (ps_if (PW.pt (pw_or (pt_cmpR op_ne (pe_ix (r := rIxT K) ix_tup (pv 2) pe_int (fun _ _ => rfl)) pe_str (nomark _)) (pw_or (pt_not (pt_val (pe_callB (r := rIsi K) call_isi (by rfl) T.b_isinstance (by decide +kernel) (pa_cons (pe_ix (r := rIxT K) ix_tup (pv 2) pe_int (fun _ _ => rfl)) (pa_cons (pe_bltn (v := .ty "list") rfl T.b_list (by decide +kernel) rfl) pa_nil))))) (pw_or1 (pt_cmpR op_ne (pe_callB call_lenA (by rfl) T.b_len (by decide +kernel) (pa_cons (pe_ix (r := rIxT K) ix_tup (pv 2) pe_int (fun _ _ => rfl)) pa_nil)) (pe_callB call_lenA (by rfl) T.b_len (by decide +kernel) (pa_cons (pe_ix (r := rIxT K) ix_tup (pv 1) pe_int (fun _ _ => rfl)) pa_nil)) (nomark _)))))) (pss_one (ps_ret pe_bl)) pss_nil) (pss_one (ps_ret (pe_callB (r := rAll K) (cr_all rfl) (by rfl) T.b_all (by decide +kernel) (pa_cons (pe_lc (own := [("_law_k", 3)]) (g := (gName 3)) (tt := tYes) rfl sc_law_is_right.nd (pi_range1 rfl T.b_range (pa_cons (pe_callB call_lenA (by rfl) T.b_len (by decide +kernel) (pa_cons (pe_ix (r := rIxT K) ix_tup (pv 1) pe_int (fun _ _ => rfl)) pa_nil)) pa_nil)) (blkOk_by (N := N_law_is_right) (sc := defScope s_law_is_right) (by decide +kernel)) (fun _ _ _ _ _ => (pg_name (i := 3) sc_law_is_right.nd rfl (by first | exact Or.inl rfl | exact Or.inr rfl))) (fun _ _ _ _ _ => pts_nil) (fun _ _ _ _ _ => (pe_callDG D_law_is (hr.mono (by decide)) hgd rfl pass0 (pa_cons (pe_ix (r := rIxL K) ix_list (pe_ix (r := rIxT K) ix_tup (pv 2) pe_int (fun _ _ => rfl)) (pv 3) (fun _ _ => rfl)) (pa_cons (pe_ix (r := rIxT K) ix_tup (pv 1) pe_int (fun _ _ => rfl)) (pa_cons (pe_ix (r := rIxL K) ix_list (pe_ix (r := rIxT K) ix_tup (pv 1) pe_int (fun _ _ => rfl)) (pv 3) (fun _ _ => rfl)) pa_nil)))))) pa_nil)))))))), ?_⟩; rw [st_law_is_right]; (try dsimp only [cxOf]); walk_at "go"
    refine ⟨t, rfl, htl, fun r1 H1 e1 hv1 => ?_⟩
    walk_at "go"
    refine ⟨_, rfl, .inr ⟨t, rfl, htl, fun r2 H2 e2 hv2 => ?_⟩⟩
    have e12 := e1.trans e2
    have hT2 := hT.ex' e12
    walk_at "go"
    rcases hv1 with ⟨n, hn, hr1⟩ | ⟨p, ls, lt, ds, hl, hr1, hlt, hds⟩
    · rw [hn] at hv2
      rcases hv2 with ⟨n', hn', hr2⟩ | ⟨_, _, _, _, hl', _⟩
      · cases hn'
        have hr12 := e2 _ _ hr1
        refine g_ixt (SqT.of hr12) rfl ?_
        walk_at "go"
        rw [if_pos (decide_eq_true rfl)]
        have dpb : ∀ {H : Hp} {q : Addr}, H q = some (.tup [.str "bad", .int n]) → Dp K H (.ref q) (pairD ("bad", n)) := fun h => .tup (SqT.of h) (.cons (.str _) (.cons (.int _) .nil))
        walk_at "go"
        refine ⟨_, _, dpb hr2, dpb hr12, by simp [pairD, PyData.plain, PyData.plainAll], by simp [pairD, PyData.plain, PyData.plainAll], by simp [pairD, PyData.depth, PyData.depthAll], ?_⟩
        rw [if_neg Bool.false_ne_true, eqv_pair, decide_eq_true rfl]
        exact k _ e12.exb hT2
      · cases hl'
    · rw [hl] at hv2
      obtain ⟨hp, hls⟩ := readRow_ok hl
      rcases hv2 with ⟨_, hl', _⟩ | ⟨p', ls', lb, qs, hl', hr2, hlb, hqs⟩
      · cases hl'
      · cases hl'
        have hr12 := e2 _ _ hr1
        have hlt2 := e2 _ _ hlt
        have hds2 : DictsL H2 ds ls := Paired.mapP hds fun _ _ z => e2 _ _ z
        have hdl := hds2.length
        have hql := hqs.length
        refine g_ixt (SqT.of hr12) rfl ?_
        walk_at "go"
        rw [if_neg (by decide +kernel)]
        walk_at "go"
        refine g_ixt (SqT.of hr2) rfl ?_
        walk_at "go"
        refine g_iff (by rw [decide_eq_true rfl]; rfl) ?_
        walk_at "go"
        refine g_ixt (SqT.of hr2) rfl ?_
        walk_at "go"
        refine g_isi (n := "list") (t := .type "list") (b := true) (.base (.lst hlb)) (kit_ty (by decide +kernel)) ?_
        walk_at "go"
        refine g_ixt (SqT.of hr2) rfl ?_
        walk_at "go"
        have lenA : ∀ {x : Addr} {xs : List V} {Hx : Hp} {G : VK}, Hx x = some (.lst xs) → G (.int (xs.length : Nat)) Hx → rLenA K [.ref x] Hx G := fun {x xs Hx G} h1 h2 => .inl ⟨_, _, rfl, by first | exact .inl ⟨_, SqL.of h1, rfl⟩ | exact .inr (.inl ⟨_, SqL.of h1, rfl⟩) | exact ⟨_, rfl, .inl ⟨_, SqL.of h1, rfl⟩⟩, h2⟩
        refine lenA hlb ?_
        rw [List.length_map, hql]
        walk_at "go"
        refine g_ixt (SqT.of hr12) rfl ?_
        walk_at "go"
        refine lenA hlt2 ?_
        rw [List.length_map, hdl]
        walk_at "go"
        refine g_iff (by rw [decide_eq_true rfl]; rfl) ?_
        walk_at "go"
        refine g_ixt (SqT.of hr12) rfl ?_
        walk_at "go"
        refine lenA hlt2 ?_
        rw [List.length_map, hdl]
        walk_at "go"
        have hlen := readRow_len hl
        refine ⟨by omega, by omega, ?_⟩
        have hto : ((ls.length : Nat) : Int).toNat = ls.length := by omega
        rw [hto]
        refine lc_mutT (f := T0) walk_range hT2.kind.choose_spec (Nat.le_trans (by omega : ls.length ≤ 1000002) (by decide)) (fun H => TabS H T0 lamQ) hT2 (fun H D o hD x => x.upd hD) (fun _ _ _ => trivial) (fun y => y = V.bl true) (fun _ => rfl) ?_ ?_
        · rintro i x H4 H5 Kc hi e4 hT4 ⟨rfl, rfl⟩ hk
          have kp : ∀ {a : Addr} {o : HO}, H2 a = some o → (∀ z, o ≠ .tbl z) → H5 a = some o := fun {a o} z ho => e4 _ _ (tab_ne hT2 z ho) z
          have f1 := kp hr12 (fun _ z => nomatch z)
          have f2 := kp hr2 (fun _ z => nomatch z)
          have f3 := kp hlb (fun _ z => nomatch z)
          have f4 := kp hlt2 (fun _ z => nomatch z)
          obtain ⟨l, hli⟩ : ∃ l, ls[i]? = some l := ⟨_, List.getElem?_eq_getElem hi⟩
          obtain ⟨q, hq, hqq⟩ := paired_ix hqs hli
          obtain ⟨d, hd, hdd⟩ := paired_ix hds2 hli
          have hat1 : atI (qs.map V.ref) (0 + (i : Int)) = some (.ref q) := atI_get (by omega) (by rw [show (0 + (i : Int)).toNat = i by omega, List.getElem?_map, hq]; rfl)
          have hat2 : atI (ds.map V.ref) (0 + (i : Int)) = some (.ref d) := atI_get (by omega) (by rw [show (0 + (i : Int)).toNat = i by omega, List.getElem?_map, hd]; rfl)
          walk_at "go"
          refine g_ixt (SqT.of f2) rfl ?_
          walk_at "go"
          refine g_ixl (SqL.of f3) hat1 ?_
          walk_at "go"
          refine g_ixt (SqT.of f1) rfl ?_
          walk_at "go"
          refine g_ixt (SqT.of f1) rfl ?_
          walk_at "go"
          refine g_ixl (SqL.of f4) hat2 ?_
          walk_at "go"
          exact ⟨q, d, p, l, l, 300, 12, rfl, hqq.exP e4 hT2, .inl (kp hdd (fun _ z => nomatch z)), (hls l (List.mem_of_getElem? hli)).lot, by decide, by decide, hp, rfl, hT4, fun H6 e6 hT6 => hk _ _ e6 hT6 rfl⟩
        intro D H4 ys hD e4 hT4 hlD _ hys
        obtain ⟨n4, rfl⟩ := all_bl hys
        refine ⟨D, _, rfl, SqL.of hlD, ?_⟩
        rw [all_rep]
        exact k _ (e12.exb.trans e4) hT4

end
end Fp



namespace Fp
open PySem L2
section
variable {P : Program} {w : World} {K : PySem.W.Frag} {mg : Str → Option Value} {base : Heap} {C_Bag : Addr} {Cs : Addr → Prop}
local macro_rules | `(tactic| walk_at "hp") => `(tactic| first | assumption | rfl)
local macro_rules | `(tactic| walk_at "cond") => `(tactic| first | assumption | decide | omega | (unfold CMul; omega) | (refine ⟨?_, ?_⟩ <;> omega) | (unfold CDiv; omega) | (unfold CPow; omega))
local macro_rules | `(tactic| walk_at "g1") => `(tactic| first
  | with_reducible first
    | refine g_seq ?_ | refine g_asg ?_ | refine g_name ?_ | refine g_ret ?_ | refine g_retN ?_ | refine g_drop ?_ | refine g_ifs ?_
    | refine g_c ?_ | refine g_op ?_ | refine g_un ?_ | refine g_I0 ?_ | refine g_U ?_
    | refine g_test ?_ | refine g_tB ?_ | refine g_bl ?_ | refine g_and ?_ | refine g_or ?_ | refine g_not ?_
    | refine g_andV ?_ | refine g_orV ?_ | refine g_notV ?_ | refine g_if ?_ | refine g_nil ?_ | refine g_cons ?_ | refine g_cb ?_ | refine g_call ?_
    | refine g_lst ?_ | refine g_tup ?_ | refine g_itT ?_ | refine g_itF ?_ | refine g_itNT ?_ | refine g_itNF ?_ | refine g_lc ?_ | refine g_iStr ?_ | refine g_yes ?_ | refine g_exs ?_
    | refine g_chain ?_ | refine g_dget ?_ | refine g_dput ?_ | refine g_dget2 ?_ | refine g_dpop2 ?_ | refine g_fld ?_ | refine g_sfld ?_ | refine g_make ?_ | refine g_meth ?_
    | refine g_bm ?_ | refine g_kw ?_ | refine g_callS ?_ | refine g_revL ?_ | refine g_m1 ?_ | refine g_gsub ?_ | refine g_for ?_ | refine g_iList ?_ | refine g_iTup ?_ | refine g_iRng1 ?_ | refine g_iRng2 ?_ | refine g_sl ?_ | refine g_part ?_ | refine g_noPart ?_
    | refine g_exi ?_ | refine g_exr ?_ | refine g_dnew ?_ | refine g_disp ?_ | refine g_prs0 ?_ | refine g_prs ?_ | refine g_nxt ?_
  | ((with_reducible refine g_var (v := ?vv) ?gv ?_); (case gv => exact rfl))
  | ((with_reducible refine g_I ?gc ?_); (case gc => walk_at "cond"))
  | ((with_reducible refine g_eq ?ge ?_); (case ge => exact rfl))
  | ((with_reducible refine g_ne ?ge ?_); (case ge => exact rfl))
  | (refine g_ixl (SqL.of (by first | assumption | exact upd_same)) rfl ?_)
  | (refine g_setl (by first | assumption | exact upd_same) rfl ?_)
  | ((with_reducible show (∃ i, [V.int _] = [V.int i] ∧ _) ∨ _); refine Or.inl ⟨_, rfl, ?_⟩)
  | ((with_reducible show ∃ i, [V.int _] = [V.int i] ∧ _); refine ⟨_, rfl, ?_⟩)
  | dsimp only)
local macro_rules | `(tactic| walk_at "go") => `(tactic| repeat (walk_at "g1"))

/-- pairs that stand -/
abbrev PairsAt (H : Hp) (qs : List Addr) (l : Bg) : Prop := Paired (fun q (kv : Str × Int) => H q = some (.tup [.str kv.1, .int kv.2])) qs l
def sp_text_ofT (K : PySem.W.Frag) : Sp := fun vs H Q _ => ∃ (a : Addr) (qs : List Addr) (l : Bg), vs = [.ref a] ∧ SqT K H a (qs.map V.ref) ∧ PairsAt H qs l ∧ l.length ≤ 1000 ∧ (∀ kv ∈ l, kv.1.length ≤ 1000 ∧ 0 ≤ kv.2 ∧ kv.2 ≤ 9) ∧ ∀ H', Ex H H' → Q (.str (textT l)) H'
theorem ok_law_text_of {f : Addr} {fd : FuncData} (F : Fun K "_law_text_of" "_law_text_of" s_law_text_of f fd) (T : Txt K mg C_Bag Cs) : FnOk P w K mg base CX0 1 f fd ["_law_pairs_here"] (sp_text_ofT K) := by
  refine F.ok sc_law_text_of (fun vs H Q E h => ?_) (fun cdv A outer s H vs Q E hr h => ?_)
  · obtain ⟨a, qs, l, rfl, _⟩ := h
    rfl
  · obtain ⟨a, qs, l, rfl, h1, h2, hl, hb, k⟩ := h
    have hql := h2.length
    have e3 : (Str.ofString " + ").length = 3 := by decide +kernel
    have esp : (Str.ofString " ").length = 1 := by decide +kernel
    have hu := hu_of hr; have hu64 := L2.Room.units hr; refine ⟨_, (pss_cons (ps_set (i := 1) sc_law_text_of.nd rfl (by first | exact Or.inl rfl | exact Or.inr rfl) (pe_lst pa_nil)) (pss_cons (ps_for PassesOwn.never rfl (pi_tup (pv 0)) (pg_tup rfl (pgs_cons (pg_name (i := 2) sc_law_text_of.nd rfl (by first | exact Or.inl rfl | exact Or.inr rfl)) (pgs_cons (pg_name (i := 3) sc_law_text_of.nd rfl (by first | exact Or.inl rfl | exact Or.inr rfl)) pgs_nil))) (pss_one (ps_if (pt_cmpR op_eq (pv 2) pe_str (nomark _)) (pss_one (ps_expr (pe_bmK (K := K) rfl (pe_bm (r := rAppend) PySem.F.plainAttrs_list PySem.F.slot_list_append PySem.F.type_list_append mt_append (pv 1) (pa_cons (pe_callTy call_str_int (by rfl) T.b_str (by decide +kernel) (pa_cons (pv 3) pa_nil)) pa_nil))))) (pss_one (ps_if (pt_cmpR op_eq (pv 3) pe_int (nomark _)) (pss_one (ps_expr (pe_bmK (K := K) rfl (pe_bm (r := rAppend) PySem.F.plainAttrs_list PySem.F.slot_list_append PySem.F.type_list_append mt_append (pv 1) (pa_cons (pv 2) pa_nil))))) (pss_one (ps_expr (pe_bmK (K := K) rfl (pe_bm (r := rAppend) PySem.F.plainAttrs_list PySem.F.slot_list_append PySem.F.type_list_append mt_append (pv 1) (pa_cons (pe_op op_add_str (pe_op op_add_str (pe_callTy call_str_int (by rfl) T.b_str (by decide +kernel) (pa_cons (pv 3) pa_nil)) pe_str) (pv 2)) pa_nil)))))))))) (pss_cons (ps_if (pt_cmpR op_eq (pe_callB call_len_seq (by rfl) T.b_len (by decide +kernel) (pa_cons (pv 1) pa_nil)) pe_int (nomark _)) (pss_one (ps_ret pe_str)) pss_nil) (pss_one (ps_ret (pe_join pe_str (pv 1))))))), ?_⟩; rw [st_law_text_of]; (try dsimp only [cxOf]); walk_at "go"
    refine ⟨Nat.zero_le _, fun r hr0 => ?_⟩
    have e1 : Ex H (upd H r (.lst [])) := Ex.new hr0
    have hr1 := upd_same (H := H) (a := r) (o := .lst [])
    generalize upd H r (.lst []) = H1 at e1 hr1 ⊢
    walk_at "go"
    have h11 := e1.sqt h1
    refine ⟨⟨_, h11⟩, ?_⟩
    refine forG (walk_tup (xs := qs.map V.ref)) (fun i σ' H' => ∃ y2 y3, σ' = [some (.ref a), some (.ref r), y2, y3] ∧ Ex H H' ∧ SqT K H' a (qs.map V.ref) ∧ H' r = some (.lst ((l.take i).map fun kv => V.str (pieceT kv)))) ⟨none, none, rfl, e1, h11, hr1⟩ (fun i σ' H' _ ⟨_, _, _, _, h, _⟩ => h) ?_ ?_
    · rintro i z σ' H2' H2 hi ⟨y2, y3, rfl, e2, ha2, hr2⟩ ⟨rfl, hz⟩
      rw [List.length_map, hql] at hi
      obtain ⟨kv, hkv⟩ : ∃ kv, l[i]? = some kv := ⟨_, List.getElem?_eq_getElem hi⟩
      obtain ⟨q, hq, hqq⟩ := paired_ix h2 hkv
      obtain rfl : z = .ref q := by
        have hz : (qs.map V.ref)[i]? = some z := hz
        rw [List.getElem?_map, hq] at hz
        exact (Option.some.inj hz).symm
      have hb1 := hb kv (List.mem_of_getElem? hkv)
      obtain ⟨u, n⟩ := kv
      have hu : u.length ≤ 1000 := hb1.1
      have h0 : 0 ≤ n := hb1.2.1
      have h9 : n ≤ 9 := hb1.2.2
      have hT : SqT K H2 q [.str u, .int n] := SqT.of (e2 _ _ hqq)
      have hle : ((l.take i).map fun kv => V.str (pieceT kv)).length < sizeLine := by
        rw [List.length_map, List.length_take]
        exact Nat.lt_of_le_of_lt (by omega : min i l.length ≤ 1000) (by decide)
      have fin : ∀ v, v = V.str (pieceT (u, n)) → upd H2 r (.lst (((l.take i).map fun kv => V.str (pieceT kv)) ++ [v])) r = some (.lst ((l.take (i + 1)).map fun kv => V.str (pieceT kv))) := fun v hv => by
        rw [upd_same, hv, List.take_succ, hkv, List.map_append]
        rfl
      refine g_gtup hT rfl (g_gcons ?_)
      (try dsimp only [gName])
      refine g_gcons ?_
      (try dsimp only [gName])
      refine g_gnil ?_
      walk_at "go"
      refine g_ite (fun g1 => ?_) fun g1 => ?_
      · have g1' : u = Str.ofString "" := by
          have := of_decide_eq_true g1
          injection this
        walk_at "go"
        refine ⟨.inl ⟨rfl, _, SqL.of hr2⟩, ?_⟩
        walk_at "go"
        refine ⟨log_small h0 (by omega), ?_⟩
        walk_at "go"
        refine ⟨r, _, _, rfl, rfl, hr2, hle, ?_⟩
        refine ⟨_, _, rfl, Ex.mut e2 hr0, (Ex.mut e2 hr0).sqt h1, fin _ ?_⟩
        unfold pieceT
        rw [if_pos g1']
        rfl
      · have g1' : u ≠ Str.ofString "" := fun z => of_decide_eq_false g1 (by rw [z])
        walk_at "go"
        refine g_ite (fun g2 => ?_) fun g2 => ?_
        · have g2' : n = 1 := by
            have := of_decide_eq_true g2
            injection this
          walk_at "go"
          refine ⟨.inl ⟨rfl, _, SqL.of hr2⟩, ?_⟩
          walk_at "go"
          refine ⟨r, _, _, rfl, rfl, hr2, hle, ?_⟩
          refine ⟨_, _, rfl, Ex.mut e2 hr0, (Ex.mut e2 hr0).sqt h1, fin _ ?_⟩
          unfold pieceT
          rw [if_neg g1', if_pos g2']
        · have g2' : n ≠ 1 := fun z => of_decide_eq_false g2 (by rw [z])
          walk_at "go"
          refine ⟨.inl ⟨rfl, _, SqL.of hr2⟩, ?_⟩
          walk_at "go"
          refine ⟨log_small h0 (by omega), ?_⟩
          walk_at "go"
          have e4 := len_numT h0 h9
          refine ⟨numT n, _, rfl, rfl, by rw [e4, esp]; decide, ?_⟩
          walk_at "go"
          have e5 : (numT n ++ Str.ofString " ").length = 2 := by
            show (numT n ++ Str.ofString " ").cps.toList.length = 2
            rw [app_toList, List.length_append]
            have e1' : (numT n).cps.toList.length = 1 := e4
            have e2' : (Str.ofString " ").cps.toList.length = 1 := esp
            rw [e1', e2']
          refine ⟨_, _, rfl, rfl, by rw [e5]; exact Nat.le_trans (by omega : 2 + u.length ≤ 2000) (by decide), ?_⟩
          walk_at "go"
          refine ⟨r, _, _, rfl, rfl, hr2, hle, ?_⟩
          refine ⟨_, _, rfl, Ex.mut e2 hr0, (Ex.mut e2 hr0).sqt h1, fin _ ?_⟩
          unfold pieceT
          rw [if_neg g1', if_neg g2']
    · rintro σ' H2 ⟨y2, y3, rfl, e2, ha2, hr2⟩
      rw [List.length_map, hql, List.take_length] at hr2
      walk_at "go"
      refine ⟨r, _, rfl, .inl (SqL.of hr2), ?_⟩
      rw [List.length_map]
      walk_at "go"
      have kk := k H2 e2
      unfold textT at kk
      refine g_ite (fun g1 => ?_) fun g1 => ?_
      · have g1' : l = [] := by
          have := of_decide_eq_true g1
          injection this with this
          exact List.length_eq_zero_iff.mp (by omega)
        rw [if_pos g1'] at kk
        walk_at "go"
        exact kk
      · have g1' : l ≠ [] := fun z => of_decide_eq_false g1 (by rw [z]; rfl)
        rw [if_neg g1'] at kk
        walk_at "go"
        refine ⟨⟨_, rfl⟩, ?_⟩
        walk_at "go"
        have hsum : ∀ z : Bg, (∀ kv ∈ z, kv.1.length ≤ 1000 ∧ 0 ≤ kv.2 ∧ kv.2 ≤ 9) → ((z.map pieceT).map fun x => x.length).sum ≤ z.length * 1002 := fun z => by
          induction z with
          | nil => intro _; exact Nat.zero_le _
          | cons kv z ih =>
            intro hz
            have h1 := hz kv List.mem_cons_self
            have h2 := piece_len (u := kv.1) (n := kv.2) (l := 1000) h1.2.1 (by omega) h1.1
            have h3 := ih fun q hq => hz q (List.mem_cons_of_mem _ hq)
            rw [List.map_cons, List.map_cons, List.sum_cons, List.length_cons, Nat.succ_mul]
            have h4 : (pieceT kv).length ≤ 1002 := h2
            omega
        have h5 := hsum l hb
        refine ⟨_, r, l.map pieceT, rfl, rfl, .inl (SqL.of (by rw [hr2, List.map_map]; rfl)), ?_, kk⟩
        rw [e3, List.length_map]
        omega

theorem paired_perm {α β : Type} {R : α → β → Prop} : ∀ {A A' : List α}, A'.Perm A → ∀ {B : List β}, Paired R A B → ∃ B', Paired R A' B' ∧ B'.Perm B := by
  intro A A' p
  induction p with
  | nil => exact fun h => ⟨_, h, List.Perm.refl _⟩
  | cons x _ ih =>
    intro B h
    cases h with
    | cons r h =>
      obtain ⟨B', h1, h2⟩ := ih h
      exact ⟨_ :: B', .cons r h1, h2.cons _⟩
  | swap x y l =>
    intro B h
    cases h with
    | cons r h =>
      cases h with
      | cons r2 h => exact ⟨_, .cons r2 (.cons r h), List.Perm.swap _ _ _⟩
  | trans _ _ ih1 ih2 =>
    intro B h
    obtain ⟨B1, h1, p1⟩ := ih2 h
    obtain ⟨B2, h2, p2⟩ := ih1 h1
    exact ⟨B2, h2, p2.trans p1⟩
/-- pairs in another order -/
theorem pairs_perm {H : Hp} {qs : List Addr} {l : Bg} (h : PairsAt H qs l) {ys : List V} (p : ys.Perm (qs.map V.ref)) : ∃ qs' l', ys = qs'.map V.ref ∧ PairsAt H qs' l' ∧ l'.Perm l := by
  have h1 : Paired (fun v kv => ∃ q, v = V.ref q ∧ H q = some (.tup [.str kv.1, .int kv.2])) (qs.map V.ref) l := by
    clear p
    unfold PairsAt at h
    induction h with
    | nil => exact .nil
    | cons r _ ih => exact .cons ⟨_, rfl, r⟩ ih
  obtain ⟨l', h2, h3⟩ := paired_perm p h1
  have h4 : ∀ {ys : List V} {l' : Bg}, Paired (fun v kv => ∃ q, v = V.ref q ∧ H q = some (.tup [.str kv.1, .int kv.2])) ys l' → ∃ qs' : List Addr, ys = qs'.map V.ref ∧ PairsAt H qs' l' := fun h => by
    induction h with
    | nil => exact ⟨[], rfl, .nil⟩
    | cons r _ ih =>
      obtain ⟨q, rfl, hq⟩ := r
      obtain ⟨qs', rfl, h5⟩ := ih
      exact ⟨q :: qs', rfl, .cons hq h5⟩
  obtain ⟨qs', e, h5⟩ := h4 h2
  exact ⟨qs', l', e, h5, h3⟩
theorem perm_erase {α : Type} : ∀ {l : List α} {j : Nat} (h : j < l.length), (l[j] :: l.eraseIdx j).Perm l
  | x :: r, 0, _ => List.Perm.refl _
  | x :: r, j + 1, h => by
    have h' : j < r.length := by
      have : (x :: r).length = r.length + 1 := rfl
      omega
    show (r[j] :: x :: r.eraseIdx j).Perm (x :: r)
    exact (List.Perm.swap x r[j] _).trans (List.Perm.cons x (perm_erase h'))
theorem g_while2 {c : TT} {tb : TS} {D : Ends} {σ : L2.St} {H : Hp} (W : Nat → L2.St → Hp → Prop) (m : Nat) (h0 : W m σ H) (hs : ∀ m σ H, W m σ H → c σ H fun b H1 => if b = true then ∃ N : L2.St → Hp → Prop, (∀ σ' H', N σ' H' → ∃ m', m' < m ∧ W m' σ' H') ∧ tb { D with nx := N, ct := N, bk := D.nx } σ H1 else D.nx σ H1) : tWhile c tb D σ H := ⟨W, ⟨m, h0⟩, hs⟩
theorem seqIx_nat {k n : Nat} (h : k < n) : seqIndex? (k : Int) n = some k := by
  have h1 : (if (k : Int) < 0 then (k : Int) + n else k) = k := if_neg (by omega)
  show (if (decide (0 ≤ (if (k : Int) < 0 then (k : Int) + n else k)) && decide ((if (k : Int) < 0 then (k : Int) + n else k) < n)) = true then some (if (k : Int) < 0 then (k : Int) + n else k).toNat else none) = some k
  rw [h1, decide_eq_true (by omega : (0 : Int) ≤ k), decide_eq_true (by omega : (k : Int) < n)]
  rfl
/-- any things in a drawn order -/
def sp_shuf : Sp := fun vs H Q _ => ∃ (h c : Addr) (a : Addr) (xs : List V), vs = [.ref h, .ref a] ∧ HandAt H h c ∧ H a = some (.lst xs) ∧ xs.length ≤ 1000 ∧
  ∀ (r : Addr) (ys : List V) H', ys.Perm xs → ExB h H H' → HandAt H' h c → H r = none → H' r = some (.lst ys) → Q (.ref r) H'
/-- a tuple, a list or a dict -/
def DeepV (H : Hp) (v : V) : Prop := ∃ a, v = .ref a ∧ ((∃ xs, H a = some (.tup xs)) ∨ (∃ xs, H a = some (.lst xs)) ∨ ∃ kvs, H a = some (.dK kvs))
theorem DeepV.ex {H H' : Hp} {v : V} (e : Ex H H') (h : DeepV H v) : DeepV H' v := by
  obtain ⟨a, rfl, h⟩ := h
  exact ⟨a, rfl, h.imp (fun ⟨x, h⟩ => ⟨x, e _ _ h⟩) fun h => h.imp (fun ⟨x, h⟩ => ⟨x, e _ _ h⟩) fun ⟨x, h⟩ => ⟨x, e _ _ h⟩⟩
theorem DeepV.ty {H : Hp} {v : V} {n : String} (h : DeepV H v) (h1 : PySem.W.kitOne K (.type "tuple") (.type n) = some false) (h2 : PySem.W.kitOne K (.type "list") (.type n) = some false) (h3 : PySem.W.kitOne K (.type "dict") (.type n) = some false) : ∃ t, TyX K H v t ∧ PySem.W.kitOne K t (.type n) = some false := by
  obtain ⟨a, rfl, ⟨x, h⟩ | ⟨x, h⟩ | ⟨x, h⟩⟩ := h
  · exact ⟨_, .base (.tup h), h1⟩
  · exact ⟨_, .base (.lst h), h2⟩
  · exact ⟨_, .base (.dK h), h3⟩
def sp_deep : Sp := fun vs H Q _ => ∃ (h c : Addr), vs = [.ref h] ∧ HandAt H h c ∧ ∀ v H', ExB h H H' → HandAt H' h c → DeepV H' v → Q v H'
theorem ok_law_deep {f : Addr} {fd : FuncData} (F : Fun K "_law_deep" "_law_deep" s_law_deep f fd) (T : Txt K mg C_Bag Cs) (D_law_pick : DefOk P w K mg base CX0 1 "_law_pick" ["_law_tape_here", "_law_many"] sp_law_draw) : FnOk P w K mg base CX0 2 f fd ["_law_tape_here"] sp_deep := by
  refine F.ok sc_law_deep (fun vs H Q E h => ?_) (fun cdv A outer s H vs Q E hr h => ?_)
  · obtain ⟨h, c, rfl, _⟩ := h
    rfl
  · obtain ⟨h, c, rfl, hh, k⟩ := h
    have hu := hu_of hr; have hu64 := L2.Room.units hr; refine ⟨_, (pss_cons (ps_set (i := 1) sc_law_deep.nd rfl (by first | exact Or.inl rfl | exact Or.inr rfl) (pe_callD D_law_pick (hr.mono (by decide)) rfl pass0 (pa_cons (pv 0) (pa_cons pe_int pa_nil)))) (pss_cons (ps_set (i := 2) sc_law_deep.nd rfl (by first | exact Or.inl rfl | exact Or.inr rfl) (pe_ix (r := rIxL K) ix_list (pe_lst (pa_cons pe_int (pa_cons (pe_tup pa_nil) (pa_cons pe_str (pa_cons pe_bl pa_nil))))) (pe_callD D_law_pick (hr.mono (by decide)) rfl pass0 (pa_cons (pv 0) (pa_cons pe_int pa_nil))) (fun _ _ => rfl))) (pss_cons (ps_for PassesOwn.never rfl (pi_range1 rfl T.b_range (pa_cons pe_int pa_nil)) (pg_name (i := 3) sc_law_deep.nd rfl (by first | exact Or.inl rfl | exact Or.inr rfl)) (pss_one (ps_set (i := 2) sc_law_deep.nd rfl (by first | exact Or.inl rfl | exact Or.inr rfl) (pe_ix (r := rIxL K) ix_list (pe_lst (pa_cons (pe_tup (pa_cons (pv 2) pa_nil)) (pa_cons (pe_lst (pa_cons (pv 2) pa_nil)) (pa_cons (pe_disp (pps_cons pe_int (pv 2) pps_nil) rfl rfl (List.cons_ne_nil _ _) (Nat.le_of_ble_eq_true rfl)) (pa_cons (pe_tup (pa_cons (pv 2) (pa_cons pe_str pa_nil))) pa_nil))))) (pv 1) (fun _ _ => rfl))))) (pss_one (ps_ret (pv 2)))))), ?_⟩; rw [st_law_deep]; (try dsimp only [cxOf]); walk_at "go"
    refine ⟨h, c, 4, rfl, hh, by decide, by decide, fun v H1 hv0 hv1 e1 hh1 => ?_⟩
    walk_at "go"
    refine ⟨Nat.zero_le _, fun q1 hq1 => ?_⟩
    walk_at "go"
    refine ⟨Nat.le_of_ble_eq_true rfl, fun q2 hq2 => ?_⟩
    obtain ⟨n1, n2⟩ := hh1.new hq1
    have hh2 := hh1.upd n1 n2 (o := .tup [])
    have e2 : Ex H1 (upd H1 q1 (.tup [])) := Ex.new hq1
    generalize upd H1 q1 (.tup []) = H2 at hq2 hh2 e2 ⊢
    obtain ⟨n3, n4⟩ := hh2.new hq2
    have hh3 := hh2.upd n3 n4 (o := .lst [.int 0, .ref q1, .str (Str.ofString "x"), .bl true])
    have e3 : Ex H2 (upd H2 q2 (.lst [.int 0, .ref q1, .str (Str.ofString "x"), .bl true])) := Ex.new hq2
    have hl3 := upd_same (H := H2) (a := q2) (o := .lst [.int 0, .ref q1, .str (Str.ofString "x"), .bl true])
    generalize upd H2 q2 (.lst [.int 0, .ref q1, .str (Str.ofString "x"), .bl true]) = H3 at hh3 e3 hl3 ⊢
    walk_at "go"
    refine ⟨h, c, 4, rfl, hh3, by decide, by decide, fun v2 H4 hv2 hv3 e4 hh4 => ?_⟩
    have hl4 := e4 _ _ n3 hl3
    obtain ⟨y, hy⟩ : ∃ y, atI [V.int 0, .ref q1, .str (Str.ofString "x"), .bl true] v2 = some y := by
      rcases (by omega : v2 = 0 ∨ v2 = 1 ∨ v2 = 2 ∨ v2 = 3) with rfl | rfl | rfl | rfl <;> exact ⟨_, rfl⟩
    walk_at "go"
    refine g_ixl (SqL.of hl4) hy ?_
    have e14 : ExB h H H4 := e1.trans ((e2.trans e3).exb.trans e4)
    walk_at "go"
    refine ⟨by decide, by decide, ?_⟩
    refine forG walk_range (fun i σ' H' => ExB h H H' ∧ HandAt H' h c ∧ ∃ y2 y3, σ' = [some (.ref h), some (.int v), some y2, y3] ∧ (i = 0 ∨ DeepV H' y2)) ⟨e14, hh4, _, _, rfl, .inl rfl⟩ (fun _ _ _ _ _ => trivial) ?_ ?_
    · rintro i x σ' H5 H6 hi ⟨e5, hh5, y2, y3, rfl, _⟩ ⟨rfl, rfl⟩
      walk_at "go"
      refine ⟨Nat.le_of_ble_eq_true rfl, fun t1 ht1 => ?_⟩
      have f1 : Ex H6 (upd H6 t1 (.tup [y2])) := Ex.new ht1
      have g1 := upd_same (H := H6) (a := t1) (o := .tup [y2])
      obtain ⟨m1, m2⟩ := hh5.new ht1
      have hhA := hh5.upd m1 m2 (o := .tup [y2])
      generalize upd H6 t1 (.tup [y2]) = HA at f1 g1 hhA ⊢
      walk_at "go"
      refine ⟨Nat.le_of_ble_eq_true rfl, fun t2 ht2 => ?_⟩
      have f2 : Ex HA (upd HA t2 (.lst [y2])) := Ex.new ht2
      have g2 := upd_same (H := HA) (a := t2) (o := .lst [y2])
      obtain ⟨m3, m4⟩ := hhA.new ht2
      have hhB := hhA.upd m3 m4 (o := .lst [y2])
      generalize upd HA t2 (.lst [y2]) = HB at f2 g2 hhB ⊢
      walk_at "go"
      intro t3 ht3
      walk_at "go"
      refine ⟨upd_same, [(Sum.inl 0, y2)], rfl, Nat.le_of_ble_eq_true rfl, ?_⟩
      have f3 : Ex HB (upd (upd HB t3 (.dK [])) t3 (.dK (mergeK [] [(Sum.inl 0, y2)]))) := Ex.mut (Ex.new ht3) ht3
      have g3 := upd_same (H := upd HB t3 (.dK [])) (a := t3) (o := .dK (mergeK [] [(Sum.inl 0, y2)]))
      obtain ⟨m5, m6⟩ := hhB.new ht3
      have hhC := (hhB.upd m5 m6 (o := .dK [])).upd m5 m6 (o := .dK (mergeK [] [(Sum.inl 0, y2)]))
      generalize upd (upd HB t3 (.dK [])) t3 (.dK (mergeK [] [(Sum.inl 0, y2)])) = HC at f3 g3 hhC ⊢
      walk_at "go"
      refine ⟨Nat.le_of_ble_eq_true rfl, fun t4 ht4 => ?_⟩
      have f4 : Ex HC (upd HC t4 (.tup [y2, .str (Str.ofString "x")])) := Ex.new ht4
      have g4 := upd_same (H := HC) (a := t4) (o := .tup [y2, .str (Str.ofString "x")])
      obtain ⟨m7, m8⟩ := hhC.new ht4
      have hhD := hhC.upd m7 m8 (o := .tup [y2, .str (Str.ofString "x")])
      generalize upd HC t4 (.tup [y2, .str (Str.ofString "x")]) = HD at f4 g4 hhD ⊢
      walk_at "go"
      refine ⟨Nat.le_of_ble_eq_true rfl, fun t5 ht5 => ?_⟩
      have f5 : Ex HD (upd HD t5 (.lst [.ref t1, .ref t2, .ref t3, .ref t4])) := Ex.new ht5
      have g5 := upd_same (H := HD) (a := t5) (o := .lst [.ref t1, .ref t2, .ref t3, .ref t4])
      obtain ⟨m9, m10⟩ := hhD.new ht5
      have hhE := hhD.upd m9 m10 (o := .lst [.ref t1, .ref t2, .ref t3, .ref t4])
      generalize upd HD t5 (.lst [.ref t1, .ref t2, .ref t3, .ref t4]) = HE at f5 g5 hhE ⊢
      have d1 : DeepV HE (.ref t1) := ⟨t1, rfl, .inl ⟨_, f5 _ _ (f4 _ _ (f3 _ _ (f2 _ _ g1)))⟩⟩
      have d2 : DeepV HE (.ref t2) := ⟨t2, rfl, .inr (.inl ⟨_, f5 _ _ (f4 _ _ (f3 _ _ g2))⟩)⟩
      have d3 : DeepV HE (.ref t3) := ⟨t3, rfl, .inr (.inr ⟨_, f5 _ _ (f4 _ _ g3)⟩)⟩
      have d4 : DeepV HE (.ref t4) := ⟨t4, rfl, .inl ⟨_, f5 _ _ g4⟩⟩
      obtain ⟨z, hz, dz⟩ : ∃ z, atI [V.ref t1, .ref t2, .ref t3, .ref t4] v = some z ∧ DeepV HE z := by
        rcases (by omega : v = 0 ∨ v = 1 ∨ v = 2 ∨ v = 3) with rfl | rfl | rfl | rfl
        · exact ⟨_, rfl, d1⟩
        · exact ⟨_, rfl, d2⟩
        · exact ⟨_, rfl, d3⟩
        · exact ⟨_, rfl, d4⟩
      walk_at "go"
      refine g_ixl (SqL.of g5) hz ?_
      walk_at "go"
      exact ⟨e5.trans (f1.trans (f2.trans (f3.trans (f4.trans f5)))).exb, hhE, z, _, rfl, .inr dz⟩
    · rintro σ' H5 ⟨e5, hh5, y2, y3, rfl, hd⟩
      walk_at "go"
      exact k _ _ e5 hh5 (hd.resolve_left (by decide))

def sp_spoiled : Sp := fun vs H Q _ => ∃ (h c : Addr) (t : Str), vs = [.ref h, .str t] ∧ HandAt H h c ∧ t.length ≤ 100000 ∧ ∀ u H', u.length ≤ 3 * t.length + 1 → ExB h H H' → HandAt H' h c → Q (.str u) H'
theorem ok_law_spoiled {f : Addr} {fd : FuncData} (F : Fun K "_law_spoiled" "_law_spoiled" s_law_spoiled f fd) (T : Txt K mg C_Bag Cs) (D_law_pick : DefOk P w K mg base CX0 1 "_law_pick" ["_law_tape_here", "_law_many"] sp_law_draw) : FnOk P w K mg base CX0 2 f fd ["_law_tape_here", "_law_text"] sp_spoiled := by
  refine F.ok sc_law_spoiled (fun vs H Q E h => ?_) (fun cdv A outer s H vs Q E hr h => ?_)
  · obtain ⟨h, c, t, rfl, _⟩ := h
    rfl
  · obtain ⟨h, c, t, rfl, hh, ht, k⟩ := h
    have hu := hu_of hr; have hu64 := L2.Room.units hr; refine ⟨_, (pss_cons (ps_set (i := 2) sc_law_spoiled.nd rfl (by first | exact Or.inl rfl | exact Or.inr rfl) pe_str) (pss_cons (ps_set (i := 3) sc_law_spoiled.nd rfl (by first | exact Or.inl rfl | exact Or.inr rfl) (pe_callD D_law_pick (hr.mono (by decide)) rfl pass0 (pa_cons (pv 0) (pa_cons (pe_op op_add (pe_callB call_len_str (by rfl) T.b_len (by decide +kernel) (pa_cons (pv 1) pa_nil)) pe_int) pa_nil)))) (pss_cons (ps_set (i := 4) sc_law_spoiled.nd rfl (by first | exact Or.inl rfl | exact Or.inr rfl) (pe_ix (r := rIxS) ix_str (pv 2) (pe_callD D_law_pick (hr.mono (by decide)) rfl pass0 (pa_cons (pv 0) (pa_cons (pe_ix (r := rIxL K) ix_list (pe_lst (pa_cons pe_int (pa_cons pe_int (pa_cons (pe_callB call_len_str (by rfl) T.b_len (by decide +kernel) (pa_cons (pv 2) pa_nil)) pa_nil)))) (pe_callD D_law_pick (hr.mono (by decide)) rfl pass0 (pa_cons (pv 0) (pa_cons pe_int pa_nil))) (fun _ _ => rfl)) pa_nil))) (fun _ _ => rfl))) (pss_cons (ps_set (i := 5) sc_law_spoiled.nd rfl (by first | exact Or.inl rfl | exact Or.inr rfl) (pe_op op_add pe_int (pe_callD D_law_pick (hr.mono (by decide)) rfl pass0 (pa_cons (pv 0) (pa_cons pe_int pa_nil))))) (pss_cons (ps_set (i := 6) sc_law_spoiled.nd rfl (by first | exact Or.inl rfl | exact Or.inr rfl) (pe_lst (pa_cons (pe_op op_add_str (pe_op op_add_str (pe_slice sl_str (pv 1) po_none (po_some (pv 3))) (pv 4)) (pe_slice sl_str (pv 1) (po_some (pe_op op_add (pv 3) pe_int)) po_none)) (pa_cons (pe_op op_add_str (pe_op op_add_str (pe_slice sl_str (pv 1) po_none (po_some (pv 3))) (pv 4)) (pe_slice sl_str (pv 1) (po_some (pv 3)) po_none)) (pa_cons (pe_op op_add_str (pe_slice sl_str (pv 1) po_none (po_some (pv 3))) (pe_slice sl_str (pv 1) (po_some (pe_op op_add (pv 3) pe_int)) po_none)) pa_nil))))) (pss_cons (ps_expr (pe_bmK (K := K) rfl (pe_bm PySem.F.plainAttrs_list PySem.F.slot_list_extend PySem.F.type_list_extend mt_extend (pv 6) (pa_cons (pe_lst (pa_cons (pe_op op_add_str (pe_op op_add_str (pe_slice sl_str (pv 1) po_none (po_some (pv 3))) (pe_slice sl_str (pv 1) (po_some (pv 3)) (po_some (pe_op op_add (pv 3) (pv 5))))) (pe_slice sl_str (pv 1) (po_some (pv 3)) po_none)) (pa_cons (pe_op op_add_str (pe_slice sl_str (pv 1) po_none (po_some (pv 3))) (pe_slice sl_str (pv 1) (po_some (pe_op op_add (pv 3) (pv 5))) po_none)) (pa_cons (pe_op op_add_str (pv 1) (pv 4)) (pa_cons (pe_op op_add_str (pv 4) (pv 1)) pa_nil))))) pa_nil)))) (pss_one (ps_ret (pe_ix (r := rIxL K) ix_list (pv 6) (pe_callD D_law_pick (hr.mono (by decide)) rfl pass0 (pa_cons (pv 0) (pa_cons pe_int pa_nil))) (fun _ _ => rfl)))))))))), ?_⟩; rw [st_law_spoiled]; (try dsimp only [cxOf]); walk_at "go"
    have hts : t.length ≤ sizeLine := Nat.le_trans ht (by decide)
    refine ⟨t, rfl, hts, ?_⟩
    walk_at "go"
    refine ⟨h, c, (t.length : Int) + 1, rfl, hh, by omega, by omega, fun v1 H1 h10 h11 e1 hh1 => ?_⟩
    walk_at "go"
    refine ⟨_, rfl, by decide +kernel, ?_⟩
    walk_at "go"
    refine ⟨Nat.le_of_ble_eq_true rfl, fun q2 hq2 => ?_⟩
    obtain ⟨n1, n2⟩ := hh1.new hq2
    have hl : ((Str.ofString "0123 +xyz\taw\n.:-XA456789").length : Int) = 24 := by decide +kernel
    rw [hl] at *
    have hh2 := hh1.upd n1 n2 (o := .lst [.int 4, .int 10, .int 24])
    have e2 : Ex H1 (upd H1 q2 (.lst [.int 4, .int 10, .int 24])) := Ex.new hq2
    have hl2 := upd_same (H := H1) (a := q2) (o := .lst [.int 4, .int 10, .int 24])
    generalize upd H1 q2 (.lst [.int 4, .int 10, .int 24]) = H2 at hh2 e2 hl2 ⊢
    walk_at "go"
    refine ⟨h, c, 3, rfl, hh2, by decide, by decide, fun v2 H3 h20 h21 e3 hh3 => ?_⟩
    have hl3 := e3 _ _ n1 hl2
    obtain ⟨y, hy, hy0, hy1⟩ : ∃ y : Int, atI [V.int 4, .int 10, .int 24] v2 = some (.int y) ∧ 0 < y ∧ y ≤ 24 := by
      rcases (by omega : v2 = 0 ∨ v2 = 1 ∨ v2 = 2) with rfl | rfl | rfl <;> exact ⟨_, rfl, by decide, by decide⟩
    walk_at "go"
    refine g_ixl (SqL.of hl3) hy ?_
    walk_at "go"
    refine ⟨h, c, y, rfl, hh3, by omega, by omega, fun v3 H4 h30 h31 e4 hh4 => ?_⟩
    walk_at "go"
    have hql : v3.toNat < (Str.ofString "0123 +xyz\taw\n.:-XA456789").cps.toList.length := by
      have : (Str.ofString "0123 +xyz\taw\n.:-XA456789").cps.toList.length = 24 := by decide +kernel
      omega
    refine g_ixs (by decide +kernel) (atI_get h30 (List.getElem?_eq_getElem hql)) ?_
    generalize hsg : (⟨#[(Str.ofString "0123 +xyz\taw\n.:-XA456789").cps.toList[v3.toNat]]⟩ : Str) = sg
    have hsg1 : sg.length = 1 := by rw [← hsg]; rfl
    clear hsg hql
    walk_at "go"
    refine ⟨h, c, 5, rfl, hh4, by decide, by decide, fun v4 H5 h40 h41 e5 hh5 => ?_⟩
    have cl : ∀ l u, (cutS t l u).length ≤ t.length := fun l u => cutS_length t l u
    have S : ∀ {l u : Option Int} {G : V → Hp → Prop} {Hx : Hp}, (∀ z : Str, z.length ≤ t.length → G (.str z) Hx) → rSlS (.str t) l u Hx G := fun hg => ⟨t, rfl, hts, hg _ (cl _ _)⟩
    have B : ∀ {n : Nat}, n ≤ 3 * t.length + 1 → n ≤ sizeLine := fun h => Nat.le_trans h (Nat.le_trans (by omega : _ ≤ 300001) (by decide))
    walk_at "go"
    refine S fun z1 hz1 => ?_
    walk_at "go"
    refine ⟨z1, sg, rfl, rfl, B (by omega), ?_⟩
    have hz2 := len_app z1 sg
    generalize z1 ++ sg = z2 at hz2 ⊢
    walk_at "go"
    refine S fun z3 hz3 => ?_
    walk_at "go"
    refine ⟨z2, z3, rfl, rfl, B (by omega), ?_⟩
    have hz4 := len_app z2 z3
    generalize z2 ++ z3 = z4 at hz4 ⊢
    walk_at "go"
    refine S fun z5 hz5 => ?_
    walk_at "go"
    refine ⟨z5, sg, rfl, rfl, B (by omega), ?_⟩
    have hz6 := len_app z5 sg
    generalize z5 ++ sg = z6 at hz6 ⊢
    walk_at "go"
    refine S fun z7 hz7 => ?_
    walk_at "go"
    refine ⟨z6, z7, rfl, rfl, B (by omega), ?_⟩
    have hz8 := len_app z6 z7
    generalize z6 ++ z7 = z8 at hz8 ⊢
    walk_at "go"
    refine S fun z9 hz9 => ?_
    walk_at "go"
    refine S fun z10 hz10 => ?_
    walk_at "go"
    refine ⟨z9, z10, rfl, rfl, B (by omega), ?_⟩
    have hz11 := len_app z9 z10
    generalize z9 ++ z10 = z11 at hz11 ⊢
    walk_at "go"
    refine ⟨Nat.le_of_ble_eq_true rfl, fun q6 hq6 => ?_⟩
    obtain ⟨n6, m6⟩ := hh5.new hq6
    have hh6 := hh5.upd n6 m6 (o := .lst [.str z4, .str z8, .str z11])
    have e6 : Ex H5 (upd H5 q6 (.lst [.str z4, .str z8, .str z11])) := Ex.new hq6
    have hl6 := upd_same (H := H5) (a := q6) (o := .lst [.str z4, .str z8, .str z11])
    generalize upd H5 q6 (.lst [.str z4, .str z8, .str z11]) = H6 at hh6 e6 hl6 ⊢
    walk_at "go"
    refine ⟨.inl ⟨rfl, _, SqL.of hl6⟩, ?_⟩
    walk_at "go"
    refine S fun z12 hz12 => ?_
    walk_at "go"
    refine S fun z13 hz13 => ?_
    walk_at "go"
    refine ⟨z12, z13, rfl, rfl, B (by omega), ?_⟩
    have hz14 := len_app z12 z13
    generalize z12 ++ z13 = z14 at hz14 ⊢
    walk_at "go"
    refine S fun z15 hz15 => ?_
    walk_at "go"
    refine ⟨z14, z15, rfl, rfl, B (by omega), ?_⟩
    have hz16 := len_app z14 z15
    generalize z14 ++ z15 = z16 at hz16 ⊢
    walk_at "go"
    refine S fun z17 hz17 => ?_
    walk_at "go"
    refine S fun z18 hz18 => ?_
    walk_at "go"
    refine ⟨z17, z18, rfl, rfl, B (by omega), ?_⟩
    have hz19 := len_app z17 z18
    generalize z17 ++ z18 = z19 at hz19 ⊢
    walk_at "go"
    refine ⟨t, sg, rfl, rfl, B (by omega), ?_⟩
    have hz20 := len_app t sg
    generalize t ++ sg = z20 at hz20 ⊢
    walk_at "go"
    refine ⟨sg, t, rfl, rfl, B (by omega), ?_⟩
    have hz21 := len_app sg t
    generalize sg ++ t = z21 at hz21 ⊢
    walk_at "go"
    refine ⟨Nat.le_of_ble_eq_true rfl, fun q7 hq7 => ?_⟩
    obtain ⟨n7, m7⟩ := hh6.new hq7
    have hh7 := hh6.upd n7 m7 (o := .lst [.str z16, .str z19, .str z20, .str z21])
    have e7 : Ex H6 (upd H6 q7 (.lst [.str z16, .str z19, .str z20, .str z21])) := Ex.new hq7
    have hl7 := upd_same (H := H6) (a := q7) (o := .lst [.str z16, .str z19, .str z20, .str z21])
    generalize upd H6 q7 (.lst [.str z16, .str z19, .str z20, .str z21]) = H7 at hh7 e7 hl7 ⊢
    have hl67 := e7 _ _ hl6
    refine ⟨q6, q7, _, _, rfl, rfl, hl67, hl7, Nat.le_of_ble_eq_true rfl, ?_⟩
    walk_at "go"
    have hh8 := hh7.upd n6 m6 (o := .lst [.str z4, .str z8, .str z11, .str z16, .str z19, .str z20, .str z21])
    have hl8 := upd_same (H := H7) (a := q6) (o := .lst [.str z4, .str z8, .str z11, .str z16, .str z19, .str z20, .str z21])
    have e58 : ExB h H5 (upd H7 q6 (.lst [.str z4, .str z8, .str z11, .str z16, .str z19, .str z20, .str z21])) := fun a o hne q => by
      rw [upd_ne (ne_of_none q hq6)]
      exact e7 _ _ (e6 _ _ q)
    have hc8 : ([V.str z4, V.str z8, V.str z11] ++ [V.str z16, V.str z19, V.str z20, V.str z21] : List V) = [.str z4, .str z8, .str z11, .str z16, .str z19, .str z20, .str z21] := rfl
    rw [hc8]
    generalize upd H7 q6 (.lst [.str z4, .str z8, .str z11, .str z16, .str z19, .str z20, .str z21]) = H8 at hh8 e58 hl8 ⊢
    refine ⟨h, c, 7, rfl, hh8, by decide, by decide, fun v9 H9 h90 h91 e9 hh9 => ?_⟩
    have hl9 := e9 _ _ n6 hl8
    obtain ⟨y9, hy9, hyl⟩ : ∃ y : Str, atI [V.str z4, .str z8, .str z11, .str z16, .str z19, .str z20, .str z21] v9 = some (.str y) ∧ y.length ≤ 3 * t.length + 1 := by
      rcases (by omega : v9 = 0 ∨ v9 = 1 ∨ v9 = 2 ∨ v9 = 3 ∨ v9 = 4 ∨ v9 = 5 ∨ v9 = 6) with rfl | rfl | rfl | rfl | rfl | rfl | rfl <;> exact ⟨_, rfl, by omega⟩
    walk_at "go"
    refine g_ixl (SqL.of hl9) hy9 ?_
    exact k _ _ hyl (e1.trans (e2.exb.trans (e3.trans (e4.trans (e5.trans (e58.trans e9)))))) hh9
def pcsT : List Str := ["x", "y", "zz", "1", "2", "0", " ", " + ", "+", "3 ", "6 x", "\n", "w", "10", "\t"]
theorem joinE_len {us : List Str} (h : ∀ u ∈ us, u.length ≤ 3) : (us.map fun x => x.length + ("" : Str).length).sum ≤ 3 * us.length := by
  induction us with
  | nil => exact Nat.le_refl _
  | cons u r ih =>
    have h1 := h u List.mem_cons_self
    have h2 := ih fun x hx => h x (List.mem_cons_of_mem _ hx)
    have h3 : ("" : Str).length = 0 := rfl
    rw [List.map_cons, List.sum_cons, List.length_cons]
    omega
def sp_any : Sp := fun vs H Q _ => ∃ (h c : Addr), vs = [.ref h] ∧ HandAt H h c ∧ ∀ u H', u.length ≤ 21 → ExB h H H' → HandAt H' h c → Q (.str u) H'
theorem cutV_take (xs : List V) (i : Nat) : cutV xs none (some (i : Int)) = xs.take i := by
  unfold cutV
  rw [HT.sIx_none, HT.sIx_nat, List.drop_zero, Nat.sub_zero]
  rcases Nat.le_total i xs.length with h | h
  · rw [Nat.min_eq_left h]
  · rw [Nat.min_eq_right h, List.take_length, List.take_of_length_le h]
/-- the next word of the list of all words -/
def nxt2 (u : Str) : List Str := [u ++ Str.ofString "x", u ++ Str.ofString "y"]
def sp_all_words : Sp := fun vs H Q _ => ∃ (m : Nat), vs = [.int m] ∧ 1 ≤ m ∧ m ≤ 1000 ∧ ∀ (r : Addr) (us : List Str) (H' : Hp), Ex H H' → H' r = some (.lst (us.map V.str)) → us.length ≤ m → (∀ u ∈ us, u.length ≤ 1000) → Q (.ref r) H'
end
end Fp



namespace Fp
open PySem L2
section
variable {P : Program} {w : World} {K : PySem.W.Frag} {mg : Str → Option Value} {base : Heap} {C_Bag : Addr} {Cs : Addr → Prop}
local macro_rules | `(tactic| walk_at "hp") => `(tactic| first | assumption | rfl)
local macro_rules | `(tactic| walk_at "cond") => `(tactic| first | assumption | decide | omega | (unfold CMul; omega) | (refine ⟨?_, ?_⟩ <;> omega) | (unfold CDiv; omega) | (unfold CPow; omega))
local macro_rules | `(tactic| walk_at "g1") => `(tactic| first
  | with_reducible first
    | refine g_seq ?_ | refine g_asg ?_ | refine g_name ?_ | refine g_ret ?_ | refine g_retN ?_ | refine g_drop ?_ | refine g_ifs ?_
    | refine g_c ?_ | refine g_op ?_ | refine g_un ?_ | refine g_I0 ?_ | refine g_U ?_
    | refine g_test ?_ | refine g_tB ?_ | refine g_bl ?_ | refine g_and ?_ | refine g_or ?_ | refine g_not ?_
    | refine g_andV ?_ | refine g_orV ?_ | refine g_notV ?_ | refine g_if ?_ | refine g_nil ?_ | refine g_cons ?_ | refine g_cb ?_ | refine g_call ?_
    | refine g_lst ?_ | refine g_tup ?_ | refine g_itT ?_ | refine g_itF ?_ | refine g_itNT ?_ | refine g_itNF ?_ | refine g_lc ?_ | refine g_iStr ?_ | refine g_yes ?_ | refine g_exs ?_
    | refine g_chain ?_ | refine g_dget ?_ | refine g_dput ?_ | refine g_dget2 ?_ | refine g_dpop2 ?_ | refine g_fld ?_ | refine g_sfld ?_ | refine g_make ?_ | refine g_meth ?_
    | refine g_bm ?_ | refine g_kw ?_ | refine g_callS ?_ | refine g_revL ?_ | refine g_m1 ?_ | refine g_gsub ?_ | refine g_for ?_ | refine g_iList ?_ | refine g_iTup ?_ | refine g_iRng1 ?_ | refine g_iRng2 ?_ | refine g_sl ?_ | refine g_part ?_ | refine g_noPart ?_
    | refine g_exi ?_ | refine g_exr ?_ | refine g_dnew ?_ | refine g_disp ?_ | refine g_prs0 ?_ | refine g_prs ?_ | refine g_nxt ?_
  | ((with_reducible refine g_var (v := ?vv) ?gv ?_); (case gv => exact rfl))
  | ((with_reducible refine g_I ?gc ?_); (case gc => walk_at "cond"))
  | ((with_reducible refine g_eq ?ge ?_); (case ge => exact rfl))
  | ((with_reducible refine g_ne ?ge ?_); (case ge => exact rfl))
  | (refine g_ixl (SqL.of (by first | assumption | exact upd_same)) rfl ?_)
  | (refine g_setl (by first | assumption | exact upd_same) rfl ?_)
  | ((with_reducible show (∃ i, [V.int _] = [V.int i] ∧ _) ∨ _); refine Or.inl ⟨_, rfl, ?_⟩)
  | ((with_reducible show ∃ i, [V.int _] = [V.int i] ∧ _); refine ⟨_, rfl, ?_⟩)
  | dsimp only)
local macro_rules | `(tactic| walk_at "go") => `(tactic| repeat (walk_at "g1"))

/-- a list of texts of at most so many signs -/
def Tx (H : Hp) (a : Addr) (n B : Nat) : Prop := ∃ us : List Str, H a = some (.lst (us.map V.str)) ∧ us.length ≤ n ∧ ∀ u ∈ us, u.length ≤ B
theorem Tx.ex {H H' : Hp} {a : Addr} {n B : Nat} (e : Ex H H') (h : Tx H a n B) : Tx H' a n B := by
  obtain ⟨us, h1, h2, h3⟩ := h
  exact ⟨us, e _ _ h1, h2, h3⟩
theorem Tx.exb {H H' : Hp} {a h : Addr} {n B : Nat} (e : ExB h H H') (hne : a ≠ h) (x : Tx H a n B) : Tx H' a n B := by
  obtain ⟨us, h1, h2, h3⟩ := x
  exact ⟨us, e _ _ hne h1, h2, h3⟩
theorem g_slT {H : Hp} {a : Addr} {n B : Nat} {lo hi : Option Int} {Q : VK} (h : Tx H a n B) (k : ∀ p H', Ex H H' → H p = none → Tx H' p n B → Q (.ref p) H') : rSlL K (.ref a) lo hi H Q := by
  obtain ⟨us, h1, h2, h3⟩ := h
  refine ⟨a, _, rfl, SqL.of h1, fun p hp => k p _ (Ex.new hp) hp ⟨(us.drop (HT.sIx (us.map V.str).length 0 lo)).take (HT.sIx (us.map V.str).length (us.map V.str).length hi - HT.sIx (us.map V.str).length 0 lo), ?_, ?_, fun u hu => h3 u (List.mem_of_mem_drop (List.mem_of_mem_take hu))⟩⟩
  · rw [upd_same, List.map_take, List.map_drop]
    rfl
  · rw [List.length_take, List.length_drop]
    omega
theorem g_catT {H : Hp} {a b : Addr} {n m B : Nat} {Q : VK} (h1 : Tx H a n B) (h2 : Tx H b m B) (hn : n + m ≤ 10000) (k : ∀ p H', Ex H H' → H p = none → Tx H' p (n + m) B → Q (.ref p) H') : rCat (.ref a) (.ref b) H Q := by
  obtain ⟨us, a1, a2, a3⟩ := h1
  obtain ⟨ws, b1, b2, b3⟩ := h2
  refine ⟨a, b, _, _, rfl, rfl, a1, b1, by rw [List.length_map, List.length_map]; exact Nat.le_trans (by omega : _ ≤ 10000) (by decide), fun p hp => k p _ (Ex.new hp) hp ⟨us ++ ws, by rw [upd_same, List.map_append], by rw [List.length_append]; omega, fun u hu => (List.mem_append.mp hu).elim (a3 u) (b3 u)⟩⟩
def oddT : List Str := ["", " ", "2", "5", "0", "x", "1", "x + y", "2 x", "6 z + 1", "w", "4", "xy ", "23", "3 x + x", "02"]
def sp_changed : Sp := fun vs H Q _ => ∃ (h c a : Addr) (n B : Nat) (us : List Str), vs = [.ref h, .ref a] ∧ HandAt H h c ∧ a ≠ h ∧ H a = some (.lst (us.map V.str)) ∧ 1 ≤ us.length ∧ us.length ≤ n ∧ n ≤ 1000 ∧ 10 ≤ B ∧ (∀ u ∈ us, u.length ≤ B) ∧ ∀ r H', ExB h H H' → HandAt H' h c → r ≠ h → Tx H' r (n + n + n + 1) B → Q (.ref r) H'
theorem ok_law_changed {f : Addr} {fd : FuncData} (F : Fun K "_law_changed" "_law_changed" s_law_changed f fd) (T : Txt K mg C_Bag Cs) (D_law_pick : DefOk P w K mg base CX0 1 "_law_pick" ["_law_tape_here", "_law_many"] sp_law_draw) : FnOk P w K mg base CX0 2 f fd ["_law_tape_here", "_law_lines"] sp_changed := by
  refine F.ok sc_law_changed (fun vs H Q E h => ?_) (fun cdv A outer s H vs Q E hr h => ?_)
  · obtain ⟨h, c, a, n, B, us, rfl, _⟩ := h
    rfl
  · obtain ⟨h, c, a, n, B, us, rfl, hh, hne, ha, h1, hn, hn2, hB, hus, k⟩ := h
    have hu := hu_of hr; have hu64 := L2.Room.units hr; refine ⟨_, (pss_cons (ps_set (i := 2) sc_law_changed.nd rfl (by first | exact Or.inl rfl | exact Or.inr rfl) (pe_callD D_law_pick (hr.mono (by decide)) rfl pass0 (pa_cons (pv 0) (pa_cons (pe_callB call_len_seq (by rfl) T.b_len (by decide +kernel) (pa_cons (pv 1) pa_nil)) pa_nil)))) (pss_cons (ps_set (i := 3) sc_law_changed.nd rfl (by first | exact Or.inl rfl | exact Or.inr rfl) (pe_callD D_law_pick (hr.mono (by decide)) rfl pass0 (pa_cons (pv 0) (pa_cons pe_int pa_nil)))) (pss_cons (ps_if (pt_cmpR op_eq (pv 3) pe_int (nomark _)) (pss_one (ps_ret (pe_op op_cat (pe_slice sl_list (pv 1) po_none (po_some (pv 2))) (pe_slice sl_list (pv 1) (po_some (pe_op op_add (pv 2) pe_int)) po_none)))) pss_nil) (pss_cons (ps_if (pt_cmpR op_eq (pv 3) pe_int (nomark _)) (pss_one (ps_ret (pe_op op_cat (pe_op op_cat (pe_slice sl_list (pv 1) po_none (po_some (pv 2))) (pe_slice sl_list (pv 1) (po_some (pv 2)) (po_some (pe_op op_add (pv 2) pe_int)))) (pe_slice sl_list (pv 1) (po_some (pv 2)) po_none)))) pss_nil) (pss_cons (ps_if (pt_cmpR op_eq (pv 3) pe_int (nomark _)) (pss_one (ps_ret (pe_op op_cat (pe_op op_cat (pe_slice sl_list (pv 1) po_none (po_some (pv 2))) (pe_slice sl_list (pe_revL (pv 1)) po_none (po_some pe_int))) (pe_slice sl_list (pv 1) (po_some (pv 2)) po_none)))) pss_nil) (pss_cons (ps_set (i := 4) sc_law_changed.nd rfl (by first | exact Or.inl rfl | exact Or.inr rfl) (pe_lst (pa_cons pe_str (pa_cons pe_str (pa_cons pe_str (pa_cons pe_str (pa_cons pe_str (pa_cons pe_str (pa_cons pe_str (pa_cons pe_str (pa_cons pe_str (pa_cons pe_str (pa_cons pe_str (pa_cons pe_str (pa_cons pe_str (pa_cons pe_str (pa_cons pe_str (pa_cons pe_str pa_nil)))))))))))))))))) (pss_one (ps_ret (pe_op op_cat (pe_op op_cat (pe_slice sl_list (pv 1) po_none (po_some (pv 2))) (pe_lst (pa_cons (pe_ix (r := rIxL K) ix_list (pv 4) (pe_callD D_law_pick (hr.mono (by decide)) rfl pass0 (pa_cons (pv 0) (pa_cons pe_int pa_nil))) (fun _ _ => rfl)) pa_nil))) (pe_slice sl_list (pv 1) (po_some (pe_op op_add (pv 2) (pe_callTy call_int1 (by rfl) T.b_int (by decide +kernel) (pa_cons (pe_cmpR op_gt (pv 3) pe_int (nomark _)) pa_nil)))) po_none)))))))))), ?_⟩; rw [st_law_changed]; (try dsimp only [cxOf]); walk_at "go"
    refine ⟨a, _, rfl, .inl (SqL.of ha), ?_⟩
    rw [List.length_map]
    walk_at "go"
    refine ⟨h, c, us.length, rfl, hh, by omega, by omega, fun v1 H1 h10 h11 e1 hh1 => ?_⟩
    walk_at "go"
    refine ⟨h, c, 6, rfl, hh1, by decide, by decide, fun v2 H2 h20 h21 e2 hh2 => ?_⟩
    have hT : Tx H2 a n B := ⟨us, e2 _ _ hne (e1 _ _ hne ha), hn, hus⟩
    have e12 := e1.trans e2
    have fin : ∀ {r : Addr} {m : Nat} {H' : Hp}, Ex H2 H' → H2 r = none → m ≤ n + n + n + 1 → Tx H' r m B → Q (.ref r) H' := fun {r m H'} e hr hm hx => by
      obtain ⟨ws, w1, w2, w3⟩ := hx
      exact k r _ (e12.trans e.exb) (hh2.ex' e) (hh2.new hr).1 ⟨ws, w1, by omega, w3⟩
    walk_at "go"
    refine g_ite (fun g1 => ?_) fun g1 => ?_
    · walk_at "go"
      refine g_slT hT fun p1 H3 e3 hp1 t1 => ?_
      walk_at "go"
      refine g_slT (hT.ex e3) fun p2 H4 e4 hp2 t2 => ?_
      walk_at "go"
      refine g_catT (t1.ex e4) t2 (by omega) fun p3 H5 e5 hp3 t3 => ?_
      exact fin (e3.trans (e4.trans e5)) ((e3.trans e4).free hp3) (by omega) t3
    walk_at "go"
    refine g_ite (fun g2 => ?_) fun g2 => ?_
    · walk_at "go"
      refine g_slT hT fun p1 H3 e3 hp1 t1 => ?_
      walk_at "go"
      refine g_slT (hT.ex e3) fun p2 H4 e4 hp2 t2 => ?_
      walk_at "go"
      refine g_catT (t1.ex e4) t2 (by omega) fun p3 H5 e5 hp3 t3 => ?_
      walk_at "go"
      refine g_slT (hT.ex (e3.trans (e4.trans e5))) fun p4 H6 e6 hp4 t4 => ?_
      walk_at "go"
      refine g_catT (t3.ex e6) t4 (by omega) fun p5 H7 e7 hp5 t5 => ?_
      exact fin (e3.trans (e4.trans (e5.trans (e6.trans e7)))) ((e3.trans (e4.trans (e5.trans e6))).free hp5) (by omega) t5
    walk_at "go"
    refine g_ite (fun g3 => ?_) fun g3 => ?_
    · walk_at "go"
      refine g_slT hT fun p1 H3 e3 hp1 t1 => ?_
      walk_at "go"
      obtain ⟨ws, w1, w2, w3⟩ := id (hT.ex e3)
      refine ⟨a, _, rfl, SqL.of w1, fun pr hpr => ?_⟩
      have er : Ex H3 (upd H3 pr (.lst (ws.map V.str).reverse)) := Ex.new hpr
      have tr : Tx (upd H3 pr (.lst (ws.map V.str).reverse)) pr n B := ⟨ws.reverse, by rw [upd_same, List.map_reverse], by rw [List.length_reverse]; exact w2, fun u hu => w3 u (List.mem_reverse.mp hu)⟩
      generalize upd H3 pr (.lst (ws.map V.str).reverse) = HR at er tr ⊢
      walk_at "go"
      refine g_slT tr fun p2 H4 e4 hp2 t2 => ?_
      refine g_catT (t1.ex (er.trans e4)) t2 (by omega) fun p3 H5 e5 hp3 t3 => ?_
      walk_at "go"
      refine g_slT (hT.ex (e3.trans (er.trans (e4.trans e5)))) fun p4 H6 e6 hp4 t4 => ?_
      walk_at "go"
      refine g_catT (t3.ex e6) t4 (by omega) fun p5 H7 e7 hp5 t5 => ?_
      exact fin (e3.trans (er.trans (e4.trans (e5.trans (e6.trans e7))))) ((e3.trans (er.trans (e4.trans (e5.trans e6)))).free hp5) (by omega) t5
    walk_at "go"
    refine ⟨Nat.le_of_ble_eq_true rfl, fun po hpo => ?_⟩
    have eo : Ex H2 (upd H2 po (.lst (oddT.map V.str))) := Ex.new hpo
    have ho := upd_same (H := H2) (a := po) (o := .lst (oddT.map V.str))
    have hho := hh2.ex' eo
    have hpoh := (hh2.new hpo).1
    show gName 4 _ _ (upd H2 po (.lst (oddT.map V.str))) _
    generalize upd H2 po (.lst (oddT.map V.str)) = HO at eo ho hho ⊢
    walk_at "go"
    refine g_slT (hT.ex eo) fun p1 H3 e3 hp1 t1 => ?_
    have hh3 := hho.ex' e3
    walk_at "go"
    refine ⟨h, c, 16, rfl, hh3, by decide, by decide, fun v3 H4 h30 h31 e4 hh4 => ?_⟩
    have ho4 := e4 _ _ hpoh (e3 _ _ ho)
    have hp1h : p1 ≠ h := (hho.new hp1).1
    have t14 := t1.exb e4 hp1h
    have hT4 := (hT.ex (eo.trans e3)).exb e4 hne
    obtain ⟨y, hy, hyl⟩ : ∃ y : Str, atI (oddT.map V.str) v3 = some (.str y) ∧ y.length ≤ 10 := by
      have hql : v3.toNat < oddT.length := by
        have : oddT.length = 16 := rfl
        omega
      refine ⟨oddT[v3.toNat], atI_get h30 (by rw [List.getElem?_map, List.getElem?_eq_getElem hql]; rfl), ?_⟩
      have : ∀ u ∈ oddT, u.length ≤ 10 := by decide +kernel
      exact this _ (List.getElem_mem hql)
    walk_at "go"
    refine g_ixl (SqL.of ho4) hy ?_
    walk_at "go"
    refine ⟨Nat.le_of_ble_eq_true rfl, fun p2 hp2 => ?_⟩
    have e5 : Ex H4 (upd H4 p2 (.lst [.str y])) := Ex.new hp2
    have t2 : Tx (upd H4 p2 (.lst [.str y])) p2 1 B := ⟨[y], upd_same, Nat.le_refl _, fun u hu => by rw [List.mem_singleton.mp hu]; omega⟩
    generalize upd H4 p2 (.lst [.str y]) = H5 at e5 t2 ⊢
    refine g_catT (t14.ex e5) t2 (by omega) fun p3 H6 e6 hp3 t3 => ?_
    walk_at "go"
    refine .inr ⟨_, rfl, ?_⟩
    walk_at "go"
    refine g_slT (hT4.ex (e5.trans e6)) fun p4 H7 e7 hp4 t4 => ?_
    refine g_catT (t3.ex e7) t4 (by omega) fun p5 H8 e8 hp5 t5 => ?_
    have e48 := e5.trans (e6.trans (e7.trans e8))
    obtain ⟨ws, w1, w2, w3⟩ := t5
    exact k p5 _ (e12.trans ((eo.trans e3).exb.trans (e4.trans e48.exb))) (hh4.ex' e48) (hh4.new ((e5.trans (e6.trans e7)).free hp5)).1 ⟨ws, w1, by omega, w3⟩

end
end Fp



namespace Fp
open PySem L2
section
variable {P : Program} {w : World} {K : PySem.W.Frag} {mg : Str → Option Value} {base : Heap} {C_Bag : Addr} {Cs : Addr → Prop}
local macro_rules | `(tactic| walk_at "hp") => `(tactic| first | assumption | rfl)
local macro_rules | `(tactic| walk_at "cond") => `(tactic| first | assumption | decide | omega | (unfold CMul; omega) | (refine ⟨?_, ?_⟩ <;> omega) | (unfold CDiv; omega) | (unfold CPow; omega))
local macro_rules | `(tactic| walk_at "g1") => `(tactic| first
  | with_reducible first
    | refine g_seq ?_ | refine g_asg ?_ | refine g_name ?_ | refine g_ret ?_ | refine g_retN ?_ | refine g_drop ?_ | refine g_ifs ?_
    | refine g_c ?_ | refine g_op ?_ | refine g_un ?_ | refine g_I0 ?_ | refine g_U ?_
    | refine g_test ?_ | refine g_tB ?_ | refine g_bl ?_ | refine g_and ?_ | refine g_or ?_ | refine g_not ?_
    | refine g_andV ?_ | refine g_orV ?_ | refine g_notV ?_ | refine g_if ?_ | refine g_nil ?_ | refine g_cons ?_ | refine g_cb ?_ | refine g_call ?_
    | refine g_lst ?_ | refine g_tup ?_ | refine g_itT ?_ | refine g_itF ?_ | refine g_itNT ?_ | refine g_itNF ?_ | refine g_lc ?_ | refine g_iStr ?_ | refine g_yes ?_ | refine g_exs ?_
    | refine g_chain ?_ | refine g_dget ?_ | refine g_dput ?_ | refine g_dget2 ?_ | refine g_dpop2 ?_ | refine g_fld ?_ | refine g_sfld ?_ | refine g_make ?_ | refine g_meth ?_
    | refine g_bm ?_ | refine g_kw ?_ | refine g_callS ?_ | refine g_revL ?_ | refine g_m1 ?_ | refine g_gsub ?_ | refine g_for ?_ | refine g_iList ?_ | refine g_iTup ?_ | refine g_iRng1 ?_ | refine g_iRng2 ?_ | refine g_sl ?_ | refine g_part ?_ | refine g_noPart ?_
    | refine g_exi ?_ | refine g_exr ?_ | refine g_dnew ?_ | refine g_disp ?_ | refine g_prs0 ?_ | refine g_prs ?_ | refine g_nxt ?_
  | ((with_reducible refine g_var (v := ?vv) ?gv ?_); (case gv => exact rfl))
  | ((with_reducible refine g_I ?gc ?_); (case gc => walk_at "cond"))
  | ((with_reducible refine g_eq ?ge ?_); (case ge => exact rfl))
  | ((with_reducible refine g_ne ?ge ?_); (case ge => exact rfl))
  | (refine g_ixl (SqL.of (by first | assumption | exact upd_same)) rfl ?_)
  | (refine g_setl (by first | assumption | exact upd_same) rfl ?_)
  | ((with_reducible show (∃ i, [V.int _] = [V.int i] ∧ _) ∨ _); refine Or.inl ⟨_, rfl, ?_⟩)
  | ((with_reducible show ∃ i, [V.int _] = [V.int i] ∧ _); refine ⟨_, rfl, ?_⟩)
  | dsimp only)
local macro_rules | `(tactic| walk_at "go") => `(tactic| repeat (walk_at "g1"))

theorem HandAt.exP {H H' : Hp} {T0 h c : Addr} {q : Str} (e : ExB T0 H H') (hT : TabS H T0 q) (x : HandAt H h c) : HandAt H' h c := by
  obtain ⟨⟨i, b, m, n, h1, h2⟩, ⟨cs, h3⟩, h4⟩ := x
  exact ⟨⟨i, b, m, n, e _ _ (tab_ne hT h1 fun _ z => nomatch z) h1, h2⟩, ⟨cs, e _ _ (tab_ne hT h3 fun _ z => nomatch z) h3⟩, h4⟩
theorem text_len {k l : Nat} {s : Bg} (hl : s.length ≤ k) (h : ∀ kv ∈ s, kv.1.length ≤ l ∧ 0 ≤ kv.2 ∧ kv.2 ≤ 9) : (textT s).length ≤ 1 + k * (l + 5) := by
  unfold textT
  split
  · exact Nat.le_trans (Nat.le_of_ble_eq_true (by decide +kernel) : _ ≤ 1) (Nat.le_add_right 1 _)
  · rw [TL.join_eq]
    refine Nat.le_trans (join_len _ _) ?_
    have e3 : (Str.ofString " + ").length = 3 := by decide +kernel
    have hsum : ∀ z : Bg, (∀ kv ∈ z, kv.1.length ≤ l ∧ 0 ≤ kv.2 ∧ kv.2 ≤ 9) → ((z.map pieceT).map fun x => x.length + (Str.ofString " + ").length).sum ≤ z.length * (l + 5) := fun z => by
      induction z with
      | nil => intro _; exact Nat.zero_le _
      | cons kv z ih =>
        intro hz
        have h1 := hz kv List.mem_cons_self
        have h2 := piece_len (u := kv.1) (n := kv.2) (l := l) h1.2.1 (by omega) h1.1
        have h3 := ih fun q hq => hz q (List.mem_cons_of_mem _ hq)
        rw [List.map_cons, List.map_cons, List.sum_cons, List.length_cons, Nat.succ_mul]
        have h4 : (pieceT kv).length ≤ l + 2 := h2
        omega
    have h1 := hsum s h
    have h2 := Nat.mul_le_mul_right (l + 5) hl
    omega
theorem kit_notT {K : PySem.W.Frag} {C : Addr} {T : String} (hm : PySem.W.kitMeta T = true) (hs : PySem.W.subIn K (.ref C) (.type T) = some false) : PySem.W.kitOne K (.ref C) (.type T) = some false := by
  unfold PySem.W.kitOne PySem.W.kitCls
  have e : ((Value.ref C) == (Value.type T)) = false := rfl
  rw [e, if_neg Bool.false_ne_true]
  dsimp only
  rw [hm, hs]
  rfl
/-- s.join of a list of texts -/
theorem joinT {H : Hp} {a : Addr} {n B : Nat} {sep : Str} (h : Tx H a n B) (hs : sep.length = 1) (hn : n * (B + 1) ≤ 1000000) :
    ∃ ys : List Str, H a = some (.lst (ys.map V.str)) ∧ (ys.map (·.length)).sum + ys.length * sep.length ≤ 16777216 ∧ (Txt.join sep ys).length ≤ n * (B + 1) := by
  obtain ⟨us, h1, h2, h3⟩ := h
  have s1 : (us.map (·.length)).sum ≤ us.length * B := by
    clear h1 h2
    induction us with
    | nil => exact Nat.zero_le _
    | cons u r ih =>
      have a1 := h3 u List.mem_cons_self
      have a2 := ih fun x hx => h3 x (List.mem_cons_of_mem _ hx)
      rw [List.map_cons, List.sum_cons, List.length_cons, Nat.succ_mul]
      omega
  have s2 : (us.map fun x => x.length + sep.length).sum ≤ us.length * (B + 1) := by
    rw [hs]
    clear h1 h2 s1
    induction us with
    | nil => exact Nat.zero_le _
    | cons u r ih =>
      have a1 := h3 u List.mem_cons_self
      have a2 := ih fun x hx => h3 x (List.mem_cons_of_mem _ hx)
      rw [List.map_cons, List.sum_cons, List.length_cons, Nat.succ_mul]
      omega
  have s3 := Nat.mul_le_mul_right (B + 1) h2
  have s4 : us.length * (B + 1) = us.length * B + us.length := by rw [Nat.mul_succ]
  refine ⟨us, h1, ?_, ?_⟩
  · rw [hs, Nat.mul_one]
    omega
  · rw [TL.join_eq]
    exact Nat.le_trans (join_len _ _) (by omega)
def sh1 : List Str := ["", "\n", "2", "2\n", "2\n\n", "2\nx", "2\nw", "2\nw\n", "4\nx\n", "x\n", "7\n0\n", "3\n2\n"]
def sh2 : List Str := ["2\t\nx\n", "\t2\nx\n", "2\n\tx\n", "3\n2\tx\n", "2\nx\n\t"]
def sp_law (K : PySem.W.Frag) (T0 : Addr) : Sp := fun vs H Q _ => ∃ (a : Addr) (ns : List Int), vs = [.ref a] ∧ SqL K H a (ns.map V.int) ∧ TabS H T0 lamQ ∧ ∀ H', Q (.bl true) H'
theorem ok_law {T0 : Addr} {f : Addr} {fd : FuncData} (F : Fun K "law" "law" s_law f fd) (T : Txt K mg C_Bag Cs) (D_law_tape : DefOk P w K mg base CX0 1 "_law_tape" ["_law_script"] (sp_bb_tape K)) (D_law_clock : DefOk P w K mg base CX0 2 "_law_clock" ["_law_tape_here"] sp_bb_clock)
    (D_law_pick : DefOk P w K mg base CX0 1 "_law_pick" ["_law_tape_here", "_law_many"] sp_law_draw) (D_law_sparse : DefOk P w K mg base CX0 3 "_law_sparse" ["_law_tape_here", "_law_clock_here", "_law_letters_here", "_law_many", "_law_most"] sp_bb_sparse)
    (D_mk_Bag : MkOk P w K mg base CX0 6 "Bag" C_Bag ["self", "clock", "words"] (sp_bag_init C_Bag Cs)) (D_law_text_of : DefOk P w K mg base CX0 1 "_law_text_of" ["_law_pairs_here"] (sp_text_ofT K))
    (D_law_pairs : DefOk P w K mg base CX0 4 "_law_pairs" ["_law_sparse_here"] (sp_bb_pairs T0)) (D_law_is_right : DefOkG P w K mg base CX0 11 "_law_is_right" ["_law_text"] (sp_rd_rightR T0))
    (D_law_told : DefOk P w K mg base CX0 10 "_law_told" ["_law_text"] (sp_rd_toldR K Cs)) (D_law_spoiled : DefOk P w K mg base CX0 2 "_law_spoiled" ["_law_tape_here", "_law_text"] sp_spoiled)
    (D_law_changed : DefOk P w K mg base CX0 2 "_law_changed" ["_law_tape_here", "_law_lines"] sp_changed) (D_law_deep : DefOk P w K mg base CX0 2 "_law_deep" ["_law_tape_here"] sp_deep) (NS_str : ∀ C, Cs C → PySem.W.subIn K (.ref C) (.type "str") = some false) : FnOkG P w K mg base CX0 12 f fd ["_law_script"] (sp_law K T0) := by
  refine fun_okG F sc_law (fun vs H Q E h => ?_) (fun cdv A outer s H vs Q E hr hgd h => ?_)
  · obtain ⟨a, ns, rfl, _⟩ := h
    rfl
  · obtain ⟨a, ns, rfl, hs, hT, k⟩ := h
    have hu := hu_of hr; have hu64 := L2.Room.units hr; refine ⟨_, (pss_cons (ps_set (i := 1) sc_law.nd rfl (by first | exact Or.inl rfl | exact Or.inr rfl) (pe_callD D_law_tape (hr.mono (by decide)) rfl pass0 (pa_cons (pv 0) pa_nil))) (pss_cons (ps_for PassesOwn.never rfl (pi_range1 rfl T.b_range (pa_cons pe_int pa_nil)) (pg_name (i := 2) sc_law.nd rfl (by first | exact Or.inl rfl | exact Or.inr rfl)) (pss_cons (ps_set (i := 3) sc_law.nd rfl (by first | exact Or.inl rfl | exact Or.inr rfl) (pe_callD D_law_clock (hr.mono (by decide)) rfl pass0 (pa_cons (pv 1) pa_nil))) (pss_cons (ps_set (i := 4) sc_law.nd rfl (by first | exact Or.inl rfl | exact Or.inr rfl) (pe_lst (pa_cons (pe_callTy call_str_int (by rfl) T.b_str (by decide +kernel) (pa_cons (pv 3) pa_nil)) pa_nil))) (pss_cons (ps_for PassesOwn.never rfl (pi_range1 rfl T.b_range (pa_cons (pe_op op_add pe_int (pe_callD D_law_pick (hr.mono (by decide)) rfl pass0 (pa_cons (pv 1) (pa_cons pe_int pa_nil)))) pa_nil)) (pg_name (i := 5) sc_law.nd rfl (by first | exact Or.inl rfl | exact Or.inr rfl)) (pss_one (ps_expr (pe_bmK (K := K) rfl (pe_bm (r := rAppend) PySem.F.plainAttrs_list PySem.F.slot_list_append PySem.F.type_list_append mt_append (pv 4) (pa_cons (pe_callD D_law_text_of (hr.mono (by decide)) rfl pass0 (pa_cons (pe_callD D_law_pairs (hr.mono (by decide)) rfl pass0 (pa_cons (pe_callD D_law_sparse (hr.mono (by decide)) rfl pass0 (pa_cons (pv 1) (pa_cons (pv 3) (pa_cons pe_str (pa_cons pe_int (pa_cons pe_int pa_nil)))))) pa_nil)) pa_nil)) pa_nil)))))) (pss_cons (ps_set (i := 6) sc_law.nd rfl (by first | exact Or.inl rfl | exact Or.inr rfl) (pe_op op_add_str (pe_join pe_str (pv 4)) pe_str)) (pss_cons (ps_set (i := 7) sc_law.nd rfl (by first | exact Or.inl rfl | exact Or.inr rfl) (pe_op op_add_str (pe_join pe_str (pe_callD D_law_changed (hr.mono (by decide)) rfl pass0 (pa_cons (pv 1) (pa_cons (pv 4) pa_nil)))) pe_str)) (pss_cons (ps_set (i := 8) sc_law.nd rfl (by first | exact Or.inl rfl | exact Or.inr rfl) (pe_lst (pa_cons (pv 6) (pa_cons (pv 7) (pa_cons (pe_callD D_law_spoiled (hr.mono (by decide)) rfl pass0 (pa_cons (pv 1) (pa_cons (pv 6) pa_nil))) (pa_cons (pe_callD D_law_spoiled (hr.mono (by decide)) rfl pass0 (pa_cons (pv 1) (pa_cons (pv 7) pa_nil))) (pa_cons (pe_slice sl_str (pv 6) po_none (po_some (pe_un un_neg pe_int))) (pa_cons (pe_op op_add_str (pv 6) pe_str) (pa_cons (pe_op op_add_str pe_str (pv 6)) pa_nil))))))))) (pss_cons (ps_set (i := 8) sc_law.nd rfl (by first | exact Or.inl rfl | exact Or.inr rfl) (pe_op op_cat (pv 8) (pe_lst (pa_cons (pe_op op_add_str (pv 6) pe_str) (pa_cons (pe_op op_add_str (pv 6) pe_str) (pa_cons (pe_op op_add_str (pv 6) (pv 6)) (pa_cons (pe_join pe_str (pe_slice sl_list (pv 4) po_none (po_some pe_int))) (pa_cons (pe_op op_add_str (pe_join pe_str (pe_slice sl_list (pv 4) po_none (po_some pe_int))) pe_str) pa_nil)))))))) (pss_one (ps_if (pt_not (pt_val (pe_callB (r := rAll K) (cr_all rfl) (by rfl) T.b_all (by decide +kernel) (pa_cons (pe_lc (own := [("_law_one", 9)]) (g := (gName 9)) (tt := tYes) rfl sc_law.nd (pi_list (pv 8)) (blkOk_by (N := N_law) (sc := defScope s_law) (by decide +kernel)) (fun _ _ _ _ _ => (pg_name (i := 9) sc_law.nd rfl (by first | exact Or.inl rfl | exact Or.inr rfl))) (fun _ _ _ _ _ => pts_nil) (fun _ _ _ _ _ => (pe_callDG D_law_is_right (hr.mono (by decide)) hgd rfl pass0 (pa_cons (pv 9) pa_nil)))) pa_nil)))) (pss_one (ps_ret pe_bl)) pss_nil)))))))))) (pss_cons (ps_set (i := 10) sc_law.nd rfl (by first | exact Or.inl rfl | exact Or.inr rfl) (pe_lst (pa_cons pe_str (pa_cons pe_str (pa_cons pe_str (pa_cons pe_str (pa_cons pe_str (pa_cons pe_str (pa_cons pe_str (pa_cons pe_str (pa_cons pe_str (pa_cons pe_str (pa_cons pe_str (pa_cons pe_str pa_nil)))))))))))))) (pss_cons (ps_set (i := 10) sc_law.nd rfl (by first | exact Or.inl rfl | exact Or.inr rfl) (pe_op op_cat (pv 10) (pe_lst (pa_cons pe_str (pa_cons pe_str (pa_cons pe_str (pa_cons pe_str (pa_cons pe_str pa_nil)))))))) (pss_cons (ps_if (pt_not (pt_val (pe_callB (r := rAll K) (cr_all rfl) (by rfl) T.b_all (by decide +kernel) (pa_cons (pe_lc (own := [("_law_one", 9)]) (g := (gName 9)) (tt := tYes) rfl sc_law.nd (pi_list (pv 10)) (blkOk_by (N := N_law) (sc := defScope s_law) (by decide +kernel)) (fun _ _ _ _ _ => (pg_name (i := 9) sc_law.nd rfl (by first | exact Or.inl rfl | exact Or.inr rfl))) (fun _ _ _ _ _ => pts_nil) (fun _ _ _ _ _ => (pe_callDG D_law_is_right (hr.mono (by decide)) hgd rfl pass0 (pa_cons (pv 9) pa_nil)))) pa_nil)))) (pss_one (ps_ret pe_bl)) pss_nil) (pss_cons (ps_set (i := 11) sc_law.nd rfl (by first | exact Or.inl rfl | exact Or.inr rfl) (pe_lst (pa_cons pe_non (pa_cons pe_int (pa_cons pe_bl (pa_cons pe_int (pa_cons (pe_tup pa_nil) (pa_cons (pe_lst pa_nil) (pa_cons (pe_lst (pa_cons pe_str (pa_cons pe_str pa_nil))) (pa_cons (pe_lst (pa_cons (pe_mkD D_mk_Bag (hr.mono (by decide)) rfl pass0 (pa_cons pe_int (pa_cons (pe_disp (pps_cons pe_str pe_int pps_nil) rfl rfl (List.cons_ne_nil _ _) (Nat.le_of_ble_eq_true rfl)) pa_nil))) pa_nil)) (pa_cons (pe_mkD D_mk_Bag (hr.mono (by decide)) rfl pass0 (pa_cons pe_int (pa_cons pe_dnewK pa_nil))) (pa_cons (pe_callD D_law_deep (hr.mono (by decide)) rfl pass0 (pa_cons (pv 1) pa_nil)) pa_nil)))))))))))) (pss_one (ps_ret (pe_callB (r := rAll K) (cr_all rfl) (by rfl) T.b_all (by decide +kernel) (pa_cons (pe_lc (own := [("_law_thing", 12)]) (g := (gName 12)) (tt := tYes) rfl sc_law.nd (pi_list (pv 11)) (blkOk_by (N := N_law) (sc := defScope s_law) (by decide +kernel)) (fun _ _ _ _ _ => (pg_name (i := 12) sc_law.nd rfl (by first | exact Or.inl rfl | exact Or.inr rfl))) (fun _ _ _ _ _ => pts_nil) (fun _ _ _ _ _ => (pe_cmpR (r := rEqP K false) (op_eqP hu64) (pe_callD D_law_told (hr.mono (by decide)) rfl pass0 (pa_cons (pv 12) pa_nil)) (pe_tup (pa_cons pe_str (pa_cons pe_int pa_nil))) (nomark _)))) pa_nil)))))))))), ?_⟩; rw [st_law]; (try dsimp only [cxOf]); walk_at "go"
    refine ⟨a, ns, rfl, hs, fun h c H1 e1 hn1 hn2 hh1 => ?_⟩
    have hT1 := hT.ex' e1
    have hnl : (Str.ofString "\n").length = 1 := by decide +kernel
    have B6 : ∀ {n : Nat}, n ≤ 1000000 → n ≤ sizeLine := fun h => Nat.le_trans h (by decide)
    walk_at "go"
    refine ⟨by decide, by decide, ?_⟩
    refine forG walk_range (fun i σ' H' => ∃ y2 y3 y4 y5 y6 y7 y8 y9, σ' = [some (.ref a), some (.ref h), y2, y3, y4, y5, y6, y7, y8, y9, none, none, none] ∧ HandAt H' h c ∧ TabS H' T0 lamQ) ⟨_, _, _, _, _, _, _, _, rfl, hh1, hT1⟩ (fun _ _ _ _ _ => trivial) ?_ ?_
    · clear hT hT1 hh1 e1
      rintro i x σ' H4 H5 hi ⟨y2, y3, y4, y5, y6, y7, y8, y9, rfl, hh4, hT4⟩ ⟨rfl, rfl⟩
      walk_at "go"
      refine ⟨h, c, rfl, hh4, fun p H2 hp e2 hh2 => ?_⟩
      have hT2 := hT4.exb e2 hh4.kind.choose_spec (fun _ z => nomatch z) (fun _ z => nomatch z)
      have hp2 := hp.lo
      have hp7 := hp.hi
      walk_at "go"
      refine ⟨log_small (by omega) (by omega), ?_⟩
      walk_at "go"
      refine ⟨Nat.le_of_ble_eq_true rfl, fun r1 hr1 => ?_⟩
      obtain ⟨q1, q2⟩ := hh2.new hr1
      have hhA := hh2.upd q1 q2 (o := .lst [.str (numT p)])
      have hTA := hT2.ex' (Ex.new hr1 (o := .lst [.str (numT p)]))
      have hrA : (upd H2 r1 (.lst [.str (numT p)])) r1 = some (.lst ([numT p].map V.str)) := upd_same
      show gName 4 _ _ (upd H2 r1 (.lst [.str (numT p)])) _
      generalize upd H2 r1 (.lst [.str (numT p)]) = HA at hhA hTA hrA ⊢
      walk_at "go"
      refine ⟨h, c, 5, rfl, hhA, by decide, by decide, fun v1 HB hv0 hv1 eB hhB => ?_⟩
      have hTB := hTA.exb eB hhA.kind.choose_spec (fun _ z => nomatch z) (fun _ z => nomatch z)
      have hrB := eB _ _ q1 hrA
      walk_at "go"
      refine ⟨by omega, by omega, ?_⟩
      refine forG walk_range (fun i σ' H' => ∃ z2 z5, σ' = [some (.ref a), some (.ref h), z2, some (.int p), some (.ref r1), z5, y6, y7, y8, y9, none, none, none] ∧ HandAt H' h c ∧ TabS H' T0 lamQ ∧ ∃ us : List Str, H' r1 = some (.lst (us.map V.str)) ∧ us.length = 1 + i ∧ ∀ u ∈ us, u.length ≤ 100) ⟨_, _, rfl, hhB, hTB, [numT p], hrB, rfl, fun u hu => by rw [List.mem_singleton.mp hu, len_numT (by omega) (by omega)]; decide⟩ (fun _ _ _ _ _ => trivial) ?_ ?_
      · clear hT2 hT4 hhA hTA hrA hhB hTB hrB eB e2 hh2 hh4
        rintro i2 x2 σ' HC HD hi2 ⟨z2, z5, rfl, hhC, hTC, us, hus, hul, hub⟩ ⟨rfl, rfl⟩
        walk_at "go"
        refine ⟨.inl ⟨rfl, _, SqL.of hus⟩, ?_⟩
        walk_at "go"
        refine ⟨h, c, p, _, 4, 3, rfl, hhC, hp2, by omega, by decide +kernel, by decide +kernel, by decide +kernel, by decide, by decide, fun d s HE eE hd0 hd L hhE => ?_⟩
        have hTE := hTC.exb eE hhC.kind.choose_spec (fun _ z => nomatch z) (fun _ z => nomatch z)
        have husE := eE _ _ q1 hus
        walk_at "go"
        refine ⟨d, s, rfl, .inl hd, Nat.le_trans L.n (by decide), (fun u hu => Nat.le_trans (L.l u hu).1 (by decide)), hTE, fun t2 H3 e3 hT3 ht2 hw2 => ?_⟩
        have hh3 := hhE.exP e3 hTE
        have hus3 := e3 _ _ (tab_ne hTE husE fun _ z => nomatch z) husE
        obtain ⟨qs, o, w1, w2, w3⟩ := id hw2.ex
        have hwr : ∀ kv ∈ wordsS s, kv.1.length ≤ 4 ∧ 0 ≤ kv.2 ∧ kv.2 ≤ 9 := fun kv hk => by
          obtain ⟨hk1, hk2⟩ := mem_wordsS.mp hk
          obtain ⟨m, hm⟩ := mem_keys.mp hk1
          rw [cf_of_mem L.g.nd hm] at hk2
          have h1 := (L.l kv.1 hk1).1
          have h2 := L.g.lo _ hm
          have h3 := L.g.hi _ hm
          dsimp only at h2 h3
          omega
        have htl := text_len (k := 3) (by rw [wordsS_len]; exact L.n) hwr
        walk_at "go"
        refine ⟨t2, qs, wordsS s, rfl, .inl (.inr ⟨o, w1⟩), w3, by rw [wordsS_len]; exact Nat.le_trans L.n (by decide), (fun kv hk => by have := hwr kv hk; omega), fun H6 e6 => ?_⟩
        have hh6 := hh3.ex' e6
        have hT6 := hT3.ex' e6
        have hus6 := e6 _ _ hus3
        generalize textT (wordsS s) = t at htl
        walk_at "go"
        refine ⟨r1, _, _, rfl, rfl, hus6, by rw [List.length_map]; exact Nat.lt_of_le_of_lt (by omega : us.length ≤ 1000) (by decide), ?_⟩
        refine ⟨_, _, rfl, hh6.upd q1 q2, hT6.upd (.inr ⟨_, hus6⟩), us ++ [t], ?_, ?_, fun u hu => ?_⟩
        · rw [upd_same, List.map_append]
          rfl
        · rw [List.length_append, hul]
          rfl
        · rcases List.mem_append.mp hu with hu | hu
          · exact hub u hu
          · rw [List.mem_singleton.mp hu]
            omega
      · clear hT2 hT4 hhA hTA hrA hhB hTB hrB eB e2 hh2 hh4
        rintro σ' HC ⟨z2, z5, rfl, hhC, hTC, us, hus, hul, hub⟩
        have hto : (1 + v1 - 0).toNat ≤ 5 := by omega
        have htx : Tx HC r1 6 100 := ⟨us, hus, by omega, hub⟩
        walk_at "go"
        refine ⟨⟨_, rfl⟩, ?_⟩
        walk_at "go"
        obtain ⟨ys1, j1, j2, j3⟩ := joinT (sep := Str.ofString "\n") htx hnl (by decide)
        refine ⟨_, r1, ys1, rfl, rfl, .inl (SqL.of j1), j2, ?_⟩
        generalize Txt.join (Str.ofString "\n") ys1 = u1 at j3 ⊢
        have cat : ∀ {x y : Str} {m n : Nat}, x.length ≤ m → y.length ≤ n → m + n ≤ 1000000 → x.length + y.length ≤ sizeLine ∧ (x ++ y).length ≤ m + n := fun {x y m n} h1 h2 h3 => ⟨B6 (by omega), by rw [len_app]; omega⟩
        have hn1 : (Str.ofString "\n").length ≤ 1 := by omega
        walk_at "go"
        have c1 := cat j3 hn1 (by decide)
        refine ⟨_, _, rfl, rfl, c1.1, ?_⟩
        generalize u1 ++ Str.ofString "\n" = tx at c1 ⊢
        replace c1 := c1.2
        walk_at "go"
        refine ⟨⟨_, rfl⟩, ?_⟩
        walk_at "go"
        refine ⟨h, c, r1, 6, 100, us, rfl, hhC, q1, hus, by omega, by omega, by decide, by decide, hub, fun rc HD eD hhD hrc txc => ?_⟩
        have hTD := hTC.exb eD hhC.kind.choose_spec (fun _ z => nomatch z) (fun _ z => nomatch z)
        have htxD := htx.exb eD q1
        obtain ⟨ys2, j4, j5, j6⟩ := joinT (sep := Str.ofString "\n") txc hnl (by decide)
        walk_at "go"
        refine ⟨_, rc, ys2, rfl, rfl, .inl (SqL.of j4), j5, ?_⟩
        generalize Txt.join (Str.ofString "\n") ys2 = u2 at j6 ⊢
        walk_at "go"
        have c2 := cat j6 hn1 (by decide)
        refine ⟨_, _, rfl, rfl, c2.1, ?_⟩
        generalize u2 ++ Str.ofString "\n" = od at c2 ⊢
        replace c2 := c2.2
        walk_at "go"
        refine ⟨h, c, tx, rfl, hhD, by omega, fun s1 HE hs1 eE hhE => ?_⟩
        have hTE := hTD.exb eE hhD.kind.choose_spec (fun _ z => nomatch z) (fun _ z => nomatch z)
        walk_at "go"
        refine ⟨h, c, od, rfl, hhE, by omega, fun s2 HF hs2 eF hhF => ?_⟩
        have hTF := hTE.exb eF hhE.kind.choose_spec (fun _ z => nomatch z) (fun _ z => nomatch z)
        have htxF := (htxD.exb eE q1).exb eF q1
        walk_at "go"
        refine ⟨tx, rfl, B6 (by omega), ?_⟩
        have c3 : (cutS tx none (some (-1))).length ≤ 1000 := Nat.le_trans (cutS_length tx none (some (-1))) (by omega)
        generalize cutS tx none (some (-1)) = x3 at c3 ⊢
        walk_at "go"
        have c4 := cat (m := 1000) (by omega : tx.length ≤ 1000) hn1 (by decide)
        refine ⟨_, _, rfl, rfl, c4.1, ?_⟩
        generalize tx ++ Str.ofString "\n" = x4 at c4 ⊢
        replace c4 := c4.2
        walk_at "go"
        have c5 := cat (n := 1000) hn1 (by omega : tx.length ≤ 1000) (by decide)
        refine ⟨_, _, rfl, rfl, c5.1, ?_⟩
        generalize Str.ofString "\n" ++ tx = x5 at c5 ⊢
        replace c5 := c5.2
        walk_at "go"
        refine ⟨Nat.le_of_ble_eq_true rfl, fun ra hra => ?_⟩
        have EA : Ex HF (upd HF ra (.lst ([tx, od, s1, s2, x3, x4, x5].map V.str))) := Ex.new hra
        have TA : Tx (upd HF ra (.lst ([tx, od, s1, s2, x3, x4, x5].map V.str))) ra 7 1000000 := ⟨_, upd_same, Nat.le_refl _, fun u hu => by
          simp only [List.mem_cons, List.not_mem_nil, or_false] at hu
          rcases hu with rfl | rfl | rfl | rfl | rfl | rfl | rfl <;> omega⟩
        show gName 8 _ _ (upd HF ra (.lst ([tx, od, s1, s2, x3, x4, x5].map V.str))) _
        have hhG := hhF.ex' EA
        have hTG := hTF.ex' EA
        have htxG := htxF.ex EA
        generalize upd HF ra (.lst ([tx, od, s1, s2, x3, x4, x5].map V.str)) = HG at EA TA hhG hTG htxG ⊢
        have hx1 : (Str.ofString "x").length ≤ 1 := by decide +kernel
        have hw1 : (Str.ofString "w\n").length ≤ 2 := by decide +kernel
        have htx7 : tx.length ≤ 1000 := by omega
        walk_at "go"
        have d1 := cat htx7 hx1 (by decide)
        refine ⟨_, _, rfl, rfl, d1.1, ?_⟩
        generalize tx ++ Str.ofString "x" = w1 at d1 ⊢
        replace d1 := d1.2
        walk_at "go"
        have d2 := cat htx7 hw1 (by decide)
        refine ⟨_, _, rfl, rfl, d2.1, ?_⟩
        generalize tx ++ Str.ofString "w\n" = w2 at d2 ⊢
        replace d2 := d2.2
        walk_at "go"
        have d3 := cat htx7 htx7 (by decide)
        refine ⟨_, _, rfl, rfl, d3.1, ?_⟩
        generalize tx ++ tx = w3 at d3 ⊢
        replace d3 := d3.2
        walk_at "go"
        refine ⟨⟨_, rfl⟩, ?_⟩
        walk_at "go"
        refine g_slT htxG fun p1 HI eI hp1 tI => ?_
        obtain ⟨ys4, f1, f2, f3⟩ := joinT (sep := Str.ofString "\n") tI hnl (by decide)
        refine ⟨_, p1, ys4, rfl, rfl, .inl (SqL.of f1), f2, ?_⟩
        generalize Txt.join (Str.ofString "\n") ys4 = w4 at f3 ⊢
        walk_at "go"
        refine ⟨⟨_, rfl⟩, ?_⟩
        walk_at "go"
        refine g_slT (htxG.ex eI) fun p2 HJ eJ hp2 tJ => ?_
        obtain ⟨ys5, f4, f5, f6⟩ := joinT (sep := Str.ofString "\n") tJ hnl (by decide)
        refine ⟨_, p2, ys5, rfl, rfl, .inl (SqL.of f4), f5, ?_⟩
        generalize Txt.join (Str.ofString "\n") ys5 = w5 at f6 ⊢
        walk_at "go"
        have d5 := cat f6 hn1 (by decide)
        refine ⟨_, _, rfl, rfl, d5.1, ?_⟩
        generalize w5 ++ Str.ofString "\n" = w6 at d5 ⊢
        replace d5 := d5.2
        walk_at "go"
        refine ⟨Nat.le_of_ble_eq_true rfl, fun rb hrb => ?_⟩
        have EB : Ex HJ (upd HJ rb (.lst ([w1, w2, w3, w4, w6].map V.str))) := Ex.new hrb
        have TB : Tx (upd HJ rb (.lst ([w1, w2, w3, w4, w6].map V.str))) rb 5 1000000 := ⟨_, upd_same, Nat.le_refl _, fun u hu => by
          simp only [List.mem_cons, List.not_mem_nil, or_false] at hu
          rcases hu with rfl | rfl | rfl | rfl | rfl <;> omega⟩
        show rCat _ _ (upd HJ rb (.lst ([w1, w2, w3, w4, w6].map V.str))) _
        generalize upd HJ rb (.lst ([w1, w2, w3, w4, w6].map V.str)) = HK at EB TB ⊢
        refine g_catT (TA.ex (eI.trans (eJ.trans EB))) TB (by decide) fun rd HL eL hrd ⟨uz, z1, z2, z3⟩ => ?_
        have eGL := eI.trans (eJ.trans (EB.trans eL))
        have hhL := hhG.ex' eGL
        have hTL := hTG.ex' eGL
        walk_at "go"
        refine ⟨⟨_, SqL.of z1⟩, ?_⟩
        walk_at "go"
        refine lc_mutT (f := T0) (walk_list (xs := uz.map V.str)) hTL.kind.choose_spec (by rw [List.length_map]; exact Nat.le_trans z2 (by decide)) (fun H => TabS H T0 lamQ) hTL (fun H D o hD x => x.upd hD) (fun H e i => SqL.of (e _ _ (tab_ne hTL z1 fun _ z => nomatch z) z1)) (fun y => y = V.bl true) (fun _ => rfl) ?_ ?_
        · rintro i x HM HN Kc hi eM hTM ⟨rfl, hz⟩ hk
          obtain ⟨z, hz', rfl⟩ : ∃ z : Str, z ∈ uz ∧ x = .str z := by
            have hz : (uz.map V.str)[i]? = some x := hz
            rw [List.getElem?_map] at hz
            obtain ⟨z, h1, h2⟩ := Option.map_eq_some_iff.mp hz
            exact ⟨z, List.mem_of_getElem? h1, h2.symm⟩
          walk_at "go"
          exact ⟨z, rfl, z3 z hz', hTM, fun H6 e6 hT6 => hk _ _ e6 hT6 rfl⟩
        intro D HP ys hD eP hTP hlD _ hys
        have hhP := hhL.exP eP hTL
        obtain ⟨n4, rfl⟩ := all_bl hys
        refine ⟨D, _, rfl, SqL.of hlD, ?_⟩
        rw [all_rep]
        walk_at "go"
        exact ⟨_, _, _, _, _, _, _, _, rfl, hhP, hTP⟩
    · clear hT hT1 hh1 e1
      rintro σ' H2 ⟨y2, y3, y4, y5, y6, y7, y8, y9, rfl, hh2, hT2⟩
      walk_at "go"
      refine ⟨Nat.le_of_ble_eq_true rfl, fun r1 hr1 => ?_⟩
      have EA : Ex H2 (upd H2 r1 (.lst (sh1.map V.str))) := Ex.new hr1
      have TA : Tx (upd H2 r1 (.lst (sh1.map V.str))) r1 12 1000000 := ⟨_, upd_same, by decide, by decide +kernel⟩
      show gName 10 _ _ (upd H2 r1 (.lst (sh1.map V.str))) _
      generalize upd H2 r1 (.lst (sh1.map V.str)) = HA at EA TA ⊢
      walk_at "go"
      refine ⟨Nat.le_of_ble_eq_true rfl, fun r2 hr2 => ?_⟩
      have EB : Ex HA (upd HA r2 (.lst (sh2.map V.str))) := Ex.new hr2
      have TB : Tx (upd HA r2 (.lst (sh2.map V.str))) r2 5 1000000 := ⟨_, upd_same, by decide, by decide +kernel⟩
      show rCat _ _ (upd HA r2 (.lst (sh2.map V.str))) _
      generalize upd HA r2 (.lst (sh2.map V.str)) = HB at EB TB ⊢
      refine g_catT (TA.ex EB) TB (by decide) fun rd HL eL hrd ⟨uz, z1, z2, z3⟩ => ?_
      have eGL := EA.trans (EB.trans eL)
      have hhL := hh2.ex' eGL
      have hTL := hT2.ex' eGL
      clear EA TA EB TB eL
      walk_at "go"
      refine ⟨⟨_, SqL.of z1⟩, ?_⟩
      walk_at "go"
      refine lc_mutT (f := T0) (walk_list (xs := uz.map V.str)) hTL.kind.choose_spec (by rw [List.length_map]; exact Nat.le_trans z2 (by decide)) (fun H => TabS H T0 lamQ) hTL (fun H D o hD x => x.upd hD) (fun H e i => SqL.of (e _ _ (tab_ne hTL z1 fun _ z => nomatch z) z1)) (fun y => y = V.bl true) (fun _ => rfl) ?_ ?_
      · rintro i x HM HN Kc hi eM hTM ⟨rfl, hz⟩ hk
        obtain ⟨z, hz', rfl⟩ : ∃ z : Str, z ∈ uz ∧ x = .str z := by
          have hz : (uz.map V.str)[i]? = some x := hz
          rw [List.getElem?_map] at hz
          obtain ⟨z, h1, h2⟩ := Option.map_eq_some_iff.mp hz
          exact ⟨z, List.mem_of_getElem? h1, h2.symm⟩
        walk_at "go"
        exact ⟨z, rfl, z3 z hz', hTM, fun H6 e6 hT6 => hk _ _ e6 hT6 rfl⟩
      intro D H0 ys hD eP hT0 hlD _ hys
      have hh0 := hhL.exP eP hTL
      obtain ⟨n4, rfl⟩ := all_bl hys
      refine ⟨D, _, rfl, SqL.of hlD, ?_⟩
      rw [all_rep]
      clear hlD hys eP hhL hTL z1 z2 z3
      walk_at "go"
      refine ⟨Nat.zero_le _, fun p1 hp1 => ?_⟩
      have E1 : Ex H0 (upd H0 p1 (.tup [])) := Ex.new hp1
      have g1 := upd_same (H := H0) (a := p1) (o := .tup [])
      generalize upd H0 p1 (.tup []) = HA at E1 g1 ⊢
      walk_at "go"
      refine ⟨Nat.zero_le _, fun p2 hp2 => ?_⟩
      have E2 : Ex HA (upd HA p2 (.lst [])) := Ex.new hp2
      have g2 := upd_same (H := HA) (a := p2) (o := .lst [])
      generalize upd HA p2 (.lst []) = HB at E2 g2 ⊢
      walk_at "go"
      refine ⟨Nat.le_of_ble_eq_true rfl, fun p3 hp3 => ?_⟩
      have E3 : Ex HB (upd HB p3 (.lst [.str (Str.ofString "2"), .str (Str.ofString "x")])) := Ex.new hp3
      have g3 := upd_same (H := HB) (a := p3) (o := .lst [.str (Str.ofString "2"), .str (Str.ofString "x")])
      generalize upd HB p3 (.lst [.str (Str.ofString "2"), .str (Str.ofString "x")]) = HC at E3 g3 ⊢
      walk_at "go"
      intro d6 hd6
      walk_at "go"
      refine ⟨upd_same, [(Sum.inr (Str.ofString "x"), .int 1)], rfl, Nat.le_of_ble_eq_true rfl, ?_⟩
      have E6 : Ex HC (upd (upd HC d6 (.dK [])) d6 (.dK (toK [(Str.ofString "x", 1)]))) := Ex.mut (Ex.new hd6) hd6
      have g6 := upd_same (H := upd HC d6 (.dK [])) (a := d6) (o := .dK (toK [(Str.ofString "x", 1)]))
      have hm6 : mergeK [] [(Sum.inr (Str.ofString "x"), V.int 1)] = toK [(Str.ofString "x", 1)] := rfl
      rw [hm6]
      generalize upd (upd HC d6 (.dK [])) d6 (.dK (toK [(Str.ofString "x", 1)])) = HF at E6 g6 ⊢
      have hlx : Lot 2 [(Str.ofString "x", 1)] 300 12 := ⟨⟨by unfold keys; simp, by simp, by simp⟩, by decide, by decide +kernel⟩
      walk_at "go"
      refine g_mkBag (.inl rfl) g6 hlx fun x HG eG hx0 hbx => ?_
      walk_at "go"
      refine ⟨Nat.le_of_ble_eq_true rfl, fun p4 hp4 => ?_⟩
      have E4 : Ex HG (upd HG p4 (.lst [.ref x])) := Ex.new hp4
      have g4 := upd_same (H := HG) (a := p4) (o := .lst [.ref x])
      generalize upd HG p4 (.lst [.ref x]) = HH at E4 g4 ⊢
      walk_at "go"
      intro d7 hd7
      have E7 : Ex HH (upd HH d7 (.dK (toK []))) := Ex.new hd7
      have g7 := upd_same (H := HH) (a := d7) (o := .dK (toK []))
      have hm7 : upd HH d7 (.dK []) = upd HH d7 (.dK (toK [])) := rfl
      rw [hm7]
      generalize upd HH d7 (.dK (toK [])) = HI at E7 g7 ⊢
      walk_at "go"
      refine g_mkBag (.inl rfl) g7 Lot.nil fun x2 HJ eJ hx2 hbx2 => ?_
      have EJ : Ex HC HJ := E6.trans (eG.trans (E4.trans (E7.trans eJ)))
      have E0J : Ex H0 HJ := E1.trans (E2.trans (E3.trans EJ))
      have hhJ := hh0.ex' E0J
      walk_at "go"
      refine ⟨h, c, rfl, hhJ, fun v5 HK eK hhK dK => ?_⟩
      have kJ := hhJ.kind.choose_spec
      have f1 : HK p1 = some (.tup []) := by
        have z := EJ _ _ (E3 _ _ (E2 _ _ g1))
        exact eK _ _ (ne_of z kJ (fun z => nomatch z)) z
      have f2 : HK p2 = some (.lst []) := eK _ _ ((hh0.ex' E1).new hp2).1 (EJ _ _ (E3 _ _ g2))
      have f3 : HK p3 = some (.lst [.str (Str.ofString "2"), .str (Str.ofString "x")]) := eK _ _ ((hh0.ex' (E1.trans E2)).new hp3).1 (EJ _ _ g3)
      have f4 : HK p4 = some (.lst [.ref x]) := eK _ _ ((hh0.ex' (E1.trans (E2.trans (E3.trans (E6.trans eG))))).new hp4).1 ((E7.trans eJ) _ _ g4)
      have hnsB : NoStr K HK (.ref x2) := by
        obtain ⟨C, dx, dd, kk, tt, hc, q1, _, _⟩ := id hbx2.ex
        exact ⟨_, bag_ty T hc (eK _ _ (ne_of q1 kJ (fun z => nomatch z)) q1), kit_notT (by decide +kernel) (NS_str C hc)⟩
      obtain ⟨ty5, hty5, hk5⟩ := dK.ty (K := K) (n := "str") (kit_ty (by decide +kernel)) (kit_ty (by decide +kernel)) (kit_ty (by decide +kernel))
      have hns : ∀ y ∈ [V.non, .int 0, .bl true, .int 2, .ref p1, .ref p2, .ref p3, .ref p4, .ref x2, v5], NoStr K HK y := by
        intro y hy
        simp only [List.mem_cons, List.not_mem_nil, or_false] at hy
        rcases hy with rfl | rfl | rfl | rfl | rfl | rfl | rfl | rfl | rfl | rfl
        · exact ⟨_, .base .non, kit_ty (by decide +kernel)⟩
        · exact ⟨_, .base (.int 0), kit_ty (by decide +kernel)⟩
        · exact ⟨_, .base (.bl true), kit_ty (by decide +kernel)⟩
        · exact ⟨_, .base (.int 2), kit_ty (by decide +kernel)⟩
        · exact ⟨_, .base (.tup f1), kit_ty (by decide +kernel)⟩
        · exact ⟨_, .base (.lst f2), kit_ty (by decide +kernel)⟩
        · exact ⟨_, .base (.lst f3), kit_ty (by decide +kernel)⟩
        · exact ⟨_, .base (.lst f4), kit_ty (by decide +kernel)⟩
        · exact hnsB
        · exact ⟨ty5, hty5, hk5⟩
      walk_at "go"
      refine ⟨Nat.le_of_ble_eq_true rfl, fun rt hrt => ?_⟩
      generalize hxs : [V.non, .int 0, .bl true, .int 2, .ref p1, .ref p2, .ref p3, .ref p4, .ref x2, v5] = xs at hns
      have hxl : xs.length = 10 := by rw [← hxs]; rfl
      have eT : Ex HK (upd HK rt (.lst xs)) := Ex.new hrt
      have hlT := upd_same (H := HK) (a := rt) (o := .lst xs)
      have hns2 : ∀ y ∈ xs, NoStr K (upd HK rt (.lst xs)) y := fun y hy => by
        obtain ⟨ty, h1, h2⟩ := hns y hy
        exact ⟨ty, tyx_ex eT h1, h2⟩
      generalize upd HK rt (.lst xs) = HT at eT hlT hns2 ⊢
      walk_at "go"
      refine ⟨⟨_, SqL.of hlT⟩, ?_⟩
      refine lc_pure (walk_list (xs := xs)) ((List.replicate 10 true).map V.bl) (by rw [hxl]; rfl) (by rw [hxl]; decide) (fun H' e => SqL.of (e _ _ hlT)) (fun _ => rfl) ?_ ?_
      · rintro i y z HU HV Kc hi eU ⟨rfl, hz⟩ hzy hK
        have hz : xs[i]? = some y := hz
        obtain ⟨ty, h1, h2⟩ := hns2 y (List.mem_of_getElem? hz)
        obtain rfl : z = .bl true := by
          rw [hxl] at hi
          rw [List.getElem?_map, List.getElem?_replicate_of_lt hi] at hzy
          exact (Option.some.inj hzy).symm
        walk_at "go"
        refine ⟨y, rfl, .inl ⟨⟨ty, tyx_ex eU h1, h2⟩, fun r HW eW hr => ?_⟩⟩
        walk_at "go"
        refine ⟨Nat.le_of_ble_eq_true rfl, fun q2 hq2 => ?_⟩
        have dpb : ∀ {H : Hp} {q : Addr}, H q = some (.tup [.str "bad", .int 0]) → Dp K H (.ref q) (pairD ("bad", 0)) := fun h => .tup (SqT.of h) (.cons (.str _) (.cons (.int _) .nil))
        have e3 : Ex HW (upd HW q2 (.tup [.str "bad", .int 0])) := Ex.new hq2
        refine ⟨_, _, dpb (e3 _ _ hr), dpb upd_same, by simp [pairD, PyData.plain, PyData.plainAll], by simp [pairD, PyData.plain, PyData.plainAll], by simp [pairD, PyData.depth, PyData.depthAll], ?_⟩
        rw [if_neg Bool.false_ne_true, eqv_pair, decide_eq_true rfl]
        exact hK _ (eW.trans e3)
      intro D5 H5 hD5 e5 hl5
      refine ⟨D5, _, rfl, SqL.of hl5, ?_⟩
      rw [all_rep]
      exact k _

end
end Fp

namespace Fp
open PySem L2
theorem kit_sub {K : PySem.W.Frag} {C : Addr} {t : Value} (hc : PySem.W.isClsIn K C = true) (ht : PySem.W.typeIn K (.ref C) = some (.type "type")) (hs : PySem.W.subIn K t (.ref C) = some true) : PySem.W.kitOne K t (.ref C) = some true := by
  unfold PySem.W.kitOne PySem.W.kitCls
  have hc' : (PySem.W.clsIn K C).isSome = true := hc
  split
  · rfl
  · dsimp only
    rw [hc', ht, hs]
    rfl
theorem exm_self {K : PySem.W.Frag} {C : Addr} {t : Value} (hb : PySem.W.subIn K (.ref C) (.type "BaseException") = some true) (hc : PySem.W.isClsIn K C = true) (ht : PySem.W.typeIn K (.ref C) = some (.type "type")) (hs : PySem.W.subIn K t (.ref C) = some true) : PySem.W.exmOne K t (.ref C) = some true := by
  unfold PySem.W.exmOne PySem.W.kitCls
  have hc' : (PySem.W.clsIn K C).isSome = true := hc
  rw [hb]
  dsimp only
  rw [hc', ht, hs]
  rfl
theorem exm_not {K : PySem.W.Frag} {C : Addr} {t : Value} (hb : PySem.W.subIn K (.ref C) (.type "BaseException") = some true) (hc : PySem.W.isClsIn K C = true) (ht : PySem.W.typeIn K (.ref C) = some (.type "type")) (hs : PySem.W.subIn K t (.ref C) = some false) : PySem.W.exmOne K t (.ref C) = some false := by
  unfold PySem.W.exmOne PySem.W.kitCls
  have hc' : (PySem.W.clsIn K C).isSome = true := hc
  rw [hb]
  dsimp only
  rw [hc', ht, hs]
  rfl
theorem all_mk {l : PySem.W.OpenLaw} {w : World} {K : PySem.W.Frag} {h : Heap} {mg : Str → Option Value} {fa aC C_Bag C_RawBag T0 cT C_BadText fi_BadText ca_BadText cc_BadText f_ahead_key f_law_tape f_law_pick f_law_clock f_law_word f_law_sparse f_is_integer f_is_clock f_is_word f_is_short_word f_is_within f_are_words f_words_in_order f_Bag_keep f_Bag_init f_law_text_of f_law_pairs f_law_word_told f_law_read f_law_due f_read_word f_read_words f_RawBag_init f_raw f_read_row f_law_told f_law_is f_law_is_right f_law_spoiled f_law_changed f_law_deep f_law : Addr} (X : K.In h) (G : h.Ns mainGlobals mg) (hfa : mg "law" = some (.ref fa))
    {od_ahead_key an_ahead_key : Option Addr} {sl_ahead_key : Array (Option Value)} {oc_ahead_key kV_ahead_key dc_ahead_key pm_ahead_key cd_ahead_key ct_ahead_key : Value} {od_law_tape an_law_tape : Option Addr} {sl_law_tape : Array (Option Value)} {oc_law_tape kV_law_tape dc_law_tape pm_law_tape cd_law_tape ct_law_tape : Value} {od_law_pick an_law_pick : Option Addr} {sl_law_pick : Array (Option Value)} {oc_law_pick kV_law_pick dc_law_pick pm_law_pick cd_law_pick ct_law_pick : Value} {od_law_clock an_law_clock : Option Addr} {sl_law_clock : Array (Option Value)} {oc_law_clock kV_law_clock dc_law_clock pm_law_clock cd_law_clock ct_law_clock : Value} {od_law_word an_law_word : Option Addr} {sl_law_word : Array (Option Value)} {oc_law_word kV_law_word dc_law_word pm_law_word cd_law_word ct_law_word : Value} {od_law_sparse an_law_sparse : Option Addr} {sl_law_sparse : Array (Option Value)} {oc_law_sparse kV_law_sparse dc_law_sparse pm_law_sparse cd_law_sparse ct_law_sparse : Value} {od_is_integer an_is_integer : Option Addr} {sl_is_integer : Array (Option Value)} {oc_is_integer kV_is_integer dc_is_integer pm_is_integer cd_is_integer ct_is_integer : Value} {od_is_clock an_is_clock : Option Addr} {sl_is_clock : Array (Option Value)} {oc_is_clock kV_is_clock dc_is_clock pm_is_clock cd_is_clock ct_is_clock : Value} {od_is_word an_is_word : Option Addr} {sl_is_word : Array (Option Value)} {oc_is_word kV_is_word dc_is_word pm_is_word cd_is_word ct_is_word : Value} {od_is_short_word an_is_short_word : Option Addr} {sl_is_short_word : Array (Option Value)} {oc_is_short_word kV_is_short_word dc_is_short_word pm_is_short_word cd_is_short_word ct_is_short_word : Value} {od_is_within an_is_within : Option Addr} {sl_is_within : Array (Option Value)} {oc_is_within kV_is_within dc_is_within pm_is_within cd_is_within ct_is_within : Value} {od_are_words an_are_words : Option Addr} {sl_are_words : Array (Option Value)} {oc_are_words kV_are_words dc_are_words pm_are_words cd_are_words ct_are_words : Value} {od_words_in_order an_words_in_order : Option Addr} {sl_words_in_order : Array (Option Value)} {oc_words_in_order kV_words_in_order dc_words_in_order pm_words_in_order cd_words_in_order ct_words_in_order : Value} {od_Bag_keep an_Bag_keep : Option Addr} {sl_Bag_keep : Array (Option Value)} {oc_Bag_keep kV_Bag_keep dc_Bag_keep pm_Bag_keep cd_Bag_keep ct_Bag_keep : Value} {od_Bag_init an_Bag_init : Option Addr} {sl_Bag_init : Array (Option Value)} {oc_Bag_init kV_Bag_init dc_Bag_init pm_Bag_init cd_Bag_init ct_Bag_init : Value} {od_law_text_of an_law_text_of : Option Addr} {sl_law_text_of : Array (Option Value)} {oc_law_text_of kV_law_text_of dc_law_text_of pm_law_text_of cd_law_text_of ct_law_text_of : Value} {od_law_pairs an_law_pairs : Option Addr} {sl_law_pairs : Array (Option Value)} {oc_law_pairs kV_law_pairs dc_law_pairs pm_law_pairs ct_law_pairs : Value} {od_law_word_told an_law_word_told : Option Addr} {sl_law_word_told : Array (Option Value)} {oc_law_word_told kV_law_word_told dc_law_word_told pm_law_word_told cd_law_word_told ct_law_word_told : Value} {od_law_read an_law_read : Option Addr} {sl_law_read : Array (Option Value)} {oc_law_read kV_law_read dc_law_read pm_law_read cd_law_read ct_law_read : Value} {od_law_due an_law_due : Option Addr} {sl_law_due : Array (Option Value)} {oc_law_due kV_law_due dc_law_due pm_law_due cd_law_due ct_law_due : Value} {od_read_word an_read_word : Option Addr} {sl_read_word : Array (Option Value)} {oc_read_word kV_read_word dc_read_word pm_read_word cd_read_word ct_read_word : Value} {od_read_words an_read_words : Option Addr} {sl_read_words : Array (Option Value)} {oc_read_words kV_read_words dc_read_words pm_read_words cd_read_words ct_read_words : Value} {od_RawBag_init an_RawBag_init : Option Addr} {sl_RawBag_init : Array (Option Value)} {oc_RawBag_init kV_RawBag_init dc_RawBag_init pm_RawBag_init cd_RawBag_init ct_RawBag_init : Value} {od_raw an_raw : Option Addr} {sl_raw : Array (Option Value)} {oc_raw kV_raw dc_raw pm_raw cd_raw ct_raw : Value} {od_read_row an_read_row : Option Addr} {sl_read_row : Array (Option Value)} {oc_read_row kV_read_row dc_read_row pm_read_row cd_read_row ct_read_row : Value} {od_law_told an_law_told : Option Addr} {sl_law_told : Array (Option Value)} {oc_law_told kV_law_told dc_law_told pm_law_told cd_law_told ct_law_told : Value} {od_law_is an_law_is : Option Addr} {sl_law_is : Array (Option Value)} {oc_law_is kV_law_is dc_law_is pm_law_is cd_law_is ct_law_is : Value} {od_law_is_right an_law_is_right : Option Addr} {sl_law_is_right : Array (Option Value)} {oc_law_is_right kV_law_is_right dc_law_is_right pm_law_is_right cd_law_is_right ct_law_is_right : Value} {od_law_spoiled an_law_spoiled : Option Addr} {sl_law_spoiled : Array (Option Value)} {oc_law_spoiled kV_law_spoiled dc_law_spoiled pm_law_spoiled cd_law_spoiled ct_law_spoiled : Value} {od_law_changed an_law_changed : Option Addr} {sl_law_changed : Array (Option Value)} {oc_law_changed kV_law_changed dc_law_changed pm_law_changed cd_law_changed ct_law_changed : Value} {od_law_deep an_law_deep : Option Addr} {sl_law_deep : Array (Option Value)} {oc_law_deep kV_law_deep dc_law_deep pm_law_deep cd_law_deep ct_law_deep : Value} {od_law an_law : Option Addr} {sl_law : Array (Option Value)} {oc_law kV_law dc_law pm_law cd_law ct_law : Value} {oC1 : Value} {oC2 : Option Addr} {vsC : Array Value} {oC3 : Array (Option Value)} {nm_BadText qn_BadText : Str} {N_BadText : Addr} {bs_BadText bm_BadText sub_BadText : List Value} {sn_BadText : List Str} {ab_BadText : Bool} {col_BadText : Option Bool} {dd_BadText odf_BadText anf_BadText cdd_BadText cld_BadText : Option Addr} {k0_BadText k1_BadText k2_BadText k3_BadText k5_BadText : Option Value} {ocf_BadText kVf_BadText dcf_BadText pmf_BadText ctf_BadText ccl_BadText cl_BadText : Value} {osf_BadText ccs_BadText csl_BadText : Array (Option Value)} {cvs_BadText : Array Value} {fil_BadText : Str} {tf_BadText : Tok} {t1 t2 t3 t4 t5 t6 t7  : Tok} {od4 : Option Addr} {n4' : Nat} {sl4 : Array (Option Value)}
    (nsBag : PySem.W.nsIn K mainGlobals "Bag" = some (some (.ref C_Bag)))
    (nsRawBag : PySem.W.nsIn K mainGlobals "RawBag" = some (some (.ref C_RawBag)))
    (a_ahead_key : PySem.W.nsIn K mainGlobals "ahead_key" = some (some (.ref f_ahead_key)))
    (l_ahead_key : K.lookup f_ahead_key = some ⟨oc_ahead_key, od_ahead_key, .func (PySem.W.fnOf "ahead_key" "ahead_key" (defArgs s_ahead_key) (defBody s_ahead_key) (defScope s_ahead_key) .none kV_ahead_key dc_ahead_key pm_ahead_key an_ahead_key cd_ahead_key ct_ahead_key), sl_ahead_key⟩)
    (c_ahead_key : PySem.W.codeIn K cd_ahead_key "ahead_key" = true)
    (k_ahead_key : PySem.W.keepIn K (.ref f_ahead_key) = true)
    (a_law_tape : PySem.W.nsIn K mainGlobals "_law_tape" = some (some (.ref f_law_tape)))
    (l_law_tape : K.lookup f_law_tape = some ⟨oc_law_tape, od_law_tape, .func (PySem.W.fnOf "_law_tape" "_law_tape" (defArgs s_law_tape) (defBody s_law_tape) (defScope s_law_tape) .none kV_law_tape dc_law_tape pm_law_tape an_law_tape cd_law_tape ct_law_tape), sl_law_tape⟩)
    (c_law_tape : PySem.W.codeIn K cd_law_tape "_law_tape" = true)
    (k_law_tape : PySem.W.keepIn K (.ref f_law_tape) = true)
    (a_law_pick : PySem.W.nsIn K mainGlobals "_law_pick" = some (some (.ref f_law_pick)))
    (l_law_pick : K.lookup f_law_pick = some ⟨oc_law_pick, od_law_pick, .func (PySem.W.fnOf "_law_pick" "_law_pick" (defArgs s_law_pick) (defBody s_law_pick) (defScope s_law_pick) .none kV_law_pick dc_law_pick pm_law_pick an_law_pick cd_law_pick ct_law_pick), sl_law_pick⟩)
    (c_law_pick : PySem.W.codeIn K cd_law_pick "_law_pick" = true)
    (k_law_pick : PySem.W.keepIn K (.ref f_law_pick) = true)
    (a_law_clock : PySem.W.nsIn K mainGlobals "_law_clock" = some (some (.ref f_law_clock)))
    (l_law_clock : K.lookup f_law_clock = some ⟨oc_law_clock, od_law_clock, .func (PySem.W.fnOf "_law_clock" "_law_clock" (defArgs s_law_clock) (defBody s_law_clock) (defScope s_law_clock) .none kV_law_clock dc_law_clock pm_law_clock an_law_clock cd_law_clock ct_law_clock), sl_law_clock⟩)
    (c_law_clock : PySem.W.codeIn K cd_law_clock "_law_clock" = true)
    (k_law_clock : PySem.W.keepIn K (.ref f_law_clock) = true)
    (a_law_word : PySem.W.nsIn K mainGlobals "_law_word" = some (some (.ref f_law_word)))
    (l_law_word : K.lookup f_law_word = some ⟨oc_law_word, od_law_word, .func (PySem.W.fnOf "_law_word" "_law_word" (defArgs s_law_word) (defBody s_law_word) (defScope s_law_word) .none kV_law_word dc_law_word pm_law_word an_law_word cd_law_word ct_law_word), sl_law_word⟩)
    (c_law_word : PySem.W.codeIn K cd_law_word "_law_word" = true)
    (k_law_word : PySem.W.keepIn K (.ref f_law_word) = true)
    (a_law_sparse : PySem.W.nsIn K mainGlobals "_law_sparse" = some (some (.ref f_law_sparse)))
    (l_law_sparse : K.lookup f_law_sparse = some ⟨oc_law_sparse, od_law_sparse, .func (PySem.W.fnOf "_law_sparse" "_law_sparse" (defArgs s_law_sparse) (defBody s_law_sparse) (defScope s_law_sparse) .none kV_law_sparse dc_law_sparse pm_law_sparse an_law_sparse cd_law_sparse ct_law_sparse), sl_law_sparse⟩)
    (c_law_sparse : PySem.W.codeIn K cd_law_sparse "_law_sparse" = true)
    (k_law_sparse : PySem.W.keepIn K (.ref f_law_sparse) = true)
    (a_is_integer : PySem.W.nsIn K mainGlobals "is_integer" = some (some (.ref f_is_integer)))
    (l_is_integer : K.lookup f_is_integer = some ⟨oc_is_integer, od_is_integer, .func (PySem.W.fnOf "is_integer" "is_integer" (defArgs s_is_integer) (defBody s_is_integer) (defScope s_is_integer) .none kV_is_integer dc_is_integer pm_is_integer an_is_integer cd_is_integer ct_is_integer), sl_is_integer⟩)
    (c_is_integer : PySem.W.codeIn K cd_is_integer "is_integer" = true)
    (k_is_integer : PySem.W.keepIn K (.ref f_is_integer) = true)
    (a_is_clock : PySem.W.nsIn K mainGlobals "is_clock" = some (some (.ref f_is_clock)))
    (l_is_clock : K.lookup f_is_clock = some ⟨oc_is_clock, od_is_clock, .func (PySem.W.fnOf "is_clock" "is_clock" (defArgs s_is_clock) (defBody s_is_clock) (defScope s_is_clock) .none kV_is_clock dc_is_clock pm_is_clock an_is_clock cd_is_clock ct_is_clock), sl_is_clock⟩)
    (c_is_clock : PySem.W.codeIn K cd_is_clock "is_clock" = true)
    (k_is_clock : PySem.W.keepIn K (.ref f_is_clock) = true)
    (a_is_word : PySem.W.nsIn K mainGlobals "is_word" = some (some (.ref f_is_word)))
    (l_is_word : K.lookup f_is_word = some ⟨oc_is_word, od_is_word, .func (PySem.W.fnOf "is_word" "is_word" (defArgs s_is_word) (defBody s_is_word) (defScope s_is_word) .none kV_is_word dc_is_word pm_is_word an_is_word cd_is_word ct_is_word), sl_is_word⟩)
    (c_is_word : PySem.W.codeIn K cd_is_word "is_word" = true)
    (k_is_word : PySem.W.keepIn K (.ref f_is_word) = true)
    (a_is_short_word : PySem.W.nsIn K mainGlobals "is_short_word" = some (some (.ref f_is_short_word)))
    (l_is_short_word : K.lookup f_is_short_word = some ⟨oc_is_short_word, od_is_short_word, .func (PySem.W.fnOf "is_short_word" "is_short_word" (defArgs s_is_short_word) (defBody s_is_short_word) (defScope s_is_short_word) .none kV_is_short_word dc_is_short_word pm_is_short_word an_is_short_word cd_is_short_word ct_is_short_word), sl_is_short_word⟩)
    (c_is_short_word : PySem.W.codeIn K cd_is_short_word "is_short_word" = true)
    (k_is_short_word : PySem.W.keepIn K (.ref f_is_short_word) = true)
    (a_is_within : PySem.W.nsIn K mainGlobals "is_within" = some (some (.ref f_is_within)))
    (l_is_within : K.lookup f_is_within = some ⟨oc_is_within, od_is_within, .func (PySem.W.fnOf "is_within" "is_within" (defArgs s_is_within) (defBody s_is_within) (defScope s_is_within) .none kV_is_within dc_is_within pm_is_within an_is_within cd_is_within ct_is_within), sl_is_within⟩)
    (c_is_within : PySem.W.codeIn K cd_is_within "is_within" = true)
    (k_is_within : PySem.W.keepIn K (.ref f_is_within) = true)
    (a_are_words : PySem.W.nsIn K mainGlobals "are_words" = some (some (.ref f_are_words)))
    (l_are_words : K.lookup f_are_words = some ⟨oc_are_words, od_are_words, .func (PySem.W.fnOf "are_words" "are_words" (defArgs s_are_words) (defBody s_are_words) (defScope s_are_words) .none kV_are_words dc_are_words pm_are_words an_are_words cd_are_words ct_are_words), sl_are_words⟩)
    (c_are_words : PySem.W.codeIn K cd_are_words "are_words" = true)
    (k_are_words : PySem.W.keepIn K (.ref f_are_words) = true)
    (a_words_in_order : PySem.W.nsIn K mainGlobals "words_in_order" = some (some (.ref f_words_in_order)))
    (l_words_in_order : K.lookup f_words_in_order = some ⟨oc_words_in_order, od_words_in_order, .func (PySem.W.fnOf "words_in_order" "words_in_order" (defArgs s_words_in_order) (defBody s_words_in_order) (defScope s_words_in_order) .none kV_words_in_order dc_words_in_order pm_words_in_order an_words_in_order cd_words_in_order ct_words_in_order), sl_words_in_order⟩)
    (c_words_in_order : PySem.W.codeIn K cd_words_in_order "words_in_order" = true)
    (k_words_in_order : PySem.W.keepIn K (.ref f_words_in_order) = true)
    (a_Bag_keep : PySem.W.findIn K (.ref C_Bag) "keep" = some (some (.ref f_Bag_keep)))
    (i_Bag_keep : PySem.W.isFn K (.ref f_Bag_keep) = true)
    (l_Bag_keep : K.lookup f_Bag_keep = some ⟨oc_Bag_keep, od_Bag_keep, .func (PySem.W.fnOf "keep" "Bag.keep" (defArgs s_Bag_keep) (defBody s_Bag_keep) (defScope s_Bag_keep) .none kV_Bag_keep dc_Bag_keep pm_Bag_keep an_Bag_keep cd_Bag_keep ct_Bag_keep), sl_Bag_keep⟩)
    (c_Bag_keep : PySem.W.codeIn K cd_Bag_keep "Bag.keep" = true)
    (k_Bag_keep : PySem.W.keepIn K (.ref f_Bag_keep) = true)
    (a_Bag_init : PySem.W.findIn K (.ref C_Bag) "__init__" = some (some (.ref f_Bag_init)))
    (i_Bag_init : PySem.W.isFn K (.ref f_Bag_init) = true)
    (l_Bag_init : K.lookup f_Bag_init = some ⟨oc_Bag_init, od_Bag_init, .func (PySem.W.fnOf "__init__" "Bag.__init__" (defArgs s_Bag_init) (defBody s_Bag_init) (defScope s_Bag_init) .none kV_Bag_init dc_Bag_init pm_Bag_init an_Bag_init cd_Bag_init ct_Bag_init), sl_Bag_init⟩)
    (c_Bag_init : PySem.W.codeIn K cd_Bag_init "Bag.__init__" = true)
    (k_Bag_init : PySem.W.keepIn K (.ref f_Bag_init) = true)
    (a_law_text_of : PySem.W.nsIn K mainGlobals "_law_text_of" = some (some (.ref f_law_text_of)))
    (l_law_text_of : K.lookup f_law_text_of = some ⟨oc_law_text_of, od_law_text_of, .func (PySem.W.fnOf "_law_text_of" "_law_text_of" (defArgs s_law_text_of) (defBody s_law_text_of) (defScope s_law_text_of) .none kV_law_text_of dc_law_text_of pm_law_text_of an_law_text_of cd_law_text_of ct_law_text_of), sl_law_text_of⟩)
    (c_law_text_of : PySem.W.codeIn K cd_law_text_of "_law_text_of" = true)
    (k_law_text_of : PySem.W.keepIn K (.ref f_law_text_of) = true)
    (a_law_pairs : PySem.W.nsIn K mainGlobals "_law_pairs" = some (some (.ref f_law_pairs)))
    (l_law_pairs : K.lookup f_law_pairs = some ⟨oc_law_pairs, od_law_pairs, .func (PySem.W.fnOf "_law_pairs" "_law_pairs" (defArgs s_law_pairs) (defBody s_law_pairs) (defScope s_law_pairs) .none kV_law_pairs dc_law_pairs pm_law_pairs an_law_pairs (.ref cT) ct_law_pairs), sl_law_pairs⟩)
    (c_law_pairs : PySem.W.codeIn K (.ref cT) "_law_pairs" = true)
    (k_law_pairs : PySem.W.keepIn K (.ref f_law_pairs) = true)
    (a_law_word_told : PySem.W.nsIn K mainGlobals "_law_word_told" = some (some (.ref f_law_word_told)))
    (l_law_word_told : K.lookup f_law_word_told = some ⟨oc_law_word_told, od_law_word_told, .func (PySem.W.fnOf "_law_word_told" "_law_word_told" (defArgs s_law_word_told) (defBody s_law_word_told) (defScope s_law_word_told) .none kV_law_word_told dc_law_word_told pm_law_word_told an_law_word_told cd_law_word_told ct_law_word_told), sl_law_word_told⟩)
    (c_law_word_told : PySem.W.codeIn K cd_law_word_told "_law_word_told" = true)
    (k_law_word_told : PySem.W.keepIn K (.ref f_law_word_told) = true)
    (a_law_read : PySem.W.nsIn K mainGlobals "_law_read" = some (some (.ref f_law_read)))
    (l_law_read : K.lookup f_law_read = some ⟨oc_law_read, od_law_read, .func (PySem.W.fnOf "_law_read" "_law_read" (defArgs s_law_read) (defBody s_law_read) (defScope s_law_read) .none kV_law_read dc_law_read pm_law_read an_law_read cd_law_read ct_law_read), sl_law_read⟩)
    (c_law_read : PySem.W.codeIn K cd_law_read "_law_read" = true)
    (k_law_read : PySem.W.keepIn K (.ref f_law_read) = true)
    (a_law_due : PySem.W.nsIn K mainGlobals "_law_due" = some (some (.ref f_law_due)))
    (l_law_due : K.lookup f_law_due = some ⟨oc_law_due, od_law_due, .func (PySem.W.fnOf "_law_due" "_law_due" (defArgs s_law_due) (defBody s_law_due) (defScope s_law_due) .none kV_law_due dc_law_due pm_law_due an_law_due cd_law_due ct_law_due), sl_law_due⟩)
    (c_law_due : PySem.W.codeIn K cd_law_due "_law_due" = true)
    (k_law_due : PySem.W.keepIn K (.ref f_law_due) = true)
    (a_read_word : PySem.W.nsIn K mainGlobals "read_word" = some (some (.ref f_read_word)))
    (l_read_word : K.lookup f_read_word = some ⟨oc_read_word, od_read_word, .func (PySem.W.fnOf "read_word" "read_word" (defArgs s_read_word) (defBody s_read_word) (defScope s_read_word) .none kV_read_word dc_read_word pm_read_word an_read_word cd_read_word ct_read_word), sl_read_word⟩)
    (c_read_word : PySem.W.codeIn K cd_read_word "read_word" = true)
    (k_read_word : PySem.W.keepIn K (.ref f_read_word) = true)
    (a_read_words : PySem.W.nsIn K mainGlobals "read_words" = some (some (.ref f_read_words)))
    (l_read_words : K.lookup f_read_words = some ⟨oc_read_words, od_read_words, .func (PySem.W.fnOf "read_words" "read_words" (defArgs s_read_words) (defBody s_read_words) (defScope s_read_words) .none kV_read_words dc_read_words pm_read_words an_read_words cd_read_words ct_read_words), sl_read_words⟩)
    (c_read_words : PySem.W.codeIn K cd_read_words "read_words" = true)
    (k_read_words : PySem.W.keepIn K (.ref f_read_words) = true)
    (a_RawBag_init : PySem.W.findIn K (.ref C_RawBag) "__init__" = some (some (.ref f_RawBag_init)))
    (i_RawBag_init : PySem.W.isFn K (.ref f_RawBag_init) = true)
    (l_RawBag_init : K.lookup f_RawBag_init = some ⟨oc_RawBag_init, od_RawBag_init, .func (PySem.W.fnOf "__init__" "RawBag.__init__" (defArgs s_RawBag_init) (defBody s_RawBag_init) (defScope s_RawBag_init) .none kV_RawBag_init dc_RawBag_init pm_RawBag_init an_RawBag_init cd_RawBag_init ct_RawBag_init), sl_RawBag_init⟩)
    (c_RawBag_init : PySem.W.codeIn K cd_RawBag_init "RawBag.__init__" = true)
    (k_RawBag_init : PySem.W.keepIn K (.ref f_RawBag_init) = true)
    (a_raw : PySem.W.nsIn K mainGlobals "raw" = some (some (.ref f_raw)))
    (l_raw : K.lookup f_raw = some ⟨oc_raw, od_raw, .func (PySem.W.fnOf "raw" "raw" (defArgs s_raw) (defBody s_raw) (defScope s_raw) .none kV_raw dc_raw pm_raw an_raw cd_raw ct_raw), sl_raw⟩)
    (c_raw : PySem.W.codeIn K cd_raw "raw" = true)
    (k_raw : PySem.W.keepIn K (.ref f_raw) = true)
    (a_read_row : PySem.W.nsIn K mainGlobals "read_row" = some (some (.ref f_read_row)))
    (l_read_row : K.lookup f_read_row = some ⟨oc_read_row, od_read_row, .func (PySem.W.fnOf "read_row" "read_row" (defArgs s_read_row) (defBody s_read_row) (defScope s_read_row) .none kV_read_row dc_read_row pm_read_row an_read_row cd_read_row ct_read_row), sl_read_row⟩)
    (c_read_row : PySem.W.codeIn K cd_read_row "read_row" = true)
    (k_read_row : PySem.W.keepIn K (.ref f_read_row) = true)
    (a_law_told : PySem.W.nsIn K mainGlobals "_law_told" = some (some (.ref f_law_told)))
    (l_law_told : K.lookup f_law_told = some ⟨oc_law_told, od_law_told, .func (PySem.W.fnOf "_law_told" "_law_told" (defArgs s_law_told) (defBody s_law_told) (defScope s_law_told) .none kV_law_told dc_law_told pm_law_told an_law_told cd_law_told ct_law_told), sl_law_told⟩)
    (c_law_told : PySem.W.codeIn K cd_law_told "_law_told" = true)
    (k_law_told : PySem.W.keepIn K (.ref f_law_told) = true)
    (a_law_is : PySem.W.nsIn K mainGlobals "_law_is" = some (some (.ref f_law_is)))
    (l_law_is : K.lookup f_law_is = some ⟨oc_law_is, od_law_is, .func (PySem.W.fnOf "_law_is" "_law_is" (defArgs s_law_is) (defBody s_law_is) (defScope s_law_is) .none kV_law_is dc_law_is pm_law_is an_law_is cd_law_is ct_law_is), sl_law_is⟩)
    (c_law_is : PySem.W.codeIn K cd_law_is "_law_is" = true)
    (k_law_is : PySem.W.keepIn K (.ref f_law_is) = true)
    (a_law_is_right : PySem.W.nsIn K mainGlobals "_law_is_right" = some (some (.ref f_law_is_right)))
    (l_law_is_right : K.lookup f_law_is_right = some ⟨oc_law_is_right, od_law_is_right, .func (PySem.W.fnOf "_law_is_right" "_law_is_right" (defArgs s_law_is_right) (defBody s_law_is_right) (defScope s_law_is_right) .none kV_law_is_right dc_law_is_right pm_law_is_right an_law_is_right cd_law_is_right ct_law_is_right), sl_law_is_right⟩)
    (c_law_is_right : PySem.W.codeIn K cd_law_is_right "_law_is_right" = true)
    (k_law_is_right : PySem.W.keepIn K (.ref f_law_is_right) = true)
    (a_law_spoiled : PySem.W.nsIn K mainGlobals "_law_spoiled" = some (some (.ref f_law_spoiled)))
    (l_law_spoiled : K.lookup f_law_spoiled = some ⟨oc_law_spoiled, od_law_spoiled, .func (PySem.W.fnOf "_law_spoiled" "_law_spoiled" (defArgs s_law_spoiled) (defBody s_law_spoiled) (defScope s_law_spoiled) .none kV_law_spoiled dc_law_spoiled pm_law_spoiled an_law_spoiled cd_law_spoiled ct_law_spoiled), sl_law_spoiled⟩)
    (c_law_spoiled : PySem.W.codeIn K cd_law_spoiled "_law_spoiled" = true)
    (k_law_spoiled : PySem.W.keepIn K (.ref f_law_spoiled) = true)
    (a_law_changed : PySem.W.nsIn K mainGlobals "_law_changed" = some (some (.ref f_law_changed)))
    (l_law_changed : K.lookup f_law_changed = some ⟨oc_law_changed, od_law_changed, .func (PySem.W.fnOf "_law_changed" "_law_changed" (defArgs s_law_changed) (defBody s_law_changed) (defScope s_law_changed) .none kV_law_changed dc_law_changed pm_law_changed an_law_changed cd_law_changed ct_law_changed), sl_law_changed⟩)
    (c_law_changed : PySem.W.codeIn K cd_law_changed "_law_changed" = true)
    (k_law_changed : PySem.W.keepIn K (.ref f_law_changed) = true)
    (a_law_deep : PySem.W.nsIn K mainGlobals "_law_deep" = some (some (.ref f_law_deep)))
    (l_law_deep : K.lookup f_law_deep = some ⟨oc_law_deep, od_law_deep, .func (PySem.W.fnOf "_law_deep" "_law_deep" (defArgs s_law_deep) (defBody s_law_deep) (defScope s_law_deep) .none kV_law_deep dc_law_deep pm_law_deep an_law_deep cd_law_deep ct_law_deep), sl_law_deep⟩)
    (c_law_deep : PySem.W.codeIn K cd_law_deep "_law_deep" = true)
    (k_law_deep : PySem.W.keepIn K (.ref f_law_deep) = true)
    (a_law : PySem.W.nsIn K mainGlobals "law" = some (some (.ref f_law)))
    (l_law : K.lookup f_law = some ⟨oc_law, od_law, .func (PySem.W.fnOf "law" "law" (defArgs s_law) (defBody s_law) (defScope s_law) .none kV_law dc_law pm_law an_law cd_law ct_law), sl_law⟩)
    (c_law : PySem.W.codeIn K cd_law "law" = true)
    (k_law : PySem.W.keepIn K (.ref f_law) = true)
    (lkC : K.lookup cT = some ⟨oC1, oC2, .fields vsC, oC3⟩)
    (lkP : vsC[11]? = some (.ref T0))
    (lkN : K.lookup T0 = none)
    (nsBadText : PySem.W.nsIn K mainGlobals "BadText" = some (some (.ref C_BadText)))
    (ocBadText : K.lookup C_BadText = some (excClassObj nm_BadText qn_BadText C_BadText N_BadText bs_BadText bm_BadText true sn_BadText sub_BadText ab_BadText col_BadText dd_BadText k0_BadText k1_BadText k2_BadText k3_BadText k5_BadText "ValueError.__new__"))
    (orBadText : PySem.HandSPX.refsVE bm_BadText = true)
    (osaBadText : PySem.W.findIn K (.ref C_BadText) "__setattr__" = some (some (.builtin "object.__setattr__")))
    (oexBadText : PySem.W.subIn K (.ref C_BadText) (.type "BaseException") = some true)
    (otyBadText : PySem.W.typeIn K (.ref C_BadText) = some (.type "type"))
    (okpBadText : PySem.W.keepIn K (.ref C_BadText) = true)
    (oicBadText : PySem.W.isClsIn K C_BadText = true)
    (xgaBadText : PySem.W.findIn K (.ref C_BadText) "__getattribute__" = some (some (.builtin "BaseException.__getattribute__")))
    (xggBadText : PySem.W.findIn K (.ref C_BadText) "__getattr__" = some none)
    (xhdBadText : PySem.W.hasDictIn K C_BadText = true)
    (sveBadText : PySem.W.subIn K (.ref C_BadText) (.type "ValueError") = some true)
    (ossBadText : PySem.W.subIn K (.ref C_BadText) (.ref C_BadText) = some true)
    (omrBadText : PySem.W.mroIn K C_BadText (.ref C_BadText) = some true)
    (onfBadText : PySem.W.findIn K (.ref C_BadText) "line" = some none)
    (oksBadText : PySem.W.ks_superIn K C_BadText C_BadText "__init__" = some (some (.builtin "ValueError.__init__")))
    (oinBadText : PySem.W.findIn K (.ref C_BadText) "__init__" = some (some (.ref fi_BadText)))
    (oitBadText : PySem.W.typeIn K (.ref fi_BadText) = some (.type "function"))
    (olfBadText : K.lookup fi_BadText = some ⟨ocf_BadText, odf_BadText, .func (PySem.W.ksFn "__init__" "BadText.__init__" (defArgs s_BadText_init) (defBody s_BadText_init) (defScope s_BadText_init) .none kVf_BadText dcf_BadText pmf_BadText anf_BadText (.ref ca_BadText) ctf_BadText cc_BadText), osf_BadText⟩)
    (ocdBadText : PySem.W.codeIn K (.ref ca_BadText) "BadText.__init__" = true)
    (olcBadText : K.lookup cc_BadText = some ⟨cl_BadText, cld_BadText, .cell (some (.ref C_BadText)), csl_BadText⟩)
    (olkBadText : K.lookup ca_BadText = some ⟨ccl_BadText, cdd_BadText, .fields cvs_BadText, ccs_BadText⟩)
    (ofiBadText : cvs_BadText[2]? = some (.str fil_BadText tf_BadText))
    (ofmBadText : ((l.prog.main.file : Str) == fil_BadText) = true)
    (oopBadText : PySem.W.nsIn K cStatics "thirdparty.any" = some none)
    (otpBadText : (l.prog.main.scope.names.lookup ("super" : Str)).isSome = false)
    (osuBadText : PySem.W.nsIn K mainGlobals "super" = some none)
    (cg : PySem.W.specialIn K (.builtin "object.__class__") "__get__" = some (some (.builtin "getset_descriptor.__get__")))
    (ct : PySem.W.takesIn K (.builtin "object.__class__") = some true)
    (pgBag : PySem.W.plainGet K C_Bag Str.empty = true)
    (hdBag : PySem.W.hasDictIn K C_Bag = true)
    (poBag : PySem.W.plainOver K C_Bag = true)
    (saBag : PySem.W.findIn K (.ref C_Bag) "__setattr__" = some (some (.builtin "object.__setattr__")))
    (mkBag : PySem.W.makesIn K C_Bag = true)
    (kBBag : PySem.W.keepIn K (.ref C_Bag) = true)
    (n1Bag : PySem.W.findIn K (.ref C_Bag) "clock" = some none)
    (n2Bag : PySem.W.findIn K (.ref C_Bag) "sparse" = some none)
    (n3Bag : PySem.W.findIn K (.ref C_Bag) "kept" = some none)
    (n4Bag : PySem.W.findIn K (.ref C_Bag) "words" = some none)
    (ccBag : PySem.W.findIn K (.ref C_Bag) "__class__" = some (some (.builtin "object.__class__")))
    (coBag : PySem.W.mroIn K C_Bag (.type "object") = some true)
    (icBag : PySem.W.isClsIn K C_Bag = true)
    (tcBag : PySem.W.typeIn K (.ref C_Bag) = some (.type "type"))
    (neBag : PySem.W.findIn K (.ref C_Bag) "__ne__" = some (some (.builtin "object.__ne__")))
    (eqBag : PySem.W.findIn K (.ref C_Bag) "__eq__" = some (some (.ref f_Bag_eq)))
    (kpBag : PySem.W.findIn K (.ref C_Bag) "keep" = some (some (.ref f_Bag_keep)))
    (u_NoneType_Bag : PySem.W.subIn K (.type "NoneType") (.ref C_Bag) = some false)
    (u_bool_Bag : PySem.W.subIn K (.type "bool") (.ref C_Bag) = some false)
    (u_int_Bag : PySem.W.subIn K (.type "int") (.ref C_Bag) = some false)
    (u_str_Bag : PySem.W.subIn K (.type "str") (.ref C_Bag) = some false)
    (u_list_Bag : PySem.W.subIn K (.type "list") (.ref C_Bag) = some false)
    (u_tuple_Bag : PySem.W.subIn K (.type "tuple") (.ref C_Bag) = some false)
    (u_dict_Bag : PySem.W.subIn K (.type "dict") (.ref C_Bag) = some false)
    (v_str_Bag : PySem.W.subIn K (.ref C_Bag) (.type "str") = some false)
    (pgRawBag : PySem.W.plainGet K C_RawBag Str.empty = true)
    (hdRawBag : PySem.W.hasDictIn K C_RawBag = true)
    (poRawBag : PySem.W.plainOver K C_RawBag = true)
    (saRawBag : PySem.W.findIn K (.ref C_RawBag) "__setattr__" = some (some (.builtin "object.__setattr__")))
    (mkRawBag : PySem.W.makesIn K C_RawBag = true)
    (kBRawBag : PySem.W.keepIn K (.ref C_RawBag) = true)
    (n1RawBag : PySem.W.findIn K (.ref C_RawBag) "clock" = some none)
    (n2RawBag : PySem.W.findIn K (.ref C_RawBag) "sparse" = some none)
    (n3RawBag : PySem.W.findIn K (.ref C_RawBag) "kept" = some none)
    (n4RawBag : PySem.W.findIn K (.ref C_RawBag) "words" = some none)
    (ccRawBag : PySem.W.findIn K (.ref C_RawBag) "__class__" = some (some (.builtin "object.__class__")))
    (coRawBag : PySem.W.mroIn K C_RawBag (.type "object") = some true)
    (icRawBag : PySem.W.isClsIn K C_RawBag = true)
    (tcRawBag : PySem.W.typeIn K (.ref C_RawBag) = some (.type "type"))
    (neRawBag : PySem.W.findIn K (.ref C_RawBag) "__ne__" = some (some (.builtin "object.__ne__")))
    (eqRawBag : PySem.W.findIn K (.ref C_RawBag) "__eq__" = some (some (.ref f_Bag_eq)))
    (kpRawBag : PySem.W.findIn K (.ref C_RawBag) "keep" = some (some (.ref f_Bag_keep)))
    (u_NoneType_RawBag : PySem.W.subIn K (.type "NoneType") (.ref C_RawBag) = some false)
    (u_bool_RawBag : PySem.W.subIn K (.type "bool") (.ref C_RawBag) = some false)
    (u_int_RawBag : PySem.W.subIn K (.type "int") (.ref C_RawBag) = some false)
    (u_str_RawBag : PySem.W.subIn K (.type "str") (.ref C_RawBag) = some false)
    (u_list_RawBag : PySem.W.subIn K (.type "list") (.ref C_RawBag) = some false)
    (u_tuple_RawBag : PySem.W.subIn K (.type "tuple") (.ref C_RawBag) = some false)
    (u_dict_RawBag : PySem.W.subIn K (.type "dict") (.ref C_RawBag) = some false)
    (v_str_RawBag : PySem.W.subIn K (.ref C_RawBag) (.type "str") = some false)
    (sRB : PySem.W.subIn K (.ref C_RawBag) (.ref C_Bag) = some true)
    (sBR : PySem.W.subIn K (.ref C_Bag) (.ref C_RawBag) = some false)
    (dRB : C_RawBag ≠ C_Bag)
    (b_isinstance : PySem.W.nsIn K mainGlobals "isinstance" = some none)
    (b_int : PySem.W.nsIn K mainGlobals "int" = some none)
    (b_bool : PySem.W.nsIn K mainGlobals "bool" = some none)
    (b_str : PySem.W.nsIn K mainGlobals "str" = some none)
    (b_dict : PySem.W.nsIn K mainGlobals "dict" = some none)
    (b_list : PySem.W.nsIn K mainGlobals "list" = some none)
    (b_tuple : PySem.W.nsIn K mainGlobals "tuple" = some none)
    (b_len : PySem.W.nsIn K mainGlobals "len" = some none)
    (b_abs : PySem.W.nsIn K mainGlobals "abs" = some none)
    (b_all : PySem.W.nsIn K mainGlobals "all" = some none)
    (b_any : PySem.W.nsIn K mainGlobals "any" = some none)
    (b_max : PySem.W.nsIn K mainGlobals "max" = some none)
    (b_min : PySem.W.nsIn K mainGlobals "min" = some none)
    (b_range : PySem.W.nsIn K mainGlobals "range" = some none)
    (b_sorted : PySem.W.nsIn K mainGlobals "sorted" = some none)
    (b_sum : PySem.W.nsIn K mainGlobals "sum" = some none)
    (b_zip : PySem.W.nsIn K mainGlobals "zip" = some none)
    (b_enumerate : PySem.W.nsIn K mainGlobals "enumerate" = some none)
    (b_repr : PySem.W.nsIn K mainGlobals "repr" = some none)
    (b_set : PySem.W.nsIn K mainGlobals "set" = some none)
    (g1 : PySem.W.nsIn K mainGlobals "LETTERS" = some (some (.str "xyz" t1)))
    (g2 : PySem.W.nsIn K mainGlobals "MOST_LETTERS" = some (some (.int 12 t2)))
    (g3 : PySem.W.nsIn K mainGlobals "MOST_WORDS" = some (some (.int 300 t3)))
    (g4 : PySem.W.nsIn K mainGlobals "CLOCKS" = some (some (.ref aC)))
    (l4 : K.lookup aC = some ⟨.type "tuple", od4, .seq #[.int 2 t4, .int 3 t5, .int 5 t6, .int 7 t7] n4', sl4⟩)
    {cc TT : Addr} (HL : ∃ (a : Addr) (o : Obj) (fd : FuncData), mg "_law_pairs" = some (.ref a) ∧ h.get? a = some o ∧ o.data = .func fd ∧ fd.code = .ref cc ∧ h.TableAt cc TT #[])
    : K.lookup TT = none ∧ ∃ (fd : FuncData) (sp : Sp), (∀ (s : Shared) (v : Value), BindsTo s fd ⟨[v], []⟩ [("_law_script", v)]) ∧ (∀ (H : Hp) (a : Addr) (ns : List Int), ns.length ≤ 63 → H TT = some (.tbl #[]) → SqL K H a (ns.map V.int) → sp [.ref a] H (fun v _ => v = .bl true) fun _ _ _ => False) ∧ ∀ base : Heap, K.In base → base.Ns mainGlobals mg → LamX.TabB base mg cc TT → FnOkG l.prog w K mg base CX0 12 fa fd ["_law_script"] sp := by
  have e := hfa.symm.trans (PySem.W.mg_of X G a_law)
  cases e
  obtain ⟨la, lo, lfd, m1, m2, m3, m4, ⟨lo2, lvs, n1, n2, n3, n4⟩, n5⟩ := HL
  obtain rfl : f_law_pairs = la := by
    have e := m1.symm.trans (PySem.W.mg_of X G a_law_pairs)
    injection e with e
    injection e with e
    exact e.symm
  obtain rfl := Option.some.inj ((X _ _ l_law_pairs).symm.trans m2)
  injection m3 with m3
  subst m3
  obtain rfl : cT = cc := by
    injection m4
  obtain rfl := Option.some.inj ((X _ _ lkC).symm.trans n1)
  injection n3 with n3
  subst n3
  obtain rfl : T0 = TT := by
    have e := Option.some.inj (lkP.symm.trans n4)
    injection e
  have hplBag : ∀ t ∈ (["NoneType", "bool", "int", "str", "list", "tuple", "dict"] : List String), PySem.W.subIn K (.type t) (.ref C_Bag) = some false := by
    intro t ht
    simp only [List.mem_cons, List.not_mem_nil, or_false] at ht
    rcases ht with rfl | rfl | rfl | rfl | rfl | rfl | rfl
    · exact u_NoneType_Bag
    · exact u_bool_Bag
    · exact u_int_Bag
    · exact u_str_Bag
    · exact u_list_Bag
    · exact u_tuple_Bag
    · exact u_dict_Bag
  have hplRawBag : ∀ t ∈ (["NoneType", "bool", "int", "str", "list", "tuple", "dict"] : List String), PySem.W.subIn K (.type t) (.ref C_RawBag) = some false := by
    intro t ht
    simp only [List.mem_cons, List.not_mem_nil, or_false] at ht
    rcases ht with rfl | rfl | rfl | rfl | rfl | rfl | rfl
    · exact u_NoneType_RawBag
    · exact u_bool_RawBag
    · exact u_int_RawBag
    · exact u_str_RawBag
    · exact u_list_RawBag
    · exact u_tuple_RawBag
    · exact u_dict_RawBag
  have T : Txt K mg C_Bag (fun C => C = C_Bag ∨ C = C_RawBag) := {
    b_isinstance := PySem.W.mg_none_of X G b_isinstance
    b_int := PySem.W.mg_none_of X G b_int
    b_bool := PySem.W.mg_none_of X G b_bool
    b_str := PySem.W.mg_none_of X G b_str
    b_dict := PySem.W.mg_none_of X G b_dict
    b_list := PySem.W.mg_none_of X G b_list
    b_tuple := PySem.W.mg_none_of X G b_tuple
    b_len := PySem.W.mg_none_of X G b_len
    b_abs := PySem.W.mg_none_of X G b_abs
    b_all := PySem.W.mg_none_of X G b_all
    b_any := PySem.W.mg_none_of X G b_any
    b_max := PySem.W.mg_none_of X G b_max
    b_min := PySem.W.mg_none_of X G b_min
    b_range := PySem.W.mg_none_of X G b_range
    b_sorted := PySem.W.mg_none_of X G b_sorted
    b_sum := PySem.W.mg_none_of X G b_sum
    b_zip := PySem.W.mg_none_of X G b_zip
    b_enumerate := PySem.W.mg_none_of X G b_enumerate
    b_repr := PySem.W.mg_none_of X G b_repr
    b_set := PySem.W.mg_none_of X G b_set
    g_LETTERS := ⟨_, PySem.W.mg_of X G g1⟩
    g_MOST_LETTERS := ⟨_, PySem.W.mg_of X G g2⟩
    g_MOST_WORDS := ⟨_, PySem.W.mg_of X G g3⟩
    g_CLOCKS := ⟨aC, PySem.W.mg_of X G g4, .inr ⟨_, _, _, l4, rfl, rfl, Nat.le_of_ble_eq_true rfl, .cons ⟨_, rfl⟩ (.cons ⟨_, rfl⟩ (.cons ⟨_, rfl⟩ (.cons ⟨_, rfl⟩ .nil)))⟩⟩
    c_Bag := PySem.W.mg_of X G nsBag
    cls := fun C e => e.elim (fun e => by rw [e]; exact ⟨pgBag, hdBag, poBag, saBag⟩) (fun e => by rw [e]; exact ⟨pgRawBag, hdRawBag, poRawBag, saRawBag⟩)
    n_clock := fun C e => e.elim (fun e => by rw [e]; exact n1Bag) (fun e => by rw [e]; exact n1RawBag)
    n_sparse := fun C e => e.elim (fun e => by rw [e]; exact n2Bag) (fun e => by rw [e]; exact n2RawBag)
    n_kept := fun C e => e.elim (fun e => by rw [e]; exact n3Bag) (fun e => by rw [e]; exact n3RawBag)
    n_words := fun C e => e.elim (fun e => by rw [e]; exact n4Bag) (fun e => by rw [e]; exact n4RawBag)
    c_class := fun C e => e.elim (fun e => by rw [e]; exact ccBag) (fun e => by rw [e]; exact ccRawBag)
    c_get := cg
    c_takes := ct
    c_obj := fun C e => e.elim (fun e => by rw [e]; exact coBag) (fun e => by rw [e]; exact coRawBag)
    c_isB := fun C e => e.elim (fun e => by rw [e]; exact kit_self) (fun e => by rw [e]; exact kit_sub icBag tcBag sRB)
    c_base := .inl rfl
    c_pl := fun C e t ht => e.elim (fun e => by rw [e]; exact first_not (hplBag t ht)) (fun e => by rw [e]; exact first_not (hplRawBag t ht))
    c_two := fun C D e1 e2 => by
      rcases e1 with rfl | rfl <;> rcases e2 with rfl | rfl
      · exact .inl first_self
      · exact .inr ⟨dRB, sRB⟩
      · exact .inl (first_not sBR)
      · exact .inl first_self
    c_nb := fun t ht => kit_not icBag tcBag (hplBag t ht) }
  have F_ahead_key := fun_mk (st := s_ahead_key) l_ahead_key c_ahead_key k_ahead_key
  have B_ahead_key := F_ahead_key.binds (ps := ["word"]) fun _ _ _ _ _ _ us hl => match us, hl with | [_], _ => rfl
  have F_law_tape := fun_mk (st := s_law_tape) l_law_tape c_law_tape k_law_tape
  have B_law_tape := F_law_tape.binds (ps := ["_law_script"]) fun _ _ _ _ _ _ us hl => match us, hl with | [_], _ => rfl
  have F_law_pick := fun_mk (st := s_law_pick) l_law_pick c_law_pick k_law_pick
  have B_law_pick := F_law_pick.binds (ps := ["_law_tape_here", "_law_many"]) fun _ _ _ _ _ _ us hl => match us, hl with | [_, _], _ => rfl
  have F_law_clock := fun_mk (st := s_law_clock) l_law_clock c_law_clock k_law_clock
  have B_law_clock := F_law_clock.binds (ps := ["_law_tape_here"]) fun _ _ _ _ _ _ us hl => match us, hl with | [_], _ => rfl
  have F_law_word := fun_mk (st := s_law_word) l_law_word c_law_word k_law_word
  have B_law_word := F_law_word.binds (ps := ["_law_tape_here", "_law_letters_here", "_law_most"]) fun _ _ _ _ _ _ us hl => match us, hl with | [_, _, _], _ => rfl
  have F_law_sparse := fun_mk (st := s_law_sparse) l_law_sparse c_law_sparse k_law_sparse
  have B_law_sparse := F_law_sparse.binds (ps := ["_law_tape_here", "_law_clock_here", "_law_letters_here", "_law_many", "_law_most"]) fun _ _ _ _ _ _ us hl => match us, hl with | [_, _, _, _, _], _ => rfl
  have F_is_integer := fun_mk (st := s_is_integer) l_is_integer c_is_integer k_is_integer
  have B_is_integer := F_is_integer.binds (ps := ["thing"]) fun _ _ _ _ _ _ us hl => match us, hl with | [_], _ => rfl
  have F_is_clock := fun_mk (st := s_is_clock) l_is_clock c_is_clock k_is_clock
  have B_is_clock := F_is_clock.binds (ps := ["thing"]) fun _ _ _ _ _ _ us hl => match us, hl with | [_], _ => rfl
  have F_is_word := fun_mk (st := s_is_word) l_is_word c_is_word k_is_word
  have B_is_word := F_is_word.binds (ps := ["thing"]) fun _ _ _ _ _ _ us hl => match us, hl with | [_], _ => rfl
  have F_is_short_word := fun_mk (st := s_is_short_word) l_is_short_word c_is_short_word k_is_short_word
  have B_is_short_word := F_is_short_word.binds (ps := ["thing"]) fun _ _ _ _ _ _ us hl => match us, hl with | [_], _ => rfl
  have F_is_within := fun_mk (st := s_is_within) l_is_within c_is_within k_is_within
  have B_is_within := F_is_within.binds (ps := ["thing", "least", "most"]) fun _ _ _ _ _ _ us hl => match us, hl with | [_, _, _], _ => rfl
  have F_are_words := fun_mk (st := s_are_words) l_are_words c_are_words k_are_words
  have B_are_words := F_are_words.binds (ps := ["clock", "thing"]) fun _ _ _ _ _ _ us hl => match us, hl with | [_, _], _ => rfl
  have F_words_in_order := fun_mk (st := s_words_in_order) l_words_in_order c_words_in_order k_words_in_order
  have B_words_in_order := F_words_in_order.binds (ps := ["sparse"]) fun _ _ _ _ _ _ us hl => match us, hl with | [_], _ => rfl
  have F_Bag_keep := fun_mk (st := s_Bag_keep) l_Bag_keep c_Bag_keep k_Bag_keep
  have B_Bag_keep := F_Bag_keep.binds (ps := ["self", "clock", "sparse"]) fun _ _ _ _ _ _ us hl => match us, hl with | [_, _, _], _ => rfl
  have F_Bag_init := fun_mk (st := s_Bag_init) l_Bag_init c_Bag_init k_Bag_init
  have B_Bag_init := F_Bag_init.binds (ps := ["self", "clock", "words"]) fun _ _ _ _ _ _ us hl => match us, hl with | [_, _, _], _ => rfl
  have F_law_text_of := fun_mk (st := s_law_text_of) l_law_text_of c_law_text_of k_law_text_of
  have B_law_text_of := F_law_text_of.binds (ps := ["_law_pairs_here"]) fun _ _ _ _ _ _ us hl => match us, hl with | [_], _ => rfl
  have F_law_pairs := fun_mk (st := s_law_pairs) l_law_pairs c_law_pairs k_law_pairs
  have B_law_pairs := F_law_pairs.binds (ps := ["_law_sparse_here"]) fun _ _ _ _ _ _ us hl => match us, hl with | [_], _ => rfl
  have F_law_word_told := fun_mk (st := s_law_word_told) l_law_word_told c_law_word_told k_law_word_told
  have B_law_word_told := F_law_word_told.binds (ps := ["_law_clock_here", "_law_text"]) fun _ _ _ _ _ _ us hl => match us, hl with | [_, _], _ => rfl
  have F_law_read := fun_mk (st := s_law_read) l_law_read c_law_read k_law_read
  have B_law_read := F_law_read.binds (ps := ["_law_clock_here", "_law_text"]) fun _ _ _ _ _ _ us hl => match us, hl with | [_, _], _ => rfl
  have F_law_due := fun_mk (st := s_law_due) l_law_due c_law_due k_law_due
  have B_law_due := F_law_due.binds (ps := ["_law_text"]) fun _ _ _ _ _ _ us hl => match us, hl with | [_], _ => rfl
  have F_read_word := fun_mk (st := s_read_word) l_read_word c_read_word k_read_word
  have B_read_word := F_read_word.binds (ps := ["clock", "text"]) fun _ _ _ _ _ _ us hl => match us, hl with | [_, _], _ => rfl
  have F_read_words := fun_mk (st := s_read_words) l_read_words c_read_words k_read_words
  have B_read_words := F_read_words.binds (ps := ["clock", "text"]) fun _ _ _ _ _ _ us hl => match us, hl with | [_, _], _ => rfl
  have F_RawBag_init := fun_mk (st := s_RawBag_init) l_RawBag_init c_RawBag_init k_RawBag_init
  have B_RawBag_init := F_RawBag_init.binds (ps := ["self", "clock", "sparse"]) fun _ _ _ _ _ _ us hl => match us, hl with | [_, _, _], _ => rfl
  have F_raw := fun_mk (st := s_raw) l_raw c_raw k_raw
  have B_raw := F_raw.binds (ps := ["clock", "sparse"]) fun _ _ _ _ _ _ us hl => match us, hl with | [_, _], _ => rfl
  have F_read_row := fun_mk (st := s_read_row) l_read_row c_read_row k_read_row
  have B_read_row := F_read_row.binds (ps := ["text"]) fun _ _ _ _ _ _ us hl => match us, hl with | [_], _ => rfl
  have F_law_told := fun_mk (st := s_law_told) l_law_told c_law_told k_law_told
  have B_law_told := F_law_told.binds (ps := ["_law_text"]) fun _ _ _ _ _ _ us hl => match us, hl with | [_], _ => rfl
  have F_law_is := fun_mk (st := s_law_is) l_law_is c_law_is k_law_is
  have B_law_is := F_law_is.binds (ps := ["_law_told_here", "_law_clock_here", "_law_sparse_here"]) fun _ _ _ _ _ _ us hl => match us, hl with | [_, _, _], _ => rfl
  have F_law_is_right := fun_mk (st := s_law_is_right) l_law_is_right c_law_is_right k_law_is_right
  have B_law_is_right := F_law_is_right.binds (ps := ["_law_text"]) fun _ _ _ _ _ _ us hl => match us, hl with | [_], _ => rfl
  have F_law_spoiled := fun_mk (st := s_law_spoiled) l_law_spoiled c_law_spoiled k_law_spoiled
  have B_law_spoiled := F_law_spoiled.binds (ps := ["_law_tape_here", "_law_text"]) fun _ _ _ _ _ _ us hl => match us, hl with | [_, _], _ => rfl
  have F_law_changed := fun_mk (st := s_law_changed) l_law_changed c_law_changed k_law_changed
  have B_law_changed := F_law_changed.binds (ps := ["_law_tape_here", "_law_lines"]) fun _ _ _ _ _ _ us hl => match us, hl with | [_, _], _ => rfl
  have F_law_deep := fun_mk (st := s_law_deep) l_law_deep c_law_deep k_law_deep
  have B_law_deep := F_law_deep.binds (ps := ["_law_tape_here"]) fun _ _ _ _ _ _ us hl => match us, hl with | [_], _ => rfl
  have F_law := fun_mk (st := s_law) l_law c_law k_law
  have B_law := F_law.binds (ps := ["_law_script"]) fun _ _ _ _ _ _ us hl => match us, hl with | [_], _ => rfl
  have OX_BadText : OexC K C_BadText := ⟨⟨_, _, _, _, _, _, _, _, _, _, _, _, _, _, _, ocBadText, orBadText⟩, osaBadText, oexBadText, otyBadText, okpBadText⟩
  have XF_BadText : XfC K C_BadText := ⟨xgaBadText, xggBadText, oexBadText, xhdBadText⟩
  have NF_BadText := onfBadText
  have HF_BadText := exm_self oexBadText oicBadText otyBadText ossBadText
  have SK_BadText : SupK l.prog K C_BadText fi_BadText ca_BadText cc_BadText "line" := ⟨OX_BadText, onfBadText, ⟨_, _, _, _, _, _, olkBadText, ofiBadText, ofmBadText⟩, ⟨_, _, _, olcBadText⟩, omrBadText, oopBadText, oksBadText, sveBadText, otpBadText⟩
  have SS_BadText : SupScope "line" (defScope s_BadText_init) := ⟨rfl, rfl, rfl, by decide +kernel, by decide +kernel, rfl, rfl, rfl, rfl, by decide +kernel, by decide +kernel, by decide +kernel⟩
  have X_BadText : ∀ base : Heap, ErrF l.prog w K mg base 1 "BadText" C_BadText "line" := fun base => ⟨OX_BadText, PySem.W.mg_of X G nsBadText, fi_BadText, _, "line", oinBadText, oitBadText, fn_super (pl := _) olfBadText ocdBadText SS_BadText SK_BadText (PySem.W.mg_none_of X G osuBadText) rfl rfl (fun _ => rfl) rfl, Binds.all fun us hl => match us, hl with | [_, _], _ => rfl⟩
  have NS_str : ∀ C, (fun C => C = C_Bag ∨ C = C_RawBag) C → PySem.W.subIn K (.ref C) (.type "str") = some false := fun C e => e.elim (fun e => by rw [e]; exact v_str_Bag) (fun e => by rw [e]; exact v_str_RawBag)
  refine ⟨lkN, PySem.W.fnOf "law" "law" (defArgs s_law) (defBody s_law) (defScope s_law) .none kV_law dc_law pm_law an_law cd_law ct_law, sp_law K T0, fun s v => .of_eq rfl, fun H a ns hl hT hS => ⟨a, ns, rfl, hS, LamX.TabS.nil hT, fun _ => rfl⟩, fun base _ _ TB => ?_⟩
  have O_law_tape := ok_law_tape (P := l.prog) (w := w) (base := base)  F_law_tape T 
  have D_law_tape : DefOk l.prog w K mg base CX0 1 "_law_tape" ["_law_script"] _ := ⟨_, _, PySem.W.mg_of X G a_law_tape, k_law_tape, B_law_tape, O_law_tape⟩
  have O_law_pick := ok_law_pick (P := l.prog) (w := w) (base := base)  F_law_pick T 
  have D_law_pick : DefOk l.prog w K mg base CX0 1 "_law_pick" ["_law_tape_here", "_law_many"] _ := ⟨_, _, PySem.W.mg_of X G a_law_pick, k_law_pick, B_law_pick, O_law_pick⟩
  have O_law_clock := ok_law_clock (P := l.prog) (w := w) (base := base)  F_law_clock T D_law_pick
  have D_law_clock : DefOk l.prog w K mg base CX0 2 "_law_clock" ["_law_tape_here"] _ := ⟨_, _, PySem.W.mg_of X G a_law_clock, k_law_clock, B_law_clock, O_law_clock⟩
  have O_law_word := ok_law_word (P := l.prog) (w := w) (base := base)  F_law_word T D_law_pick
  have D_law_word : DefOk l.prog w K mg base CX0 2 "_law_word" ["_law_tape_here", "_law_letters_here", "_law_most"] _ := ⟨_, _, PySem.W.mg_of X G a_law_word, k_law_word, B_law_word, O_law_word⟩
  have O_law_sparse := ok_law_sparse (P := l.prog) (w := w) (base := base)  F_law_sparse T D_law_pick D_law_word
  have D_law_sparse : DefOk l.prog w K mg base CX0 3 "_law_sparse" ["_law_tape_here", "_law_clock_here", "_law_letters_here", "_law_many", "_law_most"] _ := ⟨_, _, PySem.W.mg_of X G a_law_sparse, k_law_sparse, B_law_sparse, O_law_sparse⟩
  have O_is_integer := ok_is_integer (P := l.prog) (w := w) (base := base)  F_is_integer T 
  have D_is_integer : DefOk l.prog w K mg base CX0 1 "is_integer" ["thing"] _ := ⟨_, _, PySem.W.mg_of X G a_is_integer, k_is_integer, B_is_integer, O_is_integer⟩
  have O_is_clock := ok_is_clock (P := l.prog) (w := w) (base := base)  F_is_clock T D_is_integer
  have D_is_clock : DefOk l.prog w K mg base CX0 2 "is_clock" ["thing"] _ := ⟨_, _, PySem.W.mg_of X G a_is_clock, k_is_clock, B_is_clock, O_is_clock⟩
  have O_is_word := ok_is_word (P := l.prog) (w := w) (base := base)  F_is_word T 
  have D_is_word : DefOk l.prog w K mg base CX0 1 "is_word" ["thing"] _ := ⟨_, _, PySem.W.mg_of X G a_is_word, k_is_word, B_is_word, O_is_word⟩
  have O_is_short_word := ok_is_short_word (P := l.prog) (w := w) (base := base)  F_is_short_word T D_is_word
  have D_is_short_word : DefOk l.prog w K mg base CX0 2 "is_short_word" ["thing"] _ := ⟨_, _, PySem.W.mg_of X G a_is_short_word, k_is_short_word, B_is_short_word, O_is_short_word⟩
  have O_is_within := ok_is_within (P := l.prog) (w := w) (base := base)  F_is_within T D_is_integer
  have D_is_within : DefOk l.prog w K mg base CX0 2 "is_within" ["thing", "least", "most"] _ := ⟨_, _, PySem.W.mg_of X G a_is_within, k_is_within, B_is_within, O_is_within⟩
  have O_are_words := ok_are_words (P := l.prog) (w := w) (base := base)  F_are_words T D_is_short_word D_is_within
  have D_are_words : DefOk l.prog w K mg base CX0 3 "are_words" ["clock", "thing"] _ := ⟨_, _, PySem.W.mg_of X G a_are_words, k_are_words, B_are_words, O_are_words⟩
  have KF : KeyFn K mg := ⟨_, _, F_ahead_key, PySem.W.mg_of X G a_ahead_key, B_ahead_key⟩
  have O_words_in_order := ok_words_in_order (P := l.prog) (w := w) (base := base)  F_words_in_order T KF
  have D_words_in_order : DefOk l.prog w K mg base CX0 4 "words_in_order" ["sparse"] _ := ⟨_, _, PySem.W.mg_of X G a_words_in_order, k_words_in_order, B_words_in_order, O_words_in_order⟩
  have O_Bag_keep := ok_keep (P := l.prog) (w := w) (base := base)  F_Bag_keep T D_words_in_order
  have M_keep : MtOk l.prog w K mg base CX0 5 C_Bag "keep" ["self", "clock", "sparse"] _ := ⟨_, _, ⟨pgBag, hdBag, poBag, saBag⟩, ⟨kpBag, i_Bag_keep, k_Bag_keep⟩, B_Bag_keep, O_Bag_keep⟩
  have M_keepRawBag : MtOk l.prog w K mg base CX0 5 C_RawBag "keep" ["self", "clock", "sparse"] _ := ⟨_, _, ⟨pgRawBag, hdRawBag, poRawBag, saRawBag⟩, ⟨kpRawBag, i_Bag_keep, k_Bag_keep⟩, B_Bag_keep, O_Bag_keep⟩
  have O_Bag_init := ok_bag_init (P := l.prog) (w := w) (base := base)  F_Bag_init T D_is_clock D_are_words M_keep
  have K_Bag : MkOk l.prog w K mg base CX0 6 "Bag" C_Bag ["self", "clock", "words"] _ := ⟨_, _, ⟨mkBag, a_Bag_init, i_Bag_init, kBBag⟩, PySem.W.mg_of X G nsBag, B_Bag_init, O_Bag_init⟩
  have O_law_text_of := ok_law_text_of (P := l.prog) (w := w) (base := base)  F_law_text_of T 
  have D_law_text_of : DefOk l.prog w K mg base CX0 1 "_law_text_of" ["_law_pairs_here"] _ := ⟨_, _, PySem.W.mg_of X G a_law_text_of, k_law_text_of, B_law_text_of, O_law_text_of⟩
  have O_law_pairs := ok_law_pairs (P := l.prog) (w := w) (base := base) (T0 := T0) F_law_pairs T rfl TB
  have D_law_pairs : DefOk l.prog w K mg base CX0 4 "_law_pairs" ["_law_sparse_here"] _ := ⟨_, _, PySem.W.mg_of X G a_law_pairs, k_law_pairs, B_law_pairs, O_law_pairs⟩
  have O_law_word_told := ok_law_word_told (P := l.prog) (w := w) (base := base)  F_law_word_told T 
  have D_law_word_told : DefOk l.prog w K mg base CX0 1 "_law_word_told" ["_law_clock_here", "_law_text"] _ := ⟨_, _, PySem.W.mg_of X G a_law_word_told, k_law_word_told, B_law_word_told, O_law_word_told⟩
  have O_law_read := ok_law_read (P := l.prog) (w := w) (base := base)  F_law_read T D_law_word_told
  have D_law_read : DefOk l.prog w K mg base CX0 2 "_law_read" ["_law_clock_here", "_law_text"] _ := ⟨_, _, PySem.W.mg_of X G a_law_read, k_law_read, B_law_read, O_law_read⟩
  have O_law_due := ok_law_due (P := l.prog) (w := w) (base := base)  F_law_due T D_law_read
  have D_law_due : DefOk l.prog w K mg base CX0 3 "_law_due" ["_law_text"] _ := ⟨_, _, PySem.W.mg_of X G a_law_due, k_law_due, B_law_due, O_law_due⟩
  have O_read_word := ok_read_word (P := l.prog) (w := w) (base := base)  F_read_word T D_is_short_word
  have D_read_word : DefOk l.prog w K mg base CX0 3 "read_word" ["clock", "text"] _ := ⟨_, _, PySem.W.mg_of X G a_read_word, k_read_word, B_read_word, O_read_word⟩
  have O_read_words := ok_read_words (P := l.prog) (w := w) (base := base)  F_read_words T D_read_word
  have D_read_words : DefOk l.prog w K mg base CX0 4 "read_words" ["clock", "text"] _ := ⟨_, _, PySem.W.mg_of X G a_read_words, k_read_words, B_read_words, O_read_words⟩
  have O_RawBag_init := ok_raw_init (P := l.prog) (w := w) (base := base)  F_RawBag_init T (.inr rfl) M_keepRawBag
  have K_RawBag : MkOk l.prog w K mg base CX0 6 "RawBag" C_RawBag ["self", "clock", "sparse"] _ := ⟨_, _, ⟨mkRawBag, a_RawBag_init, i_RawBag_init, kBRawBag⟩, PySem.W.mg_of X G nsRawBag, B_RawBag_init, O_RawBag_init⟩
  have O_raw := ok_raw (P := l.prog) (w := w) (base := base) (C_RawBag := C_RawBag) F_raw T K_RawBag
  have D_raw : DefOk l.prog w K mg base CX0 8 "raw" ["clock", "sparse"] _ := ⟨_, _, PySem.W.mg_of X G a_raw, k_raw, B_raw, O_raw⟩
  have O_read_rowX := ok_read_rowX (P := l.prog) (w := w) (base := base) (C_BadText := C_BadText) F_read_row T D_read_words D_raw (X_BadText base)
  have D_read_rowX : DefOk l.prog w K mg base (L2.CX l.prog w) 9 "read_row" ["text"] _ := ⟨_, _, PySem.W.mg_of X G a_read_row, k_read_row, B_read_row, O_read_rowX⟩
  have O_law_told := ok_law_told (P := l.prog) (w := w) (base := base) (C_BadText := C_BadText) F_law_told T D_read_rowX (X_BadText base) XF_BadText NF_BadText HF_BadText
  have D_law_told : DefOk l.prog w K mg base CX0 10 "_law_told" ["_law_text"] _ := ⟨_, _, PySem.W.mg_of X G a_law_told, k_law_told, B_law_told, O_law_told⟩
  have O_law_is := ok_law_is (P := l.prog) (w := w) (base := base) (T0 := T0) F_law_is T D_law_pairs
  have D_law_is : DefOkG l.prog w K mg base CX0 5 "_law_is" ["_law_told_here", "_law_clock_here", "_law_sparse_here"] _ := ⟨_, _, PySem.W.mg_of X G a_law_is, k_law_is, B_law_is, O_law_is⟩
  have O_law_is_right := ok_law_is_right (P := l.prog) (w := w) (base := base) (T0 := T0) F_law_is_right T D_law_due D_law_told D_law_is
  have D_law_is_right : DefOkG l.prog w K mg base CX0 11 "_law_is_right" ["_law_text"] _ := ⟨_, _, PySem.W.mg_of X G a_law_is_right, k_law_is_right, B_law_is_right, O_law_is_right⟩
  have O_law_spoiled := ok_law_spoiled (P := l.prog) (w := w) (base := base)  F_law_spoiled T D_law_pick
  have D_law_spoiled : DefOk l.prog w K mg base CX0 2 "_law_spoiled" ["_law_tape_here", "_law_text"] _ := ⟨_, _, PySem.W.mg_of X G a_law_spoiled, k_law_spoiled, B_law_spoiled, O_law_spoiled⟩
  have O_law_changed := ok_law_changed (P := l.prog) (w := w) (base := base)  F_law_changed T D_law_pick
  have D_law_changed : DefOk l.prog w K mg base CX0 2 "_law_changed" ["_law_tape_here", "_law_lines"] _ := ⟨_, _, PySem.W.mg_of X G a_law_changed, k_law_changed, B_law_changed, O_law_changed⟩
  have O_law_deep := ok_law_deep (P := l.prog) (w := w) (base := base)  F_law_deep T D_law_pick
  have D_law_deep : DefOk l.prog w K mg base CX0 2 "_law_deep" ["_law_tape_here"] _ := ⟨_, _, PySem.W.mg_of X G a_law_deep, k_law_deep, B_law_deep, O_law_deep⟩
  exact ok_law F_law T (T0 := T0) D_law_tape D_law_clock D_law_pick D_law_sparse K_Bag D_law_text_of D_law_pairs D_law_is_right D_law_told D_law_spoiled D_law_changed D_law_deep NS_str
end Fp
open PySem PySem.W PyProof.Rows
set_option maxRecDepth 100000 in
set_option maxHeartbeats 0 in
theorem PySem.Challenge.cw_frontparts_k84_wrong_lines_of_rows_holds : PySem.Challenge.rw_frontparts_k84_wrong_lines_of_rows.Holds := by
  w_on; o_law; k_head; (case hw => w_witness2)
  k_fill
  refine Fp.walk_ofT (l := PySem.Challenge.rw_frontparts_k84_wrong_lines_of_rows) (n := 63) (k := 12) (x := "_law_script") "_law_pairs" (by decide +kernel) rfl (by decide) rfl ⟨rfl, by decide, by decide⟩ (fun w h Y => PySem.W.km_in_of Y) ?F
  case F =>
    intro w mg fa h c T KX G hmg HL
    refine' Fp.all_mk KX G hmg ?z_nsBag ?z_nsRawBag ?z_a_ahead_key ?z_l_ahead_key ?z_c_ahead_key ?z_k_ahead_key ?z_a_law_tape ?z_l_law_tape ?z_c_law_tape ?z_k_law_tape ?z_a_law_pick ?z_l_law_pick ?z_c_law_pick ?z_k_law_pick ?z_a_law_clock ?z_l_law_clock ?z_c_law_clock ?z_k_law_clock ?z_a_law_word ?z_l_law_word ?z_c_law_word ?z_k_law_word ?z_a_law_sparse ?z_l_law_sparse ?z_c_law_sparse ?z_k_law_sparse ?z_a_is_integer ?z_l_is_integer ?z_c_is_integer ?z_k_is_integer ?z_a_is_clock ?z_l_is_clock ?z_c_is_clock ?z_k_is_clock ?z_a_is_word ?z_l_is_word ?z_c_is_word ?z_k_is_word ?z_a_is_short_word ?z_l_is_short_word ?z_c_is_short_word ?z_k_is_short_word ?z_a_is_within ?z_l_is_within ?z_c_is_within ?z_k_is_within ?z_a_are_words ?z_l_are_words ?z_c_are_words ?z_k_are_words ?z_a_words_in_order ?z_l_words_in_order ?z_c_words_in_order ?z_k_words_in_order ?z_a_Bag_keep ?z_i_Bag_keep ?z_l_Bag_keep ?z_c_Bag_keep ?z_k_Bag_keep ?z_a_Bag_init ?z_i_Bag_init ?z_l_Bag_init ?z_c_Bag_init ?z_k_Bag_init ?z_a_law_text_of ?z_l_law_text_of ?z_c_law_text_of ?z_k_law_text_of ?z_a_law_pairs ?z_l_law_pairs ?z_c_law_pairs ?z_k_law_pairs ?z_a_law_word_told ?z_l_law_word_told ?z_c_law_word_told ?z_k_law_word_told ?z_a_law_read ?z_l_law_read ?z_c_law_read ?z_k_law_read ?z_a_law_due ?z_l_law_due ?z_c_law_due ?z_k_law_due ?z_a_read_word ?z_l_read_word ?z_c_read_word ?z_k_read_word ?z_a_read_words ?z_l_read_words ?z_c_read_words ?z_k_read_words ?z_a_RawBag_init ?z_i_RawBag_init ?z_l_RawBag_init ?z_c_RawBag_init ?z_k_RawBag_init ?z_a_raw ?z_l_raw ?z_c_raw ?z_k_raw ?z_a_read_row ?z_l_read_row ?z_c_read_row ?z_k_read_row ?z_a_law_told ?z_l_law_told ?z_c_law_told ?z_k_law_told ?z_a_law_is ?z_l_law_is ?z_c_law_is ?z_k_law_is ?z_a_law_is_right ?z_l_law_is_right ?z_c_law_is_right ?z_k_law_is_right ?z_a_law_spoiled ?z_l_law_spoiled ?z_c_law_spoiled ?z_k_law_spoiled ?z_a_law_changed ?z_l_law_changed ?z_c_law_changed ?z_k_law_changed ?z_a_law_deep ?z_l_law_deep ?z_c_law_deep ?z_k_law_deep ?z_a_law ?z_l_law ?z_c_law ?z_k_law ?z_lkC ?z_lkP ?z_lkN ?z_nsBadText ?z_ocBadText ?z_orBadText ?z_osaBadText ?z_oexBadText ?z_otyBadText ?z_okpBadText ?z_oicBadText ?z_xgaBadText ?z_xggBadText ?z_xhdBadText ?z_sveBadText ?z_ossBadText ?z_omrBadText ?z_onfBadText ?z_oksBadText ?z_oinBadText ?z_oitBadText ?z_olfBadText ?z_ocdBadText ?z_olcBadText ?z_olkBadText ?z_ofiBadText ?z_ofmBadText ?z_oopBadText ?z_otpBadText ?z_osuBadText ?z_cg ?z_ct ?z_pgBag ?z_hdBag ?z_poBag ?z_saBag ?z_mkBag ?z_kBBag ?z_n1Bag ?z_n2Bag ?z_n3Bag ?z_n4Bag ?z_ccBag ?z_coBag ?z_icBag ?z_tcBag ?z_neBag ?z_eqBag ?z_kpBag ?z_u_NoneType_Bag ?z_u_bool_Bag ?z_u_int_Bag ?z_u_str_Bag ?z_u_list_Bag ?z_u_tuple_Bag ?z_u_dict_Bag ?z_v_str_Bag ?z_pgRawBag ?z_hdRawBag ?z_poRawBag ?z_saRawBag ?z_mkRawBag ?z_kBRawBag ?z_n1RawBag ?z_n2RawBag ?z_n3RawBag ?z_n4RawBag ?z_ccRawBag ?z_coRawBag ?z_icRawBag ?z_tcRawBag ?z_neRawBag ?z_eqRawBag ?z_kpRawBag ?z_u_NoneType_RawBag ?z_u_bool_RawBag ?z_u_int_RawBag ?z_u_str_RawBag ?z_u_list_RawBag ?z_u_tuple_RawBag ?z_u_dict_RawBag ?z_v_str_RawBag ?z_sRB ?z_sBR ?z_dRB ?z_b_isinstance ?z_b_int ?z_b_bool ?z_b_str ?z_b_dict ?z_b_list ?z_b_tuple ?z_b_len ?z_b_abs ?z_b_all ?z_b_any ?z_b_max ?z_b_min ?z_b_range ?z_b_sorted ?z_b_sum ?z_b_zip ?z_b_enumerate ?z_b_repr ?z_b_set ?z_g1 ?z_g2 ?z_g3 ?z_g4 ?z_l4 HL
    (case z_nsBag => k_is); (case z_nsRawBag => k_is); (case z_a_ahead_key => k_is); (case z_l_ahead_key => k_is); (case z_c_ahead_key => k_is); (case z_k_ahead_key => k_is); (case z_a_law_tape => k_is); (case z_l_law_tape => k_is); (case z_c_law_tape => k_is); (case z_k_law_tape => k_is); (case z_a_law_pick => k_is); (case z_l_law_pick => k_is); (case z_c_law_pick => k_is); (case z_k_law_pick => k_is); (case z_a_law_clock => k_is); (case z_l_law_clock => k_is); (case z_c_law_clock => k_is); (case z_k_law_clock => k_is); (case z_a_law_word => k_is); (case z_l_law_word => k_is); (case z_c_law_word => k_is); (case z_k_law_word => k_is); (case z_a_law_sparse => k_is); (case z_l_law_sparse => k_is); (case z_c_law_sparse => k_is); (case z_k_law_sparse => k_is); (case z_a_is_integer => k_is); (case z_l_is_integer => k_is); (case z_c_is_integer => k_is); (case z_k_is_integer => k_is); (case z_a_is_clock => k_is); (case z_l_is_clock => k_is); (case z_c_is_clock => k_is); (case z_k_is_clock => k_is); (case z_a_is_word => k_is); (case z_l_is_word => k_is); (case z_c_is_word => k_is); (case z_k_is_word => k_is); (case z_a_is_short_word => k_is); (case z_l_is_short_word => k_is); (case z_c_is_short_word => k_is); (case z_k_is_short_word => k_is); (case z_a_is_within => k_is); (case z_l_is_within => k_is); (case z_c_is_within => k_is); (case z_k_is_within => k_is); (case z_a_are_words => k_is); (case z_l_are_words => k_is); (case z_c_are_words => k_is); (case z_k_are_words => k_is); (case z_a_words_in_order => k_is); (case z_l_words_in_order => k_is); (case z_c_words_in_order => k_is); (case z_k_words_in_order => k_is); (case z_a_Bag_keep => k_is); (case z_i_Bag_keep => k_is); (case z_l_Bag_keep => k_is); (case z_c_Bag_keep => k_is); (case z_k_Bag_keep => k_is); (case z_a_Bag_init => k_is); (case z_i_Bag_init => k_is); (case z_l_Bag_init => k_is); (case z_c_Bag_init => k_is); (case z_k_Bag_init => k_is); (case z_a_law_text_of => k_is); (case z_l_law_text_of => k_is); (case z_c_law_text_of => k_is); (case z_k_law_text_of => k_is); (case z_a_law_pairs => k_is); (case z_l_law_pairs => k_is); (case z_c_law_pairs => k_is); (case z_k_law_pairs => k_is); (case z_a_law_word_told => k_is); (case z_l_law_word_told => k_is); (case z_c_law_word_told => k_is); (case z_k_law_word_told => k_is); (case z_a_law_read => k_is); (case z_l_law_read => k_is); (case z_c_law_read => k_is); (case z_k_law_read => k_is); (case z_a_law_due => k_is); (case z_l_law_due => k_is); (case z_c_law_due => k_is); (case z_k_law_due => k_is); (case z_a_read_word => k_is); (case z_l_read_word => k_is); (case z_c_read_word => k_is); (case z_k_read_word => k_is); (case z_a_read_words => k_is); (case z_l_read_words => k_is); (case z_c_read_words => k_is); (case z_k_read_words => k_is); (case z_a_RawBag_init => k_is); (case z_i_RawBag_init => k_is); (case z_l_RawBag_init => k_is); (case z_c_RawBag_init => k_is); (case z_k_RawBag_init => k_is); (case z_a_raw => k_is); (case z_l_raw => k_is); (case z_c_raw => k_is); (case z_k_raw => k_is); (case z_a_read_row => k_is); (case z_l_read_row => k_is); (case z_c_read_row => k_is); (case z_k_read_row => k_is); (case z_a_law_told => k_is); (case z_l_law_told => k_is); (case z_c_law_told => k_is); (case z_k_law_told => k_is); (case z_a_law_is => k_is); (case z_l_law_is => k_is); (case z_c_law_is => k_is); (case z_k_law_is => k_is); (case z_a_law_is_right => k_is); (case z_l_law_is_right => k_is); (case z_c_law_is_right => k_is); (case z_k_law_is_right => k_is); (case z_a_law_spoiled => k_is); (case z_l_law_spoiled => k_is); (case z_c_law_spoiled => k_is); (case z_k_law_spoiled => k_is); (case z_a_law_changed => k_is); (case z_l_law_changed => k_is); (case z_c_law_changed => k_is); (case z_k_law_changed => k_is); (case z_a_law_deep => k_is); (case z_l_law_deep => k_is); (case z_c_law_deep => k_is); (case z_k_law_deep => k_is); (case z_a_law => k_is); (case z_l_law => k_is); (case z_c_law => k_is); (case z_k_law => k_is); (case z_lkC => k_is); (case z_lkP => (first | exact rfl | kernel_rfl)); (case z_lkN => (first | k_is | exact rfl | kernel_rfl)); (case z_nsBadText => k_is); (case z_ocBadText => (first | k_is | exact rfl | kernel_rfl)); (case z_orBadText => (first | exact rfl | kernel_rfl)); (case z_osaBadText => k_is); (case z_oexBadText => k_is); (case z_otyBadText => k_is); (case z_okpBadText => k_is); (case z_oicBadText => k_is); (case z_xgaBadText => k_is); (case z_xggBadText => k_is); (case z_xhdBadText => k_is); (case z_sveBadText => k_is); (case z_ossBadText => k_is); (case z_omrBadText => k_is); (case z_onfBadText => k_is); (case z_oksBadText => (first | ks_is | k_is | exact rfl | kernel_rfl)); (case z_oinBadText => k_is); (case z_oitBadText => k_is); (case z_olfBadText => k_is); (case z_ocdBadText => k_is); (case z_olcBadText => k_is); (case z_olkBadText => k_is); (case z_ofiBadText => (first | exact rfl | kernel_rfl)); (case z_ofmBadText => (first | exact rfl | kernel_rfl | decide +kernel)); (case z_oopBadText => k_is); (case z_otpBadText => (first | exact rfl | kernel_rfl | decide +kernel)); (case z_osuBadText => k_is); (case z_cg => k_is); (case z_ct => k_is); (case z_pgBag => k_is); (case z_hdBag => k_is); (case z_poBag => k_is); (case z_saBag => k_is); (case z_mkBag => k_is); (case z_kBBag => k_is); (case z_n1Bag => k_is); (case z_n2Bag => k_is); (case z_n3Bag => k_is); (case z_n4Bag => k_is); (case z_ccBag => k_is); (case z_coBag => k_is); (case z_icBag => k_is); (case z_tcBag => k_is); (case z_neBag => k_is); (case z_eqBag => k_is); (case z_kpBag => k_is); (case z_u_NoneType_Bag => k_is); (case z_u_bool_Bag => k_is); (case z_u_int_Bag => k_is); (case z_u_str_Bag => k_is); (case z_u_list_Bag => k_is); (case z_u_tuple_Bag => k_is); (case z_u_dict_Bag => k_is); (case z_v_str_Bag => k_is); (case z_pgRawBag => k_is); (case z_hdRawBag => k_is); (case z_poRawBag => k_is); (case z_saRawBag => k_is); (case z_mkRawBag => k_is); (case z_kBRawBag => k_is); (case z_n1RawBag => k_is); (case z_n2RawBag => k_is); (case z_n3RawBag => k_is); (case z_n4RawBag => k_is); (case z_ccRawBag => k_is); (case z_coRawBag => k_is); (case z_icRawBag => k_is); (case z_tcRawBag => k_is); (case z_neRawBag => k_is); (case z_eqRawBag => k_is); (case z_kpRawBag => k_is); (case z_u_NoneType_RawBag => k_is); (case z_u_bool_RawBag => k_is); (case z_u_int_RawBag => k_is); (case z_u_str_RawBag => k_is); (case z_u_list_RawBag => k_is); (case z_u_tuple_RawBag => k_is); (case z_u_dict_RawBag => k_is); (case z_v_str_RawBag => k_is); (case z_sRB => k_is); (case z_sBR => k_is); (case z_dRB => decide); (case z_b_isinstance => k_is); (case z_b_int => k_is); (case z_b_bool => k_is); (case z_b_str => k_is); (case z_b_dict => k_is); (case z_b_list => k_is); (case z_b_tuple => k_is); (case z_b_len => k_is); (case z_b_abs => k_is); (case z_b_all => k_is); (case z_b_any => k_is); (case z_b_max => k_is); (case z_b_min => k_is); (case z_b_range => k_is); (case z_b_sorted => k_is); (case z_b_sum => k_is); (case z_b_zip => k_is); (case z_b_enumerate => k_is); (case z_b_repr => k_is); (case z_b_set => k_is); (case z_g1 => k_is); (case z_g2 => k_is); (case z_g3 => k_is); (case z_g4 => k_is); (case z_l4 => k_is)
