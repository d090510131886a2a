import PyProof.Rows.All
import Wide.All
import OpenK.AllK
import Wide.FinOn
import KE.SortKeyHeap
import HandS.ForMost
import HandS.ForExc
import HandS.More
import HandS.IsInst
import HandS.Style
import HandS.TupAny
import HandS.DictComp
import HandS.StrMore
import HandS.SortKw
import HandS.OwnEq
import PyProof.InstNe
import KE.DataEq
import HandS.Walk
import KE.KDictPairs
import HandS.ExcOwn
import HandS.TryOnly
import HandS.WordsExc
import KE.DataMinKey
import KE.LtData
import HandS.TupSets
import HandS.ExcIs
import HandS.ExcCtx
import PyProof.StrLaws
import HandS.Set
import HandS.Strs
import PyProof.Rows.SetFrom
import PyProof.Rows.SortStr
import PyProof.Rows.StrMeet
import HandS.SetBool
import PyProof.NeKinds
import HandS.Text
import PyProof.StrBlock2
import PySem.Challenge.RW_frontparts_k23_whole_crossings
set_option Elab.async false
set_option maxRecDepth 100000
set_option maxHeartbeats 4000000
set_option linter.all false
/-! Bags as lists of words with numbers: the mirror of the dicts, and its algebra. -/
namespace Fp
open PySem

abbrev Bg := List (Str × Int)
def getS (s : Bg) (w : Str) : Option Int := (s.find? fun kv => decide (kv.1 = w)).map (·.2)
def cf (s : Bg) (w : Str) : Int := (getS s w).getD 0
def putS (s : Bg) (w : Str) (n : Int) : Bg := if (s.any fun kv => decide (kv.1 = w)) = true then s.map (fun kv => if kv.1 = w then (kv.1, n) else kv) else s ++ [(w, n)]
def dropS (s : Bg) (w : Str) : Bg := s.filter fun kv => decide (kv.1 ≠ w)
def addTo (p : Int) (s : Bg) (w : Str) (n : Int) : Bg :=
  if (cf s w + n) % p = 0 then dropS s w else putS s w ((cf s w + n) % p)
def plusS (p : Int) (s t : Bg) (f : Int) : Bg := t.foldl (fun acc kv => addTo p acc kv.1 (f * kv.2)) s
def prodRow (p : Int) (acc : Bg) (a : Str × Int) (t : Bg) : Bg := t.foldl (fun acc b => addTo p acc (a.1 ++ b.1) (a.2 * b.2)) acc
def prodS (p : Int) (s t : Bg) : Bg := s.foldl (fun acc a => prodRow p acc a t) []
def keys (s : Bg) : List Str := s.map (·.1)

structure Good (p : Int) (s : Bg) : Prop where
  nd : (keys s).Nodup
  lo : ∀ kv ∈ s, 0 < kv.2
  hi : ∀ kv ∈ s, kv.2 < p

theorem getS_nil (w : Str) : getS [] w = none := rfl
theorem getS_pos {q : Str × Int} {r : Bg} {w : Str} (e : q.1 = w) : getS (q :: r) w = some q.2 := by simp [getS, List.find?_cons, e]
theorem getS_neg {q : Str × Int} {r : Bg} {w : Str} (e : ¬ q.1 = w) : getS (q :: r) w = getS r w := by simp [getS, List.find?_cons, e]
theorem cf_nil (w : Str) : cf [] w = 0 := rfl
theorem cf_pos {q : Str × Int} {r : Bg} {w : Str} (e : q.1 = w) : cf (q :: r) w = q.2 := by unfold cf; rw [getS_pos e]; rfl
theorem cf_neg {q : Str × Int} {r : Bg} {w : Str} (e : ¬ q.1 = w) : cf (q :: r) w = cf r w := by unfold cf; rw [getS_neg e]
theorem getS_any (w : Str) : ∀ s : Bg, (s.any fun kv => decide (kv.1 = w)) = (getS s w).isSome
  | [] => rfl
  | q :: r => by
    rw [List.any_cons]
    by_cases e : q.1 = w
    · simp only [getS_pos e, decide_eq_true e, Bool.true_or, Option.isSome_some]
    · rw [getS_neg e, decide_eq_false e, Bool.false_or]; exact getS_any w r
theorem getS_mem {w : Str} {n : Int} : ∀ {s : Bg}, getS s w = some n → (w, n) ∈ s
  | q :: r, h => by
    by_cases e : q.1 = w
    · rw [getS_pos e] at h
      cases h
      subst e
      exact List.mem_cons_self
    · rw [getS_neg e] at h
      exact List.mem_cons_of_mem _ (getS_mem h)
theorem getS_of_mem {w : Str} {n : Int} : ∀ {s : Bg}, (keys s).Nodup → (w, n) ∈ s → getS s w = some n
  | q :: r, hn, h => by
    have hn' := List.nodup_cons.mp (show (q.1 :: keys r).Nodup from hn)
    rcases List.mem_cons.mp h with e | h
    · subst e
      exact getS_pos rfl
    · have ne : ¬ q.1 = w := fun e => hn'.1 (e ▸ List.mem_map.mpr ⟨_, h, rfl⟩)
      rw [getS_neg ne]
      exact getS_of_mem hn'.2 h
theorem getS_none {w : Str} : ∀ {s : Bg}, getS s w = none ↔ w ∉ keys s
  | [] => by simp [getS, keys]
  | q :: r => by
    by_cases e : q.1 = w
    · rw [getS_pos e]
      constructor
      · intro h; cases h
      · intro h; exact absurd (by rw [← e]; exact List.mem_cons_self) h
    · rw [getS_neg e]
      have ih := getS_none (w := w) (s := r)
      rw [ih]
      unfold keys
      rw [List.map_cons, List.mem_cons]
      constructor
      · intro h z
        rcases z with z | z
        · exact e z.symm
        · exact h z
      · intro h z
        exact h (.inr z)
theorem mem_keys {w : Str} {s : Bg} : w ∈ keys s ↔ ∃ n, (w, n) ∈ s := by
  unfold keys
  rw [List.mem_map]
  constructor
  · rintro ⟨⟨u, n⟩, h, rfl⟩
    exact ⟨n, h⟩
  · rintro ⟨n, h⟩
    exact ⟨_, h, rfl⟩

theorem getS_map (w u : Str) (n : Int) : ∀ s : Bg, getS (s.map fun kv => if kv.1 = w then (kv.1, n) else kv) u = (getS s u).map fun x => if u = w then n else x
  | [] => rfl
  | q :: r => by
    have ih := getS_map w u n r
    rw [List.map_cons]
    by_cases h : q.1 = w
    · rw [if_pos h]
      by_cases h2 : q.1 = u
      · rw [getS_pos (q := (q.1, n)) h2, getS_pos h2]
        have e : u = w := h2 ▸ h
        simp [e]
      · rw [getS_neg (q := (q.1, n)) h2, getS_neg h2, ih]
    · rw [if_neg h]
      by_cases h2 : q.1 = u
      · rw [getS_pos h2, getS_pos h2]
        have e : ¬ u = w := fun z => h (h2.trans z)
        simp [e]
      · rw [getS_neg h2, getS_neg h2, ih]
theorem getS_snoc (w u : Str) (n : Int) : ∀ s : Bg, getS s w = none → getS (s ++ [(w, n)]) u = if u = w then some n else getS s u
  | [], _ => by
    by_cases e : w = u
    · rw [if_pos e.symm]; exact getS_pos (q := (w, n)) e
    · rw [if_neg (fun z => e z.symm)]; exact getS_neg (q := (w, n)) e
  | q :: r, hn => by
    rw [List.cons_append]
    by_cases h : q.1 = w
    · rw [getS_pos h] at hn; cases hn
    · rw [getS_neg h] at hn
      by_cases h2 : q.1 = u
      · rw [getS_pos h2, getS_pos h2, if_neg (fun z => h (h2.trans z))]
      · rw [getS_neg h2, getS_neg h2]
        exact getS_snoc w u n r hn
theorem getS_put (s : Bg) (w u : Str) (n : Int) : getS (putS s w n) u = if u = w then some n else getS s u := by
  unfold putS
  by_cases a : (s.any fun kv => decide (kv.1 = w)) = true
  · rw [if_pos a, getS_map]
    rw [getS_any] at a
    by_cases e : u = w
    · obtain ⟨x, hx⟩ := Option.isSome_iff_exists.mp a
      subst e
      rw [hx]
      simp
    · simp [e]
  · rw [if_neg a]
    rw [getS_any] at a
    exact getS_snoc w u n s (by cases h : getS s w with | none => rfl | some x => rw [h] at a; exact absurd rfl a)
theorem getS_drop (w u : Str) : ∀ s : Bg, getS (dropS s w) u = if u = w then none else getS s u
  | [] => by
    show getS [] u = _
    rw [getS_nil]
    split <;> rfl
  | q :: r => by
    have ih := getS_drop w u r
    unfold dropS at ih ⊢
    rw [List.filter_cons]
    by_cases h : q.1 = w
    · rw [if_neg (by simp [h])]
      rw [ih]
      by_cases e : u = w
      · rw [if_pos e, if_pos e]
      · rw [if_neg e, if_neg e, getS_neg (fun z => e (z.symm.trans h))]
    · rw [if_pos (by simp [h])]
      by_cases h2 : q.1 = u
      · rw [getS_pos h2, getS_pos h2, if_neg (fun z => h (h2.trans z))]
      · rw [getS_neg h2, getS_neg h2, ih]
theorem cf_put (s : Bg) (w u : Str) (n : Int) : cf (putS s w n) u = if u = w then n else cf s u := by
  unfold cf
  rw [getS_put]
  split <;> rfl
theorem cf_drop (s : Bg) (w u : Str) : cf (dropS s w) u = if u = w then 0 else cf s u := by
  unfold cf
  rw [getS_drop]
  split <;> rfl
theorem cf_addTo (p : Int) (s : Bg) (w u : Str) (n : Int) : cf (addTo p s w n) u = if u = w then (cf s w + n) % p else cf s u := by
  unfold addTo
  split
  · rename_i h
    rw [cf_drop, h]
  · rw [cf_put]

theorem keys_drop (s : Bg) (w : Str) : keys (dropS s w) = (keys s).filter fun u => decide (u ≠ w) := by
  unfold keys dropS
  induction s with
  | nil => rfl
  | cons q r ih =>
    rw [List.filter_cons, List.map_cons, List.filter_cons]
    by_cases h : q.1 = w
    · rw [if_neg (by simp [h]), if_neg (by simp [h])]
      exact ih
    · rw [if_pos (by simp [h]), if_pos (by simp [h]), List.map_cons, ih]
theorem keys_map_put (s : Bg) (w : Str) (n : Int) : keys (s.map fun kv => if kv.1 = w then (kv.1, n) else kv) = keys s := by
  unfold keys
  rw [List.map_map]
  refine List.map_congr_left fun q _ => ?_
  show (if q.1 = w then (q.1, n) else q).1 = q.1
  split <;> rfl
theorem keys_put (s : Bg) (w : Str) (n : Int) : keys (putS s w n) = if w ∈ keys s then keys s else keys s ++ [w] := by
  unfold putS
  rw [getS_any]
  by_cases h : w ∈ keys s
  · rw [if_pos h, if_pos (by cases e : getS s w with | none => exact absurd h (getS_none.mp e) | some x => rfl)]
    exact keys_map_put s w n
  · rw [if_neg h, if_neg (by rw [getS_none.mpr h]; simp)]
    unfold keys
    rw [List.map_append]
    rfl
theorem len_put (s : Bg) (w : Str) (n : Int) : (putS s w n).length ≤ s.length + 1 := by
  have e : (keys (putS s w n)).length ≤ (keys s).length + 1 := by
    rw [keys_put]
    split
    · omega
    · rw [List.length_append]; simp
  unfold keys at e
  rw [List.length_map, List.length_map] at e
  exact e
theorem len_drop (s : Bg) (w : Str) : (dropS s w).length ≤ s.length := List.length_filter_le _ _
theorem len_addTo (p : Int) (s : Bg) (w : Str) (n : Int) : (addTo p s w n).length ≤ s.length + 1 := by
  unfold addTo
  split
  · exact Nat.le_trans (len_drop s w) (Nat.le_succ _)
  · exact len_put _ _ _
theorem mem_keys_addTo {p : Int} {s : Bg} {w u : Str} {n : Int} (h : u ∈ keys (addTo p s w n)) : u ∈ keys s ∨ u = w := by
  unfold addTo at h
  split at h
  · rw [keys_drop] at h
    exact .inl (List.mem_filter.mp h).1
  · rw [keys_put] at h
    split at h
    · exact .inl h
    · rcases List.mem_append.mp h with h | h
      · exact .inl h
      · exact .inr (by simpa using h)

theorem nodup_put {s : Bg} {w : Str} {n : Int} (h : (keys s).Nodup) : (keys (putS s w n)).Nodup := by
  rw [keys_put]
  split
  · exact h
  · rename_i hn
    refine List.nodup_append.mpr ⟨h, by simp, ?_⟩
    intro a ha b hb
    have e : b = w := by simpa using hb
    subst e
    rintro rfl
    exact hn ha
theorem mem_put {s : Bg} {w : Str} {n : Int} {kv : Str × Int} (h : kv ∈ putS s w n) : kv ∈ s ∨ kv = (w, n) := by
  unfold putS at h
  split at h
  · obtain ⟨q, hq, e⟩ := List.mem_map.mp h
    split at e
    · rename_i hw
      exact .inr (by rw [← e, hw])
    · exact .inl (e ▸ hq)
  · rcases List.mem_append.mp h with h | h
    · exact .inl h
    · exact .inr (by simpa using h)

section
variable {p : Int} {s t u : Bg}
theorem Good.nil : Good p [] := ⟨List.nodup_nil, (fun _ h => nomatch h), (fun _ h => nomatch h)⟩
theorem Good.put {w : Str} {n : Int} (g : Good p s) (h0 : 0 < n) (h1 : n < p) : Good p (putS s w n) :=
  ⟨nodup_put g.nd, fun kv h => by
    rcases mem_put h with h | h
    · exact g.lo kv h
    · rw [h]; exact h0, fun kv h => by
    rcases mem_put h with h | h
    · exact g.hi kv h
    · rw [h]; exact h1⟩
theorem Good.drop {w : Str} (g : Good p s) : Good p (dropS s w) :=
  ⟨by rw [keys_drop]; exact g.nd.filter _, fun kv h => g.lo kv (List.mem_filter.mp h).1, fun kv h => g.hi kv (List.mem_filter.mp h).1⟩
theorem Good.addTo {w : Str} {n : Int} (hp : 0 < p) (g : Good p s) : Good p (addTo p s w n) := by
  unfold Fp.addTo
  split
  · exact g.drop
  · rename_i h
    have h1 := Int.emod_nonneg (cf s w + n) (Int.ne_of_gt hp)
    have h2 := Int.emod_lt_of_pos (cf s w + n) hp
    exact g.put (by omega) h2
theorem Good.plus {f : Int} (hp : 0 < p) (g : Good p s) (t : Bg) : Good p (plusS p s t f) := by
  unfold plusS
  induction t generalizing s with
  | nil => exact g
  | cons q r ih => exact ih (g.addTo hp)
theorem Good.row {a : Str × Int} (hp : 0 < p) (g : Good p s) (t : Bg) : Good p (prodRow p s a t) := by
  unfold prodRow
  induction t generalizing s with
  | nil => exact g
  | cons q r ih => exact ih (g.addTo hp)
theorem Good.prod (hp : 0 < p) (s t : Bg) : Good p (prodS p s t) := by
  unfold prodS
  have key : ∀ (s acc : Bg), Good p acc → Good p (s.foldl (fun acc a => prodRow p acc a t) acc) := by
    intro s
    induction s with
    | nil => intro acc g; exact g
    | cons q r ih => intro acc g; exact ih _ (g.row hp t)
  exact key s [] Good.nil

theorem cf_nonneg (g : Good p s) (w : Str) : 0 ≤ cf s w := by
  unfold cf
  cases e : getS s w with
  | none => exact Int.le_refl 0
  | some n => exact Int.le_of_lt (g.lo _ (getS_mem e))
theorem cf_lt (hp : 0 < p) (g : Good p s) (w : Str) : cf s w < p := by
  unfold cf
  cases e : getS s w with
  | none => exact hp
  | some n => exact g.hi _ (getS_mem e)
theorem cf_mod (hp : 0 < p) (g : Good p s) (w : Str) : cf s w % p = cf s w := Int.emod_eq_of_lt (cf_nonneg g w) (cf_lt hp g w)
theorem cf_ne (g : Good p s) {w : Str} : w ∈ keys s ↔ cf s w ≠ 0 := by
  constructor
  · intro h
    obtain ⟨n, hn⟩ := mem_keys.mp h
    have e := getS_of_mem g.nd hn
    have := g.lo _ hn
    unfold cf
    rw [e]
    show n ≠ 0
    have h0 : 0 < n := this
    omega
  · intro h
    apply Classical.byContradiction
    intro hn
    apply h
    unfold cf
    rw [getS_none.mpr hn]
    rfl
end

/-! ### sums over lists -/
def sumL {α : Type} (l : List α) (f : α → Int) : Int := (l.map f).sum
section
variable {α β : Type}
theorem sumL_nil (f : α → Int) : sumL [] f = 0 := rfl
theorem sumL_cons (a : α) (l : List α) (f : α → Int) : sumL (a :: l) f = f a + sumL l f := by unfold sumL; rw [List.map_cons, List.sum_cons]
theorem sumL_append (l m : List α) (f : α → Int) : sumL (l ++ m) f = sumL l f + sumL m f := by unfold sumL; rw [List.map_append, List.sum_append]
theorem sumL_map (l : List β) (g : β → α) (f : α → Int) : sumL (l.map g) f = sumL l fun b => f (g b) := by unfold sumL; rw [List.map_map]; rfl
theorem sumL_congr {l : List α} {f g : α → Int} (h : ∀ a ∈ l, f a = g a) : sumL l f = sumL l g := by unfold sumL; rw [List.map_congr_left h]
theorem sumL_zero {l : List α} {f : α → Int} (h : ∀ a ∈ l, f a = 0) : sumL l f = 0 := by
  induction l with
  | nil => rfl
  | cons a l ih => rw [sumL_cons, h a List.mem_cons_self, ih fun b hb => h b (List.mem_cons_of_mem _ hb)]; rfl
theorem sumL_add (l : List α) (f g : α → Int) : sumL l (fun a => f a + g a) = sumL l f + sumL l g := by
  induction l with
  | nil => rfl
  | cons a l ih => rw [sumL_cons, sumL_cons, sumL_cons, ih]; omega
theorem sumL_mul (l : List α) (c : Int) (f : α → Int) : sumL l (fun a => c * f a) = c * sumL l f := by
  induction l with
  | nil => rw [sumL_nil, sumL_nil, Int.mul_zero]
  | cons a l ih => rw [sumL_cons, sumL_cons, ih, Int.mul_add]
theorem sumL_mulr (l : List α) (c : Int) (f : α → Int) : sumL l (fun a => f a * c) = sumL l f * c := by
  induction l with
  | nil => rw [sumL_nil, sumL_nil, Int.zero_mul]
  | cons a l ih => rw [sumL_cons, sumL_cons, ih, Int.add_mul]
theorem sumL_swap (l : List α) (m : List β) (f : α → β → Int) : sumL l (fun a => sumL m fun b => f a b) = sumL m fun b => sumL l fun a => f a b := by
  induction l with
  | nil => rw [sumL_nil]; exact (sumL_zero fun b _ => rfl).symm
  | cons a l ih =>
    rw [sumL_cons, ih, ← sumL_add]
    exact sumL_congr fun b _ => (sumL_cons a l fun a => f a b).symm
theorem sumL_perm {l m : List α} (h : l.Perm m) (f : α → Int) : sumL l f = sumL m f := by
  induction h with
  | nil => rfl
  | cons a _ ih => rw [sumL_cons, sumL_cons, ih]
  | swap a b l => rw [sumL_cons, sumL_cons, sumL_cons, sumL_cons]; omega
  | trans _ _ i1 i2 => exact i1.trans i2
end
theorem emod_emod_add (a b p : Int) : (a % p + b) % p = (a + b) % p := by rw [Int.emod_add_emod]

/-! ### what an operation makes of the numbers -/
section
variable {p : Int} {s t u : Bg}
/-- the number at w of t, by all its entries -/
theorem sum_ind (hn : (keys t).Nodup) (w : Str) : sumL t (fun kv => if kv.1 = w then kv.2 else 0) = cf t w := by
  induction t with
  | nil => rfl
  | cons q r ih =>
    have hn' := List.nodup_cons.mp (show (q.1 :: keys r).Nodup from hn)
    rw [sumL_cons, ih hn'.2]
    by_cases e : q.1 = w
    · rw [if_pos e, cf_pos e]
      have : cf r w = 0 := by
        unfold cf
        rw [getS_none.mpr (e ▸ hn'.1)]
        rfl
      omega
    · rw [if_neg e, cf_neg e]; omega
theorem cf_fold (hp : 0 < p) {α : Type} (k : α → Str) (v : α → Int) (w : Str) : ∀ (l : List α) (s : Bg), Good p s →
    cf (l.foldl (fun acc a => addTo p acc (k a) (v a)) s) w = (cf s w + sumL l fun a => if k a = w then v a else 0) % p
  | [], s, g => by
    show cf s w = _
    rw [sumL_nil, Int.add_zero, cf_mod hp g]
  | a :: l, s, g => by
    rw [List.foldl_cons, cf_fold hp k v w l _ (g.addTo hp), cf_addTo, sumL_cons]
    by_cases e : k a = w
    · subst e
      rw [if_pos rfl, if_pos rfl, emod_emod_add, Int.add_assoc]
    · rw [if_neg (fun z => e z.symm), if_neg e, Int.zero_add]
theorem cf_plus (hp : 0 < p) (g : Good p s) (hn : (keys t).Nodup) (f : Int) (w : Str) : cf (plusS p s t f) w = (cf s w + f * cf t w) % p := by
  unfold plusS
  rw [cf_fold hp (fun kv : Str × Int => kv.1) (fun kv => f * kv.2) w t s g, ← sum_ind hn w, ← sumL_mul]
  congr 2
  refine sumL_congr fun kv _ => ?_
  split
  · rfl
  · rw [Int.mul_zero]
/-- all products that come to w -/
def cvS (s t : Bg) (w : Str) : Int := sumL s fun a => sumL t fun b => if a.1 ++ b.1 = w then a.2 * b.2 else 0
theorem cf_row (hp : 0 < p) (g : Good p s) (a : Str × Int) (w : Str) : cf (prodRow p s a t) w = (cf s w + sumL t fun b => if a.1 ++ b.1 = w then a.2 * b.2 else 0) % p := by
  unfold prodRow
  exact cf_fold hp (fun b : Str × Int => a.1 ++ b.1) (fun b => a.2 * b.2) w t s g
theorem cf_prod (hp : 0 < p) (s t : Bg) (w : Str) : cf (prodS p s t) w = cvS s t w % p := by
  unfold prodS cvS
  have key : ∀ (s acc : Bg), Good p acc → cf (s.foldl (fun acc a => prodRow p acc a t) acc) w = (cf acc w + sumL s fun a => sumL t fun b => if a.1 ++ b.1 = w then a.2 * b.2 else 0) % p := by
    intro s
    induction s with
    | nil => intro acc g; show cf acc w = _; rw [sumL_nil, Int.add_zero, cf_mod hp g]
    | cons q r ih =>
      intro acc g
      rw [List.foldl_cons, ih _ (g.row hp t), cf_row hp g, sumL_cons, emod_emod_add, Int.add_assoc]
  rw [key s [] Good.nil, cf_nil, Int.zero_add]

/-! ### sizes -/
theorem len_fold {α : Type} (k : α → Str) (v : α → Int) : ∀ (l : List α) (s : Bg), (l.foldl (fun acc a => addTo p acc (k a) (v a)) s).length ≤ s.length + l.length
  | [], s => Nat.le_refl _
  | a :: l, s => by
    rw [List.foldl_cons, List.length_cons]
    have h1 := len_fold k v l (addTo p s (k a) (v a))
    have h2 := len_addTo p s (k a) (v a)
    omega
theorem len_plus (f : Int) : (plusS p s t f).length ≤ s.length + t.length := len_fold (fun kv : Str × Int => kv.1) (fun kv => f * kv.2) t s
theorem len_row (a : Str × Int) : (prodRow p s a t).length ≤ s.length + t.length := len_fold (fun b : Str × Int => a.1 ++ b.1) (fun b => a.2 * b.2) t s
theorem len_prod : (prodS p s t).length ≤ s.length * t.length := by
  unfold prodS
  have key : ∀ (s acc : Bg), (s.foldl (fun acc a => prodRow p acc a t) acc).length ≤ acc.length + s.length * t.length := by
    intro s
    induction s with
    | nil => intro acc; show acc.length ≤ _; simp
    | cons q r ih =>
      intro acc
      rw [List.foldl_cons, List.length_cons, Nat.add_mul, Nat.one_mul]
      have h1 := ih (prodRow p acc q t)
      have h2 := len_row (p := p) (s := acc) (t := t) q
      omega
  have := key s []
  simpa using this
theorem keys_fold {α : Type} (k : α → Str) (v : α → Int) {w : Str} : ∀ (l : List α) (s : Bg), w ∈ keys (l.foldl (fun acc a => addTo p acc (k a) (v a)) s) → w ∈ keys s ∨ ∃ a ∈ l, w = k a
  | [], s, h => .inl h
  | a :: l, s, h => by
    rw [List.foldl_cons] at h
    rcases keys_fold k v l _ h with h | ⟨b, hb, e⟩
    · rcases mem_keys_addTo h with h | h
      · exact .inl h
      · exact .inr ⟨a, List.mem_cons_self, h⟩
    · exact .inr ⟨b, List.mem_cons_of_mem _ hb, e⟩
theorem keys_plus {f : Int} {w : Str} (h : w ∈ keys (plusS p s t f)) : w ∈ keys s ∨ w ∈ keys t := by
  rcases keys_fold (fun kv : Str × Int => kv.1) (fun kv => f * kv.2) t s h with h | ⟨a, ha, e⟩
  · exact .inl h
  · exact .inr (e ▸ List.mem_map.mpr ⟨a, ha, rfl⟩)
theorem keys_prod {w : Str} (h : w ∈ keys (prodS p s t)) : ∃ a ∈ keys s, ∃ b ∈ keys t, w = a ++ b := by
  unfold prodS at h
  have key : ∀ (s acc : Bg), w ∈ keys (s.foldl (fun acc a => prodRow p acc a t) acc) → w ∈ keys acc ∨ ∃ a ∈ keys s, ∃ b ∈ keys t, w = a ++ b := by
    intro s
    induction s with
    | nil => intro acc h; exact .inl h
    | cons q r ih =>
      intro acc h
      rw [List.foldl_cons] at h
      rcases ih _ h with h | ⟨a, ha, b, hb, e⟩
      · rcases keys_fold (fun b : Str × Int => q.1 ++ b.1) (fun b => q.2 * b.2) t acc h with h | ⟨b, hb, e⟩
        · exact .inl h
        · exact .inr ⟨q.1, List.mem_cons_self, b.1, List.mem_map.mpr ⟨b, hb, rfl⟩, e⟩
      · exact .inr ⟨a, List.mem_cons_of_mem _ ha, b, hb, e⟩
  rcases key s [] h with h | h
  · exact nomatch h
  · exact h
end
end Fp

/-! The order of words, the tuple of the words of a bag, and products as sums over partings. -/
namespace Fp
open PySem PySem.W

/-- what ahead_key tells -/
def keyD (w : Str) : PyData := .tuple [.int (-(w.length : Int)), .str w]
def leW : Str → Str → Bool := dataLe false keyD
theorem leW_eq (a b : Str) : leW a b = decide (b.length < a.length ∨ (a.length = b.length ∧ a.cps.toList ≤ b.cps.toList)) := by
  show (!dataLt (keyD b) (keyD a)) = _
  unfold keyD
  rw [dataLt_pair (by simp [alike]) (by simp [alike]), dataLt_int, dataLt_str]
  simp only [PyData.eqv, beq_iff_eq]
  by_cases h1 : (-(b.length : Int)) = -(a.length : Int)
  · rw [if_pos h1]
    have e : a.length = b.length := by omega
    by_cases h2 : b = a
    · subst h2
      simp
    · rw [if_neg h2, not_lt_str]
      have : ¬ b.length < a.length := by omega
      simp [e]
  · rw [if_neg h1]
    by_cases h3 : b.length < a.length
    · have : ¬ (-(b.length : Int)) < -(a.length : Int) := by omega
      simp [h3]
      omega
    · have : (-(b.length : Int)) < -(a.length : Int) := by omega
      simp [this, h3]
      omega
theorem leW_total : TotalLe leW := by
  unfold leW dataLe
  exact sortLe_total _ _ _
theorem str_ext {a b : Str} (h : a.cps.toList = b.cps.toList) : a = b := by
  have hc : a.cps = b.cps := Array.toList_inj.mp h
  cases a
  cases b
  cases hc
  rfl
theorem leW_anti {a b : Str} (h1 : leW a b = true) (h2 : leW b a = true) : a = b := by
  rw [leW_eq] at h1 h2
  have k1 := of_decide_eq_true h1
  have k2 := of_decide_eq_true h2
  have l1 : a.cps.toList ≤ b.cps.toList := by
    rcases k1 with k1 | k1
    · rcases k2 with k2 | k2 <;> omega
    · exact k1.2
  have l2 : b.cps.toList ≤ a.cps.toList := by
    rcases k2 with k2 | k2
    · rcases k1 with k1 | k1 <;> omega
    · exact k2.2
  exact str_ext (List.le_antisymm l1 l2)
/-- the words, each ahead of the next one -/
def ordW (ws : List Str) : List Str := ws.mergeSort leW
theorem ordW_perm (ws : List Str) : (ordW ws).Perm ws := List.mergeSort_perm _ _
theorem ordW_sorted (ws : List Str) : (ordW ws).Pairwise (fun a b => leW a b = true) := sort_pairwise leW_total ws
theorem ordW_congr {ws us : List Str} (h : ws.Perm us) : ordW ws = ordW us := by
  have hp : (ordW ws).Perm (ordW us) := ((ordW_perm ws).trans h).trans (ordW_perm us).symm
  exact List.Perm.eq_of_pairwise (le := fun a b => leW a b = true) (fun a b _ _ h1 h2 => leW_anti h1 h2) (ordW_sorted ws) (ordW_sorted us) hp
theorem ordW_len (ws : List Str) : (ordW ws).length = ws.length := (ordW_perm ws).length_eq
/-- the words of a bag with their numbers, in order -/
def wordsS (s : Bg) : Bg := (ordW (keys s)).map fun w => (w, cf s w)
theorem wordsS_len (s : Bg) : (wordsS s).length = s.length := by
  unfold wordsS
  rw [List.length_map, ordW_len]
  unfold keys
  rw [List.length_map]
/-- two bags with the same numbers have the same words -/
theorem keys_perm {p : Int} {s t : Bg} (gs : Good p s) (gt : Good p t) (h : ∀ w, cf s w = cf t w) : (keys s).Perm (keys t) := by
  refine (List.perm_ext_iff_of_nodup gs.nd gt.nd).mpr fun w => ?_
  rw [cf_ne gs, cf_ne gt, h w]
theorem wordsS_congr {p : Int} {s t : Bg} (gs : Good p s) (gt : Good p t) (h : ∀ w, cf s w = cf t w) : wordsS s = wordsS t := by
  unfold wordsS
  rw [ordW_congr (keys_perm gs gt h)]
  exact List.map_congr_left fun w _ => by rw [h w]
theorem wordsS_keys (s : Bg) : keys (wordsS s) = ordW (keys s) := by
  unfold wordsS keys
  rw [List.map_map]
  exact List.map_id' _
theorem wordsS_nodup {s : Bg} (h : (keys s).Nodup) : (keys (wordsS s)).Nodup := by
  rw [wordsS_keys]
  exact (ordW_perm _).nodup_iff.mpr h
theorem mem_wordsS {s : Bg} {w : Str} {n : Int} : (w, n) ∈ wordsS s ↔ w ∈ keys s ∧ n = cf s w := by
  unfold wordsS
  rw [List.mem_map]
  constructor
  · rintro ⟨u, hu, e⟩
    cases e
    exact ⟨(ordW_perm _).mem_iff.mp hu, rfl⟩
  · rintro ⟨h, rfl⟩
    exact ⟨w, (ordW_perm _).mem_iff.mpr h, rfl⟩
theorem cf_of_mem {s : Bg} {w : Str} {n : Int} (h : (keys s).Nodup) (m : (w, n) ∈ s) : cf s w = n := by
  unfold cf
  rw [getS_of_mem h m]
  rfl
theorem cf_not_mem {s : Bg} {w : Str} (h : w ∉ keys s) : cf s w = 0 := by
  unfold cf
  rw [getS_none.mpr h]
  rfl
theorem cf_wordsS {s : Bg} (h : (keys s).Nodup) (w : Str) : cf (wordsS s) w = cf s w := by
  by_cases hw : w ∈ keys s
  · exact cf_of_mem (wordsS_nodup h) (mem_wordsS.mpr ⟨hw, rfl⟩)
  · rw [cf_not_mem hw, cf_not_mem]
    rw [wordsS_keys]
    exact fun z => hw ((ordW_perm _).mem_iff.mp z)
theorem cf_congr_words {s t : Bg} (hs : (keys s).Nodup) (ht : (keys t).Nodup) (h : wordsS s = wordsS t) (w : Str) : cf s w = cf t w := by
  rw [← cf_wordsS hs, ← cf_wordsS ht, h]

/-! ### partings -/
/-- all ways to part a word in two -/
def parts : List Nat → List (List Nat × List Nat)
  | [] => [([], [])]
  | c :: v => ([], c :: v) :: (parts v).map fun q => (c :: q.1, q.2)
/-- F G at v -/
def conv (F G : List Nat → Int) (v : List Nat) : Int := sumL (parts v) fun q => F q.1 * G q.2
theorem conv_cons (F G : List Nat → Int) (c : Nat) (v : List Nat) : conv F G (c :: v) = F [] * G (c :: v) + conv (fun x => F (c :: x)) G v := by
  unfold conv
  rw [parts, sumL_cons, sumL_map]
theorem conv_nil (F G : List Nat → Int) : conv F G [] = F [] * G [] := by
  unfold conv
  rw [parts, sumL_cons, sumL_nil, Int.add_zero]
theorem conv_addl (F F' G : List Nat → Int) (v : List Nat) : conv (fun x => F x + F' x) G v = conv F G v + conv F' G v := by
  unfold conv
  rw [← sumL_add]
  exact sumL_congr fun q _ => Int.add_mul _ _ _
theorem conv_addr (F G G' : List Nat → Int) (v : List Nat) : conv F (fun x => G x + G' x) v = conv F G v + conv F G' v := by
  unfold conv
  rw [← sumL_add]
  exact sumL_congr fun q _ => Int.mul_add _ _ _
theorem conv_mull (c : Int) (F G : List Nat → Int) (v : List Nat) : conv (fun x => c * F x) G v = c * conv F G v := by
  unfold conv
  rw [← sumL_mul]
  exact sumL_congr fun q _ => Int.mul_assoc _ _ _
theorem conv_mulr (c : Int) (F G : List Nat → Int) (v : List Nat) : conv F (fun x => c * G x) v = c * conv F G v := by
  unfold conv
  rw [← sumL_mul]
  exact sumL_congr fun q _ => by rw [← Int.mul_assoc, Int.mul_comm (F q.1) c, Int.mul_assoc]
theorem conv_assoc (F G K : List Nat → Int) : ∀ v, conv (conv F G) K v = conv F (conv G K) v := by
  intro v
  induction v generalizing F with
  | nil => rw [conv_nil, conv_nil, conv_nil, conv_nil, Int.mul_assoc]
  | cons c v ih =>
    rw [conv_cons, conv_cons (F := F)]
    have e : (fun x => conv F G (c :: x)) = fun x => F [] * G (c :: x) + conv (fun y => F (c :: y)) G x := funext fun x => conv_cons F G c x
    rw [e, conv_addl, conv_mull, ih, conv_nil, conv_cons (F := G), Int.mul_add, Int.mul_assoc, Int.add_assoc]
theorem conv_congr {F F' G G' : List Nat → Int} (h1 : ∀ x, F x = F' x) (h2 : ∀ x, G x = G' x) (v : List Nat) : conv F G v = conv F' G' v := by
  rw [funext h1, funext h2]
theorem sumL_mod {α : Type} (p : Int) {l : List α} {f g : α → Int} (h : ∀ a ∈ l, f a % p = g a % p) : sumL l f % p = sumL l g % p := by
  induction l with
  | nil => rfl
  | cons a l ih =>
    rw [sumL_cons, sumL_cons, Int.add_emod, h a List.mem_cons_self, ih fun b hb => h b (List.mem_cons_of_mem _ hb), ← Int.add_emod]
theorem conv_mod {p : Int} {F F' G G' : List Nat → Int} (h1 : ∀ x, F x % p = F' x % p) (h2 : ∀ x, G x % p = G' x % p) (v : List Nat) : conv F G v % p = conv F' G' v % p := by
  refine sumL_mod p fun q _ => ?_
  rw [Int.mul_emod, h1, h2, ← Int.mul_emod]
def ofL (l : List Nat) : Str := ⟨l.toArray⟩
theorem ofL_toList (w : Str) : ofL w.cps.toList = w := by
  unfold ofL
  rw [Array.toArray_toList]
theorem toList_ofL (l : List Nat) : (ofL l).cps.toList = l := rfl
theorem ofL_inj {a b : List Nat} : ofL a = ofL b ↔ a = b := by
  constructor
  · intro h
    have := congrArg (fun w : Str => w.cps.toList) h
    exact this
  · rintro rfl
    rfl
theorem app_toList (a b : Str) : (a ++ b).cps.toList = a.cps.toList ++ b.cps.toList := by
  show (a.cps ++ b.cps).toList = _
  rw [Array.toList_append]
theorem ofL_app (a b : List Nat) : ofL (a ++ b) = ofL a ++ ofL b := str_ext (by rw [app_toList]; rfl)
theorem app_assoc (a b c : Str) : a ++ b ++ c = a ++ (b ++ c) := str_ext (by rw [app_toList, app_toList, app_toList, app_toList, List.append_assoc])
theorem app_empty (a : Str) : a ++ Str.empty = a := str_ext (by rw [app_toList]; exact List.append_nil _)
theorem empty_app (a : Str) : Str.empty ++ a = a := str_ext (by rw [app_toList]; rfl)
theorem len_app (a b : Str) : (a ++ b).length = a.length + b.length := by
  show (a.cps ++ b.cps).size = _
  rw [Array.size_append]
  rfl
/-- the number of a word told as a list -/
def cl (s : Bg) (l : List Nat) : Int := cf s (ofL l)
/-- one pair of words comes to v at just one parting -/
theorem parts_one (a b : List Nat) (x : Int) : ∀ v, sumL (parts v) (fun q => if a = q.1 ∧ b = q.2 then x else 0) = if a ++ b = v then x else 0 := by
  intro v
  induction v generalizing a with
  | nil =>
    rw [parts, sumL_cons, sumL_nil, Int.add_zero]
    cases a with
    | nil => simp
    | cons c r => simp
  | cons c v ih =>
    rw [parts, sumL_cons, sumL_map]
    cases a with
    | nil =>
      have z : sumL (parts v) (fun q => if ([] : List Nat) = c :: q.1 ∧ b = q.2 then x else 0) = 0 := sumL_zero fun q _ => by simp
      rw [z]
      simp
    | cons d r =>
      by_cases e : d = c
      · subst e
        have z : sumL (parts v) (fun q => if d :: r = d :: q.1 ∧ b = q.2 then x else 0) = sumL (parts v) fun q => if r = q.1 ∧ b = q.2 then x else 0 := sumL_congr fun q _ => by simp
        rw [z, ih]
        simp
      · have z : sumL (parts v) (fun q => if d :: r = c :: q.1 ∧ b = q.2 then x else 0) = 0 := sumL_zero fun q _ => by simp [e]
        rw [z]
        simp [e]
theorem cl_sum {s : Bg} (hn : (keys s).Nodup) (l : List Nat) : cl s l = sumL s fun kv => if kv.1.cps.toList = l then kv.2 else 0 := by
  unfold cl
  rw [← sum_ind hn]
  refine sumL_congr fun kv _ => ?_
  have : kv.1 = ofL l ↔ kv.1.cps.toList = l := by
    constructor
    · intro h; rw [h]; rfl
    · intro h; exact str_ext h
  simp only [this]
/-- products by partings -/
theorem cvS_conv {s t : Bg} (hs : (keys s).Nodup) (ht : (keys t).Nodup) (w : Str) : cvS s t w = conv (cl s) (cl t) w.cps.toList := by
  unfold conv cvS
  have e : ∀ q ∈ parts w.cps.toList, cl s q.1 * cl t q.2 = sumL s fun a => sumL t fun b => if a.1.cps.toList = q.1 ∧ b.1.cps.toList = q.2 then a.2 * b.2 else 0 := by
    intro q _
    rw [cl_sum hs, cl_sum ht, ← sumL_mulr]
    refine sumL_congr fun a _ => ?_
    rw [← sumL_mul]
    refine sumL_congr fun b _ => ?_
    by_cases h1 : a.1.cps.toList = q.1 <;> by_cases h2 : b.1.cps.toList = q.2 <;> simp [h1, h2]
  rw [sumL_congr e, sumL_swap (parts w.cps.toList) s]
  refine sumL_congr fun a _ => ?_
  rw [sumL_swap (parts w.cps.toList) t]
  refine sumL_congr fun b _ => ?_
  rw [parts_one]
  have : a.1 ++ b.1 = w ↔ a.1.cps.toList ++ b.1.cps.toList = w.cps.toList := by
    rw [← app_toList]
    constructor
    · intro h; rw [h]
    · intro h; exact str_ext h
  simp only [this]
theorem cl_prod {p : Int} (hp : 0 < p) {s t : Bg} (hs : (keys s).Nodup) (ht : (keys t).Nodup) (l : List Nat) : cl (prodS p s t) l = conv (cl s) (cl t) l % p := by
  unfold cl
  rw [cf_prod hp, cvS_conv hs ht]
  rfl
theorem cl_plus {p : Int} (hp : 0 < p) {s t : Bg} (hs : Good p s) (ht : (keys t).Nodup) (f : Int) (l : List Nat) : cl (plusS p s t f) l = (cl s l + f * cl t l) % p := cf_plus hp hs ht f _
theorem cl_mod {p : Int} (hp : 0 < p) {s : Bg} (hs : Good p s) (l : List Nat) : cl s l % p = cl s l := cf_mod hp hs _
theorem words_cl {p : Int} {s t : Bg} (gs : Good p s) (gt : Good p t) (h : ∀ l, cl s l = cl t l) : wordsS s = wordsS t :=
  wordsS_congr gs gt fun w => by
    have := h w.cps.toList
    unfold cl at this
    rw [ofL_toList] at this
    exact this
/-- put behind one another in either order of doing -/
theorem prod_assoc {p : Int} (hp : 0 < p) {s t u : Bg} (gs : Good p s) (gt : Good p t) (gu : Good p u) : wordsS (prodS p (prodS p s t) u) = wordsS (prodS p s (prodS p t u)) := by
  have g1 := Good.prod hp s t
  have g2 := Good.prod hp t u
  refine words_cl (Good.prod hp _ _) (Good.prod hp _ _) fun l => ?_
  rw [cl_prod hp g1.nd gu.nd, cl_prod hp gs.nd g2.nd]
  have e1 : conv (cl (prodS p s t)) (cl u) l % p = conv (conv (cl s) (cl t)) (cl u) l % p := conv_mod (fun x => by rw [cl_prod hp gs.nd gt.nd, Int.emod_emod]) (fun _ => rfl) l
  have e2 : conv (cl s) (cl (prodS p t u)) l % p = conv (cl s) (conv (cl t) (cl u)) l % p := conv_mod (fun _ => rfl) (fun x => by rw [cl_prod hp gt.nd gu.nd, Int.emod_emod]) l
  rw [e1, e2, conv_assoc]
end Fp

/-! Rules of our own over the hand layer: defs by name, steps of a reading. -/
namespace Fp
open PySem L2

/-! ### a def of the module, called by its name -/
structure DefOk (P : Program) (w : World) (K : PySem.W.Frag) (mg : Str → Option Value) (base : Heap) (CX : CXT) (k : Nat) (nm : Str) (ps : List Str) (sp : Sp) : Prop where
  ex : ∃ f fd, mg nm = some (.ref f) ∧ PySem.W.keepIn K (.ref f) = true ∧ Binds K fd ps [] ∧ FnOk P w K mg base CX k f fd ps sp
section
variable {X : Cx} {CX : CXT} {k : Nat} {ps : List Str} {sp : Sp} {E : XK} {x : Str} {p pos apos : Pos} {e o : Expr} {es : List Expr} {t : TA} {ta : TE}
theorem pe_callD (D : DefOk X.prog X.w X.K X.mg X.base CX k x ps sp) (hr : Room k X.A) (hg : Gl X x) (hx : Passes CX X E) (ha : PA X (e :: es) t)
    (hdb : (x == ("__debug__" : Str)) = false := by decide) (he : starEach (e :: es) X.env = (false, eval e X.env) :: starEach es X.env := by rfl) (hpl : (backTo pos (starEach es X.env)).any (·.1) = false := by rfl) :
    PE X (.Call (.Name x p) (e :: es) [] pos) (tCall sp [] E t) := by
  obtain ⟨f, fd, hm, hk, hb, F⟩ := D.ex
  exact pe_call F hr hg hm hk hb .nil hx ha hdb he hpl
theorem pe_callD0 (D : DefOk X.prog X.w X.K X.mg X.base CX k x ps sp) (hr : Room k X.A) (hg : Gl X x) (hx : Passes CX X E)
    (hdb : (x == ("__debug__" : Str)) = false := by decide) : PE X (.Call (.Name x p) [] [] pos) (tCall sp [] E tNil) := by
  obtain ⟨f, fd, hm, hk, hb, F⟩ := D.ex
  exact pe_call0 F hr hg hm hk hb .nil hx hdb
/-- C(..) -/
structure MkOk (P : Program) (w : World) (K : PySem.W.Frag) (mg : Str → Option Value) (base : Heap) (CX : CXT) (k : Nat) (nm : Str) (C : Addr) (ps : List Str) (sp : Sp) : Prop where
  ex : ∃ f fd, Mk K C f ∧ mg nm = some (.ref C) ∧ Binds K fd ps [] ∧ FnOk P w K mg base CX k f fd ps sp
theorem pe_mkD {C : Addr} (D : MkOk X.prog X.w X.K X.mg X.base CX k x C ps sp) (hr : Room (k + 1) X.A) (hg : Gl X x) (hx : Passes CX X E) (ha : PA X (e :: es) t)
    (hdb : (x == ("__debug__" : Str)) = false := by decide) (he : starEach (e :: es) X.env = (false, eval e X.env) :: starEach es X.env := by rfl) (hpl : (backTo pos (starEach es X.env)).any (·.1) = false := by rfl) :
    PE X (.Call (.Name x p) (e :: es) [] pos) (tMake C sp [] E t) := by
  obtain ⟨f, fd, M, hm, hb, F⟩ := D.ex
  exact pe_make M F hr hg hm hb .nil hx ha hdb he hpl
/-- o.m(..) -/
structure MtOk (P : Program) (w : World) (K : PySem.W.Frag) (mg : Str → Option Value) (base : Heap) (CX : CXT) (k : Nat) (C : Addr) (m : Str) (ps : List Str) (sp : Sp) : Prop where
  ex : ∃ f fd, Cls K C ∧ Meth K C m f ∧ Binds K fd ps [] ∧ FnOk P w K mg base CX k f fd ps sp
theorem pe_mtD {pl : Sem Bool} {C : Addr} {m : Str} (D : MtOk X.prog X.w X.K X.mg X.base CX k C m ps sp) (hr : Room k X.A) (hx : Passes CX X E) (he : PE X o ta) (ha : PA X (e :: es) t)
    (hst : starEach (e :: es) X.env = (false, eval e X.env) :: starEach es X.env := by rfl) (hpl : (backTo pos (starEach es X.env)).any (·.1) = false := by rfl)
    (ht : eval (.Call (.Attribute o m apos) (e :: es) [] pos) X.env = (do
      let ov ← eval o X.env
      standAt apos.atName
      let (f, first) ← holding [ov] (getMethod ov m pl)
      callWith pos f first (backTo pos (starEach (e :: es) X.env)) (backToKw pos (keywordEach [] X.env))) := by rfl) :
    PE X (.Call (.Attribute o m apos) (e :: es) [] pos) (tMeth C m sp [] E ta t) := by
  obtain ⟨f, fd, c, hm, hb, F⟩ := D.ex
  exact pe_meth he c hm F hr hb .nil hx ha hst hpl ht
/-- a callee that may raise, called where it does not -/
theorem passX0 {P : Program} {w : World} {X : Cx} : Passes (L2.CX P w) X E0 := fun _ _ _ _ _ _ _ h => by
  obtain ⟨_, _, _, _, _, _, _, _, _, _, _, _, q⟩ := h
  exact q.elim

/-! ### a loop over a dict that may be locked already -/
def tLockR (t : TS) : TS := fun D σ H => tLock t D σ H ∨ t D σ H
theorem ps_lockR {st : Stmt} {t : TS} (h : PS X st t) : PS X st (tLockR t) := ⟨fun pins s σ H D I q => q.elim ((ps_lock h).run pins s σ H D I) (h.run pins s σ H D I)⟩
def tLockRE (t : TE) : TE := fun σ H Q => tLockE t σ H Q ∨ t σ H Q
theorem pe_lockR {t : TE} (h : PE X e t) : PE X e (tLockRE t) := ⟨fun pins s σ H Q I q => q.elim ((pe_lock h).run pins s σ H Q I) (h.run pins s σ H Q I)⟩

/-! ### displays of dicts -/
end
/-- len of a list, a tuple, a text, a dict -/
def rLenA (K : PySem.W.Frag) : List V → Hp → VK → Prop := fun xs H Q => (∃ x n, xs = [x] ∧ LenV K x H n ∧ Q (.int n) H) ∨ (∃ a kvs, xs = [V.ref a] ∧ H a = some (.dK kvs) ∧ Q (.int kvs.length) H)
theorem call_lenA {X : Cx} : CallR X (.builtin "len") (rLenA X.K) := CallR.or call_len call_lenD

/-! ### what stands -/
def Ex (H H' : Hp) : Prop := ∀ a o, H a = some o → H' a = some o
theorem Ex.refl (H : Hp) : Ex H H := fun _ _ h => h
theorem Ex.trans {H H1 H2 : Hp} (a : Ex H H1) (b : Ex H1 H2) : Ex H H2 := fun x o h => b x o (a x o h)
theorem Ex.new {H : Hp} {p : Addr} {o : HO} (h : H p = none) : Ex H (upd H p o) := fun a u e => by
  rw [upd_ne (ne_of_none e h)]
  exact e
theorem Ex.free {H H' : Hp} (e : Ex H H') {p : Addr} (h : H' p = none) : H p = none := by
  cases q : H p with
  | none => rfl
  | some o => rw [e p o q] at h; cases h
/-- a new object may change -/
theorem Ex.mut {H H' : Hp} {p : Addr} {o : HO} (e : Ex H H') (h : H p = none) : Ex H (upd H' p o) := fun a u q => by
  rw [upd_ne (ne_of_none q h)]
  exact e a u q
theorem Ex.rd {H H' : Hp} {a : Addr} {u : HO} (e : Ex H H') (h : Rd H a u) : Rd H' a u := by
  rcases h with h | ⟨o, h⟩
  · exact .inl (e a _ h)
  · exact .inr ⟨o, e a _ h⟩
theorem Ex.sql {K : PySem.W.Frag} {H H' : Hp} {a : Addr} {xs : List V} (e : Ex H H') (h : SqL K H a xs) : SqL K H' a xs := h.elim (fun h => .inl (e.rd h)) .inr
theorem Ex.sqt {K : PySem.W.Frag} {H H' : Hp} {a : Addr} {xs : List V} (e : Ex H H') (h : SqT K H a xs) : SqT K H' a xs := h.elim (fun h => .inl (e.rd h)) .inr

/-! ### steps of a reading -/
/-- what a list comprehension over J asks -/
def LcG (J : It) (g : TG) (tt : TT) (te : TE) (vs : List Nat) (σ : St) (H1 : Hp) (Q : VK) : Prop := ∀ D, H1 D = none → ∃ W : Nat → Nat → Hp → Prop, (∃ m, W 0 m (upd H1 D (.lst []))) ∧ ∀ i m H, W i m H →
      (J.stop i H ∧ Q (.ref D) H) ∨ (J.go i H ∧ ∃ Nx : Hp → Prop, (∀ H', Nx H' → ∃ m', m' < m ∧ W (i + 1) m' H') ∧ ∀ x H', J.yld i H x H' → g x (wipe σ vs) H' fun σ2 H2 => wipe σ2 vs = wipe σ vs ∧ tt σ2 H2 fun b H3 =>
        if b = true then te σ2 H3 fun y H4 => ∃ acc, H4 D = some (.lst acc) ∧ acc.length < sizeLine ∧ Nx (upd H4 D (.lst (acc ++ [y]))) else Nx H3)
/-- what a loop over J asks -/
def ForG (J : It) (g : TG) (t : TS) (D : Ends) (σ : St) (H1 : Hp) : Prop := ∃ W : Nat → Nat → St → Hp → Prop, (∃ m, W 0 m σ H1) ∧ ∀ i m σ H, W i m σ H →
  (J.stop i H ∧ D.nx σ H) ∨ (J.go i H ∧ ∃ N : St → Hp → Prop, (∀ σ' H', N σ' H' → ∃ m', m' < m ∧ W (i + 1) m' σ' H') ∧ ∀ x H', J.yld i H x H' → g x σ H' fun σ2 H2 => t { D with nx := N, ct := N, bk := D.nx } σ2 H2)
section
variable {σ : St} {H H1 : Hp} {Q : VK} {D : Ends} {i : Nat} {v x y : V} {ta tb te tc : TE} {K : PySem.W.Frag} {tt tu : TT} {t u : TS} {QB : Bool → Hp → Prop}
theorem g_seq (h : t { D with nx := u D } σ H) : tSeq t u D σ H := h
theorem g_next (h : D.nx σ H) : tNext D σ H := h
theorem g_asg {g : TG} (h : te σ H fun x H1 => g x σ H1 D.nx) : tAsg te g D σ H := h
theorem g_name {QS : St → Hp → Prop} (h : QS (σ.set i (some v)) H) : gName i v σ H QS := h
theorem g_ret (h : te σ H D.rt) : tRet te D σ H := h
theorem g_retN (h : D.rt .non H) : tRetN D σ H := h
theorem g_drop (h : te σ H fun _ H1 => D.nx σ H1) : tDrop te D σ H := h
theorem g_ifs {c : TT} (h : c σ H fun b H1 => if b = true then t D σ H1 else u D σ H1) : tIfS c t u D σ H := h
theorem g_var (e : σ[i]? = some (some v)) (h : Q v H) : tVar i σ H Q := ⟨v, e, h⟩
theorem g_c (h : Q v H) : tC v σ H Q := h
theorem g_op {r : R2} (h : ta σ H fun x H1 => tb σ H1 fun y H2 => r x y H2 Q) : tOp r ta tb σ H Q := h
theorem g_un {r : V → Hp → VK → Prop} (h : ta σ H fun x H1 => r x H1 Q) : tUn r ta σ H Q := h
theorem g_I0 {g : Int → Int → V} {a b : Int} (h : Q (g a b) H) : rI0 g (.int a) (.int b) H Q := ⟨a, b, rfl, rfl, h⟩
theorem g_I {C : Int → Int → Prop} {g : Int → Int → V} {a b : Int} (c : C a b) (h : Q (g a b) H) : rI C g (.int a) (.int b) H Q := ⟨a, b, rfl, rfl, c, h⟩
theorem g_U {g : Int → V} {a : Int} (h : Q (g a) H) : rU g (.int a) H Q := ⟨a, rfl, h⟩
theorem g_eq (s : scal x y = true) (h : Q (.bl (decide (x = y))) H) : rEq x y H Q := ⟨s, h⟩
theorem g_ne (s : scal x y = true) (h : Q (.bl (!decide (x = y))) H) : rNe x y H Q := ⟨s, h⟩
theorem g_test (h : te σ H fun x H' => ∃ k, x = .bl k ∧ QB k H') : tTest te σ H QB := h
theorem g_tB (h : te σ H fun x H' => ∃ k, x = .bl k ∧ QB k H') : tB te σ H QB := h
theorem g_bl {b : Bool} {R : Bool → Prop} (h : R b) : ∃ k, (V.bl b) = .bl k ∧ R k := ⟨b, rfl, h⟩
theorem g_and (h : tt σ H fun c H1 => if c = true then tu σ H1 QB else QB false H1) : tAnd tt tu σ H QB := h
theorem g_or (h : tt σ H fun c H1 => if c = true then QB true H1 else tu σ H1 QB) : tOr tt tu σ H QB := h
theorem g_not (h : tt σ H fun c H1 => QB (!c) H1) : tNot tt σ H QB := h
theorem g_andV (h : ta σ H fun x H1 => ∃ c, x = .bl c ∧ if c = true then tb σ H1 Q else Q (.bl false) H1) : tAndV ta tb σ H Q := h
theorem g_orV (h : ta σ H fun x H1 => ∃ c, x = .bl c ∧ if c = true then Q (.bl true) H1 else tb σ H1 Q) : tOrV ta tb σ H Q := h
theorem g_notV (h : ta σ H fun x H1 => ∃ c, x = .bl c ∧ Q (.bl (!c)) H1) : tNotV ta σ H Q := h
theorem g_if (h : tt σ H fun c H1 => if c = true then ta σ H1 Q else tb σ H1 Q) : tIf tt ta tb σ H Q := h
theorem g_nil {QA : List V → Hp → Prop} (h : QA [] H) : tNil σ H QA := h
theorem g_cons {tr : TA} {QA : List V → Hp → Prop} (h : ta σ H fun x H1 => tr σ H1 fun xs H2 => QA (x :: xs) H2) : tCons ta tr σ H QA := h
theorem g_cb {r : List V → Hp → VK → Prop} {tA : TA} (h : tA σ H fun vs H1 => r vs H1 Q) : tCB r tA σ H Q := h
theorem g_call {sp : Sp} {E : XK} {tA : TA} (h : tA σ H fun vs H1 => sp (vs ++ []) H1 Q E) : tCall sp [] E tA σ H Q := h
theorem g_ite {b : Bool} {A B : Prop} (h1 : b = true → A) (h2 : b = false → B) : if b = true then A else B := by
  cases b with
  | true => rw [if_pos rfl]; exact h1 rfl
  | false => rw [if_neg Bool.false_ne_true]; exact h2 rfl
theorem g_ift {b : Bool} {A B : Prop} (hb : b = true) (h : A) : if b = true then A else B := by rw [if_pos hb]; exact h
theorem g_iff {b : Bool} {A B : Prop} (hb : b = false) (h : B) : if b = true then A else B := by rw [hb, if_neg Bool.false_ne_true]; exact h
theorem g_itT {A B : Prop} (h : A) : if true = true then A else B := by rw [if_pos rfl]; exact h
theorem g_itF {A B : Prop} (h : B) : if false = true then A else B := by rw [if_neg Bool.false_ne_true]; exact h
theorem g_lc {wi : TI} {g : TG} {te : TE} {vs : List Nat} (h : wi σ H fun J H1 => LcG J g tt te vs σ H1 Q) : tLc wi g tt te vs σ H Q := h
theorem g_yes (h : QB true H) : tYes σ H QB := h
theorem g_iStr {R : It → Hp → Prop} (h : te σ H fun v H1 => ∃ x, v = .str x ∧ R (Its x) H1) : iStr te σ H R := h
theorem g_exs {z : Str} {R : Str → Prop} (h : R z) : ∃ x, (V.str z) = .str x ∧ R x := ⟨z, rfl, h⟩
theorem g_lst {tA : TA} (h : tA σ H fun xs H1 => xs.length ≤ sizeLine ∧ ∀ p, H1 p = none → Q (.ref p) (upd H1 p (.lst xs))) : tLst tA σ H Q := h
theorem g_tup {tA : TA} (h : tA σ H fun xs H1 => xs.length ≤ sizeLine ∧ ∀ p, H1 p = none → Q (.ref p) (upd H1 p (.tup xs))) : tTup tA σ H Q := h
end
end Fp

/-! sorted by the key (-len(word), word). -/
namespace Fp
open PySem L2 PySem.W
section
variable {X : L2.Cx} {wn nm qual : Str} {st : PySem.Stmt} {f : Addr} {fd : FuncData} {pins : List (Addr × Obj)} {σ : St} {H : Hp} {s : Shared} {p1 p2 p3 p4 p5 p6 p7 : Pos} 
theorem ahead_call {kk : _} (F : Fun X.K nm qual st f fd) (S : FnScope [wn] [wn] (defScope st))
    (hbody : defBody st = [.Return (some (.Tuple [.UnaryOp .USub (.Call (.Name "len" p1) [.Name wn p2] [] p3) p4, .Name wn p5] kk p6)) p7])
    (hwn : (defScope st).names.lookup wn = some .local) (hlen : (defScope st).names.lookup ("len" : Str) = some .globalImplicit) (hwd : (wn == ("__debug__" : Str)) = false) (bn : Binds X.K fd [wn] []) (bl : X.mg "len" = none) (I : Inv X pins σ H s) {A' : Around} (hr : Room 1 A')
    (x : Str) (t : Tok) (hx : x.length ≤ sizeLine) (h : Heap) (tk : Nat) (keep : ∀ b o, s.heap.get? b = some o → h.get? b = some o) :
    wpAny (model X.prog X.w) A' (call (.ref f) [.str x t]) (KeyPure (keyD x) { s with heap := h, toks := tk }) (fun _ _ => False) { s with heap := h, toks := tk } := by
  obtain ⟨oc, od, kV, doc, pm, an, cdv, ct, osl, rfl, lk, hcd⟩ := F.ex
  have KX : X.K.In h := I.kIn.keeps keep
  have lim : h.NoLimit := I.nolimit.keeps keep
  have hb := bn { s with heap := h, toks := tk } [.str x t] KX rfl
  refine wpAny_call (codeAny_call_function hr.depth (KX _ _ lk) rfl S.co S.gen rfl (PySem.W.codeRec_of KX hcd) (hb _ _ _ _ ?_))
  have hkind : ∀ y ∈ [wn].zip ([Value.str x t] ++ []), (defScope st).names.lookup y.1 = some .local ∨ ((defScope st).names.lookup y.1 = some .cell ∧ ((cellsFrom (h.objs.size + 1) (defScope st).names []).lookup y.1).isSome = true) := fun y hy => by
    have e : y = (wn, Value.str x t) := by simpa using hy
    rw [e]
    exact .inl hwn
  refine wpAny_newFunctionEnv_cells S.kind hkind fun env he s1 xx => ?_
  obtain ⟨h1, tk1, rfl, hk1⟩ := xx.done
  have hns := xx.toInCall.ns
  refine ⟨lim.keeps hk1, codeAny_func ?_⟩
  have henv : env.scope = defScope st ∧ env.globals = mainGlobals ∧ env.builtins = builtinsNs := by rw [he]; exact ⟨rfl, rfl, rfl⟩
  obtain ⟨e1, e2, e3⟩ := henv
  have kw : env.kindOf wn = some .local := by unfold Env.kindOf; rw [e1]; exact hwn
  have kl : env.kindOf "len" = some .globalImplicit := by unfold Env.kindOf; rw [e1]; exact hlen
  have mw : bindL env.kindOf ([wn].zip ([Value.str x t] ++ [])) (fun _ => none) wn = some (.str x t) := by
    show bindL env.kindOf [(wn, Value.str x t)] (fun _ => none) wn = _
    unfold bindL
    simp [bindL, kw]
  have keep1 : ∀ b o, s.heap.get? b = some o → h1.get? b = some o := fun b o q => hk1 b o (keep b o q)
  obtain ⟨mb, b1, b2⟩ := I.mod.blt
  rw [hbody]
  refine wpAny_execs_cons (wpAny_Return_some (wpAny_Tuple_spliced ?_))
  refine Calls.spliced_cons (PyProof.Rows.UnaryOp_ (wpAny_Call_Name_kw (Calls.Name_function_global (by rw [e1]; exact S.kind) kl (Calls.loadGlobal_builtin (by rw [e2]; exact I.mod.glob.keeps fun b o q => keep1 b o (I.bk b o q)) bl
    (by rw [e3]; exact b1.keeps fun b o q => keep1 b o (I.bk b o q)) ((b2 ("len" : Str) (by decide)).trans PySem.boot_len) ?_))))
  refine PyProof.Rows.callWith_builtin1 (Calls.spliced_cons (wpAny_Name (wpAny_loadName_local (by rw [e1]; exact S.kind) kw hns mw (Calls.spliced_nil ?_)) hwd))
  have hn := L2.line63
  refine PyProof.Rows.len_str (by omega) (PyProof.Rows.neg_int ?_)
  refine Calls.spliced_cons (wpAny_Name (wpAny_loadName_local (by rw [e1]; exact S.kind) kw hns mw (Calls.spliced_nil ⟨by show 2 ≤ sizeLine; decide, ?_⟩)) hwd)
  refine ⟨_, _, rfl, fun b o q => Heap.get?_push_of_some _ (hk1 b o q), ?_⟩
  exact .tuple (o := { cls := .type "tuple", data := .seq #[.int (-(x.length : Int)) _, .str x t] }) (Heap.get?_push_size _ rfl) rfl rfl (.cons (.int _ _) (.cons (.str _ _) .nil))
end
end Fp

namespace Fp
open PySem L2 PySem.W
section
variable {X : L2.Cx} {wn nm qual : Str} {st : PySem.Stmt} {f : Addr} {fd : FuncData} {p1 p2 p3 p4 p5 p6 p7 : Pos}
theorem keyD_alike (b b' : Str) : alike (keyD b) (keyD b') = true := by simp [keyD, alike, alikeAll]
theorem keyD_depth (b : Str) : (keyD b).depth ≤ 1 := by simp [keyD, PyData.depth, PyData.depthAll]
theorem each_strs {ws : List Str} {its : List Value} (r : Vals (ws.map V.str) its) : EachIs (fun v x => ∃ t, v = Value.str x t) its ws := by
  induction ws generalizing its with
  | nil => cases r; exact .nil
  | cons w ws ih =>
    cases r with
    | cons r1 r2 => exact .cons r1 (ih r2)
theorem vals_each {ws : List Str} {its : List Value} (r : EachIs (fun v x => ∃ t, v = Value.str x t) its ws) : Vals (ws.map V.str) its := by
  induction r with
  | nil => exact .nil
  | cons h _ ih => exact .cons h ih
/-- what sorted(xs, key=f) asks, f telling (-len(word), word) -/
def rSortedKey (K : PySem.W.Frag) (f : Addr) : List V → List V → Hp → VK → Prop := fun vs zs H Q => ∃ (a : Addr) (ws : List Str), vs = [V.ref a] ∧ zs = [V.ref f] ∧ SqL K H a (ws.map V.str) ∧ (∀ w ∈ ws, w.length ≤ sizeLine) ∧
  ∀ p, H p = none → Q (.ref p) (upd H p (.lst ((ordW ws).map V.str)))
theorem cr_sortedKey {kk : _} (F : Fun X.K nm qual st f fd) (S : FnScope [wn] [wn] (defScope st))
    (hbody : defBody st = [.Return (some (.Tuple [.UnaryOp .USub (.Call (.Name "len" p1) [.Name wn p2] [] p3) p4, .Name wn p5] kk p6)) p7])
    (hwn : (defScope st).names.lookup wn = some .local) (hlen : (defScope st).names.lookup ("len" : Str) = some .globalImplicit) (hwd : (wn == ("__debug__" : Str)) = false) (bn : L2.Binds X.K fd [wn] []) (bl : X.mg "len" = none) (hr : Room 3 X.A) :
    CallRK X (.builtin "sorted") [Str.ofString "key"] (rSortedKey X.K f) := by
  intro pins s σ H vs zs us ws Q I r rz h
  obtain ⟨a, xs, rfl, rfl, hs, hx, q⟩ := h
  obtain rfl := Vals.ref1 r
  obtain ⟨w1, rfl, e1⟩ := vals1 rz
  obtain rfl : w1 = Value.ref f := e1
  obtain ⟨its, rv, hl, hz⟩ := I.list hs
  rw [List.length_map] at hz
  refine PySem.W.sorted_key_data (R := fun v x => ∃ t, v = Value.str x t) (bs := xs) (b := false) keyD hl.isList (each_strs rv) (AllAlike.of keyD_alike) (Sortable.tuples fun b => ⟨_, _, rfl⟩) hz (fun x _ => ?_) (PyProof.Rows.ksk_s1 _ _) (fun x => PyProof.Rows.ksk_l1 _ _) (fun x => PyProof.Rows.ksk_t1 f x) (fun v x hv hm h tk kk => ?_) (fun out c h' tk keep _ hget hlen ho => ?_)
  · have := hr.un
    have := keyD_depth x
    omega
  · obtain ⟨t, rfl⟩ := hv
    exact ahead_call F S hbody hwn hlen hwd bn bl I hr.in1.in1 x t (hx x hm) h tk kk
  · have hl2 : ((ordW xs).map V.str).length ≤ sizeLine := by rw [List.length_map, ordW_len]; exact hz
    exact ⟨.ref _, upd H (s.heap.objs.size + 1) (.lst ((ordW xs).map V.str)), I.laid (t' := tk) keep (Nat.le_succ _) ⟨hl2, out, c, vals_each ho, hget⟩, rfl, q _ (I.hok.fresh (Nat.le_succ _))⟩
/-- sorted of a list of pairs (-len(word), word) -/
def rSortedW (K : PySem.W.Frag) : List V → Hp → VK → Prop := fun vs H Q => ∃ (a : Addr) (bs : List (Addr × Str)), vs = [V.ref a] ∧ SqL K H a (bs.map fun b => V.ref b.1) ∧ (∀ b ∈ bs, SqT K H b.1 [.int (-(b.2.length : Int)), .str b.2]) ∧
  ∀ (bs' : List (Addr × Str)) p, bs'.map (·.2) = ordW (bs.map (·.2)) → (∀ b ∈ bs', b ∈ bs) → H p = none → Q (.ref p) (upd H p (.lst (bs'.map fun b => V.ref b.1)))
theorem each_refs {bs : List (Addr × Str)} {its : List Value} (r : Vals (bs.map fun b => V.ref b.1) its) : EachIs (fun v b => v = Value.ref b.1) its bs := by
  induction bs generalizing its with
  | nil => cases r; exact .nil
  | cons w ws ih =>
    cases r with
    | cons r1 r2 => exact .cons r1 (ih r2)
theorem refs_each {bs : List (Addr × Str)} {its : List Value} (r : EachIs (fun v b => v = Value.ref b.1) its bs) : Vals (bs.map fun b => V.ref b.1) its := by
  induction r with
  | nil => exact .nil
  | cons h _ ih => exact .cons h ih
theorem eachIs_imp {α : Type} {R R' : Value → α → Prop} {vs : List Value} {bs : List α} (r : EachIs R vs bs) (h : ∀ v b, b ∈ bs → R v b → R' v b) : EachIs R' vs bs := by
  induction r with
  | nil => exact .nil
  | cons h1 _ ih => exact .cons (h _ _ List.mem_cons_self h1) (ih fun v b hb => h v b (List.mem_cons_of_mem _ hb))
theorem cr_sortedW (hu : X.A.units + 64 < cLine) : CallR X (.builtin "sorted") (rSortedW X.K) := by
  intro pins s σ H vs us Q I r h
  obtain ⟨a, bs, rfl, hs, hx, q⟩ := h
  obtain rfl := Vals.ref1 r
  obtain ⟨its, rv, hl, hz⟩ := I.list hs
  rw [List.length_map] at hz
  have ep := each_refs rv
  have er : EachIs (fun v (b : Addr × Str) => ∃ as, Reads s.heap v (keyD b.2) as) its bs := eachIs_imp ep fun v b hb hv => by
    subst hv
    obtain ⟨us2, r2, ⟨o, ho, hc, n, hd⟩, _⟩ := I.tuple (hx b hb)
    obtain ⟨u1, u2, rfl, ⟨t1, rfl⟩, ⟨t2, rfl⟩⟩ := vals2 r2
    exact ⟨_, .tuple ho hc hd (.cons (.int _ _) (.cons (.str _ _) .nil))⟩
  refine PySem.W.sorted_data (R := fun v b => v = Value.ref b.1) (bs := bs) (enc := fun b => keyD b.2) hl.isList ep er (AllAlike.of fun b b' => keyD_alike b.2 b'.2) (Sortable.tuples fun b => ⟨_, _, rfl⟩) hz (fun b _ => ?_) (fun out hlen ho => ?_)
  · have := keyD_depth b.2
    omega
  · have e1 : (bs.mergeSort (dataLe false fun b => keyD b.2)).map (·.2) = ordW (bs.map (·.2)) := sort_maps (s := leW) (fun b : Addr × Str => b.2) fun _ _ _ _ => rfl
    have hl2 : ((bs.mergeSort (dataLe false fun b => keyD b.2)).map fun b => V.ref b.1).length ≤ sizeLine := by rw [List.length_map, (List.mergeSort_perm _ _).length_eq]; exact hz
    obtain ⟨ep2, he'⟩ := PyProof.Rows.sortedAll_at s.heap its (List.toArray out)
    exact ⟨.ref _, upd H (s.heap.objs.size + 1) (.lst ((bs.mergeSort (dataLe false fun b => keyD b.2)).map fun b => V.ref b.1)), I.laid (t' := s.toks) (fun _ _ => PyProof.Rows.sortedAll_old) (Nat.le_succ _) ⟨hl2, out, ep2, refs_each ho, he'⟩, rfl, q _ _ e1 (fun b hb => (List.mergeSort_perm _ _).mem_iff.mp hb) (I.hok.fresh (Nat.le_succ _))⟩
end
end Fp

/-! == and != of instances with the text's own __eq__, whatever stands on the right. -/
namespace Fp
open PySem PySem.W
section
variable {prog : Program} {w : World} {A : Around} {E : Value → Shared → Prop} {s : Shared} {K : Frag} {x C f : Addr} {ox : Obj} {od : Option Obj} {name : Str} {b tb : Value}
theorem ifBoundB {M : Model} {args : List Value} {id : String} {Q : Option Value → Shared → Prop} (X : K.In s.heap) (I : InstAt s.heap x ox C od) (hs : findIn K (.ref C) name = some (some (.builtin id)))
    (hb : ∀ self, bindSpecial (.builtin id) self = pure (.builtin id, [self]))
    (h : wpAny M A (call (.builtin id) (.ref x :: args)) (fun v => Q (some v)) E s) : wpAny M A (callSpecialIfBound? (.ref x) name args) Q E s := by
  simp only [callSpecialIfBound?, bindSpecialIfBound?]
  refine wpAny_holding (wpAny_bind (wpAny_bind (wpAny_bind (I.type.here ((looks_findIn X hs).here ?_)))))
  simp only [hb]
  refine wpAny_bind (wpAny_askSetting (wpAny_ite ?_))
  have fin : wpAny M A (call (.builtin id) ([.ref x] ++ args) >>= fun v => pure (some v)) Q E s := wpAny_bind (wpAny_mono h (fun v s' h' => wpAny_pure h') fun _ _ h' => h')
  split
  · exact wpAny_bind (wpAny_pure (wpAny_pure fin))
  · exact wpAny_tryCatch (wpAny_bind (wpAny_pure (wpAny_pure fin)))
theorem ne_body (hu : A.units < cLine) (X : K.In s.heap) (I : InstAt s.heap x ox C od) (hs : findIn K (.ref C) "__eq__" = some (some (.ref f))) (hf : isFn K (.ref f) = true) {Q : PySem.Fin → Shared → Prop}
    (hcall : wpAny (model prog w) A (call (.ref f) [.ref x, b]) (fun v s' => ∃ c, v = .bool c ∧ Q (.done (.ret (.bool (!c)))) s') E s) :
    wpAny (model prog w) A (Builtin.«object.__ne__» ⟨[.ref x, b], []⟩) Q E s := by
  obtain ⟨h, g, d, t, os⟩ := s
  unfold Builtin.«object.__ne__»
  repeat (first
    | with_reducible refine wpAny_cRoomFor hu ?_
    | (refine wpAny_bind (m := callSpecialIfBound? (.ref x) (Str.ofString "__eq__") [b])
        (ifBound_K X I hs hf (wpAny_mono hcall (fun r s' hr => by
          obtain ⟨c, rfl, hq⟩ := hr
          repeat (first | exact hq | exact wpAny_pure hq | exact wpAny_truthy_bool hq | (refine wpAny_bind (m := truthy (.bool _)) (wpAny_truthy_bool ?_)) | wp_step)) fun _ _ e => e)))
    | wp_step)
theorem try_eq (X : K.In s.heap) (I : InstAt s.heap x ox C od) (hs : findIn K (.ref C) "__eq__" = some (some (.ref f))) (hf : isFn K (.ref f) = true) {Q : Value → Shared → Prop}
    (hcall : wpAny (model prog w) A (call (.ref f) [.ref x, b]) (fun v s' => ∃ c, v = .bool c ∧ Q (.bool c) s') E s) :
    wpAny (model prog w) A (tryCompare (.ref x) "__eq__" b) (fun r s' => ∃ v, r = some v ∧ Q v s') E s := by
  unfold tryCompare
  refine wpAny_bind (ifBound_K X I hs hf (wpAny_mono hcall (fun v s' hv => ?_) fun _ _ e => e))
  obtain ⟨c, rfl, hq⟩ := hv
  exact wpAny_pure ⟨_, rfl, hq⟩
theorem try_ne (hu : A.units + 1 < cLine) (X : K.In s.heap) (I : InstAt s.heap x ox C od) (hs : findIn K (.ref C) "__eq__" = some (some (.ref f))) (hf : isFn K (.ref f) = true)
    (hn : findIn K (.ref C) "__ne__" = some (some (.builtin "object.__ne__"))) (hm : mroIn K C (.type "object") = some true) {Q : Value → Shared → Prop}
    (hcall : wpAny (model prog w) A.in1 (call (.ref f) [.ref x, b]) (fun v s' => ∃ c, v = .bool c ∧ Q (.bool (!c)) s') E s) :
    wpAny (model prog w) A (tryCompare (.ref x) "__ne__" b) (fun r s' => ∃ v, r = some v ∧ Q v s') E s := by
  unfold tryCompare
  have hinst : Looks (model prog w) s.heap (isInstance (.ref x) (.type "object")) true := I.type.andThen (looks_mroIn X hm)
  refine wpAny_bind (ifBoundB X I hn F.cmp_object.ne.bind (wpAny_call (codeAny_call_builtin F.cmp_object.ne.plain F.cmpEntry_ne
    (check_slot F.cmpKind_ne F.cmpSplit_ne hinst (F.cmpArgs_ne _ _) (ne_body (A := A.in1) hu X I hs hf (wpAny_mono hcall (fun v s' hv => ?_) fun _ _ e => e))))))
  obtain ⟨c, rfl, hq⟩ := hv
  first | exact ⟨c, rfl, wpAny_pure ⟨_, rfl, hq⟩⟩ | exact ⟨c, rfl, _, rfl, wpAny_pure ⟨_, rfl, hq⟩⟩
theorem rich_x {op : CmpOp} {L : Addr} {Q : Value → Shared → Prop} (hu : A.units < cLine) (X : K.In s.heap) (I : InstAt s.heap x ox C od) (hb : Looks (model prog w) s.heap (typeOf b) tb) (hn : notFirst K C tb = true)
    (one : wpAny (model prog w) A (tryCompare (.ref x) (cmpInfo op).2.1 b) (fun r s' => ∃ v, r = some v ∧ Q v s') E s) : wpAny (model prog w) A (richCompare op (.ref x) b) Q E s := by
  unfold richCompare
  simp only [oneThing_ref]
  refine wpAny_holding (wpAny_bind (wpAny_cRoomFor hu ?_))
  refine wpAny_bind (I.type.here (wpAny_bind (hb.here ?_)))
  split
  · rename_i q
    have e : subIn K tb (.ref C) = some false := by
      rcases Bool.or_eq_true_iff.mp hn with e | e
      · rw [beq_iff_eq.mp e] at q; simp at q
      · exact beq_iff_eq.mp e
    refine wpAny_bind ((looks_subIn X e).here ?_)
    simp only [Bool.false_eq_true, if_false]
    refine wpAny_bind (wpAny_mono one (fun r s' z => ?_) fun _ _ e => e)
    obtain ⟨v, rfl, hq⟩ := z
    exact wpAny_pure hq
  · refine wpAny_bind (wpAny_pure ?_)
    simp only [Bool.false_eq_true, if_false]
    refine wpAny_bind (wpAny_mono one (fun r s' z => ?_) fun _ _ e => e)
    obtain ⟨v, rfl, hq⟩ := z
    exact wpAny_pure hq
theorem rich_refl {op : CmpOp} {Dd : Addr} {Q : Value → Shared → Prop} (hu : A.units < cLine) (X : K.In s.heap) (I : InstAt s.heap x ox C od) (hb : Looks (model prog w) s.heap (typeOf b) (.ref Dd)) (hne : Dd ≠ C) (hs : subIn K (.ref Dd) (.ref C) = some true)
    (one : wpAny (model prog w) A (tryCompare b (cmpInfo op).2.2 (.ref x)) (fun r s' => ∃ v, r = some v ∧ Q v s') E s) : wpAny (model prog w) A (richCompare op (.ref x) b) Q E s := by
  unfold richCompare
  simp only [oneThing_ref]
  refine wpAny_holding (wpAny_bind (wpAny_cRoomFor hu ?_))
  refine wpAny_bind (I.type.here (wpAny_bind (hb.here ?_)))
  have q : (Value.ref C != Value.ref Dd) = true := by simp; exact fun z => hne z.symm
  rw [if_pos q]
  refine wpAny_bind ((looks_subIn X hs).here ?_)
  simp only [if_true]
  refine wpAny_bind (wpAny_mono one (fun r s' z => ?_) fun _ _ e => e)
  obtain ⟨v, rfl, hq⟩ := z
  repeat (first | exact hq | exact wpAny_pure hq | wp_step)
end
section
open L2
variable {X : L2.Cx} {n : Nat} {f : Addr} {fd : FuncData} {ps : List Str} {sp : L2.Sp} {CX : L2.CXT}
/-- the own def, called by the interpreter -/
theorem run_fnA {A : Around} {pins : List (Addr × Obj)} {σ : L2.St} {H : Hp} {s : Shared} {Q : VK} {us : List Value} {vs : List V} {E : XK} (sb : L2.Sub X n A) (Fo : L2.FnOk X.prog X.w X.K X.mg X.base CX n f fd ps sp) (hb : L2.Binds X.K fd ps []) (hx : L2.Passes CX X E)
    (I : Inv X pins σ H s) (r : Vals vs us) (h : sp vs H Q E) : wpAny (model X.prog X.w) A (call (.ref f) us) (EP X pins σ Q) X.xe s := by
  have hl := Fo.len _ _ _ _ h
  have e0 : Env0 X.prog X.w X.K X.mg X.base A X.stack s H := by
    have e := I.env0
    exact ⟨by rw [sb.fr]; exact e.frames, e.mod, e.bs, e.bsz, e.funs, e.frf, e.hok, e.bare⟩
  have hlu : us.length = ps.length := by rw [← r.length]; exact hl
  refine wpAny_call (codeAny_mono (Fo.run A X.stack s H ⟨us, []⟩ us vs Q E sb.room e0 (by
    have := hb s us I.kIn (by simpa using hlu)
    simpa using this) r h) fun r s' hq => ?_)
  cases r with
  | error e => exact hx pins σ H s e s' I hq
  | ok fl =>
    cases fl with
    | ret u => exact I.after hq
    | next => exact False.elim hq
    | brk => exact False.elim hq
    | cont => exact False.elim hq
/-- what the classes with the own == have -/
structure EqCls (K : Frag) (f : Addr) (Cs : Addr → Prop) : Prop where
  eq : ∀ C, Cs C → findIn K (.ref C) "__eq__" = some (some (.ref f))
  ne : ∀ C, Cs C → findIn K (.ref C) "__ne__" = some (some (.builtin "object.__ne__"))
  ob : ∀ C, Cs C → mroIn K C (.type "object") = some true
  fn : isFn K (.ref f) = true
/-- x == y (neg: !=), x an instance -/
def rBagEq (K : Frag) (sp : L2.Sp) (Cs : Addr → Prop) (neg : Bool) : R2 := fun x y H Q =>
  (∃ a C dx fs t, x = .ref a ∧ H a = some (.ins C dx fs) ∧ Cs C ∧ TyX K H y t ∧ notFirst K C t = true ∧ sp [x, y] H (fun v H' => ∃ c, v = .bl c ∧ Q (.bl (if neg = true then !c else c)) H') E0) ∨
  (∃ a b C D dx fs dy gs, x = .ref a ∧ y = .ref b ∧ H a = some (.ins C dx fs) ∧ H b = some (.ins D dy gs) ∧ Cs C ∧ Cs D ∧ D ≠ C ∧ subIn K (.ref D) (.ref C) = some true ∧
    sp [y, x] H (fun v H' => ∃ c, v = .bl c ∧ Q (.bl (if neg = true then !c else c)) H') E0)
theorem op_eqBag {Cs : Addr → Prop} (Fo : L2.FnOk X.prog X.w X.K X.mg X.base CX n f fd ps sp) (ec : EqCls X.K f Cs) (hb : L2.Binds X.K fd ps []) (hx : L2.Passes CX X E0) (hr : Room (n + 1) X.A) : OpR X (compareOp .Eq) (rBagEq X.K sp Cs false) := by
  intro pins s σ H x y v u Q I rx ry h
  show wpAny (model X.prog X.w) X.A (richCompare .Eq v u) (EP X pins σ Q) X.xe s
  have back : ∀ (x y : V) (a : Addr) (v u : Value), RelV x v → RelV y u → sp [x, y] H (fun v H' => ∃ c, v = .bl c ∧ Q (.bl (if false = true then !c else c)) H') E0 →
      wpAny (model X.prog X.w) X.A (call (.ref f) [v, u]) (fun v s' => ∃ c, v = .bool c ∧ EP X pins σ Q (.bool c) s') X.xe s := fun x y a v u rx ry h =>
    wpAny_mono (run_fnA (A := X.A) ⟨hr.mono (Nat.le_succ _), rfl⟩ Fo hb hx I (.cons rx (.cons ry .nil)) h) (fun v s' ⟨z, H', I', rz, c, ez, q⟩ => by
      subst ez
      cases rz
      rw [if_neg Bool.false_ne_true] at q
      exact ⟨c, rfl, .bl _, H', I', rfl, q⟩) fun _ _ e => e
  rcases h with ⟨a, C, dx, fs, t, rfl, ha, hc, ty, hn, h⟩ | ⟨a, b, C, D, dx, fs, dy, gs, rfl, rfl, ha, hb', hc, hd, hne, hsub, h⟩
  · cases rx
    obtain ⟨mA, J, _⟩ := ins_get I.hok ha
    obtain ⟨od, J, _⟩ := J.look
    obtain ⟨P, Z, p, _⟩ := kit_of I ry ty
    exact rich_x (L := a) hr.units0 I.kIn J (Z.ty _ _ I.kIn p) hn (try_eq I.kIn J (ec.eq C hc) ec.fn (back (.ref a) y a _ _ rfl ry h))
  · cases rx
    cases ry
    obtain ⟨mA, J, _⟩ := ins_get I.hok ha
    obtain ⟨od, J, _⟩ := J.look
    obtain ⟨mB, J', _⟩ := ins_get I.hok hb'
    obtain ⟨od', J', _⟩ := J'.look
    exact rich_refl hr.units0 I.kIn J J'.type hne hsub (try_eq I.kIn J' (ec.eq D hd) ec.fn (back (.ref b) (.ref a) a _ _ rfl rfl h))
theorem op_neBag {Cs : Addr → Prop} (Fo : L2.FnOk X.prog X.w X.K X.mg X.base CX n f fd ps sp) (ec : EqCls X.K f Cs) (hb : L2.Binds X.K fd ps []) (hx : L2.Passes CX X E0) (hr : Room (n + 1) X.A) : OpR X (compareOp .NotEq) (rBagEq X.K sp Cs true) := by
  intro pins s σ H x y v u Q I rx ry h
  show wpAny (model X.prog X.w) X.A (richCompare .NotEq v u) (EP X pins σ Q) X.xe s
  have back : ∀ (x y : V) (a : Addr) (v u : Value), RelV x v → RelV y u → sp [x, y] H (fun v H' => ∃ c, v = .bl c ∧ Q (.bl (if true = true then !c else c)) H') E0 →
      wpAny (model X.prog X.w) X.A.in1 (call (.ref f) [v, u]) (fun v s' => ∃ c, v = .bool c ∧ EP X pins σ Q (.bool (!c)) s') X.xe s := fun x y a v u rx ry h =>
    wpAny_mono (run_fnA (A := X.A.in1) ⟨hr.in1, rfl⟩ Fo hb hx I (.cons rx (.cons ry .nil)) h) (fun v s' ⟨z, H', I', rz, c, ez, q⟩ => by
      subst ez
      cases rz
      rw [if_pos rfl] at q
      exact ⟨c, rfl, .bl _, H', I', rfl, q⟩) fun _ _ e => e
  have hu1 : X.A.units + 1 < cLine := hu_of hr
  rcases h with ⟨a, C, dx, fs, t, rfl, ha, hc, ty, hn, h⟩ | ⟨a, b, C, D, dx, fs, dy, gs, rfl, rfl, ha, hb', hc, hd, hne, hsub, h⟩
  · cases rx
    obtain ⟨mA, J, _⟩ := ins_get I.hok ha
    obtain ⟨od, J, _⟩ := J.look
    obtain ⟨P, Z, p, _⟩ := kit_of I ry ty
    exact rich_x (L := a) hr.units0 I.kIn J (Z.ty _ _ I.kIn p) hn (try_ne hu1 I.kIn J (ec.eq C hc) ec.fn (ec.ne C hc) (ec.ob C hc) (back (.ref a) y a _ _ rfl ry h))
  · cases rx
    cases ry
    obtain ⟨mA, J, _⟩ := ins_get I.hok ha
    obtain ⟨od, J, _⟩ := J.look
    obtain ⟨mB, J', _⟩ := ins_get I.hok hb'
    obtain ⟨od', J', _⟩ := J'.look
    exact rich_refl hr.units0 I.kIn J J'.type hne hsub (try_ne hu1 I.kIn J' (ec.eq D hd) ec.fn (ec.ne D hd) (ec.ob D hd) (back (.ref b) (.ref a) a _ _ rfl rfl h))
end
end Fp

/-! How bags stand in the heap. -/
namespace Fp
open PySem L2

/-! ### == of data, whatever its texts -/
def rEqP (K : PySem.W.Frag) (neg : Bool) : R2 := fun x y H Q => ∃ d e, Dp K H x d ∧ Dp K H y e ∧ d.plain = true ∧ e.plain = true ∧ d.depth ≤ 60 ∧ Q (.bl (if neg = true then !PyData.eqv d e else PyData.eqv d e)) H
theorem op_eqP {X : Cx} (hu : X.A.units + 64 < cLine) : OpR X (compareOp .Eq) (rEqP X.K false) := by
  intro pins s σ H x y v u Q I rx ry h
  obtain ⟨d, e, hd, he, sd, se, hz, q⟩ := h
  obtain ⟨as, r1⟩ := Dp.reads I d x v hd rx
  obtain ⟨bs, r2⟩ := Dp.reads I e y u he ry
  rw [if_neg Bool.false_ne_true] at q
  exact SeqAt.eq_plain r1 r2 sd se (by omega) ⟨.bl _, H, I, rfl, q⟩
theorem op_neP {X : Cx} (hu : X.A.units + 64 < cLine) : OpR X (compareOp .NotEq) (rEqP X.K true) := by
  intro pins s σ H x y v u Q I rx ry h
  obtain ⟨d, e, hd, he, sd, se, hz, q⟩ := h
  obtain ⟨as, r1⟩ := Dp.reads I d x v hd rx
  obtain ⟨bs, r2⟩ := Dp.reads I e y u he ry
  rw [if_pos rfl] at q
  exact SeqAt.ne_plain r1 r2 sd se (by omega) ⟨.bl _, H, I, rfl, q⟩

/-! ### dicts of words -/
def toK (s : Bg) : List (Key × V) := s.map fun kv => ((Sum.inr kv.1 : Key), V.int kv.2)
theorem toK_nil : toK [] = [] := rfl
theorem toK_cons (q : Str × Int) (s : Bg) : toK (q :: s) = ((Sum.inr q.1 : Key), V.int q.2) :: toK s := rfl
theorem toK_len (s : Bg) : (toK s).length = s.length := by unfold toK; rw [List.length_map]
theorem valV_toK (w : Str) : ∀ s : Bg, valV (toK s) (Sum.inr w : Key) = (getS s w).map V.int
  | [] => rfl
  | q :: r => by
    rw [toK_cons]
    by_cases e : q.1 = w
    · rw [getS_pos e, valV_pos (p := ((Sum.inr q.1 : Key), V.int q.2)) (by rw [e])]
      rfl
    · rw [getS_neg e, valV_neg (p := ((Sum.inr q.1 : Key), V.int q.2)) (fun z => e (Sum.inr.inj z))]
      exact valV_toK w r
theorem getD_toK (s : Bg) (w : Str) : (valV (toK s) (Sum.inr w : Key)).getD (.int 0) = .int (cf s w) := by
  rw [valV_toK]
  unfold cf
  cases getS s w <;> rfl
theorem putK_toK (s : Bg) (w : Str) (n : Int) : putK (toK s) (Sum.inr w : Key) (.int n) = toK (putS s w n) := by
  unfold putK putS
  have e1 : ((toK s).any fun kv => decide (kv.1 = (Sum.inr w : Key))) = s.any fun kv => decide (kv.1 = w) := by
    unfold toK
    rw [List.any_map]
    congr 1
    funext kv
    simp
  rw [e1]
  split
  · unfold toK
    rw [List.map_map, List.map_map]
    refine List.map_congr_left fun kv _ => ?_
    simp only [Function.comp]
    by_cases h : kv.1 = w
    · simp [h]
    · simp [h]
  · unfold toK
    rw [List.map_append]
    rfl
theorem dropK_toK (s : Bg) (w : Str) : dropK (toK s) (Sum.inr w : Key) = toK (dropS s w) := by
  unfold dropK dropS toK
  rw [List.filter_map]
  congr 1
  refine List.filter_congr fun kv _ => ?_
  simp
theorem toK_keys (s : Bg) : (toK s).map (fun kv => kV kv.1) = (keys s).map V.str := by
  unfold toK keys
  rw [List.map_map, List.map_map]
  rfl
theorem toK_get {s : Bg} {i : Nat} {kv : Key × V} (h : (toK s)[i]? = some kv) : ∃ w n, s[i]? = some (w, n) ∧ kv = (Sum.inr w, .int n) := by
  unfold toK at h
  rw [List.getElem?_map] at h
  cases e : s[i]? with
  | none => rw [e] at h; cases h
  | some q => rw [e] at h; exact ⟨q.1, q.2, rfl, (Option.some.inj h).symm⟩
theorem toK_inj {s t : Bg} (h : toK s = toK t) : s = t := by
  unfold toK at h
  exact List.map_inj_right (f := fun kv : Str × Int => ((Sum.inr kv.1 : Key), V.int kv.2)) (fun a b e => by
    obtain ⟨a1, a2⟩ := a
    obtain ⟨b1, b2⟩ := b
    simp at e
    rw [e.1, e.2]) |>.mp h

/-! ### the tuple of pairs -/
structure WordsAt (H : Hp) (t : Addr) (l : Bg) : Prop where
  ex : ∃ (qs : List Addr) (o : Obj), H t = some (.frz o (.tup (qs.map V.ref))) ∧ o.dict = none ∧ Paired (fun q kv => H q = some (.tup [.str kv.1, .int kv.2])) qs l
theorem WordsAt.ex' {H H' : Hp} {t : Addr} {l : Bg} (e : Ex H H') (h : WordsAt H t l) : WordsAt H' t l := by
  obtain ⟨qs, o, h1, hd, h2⟩ := h.ex
  exact ⟨qs, o, e _ _ h1, hd, Paired.mapP h2 fun _ _ z => e _ _ z⟩
def pairD (kv : Str × Int) : PyData := .tuple [.str kv.1, .int kv.2]
def wordsD (l : Bg) : PyData := .tuple (l.map pairD)
theorem dpAll_words {K : PySem.W.Frag} {H : Hp} {qs : List Addr} {l : Bg} (h : Paired (fun q kv => H q = some (.tup [.str kv.1, .int kv.2])) qs l) : DpAll K H (qs.map V.ref) (l.map pairD) := by
  induction h with
  | nil => exact .nil
  | cons h1 _ ih => exact .cons (.tup (SqT.of h1) (.cons (.str _) (.cons (.int _) .nil))) ih
theorem WordsAt.dp {K : PySem.W.Frag} {H : Hp} {t : Addr} {l : Bg} (h : WordsAt H t l) : Dp K H (.ref t) (wordsD l) := by
  obtain ⟨qs, o, h1, _, h2⟩ := h.ex
  exact .tup (.inl (.inr ⟨o, h1⟩)) (dpAll_words h2)
theorem plainAll_words (l : Bg) : PyData.plainAll (l.map pairD) = true := by
  induction l with
  | nil => rfl
  | cons q r ih => rw [List.map_cons, PyData.plainAll, ih]; simp [pairD, PyData.plain, PyData.plainAll]
theorem plain_words (l : Bg) : (wordsD l).plain = true := by
  show PyData.plainAll (l.map pairD) = true
  exact plainAll_words l
theorem depthAll_words (l : Bg) : PyData.depthAll (l.map pairD) ≤ 1 := by
  induction l with
  | nil => simp [PyData.depthAll]
  | cons q r ih =>
    rw [List.map_cons, PyData.depthAll]
    have : (pairD q).depth = 1 := by simp [pairD, PyData.depth, PyData.depthAll]
    omega
theorem depth_words (l : Bg) : (wordsD l).depth ≤ 60 := by
  have := depthAll_words l
  simp only [wordsD, PyData.depth]
  omega
theorem eqv_pair (a b : Str × Int) : PyData.eqv (pairD a) (pairD b) = decide (a = b) := by
  obtain ⟨a1, a2⟩ := a
  obtain ⟨b1, b2⟩ := b
  simp only [pairD, PyData.eqv, PyData.eqvAll, Bool.and_true]
  rw [Bool.eq_iff_iff]
  simp
theorem eqvAll_words : ∀ l m : Bg, PyData.eqvAll (l.map pairD) (m.map pairD) = decide (l = m)
  | [], [] => by simp [PyData.eqvAll]
  | [], b :: m => by simp [PyData.eqvAll]
  | a :: l, [] => by simp [PyData.eqvAll]
  | a :: l, b :: m => by
    rw [List.map_cons, List.map_cons, PyData.eqvAll, eqv_pair, eqvAll_words l m]
    rw [Bool.eq_iff_iff]
    simp
theorem eqv_words (l m : Bg) : PyData.eqv (wordsD l) (wordsD m) = decide (l = m) := by
  show PyData.eqvAll (l.map pairD) (m.map pairD) = _
  exact eqvAll_words l m

/-! ### bags -/
theorem k_sc : ¬ (("clock" : Str) = "sparse") := by decide +kernel
theorem k_kc : ¬ (("clock" : Str) = "kept") := by decide +kernel
theorem k_wc : ¬ (("clock" : Str) = "words") := by decide +kernel
theorem k_ks : ¬ (("sparse" : Str) = "kept") := by decide +kernel
theorem k_ws : ¬ (("sparse" : Str) = "words") := by decide +kernel
theorem k_wk : ¬ (("kept" : Str) = "words") := by decide +kernel
def bagF (p : Int) (d k t : Addr) : List (Str × V) := [("clock", .int p), ("sparse", .ref d), ("kept", .ref k), ("words", .ref t)]
theorem bagF_made (p : Int) (d k t : Addr) : putF "words" (.ref t) (putF "kept" (.ref k) (putF "sparse" (.ref d) (putF "clock" (.int p) []))) = bagF p d k t := by
  unfold bagF
  have e1 : putF ("clock" : Str) (V.int p) [] = [(("clock" : Str), V.int p)] := rfl
  have e2 : putF ("sparse" : Str) (V.ref d) [(("clock" : Str), V.int p)] = [(("clock" : Str), V.int p), ("sparse", .ref d)] := by
    show (if ("clock" : Str) = "sparse" then _ else (("clock" : Str), V.int p) :: putF "sparse" (V.ref d) []) = _
    rw [if_neg k_sc]; rfl
  have e3 : putF ("kept" : Str) (V.ref k) [(("clock" : Str), V.int p), ("sparse", .ref d)] = [(("clock" : Str), V.int p), ("sparse", .ref d), ("kept", .ref k)] := by
    show (if ("clock" : Str) = "kept" then _ else (("clock" : Str), V.int p) :: (if ("sparse" : Str) = "kept" then _ else (("sparse" : Str), V.ref d) :: putF "kept" (V.ref k) [])) = _
    rw [if_neg k_kc, if_neg k_ks]; rfl
  rw [e1, e2, e3]
  show (if ("clock" : Str) = "words" then _ else (("clock" : Str), V.int p) :: (if ("sparse" : Str) = "words" then _ else (("sparse" : Str), V.ref d) :: (if ("kept" : Str) = "words" then _ else (("kept" : Str), V.ref k) :: putF "words" (V.ref t) []))) = _
  rw [if_neg k_wc, if_neg k_ws, if_neg k_wk]; rfl
theorem lk_cons {f g : Str} {v : V} {r : List (Str × V)} (h : ¬ f = g) : ((g, v) :: r).lookup f = r.lookup f := by
  rw [List.lookup_cons]
  have : (f == g) = false := by simp [h]
  rw [this]
theorem lk_pos {f : Str} {v : V} {r : List (Str × V)} : ((f, v) :: r).lookup f = some v := by
  rw [List.lookup_cons]
  simp
theorem bagF_clock (p : Int) (d k t : Addr) : (bagF p d k t).lookup ("clock" : Str) = some (.int p) := lk_pos
theorem bagF_sparse (p : Int) (d k t : Addr) : (bagF p d k t).lookup ("sparse" : Str) = some (.ref d) := by
  unfold bagF
  rw [lk_cons (fun z => k_sc z.symm), lk_pos]
theorem bagF_kept (p : Int) (d k t : Addr) : (bagF p d k t).lookup ("kept" : Str) = some (.ref k) := by
  unfold bagF
  rw [lk_cons (fun z => k_kc z.symm), lk_cons (fun z => k_ks z.symm), lk_pos]
theorem bagF_words (p : Int) (d k t : Addr) : (bagF p d k t).lookup ("words" : Str) = some (.ref t) := by
  unfold bagF
  rw [lk_cons (fun z => k_wc z.symm), lk_cons (fun z => k_ws z.symm), lk_cons (fun z => k_wk z.symm), lk_pos]
/-- a bag by the clock p with the words s stands at a; Cs: the classes of bags -/
structure BagAt (Cs : Addr → Prop) (H : Hp) (a : Addr) (p : Int) (s : Bg) : Prop where
  ex : ∃ C dx d k t, Cs C ∧ H a = some (.ins C dx (bagF p d k t)) ∧ H d = some (.dK (toK s)) ∧ WordsAt H t (wordsS s)
theorem BagAt.ex' {Cs : Addr → Prop} {H H' : Hp} {a : Addr} {p : Int} {s : Bg} (e : Ex H H') (h : BagAt Cs H a p s) : BagAt Cs H' a p s := by
  obtain ⟨C, dx, d, k, t, h0, h1, h2, h3⟩ := h.ex
  exact ⟨C, dx, d, k, t, h0, e _ _ h1, e _ _ h2, h3.ex' e⟩
end Fp

/-! Loops and comprehensions in short. -/
namespace Fp
open PySem L2

/-! ### what stands but one object -/
def ExB (f : Addr) (H H' : Hp) : Prop := ∀ a o, a ≠ f → H a = some o → H' a = some o
theorem ExB.refl (f : Addr) (H : Hp) : ExB f H H := fun _ _ _ h => h
theorem ExB.trans {f : Addr} {H H1 H2 : Hp} (a : ExB f H H1) (b : ExB f H1 H2) : ExB f H H2 := fun x o n h => b x o n (a x o n h)
theorem Ex.exb {f : Addr} {H H' : Hp} (e : Ex H H') : ExB f H H' := fun a o _ h => e a o h
theorem ExB.ex {f : Addr} {H0 H H' : Hp} (e : Ex H0 H) (b : ExB f H H') (h : H0 f = none) : Ex H0 H' := fun a o q => b a o (ne_of_none q h) (e a o q)
theorem ExB.ex0 {f : Addr} {H H' : Hp} (b : ExB f H H') (h : H f = none) : Ex H H' := fun a o q => b a o (ne_of_none q h) q
theorem ExB.upd {f : Addr} {H H' : Hp} {o : HO} (b : ExB f H H') : ExB f H (upd H' f o) := fun a u n q => by rw [upd_ne n]; exact b a u n q
theorem ExB.new {f : Addr} {H H' : Hp} {p : Addr} {o : HO} (b : ExB f H H') (h : H' p = none) : ExB f H (L2.upd H' p o) := fun a u n q => by
  have := b a u n q
  rw [upd_ne (ne_of_none this h)]
  exact this
theorem ExB.rd {f : Addr} {H H' : Hp} {a : Addr} {u : HO} (e : ExB f H H') (n : a ≠ f) (h : Rd H a u) : Rd H' a u := by
  rcases h with h | ⟨o, h⟩
  · exact .inl (e a _ n h)
  · exact .inr ⟨o, e a _ n h⟩
theorem ExB.sql {K : PySem.W.Frag} {f : Addr} {H H' : Hp} {a : Addr} {xs : List V} (e : ExB f H H') (n : a ≠ f) (h : SqL K H a xs) : SqL K H' a xs := h.elim (fun h => .inl (e.rd n h)) .inr
theorem rd_ne {H : Hp} {a b : Addr} {u o : HO} (h : Rd H a u) (hb : H b = some o) (h1 : u ≠ o) (h2 : ∀ x, o ≠ .frz x u) : a ≠ b := by
  rintro rfl
  rcases h with h | ⟨x, h⟩
  · rw [h] at hb; exact h1 (Option.some.inj hb)
  · rw [h] at hb; exact h2 x (Option.some.inj hb).symm

/-! ### a comprehension that only makes objects -/
section
variable {J : It} {n : Nat} {G : Hp → Prop} {Y : Nat → Hp → V → Hp → Prop}
theorem lc_pure (w : Walk J n G Y) {j : Nat} {te : TE} {vs : List Nat} {σ : St} {H1 : Hp} {Q : VK} (ys : List V) (hl : ys.length = n) (hn : n ≤ sizeLine) (hG : ∀ H, Ex H1 H → G H)
    (hw : ∀ x, wipe ((wipe σ vs).set j x) vs = wipe σ vs)
    (hs : ∀ i x y H H' (K : VK), i < n → Ex H1 H → Y i H x H' → ys[i]? = some y → (∀ H4, Ex H H4 → K y H4) → te ((wipe σ vs).set j (some x)) H' K)
    (hd : ∀ D H', H1 D = none → Ex H1 H' → H' D = some (.lst ys) → Q (.ref D) H') :
    LcG J (gName j) tYes te vs σ H1 Q := by
  intro D hD
  refine lc_it w (fun i H => Ex H1 H ∧ H D = some (.lst (ys.take i))) ⟨Ex.new hD, upd_same⟩ (fun i H _ p => hG H p.1) ?_ (fun H p => ?_)
  · rintro i x H H' hi ⟨e, hacc⟩ hy
    have hi' : i < ys.length := by omega
    obtain ⟨y, hyi⟩ : ∃ y, ys[i]? = some y := ⟨ys[i], by simp [hi']⟩
    refine ⟨hw _, ?_⟩
    unfold tYes
    dsimp only
    rw [if_pos rfl]
    refine hs i x y H H' _ hi e hy hyi fun H4 e4 => ⟨ys.take i, e4 _ _ hacc, by rw [List.length_take]; omega, ?_, ?_⟩
    · exact Ex.mut (e.trans e4) hD
    · rw [upd_same, List.take_add_one, hyi]
      rfl
  · obtain ⟨e, h⟩ := p
    rw [← hl, List.take_length] at h
    exact hd D H hD e h
end

/-! ### a loop over a dict -/
/-- while the dict at d is walked, f's object turns -/
structure LoopEx (d f : Addr) (s : Bg) (H H' : Hp) : Prop where
  keep : ∀ a o, a ≠ f → a ≠ d → H a = some o → H' a = some o
  self : Rd H' d (.dK (toK s))
theorem LoopEx.rd {d f : Addr} {s : Bg} {H H' : Hp} (l : LoopEx d f s H H') (hd : Rd H d (.dK (toK s))) {b : Addr} {t : Bg} (h : Rd H b (.dK (toK t))) (n : b ≠ f) : Rd H' b (.dK (toK t)) := by
  by_cases e : b = d
  · subst e
    have : toK t = toK s := by
      rcases h with h | ⟨o, h⟩ <;> rcases hd with hd | ⟨o', hd⟩
      · exact HO.dK.inj (Option.some.inj (h.symm.trans hd))
      · exact absurd (Option.some.inj (h.symm.trans hd)) (by simp)
      · exact absurd (Option.some.inj (h.symm.trans hd)) (by simp)
      · have := Option.some.inj (h.symm.trans hd)
        injection this with _ e2
        exact HO.dK.inj e2
    rw [this]
    exact l.self
  · rcases h with h | ⟨o, h⟩
    · exact .inl (l.keep b _ n e h)
    · exact .inr ⟨o, l.keep b _ n e h⟩
theorem LoopEx.exb {d f : Addr} {s : Bg} {H H' H'' : Hp} (l : LoopEx d f s H H') (n : d ≠ f) (b : ExB f H' H'') : LoopEx d f s H H'' := ⟨fun a o h1 h2 q => b a o h1 (l.keep a o h1 h2 q), b.rd n l.self⟩
theorem for_keys {σ : St} {H : Hp} {D : Ends} {d f : Addr} {s : Bg} {o0 : HO} {te : TE} {j : Nat} {tb : TS} (hd : Rd H d (.dK (toK s))) (hf : H f = some o0) (hne : d ≠ f)
    (he : ∀ (H' : Hp) (Q : VK), LoopEx d f s H H' → Q (.ref d) H' → te σ H' Q)
    (I : Nat → St → HO → Prop) (h0 : I 0 σ o0)
    (hs : ∀ i w n σ' H' o (E : Ends), s[i]? = some (w, n) → I i σ' o → LoopEx d f s H H' → H' f = some o → (∀ v H1, ExB f H' H1 → (∀ H2, ExB f H H2 → H2 f = H1 f → D.rt v H2) → E.rt v H1) →
      (∀ σ'' H'' o', I (i + 1) σ'' o' → ExB f H' H'' → H'' f = some o' → E.nx σ'' H'') → tb E (σ'.set j (some (.str w))) H')
    (hend : ∀ σ' H' o, I s.length σ' o → ExB f H H' → H' f = some o → D.nx σ' H') : tLockR (tFor (iKeys te) (gName j) tb) D σ H := by
  -- the loop itself, over a heap in which d is locked
  have core : ∀ (Hl : Hp) (od : Obj) (E : Ends), Hl d = some (.frz od (.dK (toK s))) → (∀ a o, a ≠ d → (H a = some o ↔ Hl a = some o)) →
      (∀ σ' H' o, I s.length σ' o → ExB f Hl H' → H' f = some o → E.nx σ' H') → (∀ v H', ExB f Hl H' → (∀ H2, ExB f H H2 → H2 f = H' f → D.rt v H2) → E.rt v H') → tFor (iKeys te) (gName j) tb E σ Hl := by
    intro Hl od E hl hsame hE hrt
    have l0 : LoopEx d f s H Hl := ⟨fun a o _ h2 q => (hsame a o h2).mp q, .inr ⟨od, hl⟩⟩
    refine he Hl _ l0 ⟨d, od, rfl, .inl ⟨toK s, hl, ?_⟩⟩
    refine for_it walk_keys (fun i σ' H' => ∃ o, I i σ' o ∧ ExB f Hl H' ∧ H' f = some o) ⟨o0, h0, ExB.refl f Hl, (hsame f o0 (Ne.symm hne)).mp hf⟩ (fun i σ' H' _ p => ?_) ?_ (fun σ' H' p => ?_)
    · obtain ⟨o, _, e, _⟩ := p
      exact e d _ hne hl
    · rintro i x σ' H' H1 hi ⟨o, hI, e, hfo⟩ ⟨rfl, k, v, hk, rfl⟩
      obtain ⟨w, n, hw, ekv⟩ := toK_get hk
      cases ekv
      have le : LoopEx d f s H H1 := ⟨fun a o h1 h2 q => e a o h1 ((hsame a o h2).mp q), .inr ⟨od, e d _ hne hl⟩⟩
      exact hs i w n σ' H1 o _ hw hI le hfo (fun v H2 e2 hq => hrt v H2 (e.trans e2) hq) fun σ'' H'' o' hI' e' hf' => ⟨o', hI', e.trans e', hf'⟩
    · obtain ⟨o, hI, e, hfo⟩ := p
      rw [toK_len] at hI
      exact hE σ' H' o hI e hfo
  rcases hd with hd | ⟨od, hd⟩
  · refine .inl ⟨d, _, hd, trivial, fun od => ?_⟩
    have back : ∀ H', ExB f (upd H d (.frz od (.dK (toK s)))) H' → H' d = some (.frz od (.dK (toK s))) ∧ ExB f H (upd H' d (.dK (toK s))) := fun H' e => by
      refine ⟨e d _ hne upd_same, fun a o h1 q => ?_⟩
      by_cases ha : a = d
      · subst ha
        rw [hd] at q
        cases q
        exact upd_same
      · rw [upd_ne ha]
        exact e a o h1 (by rw [upd_ne ha]; exact q)
    refine core _ od _ upd_same (fun a o ha => by rw [upd_ne ha]) (fun σ' H' o hI e hfo => ?_) (fun v H' e hq => ?_)
    · obtain ⟨b1, b2⟩ := back H' e
      exact ⟨b1, hend σ' _ o hI b2 (by rw [upd_ne (Ne.symm hne)]; exact hfo)⟩
    · obtain ⟨b1, b2⟩ := back H' e
      exact ⟨b1, hq _ b2 (by rw [upd_ne (Ne.symm hne)])⟩
  · exact .inr (core H od D hd (fun a o _ => Iff.rfl) hend fun v H' e hq => hq H' e rfl)
end Fp

/-! More steps of a reading. -/
namespace Fp
open PySem L2
theorem ps_never {X : Cx} {st : Stmt} : PS X st (fun _ _ _ => False) := ⟨fun pins s σ H D I h => h.elim⟩
section
variable {σ : St} {H H1 : Hp} {Q : VK} {D : Ends} {i : Nat} {v x y : V} {ta tb te tc td ty : TE} {K : PySem.W.Frag} {tt tu : TT} {t u : TS} {QB : Bool → Hp → Prop} {tA : TA}
theorem g_chain {r r' : R2} (h : ta σ H fun x H1 => tb σ H1 fun y H2 => r x y H2 fun z H3 => ∃ k, z = .bl k ∧ (if k = true then tc σ H3 fun w' H4 => r' y w' H4 Q else Q (.bl false) H3)) : tChain r r' ta tb tc σ H Q := h
theorem g_dget (h : td σ H fun x H1 => ty σ H1 fun y H2 => ∃ a v, x = .ref a ∧ DGet H2 a y (some v) ∧ Q v H2) : tDGet td ty σ H Q := h
theorem g_dput {tv : TE} (h : tv σ H fun v H1 => td σ H1 fun x H2 => ty σ H2 fun y H3 => ∃ a H4, x = .ref a ∧ DPut H3 a y v H4 ∧ D.nx σ H4) : sDPut td ty tv D σ H := h
theorem g_dget2 {tx : TE} (h : td σ H fun x H1 => ∃ a, x = .ref a ∧ IsD H1 a ∧ ty σ H1 fun y H2 => tx σ H2 fun z H3 => ∃ o, DGet H3 a y o ∧ Q (o.getD z) H3) : tDGet2 td ty tx σ H Q := h
theorem g_dpop2 {tx : TE} (h : td σ H fun x H1 => ∃ a, x = .ref a ∧ IsD H1 a ∧ ty σ H1 fun y H2 => tx σ H2 fun z H3 => ∃ kvs k, H3 a = some (.dK kvs) ∧ y = kV k ∧
  (∀ v, valV kvs k = some v → Q v (upd H3 a (.dK (dropK kvs k)))) ∧ (valV kvs k = none → Q z H3)) : tDPop2 td ty tx σ H Q := h
theorem g_fld {f : Str} (h : ta σ H fun x H1 => ∃ a C dx fs v, x = .ref a ∧ H1 a = some (.ins C dx fs) ∧ Cls K C ∧ NoAttr K C f ∧ fs.lookup f = some v ∧ Q v H1) : tFld K ta f σ H Q := h
theorem g_sfld {tv : TE} {f : Str} (h : tv σ H fun y H1 => ta σ H1 fun x H2 => ∃ a C dx fs, x = .ref a ∧ H2 a = some (.ins C dx fs) ∧ Cls K C ∧ NoAttr K C f ∧ fs.length < 1000 ∧
  D.nx σ (upd H2 a (.ins C dx (putF f y fs)))) : sFld K ta tv f D σ H := h
theorem g_make {C : Addr} {sp : Sp} {E : XK} (h : tA σ H fun vs H1 => ∀ x dx, H1 x = none → H1 dx = none → dx ≠ x →
  sp (.ref x :: (vs ++ [])) (upd (upd H1 dx (.own x)) x (.ins C dx [])) (fun v H2 => v = .non ∧ Q (.ref x) H2) E) : tMake C sp [] E tA σ H Q := h
theorem g_meth {C : Addr} {m : Str} {sp : Sp} {E : XK} (h : ta σ H fun x H1 => ∃ a dx fs, x = .ref a ∧ H1 a = some (.ins C dx fs) ∧ fs.lookup m = none ∧
  tA σ H1 fun vs H2 => sp (x :: (vs ++ [])) H2 Q E) : tMeth C m sp [] E ta tA σ H Q := h
theorem g_bm {T : String} {r : V → List V → Hp → VK → Prop} (h : ta σ H fun x H1 => tyV K T x H1 ∧ tA σ H1 fun xs H2 => r x xs H2 Q) : tBM K T r ta tA σ H Q := h
theorem g_m1 {r : V → List V → Hp → VK → Prop} (h : ta σ H fun x H1 => (∃ a, x = .str a) ∧ te σ H1 fun y H2 => r x [y] H2 Q) : tM1 r ta te σ H Q := h
theorem g_itNT {A B : Prop} (h : B) : if (!true) = true then A else B := g_iff rfl h
theorem g_itNF {A B : Prop} (h : A) : if (!false) = true then A else B := g_ift rfl h
theorem g_revL (h : te σ H fun x H1 => ∃ a xs, x = .ref a ∧ SqL K H1 a xs ∧ ∀ p, H1 p = none → Q (.ref p) (upd H1 p (.lst xs.reverse))) : tRevL K te σ H Q := h
theorem g_kw {r : List V → List V → Hp → VK → Prop} {tk : TA} (h : tA σ H fun vs H1 => tk σ H1 fun zs H2 => r vs zs H2 Q) : tCKw r tA tk σ H Q := h
theorem g_gsub {to ti : TE} {s : TSet} {QS : St → Hp → Prop} (h : to σ H fun o H1 => ti σ H1 fun i H2 => s o i v H2 fun H3 => QS σ H3) : gSub to ti s v σ H QS := h
theorem g_for {wi : TI} {g : TG} (h : wi σ H fun J H1 => ForG J g t D σ H1) : tFor wi g t D σ H := h
theorem g_iList {R : It → Hp → Prop} (h : te σ H fun x H1 => ∃ a, x = .ref a ∧ (∃ xs, SqL K H1 a xs) ∧ R (Itl K a) H1) : iList K te σ H R := h
theorem g_iTup {R : It → Hp → Prop} (h : te σ H fun x H1 => ∃ a, x = .ref a ∧ (∃ xs, SqT K H1 a xs) ∧ R (Itt K a) H1) : iTup K te σ H R := h
theorem g_iRng1 {R : It → Hp → Prop} (h : tA σ H fun vs H1 => ∃ j : Int, vs = [.int j] ∧ -(2 ^ 62) ≤ j ∧ j < 2 ^ 62 ∧ R (Itr 0 j.toNat) H1) : iRng1 tA σ H R := h
theorem g_iRng2 {R : It → Hp → Prop} (h : tA σ H fun vs H1 => ∃ i j : Int, vs = [.int i, .int j] ∧ (-(2 ^ 62) ≤ i ∧ i < 2 ^ 62 ∧ -(2 ^ 62) ≤ j ∧ j < 2 ^ 62) ∧ R (Itr i (j - i).toNat) H1) : iRng2 tA σ H R := h
theorem g_sl {r : V → Option Int → Option Int → Hp → VK → Prop} {tl th : TO} (h : te σ H fun x H1 => tl σ H1 fun l H2 => th σ H2 fun u H3 => r x l u H3 Q) : tSl r te tl th σ H Q := h
theorem g_part {QO : Option Int → Hp → Prop} (h : te σ H fun x H1 => ∃ i, x = .int i ∧ QO (some i) H1) : tPart te σ H QO := h
theorem g_noPart {QO : Option Int → Hp → Prop} (h : QO none H) : tNoPart σ H QO := h
theorem g_exi {z : Int} {R : Int → Prop} (h : R z) : ∃ i, (V.int z) = .int i ∧ R i := ⟨z, rfl, h⟩
theorem g_exr {z : Addr} {R : Addr → Prop} (h : R z) : ∃ i, (V.ref z) = .ref i ∧ R i := ⟨z, rfl, h⟩
theorem g_exb {z : Bool} {R : Bool → Prop} (h : R z) : ∃ i, (V.bl z) = .bl i ∧ R i := ⟨z, rfl, h⟩
theorem g_dnew (h : ∀ p, H p = none → Q (.ref p) (upd H p (.dK []))) : tDNewK σ H Q := h
theorem g_disp {trs : List (TE × TE)} (h : ∀ p, H p = none → tPairs trs σ (upd H p (.dK [])) fun ps H2 => H2 p = some (.dK []) ∧ ∃ kvs : List (Key × V), ps = kvs.map (fun kv => (kV kv.1, kv.2)) ∧ kvs.length ≤ 15 ∧ Q (.ref p) (upd H2 p (.dK (mergeK [] kvs)))) : tDisp trs σ H Q := h
theorem g_prs0 {R : List (V × V) → Hp → Prop} (h : R [] H) : tPairs [] σ H R := h
theorem g_prs {tk tv : TE} {r : List (TE × TE)} {R : List (V × V) → Hp → Prop} (h : tk σ H fun x H1 => tv σ H1 fun y H2 => tPairs r σ H2 fun ps H3 => R ((x, y) :: ps) H3) : tPairs ((tk, tv) :: r) σ H R := h
theorem g_cut {R : St → Hp → Prop} (h1 : ∀ N : St → Hp → Prop, (∀ σ' H', R σ' H' → N σ' H') → t { D with nx := N } σ H) (h2 : ∀ σ' H', R σ' H' → u D σ' H') : tSeq t u D σ H := h1 (u D) h2
theorem g_nxt (h : D.nx σ H) : tNext D σ H := h
/-! the readings of things -/
theorem g_int {i : Int} (h : Q (.int i) H) : (∃ j, [V.int i] = [.int j] ∧ Q (.int j) H) ∨ ∃ k, [V.int i] = [.bl k] ∧ Q (.int (if k then 1 else 0)) H := .inl ⟨i, rfl, h⟩
theorem g_ixl {p : Addr} {xs : List V} {k : Int} (hs : SqL K H p xs) (ha : atI xs k = some v) (h : Q v H) : rIxL K (.ref p) (.int k) H Q := ⟨p, xs, k, v, rfl, rfl, hs, ha, h⟩
theorem g_ixt {p : Addr} {xs : List V} {k : Int} (hs : SqT K H p xs) (ha : atI xs k = some v) (h : Q v H) : rIxT K (.ref p) (.int k) H Q := ⟨p, xs, k, v, rfl, rfl, hs, ha, h⟩
theorem g_ixs {z : Str} {k : Int} {c : Nat} (hz : z.length ≤ sizeLine) (ha : atI z.cps.toList k = some c) (h : Q (.str ⟨#[c]⟩) H) : rIxS (.str z) (.int k) H Q := ⟨z, k, c, rfl, rfl, hz, ha, h⟩
theorem g_setl {p : Addr} {xs : List V} {k : Int} {j : Nat} {R : Hp → Prop} (hs : H p = some (.lst xs)) (ha : ixN xs.length k = some j) (h : R (upd H p (.lst (xs.set j v)))) : rSetL (.ref p) (.int k) v H R := ⟨p, xs, k, j, rfl, rfl, hs, ha, h⟩
theorem g_dg {a : Addr} {s : Bg} {w : Str} {n : Int} {R : V → Prop} (hd : Rd H a (.dK (toK s))) (hw : getS s w = some n) (h : R (.int n)) : ∃ b v, V.ref a = .ref b ∧ DGet H b (.str w) (some v) ∧ R v :=
  ⟨a, .int n, rfl, .inl ⟨toK s, .inr w, hd, rfl, by rw [valV_toK, hw]; rfl⟩, h⟩
theorem g_dp {a : Addr} {s : Bg} {w : Str} {n : Int} {R : Hp → Prop} (hd : H a = some (.dK (toK s))) (hl : s.length < sizeLine) (h : R (upd H a (.dK (toK (putS s w n))))) : ∃ b H4, V.ref a = .ref b ∧ DPut H b (.str w) (.int n) H4 ∧ R H4 :=
  ⟨a, _, rfl, DPut.k (k := (Sum.inr w : Key)) hd (by rw [toK_len]; exact hl), by rw [putK_toK]; exact h⟩
theorem atI_get {α : Type} {xs : List α} {k : Int} {v : α} (h0 : 0 ≤ k) (h : xs[k.toNat]? = some v) : atI xs k = some v := by
  have hlt : k.toNat < xs.length := by
    rcases Nat.lt_or_ge k.toNat xs.length with q | q
    · exact q
    · rw [List.getElem?_eq_none q] at h; cases h
  unfold atI ixN
  rw [if_pos h0, if_pos (by omega)]
  exact h
/-- a text of at most so many signs -/
theorem line5 {n : Nat} (h : n ≤ 10000000) : n ≤ sizeLine := Nat.le_trans h (by decide)
theorem mem_fr {s : Bg} {w : Str} {n : Int} {i : Nat} (h : s[i]? = some (w, n)) : (w, n) ∈ s := List.mem_of_getElem? h
theorem getS_at {s : Bg} {w : Str} {n : Int} {i : Nat} (hn : (keys s).Nodup) (h : s[i]? = some (w, n)) : getS s w = some n := getS_of_mem hn (mem_fr h)
end
end Fp

/-! Comprehensions that make things. -/
namespace Fp
open PySem L2

/-! ### what stays while lists grow and dicts are unlocked: tuples -/
def TupS (H H' : Hp) : Prop := ∀ a xs, H a = some (.tup xs) → H' a = some (.tup xs)
theorem TupS.trans {H H1 H2 : Hp} (a : TupS H H1) (b : TupS H1 H2) : TupS H H2 := fun x o h => b x o (a x o h)
theorem Ex.tups {H H' : Hp} (e : Ex H H') : TupS H H' := fun a xs h => e a _ h
theorem TupS.upd {H : Hp} {a : Addr} {o u : HO} (h : H a = some u) (hu : ∀ xs, u ≠ .tup xs) : TupS H (upd H a o) := fun b xs q => by
  rw [upd_ne (fun e => by subst e; rw [h] at q; exact hu xs (Option.some.inj q))]
  exact q
theorem TupS.new {H : Hp} {a : Addr} {o : HO} (h : H a = none) : TupS H (L2.upd H a o) := (Ex.new h).tups

/-! ### Paired -/
section
variable {α β : Type} {F : α → β → Prop}
theorem paired_eq {xs : List V} {es : List V} (h : Paired (fun x e => x = e) xs es) : xs = es := by
  induction h with
  | nil => rfl
  | cons h1 _ ih => rw [h1, ih]
theorem paired_map {G : β → α} {xs : List α} {es : List β} (h : Paired (fun x e => x = G e) xs es) : xs = es.map G := by
  induction h with
  | nil => rfl
  | cons h1 _ ih => rw [h1, ih]; rfl
theorem paired_refs {P : Addr → β → Prop} {xs : List V} {es : List β} (h : Paired (fun x e => ∃ a, x = V.ref a ∧ P a e) xs es) : ∃ as : List Addr, xs = as.map V.ref ∧ Paired P as es := by
  induction h with
  | nil => exact ⟨[], rfl, .nil⟩
  | cons h1 _ ih =>
    obtain ⟨a, rfl, ha⟩ := h1
    obtain ⟨as, rfl, hs⟩ := ih
    exact ⟨a :: as, rfl, .cons ha hs⟩
theorem paired_get {xs : List α} {es : List β} (h : Paired F xs es) : ∀ {i : Nat} {x : α}, xs[i]? = some x → ∃ e, es[i]? = some e ∧ F x e := by
  induction h with
  | nil => intro i x e; simp at e
  | cons h1 _ ih =>
    intro i x e
    cases i with
    | zero => exact ⟨_, rfl, by have := Option.some.inj e; subst this; exact h1⟩
    | succ i => exact ih e
theorem paired_mapr {γ : Type} {g : β → γ} {G : α → γ → Prop} {xs : List α} {es : List β} (h : Paired F xs es) (hg : ∀ a b, F a b → G a (g b)) : Paired G xs (es.map g) := by
  induction h with
  | nil => exact .nil
  | cons h1 _ ih => exact .cons (hg _ _ h1) ih
end
section
variable {J : It} {n : Nat} {G : Hp → Prop} {Y : Nat → Hp → V → Hp → Prop} {α : Type}
/-- a comprehension whose elements stand to es as R says -/
theorem lc_rel (w : Walk J n G Y) {j : Nat} {te : TE} {vs : List Nat} {σ : St} {H1 : Hp} {Q : VK} (es : List α) (hl : es.length = n) (hn : n ≤ sizeLine) (hG : ∀ H, Ex H1 H → G H)
    (R : α → V → Hp → Prop) (hR : ∀ e y H H', TupS H H' → R e y H → R e y H') (hw : ∀ x, wipe ((wipe σ vs).set j x) vs = wipe σ vs)
    (hs : ∀ i x e H H' (K : VK), i < n → Ex H1 H → Y i H x H' → es[i]? = some e → (∀ y H4, Ex H H4 → R e y H4 → K y H4) → te ((wipe σ vs).set j (some x)) H' K)
    (hd : ∀ D H' ys, H1 D = none → Ex H1 H' → H' D = some (.lst ys) → Paired (fun y e => R e y H') ys es → Q (.ref D) H') :
    LcG J (gName j) tYes te vs σ H1 Q := by
  intro D hD
  refine lc_it w (fun i H => Ex H1 H ∧ ∃ ys, H D = some (.lst ys) ∧ Paired (fun y e => R e y H) ys (es.take i)) ⟨Ex.new hD, [], upd_same, .nil⟩ (fun i H _ p => hG H p.1) ?_ (fun H p => ?_)
  · rintro i x H H' hi ⟨e, ys, hacc, hp⟩ hy
    have hi' : i < es.length := by omega
    obtain ⟨y, hyi⟩ : ∃ y, es[i]? = some y := ⟨es[i], by simp [hi']⟩
    refine ⟨hw _, ?_⟩
    unfold tYes
    dsimp only
    rw [if_pos rfl]
    have hlen : ys.length = i := by rw [hp.length, List.length_take]; omega
    refine hs i x y H H' _ hi e hy hyi fun z H4 e4 rz => ⟨ys, e4 _ _ hacc, by omega, ?_, ys ++ [z], upd_same, ?_⟩
    · exact Ex.mut (e.trans e4) hD
    · have tu : TupS H4 (upd H4 D (.lst (ys ++ [z]))) := TupS.upd (e4 _ _ hacc) (fun _ => by simp)
      rw [List.take_add_one, hyi]
      exact Paired.snoc (Paired.mapP hp fun a b q => hR _ _ _ _ (e4.tups.trans tu) q) (hR _ _ _ _ tu rz)
  · obtain ⟨e, ys, h, hp⟩ := p
    rw [← hl, List.take_length] at hp
    exact hd D H ys hD e h hp
end
/-- while the dict at d is walked -/
structure LkEx (d : Addr) (s : Bg) (H H' : Hp) : Prop where
  keep : ∀ a o, a ≠ d → H a = some o → H' a = some o
  self : Rd H' d (.dK (toK s))
theorem LkEx.rd {d : Addr} {s : Bg} {H H' : Hp} (l : LkEx d s H H') (hd : Rd H d (.dK (toK s))) {b : Addr} {t : Bg} (h : Rd H b (.dK (toK t))) : Rd H' b (.dK (toK t)) := by
  by_cases e : b = d
  · subst e
    have : toK t = toK s := by
      rcases h with h | ⟨o, h⟩ <;> rcases hd with hd | ⟨o', hd⟩
      · exact HO.dK.inj (Option.some.inj (h.symm.trans hd))
      · exact absurd (Option.some.inj (h.symm.trans hd)) (by simp)
      · exact absurd (Option.some.inj (h.symm.trans hd)) (by simp)
      · have := Option.some.inj (h.symm.trans hd)
        injection this with _ e2
        exact HO.dK.inj e2
    rw [this]
    exact l.self
  · rcases h with h | ⟨o, h⟩
    · exact .inl (l.keep b _ e h)
    · exact .inr ⟨o, l.keep b _ e h⟩
theorem LkEx.ex {d : Addr} {s : Bg} {H H' H'' : Hp} (l : LkEx d s H H') (e : Ex H' H'') : LkEx d s H H'' := ⟨fun a o n h => e _ _ (l.keep a o n h), e.rd l.self⟩
/-- a comprehension over a dict's keys -/
theorem lcd_rel {σ : St} {H : Hp} {Q : VK} {d : Addr} {s : Bg} {te0 te : TE} {j : Nat} {vs : List Nat} (hd : Rd H d (.dK (toK s))) (hz : s.length ≤ sizeLine)
    (he : ∀ (H' : Hp) (Q : VK), LkEx d s H H' → Q (.ref d) H' → te0 σ H' Q)
    (R : Str × Int → V → Hp → Prop) (hR : ∀ e y H H', TupS H H' → R e y H → R e y H') (hw : ∀ x, wipe ((wipe σ vs).set j x) vs = wipe σ vs)
    (hs : ∀ (i : Nat) (w : Str) (n : Int) (H' : Hp) (K : VK), s[i]? = some (w, n) → LkEx d s H H' → (∀ y H4, Ex H' H4 → R (w, n) y H4 → K y H4) → te ((wipe σ vs).set j (some (.str w))) H' K)
    (hend : ∀ D H' ys, H D = none → Ex H H' → H' D = some (.lst ys) → Paired (fun y e => R e y H') ys s → Q (.ref D) H') : tLockRE (tLc (iKeys te0) (gName j) tYes te vs) σ H Q := by
  have core : ∀ (Hl : Hp) (od : Obj) (Q' : VK), Hl d = some (.frz od (.dK (toK s))) → (∀ a o, a ≠ d → (H a = some o ↔ Hl a = some o)) → (∀ a, Hl a = none → H a = none) →
      (∀ D H' ys, H D = none → Ex Hl H' → H' D = some (.lst ys) → Paired (fun y e => R e y H') ys s → Q' (.ref D) H') → tLc (iKeys te0) (gName j) tYes te vs σ Hl Q' := by
    intro Hl od Q' hl hsame hnone hE
    have l0 : LkEx d s H Hl := ⟨fun a o h2 q => (hsame a o h2).mp q, .inr ⟨od, hl⟩⟩
    refine he Hl _ l0 ⟨d, od, rfl, .inl ⟨toK s, hl, ?_⟩⟩
    show LcG _ _ _ _ _ _ _ _
    refine lc_rel walk_keys s (toK_len s).symm (by rw [toK_len]; exact hz) (fun H' e => e _ _ hl) R hR hw ?_ (fun D H' ys hD => hE D H' ys (hnone D hD))
    rintro i x e H2 H3 K hi e2 ⟨rfl, k, v, hk, rfl⟩ hei hK
    obtain ⟨w, n, hw', ekv⟩ := toK_get hk
    cases ekv
    rw [hw'] at hei
    obtain rfl := (Option.some.inj hei).symm
    exact hs i w n H3 K hw' (l0.ex e2) hK
  rcases hd with hd | ⟨od, hd⟩
  · refine .inl ⟨d, _, hd, trivial, fun od => ?_⟩
    refine core _ od _ upd_same (fun a o ha => by rw [upd_ne ha]) (fun a ha => ?_) (fun D H' ys hD e hl hp => ?_)
    · by_cases q : a = d
      · subst q; rw [upd_same] at ha; cases ha
      · rw [upd_ne q] at ha; exact ha
    · have hdl : H' d = some (.frz od (.dK (toK s))) := e _ _ upd_same
      have hne : D ≠ d := fun q => by subst q; rw [hd] at hD; cases hD
      refine ⟨hdl, hend D _ ys hD (fun a o q => ?_) (by rw [upd_ne hne]; exact hl) (Paired.mapP hp fun a b q => hR _ _ _ _ (TupS.upd hdl fun _ => by simp) q)⟩
      by_cases ha : a = d
      · subst ha
        rw [hd] at q
        cases q
        exact upd_same
      · rw [upd_ne ha]
        exact e a o (by rw [upd_ne ha]; exact q)
  · exact .inr (core H od Q hd (fun a o _ => Iff.rfl) (fun _ h => h) hend)
/-- a comprehension that turns f's object meanwhile -/
theorem lc_mut {J : It} {n : Nat} {G : Hp → Prop} {Y : Nat → Hp → V → Hp → Prop} (w : Walk J n G Y) {f : Addr} {o0 : HO} {j : Nat} {te : TE} {vs : List Nat} {σ : St} {H1 : Hp} {Q : VK} (hf : H1 f = some o0) (hn : n ≤ sizeLine) (I : Hp → Prop) (h0 : I H1)
    (hI : ∀ H D o, H1 D = none → I H → I (upd H D o)) (hG : ∀ H, ExB f H1 H → I H → G H) (P : V → Prop) (hw : ∀ x, wipe ((wipe σ vs).set j x) vs = wipe σ vs)
    (hs : ∀ i x H H' (K : VK), i < n → ExB f H1 H → I H → Y i H x H' → (∀ y H4, ExB f H H4 → I H4 → P y → K y H4) → te ((wipe σ vs).set j (some x)) H' K)
    (hd : ∀ D H' ys, H1 D = none → ExB f H1 H' → I H' → H' D = some (.lst ys) → ys.length = n → (∀ y ∈ ys, P y) → Q (.ref D) H') :
    LcG J (gName j) tYes te vs σ H1 Q := by
  intro D hD
  have hDf : D ≠ f := Ne.symm (ne_of_none hf hD)
  refine lc_it w (fun i H => ExB f H1 H ∧ I H ∧ ∃ ys, H D = some (.lst ys) ∧ ys.length = i ∧ ∀ y ∈ ys, P y) ⟨(Ex.new hD).exb, hI _ _ _ hD h0, [], upd_same, rfl, fun _ h => nomatch h⟩ (fun i H _ p => hG H p.1 p.2.1) ?_ (fun H p => ?_)
  · rintro i x H H' hi ⟨e, hi1, ys, hacc, hl, hp⟩ hy
    refine ⟨hw _, ?_⟩
    unfold tYes
    dsimp only
    rw [if_pos rfl]
    refine hs i x H H' _ hi e hi1 hy fun z H4 e4 i4 pz => ⟨ys, e4 _ _ hDf hacc, by omega, ?_, hI _ _ _ hD i4, ys ++ [z], upd_same, by rw [List.length_append, hl]; rfl, fun y hy => ?_⟩
    · exact fun a o hne q => by rw [upd_ne (ne_of_none q hD)]; exact e4 a o hne (e a o hne q)
    · rcases List.mem_append.mp hy with h | h
      · exact hp y h
      · rw [List.mem_singleton.mp h]; exact pz
  · obtain ⟨e, hi, ys, h, hl, hp⟩ := p
    exact hd D H ys hD e hi h hl hp
end Fp

/-! Displays of dicts and lists of them; how big a dict is. -/
namespace Fp
open PySem L2
theorem forG {J : It} {n : Nat} {G : Hp → Prop} {Y : Nat → Hp → V → Hp → Prop} (w : Walk J n G Y) {g : TG} {tb : TS} {D : Ends} {σ : St} {H : Hp} (Pv : Nat → St → Hp → Prop) (h0 : Pv 0 σ H) (hG : ∀ i σ H, i ≤ n → Pv i σ H → G H)
    (hs : ∀ i x σ H H', i < n → Pv i σ H → Y i H x H' → g x σ H' fun σ2 H2 => tb { D with nx := Pv (i + 1), ct := Pv (i + 1), bk := D.nx } σ2 H2) (hd : ∀ σ H, Pv n σ H → D.nx σ H) : ForG J g tb D σ H := for_it w Pv h0 hG hs hd
theorem mergeK_app (a : List (Key × V)) : ∀ b : List (Key × V), ((a ++ b).map (·.1)).Nodup → mergeK a b = a ++ b
  | [], _ => (List.append_nil a).symm
  | q :: r, h => by
    show mergeK (putK a q.1 q.2) r = a ++ q :: r
    have hn : valV a q.1 = none := by
      cases e : valV a q.1 with
      | none => rfl
      | some x =>
        unfold valV at e
        cases f : a.find? fun kv => decide (kv.1 = q.1) with
        | none => rw [f] at e; cases e
        | some y =>
          have h1 := List.mem_of_find?_eq_some f
          have h2 := List.find?_some f
          rw [List.map_append, List.nodup_append] at h
          exact absurd (of_decide_eq_true h2) (h.2.2 y.1 (List.mem_map.mpr ⟨y, h1, rfl⟩) q.1 (by simp))
    rw [putK_new q.2 hn, mergeK_app (a ++ [(q.1, q.2)]) r (by rw [List.append_assoc]; exact h), List.append_assoc]
    rfl
theorem mergeK_toK {s : Bg} (h : (keys s).Nodup) : mergeK [] (toK s) = toK s := by
  refine (mergeK_app [] (toK s) ?_)
  rw [List.nil_append]
  unfold toK
  rw [List.map_map]
  have e : ((fun x : Key × V => x.1) ∘ fun kv : Str × Int => ((Sum.inr kv.1 : Key), V.int kv.2)) = (Sum.inr : Str → Key) ∘ (·.1) := rfl
  rw [e, ← List.map_map]
  exact List.Pairwise.map _ (fun a b q e => q (Sum.inr.inj e)) h
/-- a display tells the new dict s -/
def DispOk (te : TE) (σ : St) (s : Bg) : Prop := ∀ (H : Hp) (Q : VK), (∀ p H', Ex H H' → H p = none → H' p = some (.dK (toK s)) → Q (.ref p) H') → te σ H Q
def PureT (te : TE) (σ : St) (v : V) : Prop := ∀ (H : Hp) (Q : VK), Q v H → te σ H Q
theorem pure_c {v : V} {σ : St} : PureT (tC v) σ v := fun _ _ q => q
theorem pure_v {v : V} {σ : St} {i : Nat} (h : σ[i]? = some (some v)) : PureT (tVar i) σ v := fun _ _ q => ⟨v, h, q⟩
def PairsOk : List (TE × TE) → St → Bg → Prop
  | [], _, [] => True
  | t :: r, σ, q :: s => PureT t.1 σ (.str q.1) ∧ PureT t.2 σ (.int q.2) ∧ PairsOk r σ s
  | _, _, _ => False
theorem pairs_ok {σ : St} : ∀ {trs : List (TE × TE)} {s : Bg} {H : Hp} {R : List (V × V) → Hp → Prop}, PairsOk trs σ s → R ((toK s).map fun kv => (kV kv.1, kv.2)) H → tPairs trs σ H R
  | [], [], _, _, _, h => h
  | [], _ :: _, _, _, ok, _ => ok.elim
  | _ :: _, [], _, _, ok, _ => ok.elim
  | (tk, tv) :: r, q :: s, H, R, ok, h => ok.1 H _ (ok.2.1 H _ (pairs_ok (R := fun ps H => R ((V.str q.1, V.int q.2) :: ps) H) ok.2.2 h))
theorem disp_ok {trs : List (TE × TE)} {σ : St} {s : Bg} (ok : PairsOk trs σ s) (hn : (keys s).Nodup) (hl : s.length ≤ 15) : DispOk (tDisp trs) σ s := fun H Q q p hp => by
  refine pairs_ok ok ⟨upd_same, toK s, rfl, by rw [toK_len]; exact hl, ?_⟩
  rw [mergeK_toK hn]
  exact q p _ (Ex.mut (Ex.new hp) hp) hp upd_same
def ArgsOk (tA : TA) (σ : St) (ss : List Bg) : Prop := ∀ (H : Hp) (QA : List V → Hp → Prop), (∀ (ps : List Addr) H', Ex H H' → Paired (fun p s => H p = none ∧ H' p = some (.dK (toK s))) ps ss → QA (ps.map V.ref) H') → tA σ H QA
theorem args_nil {σ : St} : ArgsOk tNil σ [] := fun H QA q => q [] H (Ex.refl H) .nil
theorem args_cons {σ : St} {te : TE} {tA : TA} {s : Bg} {ss : List Bg} (h : DispOk te σ s) (h2 : ArgsOk tA σ ss) : ArgsOk (tCons te tA) σ (s :: ss) := fun H QA q =>
  h H _ fun p H1 e1 hp0 hp => h2 H1 _ fun ps H2 e2 hps => q (p :: ps) H2 (e1.trans e2) (.cons ⟨hp0, e2 _ _ hp⟩ (Paired.mapP hps fun _ _ z => ⟨e1.free z.1, z.2⟩))
theorem paired_app {α β : Type} {F : α → β → Prop} {a : List α} {b : List β} {c : List α} {d : List β} (h : Paired F a b) (h2 : Paired F c d) : Paired F (a ++ c) (b ++ d) := by
  induction h with
  | nil => exact h2
  | cons q _ ih => exact .cons q ih
theorem paired_nth {α β : Type} {F : α → β → Prop} {a : List α} {b : List β} (h : Paired F a b) : ∀ {i : Nat}, i < b.length → ∃ x y, a[i]? = some x ∧ y ∈ b ∧ F x y := by
  induction h with
  | nil => intro i hi; exact absurd hi (Nat.not_lt_zero _)
  | @cons x y _ _ q _ ih =>
    intro i hi
    cases i with
    | zero => exact ⟨x, y, rfl, List.mem_cons_self, q⟩
    | succ i =>
      obtain ⟨x', y', h1, h2, h3⟩ := ih (i := i) (by rw [List.length_cons] at hi; omega)
      exact ⟨x', y', h1, List.mem_cons_of_mem _ h2, h3⟩
end Fp

/-! tuple(list), its object known; dict(that tuple of pairs). -/
namespace Fp
open PySem L2 PyProof.Rows
section
variable {X : Cx}
/-- tuple(list): a tuple without a dict -/
def rTupleZ (K : PySem.W.Frag) : List V → Hp → VK → Prop := fun xs H Q => ∃ p ys, xs = [V.ref p] ∧ SqL K H p ys ∧ ∀ l (o : Obj), H l = none → o.dict = none → Q (.ref l) (upd H l (.frz o (.tup ys)))
theorem call_tupleZ : CallR X (.type "tuple") (rTupleZ X.K) := by
  intro pins s σ H xs us Q I r h
  obtain ⟨p, ys, rfl, hq, q⟩ := h
  obtain ⟨u, rfl, rx⟩ := vals1 r
  cases rx
  obtain ⟨its, r', pl, hz⟩ := I.list hq
  have hlen := r'.length
  refine PySem.call_tuple_list pl.isList (fun h' kp => ?_) (by simp only [List.size_toArray] <;> omega)
  have I1 : Inv X pins σ H { s with heap := h' } := I.kept (t' := s.toks) kp
  have I2 : Inv X pins σ (upd H h'.objs.size (.frz { cls := .type "tuple", data := .seq its.toArray } (.tup ys))) { s with heap := h'.push { cls := .type "tuple", data := .seq its.toArray } } :=
    I1.laid (t' := s.toks) (fun b o e => Heap.get?_push_of_some _ e) (Nat.le_refl _) (show ObjOk X.prog X.w _ _ _ (.frz _ (.tup ys)) from ⟨Heap.get?_push_size _ rfl, hz, its, r', IsTup.new _ _⟩)
  exact ⟨.ref h'.objs.size, _, I2, rfl, q _ _ (I1.hok.fresh (Nat.le_refl _)) rfl⟩
theorem pairs_ofV {pins : List (Addr × Obj)} {σ : L2.St} {H : Hp} {s : Shared} (I : Inv X pins σ H s) : ∀ {ps : List Addr} {kvs : List (Key × V)}, Paired (fun p kv => SqT X.K H p [kV kv.1, kv.2]) ps kvs →
    ∃ (prs : List (Key × Value)) (ws : List (Value × Value)), KV kvs prs ∧ prs.length = ps.length ∧ ws.length = ps.length ∧ ∀ (j : Nat) (k v : Value), ws[j]? = some (k, v) → ∃ (b : Addr) (key : Key), ps[j]? = some b ∧ IsTup s.heap b #[k, v] ∧ prs[j]? = some (key, v) ∧ (mixKind X.prog X.w).is key k = true
  | _, _, .nil => ⟨[], [], .nil, rfl, rfl, fun j k v e => by simp at e⟩
  | _, _, .cons (a := p) (b := kv) h t => by
    obtain ⟨prs, ws, r, hl, hl2, hp⟩ := pairs_ofV I t
    obtain ⟨its, rv, ht, _⟩ := I.tuple h
    obtain ⟨u, y, ei, ru, ry⟩ := vals2 rv
    subst ei
    refine ⟨(kv.1, y) :: prs, (u, y) :: ws, .cons ⟨rfl, ry⟩ r, by rw [List.length_cons, List.length_cons, hl], by rw [List.length_cons, List.length_cons, hl2], fun j k v e => ?_⟩
    cases j with
    | zero =>
      have e' : (u, y) = (k, v) := Option.some.inj e
      cases e'
      exact ⟨p, kv.1, rfl, ht, rfl, kV_is (P := X.prog) (w := X.w) ru⟩
    | succ j =>
      obtain ⟨b, key, e1, e2, e3, e4⟩ := hp j k v (by simpa using e)
      exact ⟨b, key, by simpa using e1, e2, by simpa using e3, e4⟩
def rDictT (K : PySem.W.Frag) : List V → Hp → VK → Prop := fun xs H Q => ∃ (a : Addr) (o : Obj) (ps : List Addr) (kvs : List (Key × V)), xs = [.ref a] ∧ H a = some (.frz o (.tup (ps.map V.ref))) ∧ o.dict = none ∧ Paired (fun p kv => SqT K H p [kV kv.1, kv.2]) ps kvs ∧
    ∀ p, H p = none → Q (.ref p) (upd H p (.dK (mergeK [] kvs)))
theorem call_dictT (hcalm : X.calm = true) : CallR X (.type "dict") (rDictT X.K) := by
  intro pins s σ H xs us Q I r q
  obtain ⟨a, o, ps, kvs, ex, ha, hod, hp, q⟩ := q
  subst ex
  obtain ⟨u, eu, rx⟩ := vals1 r
  subst eu
  cases rx
  obtain ⟨hg, hz, its, rv, o', ho', hc, n, hdat⟩ := (show ObjOk X.prog X.w H s.heap a (.frz o (.tup (ps.map V.ref))) from I.hok a _ ha)
  rw [hg] at ho'
  cases ho'
  have ei := refs_at rv
  subst ei
  rw [List.length_map] at hz
  obtain ⟨prs, ws, rel, hl, hl2, hpr⟩ := pairs_ofV I hp
  have ok : PlainSeq "tuple" s.heap a (ps.map Value.ref).toArray ∧ PairItems s.heap (ps.map Value.ref).toArray (fun j => ps.getD j 0) ws := by
    refine ⟨⟨o, n, hg, hc, hod, hdat⟩, by simp [hl2], fun j k v e => ?_⟩
    obtain ⟨b, key, e1, e2, e3, e4⟩ := hpr j k v e
    refine ⟨by simp [e1, List.getD], .inl ?_⟩
    have : ps.getD j 0 = b := by simp [List.getD, e1]
    show s.heap.IsTuple (ps.getD j 0) #[k, v]
    rw [this]
    obtain ⟨ob, h1, h2, n2, h3⟩ := e2
    exact ⟨ob, h1, h2, n2, h3⟩
  refine call_dict_pairs (knd := mixKind X.prog X.w) (kvs := prs) (PairArg.tuple a (ps.map Value.ref).toArray (fun j => ps.getD j 0) ws) (I.ok.hd hcalm) ok ⟨by rw [hl, hl2], fun i key v e => ?_⟩ (by rw [hl2]; exact hz) fun h' tk hd' k => ?_
  · obtain ⟨b, key', e1, e2, e3, e4⟩ := hpr i key v e
    exact ⟨key', e3, e4⟩
  · have hm : (s.heap.objs.size == sysModules) = false := beq_eq_false_iff_ne.mpr (Nat.ne_of_gt I.big)
    have hlen : (mergeK [] kvs).length ≤ sizeLine := by
      refine Nat.le_trans (length_mergeK kvs []) ?_
      rw [List.length_nil, Nat.zero_add, rel.length, hl]
      exact hz
    exact ⟨.ref s.heap.objs.size, upd H s.heap.objs.size (.dK (mergeK [] kvs)), I.laid (t' := tk) (fun b u e => k b u (fun h => nomatch h) e) (Nat.le_refl _) (show ObjOk X.prog X.w _ _ _ (.dK (mergeK [] kvs)) from ⟨hlen, hm, merged [] prs, KV.merge rel .nil, hd'⟩), rfl, q _ (I.hok.fresh (Nat.le_refl _))⟩
end
end Fp

/-! Own errors without a message. -/
namespace Fp
open PySem L2 PyProof.Rows
section
variable {X : Cx} {C : Addr} {bmB : List Value} {B newId initId : String}
/-- X() -/
theorem pmk_own0 {x : Str} {p pos : Pos} (F : ExcBaseFacts B newId initId bmB) (q : PySem.W.excIn X.K C bmB newId = true) (gC : X.mg x = some (.ref C)) (kC : PySem.W.keepIn X.K (.ref C) = true) (r : Raises X (.ref C)) (hg : Gl X x)
    (hdb : (x == ("__debug__" : Str)) = false := by decide) : PMk X (.Call (.Name x p) [] [] pos) (fun _ H Q => Q (.ref C) none H) := by
  intro pins s σ H Q I h
  refine wpAny_Call_Name_kw (ld_glob I hg gC ?_ hdb)
  refine PySem.W.callWith_K0 I.kIn kC ?_
  show wpAny _ _ (call (.ref C) []) _ _ _
  obtain ⟨bm, N, nm, qn, bs, hdct, sn, sub, ab, col, dd, k0, k1, k2, k3, k5, mN, hC, hN, hni, T⟩ := exc_obj I.kIn q
  refine wpAny_call_exc_subT F T hC hN hni (fun h' e hm => ?_) (Nat.zero_le _)
  exact mk_of I hm r h (I.hok.gone hm.new)
/-- an own error's class: the facts -/
structure ErrC (K : PySem.W.Frag) (mg : Str → Option Value) (nm : Str) (C : Addr) : Prop where
  g : mg nm = some (.ref C)
  q : PySem.W.excIn K C [.type "ValueError", .type "Exception", .type "BaseException", .type "object"] "ValueError.__new__" = true
  k : PySem.W.keepIn K (.ref C) = true
  b : PySem.W.subIn K (.ref C) (.type "BaseException") = some true
  t : PySem.W.typeIn K (.ref C) = some (.type "type")
theorem ps_err {W : WX} {x : Str} {p pos pos' : Pos} (hc : X.calm = true) (tk : Takes X W) (D : ErrC X.K X.mg x C) (hg : Gl X x) (hdb : (x == ("__debug__" : Str)) = false := by decide) :
    PS X (.Raise (some (.Call (.Name x p) [] [] pos)) none pos') (fun _ σ H => W (.ref C) none σ H) :=
  L2.ps_raise hc tk (pmk_own0 PySem.F.excBase_ValueError D.q D.g D.k (raises_own D.b D.t) hg hdb)
/-- a def that raises: called where the error is let out or caught -/
theorem pe_callDX {W : WX} {k : Nat} {ps : List Str} {sp : Sp} {x : Str} {p pos : Pos} {e : Expr} {es : List Expr} {t : TA} (D : DefOk X.prog X.w X.K X.mg X.base (L2.CX X.prog X.w) k x ps sp) (hr : Room k X.A) (hg : Gl X x) (tk : Takes X W) (ha : PA X (e :: es) t)
    (hdb : (x == ("__debug__" : Str)) = false := by decide) (he : starEach (e :: es) X.env = (false, eval e X.env) :: starEach es X.env := by rfl) (hpl : (backTo pos (starEach es X.env)).any (·.1) = false := by rfl) :
    PE X (.Call (.Name x p) (e :: es) [] pos) (tCallS sp (WE W) t) := by
  obtain ⟨f, fd, hm, hk, hb, F⟩ := D.ex
  exact pe_callS F hr hg hm hk hb (fun σ => passAt tk σ) ha hdb he hpl
theorem g_callS {sp : Sp} {E : L2.St → XK} {tA : TA} {σ : L2.St} {H : Hp} {Q : VK} (h : tA σ H fun vs H1 => sp vs H1 Q (E σ)) : tCallS sp E tA σ H Q := h
/-- a list or a tuple -/
def iSeq (K : PySem.W.Frag) (te : TE) : TI := fun σ H R => iList K te σ H R ∨ iTup K te σ H R
theorem pi_seq {tg l : Expr} {tl : TE} (hl : PE X l tl) : PI X tg l (iSeq X.K tl) := ⟨fun pins s σ H R I q => q.elim ((pi_list hl).run pins s σ H R I) ((pi_tup hl).run pins s σ H R I)⟩
theorem pi_seqK {K : PySem.W.Frag} (hK : X.K = K) {tg l : Expr} {tl : TE} (hl : PE X l tl) : PI X tg l (iSeq K tl) := hK ▸ pi_seq hl
theorem pe_fldK {K : PySem.W.Frag} (hK : X.K = K) {e : Expr} {f : Str} {pos : Pos} {ta : TE} (he : PE X e ta) (hb : attributeBase e f X.env (eval e X.env) = eval e X.env) : PE X (.Attribute e f pos) (tFld K ta f) := hK ▸ pe_fld he hb
end
end Fp

namespace Fp
open PySem L2
def top (i : Nat) : Stmt := PySem.Challenge.pw_frontparts_k23_whole_crossings.main.body.getD i (.Pass ⟨0, 0, 0, 0⟩)
abbrev s_BadBag_init : Stmt := inClass (top 2) 0
abbrev N_BadBag_init : List Str := ["self", "part"]
theorem st_BadBag_init : ∀ v0 v1 : V, start N_BadBag_init [v0, v1] = [some v0, some v1] := fun _ _ => rfl
abbrev s_is_integer : Stmt := top 10
abbrev N_is_integer : List Str := ["thing"]
theorem st_is_integer : ∀ v0 : V, start N_is_integer [v0] = [some v0] := fun _ => rfl
theorem sc_is_integer : FnScope N_is_integer ["thing"] (defScope s_is_integer) := ⟨rfl, rfl, rfl, by decide +kernel, rfl, by decide +kernel, by decide +kernel⟩
abbrev s_is_within : Stmt := top 11
abbrev N_is_within : List Str := ["thing", "least", "most"]
theorem st_is_within : ∀ v0 v1 v2 : V, start N_is_within [v0, v1, v2] = [some v0, some v1, some v2] := fun _ _ _ => rfl
theorem sc_is_within : FnScope N_is_within ["thing", "least", "most"] (defScope s_is_within) := ⟨rfl, rfl, rfl, by decide +kernel, rfl, by decide +kernel, by decide +kernel⟩
abbrev s_is_clock : Stmt := top 12
abbrev N_is_clock : List Str := ["thing"]
theorem st_is_clock : ∀ v0 : V, start N_is_clock [v0] = [some v0] := fun _ => rfl
theorem sc_is_clock : FnScope N_is_clock ["thing"] (defScope s_is_clock) := ⟨rfl, rfl, rfl, by decide +kernel, rfl, by decide +kernel, by decide +kernel⟩
abbrev s_is_word : Stmt := top 13
abbrev N_is_word : List Str := ["thing", "letter"]
theorem st_is_word : ∀ v0 : V, start N_is_word [v0] = [some v0, none] := fun _ => rfl
theorem sc_is_word : FnScope N_is_word ["thing"] (defScope s_is_word) := ⟨rfl, rfl, rfl, by decide +kernel, rfl, by decide +kernel, by decide +kernel⟩
abbrev s_is_short_word : Stmt := top 14
abbrev N_is_short_word : List Str := ["thing"]
theorem st_is_short_word : ∀ v0 : V, start N_is_short_word [v0] = [some v0] := fun _ => rfl
theorem sc_is_short_word : FnScope N_is_short_word ["thing"] (defScope s_is_short_word) := ⟨rfl, rfl, rfl, by decide +kernel, rfl, by decide +kernel, by decide +kernel⟩
abbrev s_check_number : Stmt := top 15
abbrev N_check_number : List Str := ["thing", "least", "most"]
theorem st_check_number : ∀ v0 v1 v2 : V, start N_check_number [v0, v1, v2] = [some v0, some v1, some v2] := fun _ _ _ => rfl
theorem sc_check_number : FnScope N_check_number ["thing", "least", "most"] (defScope s_check_number) := ⟨rfl, rfl, rfl, by decide +kernel, rfl, by decide +kernel, by decide +kernel⟩
abbrev s_inverse : Stmt := top 17
abbrev N_inverse : List Str := ["clock", "number", "found", "step"]
theorem st_inverse : ∀ v0 v1 : V, start N_inverse [v0, v1] = [some v0, some v1, none, none] := fun _ _ => rfl
theorem sc_inverse : FnScope N_inverse ["clock", "number"] (defScope s_inverse) := ⟨rfl, rfl, rfl, by decide +kernel, rfl, by decide +kernel, by decide +kernel⟩
abbrev s_ahead_key : Stmt := top 18
abbrev N_ahead_key : List Str := ["word"]
theorem st_ahead_key : ∀ v0 : V, start N_ahead_key [v0] = [some v0] := fun _ => rfl
theorem sc_ahead_key : FnScope N_ahead_key ["word"] (defScope s_ahead_key) := ⟨rfl, rfl, rfl, by decide +kernel, rfl, by decide +kernel, by decide +kernel⟩
abbrev s_words_in_order : Stmt := top 19
abbrev N_words_in_order : List Str := ["sparse"]
theorem st_words_in_order : ∀ v0 : V, start N_words_in_order [v0] = [some v0] := fun _ => rfl
theorem sc_words_in_order : FnScope N_words_in_order ["sparse"] (defScope s_words_in_order) := ⟨rfl, rfl, rfl, by decide +kernel, rfl, by decide +kernel, by decide +kernel⟩
abbrev s_first_word : Stmt := top 20
abbrev N_first_word : List Str := ["sparse"]
theorem st_first_word : ∀ v0 : V, start N_first_word [v0] = [some v0] := fun _ => rfl
theorem sc_first_word : FnScope N_first_word ["sparse"] (defScope s_first_word) := ⟨rfl, rfl, rfl, by decide +kernel, rfl, by decide +kernel, by decide +kernel⟩
abbrev s_size : Stmt := top 21
abbrev N_size : List Str := ["sparse", "word"]
theorem st_size : ∀ v0 : V, start N_size [v0] = [some v0, none] := fun _ => rfl
theorem sc_size : FnScope N_size ["sparse"] (defScope s_size) := ⟨rfl, rfl, rfl, by decide +kernel, rfl, by decide +kernel, by decide +kernel⟩
abbrev s_put_to : Stmt := top 22
abbrev N_put_to : List Str := ["clock", "sparse", "word", "number", "total"]
theorem st_put_to : ∀ v0 v1 v2 v3 : V, start N_put_to [v0, v1, v2, v3] = [some v0, some v1, some v2, some v3, none] := fun _ _ _ _ => rfl
theorem sc_put_to : FnScope N_put_to ["clock", "sparse", "word", "number"] (defScope s_put_to) := ⟨rfl, rfl, rfl, by decide +kernel, rfl, by decide +kernel, by decide +kernel⟩
abbrev s_product : Stmt := top 23
abbrev N_product : List Str := ["clock", "one", "other", "found", "front", "back"]
theorem st_product : ∀ v0 v1 v2 : V, start N_product [v0, v1, v2] = [some v0, some v1, some v2, none, none, none] := fun _ _ _ => rfl
theorem sc_product : FnScope N_product ["clock", "one", "other"] (defScope s_product) := ⟨rfl, rfl, rfl, by decide +kernel, rfl, by decide +kernel, by decide +kernel⟩
abbrev s_are_words : Stmt := top 25
abbrev N_are_words : List Str := ["clock", "thing", "word"]
theorem st_are_words : ∀ v0 v1 : V, start N_are_words [v0, v1] = [some v0, some v1, none] := fun _ _ => rfl
theorem sc_are_words : FnScope N_are_words ["clock", "thing"] (defScope s_are_words) := ⟨rfl, rfl, rfl, by decide +kernel, rfl, by decide +kernel, by decide +kernel⟩
abbrev s_Bag_init : Stmt := inClass (top 26) 0
abbrev N_Bag_init : List Str := ["self", "clock", "words"]
theorem st_Bag_init : ∀ v0 v1 v2 : V, start N_Bag_init [v0, v1, v2] = [some v0, some v1, some v2] := fun _ _ _ => rfl
theorem sc_Bag_init : FnScope N_Bag_init ["self", "clock", "words"] (defScope s_Bag_init) := ⟨rfl, rfl, rfl, by decide +kernel, rfl, by decide +kernel, by decide +kernel⟩
abbrev s_Bag_keep : Stmt := inClass (top 26) 1
abbrev N_Bag_keep : List Str := ["self", "clock", "sparse", "word"]
theorem st_Bag_keep : ∀ v0 v1 v2 : V, start N_Bag_keep [v0, v1, v2] = [some v0, some v1, some v2, none] := fun _ _ _ => rfl
theorem sc_Bag_keep : FnScope N_Bag_keep ["self", "clock", "sparse"] (defScope s_Bag_keep) := ⟨rfl, rfl, rfl, by decide +kernel, rfl, by decide +kernel, by decide +kernel⟩
abbrev s_Bag_eq : Stmt := inClass (top 26) 2
abbrev N_Bag_eq : List Str := ["self", "other"]
theorem st_Bag_eq : ∀ v0 v1 : V, start N_Bag_eq [v0, v1] = [some v0, some v1] := fun _ _ => rfl
theorem sc_Bag_eq : FnScope N_Bag_eq ["self", "other"] (defScope s_Bag_eq) := ⟨rfl, rfl, rfl, by decide +kernel, rfl, by decide +kernel, by decide +kernel⟩
abbrev s_RawBag_init : Stmt := inClass (top 27) 0
abbrev N_RawBag_init : List Str := ["self", "clock", "sparse"]
theorem st_RawBag_init : ∀ v0 v1 v2 : V, start N_RawBag_init [v0, v1, v2] = [some v0, some v1, some v2] := fun _ _ _ => rfl
theorem sc_RawBag_init : FnScope N_RawBag_init ["self", "clock", "sparse"] (defScope s_RawBag_init) := ⟨rfl, rfl, rfl, by decide +kernel, rfl, by decide +kernel, by decide +kernel⟩
abbrev s_raw : Stmt := top 28
abbrev N_raw : List Str := ["clock", "sparse"]
theorem st_raw : ∀ v0 v1 : V, start N_raw [v0, v1] = [some v0, some v1] := fun _ _ => rfl
theorem sc_raw : FnScope N_raw ["clock", "sparse"] (defScope s_raw) := ⟨rfl, rfl, rfl, by decide +kernel, rfl, by decide +kernel, by decide +kernel⟩
abbrev s_is_level : Stmt := top 30
abbrev N_is_level : List Str := ["sparse", "word"]
theorem st_is_level : ∀ v0 : V, start N_is_level [v0] = [some v0, none] := fun _ => rfl
theorem sc_is_level : FnScope N_is_level ["sparse"] (defScope s_is_level) := ⟨rfl, rfl, rfl, by decide +kernel, rfl, by decide +kernel, by decide +kernel⟩
abbrev s_check_cut : Stmt := top 31
abbrev N_check_cut : List Str := ["bag", "number"]
theorem st_check_cut : ∀ v0 v1 : V, start N_check_cut [v0, v1] = [some v0, some v1] := fun _ _ => rfl
theorem sc_check_cut : FnScope N_check_cut ["bag", "number"] (defScope s_check_cut) := ⟨rfl, rfl, rfl, by decide +kernel, rfl, by decide +kernel, by decide +kernel⟩
abbrev s_cut_of : Stmt := top 32
abbrev N_cut_of : List Str := ["clock", "sparse", "letters", "lead", "front", "tail", "part", "one", "word", "other"]
theorem st_cut_of : ∀ v0 v1 v2 : V, start N_cut_of [v0, v1, v2] = [some v0, some v1, some v2, none, none, none, none, none, none, none] := fun _ _ _ => rfl
theorem sc_cut_of : FnScope N_cut_of ["clock", "sparse", "letters"] (defScope s_cut_of) := ⟨rfl, rfl, rfl, by decide +kernel, rfl, by decide +kernel, by decide +kernel⟩
abbrev s_cut : Stmt := top 33
abbrev N_cut : List Str := ["bag", "number", "found"]
theorem st_cut : ∀ v0 v1 : V, start N_cut [v0, v1] = [some v0, some v1, none] := fun _ _ => rfl
theorem sc_cut : FnScope N_cut ["bag", "number"] (defScope s_cut) := ⟨rfl, rfl, rfl, by decide +kernel, rfl, by decide +kernel, by decide +kernel⟩
abbrev s_crosses : Stmt := top 34
abbrev N_crosses : List Str := ["clock", "sparse", "words", "one", "other", "tail", "end", "here", "there"]
theorem st_crosses : ∀ v0 v1 v2 : V, start N_crosses [v0, v1, v2] = [some v0, some v1, some v2, none, none, none, none, none, none] := fun _ _ _ => rfl
theorem sc_crosses : FnScope N_crosses ["clock", "sparse", "words"] (defScope s_crosses) := ⟨rfl, rfl, rfl, by decide +kernel, rfl, by decide +kernel, by decide +kernel⟩
abbrev s_crossing : Stmt := top 35
abbrev N_crossing : List Str := ["bag", "number", "lead", "ends", "word", "other", "end", "words"]
theorem st_crossing : ∀ v0 v1 : V, start N_crossing [v0, v1] = [some v0, some v1, none, none, none, none, none, none] := fun _ _ => rfl
theorem sc_crossing : FnScope N_crossing ["bag", "number"] (defScope s_crossing) := ⟨rfl, rfl, rfl, by decide +kernel, rfl, by decide +kernel, by decide +kernel⟩
abbrev s_is_crossing : Stmt := top 36
abbrev N_is_crossing : List Str := ["bag", "number", "thing", "word"]
theorem st_is_crossing : ∀ v0 v1 v2 : V, start N_is_crossing [v0, v1, v2] = [some v0, some v1, some v2, none] := fun _ _ _ => rfl
theorem sc_is_crossing : FnScope N_is_crossing ["bag", "number", "thing"] (defScope s_is_crossing) := ⟨rfl, rfl, rfl, by decide +kernel, rfl, by decide +kernel, by decide +kernel⟩
abbrev s_law_hand : Stmt := top 38
abbrev N_law_hand : List Str := ["_law_script", "_law_cells", "_law_cell"]
theorem st_law_hand : ∀ v0 : V, start N_law_hand [v0] = [some v0, none, none] := fun _ => rfl
theorem sc_law_hand : FnScope N_law_hand ["_law_script"] (defScope s_law_hand) := ⟨rfl, rfl, rfl, by decide +kernel, rfl, by decide +kernel, by decide +kernel⟩
abbrev s_law_draw : Stmt := top 39
abbrev N_law_draw : List Str := ["_law_hand_here", "_law_many", "_law_cell", "_law_digit", "_law_number"]
theorem st_law_draw : ∀ v0 v1 : V, start N_law_draw [v0, v1] = [some v0, some v1, none, none, none] := fun _ _ => rfl
theorem sc_law_draw : FnScope N_law_draw ["_law_hand_here", "_law_many"] (defScope s_law_draw) := ⟨rfl, rfl, rfl, by decide +kernel, rfl, by decide +kernel, by decide +kernel⟩
abbrev s_law_flag : Stmt := top 40
abbrev N_law_flag : List Str := ["_law_told", "_law_due"]
theorem st_law_flag : ∀ v0 v1 : V, start N_law_flag [v0, v1] = [some v0, some v1] := fun _ _ => rfl
theorem sc_law_flag : FnScope N_law_flag ["_law_told", "_law_due"] (defScope s_law_flag) := ⟨rfl, rfl, rfl, by decide +kernel, rfl, by decide +kernel, by decide +kernel⟩
abbrev s_law_some : Stmt := top 41
abbrev N_law_some : List Str := ["_law_hand_here", "_law_things"]
theorem st_law_some : ∀ v0 v1 : V, start N_law_some [v0, v1] = [some v0, some v1] := fun _ _ => rfl
theorem sc_law_some : FnScope N_law_some ["_law_hand_here", "_law_things"] (defScope s_law_some) := ⟨rfl, rfl, rfl, by decide +kernel, rfl, by decide +kernel, by decide +kernel⟩
abbrev s_law_clock : Stmt := top 42
abbrev N_law_clock : List Str := ["_law_hand_here"]
theorem st_law_clock : ∀ v0 : V, start N_law_clock [v0] = [some v0] := fun _ => rfl
theorem sc_law_clock : FnScope N_law_clock ["_law_hand_here"] (defScope s_law_clock) := ⟨rfl, rfl, rfl, by decide +kernel, rfl, by decide +kernel, by decide +kernel⟩
abbrev s_law_is_word : Stmt := top 43
abbrev N_law_is_word : List Str := ["_law_thing", "_law_sign"]
theorem st_law_is_word : ∀ v0 : V, start N_law_is_word [v0] = [some v0, none] := fun _ => rfl
theorem sc_law_is_word : FnScope N_law_is_word ["_law_thing"] (defScope s_law_is_word) := ⟨rfl, rfl, rfl, by decide +kernel, rfl, by decide +kernel, by decide +kernel⟩
abbrev s_law_do_cross : Stmt := top 44
abbrev N_law_do_cross : List Str := ["_law_clock_here", "_law_bag", "_law_letters", "_law_thing", "_law_word", "_law_one", "_law_other", "_law_tail", "_law_end", "_law_here", "_law_there"]
theorem st_law_do_cross : ∀ v0 v1 v2 v3 : V, start N_law_do_cross [v0, v1, v2, v3] = [some v0, some v1, some v2, some v3, none, none, none, none, none, none, none] := fun _ _ _ _ => rfl
theorem sc_law_do_cross : FnScope N_law_do_cross ["_law_clock_here", "_law_bag", "_law_letters", "_law_thing"] (defScope s_law_do_cross) := ⟨rfl, rfl, rfl, by decide +kernel, rfl, by decide +kernel, by decide +kernel⟩
abbrev s_law_bent : Stmt := top 45
abbrev N_law_bent : List Str := ["_law_hand_here", "_law_words", "_law_length", "_law_at", "_law_way", "_law_odd"]
theorem st_law_bent : ∀ v0 v1 v2 : V, start N_law_bent [v0, v1, v2] = [some v0, some v1, some v2, none, none, none] := fun _ _ _ => rfl
theorem sc_law_bent : FnScope N_law_bent ["_law_hand_here", "_law_words", "_law_length"] (defScope s_law_bent) := ⟨rfl, rfl, rfl, by decide +kernel, rfl, by decide +kernel, by decide +kernel⟩
abbrev s_law : Stmt := top 46
abbrev N_law : List Str := ["_law_script", "_law_hand_here", "_law_turn", "_law_clock_here", "_law_length", "_law_parts", "_law_k", "_law_j", "_law_bag", "_law_letters", "_law_told", "_law_fronts", "_law_word", "_law_ends", "_law_again", "_law_words", "_law_thing", "_law_due"]
theorem st_law : ∀ v0 : V, start N_law [v0] = [some v0, none, none, none, none, none, none, none, none, none, none, none, none, none, none, none, none, none] := fun _ => rfl
theorem sc_law : FnScope N_law ["_law_script"] (defScope s_law) := ⟨rfl, rfl, rfl, by decide +kernel, rfl, by decide +kernel, by decide +kernel⟩
local macro_rules | `(tactic| walk_at "hp") => `(tactic| first | assumption | rfl)
local macro_rules | `(tactic| walk_at "cond") => `(tactic| first | assumption | decide | omega | (unfold CMul; omega) | (refine ⟨?_, ?_⟩ <;> omega) | (unfold CDiv; omega) | (unfold CPow; omega))
local macro_rules | `(tactic| walk_at "g1") => `(tactic| first
  | with_reducible first
    | refine g_seq ?_ | refine g_asg ?_ | refine g_name ?_ | refine g_ret ?_ | refine g_retN ?_ | refine g_drop ?_ | refine g_ifs ?_
    | refine g_c ?_ | refine g_op ?_ | refine g_un ?_ | refine g_I0 ?_ | refine g_U ?_
    | refine g_test ?_ | refine g_tB ?_ | refine g_bl ?_ | refine g_and ?_ | refine g_or ?_ | refine g_not ?_
    | refine g_andV ?_ | refine g_orV ?_ | refine g_notV ?_ | refine g_if ?_ | refine g_nil ?_ | refine g_cons ?_ | refine g_cb ?_ | refine g_call ?_
    | refine g_lst ?_ | refine g_tup ?_ | refine g_itT ?_ | refine g_itF ?_ | refine g_itNT ?_ | refine g_itNF ?_ | refine g_lc ?_ | refine g_iStr ?_ | refine g_yes ?_ | refine g_exs ?_
    | refine g_chain ?_ | refine g_dget ?_ | refine g_dput ?_ | refine g_dget2 ?_ | refine g_dpop2 ?_ | refine g_fld ?_ | refine g_sfld ?_ | refine g_make ?_ | refine g_meth ?_
    | refine g_bm ?_ | refine g_kw ?_ | refine g_callS ?_ | refine g_revL ?_ | refine g_m1 ?_ | refine g_gsub ?_ | refine g_for ?_ | refine g_iList ?_ | refine g_iTup ?_ | refine g_iRng1 ?_ | refine g_iRng2 ?_ | refine g_sl ?_ | refine g_part ?_ | refine g_noPart ?_
    | refine g_exi ?_ | refine g_exr ?_ | refine g_dnew ?_ | refine g_disp ?_ | refine g_prs0 ?_ | refine g_prs ?_ | refine g_nxt ?_
  | ((with_reducible refine g_var (v := ?vv) ?gv ?_); (case gv => exact rfl))
  | ((with_reducible refine g_I ?gc ?_); (case gc => walk_at "cond"))
  | ((with_reducible refine g_eq ?ge ?_); (case ge => exact rfl))
  | ((with_reducible refine g_ne ?ge ?_); (case ge => exact rfl))
  | (refine g_ixl (SqL.of (by first | assumption | exact upd_same)) rfl ?_)
  | (refine g_setl (by first | assumption | exact upd_same) rfl ?_)
  | ((with_reducible show (∃ i, [V.int _] = [V.int i] ∧ _) ∨ _); refine Or.inl ⟨_, rfl, ?_⟩)
  | ((with_reducible show ∃ i, [V.int _] = [V.int i] ∧ _); refine ⟨_, rfl, ?_⟩)
  | dsimp only)
local macro_rules | `(tactic| walk_at "go") => `(tactic| repeat (walk_at "g1"))

/-! ### what stands in the module -/
structure Blt (mg : Str → Option Value) : Prop where
  b_isinstance : mg "isinstance" = none
  b_int : mg "int" = none
  b_bool : mg "bool" = none
  b_str : mg "str" = none
  b_dict : mg "dict" = none
  b_list : mg "list" = none
  b_tuple : mg "tuple" = none
  b_len : mg "len" = none
  b_abs : mg "abs" = none
  b_all : mg "all" = none
  b_any : mg "any" = none
  b_max : mg "max" = none
  b_min : mg "min" = none
  b_range : mg "range" = none
  b_sorted : mg "sorted" = none
  b_sum : mg "sum" = none
  b_zip : mg "zip" = none
  b_enumerate : mg "enumerate" = none
  b_repr : mg "repr" = none
  b_set : mg "set" = none
structure Txt (K : PySem.W.Frag) (mg : Str → Option Value) (C_Bag : Addr) (Cs : Addr → Prop) : Prop extends Blt mg where
  g_LETTERS : ∃ t, mg "LETTERS" = some (.str "xyz" t)
  g_MOST_LETTERS : ∃ t, mg "MOST_LETTERS" = some (.int 12 t)
  g_MOST_WORDS : ∃ t, mg "MOST_WORDS" = some (.int 300 t)
  g_CLOCKS : ∃ a, mg "CLOCKS" = some (.ref a) ∧ SqT K (fun _ => none) a [.int 2, .int 3, .int 5, .int 7]
  c_Bag : mg "Bag" = some (.ref C_Bag)
  cls : ∀ C, Cs C → Cls K C
  n_clock : ∀ C, Cs C → NoAttr K C "clock"
  n_sparse : ∀ C, Cs C → NoAttr K C "sparse"
  n_kept : ∀ C, Cs C → NoAttr K C "kept"
  n_words : ∀ C, Cs C → NoAttr K C "words"
  c_class : ∀ C, Cs C → PySem.W.findIn K (.ref C) "__class__" = some (some (.builtin "object.__class__"))
  c_get : PySem.W.specialIn K (.builtin "object.__class__") "__get__" = some (some (.builtin "getset_descriptor.__get__"))
  c_takes : PySem.W.takesIn K (.builtin "object.__class__") = some true
  c_obj : ∀ C, Cs C → PySem.W.mroIn K C (.type "object") = some true
  c_isB : ∀ C, Cs C → PySem.W.kitOne K (.ref C) (.ref C_Bag) = some true
  c_base : Cs C_Bag
  c_pl : ∀ C, Cs C → ∀ t ∈ (["NoneType", "bool", "int", "str", "list", "tuple", "dict"] : List String), PySem.W.notFirst K C (.type t) = true
  c_two : ∀ C D, Cs C → Cs D → PySem.W.notFirst K C (.ref D) = true ∨ (D ≠ C ∧ PySem.W.subIn K (.ref D) (.ref C) = some true)
  c_nb : ∀ t ∈ (["NoneType", "bool", "int", "str", "list", "tuple", "dict"] : List String), PySem.W.kitOne K (.type t) (.ref C_Bag) = some false
section
variable {P : Program} {w : World} {K : PySem.W.Frag} {mg : Str → Option Value} {base : Heap} {C_Bag : Addr} {Cs : Addr → Prop}
theorem g_isi {x : V} {n : String} {t : Value} {b : Bool} {H : Hp} {Q : VK} (ht : TyX K H x t) (hk : PySem.W.kitOne K t (.type n) = some b) (h : Q (.bl b) H) : rIsi K [x, .ty n] H Q := ⟨x, .ty n, t, _, b, rfl, .ty n, ht, hk, h⟩
theorem g_isC {x : V} {C : Addr} {t : Value} {b : Bool} {H : Hp} {Q : VK} (ht : TyX K H x t) (hk : PySem.W.kitOne K t (.ref C) = some b) (h : Q (.bl b) H) : rIsi K [x, .ref C] H Q := ⟨x, .ref C, t, _, b, rfl, .own C, ht, hk, h⟩
/-- the type of a bag -/
theorem bag_ty (T : Txt K mg C_Bag Cs) {H : Hp} {a C dx : Addr} {fs : List (Str × V)} (hc : Cs C) (h : H a = some (.ins C dx fs)) : TyX K H (.ref a) (.ref C) :=
  .base (.ins h (T.cls C hc) (T.c_class C hc) T.c_get T.c_takes (T.c_obj C hc))
/-! ### what things are -/
/-- an integer, or no integer -/
def IntIs (K : PySem.W.Frag) (H : Hp) (x : V) (b : Bool) : Prop := (∃ i, x = .int i ∧ b = true) ∨ (∃ c, x = .bl c ∧ b = false) ∨ (∃ t, TyX K H x t ∧ PySem.W.kitOne K t (.type "int") = some false ∧ b = false)
def WithinIs (K : PySem.W.Frag) (H : Hp) (x : V) (lo hi : Int) (b : Bool) : Prop := (∃ i, x = .int i ∧ b = (decide (lo ≤ i) && decide (i ≤ hi))) ∨ (IntIs K H x false ∧ b = false)
def ClockIs (K : PySem.W.Frag) (H : Hp) (x : V) (b : Bool) : Prop := (∃ i, x = .int i ∧ b = decide (i = 2 ∨ i = 3 ∨ i = 5 ∨ i = 7)) ∨ (IntIs K H x false ∧ b = false)
def isW (w : Str) : Bool := w.cps.toList.all fun c => decide (c ∈ ("xyz" : Str).cps.toList)
def WordIs (K : PySem.W.Frag) (H : Hp) (x : V) (b : Bool) : Prop := (∃ w : Str, x = .str w ∧ w.length ≤ 10000000 ∧ b = isW w) ∨ (∃ t, TyX K H x t ∧ PySem.W.kitOne K t (.type "str") = some false ∧ b = false)
def isSW (w : Str) : Bool := isW w && decide (w.length ≤ 12)
def ShortIs (K : PySem.W.Frag) (H : Hp) (x : V) (b : Bool) : Prop := (∃ w : Str, x = .str w ∧ w.length ≤ 10000000 ∧ b = isSW w) ∨ (∃ t, TyX K H x t ∧ PySem.W.kitOne K t (.type "str") = some false ∧ b = false)
def sp_is_integer (K : PySem.W.Frag) : Sp := fun vs H Q _ => ∃ x b, vs = [x] ∧ IntIs K H x b ∧ Q (.bl b) H
def sp_is_within (K : PySem.W.Frag) : Sp := fun vs H Q _ => ∃ x lo hi b, vs = [x, .int lo, .int hi] ∧ WithinIs K H x lo hi b ∧ Q (.bl b) H
def sp_is_clock (K : PySem.W.Frag) : Sp := fun vs H Q _ => ∃ x b, vs = [x] ∧ ClockIs K H x b ∧ Q (.bl b) H
def sp_is_word (K : PySem.W.Frag) : Sp := fun vs H Q _ => ∃ x b, vs = [x] ∧ WordIs K H x b ∧ ∀ H', Ex H H' → Q (.bl b) H'
def sp_is_short_word (K : PySem.W.Frag) : Sp := fun vs H Q _ => ∃ x b, vs = [x] ∧ ShortIs K H x b ∧ ∀ H', Ex H H' → Q (.bl b) H'
/-! ### checks -/
theorem ok_is_integer {f : Addr} {fd : FuncData} (F : Fun K "is_integer" "is_integer" s_is_integer f fd) (T : Txt K mg C_Bag Cs) : FnOk P w K mg base CX0 1 f fd ["thing"] (sp_is_integer K) := by
  refine F.ok sc_is_integer (fun vs H Q E h => ?_) (fun cdv A outer s H vs Q E hr h => ?_)
  · obtain ⟨x, b, rfl, _⟩ := h
    rfl
  · obtain ⟨x, b, rfl, hi, k⟩ := h
    have hu := hu_of hr; have hu64 := L2.Room.units hr; refine ⟨_, (pss_one (ps_ret (pe_and (pe_callB (r := rIsi K) call_isi (by rfl) T.b_isinstance (by decide +kernel) (pa_cons (pv 0) (pa_cons (pe_bltn (v := .ty "int") rfl T.b_int (by decide +kernel) rfl) pa_nil))) (pe_one (pe_not (pe_callB (r := rIsi K) call_isi (by rfl) T.b_isinstance (by decide +kernel) (pa_cons (pv 0) (pa_cons (pe_bltn (v := .ty "bool") rfl T.b_bool (by decide +kernel) rfl) pa_nil)))))))), ?_⟩; rw [st_is_integer]; (try dsimp only [cxOf]); walk_at "go"
    rcases hi with ⟨i, rfl, rfl⟩ | ⟨c, rfl, rfl⟩ | ⟨t, ht, hk, rfl⟩
    · refine g_isi (n := "int") (t := .type "int") (b := true) (.base (.int i)) (kit_ty (by decide +kernel)) ?_
      walk_at "go"
      refine g_isi (n := "bool") (t := .type "int") (b := false) (.base (.int i)) (kit_ty (by decide +kernel)) ?_
      walk_at "go"
      exact k
    · refine g_isi (n := "int") (t := .type "bool") (b := true) (.base (.bl c)) (kit_ty (by decide +kernel)) ?_
      walk_at "go"
      refine g_isi (n := "bool") (t := .type "bool") (b := true) (.base (.bl c)) (kit_ty (by decide +kernel)) ?_
      walk_at "go"
      exact k
    · refine g_isi (b := false) ht hk ?_
      walk_at "go"
      exact k
theorem ok_is_within {f : Addr} {fd : FuncData} (F : Fun K "is_within" "is_within" s_is_within f fd) (T : Txt K mg C_Bag Cs) (D_is_integer : DefOk P w K mg base CX0 1 "is_integer" ["thing"] (sp_is_integer K)) : FnOk P w K mg base CX0 2 f fd ["thing", "least", "most"] (sp_is_within K) := by
  refine F.ok sc_is_within (fun vs H Q E h => ?_) (fun cdv A outer s H vs Q E hr h => ?_)
  · obtain ⟨x, lo, hi, b, rfl, _⟩ := h
    rfl
  · obtain ⟨x, lo, hi, b, rfl, hi', k⟩ := h
    have hu := hu_of hr; have hu64 := L2.Room.units hr; refine ⟨_, (pss_one (ps_ret (pe_and (pe_callD D_is_integer (hr.mono (by decide)) rfl pass0 (pa_cons (pv 0) pa_nil)) (pe_one (pe_chain op_le op_le (pv 1) (pv 0) (pv 2)))))), ?_⟩; rw [st_is_within]; (try dsimp only [cxOf]); walk_at "go"
    rcases hi' with ⟨i, rfl, rfl⟩ | ⟨hi', rfl⟩
    · refine ⟨_, true, rfl, .inl ⟨i, rfl, rfl⟩, ?_⟩
      walk_at "go"
      by_cases h1 : lo ≤ i
      · rw [decide_eq_true h1] at k ⊢
        walk_at "go"
        exact k
      · rw [decide_eq_false h1] at k ⊢
        walk_at "go"
        exact k
    · refine ⟨_, false, rfl, hi', ?_⟩
      walk_at "go"
      exact k
theorem inV_clocks (i : Int) : inV (.int i) [.int 2, .int 3, .int 5, .int 7] = decide (i = 2 ∨ i = 3 ∨ i = 5 ∨ i = 7) := by
  rw [Bool.eq_iff_iff]
  simp [inV, eqV]
  omega
theorem ok_is_clock {f : Addr} {fd : FuncData} (F : Fun K "is_clock" "is_clock" s_is_clock f fd) (T : Txt K mg C_Bag Cs) (D_is_integer : DefOk P w K mg base CX0 1 "is_integer" ["thing"] (sp_is_integer K)) : FnOk P w K mg base CX0 2 f fd ["thing"] (sp_is_clock K) := by
  refine F.ok sc_is_clock (fun vs H Q E h => ?_) (fun cdv A outer s H vs Q E hr h => ?_)
  · obtain ⟨x, b, rfl, _⟩ := h
    rfl
  · obtain ⟨x, b, rfl, hi', k⟩ := h
    obtain ⟨a_CLOCKS, T_CLOCKS, hC⟩ := T.g_CLOCKS
    have hu := hu_of hr; have hu64 := L2.Room.units hr; refine ⟨_, (pss_one (ps_ret (pe_and (pe_callD D_is_integer (hr.mono (by decide)) rfl pass0 (pa_cons (pv 0) pa_nil)) (pe_one (pe_cmpR op_in_seq (pv 0) (pe_glob (v := .ref a_CLOCKS) rfl T_CLOCKS rfl) (by rfl)))))), ?_⟩; rw [st_is_clock]; (try dsimp only [cxOf]); walk_at "go"
    rcases hi' with ⟨i, rfl, rfl⟩ | ⟨hi', rfl⟩
    · refine ⟨_, true, rfl, .inl ⟨i, rfl, rfl⟩, ?_⟩
      walk_at "go"
      have hC' : SqT K H a_CLOCKS [.int 2, .int 3, .int 5, .int 7] := hC.elim (fun h => h.elim (fun h => nomatch h) fun ⟨_, h⟩ => nomatch h) .inr
      refine ⟨a_CLOCKS, _, rfl, .inr hC', rfl, rfl, ?_⟩
      rw [if_neg Bool.false_ne_true, inV_clocks]
      exact k
    · refine ⟨_, false, rfl, hi', ?_⟩
      walk_at "go"
      exact k
theorem ok_is_word {f : Addr} {fd : FuncData} (F : Fun K "is_word" "is_word" s_is_word f fd) (T : Txt K mg C_Bag Cs) : FnOk P w K mg base CX0 1 f fd ["thing"] (sp_is_word K) := by
  refine F.ok sc_is_word (fun vs H Q E h => ?_) (fun cdv A outer s H vs Q E hr h => ?_)
  · obtain ⟨x, b, rfl, _⟩ := h
    rfl
  · obtain ⟨x, b, rfl, hi', k⟩ := h
    obtain ⟨tL, T_LETTERS⟩ := T.g_LETTERS
    have hu := hu_of hr; have hu64 := L2.Room.units hr; refine ⟨_, (pss_one (ps_ret (pe_and (pe_callB (r := rIsi K) call_isi (by rfl) T.b_isinstance (by decide +kernel) (pa_cons (pv 0) (pa_cons (pe_bltn (v := .ty "str") rfl T.b_str (by decide +kernel) rfl) pa_nil))) (pe_one (pe_callB (r := rAll K) (cr_all rfl) (by rfl) T.b_all (by decide +kernel) (pa_cons (pe_lc (own := [("letter", 1)]) (g := (gName 1)) (tt := tYes) rfl sc_is_word.nd (pi_str (pv 0)) (blkOk_by (N := N_is_word) (sc := defScope s_is_word) (by decide +kernel)) (fun _ _ _ _ _ => (pg_name (i := 1) sc_is_word.nd rfl (by first | exact Or.inl rfl | exact Or.inr rfl))) (fun _ _ _ _ _ => pts_nil) (fun _ _ _ _ _ => (pe_cmpR op_in_sign (pv 1) (pe_glob (v := .str "xyz") rfl T_LETTERS ⟨_, rfl⟩) (by rfl)))) pa_nil)))))), ?_⟩; rw [st_is_word]; (try dsimp only [cxOf]); walk_at "go"
    rcases hi' with ⟨z, rfl, hz, rfl⟩ | ⟨t, ht, hk, rfl⟩
    · refine g_isi (n := "str") (t := .type "str") (b := true) (.base (.str z)) (kit_ty (by decide +kernel)) ?_
      walk_at "go"
      have hsz : z.cps.size ≤ sizeLine := Nat.le_trans hz (by decide)
      refine lc_pure (j := 1) walk_str (z.cps.toList.map fun c => V.bl (decide (c ∈ ("xyz" : Str).cps.toList))) (by simp) hsz (fun _ _ => trivial) (fun _ => rfl) ?_ ?_
      · rintro i x y H1 H2 Kc hi e ⟨rfl, c, hc, rfl⟩ hy hk
        walk_at "go"
        have hy' : y = V.bl (decide (c ∈ ("xyz" : Str).cps.toList)) := by
          rw [List.getElem?_map, Array.getElem?_toList, hc] at hy
          exact (Option.some.inj hy).symm
        subst hy'
        exact ⟨c, _, rfl, rfl, hk _ (Ex.refl _)⟩
      · intro D H' hD e hl
        walk_at "go"
        refine ⟨D, z.cps.toList.map fun c => decide (c ∈ ("xyz" : Str).cps.toList), rfl, SqL.of (by rw [List.map_map]; exact hl), ?_⟩
        have e2 : ((z.cps.toList.map fun c => decide (c ∈ ("xyz" : Str).cps.toList)).all id) = isW z := by
          unfold isW
          rw [List.all_map]
          rfl
        rw [e2]
        exact k _ e
    · refine g_isi (b := false) ht hk ?_
      walk_at "go"
      exact k _ (Ex.refl _)
theorem ok_is_short_word {f : Addr} {fd : FuncData} (F : Fun K "is_short_word" "is_short_word" s_is_short_word f fd) (T : Txt K mg C_Bag Cs) (D_is_word : DefOk P w K mg base CX0 1 "is_word" ["thing"] (sp_is_word K)) : FnOk P w K mg base CX0 2 f fd ["thing"] (sp_is_short_word K) := by
  refine F.ok sc_is_short_word (fun vs H Q E h => ?_) (fun cdv A outer s H vs Q E hr h => ?_)
  · obtain ⟨x, b, rfl, _⟩ := h
    rfl
  · obtain ⟨x, b, rfl, hi', k⟩ := h
    obtain ⟨tL, T_MOST_LETTERS⟩ := T.g_MOST_LETTERS
    have hu := hu_of hr; have hu64 := L2.Room.units hr; refine ⟨_, (pss_one (ps_ret (pe_and (pe_callD D_is_word (hr.mono (by decide)) rfl pass0 (pa_cons (pv 0) pa_nil)) (pe_one (pe_cmpR op_le (pe_callB call_len_str (by rfl) T.b_len (by decide +kernel) (pa_cons (pv 0) pa_nil)) (pe_glob (v := .int 12) rfl T_MOST_LETTERS ⟨_, rfl⟩) (nomark _)))))), ?_⟩; rw [st_is_short_word]; (try dsimp only [cxOf]); walk_at "go"
    rcases hi' with ⟨z, rfl, hz, rfl⟩ | ⟨t, ht, hk, rfl⟩
    · refine ⟨_, _, rfl, .inl ⟨z, rfl, hz, rfl⟩, fun H' e => ?_⟩
      walk_at "go"
      have k' := k H' e
      unfold isSW at k'
      cases hb : isW z
      · rw [hb] at k'
        walk_at "go"
        exact k'
      · rw [hb] at k'
        walk_at "go"
        refine ⟨z, rfl, Nat.le_trans hz (by decide), ?_⟩
        walk_at "go"
        have e3 : decide ((z.length : Int) ≤ 12) = decide (z.length ≤ 12) := by
          rw [Bool.eq_iff_iff]; simp; omega
        rw [e3]
        exact k'
    · refine ⟨_, _, rfl, .inr ⟨t, ht, hk, rfl⟩, fun H' e => ?_⟩
      walk_at "go"
      exact k _ e
end

end Fp

namespace Fp
open PySem L2
section
variable {P : Program} {w : World} {K : PySem.W.Frag} {mg : Str → Option Value} {base : Heap} {C_Bag : Addr} {Cs : Addr → Prop}
local macro_rules | `(tactic| walk_at "hp") => `(tactic| first | assumption | rfl)
local macro_rules | `(tactic| walk_at "cond") => `(tactic| first | assumption | decide | omega | (unfold CMul; omega) | (refine ⟨?_, ?_⟩ <;> omega) | (unfold CDiv; omega) | (unfold CPow; omega))
local macro_rules | `(tactic| walk_at "g1") => `(tactic| first
  | with_reducible first
    | refine g_seq ?_ | refine g_asg ?_ | refine g_name ?_ | refine g_ret ?_ | refine g_retN ?_ | refine g_drop ?_ | refine g_ifs ?_
    | refine g_c ?_ | refine g_op ?_ | refine g_un ?_ | refine g_I0 ?_ | refine g_U ?_
    | refine g_test ?_ | refine g_tB ?_ | refine g_bl ?_ | refine g_and ?_ | refine g_or ?_ | refine g_not ?_
    | refine g_andV ?_ | refine g_orV ?_ | refine g_notV ?_ | refine g_if ?_ | refine g_nil ?_ | refine g_cons ?_ | refine g_cb ?_ | refine g_call ?_
    | refine g_lst ?_ | refine g_tup ?_ | refine g_itT ?_ | refine g_itF ?_ | refine g_itNT ?_ | refine g_itNF ?_ | refine g_lc ?_ | refine g_iStr ?_ | refine g_yes ?_ | refine g_exs ?_
    | refine g_chain ?_ | refine g_dget ?_ | refine g_dput ?_ | refine g_dget2 ?_ | refine g_dpop2 ?_ | refine g_fld ?_ | refine g_sfld ?_ | refine g_make ?_ | refine g_meth ?_
    | refine g_bm ?_ | refine g_kw ?_ | refine g_callS ?_ | refine g_revL ?_ | refine g_m1 ?_ | refine g_gsub ?_ | refine g_for ?_ | refine g_iList ?_ | refine g_iTup ?_ | refine g_iRng1 ?_ | refine g_iRng2 ?_ | refine g_sl ?_ | refine g_part ?_ | refine g_noPart ?_
    | refine g_exi ?_ | refine g_exr ?_ | refine g_dnew ?_ | refine g_disp ?_ | refine g_prs0 ?_ | refine g_prs ?_ | refine g_nxt ?_
  | ((with_reducible refine g_var (v := ?vv) ?gv ?_); (case gv => exact rfl))
  | ((with_reducible refine g_I ?gc ?_); (case gc => walk_at "cond"))
  | ((with_reducible refine g_eq ?ge ?_); (case ge => exact rfl))
  | ((with_reducible refine g_ne ?ge ?_); (case ge => exact rfl))
  | (refine g_ixl (SqL.of (by first | assumption | exact upd_same)) rfl ?_)
  | (refine g_setl (by first | assumption | exact upd_same) rfl ?_)
  | ((with_reducible show (∃ i, [V.int _] = [V.int i] ∧ _) ∨ _); refine Or.inl ⟨_, rfl, ?_⟩)
  | ((with_reducible show ∃ i, [V.int _] = [V.int i] ∧ _); refine ⟨_, rfl, ?_⟩)
  | dsimp only)
local macro_rules | `(tactic| walk_at "go") => `(tactic| repeat (walk_at "g1"))

/-! ### the law's hand -/
structure HandAt (H : Hp) (h c : Addr) : Prop where
  ex : ∃ (i b m n : Int), H h = some (.lst [.ref c, .int i, .int b, .int m, .int n]) ∧ 0 ≤ i
  cs : ∃ cs : List Int, H c = some (.lst (cs.map V.int))
  ne : c ≠ h
theorem HandAt.ex' {H H' : Hp} {h c : Addr} (e : Ex H H') (x : HandAt H h c) : HandAt H' h c := by
  obtain ⟨⟨i, b, m, n, h1, h2⟩, ⟨cs, h3⟩, h4⟩ := x
  exact ⟨⟨i, b, m, n, e _ _ h1, h2⟩, ⟨cs, e _ _ h3⟩, h4⟩
theorem HandAt.kind {H : Hp} {h c : Addr} (x : HandAt H h c) : ∃ xs, H h = some (.lst xs) := by
  obtain ⟨⟨i, b, m, n, h1, h2⟩, _⟩ := x
  exact ⟨_, h1⟩
theorem HandAt.upd {H : Hp} {h c d : Addr} {o : HO} (x : HandAt H h c) (hd : d ≠ h) (hc : d ≠ c) : HandAt (upd H d o) h c := by
  obtain ⟨⟨i, b, m, n, h1, h2⟩, ⟨cs, h3⟩, h4⟩ := x
  exact ⟨⟨i, b, m, n, by rw [upd_ne (Ne.symm hd)]; exact h1, h2⟩, ⟨cs, by rw [upd_ne (Ne.symm hc)]; exact h3⟩, h4⟩
/-- but f's object all stands, and f is neither of the hand's -/
theorem HandAt.exb {H H' : Hp} {h c f : Addr} (e : ExB f H H') (x : HandAt H h c) (hf : f ≠ h) (hc : f ≠ c) : HandAt H' h c := by
  obtain ⟨⟨i, b, m, n, h1, h2⟩, ⟨cs, h3⟩, h4⟩ := x
  exact ⟨⟨i, b, m, n, e _ _ (Ne.symm hf) h1, h2⟩, ⟨cs, e _ _ (Ne.symm hc) h3⟩, h4⟩
theorem HandAt.new {H : Hp} {h c p : Addr} (x : HandAt H h c) (hp : H p = none) : p ≠ h ∧ p ≠ c := by
  obtain ⟨⟨i, b, m, n, h1, h2⟩, ⟨cs, h3⟩, h4⟩ := x
  exact ⟨Ne.symm (ne_of_none h1 hp), Ne.symm (ne_of_none h3 hp)⟩
def sp_law_hand (K : PySem.W.Frag) : Sp := fun vs H Q _ => ∃ (a : Addr) (ns : List Int), vs = [.ref a] ∧ SqL K H a (ns.map V.int) ∧ ∀ h c H', Ex H H' → H h = none → HandAt H' h c → Q (.ref h) H'
def sp_law_draw : Sp := fun vs H Q _ => ∃ (h c : Addr) (m : Int), vs = [.ref h, .int m] ∧ HandAt H h c ∧ 0 < m ∧ m ≤ 1000000 ∧ ∀ v H', 0 ≤ v → v < m → ExB h H H' → HandAt H' h c → Q (.int v) H'
theorem cutV_int (ns : List Int) (lo hi : Option Int) : ∃ ms : List Int, cutV (ns.map V.int) lo hi = ms.map V.int := by
  unfold cutV
  exact ⟨(ns.drop _).take _, by rw [List.map_take, List.map_drop]⟩
theorem ok_law_hand {f : Addr} {fd : FuncData} (F : Fun K "_law_hand" "_law_hand" s_law_hand f fd) (T : Txt K mg C_Bag Cs) : FnOk P w K mg base CX0 1 f fd ["_law_script"] (sp_law_hand K) := by
  refine F.ok sc_law_hand (fun vs H Q E h => ?_) (fun cdv A outer s H vs Q E hr h => ?_)
  · obtain ⟨a, ns, rfl, _⟩ := h
    rfl
  · obtain ⟨a, ns, rfl, hs, k⟩ := h
    have hu := hu_of hr; have hu64 := L2.Room.units hr; refine ⟨_, (pss_cons (ps_setLc (i := 1) (own := [("_law_cell", 2)]) (g := (gName 2)) (tt := tYes) rfl sc_law_hand.nd rfl rfl rfl (pi_list (pe_slice sl_list (pv 0) po_none (po_some pe_int))) (blkOk_by (N := N_law_hand) (sc := defScope s_law_hand) (by decide +kernel)) (fun _ _ _ _ _ => (pg_name (i := 2) sc_law_hand.nd rfl (by first | exact Or.inl rfl | exact Or.inr rfl))) (fun _ _ _ _ _ => pts_nil) (fun _ _ _ _ _ => (pe_callB call_abs (by rfl) T.b_abs (by decide +kernel) (pa_cons (pe_callTy call_int1 (by rfl) T.b_int (by decide +kernel) (pa_cons (pv 2) pa_nil)) pa_nil)))) (pss_one (ps_ret (pe_lst (pa_cons (pv 1) (pa_cons pe_int (pa_cons pe_int (pa_cons (pe_op op_add pe_int (pe_callB call_len_seq (by rfl) T.b_len (by decide +kernel) (pa_cons (pv 1) pa_nil))) (pa_cons pe_int pa_nil))))))))), ?_⟩; rw [st_law_hand]; (try dsimp only [cxOf]); walk_at "go"
    obtain ⟨ms, hms⟩ := cutV_int ns none (some 63)
    refine ⟨_, _, rfl, hs, fun p hp => ?_⟩
    rw [hms]
    walk_at "go"
    refine ⟨⟨_, SqL.of upd_same⟩, ?_⟩
    have e0 : Ex H (upd H p (.lst (ms.map V.int))) := Ex.new hp
    have hz : ms.length ≤ 63 := by
      have : (cutV (ns.map V.int) none (some 63)).length = ms.length := by rw [hms, List.length_map]
      rw [← this]
      unfold cutV
      rw [List.length_take]
      have : HT.sIx (ns.map V.int).length (ns.map V.int).length (some 63) ≤ 63 := by
        unfold HT.sIx
        simp
        omega
      omega
    refine lc_pure (j := 2) walk_list (ms.map fun i => V.int (if i < 0 then -i else i)) (by simp) (by rw [List.length_map]; exact Nat.le_trans hz (by decide)) (fun H' e => SqL.of (e _ _ upd_same)) (fun _ => rfl) ?_ ?_
    · rintro i x y H1 H2 Kc hi e ⟨rfl, hx⟩ hy hk
      rw [List.getElem?_map] at hx hy
      cases hm : ms[i]? with
      | none => rw [hm] at hx; cases hx
      | some z =>
        rw [hm] at hx hy
        obtain rfl := (Option.some.inj hx).symm
        obtain rfl := (Option.some.inj hy).symm
        walk_at "go"
        exact hk _ (Ex.refl _)
    · intro D H' hD e hl
      walk_at "go"
      have hl' : H' D = some (.lst ((ms.map fun i => if i < 0 then -i else i).map V.int)) := by rw [hl, List.map_map]; rfl
      refine ⟨_, _, rfl, .inl (SqL.of hl), ?_⟩
      walk_at "go"
      refine ⟨Nat.le_of_ble_eq_true rfl, fun q hq => ?_⟩
      have hn : D ≠ q := ne_of_none hl' hq
      exact k _ _ _ ((e0.trans e).trans (Ex.new hq)) ((e0.trans e).free hq) ⟨⟨0, 0, _, 0, upd_same, Int.le_refl _⟩, ⟨_, by rw [upd_ne hn]; exact hl'⟩, hn⟩
theorem ok_law_draw {f : Addr} {fd : FuncData} (F : Fun K "_law_draw" "_law_draw" s_law_draw f fd) (T : Txt K mg C_Bag Cs) : FnOk P w K mg base CX0 1 f fd ["_law_hand_here", "_law_many"] sp_law_draw := by
  refine F.ok sc_law_draw (fun vs H Q E h => ?_) (fun cdv A outer s H vs Q E hr h => ?_)
  · obtain ⟨a, c, m, rfl, _⟩ := h
    rfl
  · obtain ⟨h, c, m, rfl, hh, hm0, hm1, k⟩ := h
    obtain ⟨⟨i, b, mm, n, h1, h4⟩, ⟨cs, h2⟩, h3⟩ := hh
    have hu := hu_of hr; have hu64 := L2.Room.units hr; refine ⟨_, (pss_cons (ps_if (PW.pt (pw_and (pt_cmpR op_eq (pe_ix (r := rIxL K) ix_list (pv 0) pe_int (fun _ _ => rfl)) pe_int (nomark _)) (pw_and1 (pt_cmpR op_lt (pe_ix (r := rIxL K) ix_list (pv 0) pe_int (fun _ _ => rfl)) (pe_callB call_len_seq (by rfl) T.b_len (by decide +kernel) (pa_cons (pe_ix (r := rIxL K) ix_list (pv 0) pe_int (fun _ _ => rfl)) pa_nil)) (nomark _))))) (pss_cons (ps_set (i := 2) sc_law_draw.nd rfl (by first | exact Or.inl rfl | exact Or.inr rfl) (pe_ix (r := rIxL K) ix_list (pe_ix (r := rIxL K) ix_list (pv 0) pe_int (fun _ _ => rfl)) (pe_ix (r := rIxL K) ix_list (pv 0) pe_int (fun _ _ => rfl)) (fun _ _ => rfl))) (pss_cons (ps_asg (pe_op op_add (pe_ix (r := rIxL K) ix_list (pv 0) pe_int (fun _ _ => rfl)) pe_int) (pg_sub (pv 0) pe_int set_list)) (pss_cons (ps_asg (pe_op op_mod (pe_callTy call_int1 (by rfl) T.b_int (by decide +kernel) (pa_cons (pe_op op_add (pe_op op_add (pe_op op_mul (pe_ix (r := rIxL K) ix_list (pv 0) pe_int (fun _ _ => rfl)) pe_int) (pv 2)) pe_int) pa_nil)) pe_int) (pg_sub (pv 0) pe_int set_list)) (pss_one (ps_if (pt_cmpR op_ge (pv 2) (pe_op op_pow pe_int pe_int) (nomark _)) (pss_one (ps_asg (pv 2) (pg_sub (pv 0) pe_int set_list))) pss_nil))))) pss_nil) (pss_cons (ps_if (pt_cmpR op_gt (pe_ix (r := rIxL K) ix_list (pv 0) pe_int (fun _ _ => rfl)) pe_int (nomark _)) (pss_cons (ps_set (i := 3) sc_law_draw.nd rfl (by first | exact Or.inl rfl | exact Or.inr rfl) (pe_op op_mod (pe_callTy call_int1 (by rfl) T.b_int (by decide +kernel) (pa_cons (pe_ix (r := rIxL K) ix_list (pv 0) pe_int (fun _ _ => rfl)) pa_nil)) (pv 1))) (pss_cons (ps_asg (pe_op op_fdiv (pe_ix (r := rIxL K) ix_list (pv 0) pe_int (fun _ _ => rfl)) (pv 1)) (pg_sub (pv 0) pe_int set_list)) (pss_one (ps_ret (pv 3))))) pss_nil) (pss_cons (ps_asg (pe_op op_add (pe_ix (r := rIxL K) ix_list (pv 0) pe_int (fun _ _ => rfl)) pe_int) (pg_sub (pv 0) pe_int set_list)) (pss_cons (ps_set (i := 4) sc_law_draw.nd rfl (by first | exact Or.inl rfl | exact Or.inr rfl) (pe_op op_mod (pe_callTy call_int1 (by rfl) T.b_int (by decide +kernel) (pa_cons (pe_op op_mul (pe_callTy call_int1 (by rfl) T.b_int (by decide +kernel) (pa_cons (pe_op op_add (pe_ix (r := rIxL K) ix_list (pv 0) pe_int (fun _ _ => rfl)) (pe_op op_mul pe_int (pe_ix (r := rIxL K) ix_list (pv 0) pe_int (fun _ _ => rfl)))) pa_nil)) pe_int) pa_nil)) pe_int)) (pss_cons (ps_set (i := 4) sc_law_draw.nd rfl (by first | exact Or.inl rfl | exact Or.inr rfl) (pe_op op_mod (pe_callTy call_int1 (by rfl) T.b_int (by decide +kernel) (pa_cons (pe_op op_mul (pv 4) (pe_op op_add (pe_op op_fdiv (pv 4) pe_int) pe_int)) pa_nil)) pe_int)) (pss_cons (ps_set (i := 4) sc_law_draw.nd rfl (by first | exact Or.inl rfl | exact Or.inr rfl) (pe_op op_mod (pe_callTy call_int1 (by rfl) T.b_int (by decide +kernel) (pa_cons (pe_op op_mul (pv 4) (pe_op op_add (pe_op op_fdiv (pv 4) pe_int) pe_int)) pa_nil)) pe_int)) (pss_one (ps_ret (pe_op op_mod (pe_callTy call_int1 (by rfl) T.b_int (by decide +kernel) (pa_cons (pe_op op_fdiv (pv 4) pe_int) pa_nil)) (pv 1)))))))))), ?_⟩; rw [st_law_draw]; (try dsimp only [cxOf])
    refine g_cut (R := fun σ' H' => ∃ x i b mm n, σ' = [some (.ref h), some (.int m), x, none, none] ∧ H' h = some (.lst [.ref c, .int i, .int b, .int mm, .int n]) ∧ H' c = some (.lst (cs.map V.int)) ∧ 0 ≤ i ∧ ExB h H H') (fun N hN => ?_) ?_
    · walk_at "go"
      have hsame : N [some (.ref h), some (.int m), none, none, none] H := hN _ _ ⟨none, i, b, mm, n, rfl, h1, h2, h4, ExB.refl _ _⟩
      by_cases hb : V.int b = V.int 0
      · rw [decide_eq_true hb]
        walk_at "go"
        refine ⟨c, cs.map V.int, rfl, .inl (SqL.of h2), ?_⟩
        walk_at "go"
        by_cases hi : i < ((cs.map V.int).length : Int)
        · rw [decide_eq_true hi]
          walk_at "go"
          have hi' : i.toNat < cs.length := by rw [List.length_map] at hi; omega
          refine g_ixl (SqL.of h2) (atI_get h4 (by rw [List.getElem?_map, List.getElem?_eq_getElem hi']; rfl)) ?_
          walk_at "go"
          have ew : ExB h H (upd (upd H h (HO.lst [V.ref c, V.int (i + 1), V.int b, V.int mm, V.int n])) h (.lst [V.ref c, V.int (i + 1), V.int b, V.int ((mm * 69621 + cs[i.toNat] + 11) % 2147483629), V.int n])) := ((ExB.refl h H).upd).upd
          refine g_ite (fun _ => ?_) fun _ => ?_
          · walk_at "go"
            refine hN _ _ ⟨some (.int cs[i.toNat]), i + 1, _, _, n, rfl, upd_same, ?_, by omega, ew.upd⟩
            rw [upd_ne h3, upd_ne h3, upd_ne h3]
            exact h2
          · walk_at "go"
            refine hN _ _ ⟨some (.int cs[i.toNat]), i + 1, b, _, n, rfl, upd_same, ?_, by omega, ew⟩
            rw [upd_ne h3, upd_ne h3]
            exact h2
        · rw [decide_eq_false hi]
          walk_at "go"
          exact hsame
      · rw [decide_eq_false hb]
        walk_at "go"
        exact hsame
    · rintro σ' H' ⟨x, i, b, mm, n, rfl, h1, h2, h4, e⟩
      walk_at "go"
      by_cases hb : 0 < b
      · rw [decide_eq_true hb]
        walk_at "go"
        exact k _ _ (Int.emod_nonneg _ (by omega)) (Int.emod_lt_of_pos _ hm0) e.upd ⟨⟨i, _, mm, n, upd_same, h4⟩, ⟨cs, by rw [upd_ne h3]; exact h2⟩, h3⟩
      · rw [decide_eq_false hb]
        walk_at "go"
        exact k _ _ (Int.emod_nonneg _ (by omega)) (Int.emod_lt_of_pos _ hm0) e.upd ⟨⟨i, b, mm, _, upd_same, h4⟩, ⟨cs, by rw [upd_ne h3]; exact h2⟩, h3⟩
/-! ### the law's sums and products -/
def sp_law_put : Sp := fun vs H Q _ => ∃ (p : Int) (d : Addr) (s : Bg) (z : Str) (n : Int), vs = [.int p, .ref d, .str z, .int n] ∧ H d = some (.dK (toK s)) ∧ s.length < 10000000 ∧ 0 < p ∧
  Q .non (upd H d (.dK (toK (addTo p s z n))))
def sp_law_plus : Sp := fun vs H Q _ => ∃ (p : Int) (a b : Addr) (s t : Bg) (f : Int), vs = [.int p, .ref a, .ref b, .int f] ∧ Rd H a (.dK (toK s)) ∧ Rd H b (.dK (toK t)) ∧ (keys t).Nodup ∧ s.length + t.length < 10000000 ∧ 0 < p ∧ (-1000000 < f ∧ f < 1000000) ∧
  ∀ d H', Ex H H' → H d = none → H' d = some (.dK (toK (plusS p s t f))) → Q (.ref d) H'
theorem foldl_take {α β : Type} (g : β → α → β) (l : List α) (i : Nat) (a : α) (x : β) (h : l[i]? = some a) : (l.take (i + 1)).foldl g x = g ((l.take i).foldl g x) a := by
  rw [List.take_add_one, h, List.foldl_append]
  rfl
def sp_law_product : Sp := fun vs H Q _ => ∃ (p : Int) (a b : Addr) (s t : Bg), vs = [.int p, .ref a, .ref b] ∧ Rd H a (.dK (toK s)) ∧ Rd H b (.dK (toK t)) ∧ (keys s).Nodup ∧ (keys t).Nodup ∧ s.length * t.length < 10000000 ∧ 0 < p ∧ Good 1000000 s ∧
  (∀ u ∈ keys s, u.length ≤ 5000000) ∧ (∀ u ∈ keys t, u.length ≤ 5000000) ∧ ∀ d H', Ex H H' → H d = none → H' d = some (.dK (toK (prodS p s t))) → Q (.ref d) H'
end
end Fp

namespace Fp
open PySem L2
section
variable {P : Program} {w : World} {K : PySem.W.Frag} {mg : Str → Option Value} {base : Heap} {C_Bag : Addr} {Cs : Addr → Prop}
local macro_rules | `(tactic| walk_at "hp") => `(tactic| first | assumption | rfl)
local macro_rules | `(tactic| walk_at "cond") => `(tactic| first | assumption | decide | omega | (unfold CMul; omega) | (refine ⟨?_, ?_⟩ <;> omega) | (unfold CDiv; omega) | (unfold CPow; omega))
local macro_rules | `(tactic| walk_at "g1") => `(tactic| first
  | with_reducible first
    | refine g_seq ?_ | refine g_asg ?_ | refine g_name ?_ | refine g_ret ?_ | refine g_retN ?_ | refine g_drop ?_ | refine g_ifs ?_
    | refine g_c ?_ | refine g_op ?_ | refine g_un ?_ | refine g_I0 ?_ | refine g_U ?_
    | refine g_test ?_ | refine g_tB ?_ | refine g_bl ?_ | refine g_and ?_ | refine g_or ?_ | refine g_not ?_
    | refine g_andV ?_ | refine g_orV ?_ | refine g_notV ?_ | refine g_if ?_ | refine g_nil ?_ | refine g_cons ?_ | refine g_cb ?_ | refine g_call ?_
    | refine g_lst ?_ | refine g_tup ?_ | refine g_itT ?_ | refine g_itF ?_ | refine g_itNT ?_ | refine g_itNF ?_ | refine g_lc ?_ | refine g_iStr ?_ | refine g_yes ?_ | refine g_exs ?_
    | refine g_chain ?_ | refine g_dget ?_ | refine g_dput ?_ | refine g_dget2 ?_ | refine g_dpop2 ?_ | refine g_fld ?_ | refine g_sfld ?_ | refine g_make ?_ | refine g_meth ?_
    | refine g_bm ?_ | refine g_kw ?_ | refine g_callS ?_ | refine g_revL ?_ | refine g_m1 ?_ | refine g_gsub ?_ | refine g_for ?_ | refine g_iList ?_ | refine g_iTup ?_ | refine g_iRng1 ?_ | refine g_iRng2 ?_ | refine g_sl ?_ | refine g_part ?_ | refine g_noPart ?_
    | refine g_exi ?_ | refine g_exr ?_ | refine g_dnew ?_ | refine g_disp ?_ | refine g_prs0 ?_ | refine g_prs ?_ | refine g_nxt ?_
  | ((with_reducible refine g_var (v := ?vv) ?gv ?_); (case gv => exact rfl))
  | ((with_reducible refine g_I ?gc ?_); (case gc => walk_at "cond"))
  | ((with_reducible refine g_eq ?ge ?_); (case ge => exact rfl))
  | ((with_reducible refine g_ne ?ge ?_); (case ge => exact rfl))
  | (refine g_ixl (SqL.of (by first | assumption | exact upd_same)) rfl ?_)
  | (refine g_setl (by first | assumption | exact upd_same) rfl ?_)
  | ((with_reducible show (∃ i, [V.int _] = [V.int i] ∧ _) ∨ _); refine Or.inl ⟨_, rfl, ?_⟩)
  | ((with_reducible show ∃ i, [V.int _] = [V.int i] ∧ _); refine ⟨_, rfl, ?_⟩)
  | dsimp only)
local macro_rules | `(tactic| walk_at "go") => `(tactic| repeat (walk_at "g1"))

/-! ### words in order -/
def sp_law_order : Sp := fun vs H Q _ => ∃ (d : Addr) (s : Bg), vs = [.ref d] ∧ Rd H d (.dK (toK s)) ∧ s.length ≤ 10000000 ∧ (∀ u ∈ keys s, u.length ≤ 10000000) ∧
  ∀ l H', Ex H H' → H l = none → H' l = some (.lst ((ordW (keys s)).map V.str)) → Q (.ref l) H'
def sp_law_words : Sp := fun vs H Q _ => ∃ (d : Addr) (s : Bg), vs = [.ref d] ∧ Rd H d (.dK (toK s)) ∧ s.length ≤ 10000000 ∧ (∀ u ∈ keys s, u.length ≤ 10000000) ∧ (keys s).Nodup ∧
  ∀ t H', Ex H H' → H t = none → WordsAt H' t (wordsS s) → Q (.ref t) H'
theorem bs_of {H : Hp} {as : List Addr} {es : Bg} (h : Paired (fun a (e : Str × Int) => H a = some (.tup [.int (-(e.1.length : Int)), .str e.1])) as es) :
    ∃ bs : List (Addr × Str), as.map V.ref = bs.map (fun b => V.ref b.1) ∧ bs.map (·.2) = keys es ∧ ∀ b ∈ bs, H b.1 = some (.tup [.int (-(b.2.length : Int)), .str b.2]) := by
  induction h with
  | nil => exact ⟨[], rfl, rfl, fun _ h => nomatch h⟩
  | @cons a e as es h1 _ ih =>
    obtain ⟨bs, h2, h3, h4⟩ := ih
    refine ⟨(a, e.1) :: bs, by rw [List.map_cons, List.map_cons, h2], by rw [List.map_cons, h3]; rfl, fun b hb => ?_⟩
    rcases List.mem_cons.mp hb with rfl | hb
    · exact h1
    · exact h4 b hb
theorem pairs_at {s : Bg} {ws : List Str} {H : Hp} {as : List Addr} (h : Paired (fun a z => H a = some (.tup [.str z, .int (cf s z)])) as ws) : Paired (fun a (kv : Str × Int) => H a = some (.tup [.str kv.1, .int kv.2])) as (ws.map fun z => (z, cf s z)) :=
  paired_mapr h fun _ _ q => q
theorem getS_cf {s : Bg} {z : Str} (h : z ∈ keys s) : getS s z = some (cf s z) := by
  unfold cf
  cases q : getS s z with
  | none => exact absurd h (getS_none.mp q)
  | some n => rfl
/-! ### clocks and words at random -/
def sp_law_clock : Sp := fun vs H Q _ => ∃ (h c : Addr), vs = [.ref h] ∧ HandAt H h c ∧ ∀ p H', (p = 2 ∨ p = 3 ∨ p = 5 ∨ p = 7) → ExB h H H' → HandAt H' h c → Q (.int p) H'
def sp_law_word : Sp := fun vs H Q _ => ∃ (h c : Addr) (z : Str) (m : Int), vs = [.ref h, .str z, .int m] ∧ HandAt H h c ∧ 0 < z.length ∧ z.length ≤ 100 ∧ isW z = true ∧ 0 ≤ m ∧ m ≤ 1000 ∧
  ∀ u H', (u.length : Int) ≤ m → isW u = true → ExB h H H' → HandAt H' h c → Q (.str u) H'
end
end Fp

namespace Fp
open PySem L2
section
variable {P : Program} {w : World} {K : PySem.W.Frag} {mg : Str → Option Value} {base : Heap} {C_Bag : Addr} {Cs : Addr → Prop}
local macro_rules | `(tactic| walk_at "hp") => `(tactic| first | assumption | rfl)
local macro_rules | `(tactic| walk_at "cond") => `(tactic| first | assumption | decide | omega | (unfold CMul; omega) | (refine ⟨?_, ?_⟩ <;> omega) | (unfold CDiv; omega) | (unfold CPow; omega))
local macro_rules | `(tactic| walk_at "g1") => `(tactic| first
  | with_reducible first
    | refine g_seq ?_ | refine g_asg ?_ | refine g_name ?_ | refine g_ret ?_ | refine g_retN ?_ | refine g_drop ?_ | refine g_ifs ?_
    | refine g_c ?_ | refine g_op ?_ | refine g_un ?_ | refine g_I0 ?_ | refine g_U ?_
    | refine g_test ?_ | refine g_tB ?_ | refine g_bl ?_ | refine g_and ?_ | refine g_or ?_ | refine g_not ?_
    | refine g_andV ?_ | refine g_orV ?_ | refine g_notV ?_ | refine g_if ?_ | refine g_nil ?_ | refine g_cons ?_ | refine g_cb ?_ | refine g_call ?_
    | refine g_lst ?_ | refine g_tup ?_ | refine g_itT ?_ | refine g_itF ?_ | refine g_itNT ?_ | refine g_itNF ?_ | refine g_lc ?_ | refine g_iStr ?_ | refine g_yes ?_ | refine g_exs ?_
    | refine g_chain ?_ | refine g_dget ?_ | refine g_dput ?_ | refine g_dget2 ?_ | refine g_dpop2 ?_ | refine g_fld ?_ | refine g_sfld ?_ | refine g_make ?_ | refine g_meth ?_
    | refine g_bm ?_ | refine g_kw ?_ | refine g_callS ?_ | refine g_revL ?_ | refine g_m1 ?_ | refine g_gsub ?_ | refine g_for ?_ | refine g_iList ?_ | refine g_iTup ?_ | refine g_iRng1 ?_ | refine g_iRng2 ?_ | refine g_sl ?_ | refine g_part ?_ | refine g_noPart ?_
    | refine g_exi ?_ | refine g_exr ?_ | refine g_dnew ?_ | refine g_disp ?_ | refine g_prs0 ?_ | refine g_prs ?_ | refine g_nxt ?_
  | ((with_reducible refine g_var (v := ?vv) ?gv ?_); (case gv => exact rfl))
  | ((with_reducible refine g_I ?gc ?_); (case gc => walk_at "cond"))
  | ((with_reducible refine g_eq ?ge ?_); (case ge => exact rfl))
  | ((with_reducible refine g_ne ?ge ?_); (case ge => exact rfl))
  | (refine g_ixl (SqL.of (by first | assumption | exact upd_same)) rfl ?_)
  | (refine g_setl (by first | assumption | exact upd_same) rfl ?_)
  | ((with_reducible show (∃ i, [V.int _] = [V.int i] ∧ _) ∨ _); refine Or.inl ⟨_, rfl, ?_⟩)
  | ((with_reducible show ∃ i, [V.int _] = [V.int i] ∧ _); refine ⟨_, rfl, ?_⟩)
  | dsimp only)
local macro_rules | `(tactic| walk_at "go") => `(tactic| repeat (walk_at "g1"))

theorem isW_app {a b : Str} (ha : isW a = true) (hb : isW b = true) : isW (a ++ b) = true := by
  unfold isW at *
  rw [app_toList, List.all_append, ha, hb]
  rfl
theorem isW_empty : isW Str.empty = true := rfl
theorem isW_one {z : Str} {c : Nat} (hz : isW z = true) (h : c ∈ z.cps.toList) : isW ⟨#[c]⟩ = true := by
  unfold isW at *
  have := List.all_eq_true.mp hz c h
  show List.all [c] _ = true
  rw [List.all_cons, this]
  rfl
theorem join_ones : ∀ ys : List Str, (∀ y ∈ ys, y.length = 1 ∧ isW y = true) → (Str.join ("" : Str) ys).length = ys.length ∧ isW (Str.join ("" : Str) ys) = true
  | [], _ => ⟨rfl, rfl⟩
  | [x], h => ⟨(h x List.mem_cons_self).1, (h x List.mem_cons_self).2⟩
  | x :: y :: r, h => by
    have ih := join_ones (y :: r) fun z hz => h z (List.mem_cons_of_mem _ hz)
    have hx := h x List.mem_cons_self
    show (x ++ ("" : Str) ++ Str.join ("" : Str) (y :: r)).length = _ ∧ isW (x ++ ("" : Str) ++ Str.join ("" : Str) (y :: r)) = true
    have e0 : ("" : Str).length = 0 := rfl
    refine ⟨?_, isW_app (isW_app hx.2 rfl) ih.2⟩
    rw [len_app, len_app, hx.1, ih.1, e0]
    simp only [List.length_cons]
    omega
theorem sum_ones {α : Type} : ∀ l : List α, (l.map fun _ => 1).sum = l.length
  | [] => rfl
  | a :: r => by rw [List.map_cons, List.sum_cons, sum_ones r, List.length_cons, Nat.add_comm]
theorem strs_of : ∀ {ys : List V} {Pz : Str → Prop}, (∀ y ∈ ys, ∃ z, y = V.str z ∧ Pz z) → ∃ zs : List Str, ys = zs.map V.str ∧ ∀ z ∈ zs, Pz z
  | [], _, _ => ⟨[], rfl, fun _ h => nomatch h⟩
  | y :: r, Pz, h => by
    obtain ⟨zs, e, hz⟩ := strs_of (ys := r) fun y hy => h y (List.mem_cons_of_mem _ hy)
    obtain ⟨z, e1, h1⟩ := h y List.mem_cons_self
    refine ⟨z :: zs, by rw [e1, e]; rfl, fun u hu => ?_⟩
    rcases List.mem_cons.mp hu with q | q
    · rw [q]; exact h1
    · exact hz u q
end
end Fp

namespace Fp
open PySem L2
section
variable {P : Program} {w : World} {K : PySem.W.Frag} {mg : Str → Option Value} {base : Heap} {C_Bag : Addr} {Cs : Addr → Prop}
local macro_rules | `(tactic| walk_at "hp") => `(tactic| first | assumption | rfl)
local macro_rules | `(tactic| walk_at "cond") => `(tactic| first | assumption | decide | omega | (unfold CMul; omega) | (refine ⟨?_, ?_⟩ <;> omega) | (unfold CDiv; omega) | (unfold CPow; omega))
local macro_rules | `(tactic| walk_at "g1") => `(tactic| first
  | with_reducible first
    | refine g_seq ?_ | refine g_asg ?_ | refine g_name ?_ | refine g_ret ?_ | refine g_retN ?_ | refine g_drop ?_ | refine g_ifs ?_
    | refine g_c ?_ | refine g_op ?_ | refine g_un ?_ | refine g_I0 ?_ | refine g_U ?_
    | refine g_test ?_ | refine g_tB ?_ | refine g_bl ?_ | refine g_and ?_ | refine g_or ?_ | refine g_not ?_
    | refine g_andV ?_ | refine g_orV ?_ | refine g_notV ?_ | refine g_if ?_ | refine g_nil ?_ | refine g_cons ?_ | refine g_cb ?_ | refine g_call ?_
    | refine g_lst ?_ | refine g_tup ?_ | refine g_itT ?_ | refine g_itF ?_ | refine g_itNT ?_ | refine g_itNF ?_ | refine g_lc ?_ | refine g_iStr ?_ | refine g_yes ?_ | refine g_exs ?_
    | refine g_chain ?_ | refine g_dget ?_ | refine g_dput ?_ | refine g_dget2 ?_ | refine g_dpop2 ?_ | refine g_fld ?_ | refine g_sfld ?_ | refine g_make ?_ | refine g_meth ?_
    | refine g_bm ?_ | refine g_kw ?_ | refine g_callS ?_ | refine g_revL ?_ | refine g_m1 ?_ | refine g_gsub ?_ | refine g_for ?_ | refine g_iList ?_ | refine g_iTup ?_ | refine g_iRng1 ?_ | refine g_iRng2 ?_ | refine g_sl ?_ | refine g_part ?_ | refine g_noPart ?_
    | refine g_exi ?_ | refine g_exr ?_ | refine g_dnew ?_ | refine g_disp ?_ | refine g_prs0 ?_ | refine g_prs ?_ | refine g_nxt ?_
  | ((with_reducible refine g_var (v := ?vv) ?gv ?_); (case gv => exact rfl))
  | ((with_reducible refine g_I ?gc ?_); (case gc => walk_at "cond"))
  | ((with_reducible refine g_eq ?ge ?_); (case ge => exact rfl))
  | ((with_reducible refine g_ne ?ge ?_); (case ge => exact rfl))
  | (refine g_ixl (SqL.of (by first | assumption | exact upd_same)) rfl ?_)
  | (refine g_setl (by first | assumption | exact upd_same) rfl ?_)
  | ((with_reducible show (∃ i, [V.int _] = [V.int i] ∧ _) ∨ _); refine Or.inl ⟨_, rfl, ?_⟩)
  | ((with_reducible show ∃ i, [V.int _] = [V.int i] ∧ _); refine ⟨_, rfl, ?_⟩)
  | dsimp only)
local macro_rules | `(tactic| walk_at "go") => `(tactic| repeat (walk_at "g1"))

/-- a dict of words, how many and how long -/
structure Lot (p : Int) (s : Bg) (a b : Nat) : Prop where
  g : Good p s
  n : s.length ≤ a
  l : ∀ u ∈ keys s, u.length ≤ b ∧ isW u = true
theorem Lot.mono {p : Int} {s : Bg} {a b a' b' : Nat} (l : Lot p s a b) (h1 : a ≤ a') (h2 : b ≤ b') : Lot p s a' b' := ⟨l.g, Nat.le_trans l.n h1, fun u hu => ⟨Nat.le_trans (l.l u hu).1 h2, (l.l u hu).2⟩⟩
theorem Lot.nil {p : Int} {a b : Nat} : Lot p [] a b := ⟨Good.nil, Nat.zero_le _, fun _ h => nomatch h⟩
theorem Lot.prod {p : Int} {s t : Bg} {a b c d : Nat} (hp : 0 < p) (l : Lot p s a b) (m : Lot p t c d) : Lot p (prodS p s t) (a * c) (b + d) :=
  ⟨Good.prod hp s t, Nat.le_trans (len_prod (p := p)) (Nat.mul_le_mul l.n m.n), fun u hu => by
    obtain ⟨x, hx, y, hy, rfl⟩ := keys_prod hu
    rw [len_app]
    exact ⟨Nat.add_le_add (l.l x hx).1 (m.l y hy).1, isW_app (l.l x hx).2 (m.l y hy).2⟩⟩
theorem Lot.plus {p : Int} {s t : Bg} {f : Int} {a b c d e : Nat} (hp : 0 < p) (l : Lot p s a b) (m : Lot p t c d) (hb : b ≤ e) (hd : d ≤ e) : Lot p (plusS p s t f) (a + c) e :=
  ⟨Good.plus hp l.g t, Nat.le_trans (len_plus f) (Nat.add_le_add l.n m.n), fun u hu => by
    rcases keys_plus hu with h | h
    · exact ⟨Nat.le_trans (l.l u h).1 hb, (l.l u h).2⟩
    · exact ⟨Nat.le_trans (m.l u h).1 hd, (m.l u h).2⟩⟩
theorem Lot.put {p : Int} {s : Bg} {z : Str} {n : Int} {a b : Nat} (l : Lot p s a b) (h0 : 0 < n) (h1 : n < p) (hz : z.length ≤ b) (hw : isW z = true) : Lot p (putS s z n) (a + 1) b :=
  ⟨l.g.put h0 h1, Nat.le_trans (len_put s z n) (Nat.add_le_add_right l.n 1), fun u hu => by
    rw [keys_put] at hu
    split at hu
    · exact l.l u hu
    · rcases List.mem_append.mp hu with h | h
      · exact l.l u h
      · rw [List.mem_singleton.mp h]; exact ⟨hz, hw⟩⟩
/-- of a few words that are known -/
theorem Lot.of {p : Int} {s : Bg} {a b : Nat} (hn : (keys s).Nodup) (hl : s.length ≤ a) (hk : ∀ u ∈ keys s, u.length ≤ b ∧ isW u = true) (hv : ∀ kv ∈ s, 0 < kv.2 ∧ kv.2 < p) : Lot p s a b :=
  ⟨⟨hn, fun kv h => (hv kv h).1, fun kv h => (hv kv h).2⟩, hl, hk⟩
def sp_law_lot : Sp := fun vs H Q _ => ∃ (h c : Addr) (p : Int) (z : Str) (m n : Nat), vs = [.ref h, .int p, .str z, .int m, .int n] ∧ HandAt H h c ∧ 2 ≤ p ∧ p ≤ 1000 ∧ 0 < z.length ∧ z.length ≤ 100 ∧ isW z = true ∧ m ≤ 999 ∧ n ≤ 999 ∧
  ∀ d s H', ExB h H H' → H d = none → H' d = some (.dK (toK s)) → Lot p s n m → HandAt H' h c → Q (.ref d) H'
def sp_law_small : Sp := fun vs H Q _ => ∃ (h c : Addr) (p : Int), vs = [.ref h, .int p] ∧ HandAt H h c ∧ 2 ≤ p ∧ p ≤ 1000 ∧
  ∀ d s H', ExB h H H' → H d = none → H' d = some (.dK (toK s)) → Lot p s 3 2 → HandAt H' h c → Q (.ref d) H'
def sp_law_woven : Sp := fun vs H Q _ => ∃ (h c : Addr) (p m : Int), vs = [.ref h, .int p, .int m] ∧ HandAt H h c ∧ 2 ≤ p ∧ p ≤ 1000 ∧ 0 < m ∧ m ≤ 1000 ∧
  ∀ d s H', ExB h H H' → H d = none → H' d = some (.dK (toK s)) → Lot p s 120 7 → HandAt H' h c → Q (.ref d) H'
def sp_law_some : Sp := fun vs H Q _ => ∃ (h c : Addr) (p : Int), vs = [.ref h, .int p] ∧ HandAt H h c ∧ 2 ≤ p ∧ p ≤ 1000 ∧
  ∀ d s H', ExB h H H' → H d = none → H' d = some (.dK (toK s)) → Lot p s 120 7 → HandAt H' h c → Q (.ref d) H'
theorem ExB.one {f d : Addr} {H H' : Hp} {o : HO} (e : ExB f (L2.upd H d o) H') (hd : H d = none) : ExB f H H' := (Ex.new hd).exb.trans e
def small1 (n : Int) : List Bg := [[("x", 1)], [("y", 1)], [("x", 1), ("", n)], [("y", n), ("", 1)], [("x", 1), ("y", n)]]
def small2 (n : Int) : List Bg := [[("xy", 1), ("", n)], [("yx", 1), ("", n)], [("xx", 1), ("y", n)], [("xy", 1), ("yx", n)]]
def small3 (n : Int) : List Bg := [[("xy", n), ("x", 1), ("", 1)], [("", n)], [("z", 1), ("x", n)]]
def okWords (ks : List Str) : Bool := decide ks.Nodup && decide (ks.length ≤ 3) && ks.all fun u => decide (u.length ≤ 2) && isW u
theorem lot_of_ok {p n : Int} {s : Bg} (h : okWords (keys s) = true) (hn0 : 0 < n) (hn1 : n < p) (hv : ∀ kv ∈ s, kv.2 = 1 ∨ kv.2 = n) : Lot p s 3 2 := by
  unfold okWords at h
  simp only [Bool.and_eq_true, decide_eq_true_eq] at h
  obtain ⟨⟨h1, h2⟩, h3⟩ := h
  refine Lot.of h1 (by unfold keys at h2; rw [List.length_map] at h2; exact h2) (fun u hu => ?_) fun kv hkv => ?_
  · have := List.all_eq_true.mp h3 u hu
    simpa using this
  · rcases hv kv hkv with e | e <;> omega
theorem small_lot {p n : Int} (hn0 : 0 < n) (hn1 : n < p) : ∀ s ∈ small1 n ++ small2 n ++ small3 n, Lot p s 3 2 := by
  intro s hs
  have hk : ((small1 n ++ small2 n ++ small3 n).map keys).all okWords = true := by
    show ((small1 0 ++ small2 0 ++ small3 0).map keys).all okWords = true
    decide +kernel
  refine lot_of_ok (List.all_eq_true.mp hk _ (List.mem_map_of_mem hs)) hn0 hn1 ?_
  have hv : ∀ s ∈ small1 n ++ small2 n ++ small3 n, ∀ kv ∈ s, kv.2 = 1 ∨ kv.2 = n := by
    intro s hs kv hkv
    simp only [small1, small2, small3, List.mem_append, List.mem_cons, List.not_mem_nil, or_false] at hs
    rcases hs with ((rfl | rfl | rfl | rfl | rfl) | rfl | rfl | rfl | rfl) | rfl | rfl | rfl <;> simp only [List.mem_cons, List.not_mem_nil, or_false] at hkv
    all_goals first
      | (rcases hkv with rfl | rfl | rfl <;> first | exact .inl rfl | exact .inr rfl)
      | (rcases hkv with rfl | rfl <;> first | exact .inl rfl | exact .inr rfl)
      | (subst hkv; first | exact .inl rfl | exact .inr rfl)
  exact hv s hs
theorem lst_ok {tA : TA} {σ : St} {ss : List Bg} {H : Hp} {Q : VK} (h : ArgsOk tA σ ss) (hz : ss.length ≤ 1000) (q : ∀ l ps H', Ex H H' → H l = none → H' l = some (.lst (ps.map V.ref)) → Paired (fun p s => H p = none ∧ H' p = some (.dK (toK s))) ps ss → Q (.ref l) H') : tLst tA σ H Q :=
  h H _ fun ps H' e hp => ⟨by rw [List.length_map, hp.length]; exact Nat.le_trans hz (by decide), fun l hl => q l ps _ (e.trans (Ex.new hl)) (e.free hl) upd_same (Paired.mapP hp fun _ _ z => ⟨z.1, Ex.new hl _ _ z.2⟩)⟩
theorem small_ne {v : Int} (s : Bg) (hs : s ∈ small1 v ++ small2 v ++ small3 v) : s ≠ [] := by
  unfold small1 small2 small3 at hs
  simp only [List.cons_append, List.nil_append, List.mem_cons, List.not_mem_nil, or_false] at hs
  rcases hs with rfl | rfl | rfl | rfl | rfl | rfl | rfl | rfl | rfl | rfl | rfl | rfl <;> exact List.cons_ne_nil _ _
/-- few words, or three of which two are beginnings -/
def SmK (s : Bg) : Prop := s.length ≤ 2 ∨ keys s = (["xy", "x", ""] : List Str)
theorem small_K {v : Int} (s : Bg) (hs : s ∈ small1 v ++ small2 v ++ small3 v) : SmK s := by
  unfold small1 small2 small3 at hs
  simp only [List.cons_append, List.nil_append, List.mem_cons, List.not_mem_nil, or_false] at hs
  rcases hs with rfl | rfl | rfl | rfl | rfl | rfl | rfl | rfl | rfl | rfl | rfl | rfl <;> first | exact .inl (Nat.le_of_ble_eq_true rfl) | exact .inr rfl
/-- small bags are not nothing -/
def sp_law_smallN : Sp := fun vs H Q _ => ∃ (h c : Addr) (p : Int), vs = [.ref h, .int p] ∧ HandAt H h c ∧ 2 ≤ p ∧ p ≤ 1000 ∧
  ∀ d s H', ExB h H H' → H d = none → H' d = some (.dK (toK s)) → Lot p s 3 2 → s ≠ [] → HandAt H' h c → Q (.ref d) H'
def sp_law_smallI : Sp := fun vs H Q _ => ∃ (h c : Addr) (p : Int), vs = [.ref h, .int p] ∧ HandAt H h c ∧ 2 ≤ p ∧ p ≤ 1000 ∧
  ∀ d s H', ExB h H H' → H d = none → H' d = some (.dK (toK s)) → Lot p s 3 2 → s ≠ [] → SmK s → HandAt H' h c → Q (.ref d) H'
end
end Fp

namespace Fp
open PySem L2
section
variable {P : Program} {w : World} {K : PySem.W.Frag} {mg : Str → Option Value} {base : Heap} {C_Bag : Addr} {Cs : Addr → Prop}
local macro_rules | `(tactic| walk_at "hp") => `(tactic| first | assumption | rfl)
local macro_rules | `(tactic| walk_at "cond") => `(tactic| first | assumption | decide | omega | (unfold CMul; omega) | (refine ⟨?_, ?_⟩ <;> omega) | (unfold CDiv; omega) | (unfold CPow; omega))
local macro_rules | `(tactic| walk_at "g1") => `(tactic| first
  | with_reducible first
    | refine g_seq ?_ | refine g_asg ?_ | refine g_name ?_ | refine g_ret ?_ | refine g_retN ?_ | refine g_drop ?_ | refine g_ifs ?_
    | refine g_c ?_ | refine g_op ?_ | refine g_un ?_ | refine g_I0 ?_ | refine g_U ?_
    | refine g_test ?_ | refine g_tB ?_ | refine g_bl ?_ | refine g_and ?_ | refine g_or ?_ | refine g_not ?_
    | refine g_andV ?_ | refine g_orV ?_ | refine g_notV ?_ | refine g_if ?_ | refine g_nil ?_ | refine g_cons ?_ | refine g_cb ?_ | refine g_call ?_
    | refine g_lst ?_ | refine g_tup ?_ | refine g_itT ?_ | refine g_itF ?_ | refine g_itNT ?_ | refine g_itNF ?_ | refine g_lc ?_ | refine g_iStr ?_ | refine g_yes ?_ | refine g_exs ?_
    | refine g_chain ?_ | refine g_dget ?_ | refine g_dput ?_ | refine g_dget2 ?_ | refine g_dpop2 ?_ | refine g_fld ?_ | refine g_sfld ?_ | refine g_make ?_ | refine g_meth ?_
    | refine g_bm ?_ | refine g_kw ?_ | refine g_callS ?_ | refine g_revL ?_ | refine g_m1 ?_ | refine g_gsub ?_ | refine g_for ?_ | refine g_iList ?_ | refine g_iTup ?_ | refine g_iRng1 ?_ | refine g_iRng2 ?_ | refine g_sl ?_ | refine g_part ?_ | refine g_noPart ?_
    | refine g_exi ?_ | refine g_exr ?_ | refine g_dnew ?_ | refine g_disp ?_ | refine g_prs0 ?_ | refine g_prs ?_ | refine g_nxt ?_
  | ((with_reducible refine g_var (v := ?vv) ?gv ?_); (case gv => exact rfl))
  | ((with_reducible refine g_I ?gc ?_); (case gc => walk_at "cond"))
  | ((with_reducible refine g_eq ?ge ?_); (case ge => exact rfl))
  | ((with_reducible refine g_ne ?ge ?_); (case ge => exact rfl))
  | (refine g_ixl (SqL.of (by first | assumption | exact upd_same)) rfl ?_)
  | (refine g_setl (by first | assumption | exact upd_same) rfl ?_)
  | ((with_reducible show (∃ i, [V.int _] = [V.int i] ∧ _) ∨ _); refine Or.inl ⟨_, rfl, ?_⟩)
  | ((with_reducible show ∃ i, [V.int _] = [V.int i] ∧ _); refine ⟨_, rfl, ?_⟩)
  | dsimp only)
local macro_rules | `(tactic| walk_at "go") => `(tactic| repeat (walk_at "g1"))

theorem Good.up {p q : Int} {s : Bg} (g : Good p s) (h : p ≤ q) : Good q s := ⟨g.nd, g.lo, fun kv hk => by have := g.hi kv hk; omega⟩
end
end Fp

namespace Fp
open PySem L2
section
variable {P : Program} {w : World} {K : PySem.W.Frag} {mg : Str → Option Value} {base : Heap} {C_Bag : Addr} {Cs : Addr → Prop}
local macro_rules | `(tactic| walk_at "hp") => `(tactic| first | assumption | rfl)
local macro_rules | `(tactic| walk_at "cond") => `(tactic| first | assumption | decide | omega | (unfold CMul; omega) | (refine ⟨?_, ?_⟩ <;> omega) | (unfold CDiv; omega) | (unfold CPow; omega))
local macro_rules | `(tactic| walk_at "g1") => `(tactic| first
  | with_reducible first
    | refine g_seq ?_ | refine g_asg ?_ | refine g_name ?_ | refine g_ret ?_ | refine g_retN ?_ | refine g_drop ?_ | refine g_ifs ?_
    | refine g_c ?_ | refine g_op ?_ | refine g_un ?_ | refine g_I0 ?_ | refine g_U ?_
    | refine g_test ?_ | refine g_tB ?_ | refine g_bl ?_ | refine g_and ?_ | refine g_or ?_ | refine g_not ?_
    | refine g_andV ?_ | refine g_orV ?_ | refine g_notV ?_ | refine g_if ?_ | refine g_nil ?_ | refine g_cons ?_ | refine g_cb ?_ | refine g_call ?_
    | refine g_lst ?_ | refine g_tup ?_ | refine g_itT ?_ | refine g_itF ?_ | refine g_itNT ?_ | refine g_itNF ?_ | refine g_lc ?_ | refine g_iStr ?_ | refine g_yes ?_ | refine g_exs ?_
    | refine g_chain ?_ | refine g_dget ?_ | refine g_dput ?_ | refine g_dget2 ?_ | refine g_dpop2 ?_ | refine g_fld ?_ | refine g_sfld ?_ | refine g_make ?_ | refine g_meth ?_
    | refine g_bm ?_ | refine g_kw ?_ | refine g_callS ?_ | refine g_revL ?_ | refine g_m1 ?_ | refine g_gsub ?_ | refine g_for ?_ | refine g_iList ?_ | refine g_iTup ?_ | refine g_iRng1 ?_ | refine g_iRng2 ?_ | refine g_sl ?_ | refine g_part ?_ | refine g_noPart ?_
    | refine g_exi ?_ | refine g_exr ?_ | refine g_dnew ?_ | refine g_disp ?_ | refine g_prs0 ?_ | refine g_prs ?_ | refine g_nxt ?_
  | ((with_reducible refine g_var (v := ?vv) ?gv ?_); (case gv => exact rfl))
  | ((with_reducible refine g_I ?gc ?_); (case gc => walk_at "cond"))
  | ((with_reducible refine g_eq ?ge ?_); (case ge => exact rfl))
  | ((with_reducible refine g_ne ?ge ?_); (case ge => exact rfl))
  | (refine g_ixl (SqL.of (by first | assumption | exact upd_same)) rfl ?_)
  | (refine g_setl (by first | assumption | exact upd_same) rfl ?_)
  | ((with_reducible show (∃ i, [V.int _] = [V.int i] ∧ _) ∨ _); refine Or.inl ⟨_, rfl, ?_⟩)
  | ((with_reducible show ∃ i, [V.int _] = [V.int i] ∧ _); refine ⟨_, rfl, ?_⟩)
  | dsimp only)
local macro_rules | `(tactic| walk_at "go") => `(tactic| repeat (walk_at "g1"))

/-! ### the bags -/
structure KeyFn (K : PySem.W.Frag) (mg : Str → Option Value) : Prop where
  ex : ∃ f fd, Fun K "ahead_key" "ahead_key" s_ahead_key f fd ∧ mg "ahead_key" = some (.ref f) ∧ Binds K fd ["word"] []
theorem ok_words_in_order {f : Addr} {fd : FuncData} (F : Fun K "words_in_order" "words_in_order" s_words_in_order f fd) (T : Txt K mg C_Bag Cs) (KF : KeyFn K mg) : FnOk P w K mg base CX0 4 f fd ["sparse"] sp_law_order := by
  refine F.ok sc_words_in_order (fun vs H Q E h => ?_) (fun cdv A outer s H vs Q E hr h => ?_)
  · obtain ⟨d, s, rfl, _⟩ := h
    rfl
  · obtain ⟨d, s, rfl, hd, hz, hw, k⟩ := h
    obtain ⟨f_ahead_key, fd_ahead_key, F_ahead_key, M_ahead_key, B_ahead_key⟩ := KF.ex
    have hu := hu_of hr; have hu64 := L2.Room.units hr; refine ⟨_, (pss_one (ps_ret (pe_callBK (cr_sortedKey F_ahead_key sc_ahead_key rfl rfl rfl rfl B_ahead_key T.b_len (hr.mono (by decide))) (by rfl) T.b_sorted (by decide +kernel) (pa_cons (pe_callTy (call_listD rfl) (by rfl) T.b_list (by decide +kernel) (pa_cons (pv 0) pa_nil)) pa_nil) (pk_cons (pe_glob (v := .ref f_ahead_key) rfl M_ahead_key rfl) pk_nil)))), ?_⟩; rw [st_words_in_order]; (try dsimp only [cxOf]); walk_at "go"
    refine ⟨d, toK s, rfl, hd, fun p hp => ?_⟩
    rw [toK_keys]
    walk_at "go"
    refine ⟨p, keys s, rfl, rfl, SqL.of upd_same, fun w hw' => line5 (hw w hw'), fun q hq => ?_⟩
    exact k q _ ((Ex.new hp).trans (Ex.new hq)) ((Ex.new hp).free hq) upd_same
def sp_are_words : Sp := fun vs H Q _ => ∃ (p : Int) (d : Addr) (s : Bg), vs = [.int p, .ref d] ∧ H d = some (.dK (toK s)) ∧ Lot p s 300 12 ∧ ∀ H', Ex H H' → Q (.bl true) H'
theorem ok_are_words {f : Addr} {fd : FuncData} (F : Fun K "are_words" "are_words" s_are_words f fd) (T : Txt K mg C_Bag Cs) (D_is_short_word : DefOk P w K mg base CX0 2 "is_short_word" ["thing"] (sp_is_short_word K)) (D_is_within : DefOk P w K mg base CX0 2 "is_within" ["thing", "least", "most"] (sp_is_within K)) : FnOk P w K mg base CX0 3 f fd ["clock", "thing"] sp_are_words := by
  refine F.ok sc_are_words (fun vs H Q E h => ?_) (fun cdv A outer s H vs Q E hr h => ?_)
  · obtain ⟨p, d, s, rfl, _⟩ := h
    rfl
  · obtain ⟨p, d, s, rfl, hd, hl, k⟩ := h
    obtain ⟨tM, T_MOST_WORDS⟩ := T.g_MOST_WORDS
    have hu := hu_of hr; have hu64 := L2.Room.units hr; refine ⟨_, (pss_cons (ps_if (PW.pt (pw_or (pt_not (pt_val (pe_callB (r := rIsi K) call_isi (by rfl) T.b_isinstance (by decide +kernel) (pa_cons (pv 1) (pa_cons (pe_bltn (v := .ty "dict") rfl T.b_dict (by decide +kernel) rfl) pa_nil))))) (pw_or1 (pt_cmpR op_gt (pe_callB call_lenD (by rfl) T.b_len (by decide +kernel) (pa_cons (pv 1) pa_nil)) (pe_glob (v := .int 300) rfl T_MOST_WORDS ⟨_, rfl⟩) (nomark _))))) (pss_one (ps_ret pe_bl)) pss_nil) (pss_one (ps_ret (pe_callB (r := rAll K) (cr_all rfl) (by rfl) T.b_all (by decide +kernel) (pa_cons (pe_lockR (pe_lc (own := [("word", 2)]) (g := (gName 2)) (tt := tYes) rfl sc_are_words.nd (pi_keys (pv 1)) (blkOk_by (N := N_are_words) (sc := defScope s_are_words) (by decide +kernel)) (fun _ _ _ _ _ => (pg_name (i := 2) sc_are_words.nd rfl (by first | exact Or.inl rfl | exact Or.inr rfl))) (fun _ _ _ _ _ => pts_nil) (fun _ _ _ _ _ => (pe_and (pe_callD D_is_short_word (hr.mono (by decide)) rfl pass0 (pa_cons (pv 2) pa_nil)) (pe_one (pe_callD D_is_within (hr.mono (by decide)) rfl pass0 (pa_cons (pe_dget hu (pv 1) (pv 2) (fun _ _ => rfl)) (pa_cons pe_int (pa_cons (pe_op op_sub (pv 0) pe_int) pa_nil))))))))) pa_nil))))), ?_⟩; rw [st_are_words]; (try dsimp only [cxOf]); walk_at "go"
    refine g_isi (n := "dict") (t := .type "dict") (b := true) (.base (.dK hd)) (kit_ty (by decide +kernel)) ?_
    walk_at "go"
    refine ⟨d, _, rfl, hd, ?_⟩
    rw [toK_len]
    walk_at "go"
    have h3 : ¬ ((300 : Int) < (s.length : Int)) := by have := hl.n; omega
    rw [decide_eq_false h3]
    walk_at "go"
    refine lcd_rel (.inl hd) (line5 (Nat.le_trans hl.n (by decide))) (fun H' Q' _ q => ⟨_, rfl, q⟩) (fun e y H => y = V.bl true) (fun e y H H' t h1 => h1) (fun _ => rfl) ?_ ?_
    · intro i z n H1 Kc hi le hk
      obtain ⟨l1, l2⟩ := hl.l z (mem_keys.mpr ⟨n, mem_fr hi⟩)
      have hsw : isSW z = true := by unfold isSW; rw [l2, decide_eq_true l1]; rfl
      walk_at "go"
      refine ⟨_, true, rfl, .inl ⟨z, rfl, by omega, hsw.symm⟩, fun H2 e2 => ?_⟩
      walk_at "go"
      refine g_dg (e2.rd le.self) (getS_at hl.g.nd hi) ?_
      walk_at "go"
      have c1 := hl.g.lo _ (mem_fr hi)
      have c2 := hl.g.hi _ (mem_fr hi)
      dsimp only at c1 c2
      refine ⟨_, 1, p - 1, true, rfl, .inl ⟨n, rfl, ?_⟩, hk _ _ e2 rfl⟩
      rw [decide_eq_true (by omega : (1 : Int) ≤ n), decide_eq_true (by omega : n ≤ p - 1)]
      rfl
    · intro D H1 ys hD e hl1 hp
      have hys := paired_map (G := fun e : Str × Int => V.bl true) hp
      subst hys
      walk_at "go"
      refine ⟨D, s.map fun _ => true, rfl, SqL.of (by rw [hl1, List.map_map]; rfl), ?_⟩
      have : (s.map fun _ => true).all id = true := by rw [List.all_map]; exact List.all_eq_true.mpr fun _ _ => rfl
      rw [this]
      exact k _ e
theorem putF_len (f : Str) (v : V) : ∀ fs : List (Str × V), (putF f v fs).length ≤ fs.length + 1
  | [] => Nat.le_refl _
  | q :: r => by
    obtain ⟨g, u⟩ := q
    unfold putF
    split
    · simp
    · have := putF_len f v r
      simp only [List.length_cons]
      omega
theorem putF_lt {n k : Nat} (h : n ≤ k) (hk : k < 1000) : n < 1000 := Nat.lt_of_le_of_lt h hk
def sp_keep (Cs : Addr → Prop) : Sp := fun vs H Q _ => ∃ (x d : Addr) (p : Int) (s : Bg) (C dx : Addr), vs = [.ref x, .int p, .ref d] ∧ H x = some (.ins C dx []) ∧ Cs C ∧ H d = some (.dK (toK s)) ∧ s.length ≤ 10000000 ∧ (∀ u ∈ keys s, u.length ≤ 10000000) ∧ (keys s).Nodup ∧
  ∀ k t H', ExB x H H' → H' x = some (.ins C dx (bagF p d k t)) → WordsAt H' t (wordsS s) → Q .non H'
theorem ok_keep {f : Addr} {fd : FuncData} (F : Fun K "keep" "Bag.keep" s_Bag_keep f fd) (T : Txt K mg C_Bag Cs) (D_words_in_order : DefOk P w K mg base CX0 4 "words_in_order" ["sparse"] sp_law_order) : FnOk P w K mg base CX0 5 f fd ["self", "clock", "sparse"] (sp_keep Cs) := by
  refine F.ok sc_Bag_keep (fun vs H Q E h => ?_) (fun cdv A outer s H vs Q E hr h => ?_)
  · obtain ⟨x, d, p, s, C, dx, rfl, _⟩ := h
    rfl
  · obtain ⟨x, d, p, s, C, dx, rfl, hx, hc, hd, hz, hw, hn, k⟩ := h
    have hxd : d ≠ x := fun e => by subst e; rw [hx] at hd; cases hd
    have hu := hu_of hr; have hu64 := L2.Room.units hr; refine ⟨_, (pss_cons (ps_fld (pv 0) (pv 1) rfl) (pss_cons (ps_fld (pv 0) (pv 2) rfl) (pss_cons (ps_fld (pv 0) pe_dnewK rfl) (pss_one (ps_fld (pv 0) (pe_callTy (r := rTupleZ K) call_tupleZ (by rfl) T.b_tuple (by decide +kernel) (pa_cons (pe_lc (own := [("word", 3)]) (g := (gName 3)) (tt := tYes) rfl sc_Bag_keep.nd (pi_list (pe_callD D_words_in_order (hr.mono (by decide)) rfl pass0 (pa_cons (pv 2) pa_nil))) (blkOk_by (N := N_Bag_keep) (sc := defScope s_Bag_keep) (by decide +kernel)) (fun _ _ _ _ _ => (pg_name (i := 3) sc_Bag_keep.nd rfl (by first | exact Or.inl rfl | exact Or.inr rfl))) (fun _ _ _ _ _ => pts_nil) (fun _ _ _ _ _ => (pe_tup (pa_cons (pv 3) (pa_cons (pe_dget hu (pv 2) (pv 3) (fun _ _ => rfl)) pa_nil))))) pa_nil)) rfl))))), ?_⟩; rw [st_Bag_keep]; (try dsimp only [cxOf]); walk_at "go"
    refine ⟨x, C, dx, _, rfl, hx, T.cls C hc, T.n_clock C hc, by decide, ?_⟩
    walk_at "go"
    refine ⟨x, C, dx, _, rfl, upd_same, T.cls C hc, T.n_sparse C hc, putF_lt (putF_len _ _ _) (by decide), ?_⟩
    rw [upd_upd]
    walk_at "go"
    intro k1 hk1
    have hk1x : k1 ≠ x := fun e => by subst e; rw [upd_same] at hk1; cases hk1
    walk_at "go"
    refine ⟨x, C, dx, _, rfl, by rw [upd_ne (Ne.symm hk1x)]; exact upd_same, T.cls C hc, T.n_kept C hc, putF_lt (Nat.le_trans (putF_len _ _ _) (Nat.succ_le_succ (putF_len _ _ _))) (by decide), ?_⟩
    walk_at "go"
    have e0 : ExB x H (upd (upd (upd H x (.ins C dx (putF "sparse" (V.ref d) (putF "clock" (V.int p) [])))) k1 (.dK [])) x (.ins C dx (putF "kept" (V.ref k1) (putF "sparse" (V.ref d) (putF "clock" (V.int p) []))))) := (((ExB.refl x H).upd).new hk1).upd
    have hx0 := upd_same (H := upd (upd H x (.ins C dx (putF "sparse" (V.ref d) (putF "clock" (V.int p) [])))) k1 (.dK [])) (a := x) (o := .ins C dx (putF "kept" (V.ref k1) (putF "sparse" (V.ref d) (putF "clock" (V.int p) []))))
    generalize upd (upd (upd H x (.ins C dx (putF "sparse" (V.ref d) (putF "clock" (V.int p) [])))) k1 (.dK [])) x (.ins C dx (putF "kept" (V.ref k1) (putF "sparse" (V.ref d) (putF "clock" (V.int p) [])))) = H0 at e0 hx0 ⊢
    have hd0 := e0 _ _ hxd hd
    refine ⟨d, s, rfl, .inl hd0, hz, hw, fun l H1 e1 hl1 hl => ?_⟩
    walk_at "go"
    refine ⟨⟨_, SqL.of hl⟩, ?_⟩
    have hlen : (ordW (keys s)).length = s.length := by rw [ordW_len]; unfold keys; rw [List.length_map]
    refine lc_rel (j := 3) walk_list (ordW (keys s)) (by rw [List.length_map]) (by rw [List.length_map, hlen]; exact line5 hz) (fun H' e => SqL.of (e _ _ hl)) (fun z y H => ∃ a, y = V.ref a ∧ H a = some (.tup [.str z, .int (cf s z)])) (fun e y H H' t ⟨a, h1, h2⟩ => ⟨a, h1, t _ _ h2⟩) (fun _ => rfl) ?_ ?_
    · rintro i x z H2 H3 Kc hi e2 ⟨rfl, hx⟩ hz2 hk
      rw [List.getElem?_map, hz2] at hx
      obtain rfl := (Option.some.inj hx).symm
      walk_at "go"
      refine g_dg (.inl ((e1.trans e2) _ _ hd0)) (getS_cf ((ordW_perm _).mem_iff.mp (List.mem_of_getElem? hz2))) ?_
      walk_at "go"
      exact ⟨Nat.le_of_ble_eq_true rfl, fun q hq => hk _ _ (Ex.new hq) ⟨q, rfl, upd_same⟩⟩
    · intro D H2 ys hD e2 hlD hp
      obtain ⟨as, rfl, hp'⟩ := paired_refs hp
      walk_at "go"
      refine ⟨D, _, rfl, SqL.of hlD, fun t o ht ho => ?_⟩
      have e3 : Ex H0 (upd H2 t (.frz o (.tup (as.map V.ref)))) := (e1.trans e2).trans (Ex.new ht)
      have htx : t ≠ x := Ne.symm (ne_of_none ((e1.trans e2) _ _ hx0) ht)
      walk_at "go"
      refine ⟨x, C, dx, _, rfl, e3 _ _ hx0, T.cls C hc, T.n_words C hc, putF_lt (Nat.le_trans (putF_len _ _ _) (Nat.succ_le_succ (Nat.le_trans (putF_len _ _ _) (Nat.succ_le_succ (putF_len _ _ _))))) (by decide), ?_⟩
      refine k k1 t _ ((e0.trans e3.exb).upd) (by rw [upd_same, bagF_made]) ⟨as, o, by rw [upd_ne htx]; exact upd_same, ho, Paired.mapP (pairs_at hp') fun a b q => ?_⟩
      have hax : a ≠ x := fun e => by
        subst e
        have h1 := (e1.trans e2) _ _ hx0
        rw [h1] at q
        cases q
      rw [upd_ne hax]
      exact Ex.new ht _ _ q

end
end Fp

namespace Fp
open PySem L2
section
variable {P : Program} {w : World} {K : PySem.W.Frag} {mg : Str → Option Value} {base : Heap} {C_Bag : Addr} {Cs : Addr → Prop}
local macro_rules | `(tactic| walk_at "hp") => `(tactic| first | assumption | rfl)
local macro_rules | `(tactic| walk_at "cond") => `(tactic| first | assumption | decide | omega | (unfold CMul; omega) | (refine ⟨?_, ?_⟩ <;> omega) | (unfold CDiv; omega) | (unfold CPow; omega))
local macro_rules | `(tactic| walk_at "g1") => `(tactic| first
  | with_reducible first
    | refine g_seq ?_ | refine g_asg ?_ | refine g_name ?_ | refine g_ret ?_ | refine g_retN ?_ | refine g_drop ?_ | refine g_ifs ?_
    | refine g_c ?_ | refine g_op ?_ | refine g_un ?_ | refine g_I0 ?_ | refine g_U ?_
    | refine g_test ?_ | refine g_tB ?_ | refine g_bl ?_ | refine g_and ?_ | refine g_or ?_ | refine g_not ?_
    | refine g_andV ?_ | refine g_orV ?_ | refine g_notV ?_ | refine g_if ?_ | refine g_nil ?_ | refine g_cons ?_ | refine g_cb ?_ | refine g_call ?_
    | refine g_lst ?_ | refine g_tup ?_ | refine g_itT ?_ | refine g_itF ?_ | refine g_itNT ?_ | refine g_itNF ?_ | refine g_lc ?_ | refine g_iStr ?_ | refine g_yes ?_ | refine g_exs ?_
    | refine g_chain ?_ | refine g_dget ?_ | refine g_dput ?_ | refine g_dget2 ?_ | refine g_dpop2 ?_ | refine g_fld ?_ | refine g_sfld ?_ | refine g_make ?_ | refine g_meth ?_
    | refine g_bm ?_ | refine g_kw ?_ | refine g_callS ?_ | refine g_revL ?_ | refine g_m1 ?_ | refine g_gsub ?_ | refine g_for ?_ | refine g_iList ?_ | refine g_iTup ?_ | refine g_iRng1 ?_ | refine g_iRng2 ?_ | refine g_sl ?_ | refine g_part ?_ | refine g_noPart ?_
    | refine g_exi ?_ | refine g_exr ?_ | refine g_dnew ?_ | refine g_disp ?_ | refine g_prs0 ?_ | refine g_prs ?_ | refine g_nxt ?_
  | ((with_reducible refine g_var (v := ?vv) ?gv ?_); (case gv => exact rfl))
  | ((with_reducible refine g_I ?gc ?_); (case gc => walk_at "cond"))
  | ((with_reducible refine g_eq ?ge ?_); (case ge => exact rfl))
  | ((with_reducible refine g_ne ?ge ?_); (case ge => exact rfl))
  | (refine g_ixl (SqL.of (by first | assumption | exact upd_same)) rfl ?_)
  | (refine g_setl (by first | assumption | exact upd_same) rfl ?_)
  | ((with_reducible show (∃ i, [V.int _] = [V.int i] ∧ _) ∨ _); refine Or.inl ⟨_, rfl, ?_⟩)
  | ((with_reducible show ∃ i, [V.int _] = [V.int i] ∧ _); refine ⟨_, rfl, ?_⟩)
  | dsimp only)
local macro_rules | `(tactic| walk_at "go") => `(tactic| repeat (walk_at "g1"))

def Clk (p : Int) : Prop := p = 2 ∨ p = 3 ∨ p = 5 ∨ p = 7
theorem Clk.lo {p : Int} (h : Clk p) : 2 ≤ p := by rcases h with h | h | h | h <;> omega
theorem Clk.hi {p : Int} (h : Clk p) : p ≤ 7 := by rcases h with h | h | h | h <;> omega
def sp_bag_init (C_Bag : Addr) (Cs : Addr → Prop) : Sp := fun vs H Q _ => ∃ (x d : Addr) (p : Int) (s : Bg) (dx : Addr), vs = [.ref x, .int p, .ref d] ∧ H x = some (.ins C_Bag dx []) ∧ Clk p ∧ H d = some (.dK (toK s)) ∧ Lot p s 300 12 ∧
  ∀ H', ExB x H H' → BagAt Cs H' x p s → Q .non H'
theorem ok_bag_init {f : Addr} {fd : FuncData} (F : Fun K "__init__" "Bag.__init__" s_Bag_init f fd) (T : Txt K mg C_Bag Cs) (D_is_clock : DefOk P w K mg base CX0 2 "is_clock" ["thing"] (sp_is_clock K))
    (D_are_words : DefOk P w K mg base CX0 3 "are_words" ["clock", "thing"] sp_are_words) (D_mt_Bag_keep : MtOk P w K mg base CX0 5 C_Bag "keep" ["self", "clock", "sparse"] (sp_keep Cs)) : FnOk P w K mg base CX0 6 f fd ["self", "clock", "words"] (sp_bag_init C_Bag Cs) := by
  refine F.ok sc_Bag_init (fun vs H Q E h => ?_) (fun cdv A outer s H vs Q E hr h => ?_)
  · obtain ⟨x, d, p, s, dx, rfl, _⟩ := h
    rfl
  · obtain ⟨x, d, p, s, dx, rfl, hx, hp, hd, hl, k⟩ := h
    have hxd : d ≠ x := fun e => by subst e; rw [hx] at hd; cases hd
    have hu := hu_of hr; have hu64 := L2.Room.units hr; refine ⟨_, (pss_cons (ps_if (pt_not (pt_val (pe_callD D_is_clock (hr.mono (by decide)) rfl pass0 (pa_cons (pv 1) pa_nil)))) (pss_one ps_never) pss_nil) (pss_cons (ps_if (pt_not (pt_val (pe_callD D_are_words (hr.mono (by decide)) rfl pass0 (pa_cons (pv 1) (pa_cons (pv 2) pa_nil))))) (pss_one ps_never) pss_nil) (pss_one (ps_expr (pe_mtD D_mt_Bag_keep (hr.mono (by decide)) pass0 (pv 0) (pa_cons (pv 1) (pa_cons (pe_callTy call_dictD (by rfl) T.b_dict (by decide +kernel) (pa_cons (pv 2) pa_nil)) pa_nil))))))), ?_⟩; rw [st_Bag_init]; (try dsimp only [cxOf]); walk_at "go"
    refine ⟨_, true, rfl, .inl ⟨p, rfl, (decide_eq_true (show p = 2 ∨ p = 3 ∨ p = 5 ∨ p = 7 from hp)).symm⟩, ?_⟩
    walk_at "go"
    refine ⟨p, d, s, rfl, hd, hl, fun H1 e1 => ?_⟩
    walk_at "go"
    refine ⟨x, dx, [], rfl, e1 _ _ hx, rfl, ?_⟩
    walk_at "go"
    refine ⟨d, toK s, rfl, .inl (e1 _ _ hd), fun d2 hd2 => ?_⟩
    walk_at "go"
    have hd2x : d2 ≠ x := Ne.symm (ne_of_none (e1 _ _ hx) hd2)
    refine ⟨x, d2, p, s, C_Bag, dx, rfl, Ex.new hd2 _ _ (e1 _ _ hx), T.c_base, upd_same, Nat.le_trans hl.n (by decide), fun u hu => Nat.le_trans (hl.l u hu).1 (by decide), hl.g.nd, fun k1 t H2 e2 h2 hw => ?_⟩
    exact k H2 ((e1.trans (Ex.new hd2)).exb.trans e2) ⟨C_Bag, dx, d2, k1, t, T.c_base, h2, e2 _ _ hd2x upd_same, hw⟩
/-- what == with a bag says -/
def EqIs (K : PySem.W.Frag) (C_Bag : Addr) (Cs : Addr → Prop) (H : Hp) (p : Int) (s : Bg) (y : V) (b : Bool) : Prop :=
  (∃ c q t, y = .ref c ∧ BagAt Cs H c q t ∧ b = (decide (p = q) && decide (wordsS s = wordsS t))) ∨ (∃ ty, TyX K H y ty ∧ PySem.W.kitOne K ty (.ref C_Bag) = some false ∧ b = false)
def sp_bag_eq (K : PySem.W.Frag) (C_Bag : Addr) (Cs : Addr → Prop) : Sp := fun vs H Q _ => ∃ (x : Addr) (p : Int) (s : Bg) (y : V) (b : Bool), vs = [.ref x, y] ∧ BagAt Cs H x p s ∧ EqIs K C_Bag Cs H p s y b ∧ Q (.bl b) H
theorem ok_bag_eq {f : Addr} {fd : FuncData} (F : Fun K "__eq__" "Bag.__eq__" s_Bag_eq f fd) (T : Txt K mg C_Bag Cs) : FnOk P w K mg base CX0 1 f fd ["self", "other"] (sp_bag_eq K C_Bag Cs) := by
  refine F.ok sc_Bag_eq (fun vs H Q E h => ?_) (fun cdv A outer s H vs Q E hr h => ?_)
  · obtain ⟨x, p, s, y, b, rfl, _⟩ := h
    rfl
  · obtain ⟨x, p, s, y, b, rfl, hx, he, k⟩ := h
    obtain ⟨C, dx, d, k1, t1, hc, h1, h2, h3⟩ := hx.ex
    have hu := hu_of hr; have hu64 := L2.Room.units hr; refine ⟨_, (pss_one (ps_ret (pe_and (pe_callB (r := rIsi K) call_isi (by rfl) T.b_isinstance (by decide +kernel) (pa_cons (pv 1) (pa_cons (pe_glob (v := .ref C_Bag) rfl T.c_Bag rfl) pa_nil))) (pe_and (pe_cmpR op_eq (pe_fldK (K := K) rfl (pv 0) rfl) (pe_fldK (K := K) rfl (pv 1) rfl) (nomark _)) (pe_one (pe_cmpR (r := rEqP K false) (op_eqP hu64) (pe_fldK (K := K) rfl (pv 0) rfl) (pe_fldK (K := K) rfl (pv 1) rfl) (nomark _))))))), ?_⟩; rw [st_Bag_eq]; (try dsimp only [cxOf]); walk_at "go"
    rcases he with ⟨c, q, t, rfl, hy, rfl⟩ | ⟨ty, hty, hk, rfl⟩
    · obtain ⟨C', dx', d', k1', t1', hc', h1', h2', h3'⟩ := hy.ex
      refine g_isC (b := true) (bag_ty T hc' h1') (T.c_isB C' hc') ?_
      walk_at "go"
      refine ⟨x, C, dx, _, _, rfl, h1, T.cls C hc, T.n_clock C hc, bagF_clock _ _ _ _, ?_⟩
      walk_at "go"
      refine ⟨c, C', dx', _, _, rfl, h1', T.cls C' hc', T.n_clock C' hc', bagF_clock _ _ _ _, ?_⟩
      walk_at "go"
      by_cases hpq : p = q
      · rw [decide_eq_true (by rw [hpq])]
        rw [decide_eq_true hpq] at k
        walk_at "go"
        refine ⟨x, C, dx, _, _, rfl, h1, T.cls C hc, T.n_words C hc, bagF_words _ _ _ _, ?_⟩
        walk_at "go"
        refine ⟨c, C', dx', _, _, rfl, h1', T.cls C' hc', T.n_words C' hc', bagF_words _ _ _ _, ?_⟩
        refine ⟨_, _, h3.dp, h3'.dp, plain_words _, plain_words _, depth_words _, ?_⟩
        rw [if_neg Bool.false_ne_true, eqv_words]
        exact k
      · rw [decide_eq_false (fun e => hpq (V.int.inj e))]
        rw [decide_eq_false hpq] at k
        walk_at "go"
        exact k
    · refine g_isC (b := false) hty hk ?_
      walk_at "go"
      exact k
structure EqOk (P : Program) (w : World) (K : PySem.W.Frag) (mg : Str → Option Value) (base : Heap) (C_Bag : Addr) (Cs : Addr → Prop) : Prop where
  ex : ∃ f fd, FnOk P w K mg base CX0 1 f fd ["self", "other"] (sp_bag_eq K C_Bag Cs) ∧ EqCls K f Cs ∧ Binds K fd ["self", "other"] []
theorem op_eqBagD {X : Cx} (D : EqOk X.prog X.w X.K X.mg X.base C_Bag Cs) (hr : Room 2 X.A) : OpR X (compareOp .Eq) (rBagEq X.K (sp_bag_eq X.K C_Bag Cs) Cs false) := by
  obtain ⟨f, fd, F, ec, hb⟩ := D.ex
  exact op_eqBag F ec hb pass0 hr
theorem op_neBagD {X : Cx} (D : EqOk X.prog X.w X.K X.mg X.base C_Bag Cs) (hr : Room 2 X.A) : OpR X (compareOp .NotEq) (rBagEq X.K (sp_bag_eq X.K C_Bag Cs) Cs true) := by
  obtain ⟨f, fd, F, ec, hb⟩ := D.ex
  exact op_neBag F ec hb pass0 hr
/-- a bag == a bag -/
theorem g_beq (T : Txt K mg C_Bag Cs) {H : Hp} {a c : Addr} {p q : Int} {s t : Bg} {neg : Bool} {Q : VK} (hx : BagAt Cs H a p s) (hy : BagAt Cs H c q t)
    (h : Q (.bl (if neg = true then !(decide (p = q) && decide (wordsS s = wordsS t)) else (decide (p = q) && decide (wordsS s = wordsS t)))) H) : rBagEq K (sp_bag_eq K C_Bag Cs) Cs neg (.ref a) (.ref c) H Q := by
  obtain ⟨C, dx, d, k1, t1, hc, h1, h2, h3⟩ := hx.ex
  obtain ⟨C', dx', d', k1', t1', hc', h1', h2', h3'⟩ := hy.ex
  rcases T.c_two C C' hc hc' with n | ⟨n1, n2⟩
  · exact .inl ⟨a, C, dx, _, .ref C', rfl, h1, hc, bag_ty T hc' h1', n, a, p, s, .ref c, _, rfl, hx, .inl ⟨c, q, t, rfl, hy, rfl⟩, _, rfl, h⟩
  · have e : (decide (q = p) && decide (wordsS t = wordsS s)) = (decide (p = q) && decide (wordsS s = wordsS t)) := by
      rw [Bool.eq_iff_iff]
      simp only [Bool.and_eq_true, decide_eq_true_eq]
      exact ⟨fun z => ⟨z.1.symm, z.2.symm⟩, fun z => ⟨z.1.symm, z.2.symm⟩⟩
    refine .inr ⟨a, c, C, C', dx, _, dx', _, rfl, rfl, h1, h1', hc, hc', n1, n2, c, q, t, .ref a, _, rfl, hy, .inl ⟨a, p, s, rfl, hx, rfl⟩, _, rfl, ?_⟩
    rw [e]
    exact h
/-- a bag == another thing -/
theorem g_bne (T : Txt K mg C_Bag Cs) {H : Hp} {a : Addr} {y : V} {p : Int} {s : Bg} {neg : Bool} {Q : VK} {ty : String} (hx : BagAt Cs H a p s) (hy : TyX K H y (.type ty)) (ht : ty ∈ (["NoneType", "bool", "int", "str", "list", "tuple", "dict"] : List String))
    (h : Q (.bl (if neg = true then !false else false)) H) : rBagEq K (sp_bag_eq K C_Bag Cs) Cs neg (.ref a) y H Q := by
  obtain ⟨C, dx, d, k1, t1, hc, h1, h2, h3⟩ := hx.ex
  exact .inl ⟨a, C, dx, _, .type ty, rfl, h1, hc, hy, T.c_pl C hc ty ht, a, p, s, y, false, rfl, hx, .inr ⟨_, hy, T.c_nb ty ht, rfl⟩, _, rfl, h⟩
/-- Bag(p, d) -/
theorem g_mkBag {H : Hp} {R : Addr → Hp → Prop} {p : Int} {d : Addr} {s : Bg} {E : XK} (hp : Clk p) (hd : H d = some (.dK (toK s))) (hl : Lot p s 300 12) (k : ∀ x H', Ex H H' → H x = none → BagAt Cs H' x p s → R x H') :
    ∀ x dx, H x = none → H dx = none → dx ≠ x → sp_bag_init C_Bag Cs (.ref x :: ([.int p, .ref d] ++ [])) (upd (upd H dx (.own x)) x (.ins C_Bag dx [])) (fun v H2 => v = .non ∧ R x H2) E := by
  intro x dx hx hdx hne
  have hx1 : upd H dx (.own x) x = none := by rw [upd_ne (Ne.symm hne)]; exact hx
  have e1 : Ex H (upd (upd H dx (.own x)) x (.ins C_Bag dx [])) := (Ex.new hdx).trans (Ex.new hx1)
  exact ⟨x, d, p, s, dx, rfl, upd_same, hp, e1 _ _ hd, hl, fun H' e hb => ⟨rfl, k x H' (fun a o q => e a o (ne_of_none q hx) (e1 _ _ q)) hx hb⟩⟩
/-- the same words in any order -/
theorem words_of_perm {s t : Bg} {p : Int} (gs : Good p s) (gt : Good p t) (h : ∀ kv, kv ∈ s ↔ kv ∈ t) : wordsS s = wordsS t := by
  refine wordsS_congr gs gt fun w => ?_
  by_cases hw : w ∈ keys s
  · obtain ⟨n, hn⟩ := mem_keys.mp hw
    rw [cf_of_mem gs.nd hn, cf_of_mem gt.nd ((h _).mp hn)]
  · have hw2 : w ∉ keys t := fun q => by
      obtain ⟨n, hn⟩ := mem_keys.mp q
      exact hw (mem_keys.mpr ⟨n, (h _).mpr hn⟩)
    rw [cf_not_mem hw, cf_not_mem hw2]
/-! ### facts of classes -/
theorem kit_self {K : PySem.W.Frag} {C : Addr} : PySem.W.kitOne K (.ref C) (.ref C) = some true := by
  unfold PySem.W.kitOne
  rw [if_pos (beq_self_eq_true _)]
theorem first_self {K : PySem.W.Frag} {C : Addr} : PySem.W.notFirst K C (.ref C) = true := by
  unfold PySem.W.notFirst
  rw [beq_self_eq_true]
  rfl
theorem first_not {K : PySem.W.Frag} {C : Addr} {t : Value} (h : PySem.W.subIn K t (.ref C) = some false) : PySem.W.notFirst K C t = true := by
  unfold PySem.W.notFirst
  rw [h]
  exact Bool.or_true _
theorem kit_not {K : PySem.W.Frag} {C : Addr} {t : String} (hc : PySem.W.isClsIn K C = true) (ht : PySem.W.typeIn K (.ref C) = some (.type "type")) (hs : PySem.W.subIn K (.type t) (.ref C) = some false) : PySem.W.kitOne K (.type t) (.ref C) = some false := by
  unfold PySem.W.kitOne PySem.W.kitCls
  have hc' : (PySem.W.clsIn K C).isSome = true := hc
  have e : ((Value.type t) == (Value.ref C)) = false := rfl
  rw [e, if_neg Bool.false_ne_true]
  dsimp only
  rw [hc', ht, hs]
  rfl

end
end Fp

/-! The algebra of bags, word by word. -/
namespace Fp
open PySem
/-- the same numbers -/
def Eqv (s t : Bg) : Prop := ∀ l, cl s l = cl t l
theorem Eqv.refl (s : Bg) : Eqv s s := fun _ => rfl
theorem Eqv.symm {s t : Bg} (h : Eqv s t) : Eqv t s := fun l => (h l).symm
theorem Eqv.trans {s t u : Bg} (h : Eqv s t) (h2 : Eqv t u) : Eqv s u := fun l => (h l).trans (h2 l)
section
variable {p : Int} {s t u s' t' : Bg}
theorem Eqv.words (gs : Good p s) (gt : Good p t) (h : Eqv s t) : wordsS s = wordsS t := words_cl gs gt h
theorem Eqv.of_words (hs : (keys s).Nodup) (ht : (keys t).Nodup) (h : wordsS s = wordsS t) : Eqv s t := fun l => cf_congr_words hs ht h _
theorem prod_congr (hp : 0 < p) (hs : (keys s).Nodup) (ht : (keys t).Nodup) (hs' : (keys s').Nodup) (ht' : (keys t').Nodup) (h1 : Eqv s s') (h2 : Eqv t t') : Eqv (prodS p s t) (prodS p s' t') := fun l => by
  rw [cl_prod hp hs ht, cl_prod hp hs' ht', conv_congr h1 h2]
theorem plus_congr (hp : 0 < p) (gs : Good p s) (ht : (keys t).Nodup) (gs' : Good p s') (ht' : (keys t').Nodup) (f : Int) (h1 : Eqv s s') (h2 : Eqv t t') : Eqv (plusS p s t f) (plusS p s' t' f) := fun l => by
  rw [cl_plus hp gs ht, cl_plus hp gs' ht', h1 l, h2 l]
theorem assoc_eqv (hp : 0 < p) (gs : Good p s) (gt : Good p t) (gu : Good p u) : Eqv (prodS p (prodS p s t) u) (prodS p s (prodS p t u)) :=
  .of_words (Good.prod hp _ _).nd (Good.prod hp _ _).nd (prod_assoc hp gs gt gu)
def one1 : Bg := [("", 1)]
theorem one1_good (hp : 1 < p) : Good p one1 := ⟨by decide +kernel, fun kv h => by rw [List.mem_singleton.mp h]; decide, fun kv h => by rw [List.mem_singleton.mp h]; exact hp⟩
def delta (l : List Nat) : Int := if l = [] then 1 else 0
theorem cl_one (l : List Nat) : cl one1 l = delta l := by
  unfold cl delta
  by_cases h : l = []
  · subst h
    rfl
  · rw [if_neg h]
    refine cf_not_mem fun q => h ?_
    have : ofL l = ("" : Str) := List.mem_singleton.mp q
    exact ofL_inj.mp (this.trans (show ("" : Str) = ofL [] from rfl))
theorem conv_zero_l (G : List Nat → Int) : ∀ v, conv (fun _ => 0) G v = 0
  | [] => by rw [conv_nil, Int.zero_mul]
  | c :: v => by rw [conv_cons, Int.zero_mul, conv_zero_l G v]; rfl
theorem conv_delta_l (G : List Nat → Int) : ∀ v, conv delta G v = G v
  | [] => by rw [conv_nil]; exact Int.one_mul _
  | c :: v => by
    rw [conv_cons]
    have : (fun x => delta (c :: x)) = fun _ => (0 : Int) := rfl
    rw [this, conv_zero_l, show delta [] = 1 from rfl, Int.one_mul, Int.add_zero]
theorem conv_delta_r : ∀ (v : List Nat) (G : List Nat → Int), conv G delta v = G v
  | [], G => by rw [conv_nil]; exact Int.mul_one _
  | c :: v, G => by rw [conv_cons, conv_delta_r v, show delta (c :: v) = 0 from rfl, Int.mul_zero, Int.zero_add]
theorem one_prod (hp : 1 < p) (g : Good p s) : Eqv (prodS p one1 s) s := fun l => by
  rw [cl_prod (by omega) (one1_good hp).nd g.nd, conv_congr cl_one (fun _ => rfl), conv_delta_l, cl_mod (by omega) g]
theorem prod_one (hp : 1 < p) (g : Good p s) : Eqv (prodS p s one1) s := fun l => by
  rw [cl_prod (by omega) g.nd (one1_good hp).nd, conv_congr (fun _ => rfl) cl_one, conv_delta_r, cl_mod (by omega) g]
theorem prod_nil : prodS p s [] = [] := by
  unfold prodS
  have : ∀ (l acc : Bg), l.foldl (fun acc a => prodRow p acc a []) acc = acc := by
    intro l
    induction l with
    | nil => intro acc; rfl
    | cons a r ih => intro acc; exact ih acc
  exact this s []
theorem distrib_r (hp : 0 < p) (gs : Good p s) (gt : Good p t) (gu : Good p u) (f : Int) : Eqv (prodS p s (plusS p t u f)) (plusS p (prodS p s t) (prodS p s u) f) := fun l => by
  rw [cl_prod hp gs.nd (Good.plus hp gt u).nd, cl_plus hp (Good.prod hp s t) (Good.prod hp s u).nd, cl_prod hp gs.nd gt.nd, cl_prod hp gs.nd gu.nd]
  have h1 : conv (cl s) (cl (plusS p t u f)) l % p = conv (cl s) (fun x => cl t x + f * cl u x) l % p := conv_mod (fun _ => rfl) (fun x => by rw [cl_plus hp gt gu.nd, Int.emod_emod_of_dvd _ (Int.dvd_refl p)]) l
  rw [h1, conv_addr, conv_mulr]
  simp [Int.add_emod, Int.mul_emod]
theorem distrib_l (hp : 0 < p) (gs : Good p s) (gt : Good p t) (gu : Good p u) (f : Int) : Eqv (prodS p (plusS p t u f) s) (plusS p (prodS p t s) (prodS p u s) f) := fun l => by
  rw [cl_prod hp (Good.plus hp gt u).nd gs.nd, cl_plus hp (Good.prod hp t s) (Good.prod hp u s).nd, cl_prod hp gt.nd gs.nd, cl_prod hp gu.nd gs.nd]
  have h1 : conv (cl (plusS p t u f)) (cl s) l % p = conv (fun x => cl t x + f * cl u x) (cl s) l % p := conv_mod (fun x => by rw [cl_plus hp gt gu.nd, Int.emod_emod_of_dvd _ (Int.dvd_refl p)]) (fun _ => rfl) l
  rw [h1, conv_addl, conv_mull]
  simp [Int.add_emod, Int.mul_emod]
end
end Fp

/-! Lists of bags. -/
namespace Fp
open PySem L2
/-- all but lists stand -/
def ExL (H H' : Hp) : Prop := ∀ a o, (∀ xs, o ≠ .lst xs) → H a = some o → H' a = some o
theorem ExL.trans {H H1 H2 : Hp} (a : ExL H H1) (b : ExL H1 H2) : ExL H H2 := fun x o n h => b x o n (a x o n h)
theorem Ex.exl {H H' : Hp} (e : Ex H H') : ExL H H' := fun a o _ h => e a o h
theorem ExL.upd {H : Hp} {a : Addr} {o : HO} {xs : List V} (h : H a = some (.lst xs)) : ExL H (L2.upd H a o) := fun b u n q => by
  rw [upd_ne (fun e => by subst e; rw [h] at q; exact n xs (Option.some.inj q).symm)]
  exact q
theorem BagAt.exl {Cs : Addr → Prop} {H H' : Hp} {a : Addr} {p : Int} {s : Bg} (e : ExL H H') (b : BagAt Cs H a p s) : BagAt Cs H' a p s := by
  obtain ⟨C, dx, d, k, t, h0, h1, h2, ⟨qs, o, h3, h4, h5⟩⟩ := b.ex
  exact ⟨C, dx, d, k, t, h0, e _ _ (fun _ z => nomatch z) h1, e _ _ (fun _ z => nomatch z) h2, ⟨qs, o, e _ _ (fun _ z => nomatch z) h3, h4, Paired.mapP h5 fun q kv z => e _ _ (fun _ z => nomatch z) z⟩⟩
theorem WordsAt.exl {H H' : Hp} {t : Addr} {l : Bg} (e : ExL H H') (h : WordsAt H t l) : WordsAt H' t l := by
  obtain ⟨qs, o, h1, hd, h2⟩ := h.ex
  exact ⟨qs, o, e _ _ (fun _ z => nomatch z) h1, hd, Paired.mapP h2 fun _ _ z => e _ _ (fun _ z => nomatch z) z⟩
section
variable {J : It} {n : Nat} {G : Hp → Prop} {Y : Nat → Hp → V → Hp → Prop} {α : Type}
theorem lc_relL (w : Walk J n G Y) {j : Nat} {te : TE} {vs : List Nat} {σ : St} {H1 : Hp} {Q : VK} (es : List α) (hl : es.length = n) (hn : n ≤ sizeLine) (hG : ∀ H, Ex H1 H → G H)
    (R : α → V → Hp → Prop) (hR : ∀ e y H H', ExL H H' → R e y H → R e y H') (hw : ∀ x, wipe ((wipe σ vs).set j x) vs = wipe σ vs)
    (hs : ∀ i x e H H' (K : VK), i < n → Ex H1 H → Y i H x H' → es[i]? = some e → (∀ y H4, Ex H H4 → R e y H4 → K y H4) → te ((wipe σ vs).set j (some x)) H' K)
    (hd : ∀ D H' ys, H1 D = none → Ex H1 H' → H' D = some (.lst ys) → Paired (fun y e => R e y H') ys es → Q (.ref D) H') :
    LcG J (gName j) tYes te vs σ H1 Q := by
  intro D hD
  refine lc_it w (fun i H => Ex H1 H ∧ ∃ ys, H D = some (.lst ys) ∧ Paired (fun y e => R e y H) ys (es.take i)) ⟨Ex.new hD, [], upd_same, .nil⟩ (fun i H _ p => hG H p.1) ?_ (fun H p => ?_)
  · rintro i x H H' hi ⟨e, ys, hacc, hp⟩ hy
    have hi' : i < es.length := by omega
    obtain ⟨y, hyi⟩ : ∃ y, es[i]? = some y := ⟨es[i], by simp [hi']⟩
    refine ⟨hw _, ?_⟩
    unfold tYes
    dsimp only
    rw [if_pos rfl]
    have hlen : ys.length = i := by rw [hp.length, List.length_take]; omega
    refine hs i x y H H' _ hi e hy hyi fun z H4 e4 rz => ⟨ys, e4 _ _ hacc, by omega, ?_, ys ++ [z], upd_same, ?_⟩
    · exact Ex.mut (e.trans e4) hD
    · have tu : ExL H4 (L2.upd H4 D (.lst (ys ++ [z]))) := ExL.upd (e4 _ _ hacc)
      rw [List.take_add_one, hyi]
      exact Paired.snoc (Paired.mapP hp fun a b q => hR _ _ _ _ (e4.exl.trans tu) q) (hR _ _ _ _ tu rz)
  · obtain ⟨e, ys, h, hp⟩ := p
    rw [← hl, List.take_length] at hp
    exact hd D H ys hD e h hp
end
theorem pe_bmK {X : Cx} {K : PySem.W.Frag} (hK : X.K = K) {ex : Expr} {T : String} {to : TE} {t : TA} {r : V → List V → Hp → VK → Prop} (h : PE X ex (tBM X.K T r to t)) : PE X ex (tBM K T r to t) := hK ▸ h
/-! ### lists of words -/
theorem dpAll_wordss {K : PySem.W.Frag} {H : Hp} {ts : List Addr} {ls : List Bg} (h : Paired (fun t l => WordsAt H t l) ts ls) : DpAll K H (ts.map V.ref) (ls.map wordsD) := by
  induction h with
  | nil => exact .nil
  | cons h1 _ ih => exact .cons h1.dp ih
theorem plainAll_wordss (ls : List Bg) : PyData.plainAll (ls.map wordsD) = true := by
  induction ls with
  | nil => rfl
  | cons q r ih => rw [List.map_cons, PyData.plainAll, ih, plain_words]; rfl
theorem depthAll_wordss (ls : List Bg) : PyData.depthAll (ls.map wordsD) ≤ 2 := by
  induction ls with
  | nil => simp [PyData.depthAll]
  | cons q r ih =>
    rw [List.map_cons, PyData.depthAll]
    have h1 := depthAll_words q
    have h2 : (wordsD q).depth ≤ 2 := by simp only [wordsD, PyData.depth]; omega
    omega
theorem eqvAll_wordss : ∀ l m : List Bg, PyData.eqvAll (l.map wordsD) (m.map wordsD) = decide (l = m)
  | [], [] => by simp [PyData.eqvAll]
  | [], b :: m => by simp [PyData.eqvAll]
  | a :: l, [] => by simp [PyData.eqvAll]
  | a :: l, b :: m => by
    rw [List.map_cons, List.map_cons, PyData.eqvAll, eqv_words, eqvAll_wordss l m]
    rw [Bool.eq_iff_iff]
    simp
/-- two lists of words are compared -/
theorem g_eqWs {K : PySem.W.Frag} {H : Hp} {a b : Addr} {ts us : List Addr} {ls ms : List Bg} {neg : Bool} {Q : VK} (ha : SqL K H a (ts.map V.ref)) (hb : SqL K H b (us.map V.ref)) (h1 : Paired (fun t l => WordsAt H t l) ts ls) (h2 : Paired (fun t l => WordsAt H t l) us ms)
    (h : Q (.bl (if neg = true then !decide (ls = ms) else decide (ls = ms))) H) : rEqP K neg (.ref a) (.ref b) H Q := by
  refine ⟨.list (ls.map wordsD), .list (ms.map wordsD), .lst ha (dpAll_wordss h1), .lst hb (dpAll_wordss h2), plainAll_wordss _, plainAll_wordss _, ?_, ?_⟩
  · have := depthAll_wordss ls
    simp only [PyData.depth]
    omega
  · have e : PyData.eqv (.list (ls.map wordsD)) (.list (ms.map wordsD)) = decide (ls = ms) := eqvAll_wordss ls ms
    rw [e]
    exact h
end Fp

namespace Fp
open PySem L2
section
variable {P : Program} {w : World} {K : PySem.W.Frag} {mg : Str → Option Value} {base : Heap} {C_Bag : Addr} {Cs : Addr → Prop}
local macro_rules | `(tactic| walk_at "hp") => `(tactic| first | assumption | rfl)
local macro_rules | `(tactic| walk_at "cond") => `(tactic| first | assumption | decide | omega | (unfold CMul; omega) | (refine ⟨?_, ?_⟩ <;> omega) | (unfold CDiv; omega) | (unfold CPow; omega))
local macro_rules | `(tactic| walk_at "g1") => `(tactic| first
  | with_reducible first
    | refine g_seq ?_ | refine g_asg ?_ | refine g_name ?_ | refine g_ret ?_ | refine g_retN ?_ | refine g_drop ?_ | refine g_ifs ?_
    | refine g_c ?_ | refine g_op ?_ | refine g_un ?_ | refine g_I0 ?_ | refine g_U ?_
    | refine g_test ?_ | refine g_tB ?_ | refine g_bl ?_ | refine g_and ?_ | refine g_or ?_ | refine g_not ?_
    | refine g_andV ?_ | refine g_orV ?_ | refine g_notV ?_ | refine g_if ?_ | refine g_nil ?_ | refine g_cons ?_ | refine g_cb ?_ | refine g_call ?_
    | refine g_lst ?_ | refine g_tup ?_ | refine g_itT ?_ | refine g_itF ?_ | refine g_itNT ?_ | refine g_itNF ?_ | refine g_lc ?_ | refine g_iStr ?_ | refine g_yes ?_ | refine g_exs ?_
    | refine g_chain ?_ | refine g_dget ?_ | refine g_dput ?_ | refine g_dget2 ?_ | refine g_dpop2 ?_ | refine g_fld ?_ | refine g_sfld ?_ | refine g_make ?_ | refine g_meth ?_
    | refine g_bm ?_ | refine g_kw ?_ | refine g_callS ?_ | refine g_revL ?_ | refine g_m1 ?_ | refine g_gsub ?_ | refine g_for ?_ | refine g_iList ?_ | refine g_iTup ?_ | refine g_iRng1 ?_ | refine g_iRng2 ?_ | refine g_sl ?_ | refine g_part ?_ | refine g_noPart ?_
    | refine g_exi ?_ | refine g_exr ?_ | refine g_dnew ?_ | refine g_disp ?_ | refine g_prs0 ?_ | refine g_prs ?_ | refine g_nxt ?_
  | ((with_reducible refine g_var (v := ?vv) ?gv ?_); (case gv => exact rfl))
  | ((with_reducible refine g_I ?gc ?_); (case gc => walk_at "cond"))
  | ((with_reducible refine g_eq ?ge ?_); (case ge => exact rfl))
  | ((with_reducible refine g_ne ?ge ?_); (case ge => exact rfl))
  | (refine g_ixl (SqL.of (by first | assumption | exact upd_same)) rfl ?_)
  | (refine g_setl (by first | assumption | exact upd_same) rfl ?_)
  | ((with_reducible show (∃ i, [V.int _] = [V.int i] ∧ _) ∨ _); refine Or.inl ⟨_, rfl, ?_⟩)
  | ((with_reducible show ∃ i, [V.int _] = [V.int i] ∧ _); refine ⟨_, rfl, ?_⟩)
  | dsimp only)
local macro_rules | `(tactic| walk_at "go") => `(tactic| repeat (walk_at "g1"))

/-! ### the program's own sums -/
theorem ok_put_to {f : Addr} {fd : FuncData} (F : Fun K "put_to" "put_to" s_put_to f fd) (T : Txt K mg C_Bag Cs) : FnOk P w K mg base CX0 1 f fd ["clock", "sparse", "word", "number"] sp_law_put := by
  refine F.ok sc_put_to (fun vs H Q E h => ?_) (fun cdv A outer s H vs Q E hr h => ?_)
  · obtain ⟨p, d, s, z, n, rfl, _⟩ := h
    rfl
  · obtain ⟨p, d, s, z, n, rfl, hd, hl, hp, k⟩ := h
    have hu := hu_of hr; have hu64 := L2.Room.units hr; refine ⟨_, (pss_cons (ps_set (i := 4) sc_put_to.nd rfl (by first | exact Or.inl rfl | exact Or.inr rfl) (pe_op op_mod (pe_callTy call_int1 (by rfl) T.b_int (by decide +kernel) (pa_cons (pe_op op_add (pe_dget2 hu (pv 1) (pv 2) pe_int ⟨rfl, rfl, rfl, rfl⟩) (pv 3)) pa_nil)) (pv 0))) (pss_one (ps_if (pt_cmpR op_eq (pv 4) pe_int (nomark _)) (pss_one (ps_expr (pe_dpop2 (pv 1) (pv 2) pe_int ⟨rfl, rfl, rfl, rfl⟩))) (pss_one (ps_dput hu (pv 1) (pv 2) (pv 4) rfl))))), ?_⟩; rw [st_put_to]; (try dsimp only [cxOf]); walk_at "go"
    refine ⟨.inl ⟨_, .inl hd⟩, ?_⟩
    walk_at "go"
    refine ⟨_, .inl ⟨toK s, .inr z, .inl hd, rfl, rfl⟩, ?_⟩
    rw [getD_toK]
    walk_at "go"
    by_cases hz : (cf s z + n) % p = 0
    · rw [decide_eq_true (by rw [hz])]
      walk_at "go"
      refine ⟨.inl ⟨_, .inl hd⟩, ?_⟩
      walk_at "go"
      have hk : Q .non (upd H d (.dK (dropK (toK s) (Sum.inr z : Key)))) := by
        rw [dropK_toK]
        unfold addTo at k
        rw [if_pos hz] at k
        exact k
      refine ⟨toK s, .inr z, hd, rfl, fun v _ => hk, fun hn => ?_⟩
      have he : upd H d (.dK (dropK (toK s) (Sum.inr z : Key))) = H := by
        have e2 : dropK (toK s) (Sum.inr z : Key) = toK s := by
          rw [dropK_toK]
          unfold dropS
          rw [valV_toK] at hn
          have hn' : getS s z = none := by cases q : getS s z with | none => rfl | some x => rw [q] at hn; cases hn
          rw [List.filter_eq_self.mpr]
          intro kv hkv
          refine decide_eq_true fun e => getS_none.mp hn' ?_
          rw [← e]
          exact mem_keys.mpr ⟨kv.2, hkv⟩
        rw [e2]
        funext a
        by_cases ha : a = d
        · subst ha; rw [upd_same, hd]
        · rw [upd_ne ha]
      rw [he] at hk
      exact hk
    · rw [decide_eq_false (fun e => hz (V.int.inj e))]
      walk_at "go"
      refine g_dp hd (Nat.lt_trans hl (by decide)) ?_
      unfold addTo at k
      rw [if_neg hz] at k
      exact k
/-! ### the program's own products -/
theorem ok_product {f : Addr} {fd : FuncData} (F : Fun K "product" "product" s_product f fd) (T : Txt K mg C_Bag Cs) (D_put_to : DefOk P w K mg base CX0 1 "put_to" ["clock", "sparse", "word", "number"] sp_law_put) : FnOk P w K mg base CX0 2 f fd ["clock", "one", "other"] sp_law_product := by
  refine F.ok sc_product (fun vs H Q E h => ?_) (fun cdv A outer s H vs Q E hr h => ?_)
  · obtain ⟨p, a, b, s, t, rfl, _⟩ := h
    rfl
  · obtain ⟨p, a, b, s, t, rfl, ha, hb, hns, hnt, hl, hp, hg, hsl, htl, k⟩ := h
    have hu := hu_of hr; have hu64 := L2.Room.units hr; refine ⟨_, (pss_cons (ps_set (i := 3) sc_product.nd rfl (by first | exact Or.inl rfl | exact Or.inr rfl) pe_dnewK) (pss_cons (ps_lockR (ps_for PassesOwn.never rfl (pi_keys (pv 1)) (pg_name (i := 4) sc_product.nd rfl (by first | exact Or.inl rfl | exact Or.inr rfl)) (pss_one (ps_lockR (ps_for PassesOwn.never rfl (pi_keys (pv 2)) (pg_name (i := 5) sc_product.nd rfl (by first | exact Or.inl rfl | exact Or.inr rfl)) (pss_one (ps_expr (pe_callD D_put_to (hr.mono (by decide)) rfl pass0 (pa_cons (pv 0) (pa_cons (pv 3) (pa_cons (pe_op op_add_str (pv 4) (pv 5)) (pa_cons (pe_op op_mul (pe_dget hu (pv 1) (pv 4) (fun _ _ => rfl)) (pe_dget hu (pv 2) (pv 5) (fun _ _ => rfl))) pa_nil)))))))))))) (pss_one (ps_ret (pv 3))))), ?_⟩; rw [st_product]; (try dsimp only [cxOf]); walk_at "go"
    intro d hd
    walk_at "go"
    have had : a ≠ d := fun e => by subst e; rcases ha with h | ⟨o, h⟩ <;> rw [hd] at h <;> cases h
    have hbd : b ≠ d := fun e => by subst e; rcases hb with h | ⟨o, h⟩ <;> rw [hd] at h <;> cases h
    have ha' : Rd (upd H d (.dK (toK []))) a (.dK (toK s)) := (Ex.new hd).rd ha
    have hb' : Rd (upd H d (.dK (toK []))) b (.dK (toK t)) := (Ex.new hd).rd hb
    have hlen : ∀ i j, i < s.length → (prodS p (s.take i) t).length + (t.take j).length < 10000000 := fun i j hi => by
      have h1 := len_prod (p := p) (s := s.take i) (t := t)
      have h2 : (s.take i).length = i := by rw [List.length_take]; omega
      have h3 : (t.take j).length ≤ t.length := by rw [List.length_take]; omega
      rw [h2] at h1
      have h4 : (i + 1) * t.length ≤ s.length * t.length := Nat.mul_le_mul_right _ hi
      rw [Nat.succ_mul] at h4
      omega
    refine for_keys (o0 := .dK (toK [])) ha' upd_same had (fun H' Q' _ q => ⟨_, rfl, q⟩) (fun i σ' o => (∃ x y, σ' = [some (.int p), some (.ref a), some (.ref b), some (.ref d), x, y]) ∧ o = .dK (toK (prodS p (s.take i) t))) ⟨⟨none, none, rfl⟩, rfl⟩ ?_ ?_
    · rintro i z n σ' H' o E hi ⟨⟨x, y, rfl⟩, rfl⟩ le hfo _ hE
      have hil : i < s.length := by
        rcases Nat.lt_or_ge i s.length with h | h
        · exact h
        · rw [List.getElem?_eq_none h] at hi; cases hi
      have hb2 : Rd H' b (.dK (toK t)) := le.rd ha' hb' hbd
      refine for_keys hb2 hfo hbd (fun H' Q' _ q => ⟨_, rfl, q⟩) (fun j σ' o => (∃ y, σ' = [some (.int p), some (.ref a), some (.ref b), some (.ref d), some (.str z), y]) ∧ o = .dK (toK (prodRow p (prodS p (s.take i) t) (z, n) (t.take j)))) ⟨⟨y, rfl⟩, rfl⟩ ?_ ?_
      · rintro j u m σ' H2 o E2 hj ⟨⟨y, rfl⟩, rfl⟩ le2 hfo2 _ hE2
        have ha3 : Rd H2 a (.dK (toK s)) := le2.rd hb2 le.self had
        walk_at "go"
        have hz := hsl z (mem_keys.mpr ⟨n, mem_fr hi⟩)
        have hu' := htl u (mem_keys.mpr ⟨m, mem_fr hj⟩)
        refine ⟨z, u, rfl, rfl, line5 (by omega), ?_⟩
        walk_at "go"
        refine g_dg ha3 (getS_at hns hi) ?_
        walk_at "go"
        refine g_dg le2.self (getS_at hnt hj) ?_
        have c1 := hg.lo _ (mem_fr hi)
        have c2 := hg.hi _ (mem_fr hi)
        dsimp only at c1 c2
        walk_at "go"
        refine ⟨p, d, _, z ++ u, n * m, rfl, hfo2, ?_, hp, ?_⟩
        · have h1 := len_row (p := p) (s := prodS p (s.take i) t) (t := t.take j) (z, n)
          have h2 := hlen i j hil
          omega
        · refine hE2 _ _ _ ⟨⟨_, rfl⟩, rfl⟩ ((ExB.refl d _).upd) ?_
          rw [upd_same]
          unfold prodRow
          rw [foldl_take _ _ _ _ _ hj]
      · rintro σ' H2 o ⟨⟨y, rfl⟩, rfl⟩ e2 ho
        refine hE _ _ _ ⟨⟨_, _, rfl⟩, rfl⟩ e2 ?_
        rw [ho, List.take_length]
        unfold prodS
        rw [foldl_take _ _ _ _ _ hi]
    · rintro σ' H' o ⟨⟨x, y, rfl⟩, rfl⟩ e ho
      walk_at "go"
      rw [List.take_length] at ho
      exact k d H' (fun a' o' h' => e a' o' (ne_of_none h' hd) (Ex.new hd a' o' h')) hd ho

/-! ### bags that are made raw -/
def sp_raw_init (C_Raw : Addr) (Cs : Addr → Prop) : Sp := fun vs H Q _ => ∃ (x d : Addr) (p : Int) (s : Bg) (dx : Addr), vs = [.ref x, .int p, .ref d] ∧ H x = some (.ins C_Raw dx []) ∧ H d = some (.dK (toK s)) ∧ s.length ≤ 10000000 ∧ (∀ u ∈ keys s, u.length ≤ 10000000) ∧ (keys s).Nodup ∧
  ∀ H', ExB x H H' → BagAt Cs H' x p s → Q .non H'
theorem ok_raw_init {C_Raw : Addr} {f : Addr} {fd : FuncData} (F : Fun K "__init__" "RawBag.__init__" s_RawBag_init f fd) (T : Txt K mg C_Bag Cs) (hR : Cs C_Raw) (D_mt_RawBag_keep : MtOk P w K mg base CX0 5 C_Raw "keep" ["self", "clock", "sparse"] (sp_keep Cs)) : FnOk P w K mg base CX0 6 f fd ["self", "clock", "sparse"] (sp_raw_init C_Raw Cs) := by
  refine F.ok sc_RawBag_init (fun vs H Q E h => ?_) (fun cdv A outer s H vs Q E hr h => ?_)
  · obtain ⟨x, d, p, s, dx, rfl, _⟩ := h
    rfl
  · obtain ⟨x, d, p, s, dx, rfl, hx, hd, hz, hw, hn, k⟩ := h
    have hxd : d ≠ x := fun e => by subst e; rw [hx] at hd; cases hd
    have hu := hu_of hr; have hu64 := L2.Room.units hr; refine ⟨_, (pss_one (ps_expr (pe_mtD D_mt_RawBag_keep (hr.mono (by decide)) pass0 (pv 0) (pa_cons (pv 1) (pa_cons (pv 2) pa_nil))))), ?_⟩; rw [st_RawBag_init]; (try dsimp only [cxOf]); walk_at "go"
    refine ⟨x, dx, [], rfl, hx, rfl, ?_⟩
    walk_at "go"
    refine ⟨x, d, p, s, C_Raw, dx, rfl, hx, hR, hd, hz, hw, hn, fun k1 t H2 e2 h2 hw' => ?_⟩
    exact k H2 e2 ⟨C_Raw, dx, d, k1, t, hR, h2, e2 _ _ hxd hd, hw'⟩
def sp_raw (Cs : Addr → Prop) : Sp := fun vs H Q _ => ∃ (d : Addr) (p : Int) (s : Bg), vs = [.int p, .ref d] ∧ H d = some (.dK (toK s)) ∧ s.length ≤ 10000000 ∧ (∀ u ∈ keys s, u.length ≤ 10000000) ∧ (keys s).Nodup ∧
  ∀ x H', Ex H H' → H x = none → BagAt Cs H' x p s → Q (.ref x) H'
theorem ok_raw {C_RawBag : Addr} {f : Addr} {fd : FuncData} (F : Fun K "raw" "raw" s_raw f fd) (T : Txt K mg C_Bag Cs) (D_mk_RawBag : MkOk P w K mg base CX0 6 "RawBag" C_RawBag ["self", "clock", "sparse"] (sp_raw_init C_RawBag Cs)) : FnOk P w K mg base CX0 8 f fd ["clock", "sparse"] (sp_raw Cs) := by
  refine F.ok sc_raw (fun vs H Q E h => ?_) (fun cdv A outer s H vs Q E hr h => ?_)
  · obtain ⟨d, p, s, rfl, _⟩ := h
    rfl
  · obtain ⟨d, p, s, rfl, hd, hz, hw, hn, k⟩ := h
    have hu := hu_of hr; have hu64 := L2.Room.units hr; refine ⟨_, (pss_one (ps_ret (pe_mkD D_mk_RawBag (hr.mono (by decide)) rfl pass0 (pa_cons (pv 0) (pa_cons (pv 1) pa_nil))))), ?_⟩; rw [st_raw]; (try dsimp only [cxOf]); walk_at "go"
    intro x dx hx hdx hne
    have hx1 : upd H dx (.own x) x = none := by rw [upd_ne (Ne.symm hne)]; exact hx
    have e1 : Ex H (upd (upd H dx (.own x)) x (.ins C_RawBag dx [])) := (Ex.new hdx).trans (Ex.new hx1)
    exact ⟨x, d, p, s, dx, rfl, upd_same, e1 _ _ hd, hz, hw, hn, fun H' e hb => ⟨rfl, k x H' (fun a o q => e a o (ne_of_none q hx) (e1 _ _ q)) hx hb⟩⟩
/-- two bags by one clock -/
def sp_check_clocks (Cs : Addr → Prop) : Sp := fun vs H Q _ => ∃ (a b : Addr) (p : Int) (s t : Bg), vs = [.ref a, .ref b] ∧ BagAt Cs H a p s ∧ BagAt Cs H b p t ∧ Q .non H
end
end Fp

namespace Fp
open PySem L2
section
variable {P : Program} {w : World} {K : PySem.W.Frag} {mg : Str → Option Value} {base : Heap} {C_Bag : Addr} {Cs : Addr → Prop}
local macro_rules | `(tactic| walk_at "hp") => `(tactic| first | assumption | rfl)
local macro_rules | `(tactic| walk_at "cond") => `(tactic| first | assumption | decide | omega | (unfold CMul; omega) | (refine ⟨?_, ?_⟩ <;> omega) | (unfold CDiv; omega) | (unfold CPow; omega))
local macro_rules | `(tactic| walk_at "g1") => `(tactic| first
  | with_reducible first
    | refine g_seq ?_ | refine g_asg ?_ | refine g_name ?_ | refine g_ret ?_ | refine g_retN ?_ | refine g_drop ?_ | refine g_ifs ?_
    | refine g_c ?_ | refine g_op ?_ | refine g_un ?_ | refine g_I0 ?_ | refine g_U ?_
    | refine g_test ?_ | refine g_tB ?_ | refine g_bl ?_ | refine g_and ?_ | refine g_or ?_ | refine g_not ?_
    | refine g_andV ?_ | refine g_orV ?_ | refine g_notV ?_ | refine g_if ?_ | refine g_nil ?_ | refine g_cons ?_ | refine g_cb ?_ | refine g_call ?_
    | refine g_lst ?_ | refine g_tup ?_ | refine g_itT ?_ | refine g_itF ?_ | refine g_itNT ?_ | refine g_itNF ?_ | refine g_lc ?_ | refine g_iStr ?_ | refine g_yes ?_ | refine g_exs ?_
    | refine g_chain ?_ | refine g_dget ?_ | refine g_dput ?_ | refine g_dget2 ?_ | refine g_dpop2 ?_ | refine g_fld ?_ | refine g_sfld ?_ | refine g_make ?_ | refine g_meth ?_
    | refine g_bm ?_ | refine g_kw ?_ | refine g_callS ?_ | refine g_revL ?_ | refine g_m1 ?_ | refine g_gsub ?_ | refine g_for ?_ | refine g_iList ?_ | refine g_iTup ?_ | refine g_iRng1 ?_ | refine g_iRng2 ?_ | refine g_sl ?_ | refine g_part ?_ | refine g_noPart ?_
    | refine g_exi ?_ | refine g_exr ?_ | refine g_dnew ?_ | refine g_disp ?_ | refine g_prs0 ?_ | refine g_prs ?_ | refine g_nxt ?_
  | ((with_reducible refine g_var (v := ?vv) ?gv ?_); (case gv => exact rfl))
  | ((with_reducible refine g_I ?gc ?_); (case gc => walk_at "cond"))
  | ((with_reducible refine g_eq ?ge ?_); (case ge => exact rfl))
  | ((with_reducible refine g_ne ?ge ?_); (case ge => exact rfl))
  | (refine g_ixl (SqL.of (by first | assumption | exact upd_same)) rfl ?_)
  | (refine g_setl (by first | assumption | exact upd_same) rfl ?_)
  | ((with_reducible show (∃ i, [V.int _] = [V.int i] ∧ _) ∨ _); refine Or.inl ⟨_, rfl, ?_⟩)
  | ((with_reducible show ∃ i, [V.int _] = [V.int i] ∧ _); refine ⟨_, rfl, ?_⟩)
  | dsimp only)
local macro_rules | `(tactic| walk_at "go") => `(tactic| repeat (walk_at "g1"))

/-! ### together, behind; what the law asks of a bag -/
def sp_sum (f : Int) (Cs : Addr → Prop) : Sp := fun vs H Q _ => ∃ (a b : Addr) (p : Int) (s t : Bg) (n1 l1 n2 l2 : Nat), vs = [.ref a, .ref b] ∧ BagAt Cs H a p s ∧ BagAt Cs H b p t ∧ Lot p s n1 l1 ∧ Lot p t n2 l2 ∧ n1 + n2 < 10000000 ∧ l1 ≤ 10000000 ∧ l2 ≤ 10000000 ∧ 0 < p ∧
  ∀ x H', Ex H H' → H x = none → BagAt Cs H' x p (plusS p s t f) → Q (.ref x) H'
def sp_behind (Cs : Addr → Prop) : Sp := fun vs H Q _ => ∃ (a b : Addr) (p : Int) (s t : Bg) (n1 l1 n2 l2 : Nat), vs = [.ref a, .ref b] ∧ BagAt Cs H a p s ∧ BagAt Cs H b p t ∧ Lot p s n1 l1 ∧ Lot p t n2 l2 ∧ n1 * n2 < 10000000 ∧ l1 ≤ 5000000 ∧ l2 ≤ 5000000 ∧ 0 < p ∧ p ≤ 1000000 ∧
  ∀ x H', Ex H H' → H x = none → BagAt Cs H' x p (prodS p s t) → Q (.ref x) H'
def sp_law_is (Cs : Addr → Prop) : Sp := fun vs H Q _ => ∃ (x d : Addr) (p q : Int) (s t : Bg), vs = [.ref x, .int p, .ref d] ∧ BagAt Cs H x q t ∧ Rd H d (.dK (toK s)) ∧ s.length ≤ 10000000 ∧ (∀ u ∈ keys s, u.length ≤ 10000000) ∧ (keys s).Nodup ∧
  ∀ H', Ex H H' → Q (.bl (decide (q = p) && decide (wordsS t = wordsS s))) H'
end
end Fp

/-! min(d, key=f) over a dict of words, f telling (-len(word), word). -/
namespace Fp
open PySem L2 PySem.W
theorem argBest_leW (f : Nat → Str) : ∀ k, argBest (fun i j => dataLt (keyD (f i)) (keyD (f j))) k ≤ k ∧ ∀ j, j ≤ k → leW (f (argBest (fun i j => dataLt (keyD (f i)) (keyD (f j))) k)) (f j) = true
  | 0 => ⟨Nat.le_refl _, fun j hj => by
      have : j = 0 := by omega
      subst this
      exact (leW_total.total _ _).elim id id⟩
  | k + 1 => by
    obtain ⟨h1, h2⟩ := argBest_leW f k
    by_cases hb : dataLt (keyD (f (k + 1))) (keyD (f (argBest (fun i j => dataLt (keyD (f i)) (keyD (f j))) k))) = true
    · have e : argBest (fun i j => dataLt (keyD (f i)) (keyD (f j))) (k + 1) = k + 1 := if_pos hb
      rw [e]
      have hn : leW (f (argBest (fun i j => dataLt (keyD (f i)) (keyD (f j))) k)) (f (k + 1)) = false := by
        show (!dataLt (keyD (f (k + 1))) (keyD (f (argBest (fun i j => dataLt (keyD (f i)) (keyD (f j))) k)))) = false
        rw [hb]; rfl
      have hy : leW (f (k + 1)) (f (argBest (fun i j => dataLt (keyD (f i)) (keyD (f j))) k)) = true := (leW_total.total _ _).elim id (fun z => by rw [hn] at z; cases z)
      refine ⟨Nat.le_refl _, fun j hj => ?_⟩
      rcases Nat.lt_or_ge j (k + 1) with hlt | hge
      · exact leW_total.trans _ _ _ hy (h2 j (by omega))
      · have : j = k + 1 := by omega
        subst this
        exact (leW_total.total _ _).elim id id
    · have e : argBest (fun i j => dataLt (keyD (f i)) (keyD (f j))) (k + 1) = argBest (fun i j => dataLt (keyD (f i)) (keyD (f j))) k := if_neg hb
      rw [e]
      refine ⟨by omega, fun j hj => ?_⟩
      rcases Nat.lt_or_ge j (k + 1) with hlt | hge
      · exact h2 j (by omega)
      · have : j = k + 1 := by omega
        subst this
        show (!dataLt (keyD (f (k + 1))) (keyD (f (argBest (fun i j => dataLt (keyD (f i)) (keyD (f j))) k)))) = true
        cases q : dataLt (keyD (f (k + 1))) (keyD (f (argBest (fun i j => dataLt (keyD (f i)) (keyD (f j))) k))) with
        | false => rfl
        | true => exact absurd q hb
/-- the first word of a row that is not empty -/
theorem ordW_head {ws : List Str} {m : Str} (hm : m ∈ ws) (hl : ∀ w ∈ ws, leW m w = true) : (ordW ws).head? = some m := by
  have hp := ordW_perm ws
  have hs := ordW_sorted ws
  cases e : ordW ws with
  | nil => rw [e] at hp; exact absurd (hp.mem_iff.mpr hm) (by simp)
  | cons w r =>
    rw [e] at hp hs
    have hw : w ∈ ws := hp.mem_iff.mp List.mem_cons_self
    have h1 := hl w hw
    have h2 : leW w m = true := by
      rcases List.mem_cons.mp (hp.mem_iff.mpr hm) with z | z
      · rw [z]; exact (leW_total.total _ _).elim id id
      · exact (List.pairwise_cons.mp hs).1 m z
    rw [leW_anti h2 h1]
    rfl
section
variable {X : L2.Cx} {wn nm qual : Str} {st : PySem.Stmt} {f : Addr} {fd : FuncData} {pins : List (Addr × Obj)} {σ : St} {H : Hp} {s : Shared} {p1 p2 p3 p4 p5 p6 p7 : Pos} 
/-- a new tuple (-len(word), word) -/
def KeyNew (x : Str) (s1 : Shared) (v : Value) (s2 : Shared) : Prop := ∃ h' tk b t1 t2, s2 = { s1 with heap := h', toks := tk } ∧ v = .ref b ∧ s1.heap.get? b = none ∧ (∀ a o, s1.heap.get? a = some o → h'.get? a = some o) ∧ h'.get? b = some { cls := .type "tuple", data := .seq #[.int (-(x.length : Int)) t1, .str x t2] }
theorem ahead_new {kk : _} (F : Fun X.K nm qual st f fd) (S : FnScope [wn] [wn] (defScope st))
    (hbody : defBody st = [.Return (some (.Tuple [.UnaryOp .USub (.Call (.Name "len" p1) [.Name wn p2] [] p3) p4, .Name wn p5] kk p6)) p7])
    (hwn : (defScope st).names.lookup wn = some .local) (hlen : (defScope st).names.lookup ("len" : Str) = some .globalImplicit) (hwd : (wn == ("__debug__" : Str)) = false) (bn : Binds X.K fd [wn] []) (bl : X.mg "len" = none) (I : Inv X pins σ H s) {A' : Around} (hr : Room 1 A')
    (x : Str) (t : Tok) (hx : x.length ≤ sizeLine) (h : Heap) (tk : Nat) (keep : ∀ b o, s.heap.get? b = some o → h.get? b = some o) :
    wpAny (model X.prog X.w) A' (call (.ref f) [.str x t]) (KeyNew x { s with heap := h, toks := tk }) (fun _ _ => False) { s with heap := h, toks := tk } := by
  obtain ⟨oc, od, kV, doc, pm, an, cdv, ct, osl, rfl, lk, hcd⟩ := F.ex
  have KX : X.K.In h := I.kIn.keeps keep
  have lim : h.NoLimit := I.nolimit.keeps keep
  have hb := bn { s with heap := h, toks := tk } [.str x t] KX rfl
  refine wpAny_call (codeAny_call_function hr.depth (KX _ _ lk) rfl S.co S.gen rfl (PySem.W.codeRec_of KX hcd) (hb _ _ _ _ ?_))
  have hkind : ∀ y ∈ [wn].zip ([Value.str x t] ++ []), (defScope st).names.lookup y.1 = some .local ∨ ((defScope st).names.lookup y.1 = some .cell ∧ ((cellsFrom (h.objs.size + 1) (defScope st).names []).lookup y.1).isSome = true) := fun y hy => by
    have e : y = (wn, Value.str x t) := by simpa using hy
    rw [e]
    exact .inl hwn
  refine wpAny_newFunctionEnv_cells S.kind hkind fun env he s1 xx => ?_
  have htk := xx.toInCall
  obtain ⟨h1, tk1, rfl, hk1⟩ := xx.done
  have hns := xx.toInCall.ns
  refine ⟨lim.keeps hk1, codeAny_func ?_⟩
  have henv : env.scope = defScope st ∧ env.globals = mainGlobals ∧ env.builtins = builtinsNs := by rw [he]; exact ⟨rfl, rfl, rfl⟩
  obtain ⟨e1, e2, e3⟩ := henv
  have kw : env.kindOf wn = some .local := by unfold Env.kindOf; rw [e1]; exact hwn
  have kl : env.kindOf "len" = some .globalImplicit := by unfold Env.kindOf; rw [e1]; exact hlen
  have mw : bindL env.kindOf ([wn].zip ([Value.str x t] ++ [])) (fun _ => none) wn = some (.str x t) := by
    show bindL env.kindOf [(wn, Value.str x t)] (fun _ => none) wn = _
    unfold bindL
    simp [bindL, kw]
  have keep1 : ∀ b o, s.heap.get? b = some o → h1.get? b = some o := fun b o q => hk1 b o (keep b o q)
  obtain ⟨mb, b1, b2⟩ := I.mod.blt
  rw [hbody]
  refine wpAny_execs_cons (wpAny_Return_some (wpAny_Tuple_spliced ?_))
  refine Calls.spliced_cons (PyProof.Rows.UnaryOp_ (wpAny_Call_Name_kw (Calls.Name_function_global (by rw [e1]; exact S.kind) kl (Calls.loadGlobal_builtin (by rw [e2]; exact I.mod.glob.keeps fun b o q => keep1 b o (I.bk b o q)) bl
    (by rw [e3]; exact b1.keeps fun b o q => keep1 b o (I.bk b o q)) ((b2 ("len" : Str) (by decide)).trans PySem.boot_len) ?_))))
  refine PyProof.Rows.callWith_builtin1 (Calls.spliced_cons (wpAny_Name (wpAny_loadName_local (by rw [e1]; exact S.kind) kw hns mw (Calls.spliced_nil ?_)) hwd))
  have hn := L2.line63
  refine PyProof.Rows.len_str (by omega) (PyProof.Rows.neg_int ?_)
  refine Calls.spliced_cons (wpAny_Name (wpAny_loadName_local (by rw [e1]; exact S.kind) kw hns mw (Calls.spliced_nil ⟨by show 2 ≤ sizeLine; decide, ?_⟩)) hwd)
  refine ⟨_, _, _, _, _, rfl, rfl, ?_, fun b o q => Heap.get?_push_of_some _ (hk1 b o q), Heap.get?_push_size _ rfl⟩
  show h.get? h1.objs.size = none
  cases q : h.get? h1.objs.size with
  | none => rfl
  | some o => exact absurd (Heap.lt_size (hk1 _ o q)) (Nat.lt_irrefl _)
/-- what min(d, key=f) asks, f telling (-len(word), word) -/
def rMinKey (f : Addr) : List V → List V → Hp → VK → Prop := fun vs zs H Q => ∃ (a : Addr) (s : Bg), vs = [V.ref a] ∧ zs = [V.ref f] ∧ H a = some (.dK (toK s)) ∧ s ≠ [] ∧ (∀ w ∈ keys s, w.length ≤ sizeLine) ∧
  ∀ w, (ordW (keys s)).head? = some w → Q (.str w) H
theorem cr_minKey {kk : _} (F : Fun X.K nm qual st f fd) (S : FnScope [wn] [wn] (defScope st))
    (hbody : defBody st = [.Return (some (.Tuple [.UnaryOp .USub (.Call (.Name "len" p1) [.Name wn p2] [] p3) p4, .Name wn p5] kk p6)) p7])
    (hwn : (defScope st).names.lookup wn = some .local) (hlen : (defScope st).names.lookup ("len" : Str) = some .globalImplicit) (hwd : (wn == ("__debug__" : Str)) = false) (bn : L2.Binds X.K fd [wn] []) (bl : X.mg "len" = none) (hr : Room 2 X.A) (hc : X.calm = true) :
    CallRK X (.builtin "min") [Str.ofString "key"] (rMinKey f) := by
  intro pins s σ H vs zs us ws Q I r rz h
  obtain ⟨a, sp, rfl, rfl, ha, hne, hx, q⟩ := h
  obtain rfl := Vals.ref1 r
  obtain ⟨w1, rfl, e1⟩ := vals1 rz
  obtain rfl : w1 = Value.ref f := e1
  obtain ⟨_, hsys, vs, rel, dof⟩ := dk_of I.hok ha
  obtain ⟨ep, dat⟩ := dof.dictAt
  obtain ⟨ob, es, ho, hex, hdat, hko, hpr, hnd⟩ := id dat
  have hlt : a < s.heap.objs.size := Heap.lt_size ho
  have hkeys : vs.map (·.1) = (keys sp).map Sum.inr := (KV.keys rel).symm.trans (by unfold toK keys; rw [List.map_map, List.map_map]; rfl)
  have hlv : vs.length = (keys sp).length := by
    have e1 := congrArg List.length hkeys
    rw [List.length_map, List.length_map] at e1
    exact e1
  have hpos : 0 < vs.length := by
    rw [hlv]
    unfold keys
    rw [List.length_map]
    exact List.length_pos_iff.mpr hne
  have hval : ∀ (i : Nat) (v : Value), (∃ k x, vs[i]? = some (k, x) ∧ (mixKind X.prog X.w).is k v = true) → ∃ t, v = Value.str ((keys sp).getD i "") t := fun i v ⟨k, x, hk, hkey⟩ => by
    have e1 : (vs.map (·.1))[i]? = some k := by rw [List.getElem?_map, hk] <;> rfl
    rw [hkeys, List.getElem?_map] at e1
    obtain ⟨j, hj, e2⟩ := Option.map_eq_some_iff.mp e1
    subst e2
    have hi : keyIs (Sum.inr j) v = true := hkey
    rcases keyIs_shape hi with ⟨z, t, z1, z2⟩ | ⟨z, t, z1, z2⟩
    · cases z1
    · cases z1
      refine ⟨t, ?_⟩
      rw [z2, List.getD_eq_getElem?_getD, hj] <;> rfl
  refine call_min_walkK (wpAny_pyIter_dict (knd := mixKind X.prog X.w) hsys dat ?_)
  have W := (Walks.dictKeys (knd := mixKind X.prog X.w) (A := X.A.in1) (I.ok.hd hc) s.heap.objs.size a (Nat.ne_of_lt hlt) vs ep).toS
  have hleq : vs.length = (keys sp).length := hlv
  generalize hs2 : ({ s with heap := s.heap.push { cls := .type "dict_keyiterator", data := .fields #[.ref a, .int 0 0, .int (vs.length : Nat) 0, .int (ep : Nat) 0] }, toks := s.toks } : Shared) = s2
  have hsz : s2.heap.objs.size = s.heap.objs.size + 1 := by rw [← hs2]; exact Heap.size_push _ _
  have hkp : ∀ b o, s.heap.get? b = some o → s2.heap.get? b = some o := fun b o e => by rw [← hs2]; exact Heap.get?_push_of_some _ e
  have hst : s2.heap.IsKeyIter s.heap.objs.size a 0 vs.length ep ∧ s2.heap.DictAt (mixKind X.prog X.w) a vs ep := by
    rw [← hs2]
    exact ⟨⟨_, Heap.get?_push_size _ rfl, rfl, rfl⟩, dat.keep fun b u e => Heap.get?_push_of_some _ e⟩
  have hgen : s2.gens = s.gens ∧ s2.drawn = s.drawn ∧ s2.os = s.os := by rw [← hs2]; exact ⟨rfl, rfl, rfl⟩
  refine ⟨_, _, _, _, _, _, _, fun m => Moved [s2.heap.objs.size, s.heap.objs.size] (fun a b => b = a) s2 m, fun i k m => ∃ b t1 t2, k = .ref b ∧ b ≠ s2.heap.objs.size ∧ b ≠ s.heap.objs.size ∧ m.heap.get? b = some { cls := .type "tuple", data := .seq #[.int (-((((keys sp).getD i "").length : Nat) : Int)) t1, .str ((keys sp).getD i "") t2] }, fun i j => dataLt (keyD ((keys sp).getD i "")) (keyD ((keys sp).getD j "")), rfl, W, hst, fun b hb => ?_, hpos, ?_, Moved.refl (fun _ => rfl), fun v s' hP hk => ?_⟩
  · rw [hsz]
    rcases List.mem_cons.mp hb with e | hb
    · rw [e]
      exact Nat.lt_succ_self _
    · rw [List.mem_singleton.mp hb]
      exact Nat.lt_succ_of_lt hlt
  · refine ⟨fun m m' hm hmv => Moved.trans (fun _ _ _ h1 h2 => h2.trans h1) hm hmv, fun i k m m' hv hmv => ?_, fun i v m o Q2 E2 hi hP hm hst2 hS q2 => ?_, fun i j ki kj m Q2 E2 hm hv1 hv2 q2 => ?_⟩
    · obtain ⟨b, t1, t2, rfl, n1, n2, hb⟩ := hv
      refine ⟨b, t1, t2, rfl, n1, n2, hmv.heap b _ (fun z => ?_) hb⟩
      rcases List.mem_cons.mp z with z | z
      · exact n1 z
      · exact n2 (List.mem_singleton.mp z)
    · obtain ⟨t, rfl⟩ := hval i v hP
      have hx2 : ((keys sp).getD i "").length ≤ sizeLine := by
        have hi2 : i < (keys sp).length := by omega
        rw [List.getD_eq_getElem?_getD, List.getElem?_eq_getElem hi2]
        exact hx _ (List.getElem_mem hi2)
      have Im : Inv X pins σ H m := by
        have hm' : m = { s with heap := m.heap, toks := m.toks } := by
          obtain ⟨_, g1, g2, g3, _⟩ := hm
          obtain ⟨g4, g5, g6⟩ := hgen
          cases m
          simp only at g1 g2 g3 ⊢
          rw [g1, g2, g3, g4, g5, g6]
        rw [hm']
        refine I.kept (t' := m.toks) fun b u e => hm.heap b u (fun z => ?_) (hkp b u e)
        have e2 := Heap.lt_size e
        rcases List.mem_cons.mp z with z | z
        · rw [z, hsz] at e2; exact absurd e2 (Nat.not_lt.mpr (Nat.le_succ _))
        · rw [List.mem_singleton.mp z] at e2; exact absurd e2 (Nat.lt_irrefl _)
      refine wpAny_mono (wpAny_toks (ahead_new F S hbody hwn hlen hwd bn bl Im hr.in1 ((keys sp).getD i "") t hx2 m.heap m.toks fun _ _ e => e)) (fun k m2 hk => ?_) fun _ _ z => z.2.elim
      obtain ⟨htk, h', tk, b, t1, t2, rfl, rfl, hb0, hke, hbt⟩ := hk
      have hbS : b ≠ s2.heap.objs.size := fun z => by
        rw [z] at hb0
        rw [show m.heap.get? s2.heap.objs.size = some o from hS] at hb0
        cases hb0
      have hbI : b ≠ s.heap.objs.size := fun z => by
        rw [z] at hb0
        obtain ⟨o2, ho2, _⟩ := hst2.1
        rw [show m.heap.get? s.heap.objs.size = some o2 from ho2] at hb0
        cases hb0
      refine q2 _ _ (Moved.then_heap hm htk fun b o _ e => hke b o e) (W.frame _ m h' tk hst2 htk fun b _ o e => hke b o e) (hke _ _ hS) ⟨b, t1, t2, rfl, hbS, hbI, hbt⟩ fun j k' hv => ?_
      obtain ⟨b', u1, u2, rfl, n1, n2, hb'⟩ := hv
      exact ⟨b', u1, u2, rfl, n1, n2, hke _ _ hb'⟩
    · obtain ⟨b, t1, t2, rfl, n1, n2, hb⟩ := hv1
      obtain ⟨b', t1', t2', rfl, n1', n2', hb'⟩ := hv2
      have hu := (hr.in1).un
      have hd := keyD_depth ((keys sp).getD i "")
      exact rcLt_alike _ _ _ _ _ _ _ _ (.tuple hb rfl rfl (.cons (.int _ _) (.cons (.str _ _) .nil))) (.tuple hb' rfl rfl (.cons (.int _ _) (.cons (.str _ _) .nil))) (keyD_alike _ _) (fun z => by cases z) (Nat.lt_of_le_of_lt (Nat.add_le_add_left (Nat.le_trans (Nat.min_le_left _ _) hd) _) (by omega)) _ _ _ _ q2
  · obtain ⟨t, rfl⟩ := hval _ v hP
    obtain ⟨b1, b2⟩ := argBest_leW (fun i => (keys sp).getD i "") (vs.length - 1)
    have hm' : s' = { s with heap := s'.heap, toks := s'.toks } := by
      obtain ⟨_, g1, g2, g3, _⟩ := hk
      obtain ⟨g4, g5, g6⟩ := hgen
      cases s'
      simp only at g1 g2 g3 ⊢
      rw [g1, g2, g3, g4, g5, g6]
    have Is : Inv X pins σ H s' := by
      rw [hm']
      refine I.kept (t' := s'.toks) fun b u e => hk.heap b u (fun z => ?_) (hkp b u e)
      have e2 := Heap.lt_size e
      rcases List.mem_cons.mp z with z | z
      · rw [z, hsz] at e2; exact absurd e2 (Nat.not_lt.mpr (Nat.le_succ _))
      · rw [List.mem_singleton.mp z] at e2; exact absurd e2 (Nat.lt_irrefl _)
    refine ⟨.str _, H, Is, ⟨t, rfl⟩, q _ (ordW_head ?_ fun w hw => ?_)⟩
    · have hb : argBest (fun i j => dataLt (keyD ((keys sp).getD i "")) (keyD ((keys sp).getD j ""))) (vs.length - 1) < (keys sp).length := by omega
      rw [List.getD_eq_getElem?_getD, List.getElem?_eq_getElem hb]
      exact List.getElem_mem hb
    · obtain ⟨i, hi, e⟩ := List.mem_iff_getElem.mp hw
      have e2 : (keys sp).getD i "" = w := by rw [List.getD_eq_getElem?_getD, List.getElem?_eq_getElem hi, ← e] <;> rfl
      rw [← e2]
      exact b2 i (by omega)
end
end Fp

/-! First words, lengths, tops, plain bags. -/
namespace Fp
open PySem PySem.W
/-- the first word -/
def lead (s : Bg) : Str := ((ordW (keys s)).head?).getD ""
theorem ordW_cons {ws : List Str} (h : ws ≠ []) : ∃ w r, ordW ws = w :: r := by
  cases e : ordW ws with
  | nil =>
    have := ordW_len ws
    rw [e] at this
    exact absurd (List.length_eq_zero_iff.mp this.symm) h
  | cons w r => exact ⟨w, r, rfl⟩
theorem keys_ne {s : Bg} (h : s ≠ []) : keys s ≠ [] := fun e => h (List.map_eq_nil_iff.mp e)
theorem lead_head {s : Bg} (h : s ≠ []) : (ordW (keys s)).head? = some (lead s) := by
  obtain ⟨w, r, e⟩ := ordW_cons (keys_ne h)
  unfold lead
  rw [e]
  rfl
theorem lead_mem {s : Bg} (h : s ≠ []) : lead s ∈ keys s := by
  have h1 := lead_head h
  exact (ordW_perm _).mem_iff.mp (List.mem_of_head? h1)
theorem lead_le {s : Bg} {u : Str} (hu : u ∈ keys s) : leW (lead s) u = true := by
  have h : s ≠ [] := fun e => by subst e; cases hu
  have hs := ordW_sorted (keys s)
  have hm := (ordW_perm (keys s)).mem_iff.mpr hu
  unfold lead
  cases e : ordW (keys s) with
  | nil => rw [e] at hm; cases hm
  | cons w r =>
    rw [e] at hs hm
    rcases List.mem_cons.mp hm with z | z
    · subst z; exact (leW_total.total _ _).elim id id
    · exact (List.pairwise_cons.mp hs).1 u z
theorem head_cons_ord {ws : List Str} {m : Str} (h : (ordW ws).head? = some m) : m ∈ ws ∧ ∀ w ∈ ws, leW m w = true := by
  have hs := ordW_sorted ws
  refine ⟨(ordW_perm _).mem_iff.mp (List.mem_of_head? h), fun w hw => ?_⟩
  have hm := (ordW_perm ws).mem_iff.mpr hw
  cases e : ordW ws with
  | nil => rw [e] at hm; cases hm
  | cons x r =>
    rw [e] at hs hm h
    obtain rfl : x = m := Option.some.inj h
    rcases List.mem_cons.mp hm with z | z
    · subst z; exact (leW_total.total _ _).elim id id
    · exact (List.pairwise_cons.mp hs).1 w z
theorem lead_is {s : Bg} {m : Str} (h : m ∈ keys s) (hl : ∀ u ∈ keys s, leW m u = true) : lead s = m := leW_anti (lead_le h) (hl _ (lead_mem fun e => by subst e; cases h))
theorem leW_len {a b : Str} (h : leW a b = true) : b.length ≤ a.length := by
  rw [leW_eq] at h
  rcases of_decide_eq_true h with h | h <;> omega
theorem lead_len {s : Bg} {u : Str} (hu : u ∈ keys s) : u.length ≤ (lead s).length := leW_len (lead_le hu)
theorem str_len (a : Str) : a.cps.toList.length = a.length := by
  show a.cps.toList.length = a.cps.size
  rw [Array.length_toList]
theorem le_app {a b : List Nat} {c d : List Nat} (hl : a.length = c.length) (h1 : a ≤ c) (h2 : b ≤ d) : a ++ b ≤ c ++ d := by
  induction a generalizing c with
  | nil =>
    cases c with
    | nil => exact h2
    | cons x c => cases hl
  | cons y a ih =>
    cases c with
    | nil => cases hl
    | cons x c =>
      rw [List.cons_append, List.cons_append, List.cons_le_cons_iff]
      rcases List.cons_le_cons_iff.mp h1 with h | ⟨h, h3⟩
      · exact .inl h
      · exact .inr ⟨h, ih (by simpa using hl) h3⟩
theorem leW_app {a b c d : Str} (h1 : leW a c = true) (h2 : leW b d = true) : leW (a ++ b) (c ++ d) = true := by
  rw [leW_eq] at h1 h2 ⊢
  refine decide_eq_true ?_
  have k1 := of_decide_eq_true h1
  have k2 := of_decide_eq_true h2
  rw [len_app, len_app]
  by_cases e1 : c.length < a.length
  · left
    rcases k2 with k2 | k2 <;> omega
  · by_cases e2 : d.length < b.length
    · left
      rcases k1 with k1 | k1 <;> omega
    · right
      obtain ⟨l1, m1⟩ := k1.resolve_left e1
      obtain ⟨l2, m2⟩ := k2.resolve_left e2
      refine ⟨by omega, ?_⟩
      rw [app_toList, app_toList]
      exact le_app (by rw [str_len, str_len]; exact l1) m1 m2
theorem app_inj {a b c d : Str} (hl : a.length = c.length) (h : a ++ b = c ++ d) : a = c ∧ b = d := by
  have h1 : a.cps.toList ++ b.cps.toList = c.cps.toList ++ d.cps.toList := by rw [← app_toList, ← app_toList, h]
  have h2 := List.append_inj h1 (by rw [str_len, str_len]; exact hl)
  exact ⟨str_ext h2.1, str_ext h2.2⟩
/-- the coefficient of a product at the first words -/
theorem cvS_lead {s t : Bg} (hs : (keys s).Nodup) (ht : (keys t).Nodup) {a b : Str} (ha : ∀ u ∈ keys s, u.length ≤ a.length) (hb : ∀ u ∈ keys t, u.length ≤ b.length) : cvS s t (a ++ b) = cf s a * cf t b := by
  have e : cvS s t (a ++ b) = sumL s fun x => (if x.1 = a then x.2 else 0) * sumL t fun y => if y.1 = b then y.2 else 0 := by
    unfold cvS
    refine sumL_congr fun x hx => ?_
    rw [← sumL_mul]
    refine sumL_congr fun y hy => ?_
    have hxa := ha x.1 (mem_keys.mpr ⟨x.2, hx⟩)
    have hyb := hb y.1 (mem_keys.mpr ⟨y.2, hy⟩)
    by_cases h : x.1 ++ y.1 = a ++ b
    · have hl : x.1.length = a.length := by
        have := congrArg Str.length h
        rw [len_app, len_app] at this
        omega
      obtain ⟨e1, e2⟩ := app_inj hl h
      rw [if_pos h, if_pos e1, if_pos e2]
    · rw [if_neg h]
      by_cases e1 : x.1 = a
      · by_cases e2 : y.1 = b
        · exact absurd (by rw [e1, e2]) h
        · rw [if_neg e2, Int.mul_zero]
      · rw [if_neg e1, Int.zero_mul]
  rw [e, sumL_mulr, sum_ind hs, sum_ind ht]
/-- the clocks -/
def Prm (p : Int) : Prop := p = 2 ∨ p = 3 ∨ p = 5 ∨ p = 7
theorem Prm.pos {p : Int} (h : Prm p) : 1 < p := by rcases h with rfl | rfl | rfl | rfl <;> decide
theorem rng_cases {x p : Int} (h0 : 0 < x) (h1 : x < p) (hp : p ≤ 7) : x = 1 ∨ x = 2 ∨ x = 3 ∨ x = 4 ∨ x = 5 ∨ x = 6 := by omega
theorem prm_mul {p x y : Int} (hp : Prm p) (hx : 0 < x) (hx1 : x < p) (hy : 0 < y) (hy1 : y < p) : 0 < x * y % p := by
  have h7 : p ≤ 7 := by rcases hp with rfl | rfl | rfl | rfl <;> decide
  rcases hp with rfl | rfl | rfl | rfl <;> rcases rng_cases hx hx1 h7 with rfl | rfl | rfl | rfl | rfl | rfl <;> rcases rng_cases hy hy1 h7 with rfl | rfl | rfl | rfl | rfl | rfl <;> first | decide | omega
/-- the inverse, as the program reckons it -/
def powM (p x : Int) : Nat → Int
  | 0 => 1
  | n + 1 => powM p x n * x % p
def inv (p x : Int) : Int := powM p x (p - 2).toNat
theorem inv_one {p x : Int} (hp : Prm p) (hx : 0 < x) (hx1 : x < p) : inv p x * x % p = 1 ∧ 0 < inv p x ∧ inv p x < p := by
  have h7 : p ≤ 7 := by rcases hp with rfl | rfl | rfl | rfl <;> decide
  rcases hp with rfl | rfl | rfl | rfl <;> rcases rng_cases hx hx1 h7 with rfl | rfl | rfl | rfl | rfl | rfl <;> first | decide | omega
theorem inv_uniq {p x n : Int} (hp : Prm p) (hx : 0 < x) (hx1 : x < p) (hn : 0 < n) (hn1 : n < p) (h : n * x % p = 1) : n = inv p x := by
  have h7 : p ≤ 7 := by rcases hp with rfl | rfl | rfl | rfl <;> decide
  rcases hp with rfl | rfl | rfl | rfl <;> rcases rng_cases hx hx1 h7 with rfl | rfl | rfl | rfl | rfl | rfl <;> rcases rng_cases hn hn1 h7 with rfl | rfl | rfl | rfl | rfl | rfl <;> first | rfl | omega | (revert h; decide)
theorem inv_mul {p x y : Int} (hp : Prm p) (hx : 0 < x) (hx1 : x < p) (hy : 0 < y) (hy1 : y < p) : inv p (x * y % p) % p = inv p x * inv p y % p := by
  have h7 : p ≤ 7 := by rcases hp with rfl | rfl | rfl | rfl <;> decide
  rcases hp with rfl | rfl | rfl | rfl <;> rcases rng_cases hx hx1 h7 with rfl | rfl | rfl | rfl | rfl | rfl <;> rcases rng_cases hy hy1 h7 with rfl | rfl | rfl | rfl | rfl | rfl <;> first | decide | omega
section
variable {p : Int} {s t : Bg}
theorem cf_pos_of {w : Str} (g : Good p s) (h : w ∈ keys s) : 0 < cf s w := by
  obtain ⟨n, hn⟩ := mem_keys.mp h
  rw [cf_of_mem g.nd hn]
  exact g.lo _ hn
theorem cf_lt_of {w : Str} (hp : 0 < p) (g : Good p s) : cf s w < p := cf_lt hp g w
theorem prod_lead (hp : Prm p) (gs : Good p s) (gt : Good p t) (hs : s ≠ []) (ht : t ≠ []) : lead s ++ lead t ∈ keys (prodS p s t) ∧ lead (prodS p s t) = lead s ++ lead t ∧ cf (prodS p s t) (lead s ++ lead t) = cf s (lead s) * cf t (lead t) % p := by
  have hp0 : 0 < p := by have := hp.pos; omega
  have e1 : cf (prodS p s t) (lead s ++ lead t) = cf s (lead s) * cf t (lead t) % p := by
    rw [cf_prod hp0, cvS_lead gs.nd gt.nd (fun u hu => lead_len hu) (fun u hu => lead_len hu)]
  have hm : lead s ++ lead t ∈ keys (prodS p s t) := by
    rw [cf_ne (Good.prod hp0 s t), e1]
    have := prm_mul hp (cf_pos_of gs (lead_mem hs)) (cf_lt_of hp0 gs) (cf_pos_of gt (lead_mem ht)) (cf_lt_of hp0 gt)
    exact (Int.ne_of_lt this).symm
  refine ⟨hm, lead_is hm fun u hu => ?_, e1⟩
  obtain ⟨a, ha, b, hb, rfl⟩ := keys_prod hu
  exact leW_app (lead_le ha) (lead_le hb)
theorem prod_ne (hp : Prm p) (gs : Good p s) (gt : Good p t) (hs : s ≠ []) (ht : t ≠ []) : prodS p s t ≠ [] := fun e => by
  have := (prod_lead hp gs gt hs ht).1
  rw [e] at this
  cases this
/-! ### words of one length -/
def sizedS (s : Bg) (n : Int) : Bg := s.filter fun kv => decide ((kv.1.length : Int) = n)
/-- the length -/
def sizeS (s : Bg) : Int := if s = [] then -1 else (lead s).length
theorem Good.sized (g : Good p s) (n : Int) : Good p (sizedS s n) := ⟨by
    unfold sizedS keys
    exact (List.filter_sublist.map _).nodup g.nd, fun kv h => g.lo kv (List.mem_filter.mp h).1, fun kv h => g.hi kv (List.mem_filter.mp h).1⟩
theorem sumL_filter {α : Type} (l : List α) (q : α → Bool) (f : α → Int) : sumL (l.filter q) f = sumL l fun a => if q a = true then f a else 0 := by
  induction l with
  | nil => rfl
  | cons a l ih =>
    rw [List.filter_cons, sumL_cons]
    by_cases h : q a = true
    · rw [if_pos h, if_pos h, sumL_cons, ih]
    · rw [if_neg h, if_neg h, ih, Int.zero_add]
theorem cf_sized (hn : (keys s).Nodup) (n : Int) (w : Str) : cf (sizedS s n) w = if (w.length : Int) = n then cf s w else 0 := by
  have hn2 : (keys (sizedS s n)).Nodup := by
    unfold sizedS keys
    exact (List.filter_sublist.map _).nodup hn
  rw [← sum_ind hn2 w]
  unfold sizedS
  rw [sumL_filter]
  by_cases h : (w.length : Int) = n
  · rw [if_pos h, ← sum_ind hn w]
    refine sumL_congr fun a ha => ?_
    by_cases e : a.1 = w
    · rw [if_pos e, e, if_pos (decide_eq_true h)]
    · rw [if_neg e, ite_self]
  · rw [if_neg h]
    refine sumL_zero fun a ha => ?_
    by_cases e : a.1 = w
    · rw [e, if_neg (by rw [decide_eq_false h]; exact Bool.false_ne_true)]
    · rw [if_neg e, ite_self]
theorem top_prod (hp : Prm p) (gs : Good p s) (gt : Good p t) (hs : s ≠ []) (ht : t ≠ []) : Eqv (sizedS (prodS p s t) (sizeS (prodS p s t))) (prodS p (sizedS s (sizeS s)) (sizedS t (sizeS t))) := fun l => by
  have hp0 : 0 < p := by have := hp.pos; omega
  obtain ⟨_, e1, _⟩ := prod_lead hp gs gt hs ht
  unfold cl
  rw [cf_sized (Good.prod hp0 s t).nd, cf_prod hp0, cf_prod hp0]
  unfold sizeS
  rw [if_neg hs, if_neg ht, if_neg (prod_ne hp gs gt hs ht), e1, len_app]
  have e : cvS (sizedS s (lead s).length) (sizedS t (lead t).length) (ofL l) = if ((ofL l).length : Int) = ((lead s).length + (lead t).length : Nat) then cvS s t (ofL l) else 0 := by
    unfold cvS sizedS
    rw [sumL_filter]
    have e2 : ∀ x ∈ s, (if decide ((x.1.length : Int) = (lead s).length) = true then sumL (t.filter fun kv => decide ((kv.1.length : Int) = (lead t).length)) (fun b => if x.1 ++ b.1 = ofL l then x.2 * b.2 else 0) else 0) =
        if ((ofL l).length : Int) = ((lead s).length + (lead t).length : Nat) then sumL t (fun b => if x.1 ++ b.1 = ofL l then x.2 * b.2 else 0) else 0 := by
      intro x hx
      have hxl := lead_len (mem_keys.mpr ⟨x.2, hx⟩)
      rw [sumL_filter]
      by_cases h : ((ofL l).length : Int) = ((lead s).length + (lead t).length : Nat)
      · rw [if_pos h]
        by_cases h2 : (x.1.length : Int) = (lead s).length
        · rw [if_pos (decide_eq_true h2)]
          refine sumL_congr fun y hy => ?_
          by_cases h3 : x.1 ++ y.1 = ofL l
          · have h4 := congrArg Str.length h3
            rw [len_app] at h4
            rw [if_pos (decide_eq_true (by omega))]
          · rw [if_neg h3, ite_self]
        · rw [if_neg (by rw [decide_eq_false h2]; exact Bool.false_ne_true)]
          refine (sumL_zero fun y hy => ?_).symm
          have hyl := lead_len (mem_keys.mpr ⟨y.2, hy⟩)
          refine if_neg fun h3 => ?_
          have h4 := congrArg Str.length h3
          rw [len_app] at h4
          omega
      · rw [if_neg h]
        by_cases h2 : (x.1.length : Int) = (lead s).length
        · rw [if_pos (decide_eq_true h2)]
          refine sumL_zero fun y hy => ?_
          by_cases h3 : x.1 ++ y.1 = ofL l
          · have h4 := congrArg Str.length h3
            rw [len_app] at h4
            rw [if_neg]
            intro h5
            have := of_decide_eq_true h5
            omega
          · rw [if_neg h3, ite_self]
        · rw [if_neg (by rw [decide_eq_false h2]; exact Bool.false_ne_true)]
    rw [sumL_congr e2]
    by_cases h : ((ofL l).length : Int) = ((lead s).length + (lead t).length : Nat)
    · simp only [if_pos h]
    · simp only [if_neg h]
      exact sumL_zero fun _ _ => rfl
  rw [e]
  split
  · rfl
  · exact (Int.zero_emod p).symm
/-! ### plain bags -/
def plainS (p : Int) (s : Bg) : Bg := plusS p [] s (inv p (cf s (lead s)))
theorem cf_plain (hp : 0 < p) (hn : (keys s).Nodup) (w : Str) : cf (plainS p s) w = inv p (cf s (lead s)) * cf s w % p := by
  unfold plainS
  rw [cf_plus hp Good.nil hn, cf_nil, Int.zero_add]
theorem plain_prod (hp : Prm p) (gs : Good p s) (gt : Good p t) (hs : s ≠ []) (ht : t ≠ []) : Eqv (plainS p (prodS p s t)) (prodS p (plainS p s) (plainS p t)) := fun l => by
  have hp0 : 0 < p := by have := hp.pos; omega
  obtain ⟨_, e1, e2⟩ := prod_lead hp gs gt hs ht
  have gps : Good p (plainS p s) := Good.plus hp0 Good.nil s
  have gpt : Good p (plainS p t) := Good.plus hp0 Good.nil t
  have h1 : cl (plainS p (prodS p s t)) l = inv p (cf s (lead s) * cf t (lead t) % p) * cl (prodS p s t) l % p := by
    unfold cl
    rw [cf_plain hp0 (Good.prod hp0 s t).nd, e1, e2]
  rw [h1, cl_prod hp0 gs.nd gt.nd, cl_prod hp0 gps.nd gpt.nd]
  have h2 : conv (cl (plainS p s)) (cl (plainS p t)) l % p = conv (fun v => inv p (cf s (lead s)) * cl s v) (fun v => inv p (cf t (lead t)) * cl t v) l % p := conv_mod (fun v => by
      unfold cl
      rw [cf_plain hp0 gs.nd, Int.emod_emod_of_dvd _ (Int.dvd_refl p)]) (fun v => by
      unfold cl
      rw [cf_plain hp0 gt.nd, Int.emod_emod_of_dvd _ (Int.dvd_refl p)]) l
  rw [h2, conv_mull, conv_mulr, ← Int.mul_assoc]
  have h3 := inv_mul hp (cf_pos_of gs (lead_mem hs)) (cf_lt_of hp0 gs) (cf_pos_of gt (lead_mem ht)) (cf_lt_of hp0 gt)
  rw [Int.mul_emod, h3, Int.emod_emod_of_dvd _ (Int.dvd_refl p), ← Int.mul_emod]
end
end Fp

/-! Comprehensions that choose; dict comprehensions over a dict; dict(pairs). -/
namespace Fp
open PySem L2
section
variable {J : It} {n : Nat} {G : Hp → Prop} {Y : Nat → Hp → V → Hp → Prop} {α : Type}
/-- a comprehension that chooses: its elements stand to the chosen es as R says -/
theorem lc_relF (w : Walk J n G Y) {j : Nat} {te : TE} {tt : TT} {vs : List Nat} {σ : St} {H1 : Hp} {Q : VK} (es : List α) (sel : α → Bool) (hl : es.length = n) (hn : n ≤ sizeLine) (hG : ∀ H, Ex H1 H → G H)
    (R : α → V → Hp → Prop) (hR : ∀ e y H H', ExL H H' → R e y H → R e y H') (hw : ∀ x, wipe ((wipe σ vs).set j x) vs = wipe σ vs)
    (hs : ∀ i x e H H' (K : VK) (N : Hp → Prop), i < n → Ex H1 H → Y i H x H' → es[i]? = some e → (sel e = true → ∀ y H4, Ex H H4 → R e y H4 → K y H4) → (sel e = false → ∀ H4, Ex H H4 → N H4) →
      tt ((wipe σ vs).set j (some x)) H' fun b H3 => if b = true then te ((wipe σ vs).set j (some x)) H3 K else N H3)
    (hd : ∀ D H' ys, H1 D = none → Ex H1 H' → H' D = some (.lst ys) → Paired (fun y e => R e y H') ys (es.filter sel) → Q (.ref D) H') :
    LcG J (gName j) tt te vs σ H1 Q := by
  intro D hD
  refine lc_it w (fun i H => Ex H1 H ∧ ∃ ys, H D = some (.lst ys) ∧ Paired (fun y e => R e y H) ys ((es.take i).filter sel)) ⟨Ex.new hD, [], upd_same, .nil⟩ (fun i H _ p => hG H p.1) ?_ (fun H p => ?_)
  · rintro i x H H' hi ⟨e, ys, hacc, hp⟩ hy
    have hi' : i < es.length := by omega
    obtain ⟨y, hyi⟩ : ∃ y, es[i]? = some y := ⟨es[i], by simp [hi']⟩
    refine ⟨hw _, ?_⟩
    have hlen : ys.length ≤ i := by
      rw [hp.length]
      refine Nat.le_trans (List.length_filter_le _ _) ?_
      rw [List.length_take]
      omega
    refine hs i x y H H' _ _ hi e hy hyi (fun hsel z H4 e4 rz => ⟨ys, e4 _ _ hacc, by omega, ?_, ys ++ [z], upd_same, ?_⟩) fun hsel H4 e4 => ⟨e.trans e4, ys, e4 _ _ hacc, ?_⟩
    · exact Ex.mut (e.trans e4) hD
    · have tu : ExL H4 (L2.upd H4 D (.lst (ys ++ [z]))) := ExL.upd (e4 _ _ hacc)
      rw [List.take_add_one, hyi, List.filter_append]
      have : List.filter sel (some y).toList = [y] := by simp [hsel]
      rw [this]
      exact Paired.snoc (Paired.mapP hp fun a b q => hR _ _ _ _ (e4.exl.trans tu) q) (hR _ _ _ _ tu rz)
    · rw [List.take_add_one, hyi, List.filter_append]
      have : List.filter sel (some y).toList = [] := by simp [hsel]
      rw [this, List.append_nil]
      exact Paired.mapP hp fun a b q => hR _ _ _ _ e4.exl q
  · obtain ⟨e, ys, h, hp⟩ := p
    rw [← hl, List.take_length] at hp
    exact hd D H ys hD e h hp
end
/-- ExL to a heap in which a dict is unlocked -/
def ExT (H H' : Hp) : Prop := TupS H H'
section
variable {σ : St} {H : Hp} {Q : VK} {d : Addr} {s : Bg}
/-- a loop of any kind over a dict's keys: the dict locked, then unlocked -/
theorem lock_any {t : TE} (hd : Rd H d (.dK (toK s)))
    (core : ∀ (Hl : Hp) (od : Obj) (Q' : VK), Hl d = some (.frz od (.dK (toK s))) → LkEx d s H Hl → (∀ a, Hl a = none → H a = none) →
      (∀ v H', (∀ D, v = .ref D → H D = none) → Ex Hl H' → (∀ H2, Ex H H2 → (∀ a, a ≠ d → H2 a = H' a) → TupS H' H2 → Q v H2) → Q' v H') → t σ Hl Q') : tLockRE t σ H Q := by
  rcases hd with hd | ⟨od, hd⟩
  · refine .inl ⟨d, _, hd, trivial, fun od => ?_⟩
    refine core _ od _ upd_same ⟨fun a o ha q => by rw [upd_ne ha]; exact q, .inr ⟨od, upd_same⟩⟩ (fun a ha => ?_) fun v H' hv e hq => ?_
    · by_cases q : a = d
      · subst q; rw [upd_same] at ha; cases ha
      · rw [upd_ne q] at ha; exact ha
    · have hdl : H' d = some (.frz od (.dK (toK s))) := e _ _ upd_same
      refine ⟨hdl, hq _ (fun a o q => ?_) (fun a ha => by rw [upd_ne ha]) (TupS.upd hdl fun _ => by simp)⟩
      by_cases ha : a = d
      · subst ha
        rw [hd] at q
        cases q
        exact upd_same
      · rw [upd_ne ha]
        exact e a o (by rw [upd_ne ha]; exact q)
  · exact .inr (core H od Q hd ⟨fun a o _ h => h, .inr ⟨od, hd⟩⟩ (fun _ h => h) fun v H' hv e hq => hq H' e (fun _ _ => rfl) fun _ _ h => h)
end
/-- a comprehension over a dict's keys that chooses -/
theorem lcd_relF {σ : St} {H : Hp} {Q : VK} {d : Addr} {s : Bg} {te0 te : TE} {tt : TT} {j : Nat} {vs : List Nat} (hd : Rd H d (.dK (toK s))) (hz : s.length ≤ sizeLine)
    (he : ∀ (H' : Hp) (Q : VK), LkEx d s H H' → Q (.ref d) H' → te0 σ H' Q) (sel : Str × Int → Bool)
    (R : Str × Int → V → Hp → Prop) (hR : ∀ e y H H', TupS H H' → R e y H → R e y H') (hw : ∀ x, wipe ((wipe σ vs).set j x) vs = wipe σ vs)
    (hs : ∀ (i : Nat) (w : Str) (n : Int) (H' : Hp) (K : VK) (N : Hp → Prop), s[i]? = some (w, n) → LkEx d s H H' → (sel (w, n) = true → ∀ y H4, Ex H' H4 → R (w, n) y H4 → K y H4) → (sel (w, n) = false → ∀ H4, Ex H' H4 → N H4) →
      tt ((wipe σ vs).set j (some (.str w))) H' fun b H3 => if b = true then te ((wipe σ vs).set j (some (.str w))) H3 K else N H3)
    (hend : ∀ D H' ys, H D = none → Ex H H' → H' D = some (.lst ys) → Paired (fun y e => R e y H') ys (s.filter sel) → Q (.ref D) H') : tLockRE (tLc (iKeys te0) (gName j) tt te vs) σ H Q := by
  refine lock_any hd fun Hl od Q' hl l0 hnone hq => ?_
  refine he Hl _ l0 ⟨d, od, rfl, .inl ⟨toK s, hl, ?_⟩⟩
  show LcG _ _ _ _ _ _ _ _
  refine lc_relF walk_keys s sel (toK_len s).symm (by rw [toK_len]; exact hz) (fun H' e => e _ _ hl) R (fun e y H H' t => hR e y H H' fun a xs h => t a _ (fun _ z => nomatch z) h) hw ?_ (fun D H' ys hD e hl2 hp => ?_)
  · rintro i x e H2 H3 K N hi e2 ⟨rfl, k, v, hk, rfl⟩ hei hK hN
    obtain ⟨w, n, hw', ekv⟩ := toK_get hk
    cases ekv
    rw [hw'] at hei
    obtain rfl := (Option.some.inj hei).symm
    exact hs i w n H3 K N hw' (l0.ex e2) hK hN
  · have hDd : D ≠ d := fun z => by subst z; rw [hl] at hD; cases hD
    refine hq _ H' (fun D' z => by cases z; exact hnone _ hD) e fun H2 e2 hs2 ht => hend D H2 ys (hnone _ hD) e2 (by rw [hs2 D hDd]; exact hl2) (Paired.mapP hp fun a b q => hR _ _ _ _ ht q)
theorem putS_new {t : Bg} {w : Str} {n : Int} (h : w ∉ keys t) : putS t w n = t ++ [(w, n)] := by
  unfold putS
  rw [if_neg]
  intro z
  rw [List.any_eq_true] at z
  obtain ⟨kv, h1, h2⟩ := z
  exact h (mem_keys.mpr ⟨kv.2, by rw [← of_decide_eq_true h2]; exact h1⟩)
/-- a dict comprehension over a dict's keys: the pairs that f makes of them -/
theorem dcd_rel {σ : St} {H : Hp} {Q : VK} {d : Addr} {s : Bg} {te0 tk tv : TE} {tt : TT} {j : Nat} {vs : List Nat} (hd : Rd H d (.dK (toK s))) (hz : s.length < sizeLine)
    (he : ∀ (H' : Hp) (Q : VK), LkEx d s H H' → Q (.ref d) H' → te0 σ H' Q) (f : Str × Int → Option (Str × Int)) (hnd : (keys (s.filterMap f)).Nodup) (hw : ∀ x, wipe ((wipe σ vs).set j x) vs = wipe σ vs)
    (hs : ∀ (i : Nat) (w : Str) (n : Int) (H' : Hp) (K : V → V → Hp → Prop) (N : Hp → Prop), s[i]? = some (w, n) → LkEx d s H H' → (∀ w' n' H5, f (w, n) = some (w', n') → Ex H' H5 → K (.str w') (.int n') H5) → (f (w, n) = none → ∀ H4, Ex H' H4 → N H4) →
      tt ((wipe σ vs).set j (some (.str w))) H' fun b H3 => if b = true then tk ((wipe σ vs).set j (some (.str w))) H3 fun y H4 => tv ((wipe σ vs).set j (some (.str w))) H4 fun z H5 => K y z H5 else N H3)
    (hend : ∀ D H', H D = none → Ex H H' → H' D = some (.dK (toK (s.filterMap f))) → Q (.ref D) H') : tLockRE (tDc (iKeys te0) (gName j) tt tk tv vs) σ H Q := by
  refine lock_any hd fun Hl od Q' hl l0 hnone hq => ?_
  refine he Hl _ l0 ⟨d, od, rfl, .inl ⟨toK s, hl, fun D hD => ?_⟩⟩
  have hDd : D ≠ d := fun z => by subst z; rw [hl] at hD; cases hD
  refine ⟨fun i m H' => m = s.length - i ∧ i ≤ s.length ∧ Ex Hl H' ∧ H' D = some (.dK (toK ((s.take i).filterMap f))), ⟨s.length, by simp, Nat.zero_le _, Ex.new hD, upd_same⟩, ?_⟩
  rintro i m H2 ⟨rfl, hi, e2, hD2⟩
  have hl2 := e2 _ _ hl
  by_cases hlt : i < s.length
  · refine .inr ⟨⟨hl2, by rw [toK_len]; exact hlt⟩, fun H' => Ex Hl H' ∧ H' D = some (.dK (toK ((s.take (i + 1)).filterMap f))), fun H' p => ⟨s.length - (i + 1), by omega, rfl, hlt, p.1, p.2⟩, ?_⟩
    rintro x H' ⟨rfl, k, v, hk, rfl⟩
    obtain ⟨w, n, hw', ekv⟩ := toK_get hk
    cases ekv
    have etk : s.take (i + 1) = s.take i ++ [(w, n)] := by rw [List.take_add_one, hw']; rfl
    refine ⟨hw _, ?_⟩
    refine hs i w n H' _ _ hw' (l0.ex e2) (fun w' n' H5 hf e5 => ⟨toK ((s.take i).filterMap f), Sum.inr w', rfl, e5 _ _ hD2, ?_, Ex.mut (e2.trans e5) hD, ?_⟩) fun hf H4 e4 => ⟨e2.trans e4, ?_⟩
    · rw [toK_len]
      exact Nat.lt_of_le_of_lt (Nat.le_trans (List.length_filterMap_le _ _) (by rw [List.length_take]; omega)) hz
    · rw [upd_same, putK_toK, etk, List.filterMap_append]
      have e3 : List.filterMap f [(w, n)] = [(w', n')] := by simp [hf]
      rw [e3, putS_new]
      intro hmem
      have hsub : keys ((s.take (i + 1)).filterMap f) = keys ((s.take i).filterMap f) ++ [w'] := by
        rw [etk, List.filterMap_append, e3]
        unfold keys
        rw [List.map_append]
        rfl
      have hnd2 : (keys ((s.take (i + 1)).filterMap f)).Nodup := by
        unfold keys at hnd ⊢
        refine List.Sublist.nodup (List.Sublist.map _ ?_) hnd
        exact List.Sublist.filterMap _ (List.take_sublist _ _)
      rw [hsub, List.nodup_append] at hnd2
      exact hnd2.2.2 _ hmem _ (by simp) rfl
    · rw [e4 _ _ hD2, etk, List.filterMap_append]
      have e3 : List.filterMap f [(w, n)] = [] := by simp [hf]
      rw [e3, List.append_nil]
  · have ei : i = s.length := by omega
    subst ei
    rw [List.take_length] at hD2
    refine .inl ⟨⟨hl2, by rw [toK_len]; exact Nat.le_refl _⟩, ?_⟩
    exact hq _ H2 (fun D' z => by cases z; exact hnone _ hD) e2 fun H3 e3 hs3 ht => hend D H3 (hnone _ hD) e3 (by rw [hs3 D hDd]; exact hD2)
/-! ### dict(list of pairs) -/
def rDictP (K : PySem.W.Frag) : List V → Hp → VK → Prop := fun xs H Q => ∃ (a : Addr) (ps : List Addr) (kvs : List (Key × V)), xs = [.ref a] ∧ SqL K H a (ps.map V.ref) ∧ Paired (fun p kv => SqT K H p [kV kv.1, kv.2]) ps kvs ∧
    ∀ p, H p = none → Q (.ref p) (upd H p (.dK (mergeK [] kvs)))
theorem call_dictQ {X : Cx} (h : X.calm = true) : CallR X (.type "dict") (rDictP X.K) := call_dictP h
/-- a list of tuples (word, number) -/
theorem g_dictP {K : PySem.W.Frag} {H : Hp} {a : Addr} {ps : List Addr} {s : Bg} {Q : VK} (hl : SqL K H a (ps.map V.ref)) (hp : Paired (fun p (kv : Str × Int) => SqT K H p [.str kv.1, .int kv.2]) ps s) (hn : (keys s).Nodup)
    (h : ∀ p, H p = none → Q (.ref p) (upd H p (.dK (toK s)))) : rDictP K [.ref a] H Q := by
  refine ⟨a, ps, toK s, rfl, hl, ?_, ?_⟩
  · exact paired_mapr hp fun a b z => z
  · rw [mergeK_toK hn]
    exact h
end Fp

/-! A comprehension whose elements are made while the hand turns. -/
namespace Fp
open PySem L2
theorem lc_mutR {J : It} {n : Nat} {G : Hp → Prop} {Y : Nat → Hp → V → Hp → Prop} (w : Walk J n G Y) {f : Addr} {o0 : HO} {j : Nat} {te : TE} {vs : List Nat} {σ : St} {H1 : Hp} {Q : VK} (hf : H1 f = some o0) (hn : n ≤ sizeLine) (I : Hp → Prop) (h0 : I H1)
    (hI : ∀ H D o, H1 D = none → I H → I (upd H D o)) (hG : ∀ H, ExB f H1 H → I H → G H) (R : Nat → V → Hp → Prop) (hR : ∀ i y H H', ExB f H H' → I H → R i y H → R i y H') (hRu : ∀ i y H D ys zs, H D = some (.lst ys) → R i y H → R i y (upd H D (.lst zs))) (hw : ∀ x, wipe ((wipe σ vs).set j x) vs = wipe σ vs)
    (hs : ∀ i x H H' (K : VK), i < n → ExB f H1 H → I H → Y i H x H' → (∀ y H4, ExB f H H4 → I H4 → R i y H4 → K y H4) → te ((wipe σ vs).set j (some x)) H' K)
    (hd : ∀ D H' ys, H1 D = none → ExB f H1 H' → I H' → H' D = some (.lst ys) → ys.length = n → (∀ (i : Nat) (y : V), ys[i]? = some y → R i y H') → Q (.ref D) H') :
    LcG J (gName j) tYes te vs σ H1 Q := by
  intro D hD
  have hDf : D ≠ f := Ne.symm (ne_of_none hf hD)
  refine lc_it w (fun i H => ExB f H1 H ∧ I H ∧ ∃ ys, H D = some (.lst ys) ∧ ys.length = i ∧ ∀ i y, ys[i]? = some y → R i y H) ⟨(Ex.new hD).exb, hI _ _ _ hD h0, [], upd_same, rfl, fun _ _ h => nomatch h⟩ (fun i H _ p => hG H p.1 p.2.1) ?_ (fun H p => ?_)
  · rintro i x H H' hi ⟨e, hi1, ys, hacc, hl, hp⟩ hy
    refine ⟨hw _, ?_⟩
    unfold tYes
    dsimp only
    rw [if_pos rfl]
    refine hs i x H H' _ hi e hi1 hy fun z H4 e4 i4 pz => ⟨ys, e4 _ _ hDf hacc, by omega, ?_, hI _ _ _ hD i4, ys ++ [z], upd_same, by rw [List.length_append, hl]; rfl, fun k y hy => ?_⟩
    · exact fun a o hne q => by rw [upd_ne (ne_of_none q hD)]; exact e4 a o hne (e a o hne q)
    · refine hRu _ _ _ _ _ _ (e4 _ _ hDf hacc) ?_
      rcases Nat.lt_or_ge k ys.length with hk | hk
      · rw [List.getElem?_append_left hk] at hy
        exact hR _ _ _ _ e4 hi1 (hp k y hy)
      · rw [List.getElem?_append_right hk] at hy
        have hk2 : k - ys.length = 0 := by
          rcases Nat.eq_zero_or_pos (k - ys.length) with q | q
          · exact q
          · rw [List.getElem?_eq_none (by simp; omega)] at hy; cases hy
        rw [hk2] at hy
        obtain rfl : z = y := Option.some.inj hy
        have : k = i := by omega
        subst this
        exact pz
  · obtain ⟨e, hi, ys, h, hl, hp⟩ := p
    exact hd D H ys hD e hi h hl hp
/-- each is one of such: they are so in pairs -/
theorem paired_all {α β : Type} {F : α → β → Prop} {g : α → V} : ∀ {ys : List V}, (∀ (i : Nat) (y : V), ys[i]? = some y → ∃ a b, y = g a ∧ F a b) → ∃ as bs, ys = List.map g as ∧ Paired F as bs
  | [], _ => ⟨[], [], rfl, .nil⟩
  | y :: ys, h => by
    obtain ⟨a, b, rfl, hab⟩ := h 0 y rfl
    obtain ⟨as, bs, rfl, hp⟩ := paired_all (ys := ys) fun i z hz => h (i + 1) z hz
    exact ⟨a :: as, b :: bs, rfl, .cons hab hp⟩
end Fp

/-! Dividing: what stands behind a front. -/
namespace Fp
open PySem PySem.W
/-! ### a bag with a word behind it -/
def withB (F : Bg) (t : Str) : Bg := F.map fun kv => (kv.1 ++ t, kv.2)
theorem app_cancel {a b t : Str} (h : a ++ t = b ++ t) : a = b := by
  have h1 : a.cps.toList ++ t.cps.toList = b.cps.toList ++ t.cps.toList := by rw [← app_toList, ← app_toList, h]
  exact str_ext (List.append_cancel_right h1)
theorem app_cancel_l {a b t : Str} (h : t ++ a = t ++ b) : a = b := by
  have h1 : t.cps.toList ++ a.cps.toList = t.cps.toList ++ b.cps.toList := by rw [← app_toList, ← app_toList, h]
  exact str_ext (List.append_cancel_left h1)
theorem withB_keys (F : Bg) (t : Str) : keys (withB F t) = (keys F).map fun u => u ++ t := by
  unfold withB keys
  rw [List.map_map, List.map_map]
  rfl
theorem withB_nodup {F : Bg} {t : Str} (h : (keys F).Nodup) : (keys (withB F t)).Nodup := by
  rw [withB_keys]
  exact List.Pairwise.map _ (fun a b q e => q (app_cancel e)) h
theorem withB_one {p : Int} {F : Bg} (t : Str) (hp : 0 < p) (g : Good p F) : (F.map fun kv => (kv.1 ++ t, kv.2 * 1 % p)) = withB F t := by
  unfold withB
  refine List.map_congr_left fun kv h => ?_
  have h1 := g.lo kv h
  have h2 := g.hi kv h
  rw [Int.mul_one, Int.emod_eq_of_lt (by omega) h2]
theorem addTo_new {p : Int} {s : Bg} {w : Str} {n : Int} (h : w ∉ keys s) (h0 : 0 < n) (h1 : n < p) : addTo p s w n = s ++ [(w, n)] := by
  unfold addTo
  have e : cf s w = 0 := cf_not_mem h
  have e2 : (cf s w + n) % p = n := by rw [e, Int.zero_add, Int.emod_eq_of_lt (by omega) h1]
  rw [e2, if_neg (by omega)]
  unfold putS
  rw [if_neg]
  intro z
  rw [List.any_eq_true] at z
  obtain ⟨kv, q1, q2⟩ := z
  exact h (mem_keys.mpr ⟨kv.2, by rw [← of_decide_eq_true q2]; exact q1⟩)
theorem fold_new {p : Int} {t : Str} : ∀ (l acc : Bg), (keys l).Nodup → (∀ kv ∈ l, 0 < kv.2 ∧ kv.2 < p) → (∀ u ∈ keys l, u ++ t ∉ keys acc) → l.foldl (fun acc a => prodRow p acc a [(t, 1)]) acc = acc ++ withB l t
  | [], acc, _, _, _ => (List.append_nil acc).symm
  | a :: l, acc, hn, hv, hd => by
    have hn2 := List.nodup_cons.mp (show (a.1 :: keys l).Nodup from hn)
    have ha := hv a List.mem_cons_self
    have e1 : prodRow p acc a [(t, 1)] = acc ++ [(a.1 ++ t, a.2)] := by
      show addTo p acc (a.1 ++ t) (a.2 * 1) = _
      rw [Int.mul_one]
      exact addTo_new (hd a.1 (show a.1 ∈ a.1 :: keys l from List.mem_cons_self)) ha.1 ha.2
    rw [List.foldl_cons, e1, fold_new l _ hn2.2 (fun kv h => hv kv (List.mem_cons_of_mem _ h)) (fun u hu hm => ?_), List.append_assoc]
    · rfl
    · unfold keys at hm
      rw [List.map_append, List.mem_append] at hm
      rcases hm with hm | hm
      · exact hd u (show u ∈ a.1 :: keys l from List.mem_cons_of_mem _ hu) hm
      · have e := List.mem_singleton.mp hm
        have e2 := app_cancel e
        rw [e2] at hu
        exact hn2.1 hu
theorem prod_word {p : Int} {F : Bg} (t : Str) (g : Good p F) : prodS p F [(t, 1)] = withB F t := by
  unfold prodS
  rw [fold_new F [] g.nd (fun kv h => ⟨g.lo kv h, g.hi kv h⟩) (fun _ _ h => nomatch h)]
  rfl
theorem withB_good {p : Int} {F : Bg} {t : Str} (g : Good p F) : Good p (withB F t) := ⟨withB_nodup g.nd, fun kv h => by
    obtain ⟨q, hq, rfl⟩ := List.mem_map.mp h
    exact g.lo q hq, fun kv h => by
    obtain ⟨q, hq, rfl⟩ := List.mem_map.mp h
    exact g.hi q hq⟩
theorem cf_withB {F : Bg} {t u : Str} (hn : (keys F).Nodup) : cf (withB F t) (u ++ t) = cf F u := by
  by_cases h : u ∈ keys F
  · obtain ⟨n, hm⟩ := mem_keys.mp h
    rw [cf_of_mem hn hm, cf_of_mem (withB_nodup hn) (n := n) (List.mem_map.mpr ⟨(u, n), hm, rfl⟩)]
  · rw [cf_not_mem h, cf_not_mem]
    rw [withB_keys]
    intro z
    obtain ⟨v, hv, e⟩ := List.mem_map.mp z
    exact h (by rw [← app_cancel e]; exact hv)
theorem withB_len (F : Bg) (t : Str) : (withB F t).length = F.length := List.length_map _
/-! ### numbers -/
theorem step_zero {p l x : Int} (hp : Prm p) (hl : 0 < l) (hl1 : l < p) (hx : 0 < x) (hx1 : x < p) : (l + (-(l * inv p x % p)) * x) % p = 0 ∧ 0 < l * inv p x % p ∧ l * inv p x % p < p := by
  have h7 : p ≤ 7 := by rcases hp with rfl | rfl | rfl | rfl <;> decide
  rcases hp with rfl | rfl | rfl | rfl <;> rcases rng_cases hl hl1 h7 with rfl | rfl | rfl | rfl | rfl | rfl <;> rcases rng_cases hx hx1 h7 with rfl | rfl | rfl | rfl | rfl | rfl <;> first | decide | omega
theorem step_only {p l x k : Int} (hp : Prm p) (hl : 0 < l) (hl1 : l < p) (hx : 0 < x) (hx1 : x < p) (hk : 0 < k) (hk1 : k < p) : (k * x - l) % p = 0 ↔ k = l * inv p x % p := by
  have h7 : p ≤ 7 := by rcases hp with rfl | rfl | rfl | rfl <;> decide
  rcases hp with rfl | rfl | rfl | rfl <;> rcases rng_cases hl hl1 h7 with rfl | rfl | rfl | rfl | rfl | rfl <;> rcases rng_cases hx hx1 h7 with rfl | rfl | rfl | rfl | rfl | rfl <;> rcases rng_cases hk hk1 h7 with rfl | rfl | rfl | rfl | rfl | rfl <;> first | decide | omega
theorem step_back {p c x : Int} (hp : Prm p) (hc : 0 < c) (hc1 : c < p) (hx : 0 < x) (hx1 : x < p) : (x * c % p) * inv p x % p = c := by
  have h7 : p ≤ 7 := by rcases hp with rfl | rfl | rfl | rfl <;> decide
  rcases hp with rfl | rfl | rfl | rfl <;> rcases rng_cases hc hc1 h7 with rfl | rfl | rfl | rfl | rfl | rfl <;> rcases rng_cases hx hx1 h7 with rfl | rfl | rfl | rfl | rfl | rfl <;> first | decide | omega
/-! ### the words of so many letters x, y, z -/
def allL : Nat → List (List Nat)
  | 0 => [[]]
  | n + 1 => [] :: ((allL n).map (120 :: ·) ++ ((allL n).map (121 :: ·) ++ (allL n).map (122 :: ·)))
def lenU : Nat → Nat
  | 0 => 1
  | n + 1 => 1 + (lenU n + (lenU n + lenU n))
theorem allL_len : ∀ n, (allL n).length = lenU n
  | 0 => rfl
  | n + 1 => by
    unfold allL lenU
    rw [List.length_cons, List.length_append, List.length_append, List.length_map, List.length_map, List.length_map, allL_len n]
    omega
def Ltr (l : List Nat) : Prop := ∀ c ∈ l, c = 120 ∨ c = 121 ∨ c = 122
theorem mem_allL : ∀ (n : Nat) (l : List Nat), l.length ≤ n → Ltr l → l ∈ allL n
  | 0, [], _, _ => List.mem_singleton.mpr rfl
  | 0, c :: l, h, _ => absurd h (by simp)
  | n + 1, [], _, _ => List.mem_cons_self
  | n + 1, c :: l, h, hl => by
    have ih := mem_allL n l (by simp at h; omega) fun d hd => hl d (List.mem_cons_of_mem _ hd)
    unfold allL
    refine List.mem_cons_of_mem _ ?_
    rcases hl c List.mem_cons_self with rfl | rfl | rfl
    · exact List.mem_append_left _ (List.mem_map.mpr ⟨l, ih, rfl⟩)
    · exact List.mem_append_right _ (List.mem_append_left _ (List.mem_map.mpr ⟨l, ih, rfl⟩))
    · exact List.mem_append_right _ (List.mem_append_right _ (List.mem_map.mpr ⟨l, ih, rfl⟩))
def allW (n : Nat) : List Str := (allL n).map ofL
/-- words of at most so many letters -/
def Bd (n : Nat) (s : Bg) : Prop := ∀ u ∈ keys s, u.length ≤ n ∧ Ltr u.cps.toList
theorem mem_allW {n : Nat} {w : Str} (h : w.length ≤ n) (hl : Ltr w.cps.toList) : w ∈ allW n :=
  List.mem_map.mpr ⟨w.cps.toList, mem_allL n _ (by rw [str_len]; exact h) hl, ofL_toList w⟩
theorem len_sub {α : Type} [DecidableEq α] : ∀ {l m : List α}, l.Nodup → (∀ x ∈ l, x ∈ m) → l.length ≤ m.length
  | [], _, _, _ => Nat.zero_le _
  | a :: l, m, hn, hs => by
    have hn2 := List.nodup_cons.mp hn
    have ha := hs a List.mem_cons_self
    have h1 := len_sub (l := l) (m := m.erase a) hn2.2 fun x hx => by
      have hne : x ≠ a := fun e => by subst e; exact hn2.1 hx
      exact (List.mem_erase_of_ne hne).mpr (hs x (List.mem_cons_of_mem _ hx))
    rw [List.length_erase_of_mem ha] at h1
    have := List.length_pos_of_mem ha
    rw [List.length_cons]
    omega
theorem Bd.len {n : Nat} {s : Bg} (hn : (keys s).Nodup) (h : Bd n s) : s.length ≤ lenU n := by
  have h1 := len_sub hn (m := allW n) fun u hu => mem_allW (h u hu).1 (h u hu).2
  unfold allW at h1
  rw [List.length_map, allL_len] at h1
  unfold keys at h1
  rw [List.length_map] at h1
  exact h1
theorem filter_le {α : Type} {p q : α → Bool} (h : ∀ x, q x = true → p x = true) : ∀ l : List α, (l.filter q).length ≤ (l.filter p).length
  | [] => Nat.le_refl _
  | a :: l => by
    have ih := filter_le h l
    rw [List.filter_cons, List.filter_cons]
    cases hq : q a with
    | true => rw [h a hq, if_pos rfl, if_pos rfl, List.length_cons, List.length_cons]; omega
    | false =>
      rw [if_neg Bool.false_ne_true]
      split
      · rw [List.length_cons]; omega
      · exact ih
theorem filter_lt {α : Type} {p q : α → Bool} (h : ∀ x, q x = true → p x = true) {a : α} (hp : p a = true) (hq : q a = false) : ∀ l : List α, a ∈ l → (l.filter q).length < (l.filter p).length
  | [], hm => nomatch hm
  | b :: l, hm => by
    have ih2 := filter_le h l
    rw [List.filter_cons, List.filter_cons]
    rcases List.mem_cons.mp hm with e | hm2
    · subst e
      rw [hp, hq, if_neg Bool.false_ne_true, if_pos rfl, List.length_cons]
      omega
    · have ih := filter_lt h hp hq l hm2
      cases hqb : q b with
      | true => rw [h b hqb, if_pos rfl, if_pos rfl, List.length_cons, List.length_cons]; omega
      | false =>
        rw [if_neg Bool.false_ne_true]
        split
        · rw [List.length_cons]; omega
        · exact ih
/-- how many words are not ahead of the first word -/
def mu (n : Nat) (L : Bg) : Nat := if L = [] then 0 else ((allW n).filter fun u => leW (lead L) u).length
theorem leW_refl (a : Str) : leW a a = true := (leW_total.total _ _).elim id id
theorem mu_lt {n : Nat} {L L' : Bg} (hL : L ≠ []) (hb : Bd n L) (h : L' ≠ [] → leW (lead L) (lead L') = true ∧ lead L ≠ lead L') : mu n L' < mu n L := by
  have hm := hb _ (lead_mem hL)
  have hin := mem_allW hm.1 hm.2
  unfold mu
  rw [if_neg hL]
  by_cases e : L' = []
  · rw [if_pos e]
    exact List.length_pos_of_mem (List.mem_filter.mpr ⟨hin, leW_refl _⟩)
  · rw [if_neg e]
    obtain ⟨h1, h2⟩ := h e
    refine filter_lt (p := fun u => leW (lead L) u) (q := fun u => leW (lead L') u) (fun u hu => leW_total.trans _ _ _ h1 hu) (a := lead L) (leW_refl _) ?_ _ hin
    show leW (lead L') (lead L) = false
    cases q : leW (lead L') (lead L) with
    | false => rfl
    | true => exact absurd (leW_anti h1 q) h2
/-! ### dividing -/
def divK (p : Int) (F L : Bg) : Int := cf L (lead L) * inv p (cf F (lead F)) % p
def divL (p : Int) (F L : Bg) (t : Str) : Bg := plusS p L (withB F t) (-(divK p F L))
inductive DivR (p : Int) (F : Bg) : Bg → Bg → Option Bg → Prop
  | done {f : Bg} : DivR p F [] f (some f)
  | stop {L f : Bg} : L ≠ [] → (¬ ∃ t, lead L = lead F ++ t) → DivR p F L f none
  | step {L f : Bg} {r : Option Bg} {t : Str} : L ≠ [] → lead L = lead F ++ t → DivR p F (divL p F L t) (putS f t (divK p F L)) r → DivR p F L f r
section
variable {p : Int} {F L : Bg} {t : Str}
theorem divK_bd (hp : Prm p) (gF : Good p F) (gL : Good p L) (hF : F ≠ []) (hL : L ≠ []) : 0 < divK p F L ∧ divK p F L < p := by
  have hp0 : 0 < p := by have := hp.pos; omega
  exact (step_zero hp (cf_pos_of gL (lead_mem hL)) (cf_lt_of hp0 gL) (cf_pos_of gF (lead_mem hF)) (cf_lt_of hp0 gF)).2
theorem divL_good (hp : Prm p) (gL : Good p L) : Good p (divL p F L t) := Good.plus (by have := hp.pos; omega) gL _
theorem divL_keys {u : Str} (h : u ∈ keys (divL p F L t)) : u ∈ keys L ∨ ∃ v ∈ keys F, u = v ++ t := by
  rcases keys_plus h with h | h
  · exact .inl h
  · rw [withB_keys] at h
    obtain ⟨v, hv, rfl⟩ := List.mem_map.mp h
    exact .inr ⟨v, hv, rfl⟩
theorem divL_bd {n : Nat} (hF : Bd n F) (hL : Bd n L) (hne : L ≠ []) (ht : lead L = lead F ++ t) : Bd n (divL p F L t) := fun u hu => by
  rcases divL_keys hu with h | ⟨v, hv, rfl⟩
  · exact hL u h
  · have h1 := hL _ (lead_mem hne)
    have h2 := lead_len hv
    rw [ht, len_app, app_toList] at h1
    rw [len_app, app_toList]
    refine ⟨by omega, fun c hc => ?_⟩
    rcases List.mem_append.mp hc with hc | hc
    · exact (hF v hv).2 c hc
    · exact h1.2 c (List.mem_append_right _ hc)
theorem divL_lead (hp : Prm p) (gF : Good p F) (gL : Good p L) (hF : F ≠ []) (hne : L ≠ []) (ht : lead L = lead F ++ t) : divL p F L t ≠ [] → leW (lead L) (lead (divL p F L t)) = true ∧ lead L ≠ lead (divL p F L t) := fun h => by
  have hp0 : 0 < p := by have := hp.pos; omega
  have hm := lead_mem h
  refine ⟨?_, fun e => ?_⟩
  · rcases divL_keys hm with q | ⟨v, hv, q⟩
    · exact lead_le q
    · rw [q, ht]
      exact leW_app (lead_le hv) (leW_refl _)
  · rw [← e, cf_ne (divL_good hp gL)] at hm
    refine hm ?_
    unfold divL
    rw [cf_plus hp0 gL (withB_nodup gF.nd)]
    have e2 : cf (withB F t) (lead L) = cf F (lead F) := by rw [ht]; exact cf_withB gF.nd
    rw [e2]
    exact (step_zero hp (cf_pos_of gL (lead_mem hne)) (cf_lt_of hp0 gL) (cf_pos_of gF (lead_mem hF)) (cf_lt_of hp0 gF)).1
theorem divL_mu {n : Nat} (hp : Prm p) (gF : Good p F) (gL : Good p L) (hF : F ≠ []) (hne : L ≠ []) (hb : Bd n L) (ht : lead L = lead F ++ t) : mu n (divL p F L t) < mu n L := mu_lt hne hb (divL_lead hp gF gL hF hne ht)
theorem DivR.det {f : Bg} {r r' : Option Bg} (h : DivR p F L f r) (h' : DivR p F L f r') : r = r' := by
  induction h with
  | done => cases h' with
    | done => rfl
    | stop q _ => exact absurd rfl q
    | step q _ _ => exact absurd rfl q
  | stop q1 q2 => cases h' with
    | done => exact absurd rfl q1
    | stop _ _ => rfl
    | step _ q3 _ => exact absurd ⟨_, q3⟩ q2
  | step q1 q2 _ ih => cases h' with
    | done => exact absurd rfl q1
    | stop _ q3 => exact absurd ⟨_, q2⟩ q3
    | step _ q3 q4 =>
      have e := app_cancel_l (q2.symm.trans q3)
      subst e
      exact ih q4
theorem eqv_nil {s : Bg} (g : Good p s) (h : Eqv s []) : s = [] := by
  cases s with
  | nil => rfl
  | cons q r =>
    have h1 := h q.1.cps.toList
    have hm : q.1 ∈ keys (q :: r) := List.mem_cons_self
    rw [cf_ne g] at hm
    unfold cl at h1
    rw [ofL_toList] at h1
    exact absurd h1 hm
theorem eqv_cf {s t : Bg} (h : Eqv s t) (w : Str) : cf s w = cf t w := by
  have := h w.cps.toList
  unfold cl at this
  rwa [ofL_toList] at this
theorem eqv_lead {s t : Bg} (gs : Good p s) (gt : Good p t) (h : Eqv s t) : lead s = lead t := by
  unfold lead
  rw [ordW_congr (keys_perm gs gt (eqv_cf h))]
theorem DivR.congr {f : Bg} {r : Option Bg} (hp : Prm p) (gF : Good p F) (h : DivR p F L f r) : ∀ {M : Bg}, Good p L → Good p M → Eqv L M → DivR p F M f r := by
  have hp0 : 0 < p := by have := hp.pos; omega
  induction h with
  | done =>
    intro M gL gM e
    rw [eqv_nil gM e.symm]
    exact .done
  | stop q1 q2 =>
    intro M gL gM e
    exact .stop (fun z => q1 (by subst z; exact eqv_nil gL e)) (by rw [← eqv_lead gL gM e]; exact q2)
  | @step L f r t q1 q2 _ ih =>
    intro M gL gM e
    have el := eqv_lead gL gM e
    have ek : divK p F M = divK p F L := by unfold divK; rw [← el, eqv_cf e]
    refine .step (t := t) (fun z => q1 (by subst z; exact eqv_nil gL e)) (by rw [← el]; exact q2) ?_
    rw [ek]
    refine ih (divL_good hp gL) (divL_good hp gM) ?_
    unfold divL
    rw [ek]
    exact plus_congr hp0 gL (withB_nodup gF.nd) gM (withB_nodup gF.nd) _ e (Eqv.refl _)
/-- of a product: the second bag is found -/
theorem DivR.planted {f : Bg} {r : Option Bg} (hp : Prm p) (gF : Good p F) (hF : F ≠ []) (h : DivR p F L f r) : ∀ {R : Bg}, Good p L → Good p R → Good p f → Eqv L (prodS p F R) → (∀ u ∈ keys R, u ∉ keys f) → ∃ f', r = some f' ∧ Good p f' ∧ ∀ w, cf f' w = cf f w + cf R w := by
  have hp0 : 0 < p := by have := hp.pos; omega
  induction h with
  | @done f =>
    intro R gL gR gf e hd
    have hR : R = [] := by
      by_cases h : R = []
      · exact h
      · have := prod_ne hp gF gR hF h
        exact absurd (eqv_nil (Good.prod hp0 F R) e.symm) this
    subst hR
    exact ⟨f, rfl, gf, fun w => by rw [cf_nil, Int.add_zero]⟩
  | stop q1 q2 =>
    intro R gL gR gf e hd
    have hR : R ≠ [] := fun z => by
      subst z
      rw [prod_nil] at e
      exact q1 (eqv_nil gL e)
    obtain ⟨_, e1, _⟩ := prod_lead hp gF gR hF hR
    exact absurd ⟨lead R, by rw [eqv_lead gL (Good.prod hp0 F R) e, e1]⟩ q2
  | @step L f r t q1 q2 _ ih =>
    intro R gL gR gf e hd
    have hR : R ≠ [] := fun z => by
      subst z
      rw [prod_nil] at e
      exact q1 (eqv_nil gL e)
    obtain ⟨_, e1, e2⟩ := prod_lead hp gF gR hF hR
    have el : lead L = lead F ++ lead R := by rw [eqv_lead gL (Good.prod hp0 F R) e, e1]
    obtain rfl : t = lead R := app_cancel_l (q2.symm.trans el)
    have ek : divK p F L = cf R (lead R) := by
      unfold divK
      rw [el, eqv_cf e, e2]
      exact step_back hp (cf_pos_of gR (lead_mem hR)) (cf_lt_of hp0 gR) (cf_pos_of gF (lead_mem hF)) (cf_lt_of hp0 gF)
    have hk := divK_bd hp gF gL hF q1
    have gw : Good p [(lead R, (1 : Int))] := ⟨by unfold keys; simp, fun kv h => by rw [List.mem_singleton.mp h]; exact (by decide : (0 : Int) < 1), fun kv h => by rw [List.mem_singleton.mp h]; exact hp.pos⟩
    have hcf : ∀ w, cf (plusS p R [(lead R, 1)] (-(divK p F L))) w = if w = lead R then 0 else cf R w := fun w => by
      rw [cf_plus hp0 gR gw.nd]
      by_cases h : w = lead R
      · subst h
        rw [if_pos rfl, cf_pos rfl, ek, Int.mul_one, Int.add_right_neg]
        exact Int.zero_emod p
      · rw [if_neg h, cf_neg (fun z => h z.symm), cf_nil, Int.mul_zero, Int.add_zero]
        exact cf_mod hp0 gR w
    have hdis : ∀ u ∈ keys (plusS p R [(lead R, 1)] (-(divK p F L))), u ∉ keys (putS f (lead R) (divK p F L)) := fun u hu hm => by
      have hne : u ≠ lead R := fun z => by
        subst z
        rw [cf_ne (Good.plus hp0 gR _), hcf] at hu
        exact hu (if_pos rfl)
      have hu2 : u ∈ keys R := by
        rw [cf_ne (Good.plus hp0 gR _), hcf, if_neg hne] at hu
        exact (cf_ne gR).mpr hu
      rw [keys_put] at hm
      split at hm
      · exact hd u hu2 hm
      · rcases List.mem_append.mp hm with hm | hm
        · exact hd u hu2 hm
        · exact hne (List.mem_singleton.mp hm)
    obtain ⟨f', h1, h2, h3⟩ := ih (R := plusS p R [(lead R, 1)] (-(divK p F L))) (divL_good hp gL) (Good.plus hp0 gR _) (gf.put hk.1 hk.2) (by
      unfold divL
      refine (plus_congr hp0 gL (withB_nodup gF.nd) (Good.prod hp0 F R) (Good.prod hp0 F _).nd _ e ?_).trans (distrib_r hp0 gF gR gw _).symm
      rw [prod_word (lead R) gF]
      exact Eqv.refl _) hdis
    · refine ⟨f', h1, h2, fun w => ?_⟩
      rw [h3 w, cf_put, hcf w]
      by_cases h : w = lead R
      · subst h
        rw [if_pos rfl, if_pos rfl, ek, cf_not_mem (hd _ (lead_mem hR))]
        omega
      · rw [if_neg h, if_neg h]
end
end Fp

/-! A caught error's class asked; beginnings of texts. -/
namespace Fp
open PySem L2 PyProof.Rows
section
variable {X : Cx}
/-- isinstance(e, c), e the error that the suite holds, of a class without own fields -/
def rIsEx (K : PySem.W.Frag) (cls : Value) (d : Option Addr) (a : Addr) : List V → Hp → VK → Prop := fun xs H Q => ∃ (D : Addr) (c : V) (cv : Value) (b : Bool), cls = .ref D ∧ d = none ∧ ExcC K D ∧ xs = [.ref a, c] ∧ (∀ u, RelV c u → u = cv) ∧ PySem.W.kitOne K (.ref D) cv = some b ∧ Q (.bl b) H
theorem call_isEx {a : Addr} {oe : Obj} {cls : Value} {d : Option Addr} {pn : List (Addr × Obj)} (hz : Zc cls d oe) (hf : ∃ vs, oe.data = .fields vs) : CallR (X.suite a ((a, oe) :: pn)) (.builtin "isinstance") (rIsEx X.K cls d a) := by
  intro pins s σ H xs us Q I r h
  obtain ⟨D, c, cv, b, rfl, rfl, C, rfl, hcv, e, q⟩ := h
  exact call_isE C hz hf pins s σ H _ us Q I r ⟨c, cv, b, rfl, hcv, e, q⟩
theorem g_isEx {K : PySem.W.Frag} {a D C : Addr} {b : Bool} {H : Hp} {Q : VK} (hD : ExcC K D) (hk : PySem.W.kitOne K (.ref D) (.ref C) = some b) (h : Q (.bl b) H) : rIsEx K (.ref D) none a [.ref a, .ref C] H Q :=
  ⟨D, .ref C, .ref C, b, rfl, rfl, hD, rfl, fun u r => by cases r; rfl, hk, h⟩
end
/-! ### beginnings -/
theorem startswith_iff (x y : Str) : Txt.startswith x y = true ↔ ∃ t, x = y ++ t := by
  unfold Txt.startswith
  rw [Bool.and_eq_true, decide_eq_true_iff, PySem.StrLaws.subAt_eq, List.drop_zero, beq_iff_eq]
  constructor
  · rintro ⟨h1, h2⟩
    refine ⟨ofL (x.cps.toList.drop y.length), str_ext ?_⟩
    rw [app_toList, toList_ofL, ← h2, List.take_append_drop]
  · rintro ⟨t, rfl⟩
    rw [len_app, app_toList]
    refine ⟨by omega, ?_⟩
    rw [← str_len y, List.take_left']
    rfl
theorem cutS_front (x y : Str) : cutS (x ++ y) none (some (x.length : Int)) = x := by
  refine str_ext ?_
  unfold cutS
  show ((((x ++ y).cps.toList.drop (HT.sIx (x ++ y).length 0 none)).take (HT.sIx (x ++ y).length (x ++ y).length (some (x.length : Int)) - HT.sIx (x ++ y).length 0 none)).toArray).toList = _
  rw [HT.sIx_none, HT.sIx_nat, List.drop_zero, len_app, Nat.min_eq_left (by omega), Nat.sub_zero, List.toList_toArray, app_toList, ← str_len x, List.take_left']
  rfl
theorem cutS_back (x y : Str) : cutS (x ++ y) (some (x.length : Int)) none = y := by
  refine str_ext ?_
  unfold cutS
  show ((((x ++ y).cps.toList.drop (HT.sIx (x ++ y).length 0 (some (x.length : Int)))).take (HT.sIx (x ++ y).length (x ++ y).length none - HT.sIx (x ++ y).length 0 (some (x.length : Int)))).toArray).toList = _
  rw [HT.sIx_none, HT.sIx_nat, len_app, Nat.min_eq_left (by omega), List.toList_toArray, app_toList, ← str_len x, List.drop_left']
  · rw [str_len, show x.length + y.length - x.length = y.length from by omega, ← str_len y, List.take_length]
  · rfl
theorem cutS_pre {w x : Str} (h : cutS w none (some (x.length : Int)) = x) : ∃ t, w = x ++ t := by
  have h1 : ((w.cps.toList.drop (HT.sIx w.length 0 none)).take (HT.sIx w.length w.length (some (x.length : Int)) - HT.sIx w.length 0 none)) = x.cps.toList := by
    have := congrArg (fun z : Str => z.cps.toList) h
    unfold cutS at this
    simpa using this
  rw [HT.sIx_none, HT.sIx_nat, List.drop_zero, Nat.sub_zero] at h1
  have h2 := congrArg List.length h1
  rw [List.length_take, str_len, str_len] at h2
  refine ⟨ofL (w.cps.toList.drop x.length), str_ext ?_⟩
  rw [app_toList, toList_ofL]
  have h3 : min x.length w.length = x.length := by omega
  rw [h3] at h1
  rw [← h1, List.take_append_drop]
end Fp

namespace Fp
open PySem L2
section
variable {P : Program} {w : World} {K : PySem.W.Frag} {mg : Str → Option Value} {base : Heap} {C_Bag : Addr} {Cs : Addr → Prop}
local macro_rules | `(tactic| walk_at "hp") => `(tactic| first | assumption | rfl)
local macro_rules | `(tactic| walk_at "cond") => `(tactic| first | assumption | decide | omega | (unfold CMul; omega) | (refine ⟨?_, ?_⟩ <;> omega) | (unfold CDiv; omega) | (unfold CPow; omega))
local macro_rules | `(tactic| walk_at "g1") => `(tactic| first
  | with_reducible first
    | refine g_seq ?_ | refine g_asg ?_ | refine g_name ?_ | refine g_ret ?_ | refine g_retN ?_ | refine g_drop ?_ | refine g_ifs ?_
    | refine g_c ?_ | refine g_op ?_ | refine g_un ?_ | refine g_I0 ?_ | refine g_U ?_
    | refine g_test ?_ | refine g_tB ?_ | refine g_bl ?_ | refine g_and ?_ | refine g_or ?_ | refine g_not ?_
    | refine g_andV ?_ | refine g_orV ?_ | refine g_notV ?_ | refine g_if ?_ | refine g_nil ?_ | refine g_cons ?_ | refine g_cb ?_ | refine g_call ?_
    | refine g_lst ?_ | refine g_tup ?_ | refine g_itT ?_ | refine g_itF ?_ | refine g_itNT ?_ | refine g_itNF ?_ | refine g_lc ?_ | refine g_iStr ?_ | refine g_yes ?_ | refine g_exs ?_
    | refine g_chain ?_ | refine g_dget ?_ | refine g_dput ?_ | refine g_dget2 ?_ | refine g_dpop2 ?_ | refine g_fld ?_ | refine g_sfld ?_ | refine g_make ?_ | refine g_meth ?_
    | refine g_bm ?_ | refine g_kw ?_ | refine g_callS ?_ | refine g_revL ?_ | refine g_m1 ?_ | refine g_gsub ?_ | refine g_for ?_ | refine g_iList ?_ | refine g_iTup ?_ | refine g_iRng1 ?_ | refine g_iRng2 ?_ | refine g_sl ?_ | refine g_part ?_ | refine g_noPart ?_
    | refine g_exi ?_ | refine g_exr ?_ | refine g_dnew ?_ | refine g_disp ?_ | refine g_prs0 ?_ | refine g_prs ?_ | refine g_nxt ?_
  | ((with_reducible refine g_var (v := ?vv) ?gv ?_); (case gv => exact rfl))
  | ((with_reducible refine g_I ?gc ?_); (case gc => walk_at "cond"))
  | ((with_reducible refine g_eq ?ge ?_); (case ge => exact rfl))
  | ((with_reducible refine g_ne ?ge ?_); (case ge => exact rfl))
  | (refine g_ixl (SqL.of (by first | assumption | exact upd_same)) rfl ?_)
  | (refine g_setl (by first | assumption | exact upd_same) rfl ?_)
  | ((with_reducible show (∃ i, [V.int _] = [V.int i] ∧ _) ∨ _); refine Or.inl ⟨_, rfl, ?_⟩)
  | ((with_reducible show ∃ i, [V.int _] = [V.int i] ∧ _); refine ⟨_, rfl, ?_⟩)
  | dsimp only)
local macro_rules | `(tactic| walk_at "go") => `(tactic| repeat (walk_at "g1"))

local macro_rules | `(tactic| walk_at "g1") => `(tactic| with_reducible first | refine g_gcons ?_ | refine g_gnil ?_)

/-! ### inverses, first words, lengths, words of one length, plain bags -/
theorem powM_bd {p x : Int} (hp : 0 < p) (hp2 : p ≤ 1000) : ∀ n, 0 ≤ powM p x n ∧ powM p x n ≤ 1000
  | 0 => ⟨by unfold powM; decide, by unfold powM; decide⟩
  | n + 1 => by
    unfold powM
    have h1 := Int.emod_nonneg (powM p x n * x) (by omega : p ≠ 0)
    have h2 := Int.emod_lt_of_pos (powM p x n * x) hp
    omega
def sp_inverse : Sp := fun vs H Q _ => ∃ (p x : Int), vs = [.int p, .int x] ∧ 2 ≤ p ∧ p ≤ 1000 ∧ Q (.int (inv p x)) H
theorem ok_inverse {f : Addr} {fd : FuncData} (F : Fun K "inverse" "inverse" s_inverse f fd) (T : Txt K mg C_Bag Cs) : FnOk P w K mg base CX0 1 f fd ["clock", "number"] sp_inverse := by
  refine F.ok sc_inverse (fun vs H Q E h => ?_) (fun cdv A outer s H vs Q E hr h => ?_)
  · obtain ⟨p, x, rfl, _⟩ := h
    rfl
  · obtain ⟨p, x, rfl, hp, hp2, k⟩ := h
    have hu := hu_of hr; have hu64 := L2.Room.units hr; refine ⟨_, (pss_cons (ps_set (i := 2) sc_inverse.nd rfl (by first | exact Or.inl rfl | exact Or.inr rfl) pe_int) (pss_cons (ps_for PassesOwn.never rfl (pi_range1 rfl T.b_range (pa_cons (pe_op op_sub (pv 0) pe_int) pa_nil)) (pg_name (i := 3) sc_inverse.nd rfl (by first | exact Or.inl rfl | exact Or.inr rfl)) (pss_one (ps_set (i := 2) sc_inverse.nd rfl (by first | exact Or.inl rfl | exact Or.inr rfl) (pe_op op_mod (pe_callTy call_int1 (by rfl) T.b_int (by decide +kernel) (pa_cons (pe_op op_mul (pv 2) (pv 1)) pa_nil)) (pv 0))))) (pss_one (ps_ret (pv 2))))), ?_⟩; rw [st_inverse]; (try dsimp only [cxOf]); walk_at "go"
    refine ⟨by omega, by omega, ?_⟩
    refine forG walk_range (fun i σ' H' => ∃ y, σ' = [some (.int p), some (.int x), some (.int (powM p x i)), y] ∧ H' = H) ⟨none, rfl, rfl⟩ (fun _ _ _ _ _ => trivial) ?_ ?_
    · rintro i z σ' H1 H2 hi ⟨y, rfl, rfl⟩ ⟨rfl, rfl⟩
      obtain ⟨c1, c2⟩ := powM_bd (x := x) (by omega : 0 < p) hp2 i
      walk_at "go"
      exact ⟨_, rfl, rfl⟩
    · rintro σ' H1 ⟨y, rfl, rfl⟩
      walk_at "go"
      exact k
def sp_first_word : Sp := fun vs H Q _ => ∃ (d : Addr) (s : Bg), vs = [.ref d] ∧ H d = some (.dK (toK s)) ∧ s ≠ [] ∧ (∀ u ∈ keys s, u.length ≤ 10000000) ∧ Q (.str (lead s)) H
theorem ok_first_word {f : Addr} {fd : FuncData} (F : Fun K "first_word" "first_word" s_first_word f fd) (T : Txt K mg C_Bag Cs) (KF : KeyFn K mg) : FnOk P w K mg base CX0 4 f fd ["sparse"] sp_first_word := by
  refine F.ok sc_first_word (fun vs H Q E h => ?_) (fun cdv A outer s H vs Q E hr h => ?_)
  · obtain ⟨d, s, rfl, _⟩ := h
    rfl
  · obtain ⟨d, s, rfl, hd, hne, hw, k⟩ := h
    obtain ⟨f_ahead_key, fd_ahead_key, F_ahead_key, M_ahead_key, B_ahead_key⟩ := KF.ex
    have hu := hu_of hr; have hu64 := L2.Room.units hr; refine ⟨_, (pss_one (ps_ret (pe_callBK (cr_minKey F_ahead_key sc_ahead_key rfl rfl rfl rfl B_ahead_key T.b_len (hr.mono (by decide)) rfl) (by rfl) T.b_min (by decide +kernel) (pa_cons (pv 0) pa_nil) (pk_cons (pe_glob (v := .ref f_ahead_key) rfl M_ahead_key rfl) pk_nil)))), ?_⟩; rw [st_first_word]; (try dsimp only [cxOf]); walk_at "go"
    refine ⟨d, s, rfl, rfl, hd, hne, fun u hu => line5 (hw u hu), fun z hz => ?_⟩
    rw [lead_head hne] at hz
    obtain rfl := Option.some.inj hz
    exact k

/-! ### lengths, words of one length, plain bags -/
theorem size_max {s : Bg} {m : Int} (h : m ∈ (s.map fun e => (e.1.length : Int)) ++ [-1]) (hl : ∀ y, y ∈ (s.map fun e => (e.1.length : Int)) ++ [-1] → y ≤ m) : m = sizeS s := by
  unfold sizeS
  by_cases e : s = []
  · subst e
    rw [if_pos rfl]
    simpa using h
  · rw [if_neg e]
    obtain ⟨n, hn⟩ := mem_keys.mp (lead_mem e)
    have h1 := hl ((lead s).length : Int) (List.mem_append_left _ (List.mem_map.mpr ⟨_, hn, rfl⟩))
    rcases List.mem_append.mp h with h | h
    · obtain ⟨q, hq, rfl⟩ := List.mem_map.mp h
      have := lead_len (mem_keys.mpr ⟨q.2, hq⟩)
      omega
    · have := List.mem_singleton.mp h
      omega
def sp_size : Sp := fun vs H Q _ => ∃ (d : Addr) (s : Bg), vs = [.ref d] ∧ Rd H d (.dK (toK s)) ∧ s.length ≤ 10000000 ∧ (∀ u ∈ keys s, u.length ≤ 10000000) ∧ ∀ H', Ex H H' → Q (.int (sizeS s)) H'
theorem ok_size {f : Addr} {fd : FuncData} (F : Fun K "size" "size" s_size f fd) (T : Txt K mg C_Bag Cs) : FnOk P w K mg base CX0 1 f fd ["sparse"] sp_size := by
  refine F.ok sc_size (fun vs H Q E h => ?_) (fun cdv A outer s H vs Q E hr h => ?_)
  · obtain ⟨d, s, rfl, _⟩ := h
    rfl
  · obtain ⟨d, s, rfl, hd, hn, hw, k⟩ := h
    have hu := hu_of hr; have hu64 := L2.Room.units hr; refine ⟨_, (pss_one (ps_ret (pe_callB (r := rMax K) (cr_max rfl) (by rfl) T.b_max (by decide +kernel) (pa_cons (pe_op op_cat (pe_lockR (pe_lc (own := [("word", 1)]) (g := (gName 1)) (tt := tYes) rfl sc_size.nd (pi_keys (pv 0)) (blkOk_by (N := N_size) (sc := defScope s_size) (by decide +kernel)) (fun _ _ _ _ _ => (pg_name (i := 1) sc_size.nd rfl (by first | exact Or.inl rfl | exact Or.inr rfl))) (fun _ _ _ _ _ => pts_nil) (fun _ _ _ _ _ => (pe_callB call_len_str (by rfl) T.b_len (by decide +kernel) (pa_cons (pv 1) pa_nil))))) (pe_lst (pa_cons (pe_un un_neg pe_int) pa_nil))) pa_nil)))), ?_⟩; rw [st_size]; (try dsimp only [cxOf]); walk_at "go"
    refine lcd_rel hd (line5 hn) (fun H' Q' _ q => ⟨_, rfl, q⟩) (fun e y H => y = V.int (e.1.length : Nat)) (fun e y H H' t h1 => h1) (fun _ => rfl) ?_ ?_
    · intro i z n H1 Kc hi le hk
      walk_at "go"
      exact ⟨z, rfl, line5 (hw z (mem_keys.mpr ⟨n, mem_fr hi⟩)), hk _ _ (Ex.refl _) rfl⟩
    · intro D H1 ys hD e hl1 hp
      have hys := paired_map (G := fun e : Str × Int => V.int (e.1.length : Nat)) hp
      subst hys
      walk_at "go"
      refine ⟨Nat.le_of_ble_eq_true rfl, fun q hq => ?_⟩
      have hqD : D ≠ q := ne_of_none hl1 hq
      refine ⟨D, q, _, _, rfl, rfl, by rw [upd_ne hqD]; exact hl1, upd_same, ?_, fun r hr => ?_⟩
      · rw [List.length_map, List.length_singleton]
        exact Nat.le_trans (Nat.succ_le_succ hn) (by decide)
      · walk_at "go"
        refine ⟨r, (s.map fun e => (e.1.length : Int)) ++ [-1], rfl, SqL.of ?_, by rw [List.length_append, List.length_singleton]; omega, fun m h1 h2 => ?_⟩
        · rw [upd_same, List.map_append, List.map_map]
          rfl
        · rw [size_max h1 h2]
          exact k _ ((e.trans (Ex.new hq)).trans (Ex.new hr))

def sp_check_number : Sp := fun vs H Q _ => ∃ (i lo hi : Int), vs = [.int i, .int lo, .int hi] ∧ lo ≤ i ∧ i ≤ hi ∧ Q .non H
theorem ok_check_number {f : Addr} {fd : FuncData} (F : Fun K "check_number" "check_number" s_check_number f fd) (T : Txt K mg C_Bag Cs) (D_is_within : DefOk P w K mg base CX0 2 "is_within" ["thing", "least", "most"] (sp_is_within K)) : FnOk P w K mg base CX0 3 f fd ["thing", "least", "most"] sp_check_number := by
  refine F.ok sc_check_number (fun vs H Q E h => ?_) (fun cdv A outer s H vs Q E hr h => ?_)
  · obtain ⟨i, lo, hi, rfl, _⟩ := h
    rfl
  · obtain ⟨i, lo, hi, rfl, h1, h2, k⟩ := h
    have hu := hu_of hr; have hu64 := L2.Room.units hr; refine ⟨_, (pss_one (ps_if (pt_not (pt_val (pe_callD D_is_within (hr.mono (by decide)) rfl pass0 (pa_cons (pv 0) (pa_cons (pv 1) (pa_cons (pv 2) pa_nil)))))) (pss_one ps_never) pss_nil)), ?_⟩; rw [st_check_number]; (try dsimp only [cxOf]); walk_at "go"
    refine ⟨_, lo, hi, true, rfl, .inl ⟨i, rfl, by rw [decide_eq_true h1, decide_eq_true h2]; rfl⟩, ?_⟩
    walk_at "go"
    exact k

end
end Fp

/-! Dividing: what it tells is a rest; how big things get; bags told backward. -/
namespace Fp
open PySem PySem.W
section
variable {p : Int} {F L : Bg} {t : Str}
theorem word_good {t : Str} (hp : 1 < p) : Good p [(t, (1 : Int))] := ⟨by unfold keys; simp, fun kv h => by rw [List.mem_singleton.mp h]; exact (by decide : (0 : Int) < 1), fun kv h => by rw [List.mem_singleton.mp h]; exact hp⟩
theorem eqv_len {s u : Bg} (gs : Good p s) (gu : Good p u) (h : Eqv s u) : s.length = u.length := by
  have := (keys_perm gs gu (eqv_cf h)).length_eq
  unfold keys at this
  rwa [List.length_map, List.length_map] at this
theorem eqv_of_cf {s u : Bg} (h : ∀ w, cf s w = cf u w) : Eqv s u := fun l => h _
/-- what dividing tells is a rest -/
theorem DivR.sound {f : Bg} {r : Option Bg} (hp : Prm p) (gF : Good p F) (hF : F ≠ []) (h : DivR p F L f r) : ∀ {g : Bg}, r = some g → Good p L → Good p f → (∀ u ∈ keys f, L ≠ [] → leW (lead F ++ u) (lead L) = true ∧ lead F ++ u ≠ lead L) → Good p g ∧ Eqv (plusS p L (prodS p F f) 1) (prodS p F g) := by
  have hp0 : 0 < p := by have := hp.pos; omega
  induction h with
  | @done f =>
    intro g e gL gf hd
    obtain rfl := Option.some.inj e
    refine ⟨gf, fun l => ?_⟩
    rw [cl_plus hp0 Good.nil (Good.prod hp0 F f).nd]
    have : cl [] l = 0 := rfl
    rw [this, Int.zero_add, Int.one_mul]
    exact cl_mod hp0 (Good.prod hp0 F f) l
  | stop q1 q2 => intro g e; cases e
  | @step L f r t q1 q2 _ ih =>
    intro g e gL gf hd
    have hk := divK_bd hp gF gL hF q1
    have hl := divL_lead hp gF gL hF q1 q2
    have ht : t ∉ keys f := fun z => (hd t z q1).2 q2.symm
    have gf' := gf.put (w := t) hk.1 hk.2
    obtain ⟨gg, e2⟩ := ih e (divL_good hp gL) gf' (fun u hu hne => by
      obtain ⟨l1, l2⟩ := hl hne
      have hu' : u ∈ keys f ∨ u = t := by
        rw [keys_put] at hu
        split at hu
        · exact .inl hu
        · rcases List.mem_append.mp hu with z | z
          · exact .inl z
          · exact .inr (List.mem_singleton.mp z)
      rcases hu' with z | z
      · obtain ⟨m1, m2⟩ := hd u z q1
        refine ⟨leW_total.trans _ _ _ m1 l1, fun e => m2 (leW_anti m1 ?_)⟩
        rw [e]
        exact l1
      · rw [z, ← q2]
        exact ⟨l1, l2⟩)
    refine ⟨gg, Eqv.trans (fun l => ?_) e2⟩
    have gt : Good p [(t, (1 : Int))] := word_good hp.pos
    have ef : Eqv (putS f t (divK p F L)) (plusS p f [(t, 1)] (divK p F L)) := eqv_of_cf fun w => by
      rw [cf_put, cf_plus hp0 gf gt.nd]
      by_cases h : w = t
      · subst h
        rw [if_pos rfl, cf_not_mem ht, cf_pos rfl, Int.zero_add, Int.mul_one, Int.emod_eq_of_lt (by omega) hk.2]
      · rw [if_neg h, cf_neg (fun z => h z.symm), cf_nil, Int.mul_zero, Int.add_zero]
        exact (cf_mod hp0 gf w).symm
    have e3 : Eqv (prodS p F (putS f t (divK p F L))) (plusS p (prodS p F f) (withB F t) (divK p F L)) := by
      refine (prod_congr hp0 gF.nd gf'.nd gF.nd (Good.plus hp0 gf _).nd (Eqv.refl _) ef).trans ?_
      rw [← prod_word t gF]
      exact distrib_r hp0 gF gf gt _
    rw [cl_plus hp0 gL (Good.prod hp0 F f).nd, cl_plus hp0 (divL_good hp gL) (Good.prod hp0 F _).nd, e3 l, cl_plus hp0 (Good.prod hp0 F f) (withB_nodup gF.nd)]
    unfold divL
    rw [cl_plus hp0 gL (withB_nodup gF.nd), Int.one_mul, Int.one_mul, ← Int.add_emod]
    congr 1
    rw [Int.neg_mul]
    omega
/-- dividing comes to an end -/
theorem DivR.ends {n : Nat} (hp : Prm p) (gF : Good p F) (hF : F ≠ []) (bF : Bd n F) : ∀ (m : Nat) {L f : Bg}, mu n L < m → Good p L → Bd n L → ∃ r, DivR p F L f r
  | 0, _, _, h, _, _ => absurd h (Nat.not_lt_zero _)
  | m + 1, L, f, h, gL, bL => by
    by_cases hL : L = []
    · subst hL; exact ⟨_, .done⟩
    · by_cases ht : ∃ t, lead L = lead F ++ t
      · obtain ⟨t, ht⟩ := ht
        have h1 := divL_mu hp gF gL hF hL bL ht
        obtain ⟨r, hr⟩ := DivR.ends hp gF hF bF m (L := divL p F L t) (f := putS f t (divK p F L)) (by omega) (divL_good hp gL) (divL_bd bF bL hL ht)
        exact ⟨r, .step hL ht hr⟩
      · exact ⟨_, .stop hL ht⟩
theorem DivR.sound0 {r : Option Bg} {g : Bg} (hp : Prm p) (gF : Good p F) (hF : F ≠ []) (h : DivR p F L [] r) (e : r = some g) (gL : Good p L) : Good p g ∧ Eqv L (prodS p F g) := by
  have hp0 : 0 < p := by have := hp.pos; omega
  obtain ⟨h1, h2⟩ := h.sound hp gF hF e gL Good.nil (fun _ z => nomatch z)
  refine ⟨h1, Eqv.trans (fun l => ?_) h2⟩
  rw [prod_nil, cl_plus hp0 gL (Good.nil (p := p)).nd]
  have : cl [] l = 0 := rfl
  rw [this, Int.mul_zero, Int.add_zero]
  exact (cl_mod hp0 gL l).symm
theorem DivR.planted0 {r : Option Bg} {R : Bg} (hp : Prm p) (gF : Good p F) (hF : F ≠ []) (h : DivR p F L [] r) (gL : Good p L) (gR : Good p R) (e : Eqv L (prodS p F R)) : ∃ f, r = some f ∧ Good p f ∧ Eqv f R := by
  obtain ⟨f, h1, h2, h3⟩ := h.planted hp gF hF gL gR Good.nil e (fun _ _ z => nomatch z)
  exact ⟨f, h1, h2, eqv_of_cf fun w => by rw [h3 w, cf_nil, Int.zero_add]⟩
/-! ### how big things get -/
structure DivJ (p : Int) (F L : Bg) (J : Bg → Bg → Prop) : Prop where
  start : J L []
  step : ∀ L' f' t, J L' f' → L' ≠ [] → lead L' = lead F ++ t → J (divL p F L' t) (putS f' t (divK p F L'))
  size : ∀ L' f', J L' f' → L'.length ≤ 3000000 ∧ f'.length ≤ 3000000
theorem Bd.put' {n : Nat} {s : Bg} {t : Str} {k : Int} (h : Bd n s) (h1 : t.length ≤ n) (h2 : Ltr t.cps.toList) : Bd n (putS s t k) := fun u hu => by
  rw [keys_put] at hu
  split at hu
  · exact h u hu
  · rcases List.mem_append.mp hu with hu | hu
    · exact h u hu
    · rw [List.mem_singleton.mp hu]; exact ⟨h1, h2⟩
theorem tail_bd {n : Nat} (bL : Bd n L) (hL : L ≠ []) (ht : lead L = lead F ++ t) : t.length ≤ n ∧ Ltr t.cps.toList := by
  have h1 := bL _ (lead_mem hL)
  rw [ht, len_app, app_toList] at h1
  exact ⟨by omega, fun c hc => h1.2 c (List.mem_append_right _ hc)⟩
theorem DivJ.small {n : Nat} (hp : Prm p) (gF : Good p F) (hF : F ≠ []) (gL : Good p L) (bF : Bd n F) (bL : Bd n L) (hU : lenU n ≤ 3000000) : DivJ p F L fun L' f' => Good p L' ∧ Bd n L' ∧ Good p f' ∧ Bd n f' where
  start := ⟨gL, bL, Good.nil, fun _ h => nomatch h⟩
  step := fun L' f' t ⟨g1, b1, g2, b2⟩ hne ht => by
    have hk := divK_bd hp gF g1 hF hne
    obtain ⟨t1, t2⟩ := tail_bd b1 hne ht
    exact ⟨divL_good hp g1, divL_bd bF b1 hne ht, g2.put hk.1 hk.2, b2.put' t1 t2⟩
  size := fun L' f' ⟨g1, b1, g2, b2⟩ => ⟨Nat.le_trans (b1.len g1.nd) hU, Nat.le_trans (b2.len g2.nd) hU⟩
theorem DivJ.stop (h : ¬ ∃ t, lead L = lead F ++ t) (hl : L.length ≤ 3000000) : DivJ p F L fun L' f' => L' = L ∧ f' = [] where
  start := ⟨rfl, rfl⟩
  step := fun L' f' t ⟨e, _⟩ hne ht => absurd ⟨t, by rw [← e]; exact ht⟩ h
  size := fun L' f' ⟨e1, e2⟩ => by rw [e1, e2]; exact ⟨hl, Nat.zero_le _⟩
theorem drop_len {s : Bg} {t : Str} (hn : (keys s).Nodup) (h : t ∈ keys s) : (dropS s t).length + 1 ≤ s.length := by
  have h1 := len_sub (l := t :: keys (dropS s t)) (m := keys s) (List.nodup_cons.mpr ⟨fun z => by
    rw [keys_drop] at z
    exact absurd (List.mem_filter.mp z).2 (by simp), by rw [keys_drop]; exact hn.filter _⟩) (fun u hu => by
    rcases List.mem_cons.mp hu with z | z
    · rw [z]; exact h
    · rw [keys_drop] at z
      exact (List.mem_filter.mp z).1)
  unfold keys at h1
  rw [List.length_cons, List.length_map, List.length_map] at h1
  exact h1
/-- a product and short words more -/
theorem DivJ.long {R S : Bg} (hp : Prm p) (gF : Good p F) (hF : F ≠ []) (gL : Good p L) (gR : Good p R) (gS : Good p S) (hS : ∀ u ∈ keys S, u.length < (lead F).length) (he : Eqv L (plusS p (prodS p F R) S 1)) (hm : F.length * R.length + S.length ≤ 3000000) (hr : R.length ≤ 3000000) :
    DivJ p F L fun L' f' => ∃ R', Good p R' ∧ Good p L' ∧ Eqv L' (plusS p (prodS p F R') S 1) ∧ f'.length + R'.length ≤ R.length where
  start := ⟨R, gR, gL, he, by simp⟩
  step := fun L' f' t ⟨R', gR', gL', he', hlen⟩ hne ht => by
    have hp0 : 0 < p := by have := hp.pos; omega
    have hcf : ∀ w, cf L' w = (cf (prodS p F R') w + cf S w) % p := fun w => by rw [eqv_cf he' w, cf_plus hp0 (Good.prod hp0 F R') gS.nd, Int.one_mul]
    have hlS : ∀ w, (lead F).length ≤ w.length → cf S w = 0 := fun w hw => cf_not_mem fun z => by
      have := hS w z
      omega
    have hcl : ∀ w, (lead F).length ≤ w.length → cf L' w = cf (prodS p F R') w := fun w hw => by rw [hcf w, hlS w hw, Int.add_zero]; exact cf_mod hp0 (Good.prod hp0 F R') w
    have hll : (lead F).length ≤ (lead L').length := by rw [ht, len_app]; omega
    have hmem : lead L' ∈ keys (prodS p F R') := by
      rw [cf_ne (Good.prod hp0 F R'), ← hcl _ hll]
      exact (cf_ne gL').mp (lead_mem hne)
    have hR' : R' ≠ [] := fun z => by
      subst z
      rw [prod_nil] at hmem
      cases hmem
    obtain ⟨m1, m2, m3⟩ := prod_lead hp gF gR' hF hR'
    have hle := lead_len hmem
    have hin : lead (prodS p F R') ∈ keys L' := by
      rw [cf_ne gL', hcl _ (by omega)]
      rw [m2]
      exact (cf_ne (Good.prod hp0 F R')).mp m1
    have el : lead L' = lead (prodS p F R') := leW_anti (lead_le hin) (lead_le hmem)
    obtain rfl : t = lead R' := app_cancel_l (ht.symm.trans (el.trans m2))
    have ek : divK p F L' = cf R' (lead R') := by
      unfold divK
      rw [hcl _ hll, el, m2, m3]
      exact step_back hp (cf_pos_of gR' (lead_mem hR')) (cf_lt_of hp0 gR') (cf_pos_of gF (lead_mem hF)) (cf_lt_of hp0 gF)
    have gw : Good p [(lead R', (1 : Int))] := word_good hp.pos
    have hd : Eqv (dropS R' (lead R')) (plusS p R' [(lead R', 1)] (-(divK p F L'))) := eqv_of_cf fun w => by
      rw [cf_drop, cf_plus hp0 gR' gw.nd]
      by_cases h : w = lead R'
      · subst h
        rw [if_pos rfl, cf_pos rfl, ek, Int.mul_one, Int.add_right_neg]
        exact (Int.zero_emod p).symm
      · rw [if_neg h, cf_neg (fun z => h z.symm), cf_nil, Int.mul_zero, Int.add_zero]
        exact (cf_mod hp0 gR' w).symm
    refine ⟨dropS R' (lead R'), gR'.drop, divL_good hp gL', fun l => ?_, ?_⟩
    · have e3 : Eqv (prodS p F (dropS R' (lead R'))) (plusS p (prodS p F R') (withB F (lead R')) (-(divK p F L'))) := by
        refine (prod_congr hp0 gF.nd gR'.drop.nd gF.nd (Good.plus hp0 gR' _).nd (Eqv.refl _) hd).trans ?_
        rw [← prod_word (lead R') gF]
        exact distrib_r hp0 gF gR' gw _
      unfold divL
      rw [cl_plus hp0 gL' (withB_nodup gF.nd), he' l, cl_plus hp0 (Good.prod hp0 F R') gS.nd, cl_plus hp0 (Good.prod hp0 F _) gS.nd, e3 l, cl_plus hp0 (Good.prod hp0 F R') (withB_nodup gF.nd), Int.emod_add_emod, Int.emod_add_emod]
      congr 1
      omega
    · have h1 := drop_len gR'.nd (lead_mem hR')
      have h2 := len_put f' (lead R') (divK p F L')
      omega
  size := fun L' f' ⟨R', gR', gL', he', hlen⟩ => by
    have hp0 : 0 < p := by have := hp.pos; omega
    have h1 := eqv_len gL' (Good.plus hp0 (Good.prod hp0 F R') S) he'
    have h2 := len_plus (p := p) (s := prodS p F R') (t := S) 1
    have h3 := len_prod (p := p) (s := F) (t := R')
    have h4 : F.length * R'.length ≤ F.length * R.length := Nat.mul_le_mul_left _ (by omega)
    exact ⟨by omega, by omega⟩
end
/-! ### bags told backward -/
def revW (w : Str) : Str := ofL w.cps.toList.reverse
theorem revW_revW (w : Str) : revW (revW w) = w := by
  unfold revW
  rw [toList_ofL, List.reverse_reverse, ofL_toList]
theorem revW_app (a b : Str) : revW (a ++ b) = revW b ++ revW a := by
  unfold revW
  rw [app_toList, List.reverse_append, ofL_app]
theorem revW_inj {a b : Str} (h : revW a = revW b) : a = b := by rw [← revW_revW a, h, revW_revW]
theorem revW_len (w : Str) : (revW w).length = w.length := by
  rw [← str_len, ← str_len]
  unfold revW
  rw [toList_ofL, List.length_reverse]
def turnS (s : Bg) : Bg := s.map fun kv => (revW kv.1, kv.2)
theorem turnS_turnS (s : Bg) : turnS (turnS s) = s := by
  unfold turnS
  rw [List.map_map]
  conv => rhs; rw [← List.map_id s]
  refine List.map_congr_left fun kv _ => ?_
  simp [revW_revW]
theorem turn_keys (s : Bg) : keys (turnS s) = (keys s).map revW := by
  unfold turnS keys
  rw [List.map_map, List.map_map]
  rfl
theorem turn_nodup {s : Bg} (h : (keys s).Nodup) : (keys (turnS s)).Nodup := by
  rw [turn_keys]
  exact List.Pairwise.map _ (fun a b q e => q (revW_inj e)) h
theorem turn_good {p : Int} {s : Bg} (g : Good p s) : Good p (turnS s) := ⟨turn_nodup g.nd, fun kv h => by
    obtain ⟨q, hq, rfl⟩ := List.mem_map.mp h
    exact g.lo q hq, fun kv h => by
    obtain ⟨q, hq, rfl⟩ := List.mem_map.mp h
    exact g.hi q hq⟩
theorem turn_len (s : Bg) : (turnS s).length = s.length := List.length_map _
theorem turn_ne {s : Bg} (h : s ≠ []) : turnS s ≠ [] := fun e => h (List.map_eq_nil_iff.mp e)
theorem cf_turn {s : Bg} (hn : (keys s).Nodup) (w : Str) : cf (turnS s) w = cf s (revW w) := by
  by_cases h : revW w ∈ keys s
  · obtain ⟨n, hm⟩ := mem_keys.mp h
    rw [cf_of_mem hn hm, cf_of_mem (turn_nodup hn) (n := n) (List.mem_map.mpr ⟨_, hm, by simp [revW_revW]⟩)]
  · rw [cf_not_mem h, cf_not_mem]
    rw [turn_keys]
    intro z
    obtain ⟨v, hv, e⟩ := List.mem_map.mp z
    exact h (by rw [← e, revW_revW]; exact hv)
theorem turn_eqv {s u : Bg} (hs : (keys s).Nodup) (hu : (keys u).Nodup) (h : Eqv s u) : Eqv (turnS s) (turnS u) := eqv_of_cf fun w => by rw [cf_turn hs, cf_turn hu, eqv_cf h]
theorem turn_prod {p : Int} {s u : Bg} (hp : 0 < p) : Eqv (turnS (prodS p s u)) (prodS p (turnS u) (turnS s)) := eqv_of_cf fun w => by
  rw [cf_turn (Good.prod hp s u).nd, cf_prod hp, cf_prod hp]
  congr 1
  unfold cvS turnS
  rw [sumL_map, sumL_swap]
  refine sumL_congr fun b _ => ?_
  rw [sumL_map]
  refine sumL_congr fun a _ => ?_
  by_cases h : a.1 ++ b.1 = revW w
  · rw [if_pos h, if_pos]
    · exact Int.mul_comm _ _
    · show revW b.1 ++ revW a.1 = w
      rw [← revW_app, h, revW_revW]
  · rw [if_neg h, if_neg]
    intro e
    refine h ?_
    rw [← e]
    show _ = revW (revW b.1 ++ revW a.1)
    rw [← revW_app, revW_revW]
theorem turn_bd {n : Nat} {s : Bg} (h : Bd n s) : Bd n (turnS s) := fun u hu => by
  rw [turn_keys] at hu
  obtain ⟨v, hv, rfl⟩ := List.mem_map.mp hu
  rw [revW_len]
  refine ⟨(h v hv).1, fun c hc => (h v hv).2 c ?_⟩
  unfold revW at hc
  rw [toList_ofL] at hc
  exact List.mem_reverse.mp hc
end Fp

/-! Full bags: what the numbers of the beginnings of words come to. -/
namespace Fp
open PySem L2
/-- what the numbers at the beginnings of a word come to -/
def pf (F : List Nat → Int) (l : List Nat) : Int := conv F (fun _ => 1) l
theorem pf_nil (F : List Nat → Int) : pf F [] = F [] := by unfold pf; rw [conv_nil, Int.mul_one]
theorem pf_cons (F : List Nat → Int) (c : Nat) (v : List Nat) : pf F (c :: v) = F [] + pf (fun x => F (c :: x)) v := by unfold pf; rw [conv_cons, Int.mul_one]
theorem pf_snoc (c : Nat) : ∀ (a : List Nat) (F : List Nat → Int), pf F (a ++ [c]) = pf F a + F (a ++ [c])
  | [], F => by rw [List.nil_append, pf_cons, pf_nil, pf_nil]
  | d :: a, F => by
    rw [List.cons_append, pf_cons, pf_cons, pf_snoc c a]
    show _ = _ + F (d :: (a ++ [c]))
    omega
theorem pf_zero : ∀ (m : List Nat) (F : List Nat → Int), (∀ x, x <+: m → F x = 0) → pf F m = 0
  | [], F, h => by rw [pf_nil]; exact h [] (List.prefix_refl _)
  | c :: m, F, h => by
    rw [pf_cons, h [] (List.nil_prefix), pf_zero m _ fun x hx => h (c :: x) (List.cons_prefix_cons.mpr ⟨rfl, hx⟩)]
    rfl
/-- nothing comes behind a -/
theorem pf_app (m : List Nat) : ∀ (a : List Nat) (F : List Nat → Int), (∀ x, x ≠ [] → x <+: m → F (a ++ x) = 0) → pf F (a ++ m) = pf F a
  | [], F, h => by
    cases m with
    | nil => rfl
    | cons c m =>
      have e0 : pf (fun x => F (c :: x)) m = 0 := pf_zero m _ fun x hx => h (c :: x) (List.cons_ne_nil _ _) (List.cons_prefix_cons.mpr ⟨rfl, hx⟩)
      rw [List.nil_append, pf_cons, pf_nil, e0]
      omega
  | d :: a, F, h => by
    rw [List.cons_append, pf_cons, pf_cons, pf_app m a _ fun x h1 h2 => h x h1 h2]
theorem pf_add (F G : List Nat → Int) (l : List Nat) : pf (fun x => F x + G x) l = pf F l + pf G l := conv_addl F G _ l
theorem pf_mul (k : Int) (F : List Nat → Int) (l : List Nat) : pf (fun x => k * F x) l = k * pf F l := conv_mull k F _ l
theorem pf_mod {p : Int} {F G : List Nat → Int} (h : ∀ x, F x % p = G x % p) (l : List Nat) : pf F l % p = pf G l % p := conv_mod h (fun _ => rfl) l
/-- the same as a sum over a word's beginnings -/
theorem pf_range (F : List Nat → Int) (l : List Nat) : ((List.range (l.length + 1)).map fun k => F (l.take k)).sum = pf F l := by
  have key : ∀ n, n ≤ l.length → ((List.range (n + 1)).map fun k => F (l.take k)).sum = pf F (l.take n) := by
    intro n
    induction n with
    | zero => intro _; rw [List.take_zero, pf_nil]; simp
    | succ n ih =>
      intro hn
      rw [List.range_succ, List.map_append, List.sum_append, ih (by omega)]
      obtain ⟨c, hc⟩ : ∃ c, l[n]? = some c := ⟨l[n], by rw [List.getElem?_eq_getElem]⟩
      rw [List.take_add_one, hc]
      simp only [Option.toList_some]
      rw [pf_snoc]
      simp only [List.map_cons, List.map_nil, List.sum_cons, List.sum_nil]
      rw [List.take_add_one, hc]
      simp only [Option.toList_some]
      omega
  rw [key l.length (Nat.le_refl _), List.take_length]
/-! ### full -/
def OverL (z l : List Nat) : Prop := ∀ c ∈ l, c ∈ z
theorem OverL.app {z a b : List Nat} (h : OverL z a) (h2 : OverL z b) : OverL z (a ++ b) := fun c hc => (List.mem_append.mp hc).elim (h c) (h2 c)
theorem OverL.rep {z : List Nat} {c : Nat} (h : c ∈ z) (n : Nat) : OverL z (List.replicate n c) := fun d hd => by rw [(List.mem_replicate.mp hd).2]; exact h
theorem OverL.left {z a b : List Nat} (h : OverL z (a ++ b)) : OverL z a := fun c hc => h c (List.mem_append_left _ hc)
theorem OverL.take {z l : List Nat} (h : OverL z l) (n : Nat) : OverL z (l.take n) := fun c hc => h c (List.mem_of_mem_take hc)
/-- F has no word of more than n letters -/
def Len (F : List Nat → Int) (n : Nat) : Prop := ∀ l, n < l.length → F l = 0
def Full (p : Int) (z : List Nat) (F : List Nat → Int) : Prop := ∃ n, ∀ l, OverL z l → n ≤ l.length → pf F l % p = 1
theorem pf_len {F : List Nat → Int} {n : Nat} (h : Len F n) {l m : List Nat} (hl : n ≤ l.length) : pf F (l ++ m) = pf F l :=
  pf_app m l F fun x hx _ => h _ (by rw [List.length_append]; have := List.length_pos_iff.mpr hx; omega)
theorem Full.at {p : Int} {z : List Nat} {F : List Nat → Int} {c n : Nat} (h : Full p z F) (hc : c ∈ z) (hn : Len F n) {l : List Nat} (hl : OverL z l) (hll : n ≤ l.length) : pf F l % p = 1 := by
  obtain ⟨N, h⟩ := h
  rw [← pf_len (m := List.replicate N c) hn hll]
  exact h _ (hl.app (OverL.rep hc N)) (by rw [List.length_append, List.length_replicate]; omega)
/-- at the words of just so many letters, as many as the longest has, alone -/
theorem full_iff {p : Int} {z : List Nat} {F : List Nat → Int} {c n m : Nat} (hc : c ∈ z) (hn : Len F n) (hm : n ≤ m) : Full p z F ↔ ∀ l, OverL z l → l.length = m → pf F l % p = 1 := by
  refine ⟨fun h l h1 h2 => h.at hc hn h1 (by omega), fun h => ⟨m, fun l h1 h2 => ?_⟩⟩
  rw [← List.take_append_drop m l, pf_len hn (by rw [List.length_take]; omega)]
  exact h _ (h1.take m) (by rw [List.length_take]; omega)
/-- K: words that go with their beginnings, all words of F among them -/
structure Tree (F : List Nat → Int) (K : List Nat → Prop) : Prop where
  nil : K []
  pre : ∀ a c, K (a ++ [c]) → K a
  has : ∀ l, F l ≠ 0 → K l
theorem Tree.pre' {F : List Nat → Int} {K : List Nat → Prop} (t : Tree F K) : ∀ (m a : List Nat), K (a ++ m) → K a
  | [], a, h => by rwa [List.append_nil] at h
  | c :: m, a, h => t.pre _ _ (t.pre' m (a ++ [c]) (by rw [List.append_assoc]; exact h))
theorem Tree.out {F : List Nat → Int} {K : List Nat → Prop} (t : Tree F K) {a : List Nat} {c : Nat} (h : ¬ K (a ++ [c])) (m : List Nat) : pf F (a ++ c :: m) = pf F a := by
  refine pf_app _ _ _ fun x hx hp => ?_
  cases x with
  | nil => exact absurd rfl hx
  | cons d x =>
    obtain rfl := (List.cons_prefix_cons.mp hp).1
    refine Classical.byContradiction fun h0 => h ?_
    have := t.has _ h0
    rw [show a ++ d :: x = a ++ [d] ++ x from by simp] at this
    exact t.pre' _ _ this
theorem full_tree {p : Int} {z : List Nat} {F : List Nat → Int} {K : List Nat → Prop} {c n : Nat} (hc : c ∈ z) (hn : Len F n) (t : Tree F K) (hK : ∀ l, K l → l.length ≤ n) :
    Full p z F ↔ ∀ l, OverL z l → K l → pf F l % p = 1 ∨ ∀ d ∈ z, K (l ++ [d]) := by
  constructor
  · intro h l hl hk
    by_cases hd : ∀ d ∈ z, K (l ++ [d])
    · exact .inr hd
    · refine .inl ?_
      obtain ⟨d, hd⟩ := Classical.not_forall.mp hd
      obtain ⟨hdz, hdk⟩ := Classical.not_imp.mp hd
      rw [← t.out hdk (List.replicate n d)]
      refine h.at hc hn ((hl.app fun e he => ?_)) ?_
      · rcases List.mem_cons.mp he with q | q
        · rw [q]; exact hdz
        · rw [(List.mem_replicate.mp q).2]; exact hdz
      · rw [List.length_append, List.length_cons, List.length_replicate]
        omega
  · intro h
    refine (full_iff hc hn (Nat.le_refl n)).mpr fun l hl hll => ?_
    have key : ∀ m a, OverL z (a ++ m) → n ≤ (a ++ m).length → K a → pf F (a ++ m) % p = 1 := by
      intro m
      induction m with
      | nil =>
        intro a ha hal hk
        rw [List.append_nil] at ha hal ⊢
        rcases h a ha hk with q | q
        · exact q
        · have := hK _ (q c hc)
          rw [List.length_append, List.length_singleton] at this
          omega
      | cons d m ih =>
        intro a ha hal hk
        by_cases hdk : K (a ++ [d])
        · have := ih (a ++ [d]) (by simpa using ha) (by simpa using hal) hdk
          simpa using this
        · rw [t.out hdk m]
          rcases h a ha.left hk with q | q
          · exact q
          · exact absurd (q d (ha d (by simp))) hdk
    exact key l [] hl (by rw [List.nil_append]; omega) t.nil
/-! ### grown -/
def dl (l : List Nat) : Int := if l = [] then 1 else 0
def lets (z : List Nat) (l : List Nat) : Int := if ∃ c ∈ z, l = [c] then 1 else 0
def Grown (p : Int) (z : List Nat) (P A : List Nat → Int) : Prop := ∀ l, P l % p = (dl l - A l + conv A (lets z) l) % p
theorem pf_dl : ∀ l, pf dl l = 1
  | [] => by rw [pf_nil]; rfl
  | c :: l => by
    have e0 : pf (fun x => dl (c :: x)) l = 0 := pf_zero l _ fun x _ => if_neg (List.cons_ne_nil _ _)
    rw [pf_cons, e0]
    rfl
theorem pf_lets {z : List Nat} {l : List Nat} (h : OverL z l) : pf (lets z) l = 1 - dl l := by
  cases l with
  | nil => rw [pf_nil]; unfold lets dl; rw [if_neg (by rintro ⟨c, _, e⟩; cases e), if_pos rfl]; rfl
  | cons c l =>
    have h1 : (fun x => lets z (c :: x)) = dl := by
      funext x
      unfold lets dl
      by_cases hx : x = []
      · subst hx
        rw [if_pos ⟨c, h c List.mem_cons_self, rfl⟩, if_pos rfl]
      · rw [if_neg hx, if_neg]
        rintro ⟨d, _, e⟩
        exact hx (List.cons.inj e).2
    have h2 : lets z [] = 0 := by unfold lets; rw [if_neg (by rintro ⟨c, _, e⟩; cases e)]
    rw [pf_cons, h1, pf_dl, h2]
    unfold dl
    rw [if_neg (List.cons_ne_nil _ _)]
    rfl
theorem conv_dl (A : List Nat → Int) (l : List Nat) : conv A dl l = A l := by
  induction l generalizing A with
  | nil => rw [conv_nil]; unfold dl; rw [if_pos rfl, Int.mul_one]
  | cons c l ih =>
    rw [conv_cons, ih]
    unfold dl
    rw [if_neg (List.cons_ne_nil _ _)]
    omega
theorem conv_over {A G G' : List Nat → Int} {z : List Nat} : ∀ {l : List Nat}, OverL z l → (∀ x, OverL z x → G x = G' x) → conv A G l = conv A G' l := by
  intro l
  induction l generalizing A with
  | nil => intro _ h; rw [conv_nil, conv_nil, h [] (fun _ z => nomatch z)]
  | cons c l ih =>
    intro hl h
    rw [conv_cons, conv_cons, h _ hl, ih (fun d hd => hl d (List.mem_cons_of_mem _ hd)) h]
theorem Grown.pfx {p : Int} {z : List Nat} {P A : List Nat → Int} (g : Grown p z P A) {l : List Nat} (hl : OverL z l) : pf P l % p = (1 - A l) % p := by
  have e1 : pf P l % p = pf (fun l => dl l + ((-1) * A l + conv A (lets z) l)) l % p := pf_mod (fun x => by rw [g x]; congr 1; omega) l
  rw [e1, pf_add, pf_add, pf_mul, pf_dl]
  have e2 : pf (conv A (lets z)) l = pf A l - A l := by
    unfold pf
    rw [conv_assoc, conv_over (G' := fun x => 1 + (-1) * dl x) hl (fun x hx => by have := pf_lets hx; unfold pf at this; rw [this]; omega), conv_addr, conv_mulr, conv_dl]
    omega
  rw [e2]
  congr 1
  omega
theorem Grown.full {p : Int} {z : List Nat} {P A : List Nat → Int} {n : Nat} (hp : 1 < p) (g : Grown p z P A) (hA : Len A n) : Full p z P :=
  ⟨n + 1, fun l hl hll => by rw [g.pfx hl, hA l (by omega)]; exact Int.emod_eq_of_lt (by omega) (by omega)⟩
/-- with the number of a word changed -/
theorem not_full {p k : Int} {z : List Nat} {F G : List Nat → Int} {c n : Nat} {w : List Nat} (hp : 1 < p) (hc : c ∈ z) (hn : Len F n) (hw : OverL z w) (hk : 0 < k) (hk1 : k < p) (hG : ∀ l, G l % p = (F l + k * (if l = w then 1 else 0)) % p)
    (h : Full p z F) (h2 : Full p z G) : False := by
  obtain ⟨N, h2⟩ := h2
  have hl : OverL z (w ++ List.replicate (N + n) c) := hw.app (OverL.rep hc _)
  have hlen : (w ++ List.replicate (N + n) c).length = w.length + (N + n) := by rw [List.length_append, List.length_replicate]
  have h3 := h2 _ hl (by omega)
  have h4 := h.at hc hn hl (by omega)
  rw [pf_mod hG, pf_add, pf_mul] at h3
  have h5 : ∀ (u : List Nat) (m : List Nat), pf (fun l => if l = u then (1 : Int) else 0) (u ++ m) = 1 := by
    intro u m
    induction u with
    | nil => exact pf_dl m
    | cons d u ih =>
      rw [List.cons_append, pf_cons, if_neg (by simp)]
      have : (fun x => if d :: x = d :: u then (1 : Int) else 0) = fun x => if x = u then 1 else 0 := by
        funext x
        by_cases q : x = u
        · rw [if_pos (by rw [q]), if_pos q]
        · rw [if_neg (fun e => q (List.cons.inj e).2), if_neg q]
      rw [this, ih]
      rfl
  rw [h5, Int.mul_one] at h3
  have h6 : (1 + k) % p = 1 := by
    have : (pf F (w ++ List.replicate (N + n) c) + k) % p = (pf F (w ++ List.replicate (N + n) c) % p + k) % p := by rw [Int.emod_add_emod]
    rw [this, h4] at h3
    exact h3
  by_cases q : 1 + k < p
  · rw [Int.emod_eq_of_lt (by omega) q] at h6; omega
  · have : 1 + k = p := by omega
    rw [this, Int.emod_self] at h6
    cases h6
end Fp

/-! A dict comprehension of two clauses without tests: {k: v for t0 in i0 for t1 in i1}. -/
namespace Fp
open PySem PySem.Spec PyProof.Rows L2
/-- the two clauses -/
abbrev gens2 (t0 i0 t1 i1 : Expr) : List Comprehension := [⟨t0, i0, [], 0⟩, ⟨t1, i1, [], 0⟩]
theorem turn_out (kx vx t0 i0 t1 i1 : Expr) (scope : Scope) (pos : Pos) (it acc : Value) (env : Env) :
    compTurn (.DictComp kx vx (gens2 t0 i0 t1 i1) scope pos) 0 it acc env = (do
      standAt i0.pos
      match ← pyNext it with
      | none => pure (.done .next)
      | some v =>
        letOwnedTupleGo t0 it v
        assign t0 env v
        let x ← eval i1 env
        standAt i1.pos
        let x ← foldedSetIterable i1 env x
        let _ ← runOwn (.compStart (.DictComp kx vx (gens2 t0 i0 t1 i1) scope pos) 1 (← holding [x] (pyIter x)) acc env) env
        again (.compLoop (.DictComp kx vx (gens2 t0 i0 t1 i1) scope pos) 0 it acc env)) := by rfl
theorem turn_in (kx vx t0 i0 t1 i1 : Expr) (scope : Scope) (pos : Pos) (it : Value) (D : Addr) (env : Env) :
    compTurn (.DictComp kx vx (gens2 t0 i0 t1 i1) scope pos) 1 it (.ref D) env = (do
      standAt i1.pos
      match ← pyNext it with
      | none => pure (.done .next)
      | some v =>
        letOwnedTupleGo t1 it v
        assign t1 env v
        (do
          let kv ← eval kx env
          let vv ← holding [kv] (eval vx env)
          standAt { kx.pos with endLine := vx.pos.endLine, endCol := vx.pos.endCol }
          holding [kv, vv] (dictSet D kv vv))
        again (.compLoop (.DictComp kx vx (gens2 t0 i0 t1 i1) scope pos) 1 it (.ref D) env)) := by rfl
section
variable {prog : Program} {w : World} {A : Around} {R : Result → Shared → Prop} {s : Shared} {kx vx t0 i0 t1 i1 : Expr} {scope : Scope} {pos : Pos} {it acc : Value} {D : Addr} {env : Env}
abbrev nb (prog : Program) (w : World) (A : Around) (env : Env) (R : Result → Shared → Prop) : Value → Shared → Prop := notedBy (model prog w) A env fun e s' => R (.error e) s'
theorem loop_out (hs : ∀ x, foldedSetIterable i1 env x = pure x) (I : Nat → Shared → Prop)
    (turn : ∀ n s, I n s → wpAny (model prog w) A (pyNext it) (fun r s₁ => match r with
      | none => R (.ok .next) s₁
      | some v => wpAny (model prog w) A (letOwnedTupleGo t0 it v) (fun _ s₂ => wpAny (model prog w) A (assign t0 env v) (fun _ s₃ =>
          wpAny (model prog w) A (eval i1 env) (fun x s₄ => wpAny (model prog w) A (pyIter x) (fun it1 s₅ =>
            codeAny (model prog w) A (.compStart (.DictComp kx vx (gens2 t0 i0 t1 i1) scope pos) 1 it1 acc env) (fun r s' => match r with
              | .ok _ => ∃ m, m < n ∧ I m s'
              | .error _ => False) s₅) (nb prog w A env R) s₄) (nb prog w A env R) s₃) (nb prog w A env R) s₂) (nb prog w A env R) s₁) (nb prog w A env R) s)
    (n : Nat) (h : I n s) : codeAny (model prog w) A (.compLoop (.DictComp kx vx (gens2 t0 i0 t1 i1) scope pos) 0 it acc env) R s := by
  refine codeAny_loop rfl I (fun n s hI => ?_) n h
  show wpAny _ A ((compTurn (.DictComp kx vx (gens2 t0 i0 t1 i1) scope pos) 0 it acc env).onRaise (fun x => do noteFrame x env; theTreesLotGoes x)) _ _ s
  refine wpAny_noted ?_
  rw [turn_out]
  refine wpAny_bind (wpAny_standAt (wpAny_bind (wpAny_mono (turn n s hI) (fun r s₁ h₁ => ?_) fun _ _ h' => h')))
  cases r with
  | none => exact wpAny_pure h₁
  | some v =>
    refine wpAny_bind (wpAny_mono h₁ (fun _ s₂ h₂ => wpAny_bind (wpAny_mono h₂ (fun _ s₃ h₃ => wpAny_bind (wpAny_mono h₃ (fun x s₄ h₄ => ?_) fun _ _ h' => h')) fun _ _ h' => h')) fun _ _ h' => h')
    refine wpAny_bind (wpAny_standAt (wpAny_bind (wpAny_of_eq (hs x) (wpAny_bind (wpAny_holding (wpAny_mono h₄ (fun it1 s₅ h₅ => ?_) fun _ _ h' => h'))))))
    refine wpAny_bind (wpAny_runOwn ?_)
    rw [Around.mark_none]
    refine codeAny_mono h₅ fun r s' hr => ?_
    cases r with
    | ok f => exact wpAny_pure ⟨rfl, hr⟩
    | error e => exact hr.elim
theorem loop_in (I : Nat → Shared → Prop)
    (turn : ∀ n s, I n s → wpAny (model prog w) A (pyNext it) (fun r s₁ => match r with
      | none => R (.ok .next) s₁
      | some v => wpAny (model prog w) A (letOwnedTupleGo t1 it v) (fun _ s₂ => wpAny (model prog w) A (assign t1 env v) (fun _ s₃ =>
          wpAny (model prog w) A (eval kx env) (fun kv s₄ => wpAny (model prog w) A (eval vx env) (fun vv s₅ =>
            wpAny (model prog w) A (dictSet D kv vv) (fun _ s₆ => ∃ m, m < n ∧ I m s₆) (nb prog w A env R) s₅) (nb prog w A env R) s₄) (nb prog w A env R) s₃) (nb prog w A env R) s₂) (nb prog w A env R) s₁) (nb prog w A env R) s)
    (n : Nat) (h : I n s) : codeAny (model prog w) A (.compLoop (.DictComp kx vx (gens2 t0 i0 t1 i1) scope pos) 1 it (.ref D) env) R s := by
  refine codeAny_loop rfl I (fun n s hI => ?_) n h
  show wpAny _ A ((compTurn (.DictComp kx vx (gens2 t0 i0 t1 i1) scope pos) 1 it (.ref D) env).onRaise (fun x => do noteFrame x env; theTreesLotGoes x)) _ _ s
  refine wpAny_noted ?_
  rw [turn_in]
  refine wpAny_bind (wpAny_standAt (wpAny_bind (wpAny_mono (turn n s hI) (fun r s₁ h₁ => ?_) fun _ _ h' => h')))
  cases r with
  | none => exact wpAny_pure h₁
  | some v =>
    refine wpAny_bind (wpAny_mono h₁ (fun _ s₂ h₂ => wpAny_bind (wpAny_mono h₂ (fun _ s₃ h₃ => ?_) fun _ _ h' => h')) fun _ _ h' => h')
    exact wpAny_bind (wpAny_bind (wpAny_mono h₃ (fun kv s₄ h₄ => wpAny_bind (wpAny_holding (wpAny_mono h₄ (fun vv s₅ h₅ => wpAny_bind (wpAny_standAt (wpAny_holding (wpAny_mono h₅ (fun _ s₆ h₆ => wpAny_pure ⟨rfl, h₆⟩) fun _ _ h' => h')))) fun _ _ h' => h'))) fun _ _ h' => h'))
theorem start_in (h0 : codeAny (model prog w) A (.compLoop (.DictComp kx vx (gens2 t0 i0 t1 i1) scope pos) 1 it acc env) R s)
    (h : wpAny (model prog w) A (pyIter it) (fun it' s' => codeAny (model prog w) A (.compLoop (.DictComp kx vx (gens2 t0 i0 t1 i1) scope pos) 1 it' acc env) R s') (nb prog w A env R) s) :
    codeAny (model prog w) A (.compStart (.DictComp kx vx (gens2 t0 i0 t1 i1) scope pos) 1 it acc env) R s := by
  refine codeAny_of_tree ?_
  show wpAny _ _ ((compStart (.DictComp kx vx (gens2 t0 i0 t1 i1) scope pos) 1 it acc env).onRaise (fun x => do noteFrame x env; standAt theWindowsPlace)) _ _ s
  refine wpAny_notedAt ?_
  unfold compStart
  show wpAny _ _ (ask >>= _) _ _ s
  refine wpAny_bind (wpAny_askSetting (wpAny_ite ?_))
  split
  · first
      | exact wpAny_bind (wpAny_pure (wpAny_pure (And.intro rfl h0)))
      | exact wpAny_pure (And.intro rfl h0)
  · first
      | exact wpAny_bind (wpAny_rule (wpAny_bind (wpAny_standAt (wpAny_bind (wpAny_mono h (fun it' s' h' => wpAny_pure (And.intro rfl h')) fun _ _ x => x)))))
      | (refine wpAny_bind (wpAny_rule ?_); show wpAny _ _ (standAt i1.pos >>= _) _ _ s; exact wpAny_bind (wpAny_standAt (wpAny_bind (wpAny_mono h (fun it' s' h' => wpAny_pure (And.intro rfl h')) fun _ _ x => x))))
end
section
variable {X : Cx}
/-- behind the first clause's store the second source's own loop, from which Nx is reached; vs: the block's names, vs1: those of the second target -/
def tDc2 (wi : TI) (g : TG) (wi1 : TI) (g1 : TG) (tk tv : TE) (vs vs1 : List Nat) : TE := fun σ H Q => wi σ H fun J H1 => ∀ D, H1 D = none → ∃ W : Nat → Nat → Hp → Prop, (∃ m, W 0 m (upd H1 D (.dK []))) ∧ ∀ i m H, W i m H →
  (J.stop i H ∧ Q (.ref D) H) ∨ (J.go i H ∧ ∃ Nx : Hp → Prop, (∀ H', Nx H' → ∃ m', m' < m ∧ W (i + 1) m' H') ∧ ∀ x H', J.yld i H x H' → g x (wipe σ vs) H' fun σ2 H3 => wipe σ2 vs = wipe σ vs ∧
    wi1 σ2 H3 fun J1 H4 => ∃ W1 : Nat → Nat → Hp → Prop, (∃ m, W1 0 m H4) ∧ ∀ j k H, W1 j k H →
      (J1.stop j H ∧ Nx H) ∨ (J1.go j H ∧ ∃ Nx1 : Hp → Prop, (∀ H', Nx1 H' → ∃ k', k' < k ∧ W1 (j + 1) k' H') ∧ ∀ x H', J1.yld j H x H' → g1 x (wipe σ2 vs1) H' fun σ3 H5 => wipe σ3 vs1 = wipe σ2 vs1 ∧
        tk σ3 H5 fun y H6 => tv σ3 H6 fun z H7 => ∃ kvs ky, y = kV ky ∧ H7 D = some (.dK kvs) ∧ kvs.length < sizeLine ∧ Nx1 (upd H7 D (.dK (putK kvs ky z)))))
theorem pe_dc2 {kx vx tg iter tg1 iter1 : Expr} {scope : Scope} {own : List (Str × Nat)} {vs1 : List Nat} {pos : Pos} {wi wi1 : TI} {g g1 : TG} {tk tv : TE} (hc : X.calm = true) (hN : X.N.Nodup) (hi : PI X tg iter wi) (ok : BlkOk X.N X.env.scope scope own) (hv : ∀ i ∈ vs1, i ∈ own.map (·.2))
    (hg : ∀ (s : Shared) (H : Hp) (C : Addr) (cl : List (Str × Addr)) (fp : List Addr), PG (X.blk s H scope (compEnvC scope cl C X.env) fp) tg g)
    (hi1 : ∀ (s : Shared) (H : Hp) (C : Addr) (cl : List (Str × Addr)) (fp : List Addr), PI (X.blk s H scope (compEnvC scope cl C X.env) fp) tg1 iter1 wi1)
    (hg1 : ∀ (s : Shared) (H : Hp) (C : Addr) (cl : List (Str × Addr)) (fp : List Addr), PG (X.blk s H scope (compEnvC scope cl C X.env) fp) tg1 g1)
    (hk : ∀ (s : Shared) (H : Hp) (C : Addr) (cl : List (Str × Addr)) (fp : List Addr), PE (X.blk s H scope (compEnvC scope cl C X.env) fp) kx tk)
    (he : ∀ (s : Shared) (H : Hp) (C : Addr) (cl : List (Str × Addr)) (fp : List Addr), PE (X.blk s H scope (compEnvC scope cl C X.env) fp) vx tv) (hs : ∀ x, foldedSetIterable iter X.env x = pure x := by intro _; rfl) (hs1 : ∀ env x, foldedSetIterable iter1 env x = pure x := by intro _ _; rfl) :
    PE X (.DictComp kx vx (gens2 tg iter tg1 iter1) scope pos) (tDc2 wi g wi1 g1 tk tv (own.map (·.2)) vs1) := by
  refine ⟨fun pins s σ H Q I h => ?_⟩
  rw [arm_eval_DictComp]
  have hfree : ∀ y ∈ scope.names, y.2 = .free → ∃ c, X.env.cells.lookup y.1 = some c := fun y hy e => (ok.free y hy e).elim (fun k => I.ok.has _ (.inl k)) fun k => I.ok.has _ (.inr k)
  refine wpAny_comprehension_free rfl hs (closure_ok hfree) ok.kind (fun y hy e => by rw [ok.uniq y hy, e]) (thn (hi.run pins s σ H _ I h) fun xv s1 hx => thn hx fun itv s2 h2 => ?_)
  obtain ⟨it, fp, tn, J, H2, e, I2, T, st2, f2, q⟩ := h2
  subst e
  refine wpAny_newObj_type (newEnv_comp ?_)
  generalize hD : s2.heap.objs.size = D
  obtain ⟨W, ⟨m0, w0⟩, turn⟩ := q D (I2.hok.fresh (Nat.le_of_eq hD))
  -- the new dict
  generalize hs3 : ({ s2 with heap := s2.heap.push { cls := .type "dict", data := .dict #[] } } : Shared) = s3
  have I3 : Inv X pins σ (upd H2 D (.dK [])) s3 := by
    rw [← hs3]
    refine I2.laid (t' := s2.toks) (fun b o e => Heap.get?_push_of_some _ e) (Nat.le_of_eq hD) ?_
    rw [← hD]
    exact dk_empty s2.heap I2.big
  have h3 : s3.heap = s2.heap.push { cls := .type "dict", data := .dict #[] } := by rw [← hs3]
  have f3 : ∀ b ∈ fp, FpOk X pins (upd H2 D (.dK [])) b ∧ b < s3.heap.objs.size := fun b hb => by
    obtain ⟨o, e, _⟩ := T.obj _ _ st2 b hb
    have hlt := Heap.lt_size e
    refine ⟨⟨?_, (f2 b hb).2⟩, by rw [h3, Heap.size_push]; exact Nat.lt_succ_of_lt hlt⟩
    rw [upd_ne (by rw [← hD]; exact Nat.ne_of_lt hlt)]
    exact (f2 b hb).1
  have st3 : tn 0 s3.heap := T.keep _ _ _ st2 fun b _ o e => by rw [h3]; exact Heap.get?_push_of_some _ e
  have I4 := block_start I3 ok hN f3
  have pg := hg s3 (upd H2 D (.dK [])) s3.heap.objs.size (cellsFrom (s3.heap.objs.size + 1) scope.names (cloFrom X.env.cells scope.names [])) fp
  have pi1 := hi1 s3 (upd H2 D (.dK [])) s3.heap.objs.size (cellsFrom (s3.heap.objs.size + 1) scope.names (cloFrom X.env.cells scope.names [])) fp
  have pg1 := hg1 s3 (upd H2 D (.dK [])) s3.heap.objs.size (cellsFrom (s3.heap.objs.size + 1) scope.names (cloFrom X.env.cells scope.names [])) fp
  have pk := hk s3 (upd H2 D (.dK [])) s3.heap.objs.size (cellsFrom (s3.heap.objs.size + 1) scope.names (cloFrom X.env.cells scope.names [])) fp
  have pe := he s3 (upd H2 D (.dK [])) s3.heap.objs.size (cellsFrom (s3.heap.objs.size + 1) scope.names (cloFrom X.env.cells scope.names [])) fp
  have nfp : ∀ b ∈ fp, (upd H2 D (.dK [])) b = none := fun b hb => (f3 b hb).1.1
  have fin0 : ∀ s' m H', Inv X pins σ H' s' → Q (.ref D) H' → s'.heap.Ns s3.heap.objs.size m → FpOk X pins H' s3.heap.objs.size → compPost (model X.prog X.w) X.A X.xe none (EP X pins σ Q) (.ref D) s3.heap.objs.size (.ok .next) s' := fun s' m H' I' q hn f => ⟨m, hn, fun h'' sb => by
    obtain ⟨f0, f1, f2, f3, f4, f5⟩ := f
    exact ⟨.ref D, H', I'.turned (t' := s'.toks) (fun b o hb e => (sb.2 b hb).trans e) f0 f1 f3 f4 f5, rfl, q⟩⟩
  show codeAny _ _ (.compStart (.DictComp kx vx (gens2 tg iter tg1 iter1) scope pos) 0 (.ref it) (.ref D) (compEnvC scope (cellsFrom (s3.heap.objs.size + 1) scope.names (cloFrom X.env.cells scope.names [])) s3.heap.objs.size X.env)) (compPost (model X.prog X.w) X.A X.xe none (EP X pins σ Q) (.ref D) s3.heap.objs.size) { s3 with heap := pushCells (s3.heap.push { cls := .type "dict", data := .dict #[] }) scope.names }
  generalize hce : compEnvC scope (cellsFrom (s3.heap.objs.size + 1) scope.names (cloFrom X.env.cells scope.names [])) s3.heap.objs.size X.env = ce at I4 pg pk pe pi1 pg1 ⊢
  have cL : ce.locals = s3.heap.objs.size := by subst hce; rfl
  generalize hH3 : upd H2 D (.dK []) = H3 at I3 I4 pg pk pe pi1 pg1 w0 nfp f3
  generalize hs4 : ({ s3 with heap := pushCells (s3.heap.push { cls := .type "dict", data := .dict #[] }) scope.names } : Shared) = s4 at I4 ⊢
  have st4 : tn 0 s4.heap := T.keep _ _ _ st3 fun b _ o e => by rw [← hs4]; exact pushCells_keeps _ _ _ _ (Heap.get?_push_of_some _ e)
  have stat : ∀ {σ' : L2.St} {H' : Hp} {s' : Shared}, Inv (X.blk s3 H3 scope ce fp) [] σ' H' s' → (∀ b ∈ fp, H' b = none) → ∀ b ∈ fp, FpOk (X.blk s3 H3 scope ce fp) [] H' b := fun {σ' H' s'} I' hn b hb =>
    ⟨hn b hb, (I'.ok.exf b hb).1, I'.ok.exfs b hb, .inl hb, fun x c e => (I'.ok.exf b hb).2 x c e, fun p hp => absurd (show p ∈ ([] : List (Addr × Obj)) ++ [] from hp) (by simp)⟩
  have loop : codeAny (model X.prog X.w) X.A (.compLoop (.DictComp kx vx (gens2 tg iter tg1 iter1) scope pos) 0 (.ref it) (.ref D) ce) (compPost (model X.prog X.w) X.A X.xe none (EP X pins σ Q) (.ref D) s3.heap.objs.size) s4 := by
    refine loop_out (hs1 ce) (fun n s' => ∃ i H', Inv (X.blk s3 H3 scope ce fp) [] (wipe σ (own.map (·.2))) H' s' ∧ tn i s'.heap ∧ (∀ b ∈ fp, H' b = none) ∧ W i n H') ?_ m0 ⟨0, H3, I4, st4, nfp, w0⟩
    rintro n s5 ⟨i, H5, I5, st5, n5, w5⟩
    rcases turn i n H5 w5 with ⟨stop, qq⟩ | ⟨go, Nx, hNx, step⟩
    · refine thnF (T.done (X.blk s3 H3 scope ce fp) rfl rfl rfl hc i [] s5 _ H5 (fun _ _ => False) I5 (stat I5 n5) st5 stop) fun r s6 ⟨hr, I6⟩ => ?_
      subst hr
      have I7 : Inv X pins σ H5 s6 := I3.call' (ch := fp) I6.os I6.base I6.hok I6.bare fun b hb => ⟨(f3 b hb).1.2.2.2.1, (f3 b hb).1.2.1, (f3 b hb).1.2.2.2.2.1, (f3 b hb).1.2.2.2.2.2⟩
      have nC : H5 s3.heap.objs.size = none := by
        have z : H5 ce.locals = none := I6.free
        rwa [cL] at z
      obtain ⟨m, hn, _⟩ := I6.loc
      have hn : s6.heap.Ns ce.locals m := hn
      rw [cL] at hn
      exact fin0 s6 m H5 I7 qq hn (I3.fpOk (Nat.le_refl _) nC)
    · refine thnF (T.item (X.blk s3 H3 scope ce fp) rfl rfl rfl hc i [] s5 _ H5 (fun _ _ => False) I5 (stat I5 n5) st5 go) fun r s6 ⟨u, hr, h6⟩ => ?_
      subst hr
      refine thnF h6 fun _ s7 ⟨x, H7, I7, r7, y7, st7, n7⟩ => ?_
      have I7' := I7.pinned (stat I7 n7) (T.obj _ _ st7)
      refine thnF (pg.run _ s7 _ H7 x u _ I7' r7 (step x H7 y7)) fun _ s8 ⟨σ8, H8, I8, hw8, q8⟩ => ?_
      have fin : ∀ {σ9 : L2.St} {s' : Shared} {H' : Hp}, Inv (X.blk s3 H3 scope ce fp) ([] ++ pinsAt fp s7.heap) σ9 H' s' → (wipe σ (own.map (·.2))).length = σ9.length → (∀ (j : Nat) v, (wipe σ (own.map (·.2)))[j]? = some (some v) → σ9[j]? = some (some v)) → Nx H' →
          ∃ m, m < n ∧ ∃ i H', Inv (X.blk s3 H3 scope ce fp) [] (wipe σ (own.map (·.2))) H' s' ∧ tn i s'.heap ∧ (∀ b ∈ fp, H' b = none) ∧ W i m H' := fun {σ9 s' H'} I' hl hk nx => by
        obtain ⟨m', hm, w'⟩ := hNx H' nx
        have pin' : ∀ b ∈ fp, ∀ o, s7.heap.get? b = some o → s'.heap.get? b = some o ∧ H' b = none := fun b hb o e =>
          let z := I'.pin (b, o) (List.mem_append_right _ (List.mem_append_right _ (mem_pinsAt hb e)))
          ⟨z.1, z.2.1⟩
        refine ⟨m', hm, i + 1, H', (I'.unpinned (pins := [])).weak hl hk, T.keep _ _ _ st7 fun b hb o e => (pin' b hb o e).1, fun b hb => ?_, w'⟩
        obtain ⟨o, e, _⟩ := T.obj _ _ st7 b hb
        exact (pin' b hb o e).2
      have hl8 : (wipe σ (own.map (·.2))).length = σ8.length := by rw [← hw8, wipe_length]
      have hk9 : ∀ (j : Nat) v, (wipe σ (own.map (·.2)))[j]? = some (some v) → (wipe σ8 vs1)[j]? = some (some v) := fun j v e => by
        rw [← hw8] at e
        obtain ⟨e1, e2⟩ := wipe_some e
        rw [wipe_out fun z => e2 (hv j z)]
        exact e1
      refine thnF (pi1.run _ s8 σ8 H8 _ I8 q8) fun xv s10 hx => thnF hx fun itv s11 h11 => ?_
      obtain ⟨it1, fp1, tn1, J1, H11, e1, I11, T1, st11, f11, W1, ⟨m1, w1⟩, turn1⟩ := h11
      subst e1
      have stat1 : ∀ {H' : Hp}, (∀ b ∈ fp1, H' b = none) → ∀ b ∈ fp1, FpOk (X.blk s3 H3 scope ce fp) ([] ++ pinsAt fp s7.heap) H' b := fun hn b hb => ⟨hn b hb, (f11 b hb).2⟩
      have loop1 : codeAny (model X.prog X.w) X.A (.compLoop (.DictComp kx vx (gens2 tg iter tg1 iter1) scope pos) 1 (.ref it1) (.ref D) ce)
          (fun r s' => match r with
            | .ok _ => ∃ m, m < n ∧ ∃ i H', Inv (X.blk s3 H3 scope ce fp) [] (wipe σ (own.map (·.2))) H' s' ∧ tn i s'.heap ∧ (∀ b ∈ fp, H' b = none) ∧ W i m H'
            | .error _ => False) s11 := by
        refine loop_in (fun k s' => ∃ j H', Inv (X.blk s3 H3 scope ce fp) ([] ++ pinsAt fp s7.heap) (wipe σ8 vs1) H' s' ∧ tn1 j s'.heap ∧ (∀ b ∈ fp1, H' b = none) ∧ W1 j k H') ?_ m1 ⟨0, H11, I11.weak (wipe_length _ _) (fun j v e => (wipe_some e).1), st11, fun b hb => (f11 b hb).1, w1⟩
        rintro k s12 ⟨j, H12, I12, st12, n12, w12⟩
        rcases turn1 j k H12 w12 with ⟨stop1, nx1⟩ | ⟨go1, Nx1, hNx1, step1⟩
        · refine thnF (T1.done (X.blk s3 H3 scope ce fp) rfl rfl rfl hc j _ s12 (wipe σ8 vs1) H12 (fun _ _ => False) I12 (stat1 n12) st12 stop1) fun r s13 ⟨hr, I13⟩ => ?_
          subst hr
          exact fin I13 (hl8.trans (wipe_length σ8 vs1).symm) hk9 nx1
        · refine thnF (T1.item (X.blk s3 H3 scope ce fp) rfl rfl rfl hc j _ s12 (wipe σ8 vs1) H12 (fun _ _ => False) I12 (stat1 n12) st12 go1) fun r s13 ⟨u1, hr, h13⟩ => ?_
          subst hr
          refine thnF h13 fun _ s14 ⟨x1, H14, I14, r14, y14, st14, n14⟩ => ?_
          have I14' := I14.pinned (stat1 n14) (T1.obj _ _ st14)
          refine thnF (pg1.run _ s14 (wipe σ8 vs1) H14 x1 u1 _ I14' r14 (step1 x1 H14 y14)) fun _ s15 ⟨σ15, H15, I15, hw15, q15⟩ => ?_
          have fin1 : ∀ {s' : Shared} {H' : Hp}, Inv (X.blk s3 H3 scope ce fp) (([] ++ pinsAt fp s7.heap) ++ pinsAt fp1 s14.heap) σ15 H' s' → Nx1 H' → ∃ m, m < k ∧ ∃ j H', Inv (X.blk s3 H3 scope ce fp) ([] ++ pinsAt fp s7.heap) (wipe σ8 vs1) H' s' ∧ tn1 j s'.heap ∧ (∀ b ∈ fp1, H' b = none) ∧ W1 j m H' := fun {s' H'} I' nx => by
            obtain ⟨m', hm, w'⟩ := hNx1 H' nx
            have pin' : ∀ b ∈ fp1, ∀ o, s14.heap.get? b = some o → s'.heap.get? b = some o ∧ H' b = none := fun b hb o e =>
              let z := I'.pin (b, o) (List.mem_append_right _ (List.mem_append_right _ (mem_pinsAt hb e)))
              ⟨z.1, z.2.1⟩
            refine ⟨m', hm, j + 1, H', I'.unpinned.weak (by rw [← hw15, wipe_length]) (fun j v e => by rw [← hw15] at e; exact (wipe_some e).1), T1.keep _ _ _ st14 fun b hb o e => (pin' b hb o e).1, fun b hb => ?_, w'⟩
            obtain ⟨o, e, _⟩ := T1.obj _ _ st14 b hb
            exact (pin' b hb o e).2
          refine thnF (pk.run _ s15 σ15 H15 _ I15 q15) fun z s16 ⟨yk, H16, I16, r16, q16⟩ => ?_
          refine thnF (pe.run _ s16 σ15 H16 _ I16 q16) fun z2 s17 ⟨yv, H17, I17, r17, kvs, ky, ek, hD17, hz17, nx⟩ => ?_
          subst ek
          exact d_dictSet (X := X.blk s3 H3 scope ce fp) I17 hD17 hz17 r16 r17 fun s18 I18 => fin1 I18 nx
      exact start_in loop1 (T1.self X.A 0 _ _ _ st11 loop1)
  exact codeAny_compStart_dict loop (T.self X.A 0 _ _ _ st4 loop)
end
end Fp

/-! Dicts of any values by texts: comprehensions over their keys; loops over a dict's keys that change no object. -/
namespace Fp
open PySem L2
/-- all but d's object and lists stand -/
def ExD (d : Addr) (H H' : Hp) : Prop := ∀ a o, a ≠ d → (∀ xs, o ≠ .lst xs) → H a = some o → H' a = some o
theorem ExD.trans {d : Addr} {H H1 H2 : Hp} (a : ExD d H H1) (b : ExD d H1 H2) : ExD d H H2 := fun x o n m h => b x o n m (a x o n m h)
theorem Ex.exd {d : Addr} {H H' : Hp} (e : Ex H H') : ExD d H H' := fun a o _ _ h => e a o h
theorem ExD.upd {d : Addr} {H : Hp} {a : Addr} {o : HO} {xs : List V} (h : H a = some (.lst xs)) : ExD d H (L2.upd H a o) := fun b u _ n q => by
  rw [upd_ne (fun e => by subst e; rw [h] at q; exact n xs (Option.some.inj q).symm)]
  exact q
/-- a bag stands, whatever a locked dict's object becomes -/
theorem BagAt.exd {Cs : Addr → Prop} {d : Addr} {od : Obj} {kvs : List (Key × V)} {H H' : Hp} {a : Addr} {p : Int} {s : Bg} (e : ExD d H H') (hd : H d = some (.frz od (.dK kvs))) (b : BagAt Cs H a p s) : BagAt Cs H' a p s := by
  obtain ⟨C, dx, d', k, t, h0, h1, h2, ⟨qs, o, h3, h4, h5⟩⟩ := b.ex
  refine ⟨C, dx, d', k, t, h0, e _ _ (ne_of h1 hd (fun z => nomatch z)) (fun _ z => nomatch z) h1, e _ _ (ne_of h2 hd (fun z => nomatch z)) (fun _ z => nomatch z) h2, ⟨qs, o, e _ _ (ne_of h3 hd (fun z => by injection z with _ z2; cases z2)) (fun _ z => nomatch z) h3, h4, Paired.mapP h5 fun q kv z => e _ _ (ne_of z hd (fun z => nomatch z)) (fun _ z => nomatch z) z⟩⟩
/-- while the dict at d is walked -/
structure LkK (d : Addr) (kvs : List (Key × V)) (H H' : Hp) : Prop where
  keep : ∀ a o, a ≠ d → H a = some o → H' a = some o
  self : ∃ od, H' d = some (.frz od (.dK kvs))
theorem LkK.ex {d : Addr} {kvs : List (Key × V)} {H H' H'' : Hp} (l : LkK d kvs H H') (e : Ex H' H'') : LkK d kvs H H'' := ⟨fun a o n h => e _ _ (l.keep a o n h), let ⟨od, h⟩ := l.self; ⟨od, e _ _ h⟩⟩
theorem LkK.rd {d : Addr} {kvs : List (Key × V)} {H H' : Hp} (l : LkK d kvs H H') : Rd H' d (.dK kvs) := .inr l.self
/-- a bag stands while another dict is walked -/
theorem BagAt.lk {Cs : Addr → Prop} {d : Addr} {kvs : List (Key × V)} {H H' : Hp} {a : Addr} {p : Int} {s : Bg} (l : LkK d kvs H H') (hd : H d = some (.dK kvs)) (hk : kvs ≠ toK s) (b : BagAt Cs H a p s) : BagAt Cs H' a p s := by
  obtain ⟨C, dx, d', k, t, h0, h1, h2, ⟨qs, o, h3, h4, h5⟩⟩ := b.ex
  exact ⟨C, dx, d', k, t, h0, l.keep _ _ (ne_of h1 hd (fun z => nomatch z)) h1, l.keep _ _ (ne_of h2 hd (fun z => hk (HO.dK.inj z).symm)) h2, ⟨qs, o, l.keep _ _ (ne_of h3 hd (fun z => nomatch z)) h3, h4, Paired.mapP h5 fun q kv z => l.keep _ _ (ne_of z hd (fun z => nomatch z)) z⟩⟩
/-- anything over a dict's keys: the dict locked, then unlocked; it was unlocked -/
theorem lockK {σ : St} {H : Hp} {Q : VK} {d : Addr} {kvs : List (Key × V)} {t : TE} (hd : H d = some (.dK kvs))
    (core : ∀ (Hl : Hp) (od : Obj) (Q' : VK), Hl d = some (.frz od (.dK kvs)) → LkK d kvs H Hl → (∀ a, Hl a = none → H a = none) →
      (∀ v H', Ex Hl H' → (∀ H2, Ex H H2 → (∀ a, a ≠ d → H2 a = H' a) → ExD d H' H2 → Q v H2) → Q' v H') → t σ Hl Q') : tLockRE t σ H Q := by
  refine .inl ⟨d, _, hd, trivial, fun od => ?_⟩
  refine core _ od _ upd_same ⟨fun a o ha q => by rw [upd_ne ha]; exact q, od, upd_same⟩ (fun a ha => ?_) fun v H' e hq => ?_
  · by_cases q : a = d
    · subst q; rw [upd_same] at ha; cases ha
    · rw [upd_ne q] at ha; exact ha
  · have hdl : H' d = some (.frz od (.dK kvs)) := e _ _ upd_same
    refine ⟨hdl, hq _ (fun a o q => ?_) (fun a ha => by rw [upd_ne ha]) (fun a o n _ q => by rw [upd_ne n]; exact q)⟩
    by_cases ha : a = d
    · subst ha
      rw [hd] at q
      cases q
      exact upd_same
    · rw [upd_ne ha]
      exact e a o (by rw [upd_ne ha]; exact q)
theorem lcK_rel {σ : St} {H : Hp} {Q : VK} {d : Addr} {kvs : List (Key × V)} {te0 te : TE} {j : Nat} {vs : List Nat} (hd : H d = some (.dK kvs)) (hz : kvs.length ≤ sizeLine)
    (he : ∀ (H' : Hp) (Q : VK), LkK d kvs H H' → Q (.ref d) H' → te0 σ H' Q)
    (R : Key × V → V → Hp → Prop) (hR : ∀ e y H H', (∃ od, H d = some (.frz od (.dK kvs))) → ExD d H H' → R e y H → R e y H') (hw : ∀ x, wipe ((wipe σ vs).set j x) vs = wipe σ vs)
    (hs : ∀ (i : Nat) (k : Key) (v : V) (H' : Hp) (K : VK), kvs[i]? = some (k, v) → LkK d kvs H H' → (∀ y H4, Ex H' H4 → R (k, v) y H4 → K y H4) → te ((wipe σ vs).set j (some (kV k))) H' K)
    (hend : ∀ D H' ys, H D = none → Ex H H' → H' D = some (.lst ys) → Paired (fun y e => R e y H') ys kvs → Q (.ref D) H') : tLockRE (tLc (iKeys te0) (gName j) tYes te vs) σ H Q := by
  refine lockK hd fun Hl od Q' hl l0 hnone hq => ?_
  refine he Hl _ l0 ⟨d, od, rfl, .inl ⟨kvs, hl, ?_⟩⟩
  intro D hD
  refine lc_it walk_keys (fun i H => Ex Hl H ∧ ∃ ys, H D = some (.lst ys) ∧ Paired (fun y e => R e y H) ys (kvs.take i)) ⟨Ex.new hD, [], upd_same, .nil⟩ (fun i H _ p => p.1 _ _ hl) ?_ (fun H p => ?_)
  · rintro i x H1 H' hi ⟨e, ys, hacc, hp⟩ ⟨rfl, k, v, hk, rfl⟩
    refine ⟨hw _, ?_⟩
    unfold tYes
    dsimp only
    rw [if_pos rfl]
    have hlen : ys.length = i := by rw [hp.length, List.length_take]; omega
    refine hs i k v H' _ hk (l0.ex e) fun z H4 e4 rz => ⟨ys, e4 _ _ hacc, by omega, ?_, ys ++ [z], upd_same, ?_⟩
    · exact Ex.mut (e.trans e4) hD
    · have tu : ExD d H4 (L2.upd H4 D (.lst (ys ++ [z]))) := ExD.upd (e4 _ _ hacc)
      have hdl : H' d = some (.frz od (.dK kvs)) := e _ _ hl
      have hdl4 := e4 _ _ hdl
      have etk : kvs.take (i + 1) = kvs.take i ++ [(k, v)] := by rw [List.take_add_one, hk]; rfl
      rw [etk]
      exact Paired.snoc (Paired.mapP hp fun a b q => hR _ _ _ _ ⟨od, hdl⟩ (e4.exd.trans tu) q) (hR _ _ _ _ ⟨od, hdl4⟩ tu rz)
  · obtain ⟨e, ys, h, hp⟩ := p
    rw [List.take_length] at hp
    have hDd : D ≠ d := fun z => by subst z; rw [hl] at hD; cases hD
    exact hq _ H e fun H2 e2 hs2 ht => hend D H2 ys (hnone _ hD) e2 (by rw [hs2 D hDd]; exact h) (Paired.mapP hp fun a b q => hR _ _ _ _ ⟨od, e _ _ hl⟩ ht q)
/-- a loop over a dict's keys that changes no object that was there -/
theorem for_keysE {σ : St} {H : Hp} {D : Ends} {d : Addr} {s : Bg} {te : TE} {j : Nat} {tb : TS} (hd : Rd H d (.dK (toK s)))
    (he : ∀ (H' : Hp) (Q : VK), LkEx d s H H' → Q (.ref d) H' → te σ H' Q)
    (I : Nat → St → Hp → Prop) (h0 : I 0 σ H) (hI : ∀ i σ H H', (∀ a o, a ≠ d → H a = some o → H' a = some o) → I i σ H → I i σ H')
    (hs : ∀ i w n σ' H' (E : Ends), s[i]? = some (w, n) → I i σ' H' → LkEx d s H H' → (∀ σ'' H'', I (i + 1) σ'' H'' → Ex H' H'' → E.nx σ'' H'') → tb E (σ'.set j (some (.str w))) H')
    (hend : ∀ σ' H', I s.length σ' H' → Ex H H' → D.nx σ' H') : tLockR (tFor (iKeys te) (gName j) tb) D σ H := by
  have core : ∀ (Hl : Hp) (od : Obj) (E : Ends), Hl d = some (.frz od (.dK (toK s))) → LkEx d s H Hl → I 0 σ Hl → (∀ σ' H', I s.length σ' H' → Ex Hl H' → E.nx σ' H') → tFor (iKeys te) (gName j) tb E σ Hl := by
    intro Hl od E hl l0 hI0 hE
    refine he Hl _ l0 ⟨d, od, rfl, .inl ⟨toK s, hl, ?_⟩⟩
    refine for_it walk_keys (fun i σ' H' => I i σ' H' ∧ Ex Hl H') ⟨hI0, Ex.refl _⟩ (fun i σ' H' _ p => p.2 _ _ hl) ?_ (fun σ' H' p => ?_)
    · rintro i x σ' H' H1 hi ⟨hi1, e⟩ ⟨rfl, k, v, hk, rfl⟩
      obtain ⟨w, n, hw, ekv⟩ := toK_get hk
      cases ekv
      exact hs i w n σ' H1 _ hw hi1 (l0.ex e) fun σ'' H'' i2 e2 => ⟨i2, e.trans e2⟩
    · obtain ⟨hi1, e⟩ := p
      rw [toK_len] at hi1
      exact hE σ' H' hi1 e
  rcases hd with hd | ⟨od, hd⟩
  · refine .inl ⟨d, _, hd, trivial, fun od => ?_⟩
    refine core _ od _ upd_same ⟨fun a o ha q => by rw [upd_ne ha]; exact q, .inr ⟨od, upd_same⟩⟩ (hI _ _ _ _ (fun a o ha q => by rw [upd_ne ha]; exact q) h0) (fun σ' H' hi1 e => ?_)
    have hdl : H' d = some (.frz od (.dK (toK s))) := e _ _ upd_same
    refine ⟨hdl, hend σ' _ (hI _ _ _ _ (fun a o ha q => by rw [upd_ne ha]; exact q) hi1) (fun a o q => ?_)⟩
    by_cases ha : a = d
    · subst ha
      rw [hd] at q
      cases q
      exact upd_same
    · rw [upd_ne ha]
      exact e a o (by rw [upd_ne ha]; exact q)
  · exact .inr (core H od D hd ⟨fun a o _ h => h, .inr ⟨od, hd⟩⟩ h0 hend)
/-! ### the letters of words -/
def chS (c : Nat) : Str := ⟨#[c]⟩
theorem chS_inj {a b : Nat} (h : chS a = chS b) : a = b := by
  have := congrArg (fun z : Str => z.cps.toList) h
  simpa [chS] using this
/-- a dict of some letters of the words ws -/
def LetK (ws : List Str) (kvs : List (Key × V)) : Prop := ∃ cs : List Nat, kvs = cs.map (fun c => ((Sum.inr (chS c) : Key), V.bl true)) ∧ cs.Nodup ∧ ∀ c ∈ cs, ∃ w ∈ ws, c ∈ w.cps.toList
theorem LetK.put {ws : List Str} {kvs : List (Key × V)} {c : Nat} {w : Str} (h : LetK ws kvs) (hw : w ∈ ws) (hc : c ∈ w.cps.toList) : LetK ws (putK kvs (Sum.inr (chS c)) (.bl true)) := by
  obtain ⟨cs, rfl, hn, hm⟩ := h
  by_cases hcs : c ∈ cs
  · refine ⟨cs, ?_, hn, hm⟩
    unfold putK
    rw [if_pos]
    · rw [List.map_map]
      refine List.map_congr_left fun d _ => ?_
      show (if (Sum.inr (chS d) : Key) = Sum.inr (chS c) then ((Sum.inr (chS d) : Key), V.bl true) else ((Sum.inr (chS d) : Key), V.bl true)) = _
      split <;> rfl
    · exact List.any_eq_true.mpr ⟨_, List.mem_map.mpr ⟨c, hcs, rfl⟩, decide_eq_true rfl⟩
  · refine ⟨cs ++ [c], ?_, ?_, fun d hd => ?_⟩
    · unfold putK
      rw [if_neg, List.map_append]
      · rfl
      · intro z
        obtain ⟨kv, h1, h2⟩ := List.any_eq_true.mp z
        obtain ⟨d, hd, rfl⟩ := List.mem_map.mp h1
        have := chS_inj (Sum.inr.inj (of_decide_eq_true h2))
        rw [this] at hd
        exact hcs hd
    · rw [List.nodup_append]
      exact ⟨hn, by simp, fun a ha b hb e => by rw [List.mem_singleton.mp hb] at e; rw [e] at ha; exact hcs ha⟩
    · rcases List.mem_append.mp hd with h | h
      · exact hm d h
      · rw [List.mem_singleton.mp h]; exact ⟨w, hw, hc⟩
/-- {letter: True for word in s for letter in word} -/
theorem dc2_letters {σ : St} {H : Hp} {Q : VK} {d : Addr} {s : Bg} {te0 te1 tk tv : TE} {j j1 : Nat} {vs vs1 : List Nat} (hd : Rd H d (.dK (toK s))) (hz : ∀ u ∈ keys s, ∀ c ∈ u.cps.toList, c = 120 ∨ c = 121 ∨ c = 122)
    (he : ∀ (H' : Hp) (Q : VK), Q (.ref d) H' → te0 σ H' Q) (hw : ∀ x, wipe ((wipe σ vs).set j x) vs = wipe σ vs)
    (h1 : ∀ (w : Str) (H' : Hp) (R : It → Hp → Prop), R (Its w) H' → iStr te1 ((wipe σ vs).set j (some (.str w))) H' R) (hw1 : ∀ (w : Str) x, wipe ((wipe ((wipe σ vs).set j (some (.str w))) vs1).set j1 x) vs1 = wipe ((wipe σ vs).set j (some (.str w))) vs1)
    (hk : ∀ (w : Str) (c : Nat) (H' : Hp) (Q : VK), Q (.str (chS c)) H' → tk ((wipe ((wipe σ vs).set j (some (.str w))) vs1).set j1 (some (.str (chS c)))) H' Q)
    (hv : ∀ (w : Str) (c : Nat) (H' : Hp) (Q : VK), Q (.bl true) H' → tv ((wipe ((wipe σ vs).set j (some (.str w))) vs1).set j1 (some (.str (chS c)))) H' Q)
    (hend : ∀ D H' kvs, H D = none → Ex H H' → H' D = some (.dK kvs) → LetK (keys s) kvs → Q (.ref D) H') : tLockRE (tDc2 (iKeys te0) (gName j) (iStr te1) (gName j1) tk tv vs vs1) σ H Q := by
  refine lock_any hd fun Hl od Q' hl l0 hnone hq => ?_
  refine he Hl _ ⟨d, od, rfl, .inl ⟨toK s, hl, fun D hD => ?_⟩⟩
  have hDd : D ≠ d := fun z => by subst z; rw [hl] at hD; cases hD
  have small : ∀ kvs, LetK (keys s) kvs → kvs.length < sizeLine := fun kvs ⟨cs, e, hn, hm⟩ => by
    rw [e, List.length_map]
    have := len_sub hn (m := [120, 121, 122]) fun c hc => by
      obtain ⟨w, hw, hcw⟩ := hm c hc
      rcases hz w hw c hcw with rfl | rfl | rfl <;> simp
    exact Nat.lt_of_le_of_lt this (by decide)
  refine ⟨fun i m H' => m = s.length - i ∧ i ≤ s.length ∧ Ex Hl H' ∧ ∃ kvs, H' D = some (.dK kvs) ∧ LetK (keys s) kvs, ⟨s.length, by simp, Nat.zero_le _, Ex.new hD, [], upd_same, [], rfl, List.nodup_nil, fun _ z => nomatch z⟩, ?_⟩
  rintro i m H2 ⟨rfl, hi, e2, kvs, hD2, hL⟩
  have hl2 := e2 _ _ hl
  by_cases hlt : i < s.length
  · refine .inr ⟨⟨hl2, by rw [toK_len]; exact hlt⟩, fun H' => Ex Hl H' ∧ ∃ kvs, H' D = some (.dK kvs) ∧ LetK (keys s) kvs, fun H' p => ⟨s.length - (i + 1), by omega, rfl, hlt, p.1, p.2⟩, ?_⟩
    rintro x H' ⟨rfl, k, v, hk', rfl⟩
    obtain ⟨w, n, hw', ekv⟩ := toK_get hk'
    cases ekv
    have hmem : w ∈ keys s := mem_keys.mpr ⟨n, List.mem_of_getElem? hw'⟩
    refine ⟨hw _, ?_⟩
    refine h1 w H' _ ?_
    refine ⟨fun j k H3 => k = w.cps.size - j ∧ j ≤ w.cps.size ∧ Ex Hl H3 ∧ ∃ kvs, H3 D = some (.dK kvs) ∧ LetK (keys s) kvs, ⟨w.cps.size, by simp, Nat.zero_le _, e2, kvs, hD2, hL⟩, ?_⟩
    rintro a b H3 ⟨rfl, ha, e3, kvs3, hD3, hL3⟩
    by_cases hla : a < w.cps.size
    · refine .inr ⟨hla, fun H' => Ex Hl H' ∧ ∃ kvs, H' D = some (.dK kvs) ∧ LetK (keys s) kvs, fun H' p => ⟨w.cps.size - (a + 1), by omega, rfl, hla, p.1, p.2⟩, ?_⟩
      rintro x H4 ⟨rfl, c, hc, rfl⟩
      refine ⟨hw1 w _, ?_⟩
      refine hk w c H4 _ (hv w c H4 _ ⟨kvs3, Sum.inr (chS c), rfl, hD3, small _ hL3, Ex.mut e3 hD, _, upd_same, hL3.put hmem ?_⟩)
      have : w.cps.toList[a]? = some c := by rw [Array.getElem?_toList]; exact hc
      exact List.mem_of_getElem? this
    · exact .inl ⟨by show w.cps.size ≤ a; omega, e3, kvs3, hD3, hL3⟩
  · have ei : i = s.length := by omega
    subst ei
    refine .inl ⟨⟨hl2, by rw [toK_len]; exact Nat.le_refl _⟩, ?_⟩
    exact hq _ H2 (fun D' z => by cases z; exact hnone _ hD) e2 fun H3 e3 hs3 ht => hend D H3 kvs (hnone _ hD) e3 (by rw [hs3 D hDd]; exact hD2) hL
end Fp

/-! Rules for beginnings of words: sorted by len, comprehensions of two clauses over a dict's words. -/
namespace Fp
open PySem L2 PySem.W
/-! ### cuts -/
theorem cutS_take (w : Str) {k : Nat} (hk : k ≤ w.length) : cutS w none (some (k : Int)) = ofL (w.cps.toList.take k) := by
  have e : w = ofL (w.cps.toList.take k) ++ ofL (w.cps.toList.drop k) := by rw [← ofL_app, List.take_append_drop, ofL_toList]
  have hl : (ofL (w.cps.toList.take k)).length = k := by
    rw [← str_len, toList_ofL, List.length_take, str_len]
    omega
  have := cutS_front (ofL (w.cps.toList.take k)) (ofL (w.cps.toList.drop k))
  rw [hl, ← e] at this
  exact this
theorem cutS_last (w : Str) : cutS w none (some (-1)) = ofL w.cps.toList.dropLast := by
  refine str_ext ?_
  unfold cutS
  show ((((w).cps.toList.drop (HT.sIx (w).length 0 none)).take (HT.sIx (w).length (w).length (some (-1)) - HT.sIx (w).length 0 none)).toArray).toList = w.cps.toList.dropLast
  rw [HT.sIx_none, List.drop_zero, List.toList_toArray, List.dropLast_eq_take]
  congr 1
  have h := str_len w
  show (if (-1 : Int) < 0 then ((-1 : Int) + (w.length : Int)).toNat else min (-1 : Int).toNat w.length) - 0 = _
  rw [if_pos (by decide)]
  omega
/-! ### sorted(xs, key=len) -/
def lenD (w : Str) : PyData := .int (w.length : Int)
def ordL (ws : List Str) : List Str := ws.mergeSort (dataLe false lenD)
theorem ordL_perm (ws : List Str) : (ordL ws).Perm ws := List.mergeSort_perm _ _
theorem lenD_eq : dataLe false lenD = fun a b : Str => decide ((a.length : Int) ≤ b.length) := dataLe_int fun w : Str => (w.length : Int)
theorem ordL_sorted (ws : List Str) : (ordL ws).Pairwise (fun a b => a.length ≤ b.length) := by
  have h : TotalLe (dataLe false lenD) := by
    rw [lenD_eq]
    exact ⟨fun a b c h1 h2 => by have := of_decide_eq_true h1; have := of_decide_eq_true h2; exact decide_eq_true (by omega), fun a b => (Nat.le_total a.length b.length).imp (fun h => decide_eq_true (by omega)) fun h => decide_eq_true (by omega)⟩
  refine (sort_pairwise h ws).imp fun {a b} q => ?_
  rw [lenD_eq] at q
  have := of_decide_eq_true q
  omega
def tSortLen (K : PySem.W.Frag) (te : TE) : TE := fun σ H Q => te σ H fun x H1 => ∃ (a : Addr) (ws : List Str), [x] = [V.ref a] ∧ SqL K H1 a (ws.map V.str) ∧ (∀ w ∈ ws, w.length ≤ sizeLine) ∧
  ∀ q, H1 q = none → Q (.ref q) (upd H1 q (.lst ((ordL ws).map V.str)))
theorem pe_sortLen {X : L2.Cx} {e : Expr} {te : TE} {p p2 pos kpos : Pos} (hg : Gl X "sorted") (hm : X.mg "sorted" = none) (hv : bootBuiltins "sorted" = some (.builtin "sorted")) (hg2 : Gl X "len") (hm2 : X.mg "len" = none) (hv2 : bootBuiltins "len" = some (.builtin "len")) (hr : Room 3 X.A) (he : PE X e te)
    (h0 : starEach [e] X.env = (false, eval e X.env) :: starEach [] X.env := by rfl) (h1 : backTo pos (starEach [e] X.env) = (false, eval e X.env) :: backTo pos (starEach [] X.env) := by rfl) (h2 : (backTo pos (starEach [e] X.env)).any (·.1) = false := by rfl) :
    PE X (.Call (.Name "sorted" p) [e] [⟨some "key", .Name "len" p2, kpos⟩] pos) (tSortLen X.K te) := by
  refine ⟨fun pins s σ H Q I h => ?_⟩
  refine wpAny_Call_Name_kw (ld_blt I hg hm hv ?_)
  have ha : PA X [e] (tCons te tNil) := pa_cons he pa_nil h0
  refine PyProof.Rows.callWith_kw (thn (ha.run pos pins s σ H (fun vs H1 => ∃ (a : Addr) (ws : List Str), vs = [.ref a] ∧ SqL X.K H1 a (ws.map V.str) ∧ (∀ w ∈ ws, w.length ≤ sizeLine) ∧
    ∀ q, H1 q = none → Q (.ref q) (upd H1 q (.lst ((ordL ws).map V.str)))) I ?_) fun us s1 ⟨vs, H1, I1, r1, q1⟩ => ?_) h1 h2 rfl rfl
  · exact h
  · show wpAny _ _ (evalAll ((do let v ← eval (.Name "len" p2) X.env; standAt pos; pure v) :: [])) _ _ s1
    refine wpAny_evalAll_cons (wpAny_bind (ld_blt I1 hg2 hm2 hv2 (wpAny_bind (wpAny_standAt (wpAny_pure (wpAny_evalAll_nil ?_))))))
    obtain ⟨a, ws, rfl, hs, hx, q⟩ := q1
    obtain rfl := Vals.ref1 r1
    obtain ⟨its, rv, hl, hz⟩ := I1.list hs
    rw [List.length_map] at hz
    show wpAny _ _ (call (.builtin "sorted") [.ref a] [(Str.ofString "key", .builtin "len")]) _ _ _
    refine PySem.W.sorted_key_data (R := fun v x => ∃ t, v = Value.str x t) (bs := ws) (b := false) lenD hl.isList (each_strs rv) (AllAlike.of fun _ _ => rfl) (Sortable.others fun b => ⟨(fun z => nomatch z), (fun xs z => nomatch z)⟩) hz (fun x _ => ?_) (PyProof.Rows.ksk_s1 _ _) (fun x => PyProof.Rows.ksk_l1 _ _) (fun x => PyProof.Rows.ksk_t4 "len" x) (fun v x hv hm h tk kk => ?_) (fun out c h' tk keep _ hget hlen ho => ?_)
    · have := hr.un
      show _ + 2 + 0 < _
      omega
    · obtain ⟨t, rfl⟩ := hv
      have := hx x hm
      have hn := L2.line63
      refine PyProof.Rows.len_str (by omega) ?_
      exact ⟨_, _, rfl, fun _ _ z => z, .int _ _⟩
    · have hl2 : ((ordL ws).map V.str).length ≤ sizeLine := by rw [List.length_map, (ordL_perm ws).length_eq]; exact hz
      exact ⟨.ref _, upd H1 (s1.heap.objs.size + 1) (.lst ((ordL ws).map V.str)), I1.laid (t' := tk) keep (Nat.le_succ _) ⟨hl2, out, c, vals_each ho, hget⟩, rfl, q _ (I1.hok.fresh (Nat.le_succ _))⟩
/-! ### the beginnings of a dict's words -/
def trueK (ws : List Str) : List (Key × V) := ws.map fun u => ((Sum.inr u : Key), V.bl true)
theorem putK_true (ws : List Str) (u : Str) : putK (trueK ws) (Sum.inr u) (.bl true) = trueK (if u ∈ ws then ws else ws ++ [u]) := by
  by_cases h : u ∈ ws
  · rw [if_pos h]
    unfold putK
    rw [if_pos]
    · unfold trueK
      rw [List.map_map]
      refine List.map_congr_left fun v _ => ?_
      show (if (Sum.inr v : Key) = Sum.inr u then ((Sum.inr v : Key), V.bl true) else ((Sum.inr v : Key), V.bl true)) = _
      split <;> rfl
    · exact List.any_eq_true.mpr ⟨_, List.mem_map.mpr ⟨u, h, rfl⟩, decide_eq_true rfl⟩
  · rw [if_neg h]
    unfold putK
    rw [if_neg]
    · unfold trueK
      rw [List.map_append]
      rfl
    · intro z
      obtain ⟨kv, h1, h2⟩ := List.any_eq_true.mp z
      obtain ⟨v, hv, rfl⟩ := List.mem_map.mp h1
      have e : v = u := Sum.inr.inj (of_decide_eq_true h2)
      rw [e] at hv
      exact h hv
/-- so far: all beginnings of the words us, and those of w of fewer than a letters -/
structure Pre (us : List Str) (w : Str) (a : Nat) (ws : List Str) : Prop where
  nd : ws.Nodup
  mem : ∀ u, u ∈ ws ↔ (∃ v ∈ us, u.cps.toList <+: v.cps.toList) ∨ ∃ k, k < a ∧ u = ofL (w.cps.toList.take k)
theorem Pre.put {us : List Str} {w : Str} {a : Nat} {ws : List Str} (h : Pre us w a ws) : Pre us w (a + 1) (if ofL (w.cps.toList.take a) ∈ ws then ws else ws ++ [ofL (w.cps.toList.take a)]) := by
  by_cases hm : ofL (w.cps.toList.take a) ∈ ws
  · rw [if_pos hm]
    refine ⟨h.nd, fun u => ⟨fun q => ((h.mem u).mp q).imp id fun ⟨k, h1, h2⟩ => ⟨k, by omega, h2⟩, fun q => ?_⟩⟩
    rcases q with q | ⟨k, h1, h2⟩
    · exact (h.mem u).mpr (.inl q)
    · by_cases e : k = a
      · subst e; rw [h2]; exact hm
      · exact (h.mem u).mpr (.inr ⟨k, by omega, h2⟩)
  · rw [if_neg hm]
    refine ⟨?_, fun u => ⟨fun q => ?_, fun q => ?_⟩⟩
    · rw [List.nodup_append]
      exact ⟨h.nd, by simp, fun a ha b hb e => by rw [List.mem_singleton.mp hb] at e; rw [e] at ha; exact hm ha⟩
    · rcases List.mem_append.mp q with q | q
      · exact ((h.mem u).mp q).imp id fun ⟨k, h1, h2⟩ => ⟨k, by omega, h2⟩
      · exact .inr ⟨a, by omega, List.mem_singleton.mp q⟩
    · rcases q with q | ⟨k, h1, h2⟩
      · exact List.mem_append_left _ ((h.mem u).mpr (.inl q))
      · by_cases e : k = a
        · subst e; rw [h2]; exact List.mem_append_right _ List.mem_cons_self
        · exact List.mem_append_left _ ((h.mem u).mpr (.inr ⟨k, by omega, h2⟩))
theorem take_prefix (l : List Nat) (k : Nat) : l.take k <+: l := List.take_prefix k l
theorem Pre.next {us : List Str} {w : Str} {ws : List Str} (h : Pre us w (w.length + 1) ws) (v : Str) : Pre (us ++ [w]) v 0 ws := by
  refine ⟨h.nd, fun u => ⟨fun q => .inl ?_, fun q => (h.mem u).mpr ?_⟩⟩
  · rcases (h.mem u).mp q with ⟨x, h1, h2⟩ | ⟨k, h1, h2⟩
    · exact ⟨x, List.mem_append_left _ h1, h2⟩
    · exact ⟨w, List.mem_append_right _ List.mem_cons_self, by rw [h2]; exact take_prefix _ _⟩
  · rcases q with ⟨x, h1, h2⟩ | ⟨k, h1, _⟩
    · rcases List.mem_append.mp h1 with h1 | h1
      · exact .inl ⟨x, h1, h2⟩
      · obtain rfl := List.mem_singleton.mp h1
        refine .inr ⟨u.length, ?_, ?_⟩
        · have := h2.length_le
          rw [str_len, str_len] at this
          omega
        · refine str_ext ?_
          rw [toList_ofL, ← str_len u]
          exact (List.prefix_iff_eq_take.mp h2)
    · omega
theorem Pre.other {us : List Str} {w v : Str} {ws : List Str} (h : Pre us w 0 ws) : Pre us v 0 ws :=
  ⟨h.nd, fun u => ⟨fun q => ((h.mem u).mp q).imp id fun ⟨k, h1, _⟩ => absurd h1 (by omega), fun q => (h.mem u).mpr (q.imp id fun ⟨k, h1, _⟩ => absurd h1 (by omega))⟩⟩
theorem put_len (ws : List Str) (u : Str) : (if u ∈ ws then ws else ws ++ [u]).length ≤ ws.length + 1 := by
  by_cases h : u ∈ ws
  · rw [if_pos h]; omega
  · rw [if_neg h, List.length_append, List.length_singleton]; omega
/-- {w[:k]: True for w in s for k in range(len(w) + 1)} -/
theorem dc2_pre {σ : St} {H : Hp} {Q : VK} {d : Addr} {s : Bg} {te0 tk tv : TE} {tA : TA} {j j1 : Nat} {vs vs1 : List Nat} (hd : Rd H d (.dK (toK s))) (hz : ∀ u ∈ keys s, u.length ≤ 1000) (hn : s.length ≤ 1000)
    (he : ∀ (H' : Hp) (Q : VK), LkEx d s H H' → Q (.ref d) H' → te0 σ H' Q) (hw : ∀ x, wipe ((wipe σ vs).set j x) vs = wipe σ vs)
    (h1 : ∀ (w : Str) (H' : Hp) (R : It → Hp → Prop), w.length ≤ 1000 → R (Itr 0 (w.length + 1)) H' → iRng1 tA ((wipe σ vs).set j (some (.str w))) H' R) (hw1 : ∀ (w : Str) x, wipe ((wipe ((wipe σ vs).set j (some (.str w))) vs1).set j1 x) vs1 = wipe ((wipe σ vs).set j (some (.str w))) vs1)
    (hk : ∀ (w : Str) (k : Nat) (H' : Hp) (Q : VK), w.length ≤ 1000 → k ≤ w.length → Q (.str (ofL (w.cps.toList.take k))) H' → tk ((wipe ((wipe σ vs).set j (some (.str w))) vs1).set j1 (some (.int (k : Int)))) H' Q)
    (hv : ∀ (w : Str) (k : Nat) (H' : Hp) (Q : VK), Q (.bl true) H' → tv ((wipe ((wipe σ vs).set j (some (.str w))) vs1).set j1 (some (.int (k : Int)))) H' Q)
    (hend : ∀ D H' ws, H D = none → Ex H H' → H' D = some (.dK (trueK ws)) → ws.Nodup → (∀ u, u ∈ ws ↔ ∃ v ∈ keys s, u.cps.toList <+: v.cps.toList) → ws.length ≤ 1001000 → Q (.ref D) H') : tLockRE (tDc2 (iKeys te0) (gName j) (iRng1 tA) (gName j1) tk tv vs vs1) σ H Q := by
  refine lock_any hd fun Hl od Q' hl l0 hnone hq => ?_
  refine he Hl _ l0 ⟨d, od, rfl, .inl ⟨toK s, hl, fun D hD => ?_⟩⟩
  have hDd : D ≠ d := fun z => by subst z; rw [hl] at hD; cases hD
  refine ⟨fun i m H' => m = s.length - i ∧ i ≤ s.length ∧ Ex Hl H' ∧ ∃ ws, H' D = some (.dK (trueK ws)) ∧ Pre (keys (s.take i)) Str.empty 0 ws ∧ ws.length ≤ i * 1001, ⟨s.length, by simp, Nat.zero_le _, Ex.new hD, [], upd_same, ⟨List.nodup_nil, fun u => ⟨(fun z => nomatch z), fun z => ?_⟩⟩, Nat.zero_le _⟩, ?_⟩
  · rcases z with ⟨v, h1, _⟩ | ⟨k, h1, _⟩
    · cases h1
    · omega
  rintro i m H2 ⟨rfl, hi, e2, ws, hD2, hP, hL⟩
  have hl2 := e2 _ _ hl
  by_cases hlt : i < s.length
  · refine .inr ⟨⟨hl2, by rw [toK_len]; exact hlt⟩, fun H' => Ex Hl H' ∧ ∃ ws, H' D = some (.dK (trueK ws)) ∧ Pre (keys (s.take (i + 1))) Str.empty 0 ws ∧ ws.length ≤ (i + 1) * 1001, fun H' p => ⟨s.length - (i + 1), by omega, rfl, hlt, p.1, p.2⟩, ?_⟩
    rintro x H' ⟨rfl, k, v, hk', rfl⟩
    obtain ⟨w, n, hw', ekv⟩ := toK_get hk'
    cases ekv
    have hmem : w ∈ keys s := mem_keys.mpr ⟨n, List.mem_of_getElem? hw'⟩
    have hwl := hz w hmem
    refine ⟨hw _, ?_⟩
    refine h1 w H' _ hwl ?_
    refine ⟨fun a k H3 => k = w.length + 1 - a ∧ a ≤ w.length + 1 ∧ Ex Hl H3 ∧ ∃ ws, H3 D = some (.dK (trueK ws)) ∧ Pre (keys (s.take i)) w a ws ∧ ws.length ≤ i * 1001 + a, ⟨w.length + 1, by simp, Nat.zero_le _, e2, ws, hD2, hP.other, by omega⟩, ?_⟩
    rintro a b H3 ⟨rfl, ha, e3, ws3, hD3, hP3, hL3⟩
    by_cases hla : a < w.length + 1
    · refine .inr ⟨hla, fun H' => Ex Hl H' ∧ ∃ ws, H' D = some (.dK (trueK ws)) ∧ Pre (keys (s.take i)) w (a + 1) ws ∧ ws.length ≤ i * 1001 + (a + 1), fun H' p => ⟨w.length + 1 - (a + 1), by omega, rfl, hla, p.1, p.2⟩, ?_⟩
      rintro x H4 ⟨rfl, rfl⟩
      rw [Int.zero_add]
      refine ⟨hw1 w _, ?_⟩
      have hbig : (trueK ws3).length < sizeLine := by
        unfold trueK
        rw [List.length_map]
        have : i * 1001 ≤ 1000 * 1001 := Nat.mul_le_mul_right _ (by omega)
        show _ < 2 ^ 24
        omega
      refine hk w a H4 _ hwl (by omega) (hv w a H4 _ ⟨_, Sum.inr (ofL (w.cps.toList.take a)), rfl, hD3, hbig, Ex.mut e3 hD, _, ?_, hP3.put, ?_⟩)
      · rw [upd_same, putK_true]
      · have := put_len ws3 (ofL (w.cps.toList.take a))
        omega
    · have ea : a = w.length + 1 := by omega
      subst ea
      refine .inl ⟨Nat.le_refl _, e3, ws3, hD3, ?_, by rw [Nat.succ_mul]; omega⟩
      have := hP3.next Str.empty
      have e : keys (s.take (i + 1)) = keys (s.take i) ++ [w] := by
        unfold keys
        rw [List.take_add_one, hw', List.map_append]
        rfl
      rw [e]
      exact this
  · have ei : i = s.length := by omega
    subst ei
    rw [List.take_length] at hP
    refine .inl ⟨⟨hl2, by rw [toK_len]; exact Nat.le_refl _⟩, ?_⟩
    refine hq _ H2 (fun D' z => by cases z; exact hnone _ hD) e2 fun H3 e3 hs3 ht => hend D H3 ws (hnone _ hD) e3 (by rw [hs3 D hDd]; exact hD2) hP.nd (fun u => (hP.mem u).trans ⟨fun q => q.elim id fun ⟨k, h1, _⟩ => absurd h1 (by omega), .inl⟩) ?_
    have : s.length * 1001 ≤ 1000 * 1001 := Nat.mul_le_mul_right _ hn
    omega
/-! ### flags of all letters of a dict's words -/
/-- [f(c) for w in s for c in w] -/
theorem lc2_flags {σ : St} {H : Hp} {Q : VK} {d : Addr} {s : Bg} {te0 te1 te : TE} {j j1 : Nat} {vs vs1 : List Nat} (f : Nat → Bool) (hd : Rd H d (.dK (toK s))) (hz : ∀ u ∈ keys s, u.length ≤ 1000) (hn : s.length ≤ 1000)
    (he : ∀ (H' : Hp) (Q : VK), LkEx d s H H' → Q (.ref d) H' → te0 σ H' Q) (hw : ∀ x, wipe ((wipe σ vs).set j x) vs = wipe σ vs)
    (h1 : ∀ (w : Str) (H' : Hp) (R : It → Hp → Prop), R (Its w) H' → iStr te1 ((wipe σ vs).set j (some (.str w))) H' R) (hw1 : ∀ (w : Str) x, wipe ((wipe ((wipe σ vs).set j (some (.str w))) vs1).set j1 x) vs1 = wipe ((wipe σ vs).set j (some (.str w))) vs1)
    (hk : ∀ (w : Str) (c : Nat) (H' : Hp) (Q : VK), Q (.bl (f c)) H' → te ((wipe ((wipe σ vs).set j (some (.str w))) vs1).set j1 (some (.str (chS c)))) H' Q)
    (hend : ∀ D H' (bs : List Bool), H D = none → Ex H H' → H' D = some (.lst (bs.map V.bl)) → bs = (keys s).flatMap (fun w => w.cps.toList.map f) → Q (.ref D) H') : tLockRE (tLc2 (iKeys te0) (gName j) tYes (iStr te1) (gName j1) tYes te vs vs1) σ H Q := by
  refine lock_any hd fun Hl od Q' hl l0 hnone hq => ?_
  refine he Hl _ l0 ⟨d, od, rfl, .inl ⟨toK s, hl, fun D hD => ?_⟩⟩
  have hDd : D ≠ d := fun z => by subst z; rw [hl] at hD; cases hD
  refine ⟨fun i m H' => m = s.length - i ∧ i ≤ s.length ∧ Ex Hl H' ∧ ∃ bs : List Bool, H' D = some (.lst (bs.map V.bl)) ∧ bs = (keys (s.take i)).flatMap (fun w => w.cps.toList.map f) ∧ bs.length ≤ i * 1000, ⟨s.length, by simp, Nat.zero_le _, Ex.new hD, [], upd_same, rfl, Nat.zero_le _⟩, ?_⟩
  rintro i m H2 ⟨rfl, hi, e2, bs, hD2, hP, hL⟩
  have hl2 := e2 _ _ hl
  by_cases hlt : i < s.length
  · refine .inr ⟨⟨hl2, by rw [toK_len]; exact hlt⟩, fun H' => Ex Hl H' ∧ ∃ bs : List Bool, H' D = some (.lst (bs.map V.bl)) ∧ bs = (keys (s.take (i + 1))).flatMap (fun w => w.cps.toList.map f) ∧ bs.length ≤ (i + 1) * 1000, fun H' p => ⟨s.length - (i + 1), by omega, rfl, hlt, p.1, p.2⟩, ?_⟩
    rintro x H' ⟨rfl, k, v, hk', rfl⟩
    obtain ⟨w, n, hw', ekv⟩ := toK_get hk'
    cases ekv
    have hmem : w ∈ keys s := mem_keys.mpr ⟨n, List.mem_of_getElem? hw'⟩
    have hwl := hz w hmem
    refine ⟨hw _, ?_⟩
    unfold tYes
    dsimp only
    rw [if_pos rfl]
    refine h1 w H' _ ?_
    refine ⟨fun a k H3 => k = w.cps.size - a ∧ a ≤ w.cps.size ∧ Ex Hl H3 ∧ ∃ bs : List Bool, H3 D = some (.lst (bs.map V.bl)) ∧ bs = (keys (s.take i)).flatMap (fun w => w.cps.toList.map f) ++ (w.cps.toList.take a).map f ∧ bs.length ≤ i * 1000 + a, ⟨w.cps.size, by simp, Nat.zero_le _, e2, bs, hD2, by rw [hP]; simp, by omega⟩, ?_⟩
    rintro a b H3 ⟨rfl, ha, e3, bs3, hD3, hP3, hL3⟩
    by_cases hla : a < w.cps.size
    · refine .inr ⟨hla, fun H' => Ex Hl H' ∧ ∃ bs : List Bool, H' D = some (.lst (bs.map V.bl)) ∧ bs = (keys (s.take i)).flatMap (fun w => w.cps.toList.map f) ++ (w.cps.toList.take (a + 1)).map f ∧ bs.length ≤ i * 1000 + (a + 1), fun H' p => ⟨w.cps.size - (a + 1), by omega, rfl, hla, p.1, p.2⟩, ?_⟩
      rintro x H4 ⟨rfl, c, hc, rfl⟩
      refine ⟨hw1 w _, ?_⟩
      dsimp only
      rw [if_pos rfl]
      have hwl' : w.cps.size ≤ 1000 := hwl
      refine hk w c H4 _ ⟨_, hD3, ?_, Ex.mut e3 hD, bs3 ++ [f c], by rw [upd_same, List.map_append]; rfl, ?_, by rw [List.length_append, List.length_singleton]; omega⟩
      · rw [List.length_map]
        have : i * 1000 ≤ 1000 * 1000 := Nat.mul_le_mul_right _ (by omega)
        show _ < 2 ^ 24
        omega
      · have hc' : w.cps.toList[a]? = some c := by rw [Array.getElem?_toList]; exact hc
        rw [hP3, List.take_add_one, hc', List.map_append, List.append_assoc]
        rfl
    · have ea : a = w.cps.size := by omega
      subst ea
      refine .inl ⟨Nat.le_refl _, e3, bs3, hD3, ?_, ?_⟩
      · have e : keys (s.take (i + 1)) = keys (s.take i) ++ [w] := by
          unfold keys
          rw [List.take_add_one, hw', List.map_append]
          rfl
        have e2' : w.cps.toList.take w.cps.size = w.cps.toList := by
          have : w.cps.size = w.cps.toList.length := Array.length_toList.symm
          rw [this, List.take_length]
        rw [hP3, e, List.flatMap_append, e2']
        simp
      · have hwl' : w.cps.size ≤ 1000 := hwl
        rw [Nat.succ_mul]
        omega
  · have ei : i = s.length := by omega
    subst ei
    rw [List.take_length] at hP
    refine .inl ⟨⟨hl2, by rw [toK_len]; exact Nat.le_refl _⟩, ?_⟩
    exact hq _ H2 (fun D' z => by cases z; exact hnone _ hD) e2 fun H3 e3 hs3 ht => hend D H3 bs (hnone _ hD) e3 (by rw [hs3 D hDd]; exact hD2) hP
end Fp

namespace Fp
open PySem L2
/-! ### rows: tuples of bags -/
abbrev Row := List Bg
/-- the least place that is not nothing, and the first word there -/
def leadR : Row → Option (Nat × Str)
  | [] => none
  | b :: r => if b = [] then (leadR r).map fun q => (q.1 + 1, q.2) else some (0, lead b)
def idleR (r : Row) : Bool := r.all fun b => decide (b = [])
def atR (r : Row) (i : Nat) : Bg := (r[i]?).getD []
def takeR (p : Int) (r o : Row) (t : Str) (n : Int) : Row := (r.zip o).map fun q => plusS p q.1 (withB q.2 t) (-n)
def scaleR (p : Int) (r : Row) (f : Int) : Row := r.map fun b => plusS p [] b f
def plainR (p : Int) (r : Row) : Row := match leadR r with
  | none => r
  | some (i, w) => scaleR p r (inv p (cf (atR r i) w))
def hitR (i : Nat) (w : Str) (o : Row) : Option Str := match leadR o with
  | none => none
  | some (j, l) => if j = i ∧ Txt.startswith w l = true then some (cutS w (some (l.length : Int)) none) else none
def hitB (B : List Row) (i : Nat) (w : Str) : Option (Row × Str) := B.findSome? fun o => (hitR i w o).map fun t => (o, t)
def hitW (B : List Row) (i : Nat) (ws : List Str) : Option (Str × Row × Str) := ws.findSome? fun w => (hitB B i w).map fun q => (w, q.1, q.2)
def hitF (B : List Row) : Nat → Row → Option (Nat × Str × Row × Str)
  | _, [] => none
  | i, b :: r => match hitW B i (ordW (keys b)) with
    | some (w, o, t) => some (i, w, o, t)
    | none => hitF B (i + 1) r
structure Fit (p : Int) (r : Row) : Prop where
  g : ∀ b ∈ r, Good p b
  n : ∀ b ∈ r, b.length ≤ 3000000
  l : ∀ b ∈ r, ∀ u ∈ keys b, u.length ≤ 1000000
  k : r.length ≤ 1000
theorem leadR_none {r : Row} : leadR r = none ↔ idleR r = true := by
  induction r with
  | nil => exact ⟨fun _ => rfl, fun _ => rfl⟩
  | cons b r ih =>
    unfold leadR idleR
    rw [List.all_cons, Bool.and_eq_true, decide_eq_true_iff]
    by_cases h : b = []
    · rw [if_pos h, Option.map_eq_none_iff, ih]
      exact ⟨fun z => ⟨h, z⟩, fun z => z.2⟩
    · rw [if_neg h]
      exact ⟨fun z => (nomatch z), fun z => absurd z.1 h⟩
theorem leadR_at {r : Row} : ∀ {i : Nat} {w : Str}, leadR r = some (i, w) → ∃ b, r[i]? = some b ∧ b ≠ [] ∧ w = lead b ∧ ∀ j, j < i → r[j]? = some [] := by
  induction r with
  | nil => intro i w h; cases h
  | cons b r ih =>
    intro i w h
    unfold leadR at h
    by_cases hb : b = []
    · rw [if_pos hb] at h
      cases hl : leadR r with
      | none => rw [hl] at h; cases h
      | some q =>
        rw [hl] at h
        cases Option.some.inj h
        obtain ⟨b', h1, h2, h3, h4⟩ := ih (i := q.1) (w := q.2) hl
        refine ⟨b', h1, h2, h3, fun j hj => ?_⟩
        cases j with
        | zero => rw [hb]; rfl
        | succ j => exact h4 j (by omega)
    · rw [if_neg hb] at h
      cases Option.some.inj h
      exact ⟨b, rfl, hb, rfl, fun j hj => absurd hj (Nat.not_lt_zero _)⟩
theorem leadR_of {r : Row} : ∀ {i : Nat} {b : Bg}, r[i]? = some b → b ≠ [] → (∀ j, j < i → r[j]? = some []) → leadR r = some (i, lead b) := by
  induction r with
  | nil => intro i b h; cases h
  | cons c r ih =>
    intro i b h hb hj
    unfold leadR
    cases i with
    | zero => cases Option.some.inj h; rw [if_neg hb]
    | succ i =>
      rw [if_pos (Option.some.inj (hj 0 (Nat.succ_pos _))), ih (i := i) h hb fun j hj' => hj (j + 1) (Nat.succ_lt_succ hj')]
      rfl
theorem atR_mem {r : Row} {i : Nat} {b : Bg} (h : r[i]? = some b) : atR r i = b ∧ b ∈ r := ⟨by unfold atR; rw [h]; rfl, List.mem_of_getElem? h⟩
theorem hitB_none {B : List Row} {i : Nat} {w : Str} : hitB B i w = none ↔ ∀ o ∈ B, hitR i w o = none := by
  unfold hitB
  rw [List.findSome?_eq_none_iff]
  exact ⟨fun h o ho => by have := h o ho; rwa [Option.map_eq_none_iff] at this, fun h o ho => by rw [h o ho]; rfl⟩
theorem hitB_some {B : List Row} {i : Nat} {w : Str} {o : Row} {t : Str} (h : hitB B i w = some (o, t)) : o ∈ B ∧ hitR i w o = some t := by
  unfold hitB at h
  obtain ⟨a, ha, e⟩ := List.exists_of_findSome?_eq_some h
  cases h9 : hitR i w a with
  | none => rw [h9] at e; cases e
  | some t' =>
    rw [h9] at e
    cases Option.some.inj e
    exact ⟨ha, h9⟩
theorem hitR_some {i : Nat} {w : Str} {o : Row} {t : Str} (h : hitR i w o = some t) : ∃ l, leadR o = some (i, l) ∧ w = l ++ t := by
  unfold hitR at h
  cases hl : leadR o with
  | none => rw [hl] at h; cases h
  | some q =>
    obtain ⟨j, l⟩ := q
    rw [hl] at h
    dsimp only at h
    split at h
    · rename_i hc
      obtain ⟨rfl, hs⟩ := hc
      obtain ⟨t', ht⟩ := (startswith_iff _ _).mp hs
      refine ⟨l, rfl, ?_⟩
      cases Option.some.inj h
      rw [ht, cutS_back]
    · cases h
theorem hitR_of {i : Nat} {w l : Str} {o : Row} {t : Str} (hl : leadR o = some (i, l)) (hw : w = l ++ t) : hitR i w o = some t := by
  unfold hitR
  rw [hl]
  dsimp only
  rw [if_pos ⟨rfl, (startswith_iff _ _).mpr ⟨t, hw⟩⟩, hw, cutS_back]
end Fp

namespace Fp
open PySem L2
/-- taking off, step by step -/
inductive RedN (p : Int) (B : List Row) : Nat → Row → Row → Prop
  | stop {r : Row} : hitF B 0 r = none → RedN p B 0 r r
  | step {n : Nat} {r o r' : Row} {i : Nat} {w t : Str} : hitF B 0 r = some (i, w, o, t) → Fit p (takeR p r o t (cf (atR r i) w)) → RedN p B n (takeR p r o t (cf (atR r i) w)) r' → RedN p B (n + 1) r r'
/-- whether a row leads by a word that begins with the leading one of another -/
def longQ (row o : Row) : Bool := match leadR o with
  | none => false
  | some (j, l) => (hitB [row] j l).isSome
inductive LedN (p : Int) : Nat → List Row → List Row → List Row → Prop
  | stop {found : List Row} : LedN p 0 [] found found
  | hit {n : Nat} {todo found res : List Row} {row o : Row} {i : Nat} {w t : Str} : leadR row = some (i, w) → hitB found i w = some (o, t) → Fit p (takeR p row o t (cf (atR row i) w)) →
      LedN p n (if idleR (takeR p row o t (cf (atR row i) w)) = true then todo else todo ++ [takeR p row o t (cf (atR row i) w)]) found res → LedN p (n + 1) (todo ++ [row]) found res
  | add {n : Nat} {todo found res : List Row} {row : Row} {i : Nat} {w : Str} : leadR row = some (i, w) → hitB found i w = none →
      LedN p n (todo ++ found.filter (longQ (plainR p row))) (found.filter (fun o => !longQ (plainR p row) o) ++ [plainR p row]) res → LedN p (n + 1) (todo ++ [row]) found res
theorem takeR_len {p : Int} {r o : Row} {t : Str} {n : Int} (h : r.length = o.length) : (takeR p r o t n).length = r.length := by
  unfold takeR
  rw [List.length_map, List.length_zip]
  omega
theorem scaleR_len (p : Int) (r : Row) (f : Int) : (scaleR p r f).length = r.length := List.length_map _
theorem plainR_len (p : Int) (r : Row) : (plainR p r).length = r.length := by
  unfold plainR
  cases leadR r with
  | none => rfl
  | some z => exact scaleR_len _ _ _
theorem scale_cf {p f : Int} {b : Bg} (hp : 0 < p) (hb : (keys b).Nodup) (w : Str) : cf (plusS p [] b f) w = f * cf b w % p := by
  rw [cf_plus hp Good.nil hb, cf_nil, Int.zero_add]
theorem prm_ne {p f x : Int} (hp : Prm p) (hf : 0 < f) (hf1 : f < p) (hx : 0 ≤ x) (hx1 : x < p) : f * x % p = 0 ↔ x = 0 := by
  constructor
  · intro h
    false_or_by_contra
    rename_i h9
    have := prm_mul hp hf hf1 (show 0 < x by omega) hx1
    omega
  · intro h
    rw [h, Int.mul_zero, Int.zero_emod]
theorem scale_keys {p f : Int} {b : Bg} (hp : Prm p) (hf : 0 < f) (hf1 : f < p) (gb : Good p b) (w : Str) : w ∈ keys (plusS p [] b f) ↔ w ∈ keys b := by
  have h0 : 0 < p := by have := hp.pos; omega
  rw [cf_ne (Good.plus h0 Good.nil b), cf_ne gb, scale_cf h0 gb.nd]
  exact not_congr (prm_ne hp hf hf1 (cf_nonneg gb w) (cf_lt h0 gb w))
theorem keys_nil_iff {b : Bg} : b = [] ↔ ∀ w, w ∉ keys b := by
  constructor
  · rintro rfl w h
    cases h
  · intro h
    cases b with
    | nil => rfl
    | cons q r => exact absurd List.mem_cons_self (h q.1)
theorem scale_nil {p f : Int} {b : Bg} (hp : Prm p) (hf : 0 < f) (hf1 : f < p) (gb : Good p b) : plusS p [] b f = [] ↔ b = [] := by
  rw [keys_nil_iff, keys_nil_iff]
  exact ⟨fun h w hw => h w ((scale_keys hp hf hf1 gb w).mpr hw), fun h w hw => h w ((scale_keys hp hf hf1 gb w).mp hw)⟩
theorem scale_lead {p f : Int} {b : Bg} (hp : Prm p) (hf : 0 < f) (hf1 : f < p) (gb : Good p b) (hb : b ≠ []) : lead (plusS p [] b f) = lead b :=
  lead_is ((scale_keys hp hf hf1 gb _).mpr (lead_mem hb)) fun u hu => lead_le ((scale_keys hp hf hf1 gb u).mp hu)
theorem leadR_scale {p f : Int} (hp : Prm p) (hf : 0 < f) (hf1 : f < p) : ∀ {r : Row}, (∀ b ∈ r, Good p b) → leadR (scaleR p r f) = leadR r
  | [], _ => rfl
  | b :: r, h => by
    have gb := h b List.mem_cons_self
    have ih := leadR_scale hp hf hf1 (r := r) fun c hc => h c (List.mem_cons_of_mem _ hc)
    show leadR (plusS p [] b f :: scaleR p r f) = leadR (b :: r)
    unfold leadR
    by_cases hb : b = []
    · rw [if_pos hb, if_pos ((scale_nil hp hf hf1 gb).mpr hb), ih]
    · rw [if_neg hb, if_neg (fun z => hb ((scale_nil hp hf hf1 gb).mp z)), scale_lead hp hf hf1 gb hb]
theorem lead_cf {p : Int} {r : Row} {i : Nat} {w : Str} (hp : 0 < p) (hg : ∀ b ∈ r, Good p b) (h : leadR r = some (i, w)) : 0 < cf (atR r i) w ∧ cf (atR r i) w < p ∧ ∃ b, r[i]? = some b ∧ atR r i = b ∧ b ≠ [] ∧ w = lead b ∧ b ∈ r := by
  obtain ⟨b, h1, h2, h3, _⟩ := leadR_at h
  obtain ⟨h4, h5⟩ := atR_mem h1
  rw [h4, h3]
  exact ⟨cf_pos_of (hg b h5) (lead_mem h2), cf_lt hp (hg b h5) _, b, h1, rfl, h2, rfl, h5⟩
theorem leadR_plain {p : Int} {r : Row} (hp : Prm p) (hg : ∀ b ∈ r, Good p b) : leadR (plainR p r) = leadR r := by
  unfold plainR
  cases h : leadR r with
  | none => exact h
  | some z =>
    obtain ⟨i, w⟩ := z
    obtain ⟨h1, h2, _⟩ := lead_cf (by have := hp.pos; omega) hg h
    have := inv_one hp h1 h2
    dsimp only
    rw [leadR_scale hp this.2.1 this.2.2 hg, h]
theorem scale_len {p f : Int} {b : Bg} : (plusS p [] b f).length ≤ b.length := by
  have := len_plus (p := p) (s := []) (t := b) f
  rwa [List.length_nil, Nat.zero_add] at this
theorem Fit.scale {p f : Int} {r : Row} (hp : 0 < p) (h : Fit p r) : Fit p (scaleR p r f) := by
  refine ⟨fun b hb => ?_, fun b hb => ?_, fun b hb u hu => ?_, by rw [scaleR_len]; exact h.k⟩
  · obtain ⟨c, hc, rfl⟩ := List.mem_map.mp hb
    exact Good.plus hp Good.nil c
  · obtain ⟨c, hc, rfl⟩ := List.mem_map.mp hb
    exact Nat.le_trans scale_len (h.n c hc)
  · obtain ⟨c, hc, rfl⟩ := List.mem_map.mp hb
    rcases keys_plus hu with h9 | h9
    · cases h9
    · exact h.l c hc u h9
theorem Fit.plain {p : Int} {r : Row} (hp : 0 < p) (h : Fit p r) : Fit p (plainR p r) := by
  unfold plainR
  cases leadR r with
  | none => exact h
  | some z => exact Fit.scale hp h
structure LedR (p : Int) (m : Nat) (B : List Row) : Prop where
  f : ∀ o ∈ B, Fit p o ∧ leadR o ≠ none ∧ o.length = m
/-- all rows reduced, one after the other, each by the others -/
inductive RedAll (p : Int) (m : Nat) : Nat → List Row → List Row → Prop
  | stop {i : Nat} {B : List Row} : i = B.length → LedR p m B → RedAll p m i B B
  | step {i n : Nat} {r r' : Row} {B C : List Row} : LedR p m B → B[i]? = some r → RedN p (B.take i ++ B.drop (i + 1)) n r r' → RedAll p m (i + 1) (B.set i r') C → RedAll p m i B C
theorem filter_both {α : Type} (q : α → Bool) (xs : List α) : (xs.filter q).length + (xs.filter fun o => !q o).length = xs.length := by
  induction xs with
  | nil => rfl
  | cons a r ih => by_cases h : q a = true <;> simp [List.filter_cons, h] <;> omega
end Fp

namespace Fp
open PySem
/-! ### sums of multiples of some bags -/
def Beg (l w : Str) : Prop := ∃ t, w = l ++ t
abbrev Trm := Bg × Str × Int
def valT (ks : List Trm) (w : Str) : Int := sumL ks fun k => k.2.2 * cf (withB k.1 k.2.1) w
def In (p : Int) (B : List Bg) (f : Bg) : Prop := ∃ ks : List Trm, (∀ k ∈ ks, k.1 ∈ B) ∧ ∀ w, cf f w % p = valT ks w % p
variable {p : Int} {B : List Bg}
theorem withB_empty (b : Bg) : withB b Str.empty = b := by
  unfold withB
  induction b with
  | nil => rfl
  | cons a r ih => rw [List.map_cons, ih, app_empty]
theorem withB_withB (b : Bg) (s t : Str) : withB b (s ++ t) = withB (withB b s) t := by
  unfold withB
  induction b with
  | nil => rfl
  | cons a r ih => rw [List.map_cons, List.map_cons, List.map_cons, ih, app_assoc]
theorem cf_key {s : Bg} {w : Str} (h : cf s w ≠ 0) : w ∈ keys s := Classical.byContradiction fun n => h (cf_not_mem n)
theorem cf_withB_key {b : Bg} {t w : Str} (h : cf (withB b t) w ≠ 0) : ∃ u ∈ keys b, w = u ++ t := by
  have := cf_key h
  rw [withB_keys] at this
  obtain ⟨u, h1, h2⟩ := List.mem_map.mp this
  exact ⟨u, h1, h2.symm⟩
theorem In.nil : In p B [] := ⟨[], (fun _ h => nomatch h), fun w => rfl⟩
theorem In.mem {b : Bg} (h : b ∈ B) : In p B b := ⟨[(b, Str.empty, 1)], fun k hk => by rw [List.mem_singleton.mp hk]; exact h, fun w => by
  unfold valT
  rw [sumL_cons, sumL_nil, withB_empty, Int.one_mul, Int.add_zero]⟩
theorem In.of {f g h : Bg} {n : Int} (hf : In p B f) (hg : In p B g) (e : ∀ w, cf h w % p = (cf f w + n * cf g w) % p) : In p B h := by
  obtain ⟨ks, k1, k2⟩ := hf
  obtain ⟨js, j1, j2⟩ := hg
  refine ⟨ks ++ js.map fun k => (k.1, k.2.1, n * k.2.2), fun k hk => ?_, fun w => ?_⟩
  · rcases List.mem_append.mp hk with hk | hk
    · exact k1 k hk
    · obtain ⟨j, hj, rfl⟩ := List.mem_map.mp hk
      exact j1 j hj
  · have e1 : valT (js.map fun k => (k.1, k.2.1, n * k.2.2)) w = n * valT js w := by
      unfold valT
      rw [sumL_map, ← sumL_mul]
      exact sumL_congr fun a _ => Int.mul_assoc _ _ _
    have e2 : valT (ks ++ js.map fun k => (k.1, k.2.1, n * k.2.2)) w = valT ks w + n * valT js w := by
      rw [← e1]
      exact sumL_append _ _ _
    rw [e, e2, Int.add_emod, Int.mul_emod, k2, j2, ← Int.mul_emod, ← Int.add_emod]
theorem In.plus {f g : Bg} {n : Int} (hp : 0 < p) (gf : Good p f) (gg : (keys g).Nodup) (hf : In p B f) (hg : In p B g) : In p B (plusS p f g n) :=
  In.of (n := n) hf hg fun w => by rw [cf_plus hp gf gg, Int.emod_emod]
theorem In.back {f g : Bg} {n : Int} (hp : 0 < p) (gf : Good p f) (gg : (keys g).Nodup) (hf : In p B (plusS p f g (-n))) (hg : In p B g) : In p B f :=
  In.of (n := n) hf hg fun w => by
    rw [cf_plus hp gf gg, Int.emod_add_emod]
    exact congrArg (· % p) (by rw [Int.neg_mul]; omega)
theorem In.withB {f : Bg} {t : Str} (hB : ∀ b ∈ B, (keys b).Nodup) (nf : (keys f).Nodup) (hf : In p B f) : In p B (Fp.withB f t) := by
  obtain ⟨ks, k1, k2⟩ := hf
  refine ⟨ks.map fun k => (k.1, k.2.1 ++ t, k.2.2), fun k hk => ?_, fun w => ?_⟩
  · obtain ⟨j, hj, rfl⟩ := List.mem_map.mp hk
    exact k1 j hj
  · have e1 : valT (ks.map fun k => (k.1, k.2.1 ++ t, k.2.2)) w = sumL ks fun k => k.2.2 * cf (Fp.withB (Fp.withB k.1 k.2.1) t) w := by
      unfold valT
      rw [sumL_map]
      exact sumL_congr fun a _ => by rw [← withB_withB]
    rw [e1]
    by_cases h : ∃ u, w = u ++ t
    · obtain ⟨u, rfl⟩ := h
      rw [cf_withB nf, k2]
      refine congrArg (· % p) (sumL_congr fun a ha => ?_)
      rw [cf_withB (withB_nodup (hB _ (k1 a ha)))]
    · have h0 : ∀ s : Bg, cf (Fp.withB s t) w = 0 := fun s => Classical.byContradiction fun n => by
        obtain ⟨u, _, hu⟩ := cf_withB_key n
        exact h ⟨u, hu⟩
      rw [h0, sumL_zero fun a _ => by rw [h0, Int.mul_zero]]
/-- bags that lead by number 1, none by a word that begins with another's -/
structure GB (p : Int) (B : List Bg) : Prop where
  g : ∀ b ∈ B, Good p b ∧ b ≠ [] ∧ cf b (lead b) = 1
  pf : ∀ b ∈ B, ∀ c ∈ B, Beg (lead b) (lead c) → b = c
def topT (k : Trm) : Str := lead k.1 ++ k.2.1
theorem pre_or {a b c d : Str} (h : a ++ b = c ++ d) : Beg a c ∨ Beg c a := by
  have h1 : a.cps.toList ++ b.cps.toList = c.cps.toList ++ d.cps.toList := by rw [← app_toList, ← app_toList, h]
  rcases List.append_eq_append_iff.mp h1 with ⟨x, h2, _⟩ | ⟨x, h2, _⟩
  · exact .inl ⟨ofL x, str_ext (by rw [app_toList, toList_ofL]; exact h2)⟩
  · exact .inr ⟨ofL x, str_ext (by rw [app_toList, toList_ofL]; exact h2)⟩
theorem valT_split (q : Trm → Bool) (ks : List Trm) (w : Str) : valT ks w = valT (ks.filter q) w + valT (ks.filter fun k => !q k) w := by
  unfold valT
  rw [sumL_filter, sumL_filter, ← sumL_add]
  refine sumL_congr fun a _ => ?_
  cases q a <;> simp
theorem top_le {b : Bg} {t w : Str} (h : cf (withB b t) w ≠ 0) : leW (lead b ++ t) w = true := by
  obtain ⟨u, hu, rfl⟩ := cf_withB_key h
  exact leW_app (lead_le hu) (leW_refl t)
theorem In_lead_aux (hp : 0 < p) (G : GB p B) : ∀ (n : Nat) (ks : List Trm), ks.length ≤ n → (∀ k ∈ ks, k.1 ∈ B) → ∀ f : Bg, Good p f → f ≠ [] → (∀ w, cf f w % p = valT ks w % p) → ∃ k ∈ ks, lead f = topT k
  | n, [], _, _, f, gf, hf, e => by
    have := e (lead f)
    rw [cf_mod hp gf, (show valT [] (lead f) = 0 from rfl), Int.zero_emod] at this
    exact absurd this ((cf_ne gf).mp (lead_mem hf))
  | n, k1 :: ks1, hn, hk, f, gf, hf, e => by
    have hne : (k1 :: ks1).map topT ≠ [] := by simp
    generalize k1 :: ks1 = ks at *
    obtain ⟨m, r, hm⟩ := ordW_cons hne
    obtain ⟨hm1, hm2⟩ := head_cons_ord (m := m) (by rw [hm]; rfl)
    obtain ⟨k0, hk0, rfl⟩ := List.mem_map.mp hm1
    have hmax : ∀ k ∈ ks, leW (topT k0) (topT k) = true := fun k h => hm2 _ (List.mem_map.mpr ⟨k, h, rfl⟩)
    by_cases hz : valT ks (topT k0) % p = 0
    · have hsame : ∀ k ∈ ks, topT k = topT k0 → k.1 = k0.1 ∧ k.2.1 = k0.2.1 := fun k h he => by
        have h1 : k.1 = k0.1 := by
          rcases pre_or (show lead k.1 ++ k.2.1 = lead k0.1 ++ k0.2.1 from he) with h2 | h2
          · exact G.pf _ (hk k h) _ (hk k0 hk0) h2
          · exact (G.pf _ (hk k0 hk0) _ (hk k h) h2).symm
        refine ⟨h1, ?_⟩
        have h3 : lead k.1 ++ k.2.1 = lead k0.1 ++ k0.2.1 := he
        rw [h1] at h3
        exact app_cancel_l h3
      have h5 : ∀ w, valT (ks.filter fun k => decide (topT k = topT k0)) w = (sumL (ks.filter fun k => decide (topT k = topT k0)) fun k => k.2.2) * cf (Fp.withB k0.1 k0.2.1) w := fun w => by
        unfold valT
        rw [← sumL_mulr]
        refine sumL_congr fun a ha => ?_
        obtain ⟨h6, h7⟩ := List.mem_filter.mp ha
        obtain ⟨h8, h9⟩ := hsame a h6 (of_decide_eq_true h7)
        rw [h8, h9]
      have h6 : valT (ks.filter fun k => !decide (topT k = topT k0)) (topT k0) = 0 := sumL_zero fun a ha => by
        obtain ⟨h6, h7⟩ := List.mem_filter.mp ha
        have h7' : topT a ≠ topT k0 := by simpa using h7
        have : cf (Fp.withB a.1 a.2.1) (topT k0) = 0 := Classical.byContradiction fun n => h7' (leW_anti (top_le n) (hmax a h6))
        rw [this, Int.mul_zero]
      obtain ⟨g0, _, g2⟩ := G.g _ (hk k0 hk0)
      have h7 : cf (Fp.withB k0.1 k0.2.1) (topT k0) = 1 := by
        show cf (Fp.withB k0.1 k0.2.1) (lead k0.1 ++ k0.2.1) = 1
        rw [cf_withB g0.nd, g2]
      have h8 : (sumL (ks.filter fun k => decide (topT k = topT k0)) fun k => k.2.2) % p = 0 := by
        rw [valT_split (fun k => decide (topT k = topT k0)), h5, h6, h7, Int.mul_one, Int.add_zero] at hz
        exact hz
      have hlt : (ks.filter fun k => !decide (topT k = topT k0)).length < ks.length := List.length_filter_lt_length_iff_exists.mpr ⟨k0, hk0, by simp⟩
      match n, hn with
      | n + 1, hn =>
        obtain ⟨k, h9, h10⟩ := In_lead_aux hp G n (ks.filter fun k => !decide (topT k = topT k0)) (by omega) (fun k h => hk k (List.mem_filter.mp h).1) f gf hf fun w => by
          rw [e, valT_split (fun k => decide (topT k = topT k0)), h5, Int.add_emod, Int.mul_emod, h8, Int.zero_mul, Int.zero_emod, Int.zero_add, Int.emod_emod]
        exact ⟨k, (List.mem_filter.mp h9).1, h10⟩
      | 0, hn => omega
    · refine ⟨k0, hk0, lead_is ?_ fun u hu => ?_⟩
      · refine cf_key ?_
        rw [← cf_mod hp gf, e]
        exact hz
      · have h1 := (cf_ne gf).mp hu
        rw [← cf_mod hp gf, e] at h1
        obtain ⟨k, h2, h3⟩ : ∃ k ∈ ks, cf (Fp.withB k.1 k.2.1) u ≠ 0 := Classical.byContradiction fun n => h1 (by
          have : valT ks u = 0 := sumL_zero fun a ha => by
            have : cf (Fp.withB a.1 a.2.1) u = 0 := Classical.byContradiction fun n2 => n ⟨a, ha, n2⟩
            rw [this, Int.mul_zero]
          rw [this, Int.zero_emod])
        exact leW_total.trans _ _ _ (hmax k h2) (top_le h3)
/-- a sum that is not nothing leads by a word that begins with a leading one -/
theorem In.lead (hp : 0 < p) (G : GB p B) {f : Bg} (h : In p B f) (gf : Good p f) (hf : f ≠ []) : ∃ b ∈ B, Beg (lead b) (lead f) := by
  obtain ⟨ks, h1, h2⟩ := h
  obtain ⟨k, h3, h4⟩ := In_lead_aux hp G _ ks (Nat.le_refl _) h1 f gf hf h2
  exact ⟨k.1, h1 k h3, k.2.1, h4⟩
theorem In.none (hp : 0 < p) (G : GB p B) {f : Bg} (h : In p B f) (gf : Good p f) (hn : ∀ u ∈ keys f, ∀ b ∈ B, ¬ Beg (Fp.lead b) u) : f = [] := Classical.byContradiction fun hf => by
  obtain ⟨b, h1, h2⟩ := In.lead hp G h gf hf
  exact hn _ (lead_mem hf) b h1 h2
end Fp

/-! Level bags and their cuts. -/
namespace Fp
open PySem L2
variable {p : Int} {n k : Nat}
def fr (k : Nat) (w : Str) : Str := cutS w none (some (k : Int))
def bk (k : Nat) (w : Str) : Str := cutS w (some (k : Int)) none
theorem fr_app {a b : Str} (h : a.length = k) : fr k (a ++ b) = a := by subst h; exact cutS_front a b
theorem bk_app {a b : Str} (h : a.length = k) : bk k (a ++ b) = b := by subst h; exact cutS_back a b
theorem fr_bk {w : Str} (h : k ≤ w.length) : fr k w ++ bk k w = w ∧ (fr k w).length = k ∧ (bk k w).length = w.length - k := by
  have e : w = ofL (w.cps.toList.take k) ++ ofL (w.cps.toList.drop k) := by rw [← ofL_app, List.take_append_drop, ofL_toList]
  have hl : (ofL (w.cps.toList.take k)).length = k := by
    rw [← str_len, toList_ofL, List.length_take, str_len]
    omega
  have hl2 : (ofL (w.cps.toList.drop k)).length = w.length - k := by rw [← str_len, toList_ofL, List.length_drop, str_len]
  have h1 := fr_app (b := ofL (w.cps.toList.drop k)) hl
  have h2 := bk_app (b := ofL (w.cps.toList.drop k)) hl
  rw [← e] at h1 h2
  rw [h1, h2]
  exact ⟨e.symm, hl, hl2⟩
theorem app_lev {a b c d : Str} (h : a.length = c.length) (e : a ++ b = c ++ d) : a = c ∧ b = d := by
  have h1 := fr_app (k := c.length) (a := a) (b := b) h
  have h2 := bk_app (k := c.length) (a := a) (b := b) h
  rw [e] at h1 h2
  rw [fr_app rfl] at h1
  rw [bk_app rfl] at h2
  exact ⟨h1.symm, h2.symm⟩
structure Lev (m : Nat) (s : Bg) : Prop where
  n : s ≠ []
  l : ∀ u ∈ keys s, u.length = m
theorem lev_size {s : Bg} (h : Lev n s) : sizeS s = n := by
  unfold sizeS
  rw [if_neg h.n, h.l _ (lead_mem h.n)]
theorem Lev.lead {s : Bg} (h : Lev n s) : (lead s).length = n := h.l _ (lead_mem h.n)
theorem cf_sum_withB {s : Bg} (hs : (keys s).Nodup) (u w : Str) : cf (withB s u) w = sumL s fun a => if a.1 ++ u = w then a.2 else 0 := by
  rw [← sum_ind (withB_nodup hs) w]
  unfold withB
  rw [sumL_map]
theorem prod_sum {g h : Bg} (hp : 0 < p) (hn : (keys g).Nodup) (w : Str) : cf (prodS p g h) w = (sumL h fun b => b.2 * cf (withB g b.1) w) % p := by
  rw [cf_prod hp]
  unfold cvS
  rw [sumL_swap]
  congr 1
  refine sumL_congr fun b _ => ?_
  rw [cf_sum_withB hn, ← sumL_mul]
  refine sumL_congr fun a _ => ?_
  by_cases e : a.1 ++ b.1 = w
  · rw [if_pos e, if_pos e, Int.mul_comm]
  · rw [if_neg e, if_neg e, Int.mul_zero]
/-- what stands at a word of a product whose first bag is level -/
theorem lev_prod {g h : Bg} (hp : 0 < p) (hn : (keys g).Nodup) (hh : (keys h).Nodup) (hg : ∀ u ∈ keys g, u.length = k) {a : Str} (ha : a.length = k) (b : Str) : cf (prodS p g h) (a ++ b) = cf g a * cf h b % p := by
  rw [prod_sum hp hn]
  congr 1
  rw [← sum_ind hh b, ← sumL_mul]
  refine sumL_congr fun c _ => ?_
  by_cases e : c.1 = b
  · rw [e, cf_withB hn, if_pos rfl, Int.mul_comm]
  · rw [if_neg e, Int.mul_zero]
    have : cf (withB g c.1) (a ++ b) = 0 := Classical.byContradiction fun z => by
      obtain ⟨u, hu, e2⟩ := cf_withB_key z
      exact e (app_lev (by rw [ha, hg u hu]) e2).2.symm
    rw [this, Int.mul_zero]
/-- the words behind a beginning; ahead of an end -/
def atEnd (k : Nat) (t : Str) (c p : Int) (s : Bg) : Bg := s.filterMap fun kv => if bk k kv.1 = t then some (fr k kv.1, kv.2 * c % p) else none
def atFront (k : Nat) (f : Str) (s : Bg) : Bg := s.filterMap fun kv => if fr k kv.1 = f then some (bk k kv.1, kv.2) else none
theorem nodup_keys_fm {s : Bg} (q : Str × Int → Option (Str × Int)) (hn : (keys s).Nodup) (hinj : ∀ x ∈ s, ∀ y ∈ s, ∀ u v, q x = some u → q y = some v → u.1 = v.1 → x.1 = y.1) : (keys (s.filterMap q)).Nodup := by
  induction s with
  | nil => exact List.nodup_nil
  | cons x r ih =>
    have hn' : (x.1 :: keys r).Nodup := hn
    obtain ⟨h1, h2⟩ := List.nodup_cons.mp hn'
    have ih' := ih h2 fun y hy z hz => hinj y (List.mem_cons_of_mem _ hy) z (List.mem_cons_of_mem _ hz)
    rw [List.filterMap_cons]
    cases e : q x with
    | none => exact ih'
    | some u =>
      refine List.nodup_cons.mpr ⟨fun hm => ?_, ih'⟩
      obtain ⟨v, hv, hvu⟩ := List.mem_map.mp hm
      obtain ⟨y, hy, hyv⟩ := List.mem_filterMap.mp hv
      exact h1 (by rw [hinj x List.mem_cons_self y (List.mem_cons_of_mem _ hy) u v e hyv hvu.symm]; exact List.mem_map.mpr ⟨y, hy, rfl⟩)
theorem lev_le {s : Bg} (h : Lev n s) (hk : k ≤ n) {u : Str} (hu : u ∈ keys s) : k ≤ u.length := by rw [h.l u hu]; exact hk
theorem atEnd_nodup {s : Bg} {t : Str} {c : Int} (h : Lev n s) (hk : k ≤ n) (hn : (keys s).Nodup) : (keys (atEnd k t c p s)).Nodup := by
  refine nodup_keys_fm _ hn fun x hx y hy u v e1 e2 e3 => ?_
  by_cases q1 : bk k x.1 = t
  · by_cases q2 : bk k y.1 = t
    · rw [if_pos q1] at e1
      rw [if_pos q2] at e2
      cases e1
      cases e2
      rw [← (fr_bk (lev_le h hk (List.mem_map.mpr ⟨x, hx, rfl⟩))).1, ← (fr_bk (lev_le h hk (List.mem_map.mpr ⟨y, hy, rfl⟩))).1, q1, q2, show fr k x.1 = fr k y.1 from e3]
    · rw [if_neg q2] at e2; cases e2
  · rw [if_neg q1] at e1; cases e1
theorem atFront_nodup {s : Bg} {f : Str} (h : Lev n s) (hk : k ≤ n) (hn : (keys s).Nodup) : (keys (atFront k f s)).Nodup := by
  refine nodup_keys_fm _ hn fun x hx y hy u v e1 e2 e3 => ?_
  by_cases q1 : fr k x.1 = f
  · by_cases q2 : fr k y.1 = f
    · rw [if_pos q1] at e1
      rw [if_pos q2] at e2
      cases e1
      cases e2
      rw [← (fr_bk (lev_le h hk (List.mem_map.mpr ⟨x, hx, rfl⟩))).1, ← (fr_bk (lev_le h hk (List.mem_map.mpr ⟨y, hy, rfl⟩))).1, q1, q2, show bk k x.1 = bk k y.1 from e3]
    · rw [if_neg q2] at e2; cases e2
  · rw [if_neg q1] at e1; cases e1
theorem mem_atEnd {s : Bg} {t : Str} {c : Int} (h : Lev n s) (hk : k ≤ n) {u : Str} (hu : u ∈ keys (atEnd k t c p s)) : u.length = k ∧ u ++ t ∈ keys s := by
  obtain ⟨v, hv, rfl⟩ := List.mem_map.mp hu
  obtain ⟨y, hy, e⟩ := List.mem_filterMap.mp hv
  by_cases q : bk k y.1 = t
  · rw [if_pos q] at e
    cases e
    obtain ⟨h1, h2, _⟩ := fr_bk (lev_le h hk (List.mem_map.mpr ⟨y, hy, rfl⟩))
    exact ⟨h2, by rw [← q, h1]; exact List.mem_map.mpr ⟨y, hy, rfl⟩⟩
  · rw [if_neg q] at e; cases e
theorem mem_atFront {s : Bg} {f : Str} (h : Lev n s) (hk : k ≤ n) {u : Str} (hu : u ∈ keys (atFront k f s)) : u.length = n - k ∧ f ++ u ∈ keys s := by
  obtain ⟨v, hv, rfl⟩ := List.mem_map.mp hu
  obtain ⟨y, hy, e⟩ := List.mem_filterMap.mp hv
  by_cases q : fr k y.1 = f
  · rw [if_pos q] at e
    cases e
    have hyk : y.1 ∈ keys s := List.mem_map.mpr ⟨y, hy, rfl⟩
    obtain ⟨h1, _, h2⟩ := fr_bk (lev_le h hk hyk)
    exact ⟨by rw [h2, h.l _ hyk], by rw [← q, h1]; exact hyk⟩
  · rw [if_neg q] at e; cases e
theorem cf_atEnd {s : Bg} {t : Str} {c : Int} (h : Lev n s) (hk : k ≤ n) (gs : Good p s) {a : Str} (ha : a.length = k) : cf (atEnd k t c p s) a = cf s (a ++ t) * c % p := by
  by_cases hm : a ++ t ∈ keys s
  · obtain ⟨x, hx⟩ := mem_keys.mp hm
    rw [cf_of_mem gs.nd hx]
    refine cf_of_mem (atEnd_nodup h hk gs.nd) (List.mem_filterMap.mpr ⟨_, hx, ?_⟩)
    rw [if_pos (bk_app ha), fr_app ha]
  · rw [cf_not_mem hm, Int.zero_mul, Int.zero_emod]
    exact cf_not_mem fun z => hm (mem_atEnd h hk z).2
theorem cf_atFront {s : Bg} {f : Str} (h : Lev n s) (hk : k ≤ n) (gs : Good p s) (hf : f.length = k) (b : Str) : cf (atFront k f s) b = cf s (f ++ b) := by
  by_cases hm : f ++ b ∈ keys s
  · obtain ⟨x, hx⟩ := mem_keys.mp hm
    rw [cf_of_mem gs.nd hx]
    refine cf_of_mem (atFront_nodup h hk gs.nd) (List.mem_filterMap.mpr ⟨_, hx, ?_⟩)
    rw [if_pos (fr_app hf), bk_app hf]
  · rw [cf_not_mem hm]
    exact cf_not_mem fun z => hm (mem_atFront h hk z).2
theorem lt_app : ∀ {x y t u : List Nat}, x.length = y.length → x < y → x ++ t < y ++ u
  | [], [], _, _, _, h => absurd h (List.lt_irrefl _)
  | [], _ :: _, _, _, h, _ => nomatch h
  | _ :: _, [], _, _, h, _ => nomatch h
  | a :: x, b :: y, t, u, h, hl => by
    rw [List.cons_append, List.cons_append]
    rcases List.cons_lt_cons_iff.mp hl with q | ⟨q1, q2⟩
    · exact List.cons_lt_cons_iff.mpr (.inl q)
    · exact List.cons_lt_cons_iff.mpr (.inr ⟨q1, lt_app (Nat.succ.inj h) q2⟩)
theorem le_of_app {x y t : List Nat} (h : x.length = y.length) (hl : x ++ t ≤ y ++ t) : x ≤ y := by
  by_cases q : y < x
  · exact absurd (lt_app (t := t) (u := t) h.symm q) (List.not_lt.mpr hl)
  · exact List.not_lt.mp q
/-- the two halves of a level bag at k -/
def oneC (p : Int) (k : Nat) (s : Bg) : Bg := atEnd k (bk k (lead s)) (inv p (cf s (lead s))) p s
def otherC (k : Nat) (s : Bg) : Bg := atFront k (fr k (lead s)) s
/-- four words do not cross -/
def NoX (p : Int) (k : Nat) (s : Bg) : Prop := ∀ a b c d : Str, a.length = k → c.length = k → (cf s (a ++ b) * cf s (c ++ d) - cf s (a ++ d) * cf s (c ++ b)) % p = 0
def IsCut (p : Int) (k : Nat) (s : Bg) : Prop := ∀ w, cf (prodS p (oneC p k s) (otherC k s)) w = cf s w
section
variable {s : Bg}
theorem lead_cut (h : Lev n s) (hk : k ≤ n) : fr k (lead s) ++ bk k (lead s) = lead s ∧ (fr k (lead s)).length = k ∧ (bk k (lead s)).length = n - k := by
  have h1 := fr_bk (k := k) (w := lead s) (by rw [h.lead]; exact hk)
  rwa [h.lead] at h1
theorem lead_pos (hp : Prm p) (h : Lev n s) (gs : Good p s) : 0 < cf s (lead s) ∧ cf s (lead s) < p := ⟨cf_pos_of gs (lead_mem h.n), cf_lt (by have := hp.pos; omega) gs _⟩
theorem oneC_good (hp : Prm p) (h : Lev n s) (hk : k ≤ n) (gs : Good p s) : Good p (oneC p k s) := by
  have h0 : 0 < p := by have := hp.pos; omega
  have hl := lead_pos hp h gs
  obtain ⟨i1, i2, i3⟩ := inv_one hp hl.1 hl.2
  have hv : ∀ kv ∈ oneC p k s, ∃ u, u ∈ keys s ∧ kv.2 = cf s u * inv p (cf s (lead s)) % p := fun kv hkv => by
    obtain ⟨y, hy, e⟩ := List.mem_filterMap.mp hkv
    by_cases q : bk k y.1 = bk k (lead s)
    · rw [if_pos q] at e
      cases e
      exact ⟨y.1, List.mem_map.mpr ⟨y, hy, rfl⟩, by rw [cf_of_mem gs.nd hy]⟩
    · rw [if_neg q] at e; cases e
  refine ⟨atEnd_nodup h hk gs.nd, fun kv hkv => ?_, fun kv hkv => ?_⟩
  · obtain ⟨u, hu, e⟩ := hv kv hkv
    rw [e]
    have a1 := cf_pos_of gs hu
    have a2 := cf_lt h0 gs u
    have a3 := Int.emod_nonneg (cf s u * inv p (cf s (lead s))) (show p ≠ 0 by omega)
    have a4 : cf s u * inv p (cf s (lead s)) % p ≠ 0 := fun z => by
      have := (prm_ne hp i2 i3 (Int.le_of_lt a1) a2).mp (by rw [Int.mul_comm]; exact z)
      omega
    omega
  · obtain ⟨u, hu, e⟩ := hv kv hkv
    rw [e]
    exact Int.emod_lt_of_pos _ h0
theorem otherC_good (h : Lev n s) (hk : k ≤ n) (gs : Good p s) : Good p (otherC k s) := by
  have hv : ∀ kv ∈ otherC k s, ∃ y ∈ s, kv.2 = y.2 := fun kv hkv => by
    obtain ⟨y, hy, e⟩ := List.mem_filterMap.mp hkv
    by_cases q : fr k y.1 = fr k (lead s)
    · rw [if_pos q] at e
      cases e
      exact ⟨y, hy, rfl⟩
    · rw [if_neg q] at e; cases e
  refine ⟨atFront_nodup h hk gs.nd, fun kv hkv => ?_, fun kv hkv => ?_⟩
  · obtain ⟨y, hy, e⟩ := hv kv hkv
    rw [e]; exact gs.lo y hy
  · obtain ⟨y, hy, e⟩ := hv kv hkv
    rw [e]; exact gs.hi y hy
theorem oneC_cf (h : Lev n s) (hk : k ≤ n) (gs : Good p s) {a : Str} (ha : a.length = k) : cf (oneC p k s) a = cf s (a ++ bk k (lead s)) * inv p (cf s (lead s)) % p := cf_atEnd h hk gs ha
theorem otherC_cf (h : Lev n s) (hk : k ≤ n) (gs : Good p s) (b : Str) : cf (otherC k s) b = cf s (fr k (lead s) ++ b) := cf_atFront h hk gs (lead_cut h hk).2.1 b
theorem oneC_len (h : Lev n s) (hk : k ≤ n) : ∀ u ∈ keys (oneC p k s), u.length = k := fun u hu => (mem_atEnd h hk hu).1
theorem prodC_cf (hp : Prm p) (h : Lev n s) (hk : k ≤ n) (gs : Good p s) {a : Str} (ha : a.length = k) (b : Str) : cf (prodS p (oneC p k s) (otherC k s)) (a ++ b) = cf s (a ++ bk k (lead s)) * inv p (cf s (lead s)) % p * cf s (fr k (lead s) ++ b) % p := by
  rw [lev_prod (by have := hp.pos; omega) (oneC_good hp h hk gs).nd (otherC_good h hk gs).nd (oneC_len h hk) ha, oneC_cf h hk gs ha, otherC_cf h hk gs]
theorem cut_iff (hp : Prm p) (h : Lev n s) (hk : k ≤ n) (gs : Good p s) : IsCut p k s ↔ NoX p k s := by
  have h0 : 0 < p := by have := hp.pos; omega
  have hl := lead_pos hp h gs
  obtain ⟨i1, i2, i3⟩ := inv_one hp hl.1 hl.2
  obtain ⟨l1, l2, l3⟩ := lead_cut h hk
  constructor
  · intro hc a b c d ha hcl
    have f := fun {x y : Str} (hx : x.length = k) => (hc (x ++ y)).symm.trans (lev_prod h0 (oneC_good hp h hk gs).nd (otherC_good h hk gs).nd (oneC_len h hk) hx y)
    rw [f ha, f hcl, f ha, f hcl]
    generalize cf (oneC p k s) a = x
    generalize cf (oneC p k s) c = y
    generalize cf (otherC k s) b = z
    generalize cf (otherC k s) d = v
    rw [Int.sub_emod, ← Int.mul_emod, ← Int.mul_emod, ← Int.sub_emod, show x * z * (y * v) - x * v * (y * z) = 0 from by rw [Int.mul_assoc, Int.mul_assoc, Int.mul_left_comm z, Int.mul_left_comm v, Int.mul_comm z v]; omega, Int.zero_emod]
  · intro hx w
    by_cases hw : k ≤ w.length
    · obtain ⟨e1, e2, _⟩ := fr_bk hw
      have hh := hx (fr k w) (bk k w) (fr k (lead s)) (bk k (lead s)) e2 l2
      rw [← e1, prodC_cf hp h hk gs e2]
      rw [l1] at hh
      have hAr : 0 ≤ cf s (fr k w ++ bk k w) ∧ cf s (fr k w ++ bk k w) < p := ⟨cf_nonneg gs _, cf_lt h0 gs _⟩
      generalize cf s (fr k w ++ bk k w) = A at hh hAr ⊢
      have hA : 0 ≤ A ∧ A < p := hAr
      generalize cf s (fr k w ++ bk k (lead s)) = X at hh ⊢
      generalize cf s (fr k (lead s) ++ bk k w) = Y at hh ⊢
      generalize cf s (lead s) = c at hh i1 ⊢
      generalize inv p c = I at i1 ⊢
      have e3 : A * c % p = X * Y % p := Int.emod_eq_emod_iff_emod_sub_eq_zero.mpr hh
      rw [Int.mul_emod, Int.emod_emod, ← Int.mul_emod, Int.mul_right_comm, Int.mul_emod, ← e3, ← Int.mul_emod, Int.mul_assoc, Int.mul_comm c I, Int.mul_emod, i1, Int.mul_one, Int.emod_emod]
      exact Int.emod_eq_of_lt hA.1 hA.2
    · rw [cf_not_mem fun z => hw (lev_le h hk z), cf_not_mem fun z => ?_]
      obtain ⟨a, ha, b, _, e⟩ := keys_prod z
      have := oneC_len h hk a ha
      rw [e, len_app] at hw
      omega
/-- words that cross begin and end as words of the bag -/
theorem cross_in (h : Lev n s) {a b c d : Str} (hx : (cf s (a ++ b) * cf s (c ++ d) - cf s (a ++ d) * cf s (c ++ b)) % p ≠ 0) : (∃ x, a ++ x ∈ keys s) ∧ (∃ x, c ++ x ∈ keys s) ∧ (∃ x, x ++ b ∈ keys s ∧ (x = a ∨ x = c)) ∧ ∃ x, x ++ d ∈ keys s ∧ (x = a ∨ x = c) := by
  by_cases h1 : cf s (a ++ b) * cf s (c ++ d) = 0
  · have h2 : cf s (a ++ d) * cf s (c ++ b) ≠ 0 := fun z => hx (by rw [h1, z]; exact Int.zero_emod p)
    have h3 : a ++ d ∈ keys s := cf_key fun z => h2 (by rw [z, Int.zero_mul])
    have h4 : c ++ b ∈ keys s := cf_key fun z => h2 (by rw [z, Int.mul_zero])
    exact ⟨⟨_, h3⟩, ⟨_, h4⟩, ⟨c, h4, .inr rfl⟩, ⟨a, h3, .inl rfl⟩⟩
  · have h3 : a ++ b ∈ keys s := cf_key fun z => h1 (by rw [z, Int.zero_mul])
    have h4 : c ++ d ∈ keys s := cf_key fun z => h1 (by rw [z, Int.mul_zero])
    exact ⟨⟨_, h3⟩, ⟨_, h4⟩, ⟨a, h3, .inl rfl⟩, ⟨c, h4, .inr rfl⟩⟩
theorem lead_oneC (hp : Prm p) (h : Lev n s) (hk : k ≤ n) (gs : Good p s) : lead (oneC p k s) = fr k (lead s) ∧ oneC p k s ≠ [] ∧ cf (oneC p k s) (fr k (lead s)) = 1 := by
  have hl := lead_pos hp h gs
  obtain ⟨i1, i2, i3⟩ := inv_one hp hl.1 hl.2
  obtain ⟨l1, l2, l3⟩ := lead_cut h hk
  have g1 := oneC_good hp h hk gs
  have e1 : cf (oneC p k s) (fr k (lead s)) = 1 := by rw [oneC_cf h hk gs l2, l1, Int.mul_comm]; exact i1
  have hm : fr k (lead s) ∈ keys (oneC p k s) := cf_key (by rw [e1]; exact (fun z => nomatch z))
  refine ⟨lead_is hm (fun u hu => ?_), (fun z => by rw [z] at hm; cases hm), e1⟩
  obtain ⟨h5, h6⟩ := mem_atEnd h hk hu
  have h7 : leW (fr k (lead s) ++ bk k (lead s)) (u ++ bk k (lead s)) = true := by
    rw [l1]
    exact lead_le h6
  rw [leW_eq] at h7 ⊢
  have h8 := of_decide_eq_true h7
  refine decide_eq_true (.inr ⟨by rw [l2, h5], ?_⟩)
  rw [len_app, len_app, l2, h5] at h8
  rcases h8 with h8 | ⟨_, h8⟩
  · omega
  · rw [app_toList, app_toList] at h8
    have hlen : (fr k (lead s)).cps.toList.length = u.cps.toList.length := by rw [str_len, str_len, l2, h5]
    exact le_of_app hlen h8
end
end Fp

/-! A dict comprehension over a dict's keys that makes one pair alone. -/
namespace Fp
open PySem L2
theorem dcd_one {σ : St} {H : Hp} {Q : VK} {d : Addr} {s : Bg} {te0 tk tv : TE} {j : Nat} {vs : List Nat} (hd : Rd H d (.dK (toK s))) (hne : s ≠ []) (c : Key) (b : V)
    (he : ∀ (H' : Hp) (Q : VK), LkEx d s H H' → Q (.ref d) H' → te0 σ H' Q) (hw : ∀ x, wipe ((wipe σ vs).set j x) vs = wipe σ vs)
    (hs : ∀ (i : Nat) (w : Str) (n : Int) (H' : Hp) (Kc : V → V → Hp → Prop), s[i]? = some (w, n) → LkEx d s H H' → (∀ H5, Ex H' H5 → Kc (kV c) b H5) →
      tk ((wipe σ vs).set j (some (.str w))) H' fun y H4 => tv ((wipe σ vs).set j (some (.str w))) H4 fun z H5 => Kc y z H5)
    (hend : ∀ D H', H D = none → Ex H H' → H' D = some (.dK [(c, b)]) → Q (.ref D) H') : tLockRE (tDc (iKeys te0) (gName j) tYes tk tv vs) σ H Q := by
  refine lock_any hd fun Hl od Q' hl l0 hnone hq => ?_
  refine he Hl _ l0 ⟨d, od, rfl, .inl ⟨toK s, hl, fun D hD => ?_⟩⟩
  have hDd : D ≠ d := fun z => by subst z; rw [hl] at hD; cases hD
  refine ⟨fun i m H' => m = s.length - i ∧ i ≤ s.length ∧ Ex Hl H' ∧ H' D = some (.dK (if i = 0 then [] else [(c, b)])), ⟨s.length, by simp, Nat.zero_le _, Ex.new hD, upd_same⟩, ?_⟩
  rintro i m H2 ⟨rfl, hi, e2, hD2⟩
  have hl2 := e2 _ _ hl
  by_cases hlt : i < s.length
  · refine .inr ⟨⟨hl2, by rw [toK_len]; exact hlt⟩, fun H' => Ex Hl H' ∧ H' D = some (.dK [(c, b)]), fun H' z => ⟨s.length - (i + 1), by omega, rfl, hlt, z.1, by rw [if_neg (Nat.succ_ne_zero i)]; exact z.2⟩, ?_⟩
    rintro x H' ⟨rfl, k, v, hk, rfl⟩
    obtain ⟨w, n, hw', ekv⟩ := toK_get hk
    cases ekv
    refine ⟨hw _, ?_⟩
    unfold tYes
    dsimp only
    rw [if_pos rfl]
    refine hs i w n H' _ hw' (l0.ex e2) fun H5 e5 => ⟨_, c, rfl, e5 _ _ hD2, ?_, Ex.mut (e2.trans e5) hD, ?_⟩
    · split
      · exact (by decide : 0 < sizeLine)
      · exact (by decide : 1 < sizeLine)
    · rw [upd_same]
      split
      · rfl
      · unfold putK
        simp
  · obtain rfl : i = s.length := by omega
    rw [if_neg (by have := List.length_pos_iff.mpr hne; omega)] at hD2
    refine .inl ⟨⟨hl2, by rw [toK_len]; exact Nat.le_refl _⟩, ?_⟩
    exact hq _ H2 (fun D' z => by cases z; exact hnone _ hD) e2 fun H3 e3 hs3 ht => hend D H3 (hnone _ hD) e3 (by rw [hs3 D hDd]; exact hD2)
end Fp

/-! y = {k: v for .. in .. for .. in ..}: one rule for the loop of a clause, used for both of them. -/
namespace Fp
open PySem PySem.Spec PyProof.Rows L2
/-- what a clause does at a turn, k behind its tests -/
def turnOf (p : Pos) (it : Value) (tg : Expr) (ifs : List Expr) (env : Env) (k : Bool → Sem PySem.Fin) : Sem PySem.Fin := do
  standAt p
  match ← pyNext it with
  | none => pure (.done .next)
  | some v =>
    letOwnedTupleGo tg it v
    assign tg env v
    let ok ← forIn ifs true fun c r => if r = true then do let ok ← isTrue c env (eval c env); pure (ForInStep.yield ok) else pure (ForInStep.yield r)
    k ok
abbrev two (kx vx t0 i0 : Expr) (f0 : List Expr) (t1 i1 : Expr) (f1 : List Expr) (sc : Scope) (pos : Pos) : Expr := .DictComp kx vx [⟨t0, i0, f0, 0⟩, ⟨t1, i1, f1, 0⟩] sc pos
/-- behind the first clause's tests -/
def firstEnd (kx vx t0 i0 : Expr) (f0 : List Expr) (t1 i1 : Expr) (f1 : List Expr) (sc : Scope) (pos : Pos) (it acc : Value) (env : Env) (ok : Bool) : Sem PySem.Fin := do
  if ok then
    let x ← eval i1 env
    standAt i1.pos
    let x ← foldedSetIterable i1 env x
    let _ ← runOwn (.compStart (two kx vx t0 i0 f0 t1 i1 f1 sc pos) 1 (← holding [x] (pyIter x)) acc env) env
  again (.compLoop (two kx vx t0 i0 f0 t1 i1 f1 sc pos) 0 it acc env)
/-- behind the second one's -/
def secondEnd (kx vx t0 i0 : Expr) (f0 : List Expr) (t1 i1 : Expr) (f1 : List Expr) (sc : Scope) (pos : Pos) (it : Value) (D : Addr) (env : Env) (ok : Bool) : Sem PySem.Fin := do
  if ok then
    (do
      let kv ← eval kx env
      let vv ← holding [kv] (eval vx env)
      standAt { kx.pos with endLine := vx.pos.endLine, endCol := vx.pos.endCol }
      holding [kv, vv] (dictSet D kv vv))
  again (.compLoop (two kx vx t0 i0 f0 t1 i1 f1 sc pos) 1 it (.ref D) env)
theorem first_turn (kx vx t0 i0 : Expr) (f0 : List Expr) (t1 i1 : Expr) (f1 : List Expr) (sc : Scope) (pos : Pos) (it acc : Value) (env : Env) :
    compTurn (two kx vx t0 i0 f0 t1 i1 f1 sc pos) 0 it acc env = turnOf i0.pos it t0 f0 env (firstEnd kx vx t0 i0 f0 t1 i1 f1 sc pos it acc env) := by rfl
theorem second_turn (kx vx t0 i0 : Expr) (f0 : List Expr) (t1 i1 : Expr) (f1 : List Expr) (sc : Scope) (pos : Pos) (it : Value) (D : Addr) (env : Env) :
    compTurn (two kx vx t0 i0 f0 t1 i1 f1 sc pos) 1 it (.ref D) env = turnOf i1.pos it t1 f1 env (secondEnd kx vx t0 i0 f0 t1 i1 f1 sc pos it D env) := by rfl
section
variable {X : Cx}
/-- behind a turn: what the loop knew at its start is known again -/
def Back (X : Cx) (pins : List (Addr × Obj)) (σ0 : L2.St) (Nx : Hp → Prop) (s' : Shared) : Prop := ∃ σ H, Inv X pins σ H s' ∧ σ0.length = σ.length ∧ (∀ (j : Nat) v, σ0[j]? = some (some v) → σ[j]? = some (some v)) ∧ Nx H
theorem clause_loop {kx vx t0 i0 : Expr} {f0 : List Expr} {t1 i1 : Expr} {f1 : List Expr} {sc : Scope} {pos : Pos} {d : Nat} {it : Addr} {acc : Value} {tg : Expr} {p : Pos} {k : Bool → Sem PySem.Fin} {J : It} {fp : List Addr} {tn : Nat → Heap → Prop} {g : TG} {pins : List (Addr × Obj)} {σ0 : L2.St} {R : Result → Shared → Prop}
    (hx : ∀ v s, X.xe v s → False) (ht : compTurn (two kx vx t0 i0 f0 t1 i1 f1 sc pos) d (.ref it) acc X.env = turnOf p (.ref it) tg [] X.env k) (hc : X.calm = true) (T : Turn X.prog X.w X.K tg J fp it tn) (pg : PG X tg g)
    (hfp : ∀ {σ' : L2.St} {H' : Hp} {s' : Shared}, Inv X pins σ' H' s' → ∀ b ∈ fp, H' b = none → FpOk X pins H' b) (W : Nat → Nat → Hp → Prop)
    (turn : ∀ i m H, W i m H → (J.stop i H ∧ ∀ s', Inv X pins σ0 H s' → R (.ok .next) s') ∨ (J.go i H ∧ ∃ Nx : Hp → Prop, (∀ H', Nx H' → ∃ m', m' < m ∧ W (i + 1) m' H') ∧ ∀ x H', J.yld i H x H' → ∃ Z : L2.St → Hp → Prop, g x σ0 H' Z ∧
      ∀ σ2 H2 ps s9, Z σ2 H2 → Inv X (pins ++ ps) σ2 H2 s9 → wpAny (model X.prog X.w) X.A (k true) (fun f s' => f = .again (.compLoop (two kx vx t0 i0 f0 t1 i1 f1 sc pos) d (.ref it) acc X.env) ∧ Back X (pins ++ ps) σ0 Nx s') (notedBy (model X.prog X.w) X.A X.env fun e s' => R (.error e) s') s9))
    {m0 : Nat} {H : Hp} {s : Shared} (I : Inv X pins σ0 H s) (st : tn 0 s.heap) (hn : ∀ b ∈ fp, H b = none) (w0 : W 0 m0 H) :
    codeAny (model X.prog X.w) X.A (.compLoop (two kx vx t0 i0 f0 t1 i1 f1 sc pos) d (.ref it) acc X.env) R s := by
  refine codeAny_loop rfl (fun n s' => ∃ i H', Inv X pins σ0 H' s' ∧ tn i s'.heap ∧ (∀ b ∈ fp, H' b = none) ∧ W i n H') (fun n s5 hI => ?_) m0 ⟨0, H, I, st, hn, w0⟩
  obtain ⟨i, H5, I5, st5, n5, w5⟩ := hI
  show wpAny _ X.A ((compTurn (two kx vx t0 i0 f0 t1 i1 f1 sc pos) d (.ref it) acc X.env).onRaise (fun x => do noteFrame x X.env; theTreesLotGoes x)) _ _ s5
  refine wpAny_noted ?_
  rw [ht]
  rcases turn i n H5 w5 with ⟨stop, hr⟩ | ⟨go, Nx, hNx, step⟩
  · refine wpAny_bind (wpAny_standAt (wpAny_bind (thnF (T.done X rfl rfl rfl hc i pins s5 _ H5 (fun _ _ => False) I5 (fun b hb => hfp I5 b hb (n5 b hb)) st5 stop) fun r s6 ⟨e1, I6⟩ => ?_)))
    subst e1
    exact wpAny_pure (hr s6 I6)
  · refine wpAny_bind (wpAny_standAt (wpAny_bind (thnF (T.item X rfl rfl rfl hc i pins s5 _ H5 (fun _ _ => False) I5 (fun b hb => hfp I5 b hb (n5 b hb)) st5 go) fun r s6 ⟨u, e1, h6⟩ => ?_)))
    subst e1
    refine wpAny_bind (thnF h6 fun _ s7 ⟨x, H7, I7, r7, y7, st7, n7⟩ => ?_)
    have I7' := I7.pinned (fun b hb => hfp I7 b hb (n7 b hb)) (T.obj _ _ st7)
    obtain ⟨Z, hZ, hk⟩ := step x H7 y7
    refine wpAny_bind (wpAny_mono (pg.run _ s7 _ H7 x u _ I7' r7 hZ) (fun _ s8 ⟨σ8, H8, I8, q8⟩ => ?_) fun v s' z => (hx v s' z).elim)
    refine wpAny_bind (wpAny_tests_nil ?_)
    refine wpAny_mono (hk σ8 H8 _ s8 q8 I8) (fun f s' ⟨ef, σ3, H', I', hl, hk, nx⟩ => ?_) fun _ _ z => z
    subst ef
    obtain ⟨m', hm, w'⟩ := hNx H' nx
    have old : ∀ b ∈ fp, ∀ o, s7.heap.get? b = some o → s'.heap.get? b = some o ∧ H' b = none := fun b hb o eo =>
      let z := I'.pin (b, o) (List.mem_append_right _ (List.mem_append_right _ (mem_pinsAt hb eo)))
      ⟨z.1, z.2.1⟩
    refine ⟨rfl, m', hm, i + 1, H', I'.unpinned.weak hl hk, T.keep _ _ _ st7 fun b hb o eo => (old b hb o eo).1, fun b hb => ?_, w'⟩
    obtain ⟨o, eo, _⟩ := T.obj _ _ st7 b hb
    exact (old b hb o eo).2
/-- the second clause begins: its source is an iterator already -/
theorem second_start {kx vx t0 i0 : Expr} {f0 : List Expr} {t1 i1 : Expr} {f1 : List Expr} {sc : Scope} {pos : Pos} {it acc : Value} {env : Env} {P : Program} {w : World} {A : Around} {R : Result → Shared → Prop} {s : Shared}
    (h : codeAny (model P w) A (.compLoop (two kx vx t0 i0 f0 t1 i1 f1 sc pos) 1 it acc env) R s)
    (h2 : wpAny (model P w) A (pyIter it) (fun it' s' => codeAny (model P w) A (.compLoop (two kx vx t0 i0 f0 t1 i1 f1 sc pos) 1 it' acc env) R s') (notedBy (model P w) A env fun x s' => R (.error x) s') s) :
    codeAny (model P w) A (.compStart (two kx vx t0 i0 f0 t1 i1 f1 sc pos) 1 it acc env) R s := by
  refine codeAny_of_tree ?_
  show wpAny _ A ((compStart (two kx vx t0 i0 f0 t1 i1 f1 sc pos) 1 it acc env).onRaise (fun x => do noteFrame x env; standAt theWindowsPlace)) _ _ s
  refine wpAny_notedAt ?_
  unfold compStart
  refine wpAny_bind ?_
  refine wpAny_askSetting (wpAny_ite ?_)
  split
  · exact wpAny_pure ⟨rfl, h⟩
  · refine wpAny_bind (wpAny_rule ?_)
    refine wpAny_bind (wpAny_standAt (wpAny_bind (wpAny_mono h2 (fun it' s' h' => ?_) fun _ _ z => z)))
    exact wpAny_pure ⟨rfl, h'⟩
/-- the store at the end of the second clause -/
theorem second_end {kx vx t0 i0 : Expr} {f0 : List Expr} {t1 i1 : Expr} {f1 : List Expr} {sc : Scope} {pos : Pos} {it : Value} {D : Addr} {pins : List (Addr × Obj)} {tk tv : TE} {σ0 σ : L2.St} {H : Hp} {Nx : Hp → Prop} {s : Shared} {E : Value → Shared → Prop}
    (hx : ∀ v s, X.xe v s → False) (pk : PE X kx tk) (pv : PE X vx tv) (I : Inv X pins σ H s) (hl : σ0.length = σ.length) (hk : ∀ (j : Nat) v, σ0[j]? = some (some v) → σ[j]? = some (some v))
    (h : tk σ H fun y H5 => tv σ H5 fun z H6 => ∃ kvs q, y = kV q ∧ H6 D = some (.dK kvs) ∧ kvs.length < sizeLine ∧ Nx (upd H6 D (.dK (putK kvs q z)))) :
    wpAny (model X.prog X.w) X.A (secondEnd kx vx t0 i0 f0 t1 i1 f1 sc pos it D X.env true) (fun f s' => f = .again (.compLoop (two kx vx t0 i0 f0 t1 i1 f1 sc pos) 1 it (.ref D) X.env) ∧ Back X pins σ0 Nx s') E s := by
  unfold secondEnd
  refine wpAny_bind (wpAny_bind (wpAny_mono (pk.run pins s σ H _ I h) (fun u s1 ⟨y, H1, I1, r1, q1⟩ => ?_) fun v s' z => (hx v s' z).elim))
  refine wpAny_bind (wpAny_holding (wpAny_mono (pv.run pins s1 σ H1 _ I1 q1) (fun r s2 ⟨z, H2, I2, r2, kvs, q, ey, hD, hz, nx⟩ => ?_) fun v s' z => (hx v s' z).elim))
  subst ey
  refine wpAny_bind (wpAny_standAt (wpAny_holding (d_dictSet I2 hD hz r1 r2 fun s3 I3 => ?_)))
  exact wpAny_pure ⟨rfl, σ, _, I3, hl, hk, nx⟩
/-- the loop of both clauses -/
theorem both_loops {kx vx t0 i0 t1 i1 : Expr} {sc : Scope} {pos : Pos} {it D : Addr} {J : It} {fp : List Addr} {tn : Nat → Heap → Prop} {wi1 : TI} {g g1 : TG} {tk tv : TE} {vs vs1 : List Nat} {pins : List (Addr × Obj)} {σ : L2.St} {R : Result → Shared → Prop} {Q : Hp → Prop}
    (hx : ∀ v s, X.xe v s → False) (hc : X.calm = true) (T : Turn X.prog X.w X.K t0 J fp it tn) (pg : PG X t0 g) (pi1 : PI X t1 i1 wi1) (pg1 : PG X t1 g1) (pk : PE X kx tk) (pv : PE X vx tv) (hs1 : ∀ x, foldedSetIterable i1 X.env x = pure x) (hv : ∀ i ∈ vs1, i ∈ vs)
    (hfp : ∀ {σ' : L2.St} {H' : Hp} {s' : Shared}, Inv X pins σ' H' s' → ∀ b ∈ fp, H' b = none → FpOk X pins H' b) (W : Nat → Nat → Hp → Prop)
    (hR : ∀ H s', Q H → Inv X pins (wipe σ vs) H s' → R (.ok .next) s')
    (turn : ∀ i m H, W i m H →
      (J.stop i H ∧ Q H) ∨ (J.go i H ∧ ∃ Nx : Hp → Prop, (∀ H', Nx H' → ∃ m', m' < m ∧ W (i + 1) m' H') ∧ ∀ x H', J.yld i H x H' → g x (wipe σ vs) H' fun σ2 H2 => wipe σ2 vs = wipe σ vs ∧ wi1 σ2 H2 fun J1 H3 =>
        ∃ W1 : Nat → Nat → Hp → Prop, (∃ m, W1 0 m H3) ∧ ∀ j k H, W1 j k H → (J1.stop j H ∧ Nx H) ∨ (J1.go j H ∧ ∃ Nx1 : Hp → Prop, (∀ H', Nx1 H' → ∃ k', k' < k ∧ W1 (j + 1) k' H') ∧ ∀ x H', J1.yld j H x H' → g1 x (wipe σ2 vs1) H' fun σ3 H4 =>
          wipe σ3 vs1 = wipe σ2 vs1 ∧ tk σ3 H4 fun y H5 => tv σ3 H5 fun z H6 => ∃ kvs q, y = kV q ∧ H6 D = some (.dK kvs) ∧ kvs.length < sizeLine ∧ Nx1 (upd H6 D (.dK (putK kvs q z))))))
    {m0 : Nat} {H : Hp} {s : Shared} (I : Inv X pins (wipe σ vs) H s) (st : tn 0 s.heap) (hn : ∀ b ∈ fp, H b = none) (w0 : W 0 m0 H) :
    codeAny (model X.prog X.w) X.A (.compLoop (two kx vx t0 i0 [] t1 i1 [] sc pos) 0 (.ref it) (.ref D) X.env) R s := by
  refine clause_loop hx (first_turn kx vx t0 i0 [] t1 i1 [] sc pos _ _ _) hc T pg hfp W (fun i m H w0 => ?_) I st hn w0
  rcases turn i m H w0 with ⟨stop, q⟩ | ⟨go, Nx, hNx, step⟩
  · exact .inl ⟨stop, fun s' I' => hR H s' q I'⟩
  · refine .inr ⟨go, Nx, hNx, fun x H1 hy => ⟨_, step x H1 hy, ?_⟩⟩
    rintro σ2 H2 ps s9 ⟨hw, q2⟩ I9
    unfold firstEnd
    refine wpAny_bind (wpAny_mono (pi1.run _ s9 σ2 H2 _ I9 q2) (fun xv s10 h10 => ?_) fun v s' z => (hx v s' z).elim)
    refine wpAny_bind (wpAny_standAt (wpAny_bind (wpAny_of_eq (hs1 xv) (wpAny_bind (wpAny_holding (wpAny_mono h10 (fun itv s11 h11 => ?_) fun v s' z => (hx v s' z).elim))))))
    obtain ⟨it1, fp1, tn1, J1, H11, e1, I11, T1, st11, f11, W1, ⟨m1, w1⟩, turn1⟩ := h11
    subst e1
    have hl2 : (wipe σ vs).length = σ2.length := by rw [← hw, wipe_length]
    have hk2 : ∀ (j : Nat) v, (wipe σ vs)[j]? = some (some v) → (wipe σ2 vs1)[j]? = some (some v) := fun j v e => by
      rw [← hw] at e
      obtain ⟨e1, e2⟩ := wipe_some e
      rw [wipe_out fun z => e2 (hv j z)]
      exact e1
    have inner : codeAny (model X.prog X.w) X.A (.compLoop (two kx vx t0 i0 [] t1 i1 [] sc pos) 1 (.ref it1) (.ref D) X.env) (fun r s' => match r with | .ok _ => Back X (pins ++ ps) (wipe σ vs) Nx s' | .error _ => False) s11 := by
      refine clause_loop (σ0 := wipe σ2 vs1) hx (second_turn kx vx t0 i0 [] t1 i1 [] sc pos _ _ _) hc T1 pg1 (fun I' b hb e => ⟨e, (f11 b hb).2⟩) W1 (fun j k H w1 => ?_) (I11.weak (wipe_length _ _) fun j v e => (wipe_some e).1) st11 (fun b hb => (f11 b hb).1) w1
      rcases turn1 j k H w1 with ⟨stop1, q1⟩ | ⟨go1, Nx1, hNx1, step1⟩
      · exact .inl ⟨stop1, fun s' I' => ⟨_, _, I', hl2.trans (wipe_length σ2 vs1).symm, hk2, q1⟩⟩
      · refine .inr ⟨go1, Nx1, hNx1, fun x1 H12 hy1 => ⟨_, step1 x1 H12 hy1, ?_⟩⟩
        rintro σ3 H13 ps3 s13 ⟨hw3, q3⟩ I13
        exact second_end hx pk pv I13 (by rw [← hw3, wipe_length]) (fun j v e => by rw [← hw3] at e; exact (wipe_some e).1) q3
    refine wpAny_bind (wpAny_runOwn ?_)
    rw [Around.mark_none]
    refine codeAny_mono (second_start inner (T1.self X.A 0 _ _ _ st11 inner)) fun r s' hr => ?_
    cases r with
    | ok f => exact wpAny_pure ⟨rfl, hr⟩
    | error e => exact hr.elim
abbrev InBlk (X : Cx) (scope : Scope) (q : Cx → Prop) : Prop := ∀ (s : Shared) (H : Hp) (C : Addr) (cl : List (Str × Addr)) (fp : List Addr), q (X.blk s H scope (compEnvC scope cl C X.env) fp)
/-- the comprehension itself, whatever is done with the new dict -/
theorem dc2_core {kx vx t0 i0 t1 i1 : Expr} {scope : Scope} {own : List (Str × Nat)} {vs1 : List Nat} {pos pos' : Pos} {wi wi1 : TI} {g g1 : TG} {tk tv : TE} {use : Option (Value → Sem Unit)} {Qf : Value → Shared → Prop} {pins : List (Addr × Obj)} {s : Shared} {σ : L2.St} {H : Hp} {Q : VK}
    (hc : X.calm = true) (hN : X.N.Nodup) (I : Inv X pins σ H s) (hi : PI X t0 i0 wi) (ok : BlkOk X.N X.env.scope scope own) (hv : ∀ i ∈ vs1, i ∈ own.map (·.2))
    (hg : InBlk X scope fun Y => PG Y t0 g) (hi1 : InBlk X scope fun Y => PI Y t1 i1 wi1) (hg1 : InBlk X scope fun Y => PG Y t1 g1) (hk : InBlk X scope fun Y => PE Y kx tk) (he : InBlk X scope fun Y => PE Y vx tv)
    (hs : ∀ x, foldedSetIterable i0 X.env x = pure x) (hs1 : ∀ env x, foldedSetIterable i1 env x = pure x) (h : tDc2 wi g wi1 g1 tk tv (own.map (·.2)) vs1 σ H Q)
    (hRR : ∀ D C s' m H', Inv X pins σ H' s' → Q (.ref D) H' → s'.heap.Ns C m → FpOk X pins H' C → compPost (model X.prog X.w) X.A X.xe use Qf (.ref D) C (.ok .next) s') :
    wpAny (model X.prog X.w) X.A (comprehension (two kx vx t0 i0 [] t1 i1 [] scope pos) scope X.env pos' newDict false (eval i0 X.env) use) Qf X.xe s := by
  have hcl : ∀ y ∈ scope.names, y.2 = .free → ∃ c, X.env.cells.lookup y.1 = some c := fun y hy e => (ok.free y hy e).elim (fun k => I.ok.has _ (.inl k)) fun k => I.ok.has _ (.inr k)
  refine wpAny_comprehension_free (use := use) rfl hs (closure_ok hcl) ok.kind (fun y hy e => by rw [ok.uniq y hy, e]) (thn (hi.run pins s σ H _ I h) fun xv s1 hx => thn hx fun itv s2 h2 => ?_)
  obtain ⟨it, fp, tn, J, H2, e, I2, T, st2, f2, q⟩ := h2
  subst e
  refine wpAny_newObj_type (newEnv_comp ?_)
  obtain ⟨W, ⟨m0, w0⟩, turn⟩ := q s2.heap.objs.size (I2.hok.fresh (Nat.le_refl _))
  generalize hD : s2.heap.objs.size = D at w0 turn ⊢
  generalize hs3 : ({ s2 with heap := s2.heap.push { cls := .type "dict", data := .dict #[] } } : Shared) = s3
  have e3 : s3.heap = s2.heap.push { cls := .type "dict", data := .dict #[] } := by rw [← hs3]
  generalize hH3 : upd H2 D (.dK []) = H3 at w0
  have I3 : Inv X pins σ H3 s3 := by
    rw [← hs3, ← hH3]
    refine I2.laid (t' := s2.toks) (fun b o e => Heap.get?_push_of_some _ e) (Nat.le_of_eq hD) ?_
    rw [← hD]
    exact dk_empty s2.heap I2.big
  have f3 : ∀ b ∈ fp, FpOk X pins H3 b ∧ b < s3.heap.objs.size := fun b hb => by
    obtain ⟨o, eo, _⟩ := T.obj _ _ st2 b hb
    have lt : b < s2.heap.objs.size := Heap.lt_size eo
    refine ⟨⟨?_, (f2 b hb).2⟩, by rw [e3, Heap.size_push]; exact Nat.lt_succ_of_lt lt⟩
    rw [← hH3, upd_ne (show b ≠ D from by rw [← hD]; exact Nat.ne_of_lt lt)]
    exact (f2 b hb).1
  have I4 := block_start I3 ok hN f3
  generalize hc' : compEnvC scope (cellsFrom (s3.heap.objs.size + 1) scope.names (cloFrom X.env.cells scope.names [])) s3.heap.objs.size X.env = ce at I4
  generalize hs4 : ({ s3 with heap := pushCells (s3.heap.push { cls := .type "dict", data := .dict #[] }) scope.names } : Shared) = s4 at I4
  have all : ∀ q : Cx → Prop, InBlk X scope q → q (X.blk s3 H3 scope ce fp) := fun q z => by rw [← hc']; exact z _ _ _ _ _
  have cL : ce.locals = s3.heap.objs.size := by rw [← hc']; rfl
  have st4 : tn 0 s4.heap := T.keep _ _ _ st2 fun b _ o eo => by
    rw [← hs4]
    refine pushCells_keeps _ _ _ _ (Heap.get?_push_of_some _ ?_)
    rw [e3]
    exact Heap.get?_push_of_some _ eo
  have loop : codeAny (model X.prog X.w) X.A (.compLoop (two kx vx t0 i0 [] t1 i1 [] scope pos) 0 (.ref it) (.ref D) ce) (compPost (model X.prog X.w) X.A X.xe use Qf (.ref D) s3.heap.objs.size) s4 := by
    refine both_loops (X := X.blk s3 H3 scope ce fp) (Q := fun H => Q (.ref D) H) (fun _ _ z => z) hc T (all _ hg) (all _ hi1) (all _ hg1) (all _ hk) (all _ he) (hs1 _) hv (fun {σ' H' s'} I' b hb hn => ⟨hn, (I'.ok.exf b hb).1, I'.ok.exfs b hb, .inl hb, fun x c e => (I'.ok.exf b hb).2 x c e, fun p hp => absurd (show p ∈ ([] : List (Addr × Obj)) ++ [] from hp) (by simp)⟩) W (fun H' s' qq I6 => ?_) turn I4 st4 (fun b hb => (f3 b hb).1.1) w0
    have I7 : Inv X pins σ H' s' := I3.call' (ch := fp) I6.os I6.base I6.hok I6.bare fun b hb => ⟨(f3 b hb).1.2.2.2.1, (f3 b hb).1.2.1, (f3 b hb).1.2.2.2.2.1, (f3 b hb).1.2.2.2.2.2⟩
    have nC : H' s3.heap.objs.size = none := by rw [← cL]; exact I6.free
    obtain ⟨m, hn, _⟩ := I6.loc
    exact hRR D _ s' m H' I7 qq (by rw [← cL]; exact hn) (I3.fpOk (Nat.le_refl _) nC)
  subst hs4
  subst hc'
  exact codeAny_compStart_dict loop (T.self X.A 0 _ _ _ st4 loop)
theorem ps_setDc2 {i : Nat} {y : Str} {py : Pos} {kx vx t0 i0 t1 i1 : Expr} {scope : Scope} {own : List (Str × Nat)} {vs1 : List Nat} {pos spos : Pos} {wi wi1 : TI} {g g1 : TG} {tk tv : TE} (hc : X.calm = true) (hN : X.N.Nodup) (hy : X.N[i]? = some y) (hyl : X.env.scope.names.lookup y = some .local)
    (hsw : swapsWith (two kx vx t0 i0 [] t1 i1 [] scope pos) (some (.Name y py)) spos.line X.env = pure true) (hi : PI X t0 i0 wi) (ok : BlkOk X.N X.env.scope scope own) (hv : ∀ i ∈ vs1, i ∈ own.map (·.2))
    (hg : InBlk X scope fun Y => PG Y t0 g) (hi1 : InBlk X scope fun Y => PI Y t1 i1 wi1) (hg1 : InBlk X scope fun Y => PG Y t1 g1) (hk : InBlk X scope fun Y => PE Y kx tk) (he : InBlk X scope fun Y => PE Y vx tv)
    (hs : ∀ x, foldedSetIterable i0 X.env x = pure x := by intro _; rfl) (hs1 : ∀ env x, foldedSetIterable i1 env x = pure x := by intro _ _; rfl) :
    PS X (.Assign [.Name y py] (.DictComp kx vx [⟨t0, i0, [], 0⟩, ⟨t1, i1, [], 0⟩] scope pos) spos) (tAsg (tDc2 wi g wi1 g1 tk tv (own.map (·.2)) vs1) (gName i)) := by
  refine ⟨fun pins s σ H D I h => ?_⟩
  rw [exec_Assign_Name_used _ _ _ _ hsw]
  refine wpAny_bind (wpAny_standAt (wpAny_bind ?_))
  show wpAny _ X.A (do let _ ← comprehension (two kx vx t0 i0 [] t1 i1 [] scope pos) scope X.env (firstIterPos [⟨t0, i0, [], 0⟩, ⟨t1, i1, [], 0⟩] pos) newDict false (eval i0 X.env) (some (assign (.Name y py) X.env))) _ _ s
  have h : tDc2 wi g wi1 g1 tk tv (own.map (·.2)) vs1 σ H (fun x H1 => gName i x σ H1 D.nx) := h
  refine wpAny_bind (thn (dc2_core (Qf := fun _ s' => SP X pins D .next s') hc hN I hi ok hv hg hi1 hg1 hk he hs hs1 h fun L C s' m H' I' q hn f => ?_) fun _ s' hq => wpAny_pure (wpAny_pure hq))
  show wpAny _ _ (assign (.Name y py) X.env (.ref L)) _ _ _
  refine wpAny_assign_Name (store_ok2 (v := V.ref L) I' hN hy (.inl hyl) rfl (fun s2 I2 ⟨a, sb, ha⟩ => ?_) (.inr hyl))
  obtain ⟨f0, f1, f2, f3, f4, f5⟩ := f
  have haC : C ≠ a := by
    rcases ha with z | z
    · rw [z]; exact f1
    · exact fun e => f4 y a z e.symm
  exact ⟨m, hn.sameBut sb haC, fun h3 sb3 => ⟨_, H', I2.turned (t' := s2.toks) (fun b o hb e => (sb3.2 b hb).trans e) f0 f1 f3 f4 f5, q⟩⟩
end
end Fp

/-! y = {k: v for .. in .. if ..}: the store of a dict comprehension of one clause. -/
namespace Fp
open PySem PySem.Spec PyProof.Rows L2
variable {X : Cx}
theorem ps_setDc {i : Nat} {y : Str} {py : Pos} {kx vx t0 i0 : Expr} {f0 : List Expr} {scope : Scope} {own : List (Str × Nat)} {pos spos : Pos} {wi : TI} {g : TG} {tt : TT} {tk tv : TE} (hc : X.calm = true) (hN : X.N.Nodup) (hy : X.N[i]? = some y) (hyl : X.env.scope.names.lookup y = some .local)
    (hsw : swapsWith (.DictComp kx vx [⟨t0, i0, f0, 0⟩] scope pos) (some (.Name y py)) spos.line X.env = pure true) (hi : PI X t0 i0 wi) (ok : BlkOk X.N X.env.scope scope own)
    (hg : InBlk X scope fun Y => PG Y t0 g) (ht : InBlk X scope fun Y => PTs Y f0 tt) (hk : InBlk X scope fun Y => PE Y kx tk) (he : InBlk X scope fun Y => PE Y vx tv) (hs : ∀ x, foldedSetIterable i0 X.env x = pure x := by intro _; rfl) :
    PS X (.Assign [.Name y py] (.DictComp kx vx [⟨t0, i0, f0, 0⟩] scope pos) spos) (tAsg (tDc wi g tt tk tv (own.map (·.2))) (gName i)) := by
  refine ⟨fun pins s σ H D I h => ?_⟩
  rw [exec_Assign_Name_used _ _ _ _ hsw]
  refine wpAny_bind (wpAny_standAt (wpAny_bind ?_))
  show wpAny _ X.A (do let _ ← comprehension (.DictComp kx vx [⟨t0, i0, f0, 0⟩] scope pos) scope X.env (firstIterPos [⟨t0, i0, f0, 0⟩] pos) newDict false (eval i0 X.env) (some (assign (.Name y py) X.env))) _ _ s
  have h : tDc wi g tt tk tv (own.map (·.2)) σ H (fun x H1 => gName i x σ H1 D.nx) := h
  refine wpAny_bind (thn (dc_core (Qf := fun _ s' => SP X pins D .next s') hc hN I hi ok hg ht hk he hs h fun L C s' m H' I' q hn f => ?_) fun _ s' hq => wpAny_pure (wpAny_pure hq))
  show wpAny _ _ (assign (.Name y py) X.env (.ref L)) _ _ _
  refine wpAny_assign_Name (store_ok2 (v := V.ref L) I' hN hy (.inl hyl) rfl (fun s2 I2 ⟨a, sb, ha⟩ => ?_) (.inr hyl))
  obtain ⟨f0, f1, f2, f3, f4, f5⟩ := f
  have haC : C ≠ a := ha.elim (fun z => by rw [z]; exact f1) fun z e => f4 y a z e.symm
  exact ⟨m, hn.sameBut sb haC, fun h3 sb3 => ⟨_, H', I2.turned (t' := s2.toks) (fun b o hb e => (sb3.2 b hb).trans e) f0 f1 f3 f4 f5, q⟩⟩
end Fp

/-! A loop over a dict's keys that may return a plain value from within. -/
namespace Fp
open PySem L2
theorem for_keysR {σ : St} {H : Hp} {D : Ends} {d : Addr} {s : Bg} {te : TE} {j : Nat} {tb : TS} (hd : Rd H d (.dK (toK s)))
    (he : ∀ (H' : Hp) (Q : VK), LkEx d s H H' → Q (.ref d) H' → te σ H' Q)
    (I : Nat → St → Hp → Prop) (h0 : I 0 σ H) (hI : ∀ i σ H H', (∀ a o, a ≠ d → H a = some o → H' a = some o) → I i σ H → I i σ H')
    (hs : ∀ i w n σ' H' (E : Ends), s[i]? = some (w, n) → I i σ' H' → LkEx d s H H' → (∀ σ'' H'', I (i + 1) σ'' H'' → Ex H' H'' → E.nx σ'' H'') → (∀ σ'' H'', I (i + 1) σ'' H'' → Ex H' H'' → E.ct σ'' H'') →
      (∀ v H'', Ex H' H'' → (∀ H3, Ex H H3 → D.rt v H3) → E.rt v H'') → tb E (σ'.set j (some (.str w))) H')
    (hend : ∀ σ' H', I s.length σ' H' → Ex H H' → D.nx σ' H') : tLockR (tFor (iKeys te) (gName j) tb) D σ H := by
  have core : ∀ (Hl : Hp) (od : Obj) (E : Ends), Hl d = some (.frz od (.dK (toK s))) → LkEx d s H Hl → I 0 σ Hl → (∀ σ' H', I s.length σ' H' → Ex Hl H' → E.nx σ' H') →
      (∀ v H', Ex Hl H' → (∀ H3, Ex H H3 → D.rt v H3) → E.rt v H') → tFor (iKeys te) (gName j) tb E σ Hl := by
    intro Hl od E hl l0 hI0 hE hR
    refine he Hl _ l0 ⟨d, od, rfl, .inl ⟨toK s, hl, ?_⟩⟩
    refine for_it walk_keys (fun i σ' H' => I i σ' H' ∧ Ex Hl H') ⟨hI0, Ex.refl _⟩ (fun i σ' H' _ p => p.2 _ _ hl) ?_ (fun σ' H' p => ?_)
    · rintro i x σ' H' H1 hi ⟨hi1, e⟩ ⟨rfl, k, v, hk, rfl⟩
      obtain ⟨w, n, hw, ekv⟩ := toK_get hk
      cases ekv
      exact hs i w n σ' H1 _ hw hi1 (l0.ex e) (fun σ'' H'' i2 e2 => ⟨i2, e.trans e2⟩) (fun σ'' H'' i2 e2 => ⟨i2, e.trans e2⟩) fun v H'' e2 q => hR v H'' (e.trans e2) q
    · obtain ⟨hi1, e⟩ := p
      rw [toK_len] at hi1
      exact hE σ' H' hi1 e
  rcases hd with hd | ⟨od, hd⟩
  · have back : ∀ (od : Obj) (H' : Hp), Ex (upd H d (.frz od (.dK (toK s)))) H' → Ex H (upd H' d (.dK (toK s))) := fun od H' e a o q => by
      by_cases ha : a = d
      · subst ha
        rw [hd] at q
        cases q
        exact upd_same
      · rw [upd_ne ha]
        exact e a o (by rw [upd_ne ha]; exact q)
    refine .inl ⟨d, _, hd, trivial, fun od => ?_⟩
    refine core _ od _ upd_same ⟨fun a o ha q => by rw [upd_ne ha]; exact q, .inr ⟨od, upd_same⟩⟩ (hI _ _ _ _ (fun a o ha q => by rw [upd_ne ha]; exact q) h0) (fun σ' H' hi1 e => ?_) fun v H' e q => ⟨e _ _ upd_same, q _ (back od H' e)⟩
    exact ⟨e _ _ upd_same, hend σ' _ (hI _ _ _ _ (fun a o ha q => by rw [upd_ne ha]; exact q) hi1) (back od H' e)⟩
  · exact .inr (core H od D hd ⟨fun a o _ h => h, .inr ⟨od, hd⟩⟩ h0 hend fun v H' e q => q H' e)
/-- a comprehension over a locked dict, stored -/
theorem lock_asg {te : TE} {i : Nat} {D : Ends} {σ : St} {H : Hp} (h : tLockRE te σ H fun x H1 => D.nx (σ.set i (some x)) H1) : tLockR (tAsg te (gName i)) D σ H := h.elim (fun q => .inl q) fun q => .inr q
end Fp

namespace Fp
open PySem L2
theorem g_gcons {t : TG} {u : TGs} {v : V} {r : List V} {σ : St} {H : Hp} {Q : St → Hp → Prop} (h : t v σ H fun σ' H' => u r σ' H' Q) : gCons t u (v :: r) σ H Q := ⟨v, r, rfl, h⟩
theorem g_gnil {σ : St} {H : Hp} {Q : St → Hp → Prop} (h : Q σ H) : gNil [] σ H Q := ⟨rfl, h⟩
theorem g_gtup {K : PySem.W.Frag} {n : Nat} {t : TGs} {a : Addr} {xs : List V} {σ : St} {H : Hp} {Q : St → Hp → Prop} (ht : SqT K H a xs) (hn : xs.length = n) (h : t xs σ H Q) : gTup K n t (.ref a) σ H Q := ⟨a, xs, rfl, ht, hn, h⟩
theorem g_zip {K : PySem.W.Frag} {i j : Nat} {σ : St} {H : Hp} {a b : Addr} {xs ys : List V} {R : It → Hp → Prop} (hi : σ[i]? = some (some (.ref a))) (hj : σ[j]? = some (some (.ref b))) (h1 : SqL K H a xs) (h2 : SqL K H b ys) (h : R (Itz K a b) H) : iZip K (tCons (tVar i) (tCons (tVar j) tNil)) σ H R := ⟨_, hi, _, hj, a, b, xs, ys, rfl, h1, h2, h⟩
end Fp

/-! == and != of dicts of words, whatever the order, both answers. -/
namespace Fp
open PySem L2
theorem rel_none {o : Option Value} (h : RelO (none : Option V) o) : o = none := by
  cases o with
  | none => rfl
  | some y => exact absurd h (by intro z; exact z)
theorem hitsS {A : Around} {s : Shared} {t : Bg} {vb : List (Key × Value)} (rb : KV (toK t) vb) : ∀ {r : Bg} {va : List (Key × Value)}, KV (toK r) va →
    ∃ b, PySem.W.KeqHits A s vb va b ∧ (b = true ↔ ∀ q ∈ r, getS t q.1 = some q.2)
  | [], va, ra => by
    have e : va = [] := by
      have := ra.length
      exact List.length_eq_zero_iff.mp this.symm
    subst e
    exact ⟨true, .nil, fun _ q hq => (nomatch hq), fun _ => rfl⟩
  | q :: r, va, ra => by
    cases va with
    | nil => exact absurd ra.length (by rw [toK_len]; exact Nat.succ_ne_zero _)
    | cons kv va =>
      obtain ⟨k, v⟩ := kv
      have ra' := ra
      unfold KV at ra'
      rw [toK_cons] at ra'
      cases ra' with
      | cons h tl =>
        obtain ⟨h1, h2⟩ := h
        obtain ⟨b, hb, hbi⟩ := hitsS rb (r := r) (va := va) tl
        have h1' : (Sum.inr q.1 : Key) = k := h1
        have rv := rb.val k
        rw [← h1', valV_toK] at rv
        obtain ⟨tk, h2'⟩ : ∃ tk, v = .int q.2 tk := h2
        cases hg : getS t q.1 with
        | none =>
          rw [hg] at rv
          refine ⟨false, .miss (by rw [← h1']; exact rel_none rv), (nomatch ·), fun h9 => ?_⟩
          have := h9 q List.mem_cons_self
          rw [hg] at this
          cases this
        | some n =>
          rw [hg] at rv
          obtain ⟨y, hy, ry⟩ := RelO.some_of rv
          obtain ⟨tn, hy'⟩ : ∃ tn, y = .int n tn := ry
          subst h2' hy'
          obtain ⟨e, he, hei⟩ := HT.eqAt_int A s q.2 tk n tn
          refine ⟨e && b, .hit (by rw [← h1']; exact hy) he hb, ?_⟩
          rw [Bool.and_eq_true, hei, hbi]
          constructor
          · rintro ⟨rfl, h9⟩ z hz
            rcases List.mem_cons.mp hz with rfl | hz
            · exact hg
            · exact h9 z hz
          · intro h9
            exact ⟨(Option.some.inj (hg.symm.trans (h9 q List.mem_cons_self))).symm, fun z hz => h9 z (List.mem_cons_of_mem _ hz)⟩
theorem same_dict {s t : Bg} (hs : (keys s).Nodup) (ht : (keys t).Nodup) : (s.length = t.length ∧ ∀ q ∈ s, getS t q.1 = some q.2) ↔ ∀ w, cf s w = cf t w ∧ (w ∈ keys s ↔ w ∈ keys t) := by
  have key : (∀ w, getS s w = getS t w) ↔ ∀ w, cf s w = cf t w ∧ (w ∈ keys s ↔ w ∈ keys t) := by
    constructor
    · intro h w
      refine ⟨by unfold cf; rw [h], ?_⟩
      rw [← Decidable.not_iff_not, ← getS_none, ← getS_none, h]
    · intro h w
      obtain ⟨h1, h2⟩ := h w
      unfold cf at h1
      by_cases hw : w ∈ keys s
      · obtain ⟨n, hn⟩ := mem_keys.mp hw
        obtain ⟨m, hm⟩ := mem_keys.mp (h2.mp hw)
        rw [getS_of_mem hs hn, getS_of_mem ht hm] at h1 ⊢
        exact congrArg some h1
      · rw [getS_none.mpr hw, getS_none.mpr fun z => hw (h2.mpr z)]
  rw [← key]
  constructor
  · rintro ⟨hl, h⟩ w
    have sub : ∀ u ∈ keys s, u ∈ keys t := fun u hu => by
      obtain ⟨n, hn⟩ := mem_keys.mp hu
      exact mem_keys.mpr ⟨n, getS_mem (h _ hn)⟩
    have sup : ∀ u ∈ keys t, u ∈ keys s := fun u hu => by
      false_or_by_contra
      rename_i h9
      have := len_sub (l := u :: keys s) (m := keys t) (List.nodup_cons.mpr ⟨h9, hs⟩) fun x hx => by
        rcases List.mem_cons.mp hx with rfl | hx
        · exact hu
        · exact sub _ hx
      unfold keys at this
      rw [List.length_cons, List.length_map, List.length_map] at this
      omega
    by_cases hw : w ∈ keys s
    · obtain ⟨n, hn⟩ := mem_keys.mp hw
      rw [getS_of_mem hs hn]
      exact (h _ hn).symm
    · rw [getS_none.mpr hw, getS_none.mpr fun z => hw (sup _ z)]
  · intro h
    have hp : (keys s).Perm (keys t) := (List.perm_ext_iff_of_nodup hs ht).mpr fun w => by
      rw [← Decidable.not_iff_not, ← getS_none, ← getS_none, h]
    refine ⟨by have := hp.length_eq; unfold keys at this; rwa [List.length_map, List.length_map] at this, fun q hq => ?_⟩
    rw [← h]
    exact getS_of_mem hs hq
theorem same_good {p : Int} {s t : Bg} (gs : Good p s) (gt : Good p t) : (s.length = t.length ∧ ∀ q ∈ s, getS t q.1 = some q.2) ↔ ∀ w, cf s w = cf t w := by
  rw [same_dict gs.nd gt.nd]
  exact ⟨fun h w => (h w).1, fun h w => ⟨h w, by rw [cf_ne gs, cf_ne gt, h]⟩⟩
def rEqDS (neg : Bool) : R2 := fun x y H Q => ∃ a b s t, x = .ref a ∧ y = .ref b ∧ H a = some (.dK (toK s)) ∧ H b = some (.dK (toK t)) ∧ ∀ f : Bool, (f = true ↔ s.length = t.length ∧ ∀ q ∈ s, getS t q.1 = some q.2) → Q (.bl (if neg = true then !f else f)) H
theorem op_eqDS {X : Cx} (hu : X.A.units < cLine) : OpR X (compareOp .Eq) (rEqDS false) := by
  intro pins s σ H x y v u Q I rx ry h
  obtain ⟨a, b, s1, t1, rfl, rfl, ea, eb, q⟩ := h
  obtain rfl : v = Value.ref a := rx
  obtain rfl : u = Value.ref b := ry
  obtain ⟨_, ya, va, ra, da⟩ := (show ObjOk X.prog X.w H s.heap a (.dK (toK s1)) from I.hok a _ ea)
  obtain ⟨_, yb, vb, rb, db⟩ := (show ObjOk X.prog X.w H s.heap b (.dK (toK t1)) from I.hok b _ eb)
  obtain ⟨f, hf, hfi⟩ := hitsS (A := X.A.in1) (s := s) rb (r := s1) ra
  refine PySem.W.keq_eq (knd := mixKind X.prog X.w) (r := f) ya yb da db hu (fun _ => hf) ⟨.bl (va.length == vb.length && f), H, I, rfl, ?_⟩
  have := q (va.length == vb.length && f) (by
    rw [Bool.and_eq_true, hfi, beq_iff_eq, ← ra.length, ← rb.length, toK_len, toK_len])
  rwa [if_neg Bool.false_ne_true] at this
theorem op_neDS {X : Cx} (hu : X.A.units < cLine) : OpR X (compareOp .NotEq) (rEqDS true) := by
  intro pins s σ H x y v u Q I rx ry h
  obtain ⟨a, b, s1, t1, rfl, rfl, ea, eb, q⟩ := h
  obtain rfl : v = Value.ref a := rx
  obtain rfl : u = Value.ref b := ry
  obtain ⟨_, ya, va, ra, da⟩ := (show ObjOk X.prog X.w H s.heap a (.dK (toK s1)) from I.hok a _ ea)
  obtain ⟨_, yb, vb, rb, db⟩ := (show ObjOk X.prog X.w H s.heap b (.dK (toK t1)) from I.hok b _ eb)
  obtain ⟨f, hf, hfi⟩ := hitsS (A := X.A.in1) (s := s) rb (r := s1) ra
  refine PySem.W.keq_ne (knd := mixKind X.prog X.w) (r := f) ya yb da db hu (fun _ => hf) ⟨.bl (!(va.length == vb.length && f)), H, I, rfl, ?_⟩
  have := q (va.length == vb.length && f) (by
    rw [Bool.and_eq_true, hfi, beq_iff_eq, ← ra.length, ← rb.length, toK_len, toK_len])
  rwa [if_pos rfl] at this
end Fp

namespace Fp
open PySem L2
section
variable {P : Program} {w : World} {K : PySem.W.Frag} {mg : Str → Option Value} {base : Heap} {C_Bag : Addr} {Cs : Addr → Prop}
local macro_rules | `(tactic| walk_at "hp") => `(tactic| first | assumption | rfl)
local macro_rules | `(tactic| walk_at "cond") => `(tactic| first | assumption | decide | omega | (unfold CMul; omega) | (refine ⟨?_, ?_⟩ <;> omega) | (unfold CDiv; omega) | (unfold CPow; omega))
local macro_rules | `(tactic| walk_at "g1") => `(tactic| first
  | with_reducible first
    | refine g_seq ?_ | refine g_asg ?_ | refine g_name ?_ | refine g_ret ?_ | refine g_retN ?_ | refine g_drop ?_ | refine g_ifs ?_
    | refine g_c ?_ | refine g_op ?_ | refine g_un ?_ | refine g_I0 ?_ | refine g_U ?_
    | refine g_test ?_ | refine g_tB ?_ | refine g_bl ?_ | refine g_and ?_ | refine g_or ?_ | refine g_not ?_
    | refine g_andV ?_ | refine g_orV ?_ | refine g_notV ?_ | refine g_if ?_ | refine g_nil ?_ | refine g_cons ?_ | refine g_cb ?_ | refine g_call ?_
    | refine g_lst ?_ | refine g_tup ?_ | refine g_itT ?_ | refine g_itF ?_ | refine g_itNT ?_ | refine g_itNF ?_ | refine g_lc ?_ | refine g_iStr ?_ | refine g_yes ?_ | refine g_exs ?_
    | refine g_chain ?_ | refine g_dget ?_ | refine g_dput ?_ | refine g_dget2 ?_ | refine g_dpop2 ?_ | refine g_fld ?_ | refine g_sfld ?_ | refine g_make ?_ | refine g_meth ?_
    | refine g_bm ?_ | refine g_kw ?_ | refine g_callS ?_ | refine g_revL ?_ | refine g_m1 ?_ | refine g_gsub ?_ | refine g_for ?_ | refine g_iList ?_ | refine g_iTup ?_ | refine g_iRng1 ?_ | refine g_iRng2 ?_ | refine g_sl ?_ | refine g_part ?_ | refine g_noPart ?_
    | refine g_exi ?_ | refine g_exr ?_ | refine g_dnew ?_ | refine g_disp ?_ | refine g_prs0 ?_ | refine g_prs ?_ | refine g_nxt ?_
  | ((with_reducible refine g_var (v := ?vv) ?gv ?_); (case gv => exact rfl))
  | ((with_reducible refine g_I ?gc ?_); (case gc => walk_at "cond"))
  | ((with_reducible refine g_eq ?ge ?_); (case ge => exact rfl))
  | ((with_reducible refine g_ne ?ge ?_); (case ge => exact rfl))
  | (refine g_ixl (SqL.of (by first | assumption | exact upd_same)) rfl ?_)
  | (refine g_setl (by first | assumption | exact upd_same) rfl ?_)
  | ((with_reducible show (∃ i, [V.int _] = [V.int i] ∧ _) ∨ _); refine Or.inl ⟨_, rfl, ?_⟩)
  | ((with_reducible show ∃ i, [V.int _] = [V.int i] ∧ _); refine ⟨_, rfl, ?_⟩)
  | dsimp only)
local macro_rules | `(tactic| walk_at "go") => `(tactic| repeat (walk_at "g1"))

local macro_rules | `(tactic| walk_at "g1") => `(tactic| with_reducible first | refine g_gcons ?_ | refine g_gnil ?_)

/-! ### cuts -/
def sp_is_level : Sp := fun vs H Q _ => ∃ (d : Addr) (s : Bg) (n : Nat), vs = [.ref d] ∧ H d = some (.dK (toK s)) ∧ Lev n s ∧ n ≤ 1000 ∧ ∀ H', Ex H H' → Q (.bl true) H'
theorem ok_is_level {f : Addr} {fd : FuncData} (F : Fun K "is_level" "is_level" s_is_level f fd) (T : Txt K mg C_Bag Cs) : FnOk P w K mg base CX0 1 f fd ["sparse"] sp_is_level := by
  refine F.ok sc_is_level (fun vs H Q E h => ?_) (fun cdv A outer s H vs Q E hr h => ?_)
  · obtain ⟨d, s, n, rfl, _⟩ := h
    rfl
  · obtain ⟨d, s, n, rfl, hd, hl, hn, k⟩ := h
    have hu := hu_of hr; have hu64 := L2.Room.units hr; refine ⟨_, (pss_one (ps_ret (pe_and (pe_cmpR op_gt (pe_callB call_lenD (by rfl) T.b_len (by decide +kernel) (pa_cons (pv 0) pa_nil)) pe_int (nomark _)) (pe_one (pe_cmpR op_eq (pe_callB call_lenD (by rfl) T.b_len (by decide +kernel) (pa_cons (pe_lockR (pe_dc (own := [("word", 1)]) (g := (gName 1)) (tt := tYes) rfl sc_is_level.nd (pi_keys (pv 0)) (blkOk_by (N := N_is_level) (sc := defScope s_is_level) (by decide +kernel)) (fun _ _ _ _ _ => (pg_name (i := 1) sc_is_level.nd rfl (by first | exact Or.inl rfl | exact Or.inr rfl))) (fun _ _ _ _ _ => pts_nil) (fun _ _ _ _ _ => (pe_callB call_len_str (by rfl) T.b_len (by decide +kernel) (pa_cons (pv 1) pa_nil))) (fun _ _ _ _ _ => pe_bl))) pa_nil)) pe_int (nomark _)))))), ?_⟩; rw [st_is_level]; (try dsimp only [cxOf]); walk_at "go"
    refine ⟨d, _, rfl, hd, ?_⟩
    walk_at "go"
    rw [toK_len, decide_eq_true (by have := List.length_pos_iff.mpr hl.n; omega : (0 : Int) < (s.length : Int))]
    walk_at "go"
    refine dcd_one (.inl hd) hl.n (Sum.inl (n : Int)) (.bl true) (fun H' Q' _ q => ⟨_, rfl, q⟩) (fun _ => rfl) ?_ ?_
    · intro i w n9 H' Kc hi lk hk
      have hw := hl.l w (mem_keys.mpr ⟨n9, List.mem_of_getElem? hi⟩)
      walk_at "go"
      refine ⟨w, rfl, line5 (by omega), ?_⟩
      rw [hw]
      walk_at "go"
      exact hk _ (Ex.refl _)
    · intro D H' hD e hDd
      walk_at "go"
      refine ⟨D, _, rfl, hDd, ?_⟩
      walk_at "go"
      exact k H' e
def sp_check_cut (Cs : Addr → Prop) : Sp := fun vs H Q _ => ∃ (b : Addr) (p : Int) (s : Bg) (k n : Nat), vs = [.ref b, .int k] ∧ BagAt Cs H b p s ∧ Lev n s ∧ n ≤ 1000 ∧ k ≤ n ∧ s.length ≤ 1000 ∧ ∀ H', Ex H H' → Q .non H'
theorem ok_check_cut {f : Addr} {fd : FuncData} (F : Fun K "check_cut" "check_cut" s_check_cut f fd) (T : Txt K mg C_Bag Cs) (D_is_level : DefOk P w K mg base CX0 1 "is_level" ["sparse"] sp_is_level) (D_size : DefOk P w K mg base CX0 1 "size" ["sparse"] sp_size)
    (D_check_number : DefOk P w K mg base CX0 3 "check_number" ["thing", "least", "most"] sp_check_number) : FnOk P w K mg base CX0 4 f fd ["bag", "number"] (sp_check_cut Cs) := by
  refine F.ok sc_check_cut (fun vs H Q E h => ?_) (fun cdv A outer s H vs Q E hr h => ?_)
  · obtain ⟨b, p, s, k, n, rfl, _⟩ := h
    rfl
  · obtain ⟨b, p, s, k9, n, rfl, hb, hl, hn, hk, hz, k⟩ := h
    obtain ⟨C, dx, d, k1, t1, hc, h1, hd, _⟩ := hb.ex
    have hu := hu_of hr; have hu64 := L2.Room.units hr; refine ⟨_, (pss_cons (ps_if (pt_not (pt_val (pe_callD D_is_level (hr.mono (by decide)) rfl pass0 (pa_cons (pe_fldK (K := K) rfl (pv 0) rfl) pa_nil)))) (pss_one ps_never) pss_nil) (pss_one (ps_expr (pe_callD D_check_number (hr.mono (by decide)) rfl pass0 (pa_cons (pv 1) (pa_cons pe_int (pa_cons (pe_callD D_size (hr.mono (by decide)) rfl pass0 (pa_cons (pe_fldK (K := K) rfl (pv 0) rfl) pa_nil)) pa_nil))))))), ?_⟩; rw [st_check_cut]; (try dsimp only [cxOf]); walk_at "go"
    refine ⟨b, C, dx, _, _, rfl, h1, T.cls C hc, T.n_sparse C hc, bagF_sparse _ _ _ _, ?_⟩
    walk_at "go"
    refine ⟨d, s, n, rfl, hd, hl, hn, fun H1 e1 => ?_⟩
    walk_at "go"
    refine ⟨b, C, dx, _, _, rfl, e1 _ _ h1, T.cls C hc, T.n_sparse C hc, bagF_sparse _ _ _ _, ?_⟩
    walk_at "go"
    refine ⟨d, s, rfl, .inl (e1 _ _ hd), by omega, fun u hu => by rw [hl.l u hu]; omega, fun H2 e2 => ?_⟩
    walk_at "go"
    rw [lev_size hl]
    refine ⟨(k9 : Int), 0, (n : Int), rfl, by omega, by omega, ?_⟩
    walk_at "go"
    exact k H2 (e1.trans e2)
def sp_cut_of : Sp := fun vs H Q _ => ∃ (d : Addr) (p : Int) (s : Bg) (k n : Nat), vs = [.int p, .ref d, .int k] ∧ H d = some (.dK (toK s)) ∧ Prm p ∧ Good p s ∧ Lev n s ∧ n ≤ 1000 ∧ k ≤ n ∧ s.length ≤ 1000 ∧ (∀ H', Ex H H' → ¬ IsCut p k s → Q .non H') ∧
  ∀ t d1 d2 H', Ex H H' → IsCut p k s → H' t = some (.tup [.ref d1, .ref d2]) → H' d1 = some (.dK (toK (oneC p k s))) → H' d2 = some (.dK (toK (otherC k s))) → Q (.ref t) H'
theorem ok_cut_of {f : Addr} {fd : FuncData} (F : Fun K "cut_of" "cut_of" s_cut_of f fd) (T : Txt K mg C_Bag Cs) (D_first_word : DefOk P w K mg base CX0 4 "first_word" ["sparse"] sp_first_word) (D_inverse : DefOk P w K mg base CX0 1 "inverse" ["clock", "number"] sp_inverse)
    (D_product : DefOk P w K mg base CX0 2 "product" ["clock", "one", "other"] sp_law_product) : FnOk P w K mg base CX0 5 f fd ["clock", "sparse", "letters"] sp_cut_of := by
  refine F.ok sc_cut_of (fun vs H Q E h => ?_) (fun cdv A outer s H vs Q E hr h => ?_)
  · obtain ⟨d, p, s, k, n, rfl, _⟩ := h
    rfl
  · obtain ⟨d, p, s, k9, n, rfl, hd, hp, gs, hl, hn, hk, hz, kn, ky⟩ := h
    have hp1 := hp.pos
    have hp0 : 0 < p := by omega
    have hp7 : p ≤ 7 := by rcases hp with rfl | rfl | rfl | rfl <;> decide
    have hlw : ∀ u ∈ keys s, u.length ≤ 1000 := fun u hu => by rw [hl.l u hu]; exact hn
    have hu := hu_of hr; have hu64 := L2.Room.units hr; refine ⟨_, (pss_cons (ps_set (i := 3) sc_cut_of.nd rfl (by first | exact Or.inl rfl | exact Or.inr rfl) (pe_callD D_first_word (hr.mono (by decide)) rfl pass0 (pa_cons (pv 1) pa_nil))) (pss_cons (ps_asg (pe_tup (pa_cons (pe_slice sl_str (pv 3) po_none (po_some (pv 2))) (pa_cons (pe_slice sl_str (pv 3) (po_some (pv 2)) po_none) pa_nil))) (pg_tup rfl (pgs_cons (pg_name (i := 4) sc_cut_of.nd rfl (by first | exact Or.inl rfl | exact Or.inr rfl)) (pgs_cons (pg_name (i := 5) sc_cut_of.nd rfl (by first | exact Or.inl rfl | exact Or.inr rfl)) pgs_nil)))) (pss_cons (ps_set (i := 6) sc_cut_of.nd rfl (by first | exact Or.inl rfl | exact Or.inr rfl) (pe_callD D_inverse (hr.mono (by decide)) rfl pass0 (pa_cons (pv 0) (pa_cons (pe_dget hu (pv 1) (pv 3) (fun _ _ => rfl)) pa_nil)))) (pss_cons (ps_lockR (ps_setDc (i := 7) (own := [("word", 8)]) (g := (gName 8)) rfl sc_cut_of.nd rfl rfl rfl (pi_keys (pv 1)) (blkOk_by (N := N_cut_of) (sc := defScope s_cut_of) (by decide +kernel)) (fun _ _ _ _ _ => (pg_name (i := 8) sc_cut_of.nd rfl (by first | exact Or.inl rfl | exact Or.inr rfl))) (fun _ _ _ _ _ => (pts_one (pt_cmpR op_eq (pe_slice sl_str (pv 8) (po_some (pv 2)) po_none) (pv 5) (nomark _)))) (fun _ _ _ _ _ => (pe_slice sl_str (pv 8) po_none (po_some (pv 2)))) (fun _ _ _ _ _ => (pe_op op_mod (pe_callTy call_int1 (by rfl) T.b_int (by decide +kernel) (pa_cons (pe_op op_mul (pe_dget hu (pv 1) (pv 8) (fun _ _ => rfl)) (pv 6)) pa_nil)) (pv 0))))) (pss_cons (ps_lockR (ps_setDc (i := 9) (own := [("word", 8)]) (g := (gName 8)) rfl sc_cut_of.nd rfl rfl rfl (pi_keys (pv 1)) (blkOk_by (N := N_cut_of) (sc := defScope s_cut_of) (by decide +kernel)) (fun _ _ _ _ _ => (pg_name (i := 8) sc_cut_of.nd rfl (by first | exact Or.inl rfl | exact Or.inr rfl))) (fun _ _ _ _ _ => (pts_one (pt_cmpR op_eq (pe_slice sl_str (pv 8) po_none (po_some (pv 2))) (pv 4) (nomark _)))) (fun _ _ _ _ _ => (pe_slice sl_str (pv 8) (po_some (pv 2)) po_none)) (fun _ _ _ _ _ => (pe_dget hu (pv 1) (pv 8) (fun _ _ => rfl))))) (pss_cons (ps_if (pt_cmpR (r := rEqDS true) (op_neDS (L2.Room.units0 hr)) (pe_callD D_product (hr.mono (by decide)) rfl pass0 (pa_cons (pv 0) (pa_cons (pv 7) (pa_cons (pv 9) pa_nil)))) (pv 1) (nomark _)) (pss_one (ps_ret pe_non)) pss_nil) (pss_one (ps_ret (pe_tup (pa_cons (pv 7) (pa_cons (pv 9) pa_nil))))))))))), ?_⟩; rw [st_cut_of]; (try dsimp only [cxOf]); walk_at "go"
    refine ⟨d, s, rfl, hd, hl.n, fun u hu => Nat.le_trans (hlw u hu) (by decide), ?_⟩
    walk_at "go"
    have hl0 := hlw _ (lead_mem hl.n)
    have hlp := lead_pos hp hl gs
    refine ⟨lead s, rfl, line5 (by omega), ?_⟩
    walk_at "go"
    refine ⟨lead s, rfl, line5 (by omega), ?_⟩
    walk_at "go"
    refine ⟨Nat.le_of_ble_eq_true rfl, fun q hq => ?_⟩
    refine ⟨q, _, rfl, SqT.of upd_same, rfl, ?_⟩
    have e1 := Ex.new (o := .tup [V.str (cutS (lead s) none (some (k9 : Int))), V.str (cutS (lead s) (some (k9 : Int)) none)]) hq
    generalize upd H q (.tup [V.str (cutS (lead s) none (some (k9 : Int))), V.str (cutS (lead s) (some (k9 : Int)) none)]) = H1 at e1 ⊢
    have hd1 := e1 _ _ hd
    change ∀ w, _ at hlw
    rw [show cutS (lead s) none (some (k9 : Int)) = fr k9 (lead s) from rfl, show cutS (lead s) (some (k9 : Int)) none = bk k9 (lead s) from rfl]
    refine g_gcons (g_name (g_gcons (g_name (g_gnil ?_))))
    walk_at "go"
    refine g_dg (.inl hd1) (getS_cf (lead_mem hl.n)) ?_
    walk_at "go"
    refine ⟨p, cf s (lead s), rfl, by omega, by omega, ?_⟩
    walk_at "go"
    refine lock_asg (dcd_rel (.inl hd1) (Nat.lt_of_le_of_lt hz (by decide)) (fun H' Q' _ q => ⟨_, rfl, q⟩) (fun kv => if bk k9 kv.1 = bk k9 (lead s) then some (fr k9 kv.1, kv.2 * inv p (cf s (lead s)) % p) else none) (atEnd_nodup hl hk gs.nd) (fun _ => rfl) ?_ ?_)
    · intro i w n9 H' Kc N hi lk hK hN
      have hwm : w ∈ keys s := mem_keys.mpr ⟨n9, List.mem_of_getElem? hi⟩
      have hw := hlw w hwm
      have hn0 := gs.lo _ (List.mem_of_getElem? hi)
      have hn1 := gs.hi _ (List.mem_of_getElem? hi)
      dsimp only at hn0 hn1
      walk_at "go"
      refine ⟨w, rfl, line5 (by omega), ?_⟩
      walk_at "go"
      by_cases hb : bk k9 w = bk k9 (lead s)
      · rw [decide_eq_true (show V.str (cutS w (some (k9 : Int)) none) = V.str (bk k9 (lead s)) from congrArg V.str hb)]
        walk_at "go"
        refine ⟨w, rfl, line5 (by omega), ?_⟩
        walk_at "go"
        refine g_dg lk.self (getS_of_mem gs.nd (List.mem_of_getElem? hi)) ?_
        walk_at "go"
        exact hK _ _ _ (if_pos hb) (Ex.refl _)
      · rw [decide_eq_false (show ¬ V.str (cutS w (some (k9 : Int)) none) = V.str (bk k9 (lead s)) from fun e => hb (V.str.inj e))]
        exact hN (if_neg hb) _ (Ex.refl _)
    · intro D1 H2 hD1 e2 hD1d
      have hd2 := e2 _ _ hd1
      replace hD1d : H2 D1 = some (.dK (toK (oneC p k9 s))) := hD1d
      walk_at "go"
      refine lock_asg (dcd_rel (.inl hd2) (Nat.lt_of_le_of_lt hz (by decide)) (fun H' Q' _ q => ⟨_, rfl, q⟩) (fun kv => if fr k9 kv.1 = fr k9 (lead s) then some (bk k9 kv.1, kv.2) else none) (atFront_nodup hl hk gs.nd) (fun _ => rfl) ?_ ?_)
      · intro i w n9 H' Kc N hi lk hK hN
        have hwm : w ∈ keys s := mem_keys.mpr ⟨n9, List.mem_of_getElem? hi⟩
        have hw := hlw w hwm
        walk_at "go"
        refine ⟨w, rfl, line5 (by omega), ?_⟩
        walk_at "go"
        by_cases hb : fr k9 w = fr k9 (lead s)
        · rw [decide_eq_true (show V.str (cutS w none (some (k9 : Int))) = V.str (fr k9 (lead s)) from congrArg V.str hb)]
          walk_at "go"
          refine ⟨w, rfl, line5 (by omega), ?_⟩
          walk_at "go"
          refine g_dg lk.self (getS_of_mem gs.nd (List.mem_of_getElem? hi)) ?_
          walk_at "go"
          exact hK _ _ _ (if_pos hb) (Ex.refl _)
        · rw [decide_eq_false (show ¬ V.str (cutS w none (some (k9 : Int))) = V.str (fr k9 (lead s)) from fun e => hb (V.str.inj e))]
          exact hN (if_neg hb) _ (Ex.refl _)
      · intro D2 H3 hD2 e3 hD2d
        have hd3 := e3 _ _ hd2
        have hD1e := e3 _ _ hD1d
        replace hD2d : H3 D2 = some (.dK (toK (otherC k9 s))) := hD2d
        have g1 := oneC_good hp hl hk gs
        have g2 := otherC_good hl hk gs
        have m1 : (oneC p k9 s).length ≤ s.length := List.length_filterMap_le _ _
        have m2 : (otherC k9 s).length ≤ s.length := List.length_filterMap_le _ _
        walk_at "go"
        refine ⟨p, D1, D2, _, _, rfl, .inl hD1e, .inl hD2d, g1.nd, g2.nd, Nat.lt_of_le_of_lt (Nat.mul_le_mul (Nat.le_trans m1 hz) (Nat.le_trans m2 hz)) (by decide), hp0, ⟨g1.nd, g1.lo, fun kv h => by have := g1.hi kv h; omega⟩, fun u hu => by rw [oneC_len hl hk u hu]; omega, fun u hu => by rw [(mem_atFront hl hk hu).1]; omega, fun d4 H4 e4 hd4n hd4 => ?_⟩
        have e04 := e1.trans (e2.trans (e3.trans e4))
        walk_at "go"
        refine ⟨d4, d, _, s, rfl, rfl, hd4, e4 _ _ hd3, fun f hf => ?_⟩
        rw [same_good (Good.prod hp0 _ _) gs] at hf
        rw [if_pos rfl]
        cases f with
        | false =>
          walk_at "go"
          exact kn H4 e04 fun z => Bool.false_ne_true (hf.mpr z)
        | true =>
          walk_at "go"
          refine ⟨Nat.le_of_ble_eq_true rfl, fun t ht => ?_⟩
          have e5 := Ex.new (o := .tup [V.ref D1, V.ref D2]) ht
          exact ky t D1 D2 _ (e04.trans e5) (hf.mp rfl) upd_same (e5 _ _ (e4 _ _ hD1e)) (e5 _ _ (e4 _ _ hD2d))
def sp_cut (Cs : Addr → Prop) : Sp := fun vs H Q _ => ∃ (b : Addr) (p : Int) (s : Bg) (k n : Nat), vs = [.ref b, .int k] ∧ BagAt Cs H b p s ∧ Prm p ∧ Good p s ∧ Lev n s ∧ n ≤ 1000 ∧ k ≤ n ∧ s.length ≤ 1000 ∧ (∀ H', Ex H H' → ¬ IsCut p k s → Q .non H') ∧
  ∀ t x1 x2 H', Ex H H' → IsCut p k s → H' t = some (.tup [.ref x1, .ref x2]) → BagAt Cs H' x1 p (oneC p k s) → BagAt Cs H' x2 p (otherC k s) → Q (.ref t) H'
theorem ok_cut {f : Addr} {fd : FuncData} (F : Fun K "cut" "cut" s_cut f fd) (T : Txt K mg C_Bag Cs) (D_check_cut : DefOk P w K mg base CX0 4 "check_cut" ["bag", "number"] (sp_check_cut Cs)) (D_cut_of : DefOk P w K mg base CX0 5 "cut_of" ["clock", "sparse", "letters"] sp_cut_of)
    (D_raw : DefOk P w K mg base CX0 8 "raw" ["clock", "sparse"] (sp_raw Cs)) : FnOk P w K mg base CX0 9 f fd ["bag", "number"] (sp_cut Cs) := by
  refine F.ok sc_cut (fun vs H Q E h => ?_) (fun cdv A outer s H vs Q E hr h => ?_)
  · obtain ⟨b, p, s, k, n, rfl, _⟩ := h
    rfl
  · obtain ⟨b, p, s, k9, n, rfl, hb, hp, gs, hl, hn, hk, hz, kn, ky⟩ := h
    have hu := hu_of hr; have hu64 := L2.Room.units hr; refine ⟨_, (pss_cons (ps_expr (pe_callD D_check_cut (hr.mono (by decide)) rfl pass0 (pa_cons (pv 0) (pa_cons (pv 1) pa_nil)))) (pss_cons (ps_set (i := 2) sc_cut.nd rfl (by first | exact Or.inl rfl | exact Or.inr rfl) (pe_callD D_cut_of (hr.mono (by decide)) rfl pass0 (pa_cons (pe_fldK (K := K) rfl (pv 0) rfl) (pa_cons (pe_fldK (K := K) rfl (pv 0) rfl) (pa_cons (pv 1) pa_nil))))) (pss_one (ps_ret (pe_ifExp (pt_cmpR op_isN (pv 2) pe_non (nomark _)) pe_non (pe_tup (pa_cons (pe_callD D_raw (hr.mono (by decide)) rfl pass0 (pa_cons (pe_fldK (K := K) rfl (pv 0) rfl) (pa_cons (pe_ix (r := rIxT K) ix_tup (pv 2) pe_int (fun _ _ => rfl)) pa_nil))) (pa_cons (pe_callD D_raw (hr.mono (by decide)) rfl pass0 (pa_cons (pe_fldK (K := K) rfl (pv 0) rfl) (pa_cons (pe_ix (r := rIxT K) ix_tup (pv 2) pe_int (fun _ _ => rfl)) pa_nil))) pa_nil)))))))), ?_⟩; rw [st_cut]; (try dsimp only [cxOf]); walk_at "go"
    refine ⟨b, p, s, k9, n, rfl, hb, hl, hn, hk, hz, fun H1 e1 => ?_⟩
    obtain ⟨C, dx, d, k1, t1, hc, h1, hd, _⟩ := (hb.ex' e1).ex
    walk_at "go"
    refine ⟨b, C, dx, _, _, rfl, h1, T.cls C hc, T.n_clock C hc, bagF_clock _ _ _ _, ?_⟩
    walk_at "go"
    refine ⟨b, C, dx, _, _, rfl, h1, T.cls C hc, T.n_sparse C hc, bagF_sparse _ _ _ _, ?_⟩
    walk_at "go"
    refine ⟨d, p, s, k9, n, rfl, hd, hp, gs, hl, hn, hk, hz, fun H2 e2 hno => ?_, fun t d1 d2 H2 e2 hyes ht hd1 hd2 => ?_⟩
    · walk_at "go"
      refine ⟨rfl, ?_⟩
      rw [decide_eq_true rfl]
      walk_at "go"
      exact kn H2 (e1.trans e2) hno
    · have e12 := e1.trans e2
      have g1 := oneC_good hp hl hk gs
      have g2 := otherC_good hl hk gs
      have m1 : (oneC p k9 s).length ≤ s.length := List.length_filterMap_le _ _
      have m2 : (otherC k9 s).length ≤ s.length := List.length_filterMap_le _ _
      have h12 := e2 _ _ h1
      walk_at "go"
      refine ⟨rfl, ?_⟩
      rw [decide_eq_false (fun z => nomatch z)]
      walk_at "go"
      refine ⟨b, C, dx, _, _, rfl, h12, T.cls C hc, T.n_clock C hc, bagF_clock _ _ _ _, ?_⟩
      walk_at "go"
      refine g_ixt (v := .ref d1) (SqT.of ht) rfl ?_
      walk_at "go"
      refine ⟨d1, p, _, rfl, hd1, by omega, fun u hu => by rw [oneC_len hl hk u hu]; omega, g1.nd, fun x1 H3 e3 hx1n hx1 => ?_⟩
      walk_at "go"
      refine ⟨b, C, dx, _, _, rfl, e3 _ _ h12, T.cls C hc, T.n_clock C hc, bagF_clock _ _ _ _, ?_⟩
      walk_at "go"
      refine g_ixt (v := .ref d2) (SqT.of (e3 _ _ ht)) rfl ?_
      walk_at "go"
      refine ⟨d2, p, _, rfl, e3 _ _ hd2, by omega, fun u hu => by rw [(mem_atFront hl hk hu).1]; omega, g2.nd, fun x2 H4 e4 hx2n hx2 => ?_⟩
      walk_at "go"
      refine ⟨Nat.le_of_ble_eq_true rfl, fun q hq => ?_⟩
      have e5 := Ex.new (o := .tup [V.ref x1, V.ref x2]) hq
      exact ky q x1 x2 _ (((e12.trans e3).trans e4).trans e5) hyes upd_same ((hx1.ex' e4).ex' e5) (hx2.ex' e5)

end
end Fp

/-! what the laws of cuts ask: a planted product is cut, at the ends it is always cut, nothing but the numbers counts -/
namespace Fp
open PySem L2
variable {p : Int} {s t r f g : Bg} {n k m : Nat}
/-- the same numbers at all words -/
def EqS (r s : Bg) : Prop := ∀ w, cf r w = cf s w
theorem EqS.symm (h : EqS r s) : EqS s r := fun w => (h w).symm
theorem EqS.keys (h : EqS r s) (gr : Good p r) (gs : Good p s) (w : Str) : w ∈ keys r ↔ w ∈ keys s := by rw [cf_ne gr, cf_ne gs, h]
theorem EqS.ne (h : EqS r s) (gr : Good p r) (gs : Good p s) (hs : s ≠ []) : r ≠ [] := fun e => by
  have h1 := (h.keys gr gs _).mpr (lead_mem hs)
  rw [e] at h1
  cases h1
theorem EqS.lead (h : EqS r s) (gr : Good p r) (gs : Good p s) (hs : s ≠ []) : lead r = lead s :=
  lead_is ((h.keys gr gs _).mpr (lead_mem hs)) fun u hu => lead_le ((h.keys gr gs _).mp hu)
theorem EqS.lev (h : EqS r s) (gr : Good p r) (gs : Good p s) (l : Lev n s) : Lev n r := ⟨h.ne gr gs l.n, fun u hu => l.l u ((h.keys gr gs u).mp hu)⟩
theorem EqS.noX (h : EqS r s) : NoX p k r ↔ NoX p k s := by
  unfold NoX
  constructor <;> intro q a b c d ha hc
  · have := q a b c d ha hc
    rwa [h, h, h, h] at this
  · rw [h, h, h, h]
    exact q a b c d ha hc
theorem EqS.words (h : EqS r s) (gr : Good p r) (gs : Good p s) : wordsS r = wordsS s := wordsS_congr gr gs h
theorem len0 {x : Str} (h : x.length = 0) : x = "" := str_ext (List.eq_nil_of_length_eq_zero (by rw [str_len]; exact h))
theorem app_none (w : Str) : w ++ ("" : Str) = w := str_ext (by rw [app_toList]; exact List.append_nil _)
theorem none_app (w : Str) : ("" : Str) ++ w = w := str_ext (by rw [app_toList]; rfl)
/-- at no letters nothing crosses -/
theorem noX_zero : NoX p 0 s := by
  intro a b c d ha hc
  rw [len0 ha, len0 hc, show cf s ("" ++ b) * cf s ("" ++ d) - cf s ("" ++ d) * cf s ("" ++ b) = 0 from by rw [Int.mul_comm]; omega, Int.zero_emod]
theorem noX_all (h : Lev n s) : NoX p n s := by
  intro a b c d ha hc
  have h0 : ∀ {x y : Str}, x.length = n → y.length ≠ 0 → cf s (x ++ y) = 0 := fun {x y} hx hy => cf_not_mem fun hm => by
    have := h.l _ hm
    rw [len_app] at this
    omega
  by_cases hb : b.length = 0
  · by_cases hd : d.length = 0
    · have e : b = d := by rw [len0 hb, len0 hd]
      rw [e, show cf s (a ++ d) * cf s (c ++ d) - cf s (a ++ d) * cf s (c ++ d) = 0 from Int.sub_self _, Int.zero_emod]
    · rw [h0 hc hd, h0 ha hd, Int.mul_zero, Int.zero_mul]; rfl
  · rw [h0 ha hb, h0 hc hb, Int.mul_zero, Int.zero_mul]; rfl
/-- a planted product -/
structure Plant (p : Int) (k m : Nat) (f g r : Bg) : Prop where
  pp : Prm p
  gf : Good p f
  gg : Good p g
  gr : Good p r
  lf : Lev k f
  lg : Lev m g
  e : EqS r (prodS p f g)
theorem Plant.cf (h : Plant p k m f g r) {a : Str} (ha : a.length = k) (b : Str) : cf r (a ++ b) = cf f a * cf g b % p := by
  have h0 := h.pp.pos
  rw [h.e]
  exact lev_prod (by omega) h.gf.nd h.gg.nd h.lf.l ha b
theorem Plant.lead (h : Plant p k m f g r) : lead r = lead f ++ lead g := by
  have h0 := h.pp.pos
  have h1 := prod_lead h.pp h.gf h.gg h.lf.n h.lg.n
  rw [h.e.lead h.gr (Good.prod (by omega) f g) (prod_ne h.pp h.gf h.gg h.lf.n h.lg.n), h1.2.1]
theorem Plant.lev (h : Plant p k m f g r) : Lev (k + m) r := by
  have h0 := h.pp.pos
  refine ⟨h.e.ne h.gr (Good.prod (by omega) f g) (prod_ne h.pp h.gf h.gg h.lf.n h.lg.n), fun u hu => ?_⟩
  obtain ⟨a, ha, b, hb, e⟩ := keys_prod ((h.e.keys h.gr (Good.prod (by omega) f g) u).mp hu)
  rw [e, len_app, h.lf.l a ha, h.lg.l b hb]
theorem Plant.noX (h : Plant p k m f g r) : NoX p k r := by
  intro a b c d ha hc
  rw [h.cf ha, h.cf hc, h.cf ha, h.cf hc]
  generalize Fp.cf f a = x
  generalize Fp.cf f c = y
  generalize Fp.cf g b = z
  generalize Fp.cf g d = v
  rw [Int.sub_emod, ← Int.mul_emod, ← Int.mul_emod, ← Int.sub_emod, show x * z * (y * v) - x * v * (y * z) = 0 from by rw [Int.mul_assoc, Int.mul_assoc, Int.mul_left_comm z, Int.mul_left_comm v, Int.mul_comm z v]; omega, Int.zero_emod]
theorem Plant.cut (h : Plant p k m f g r) : IsCut p k r := (cut_iff h.pp h.lev (Nat.le_add_right k m) h.gr).mpr h.noX
/-- the first part told is the first one, plain -/
theorem Plant.one (h : Plant p k m f g r) : EqS (oneC p k r) (plainS p f) := by
  intro w
  have h1 := h.pp.pos
  have h0 : 0 < p := by omega
  by_cases hw : w.length = k
  · have hbk : bk k (Fp.lead r) = Fp.lead g := by rw [h.lead]; exact bk_app h.lf.lead
    rw [oneC_cf h.lev (Nat.le_add_right k m) h.gr hw, cf_plain h0 h.gf.nd, hbk, h.cf hw, h.lead, h.cf h.lf.lead]
    have a0 := cf_pos_of h.gf (lead_mem h.lf.n)
    have a1 := cf_lt h0 h.gf (Fp.lead f)
    have b0 := cf_pos_of h.gg (lead_mem h.lg.n)
    have b1 := cf_lt h0 h.gg (Fp.lead g)
    obtain ⟨i1, i2, i3⟩ := inv_one h.pp b0 b1
    have q := inv_mul h.pp a0 a1 b0 b1
    generalize Fp.cf f (Fp.lead f) = A at q ⊢
    generalize Fp.cf g (Fp.lead g) = B at q i1 ⊢
    generalize Fp.cf f w = X
    rw [Int.mul_emod, Int.emod_emod, q, ← Int.mul_emod, show X * B * (inv p A * inv p B) = inv p B * B * (inv p A * X) from by rw [Int.mul_comm X B, Int.mul_comm (inv p A), Int.mul_assoc B, Int.mul_left_comm X, Int.mul_left_comm B, ← Int.mul_assoc (inv p B), Int.mul_comm X], Int.mul_emod, i1, Int.one_mul, Int.emod_emod]
  · rw [cf_not_mem fun z => hw (oneC_len h.lev (Nat.le_add_right k m) w z), cf_plain h0 h.gf.nd, cf_not_mem fun z => hw (h.lf.l w z), Int.mul_zero, Int.zero_emod]
/-- a level bag is cut at no letters and at all -/
theorem cut_zero (hp : Prm p) (h : Lev n s) (gs : Good p s) : IsCut p 0 s := (cut_iff hp h (Nat.zero_le n) gs).mpr noX_zero
theorem cut_all (hp : Prm p) (h : Lev n s) (gs : Good p s) : IsCut p n s := (cut_iff hp h (Nat.le_refl n) gs).mpr (noX_all h)
theorem one_all (hp : Prm p) (h : Lev n s) (gs : Good p s) : EqS (oneC p n s) (plainS p s) := by
  intro w
  have h1 := hp.pos
  have h0 : 0 < p := by omega
  by_cases hw : w.length = n
  · have hbk : bk n (lead s) = "" := by
      have := bk_app (b := "") h.lead
      rwa [app_none] at this
    rw [oneC_cf h (Nat.le_refl n) gs hw, cf_plain h0 gs.nd, hbk, app_none, Int.mul_comm]
  · rw [cf_not_mem fun z => hw (oneC_len h (Nat.le_refl n) w z), cf_plain h0 gs.nd, cf_not_mem fun z => hw (h.l w z), Int.mul_zero, Int.zero_emod]
theorem one_zero (hp : Prm p) (h : Lev n s) (gs : Good p s) : EqS (oneC p 0 s) [("", 1)] := by
  intro w
  have h1 := hp.pos
  have h0 : 0 < p := by omega
  have h3 := lead_pos hp h gs
  obtain ⟨i1, i2, i3⟩ := inv_one hp h3.1 h3.2
  obtain ⟨l1, l2, l3⟩ := lead_cut h (Nat.zero_le n)
  by_cases hw : w.length = 0
  · have e : w = "" := len0 hw
    have e2 : fr 0 (lead s) = "" := len0 l2
    rw [oneC_cf h (Nat.zero_le n) gs hw, e]
    rw [e2] at l1
    rw [l1, Int.mul_comm, i1]
    rfl
  · rw [cf_not_mem fun z => hw (oneC_len h (Nat.zero_le n) w z), cf_not_mem fun z => hw (by rw [List.mem_singleton.mp z]; rfl)]
theorem other_zero (hp : Prm p) (h : Lev n s) (gs : Good p s) : EqS (otherC 0 s) s := fun w => by
  obtain ⟨l1, l2, l3⟩ := lead_cut h (Nat.zero_le n)
  have e2 : fr 0 (lead s) = "" := len0 l2
  rw [otherC_cf h (Nat.zero_le n) gs, e2, none_app]
theorem good_words (gs : Good p s) : Good p (wordsS s) := ⟨wordsS_nodup gs.nd, fun kv h => by
  obtain ⟨h1, h2⟩ := mem_wordsS (w := kv.1) (n := kv.2).mp h
  rw [h2]
  exact cf_pos_of gs h1, fun kv h => by
  obtain ⟨h1, h2⟩ := mem_wordsS (w := kv.1) (n := kv.2).mp h
  obtain ⟨m, hm⟩ := mem_keys.mp h1
  rw [h2, cf_of_mem gs.nd hm]
  exact gs.hi _ hm⟩
theorem eqs_words (gs : Good p s) : EqS (wordsS s) s := fun w => by
  by_cases h : w ∈ keys s
  · exact cf_of_mem (wordsS_nodup gs.nd) (mem_wordsS.mpr ⟨h, rfl⟩)
  · rw [cf_not_mem h, cf_not_mem fun z => h ?_]
    rw [wordsS_keys] at z
    exact (ordW_perm _).mem_iff.mp z
end Fp

/-! Sets of texts: set(list of texts), sorted(such a set). -/
namespace Fp
open PySem PySem.Spec PyProof.Rows L2
/-- an entry is a text with its hash -/
def TxtE (w : World) (z : Int × Value) : Prop := ∃ (x : Str) (u : Tok), z.2 = .str x u ∧ z.1 = hashStr w x
def txtE (z : Int × Value) : Str := match z.2 with
  | .str x _ => x
  | _ => Str.empty
/-- the set at a holds the texts l, each once -/
structure SetT (w : World) (h : Heap) (a : Addr) (l : List Str) : Prop where
  ex : ∃ (oo : Obj) (zs : Array (Int × Value)) (ep : Nat) (tb : SetTable), h.get? a = some oo ∧ oo.ExactSet ∧ oo.data = .set zs ep tb ∧ (∀ z ∈ zs.toList, TxtE w z) ∧ (zs.toList.map txtE).Perm l ∧ l.Nodup ∧
    zs.size < scanBound ∧ tb.fits zs.size = true ∧ Ris tb.place.toList ∧ (w.params.followText "set-order" = true ∨ tb.led = true)
def addT (l : List Str) (x : Str) : List Str := if x ∈ l then l else x :: l
theorem addT_nodup {l : List Str} {x : Str} (h : l.Nodup) : (addT l x).Nodup := by
  unfold addT
  split
  · exact h
  · exact List.nodup_cons.mpr ⟨by assumption, h⟩
theorem addT_mem {l : List Str} {x y : Str} : y ∈ addT l x ↔ y = x ∨ y ∈ l := by
  unfold addT
  split
  · exact ⟨.inr, fun h => h.elim (fun e => by rw [e]; assumption) id⟩
  · exact List.mem_cons
theorem addT_len (l : List Str) (x : Str) : (addT l x).length ≤ l.length + 1 := by
  unfold addT
  split
  · exact Nat.le_succ _
  · exact Nat.le_refl _
def ofListT (ws : List Str) : List Str := ws.foldl addT []
theorem foldT_mem {y : Str} : ∀ (ws l : List Str), y ∈ ws.foldl addT l ↔ y ∈ ws ∨ y ∈ l
  | [], l => ⟨.inr, fun h => h.elim (fun h => nomatch h) id⟩
  | x :: ws, l => by
    rw [List.foldl_cons, foldT_mem ws, addT_mem, List.mem_cons]
    exact ⟨fun h => h.elim (fun h => .inl (.inr h)) (fun h => h.elim (fun e => .inl (.inl e)) .inr), fun h => h.elim (fun h => h.elim (fun e => .inr (.inl e)) .inl) (fun h => .inr (.inr h))⟩
theorem ofListT_mem {ws : List Str} {y : Str} : y ∈ ofListT ws ↔ y ∈ ws := by
  unfold ofListT
  rw [foldT_mem]
  exact ⟨fun h => h.elim id (fun h => nomatch h), .inl⟩
theorem foldT_len : ∀ (ws l : List Str), (ws.foldl addT l).length ≤ l.length + ws.length
  | [], l => Nat.le_refl _
  | x :: ws, l => by
    rw [List.foldl_cons, List.length_cons]
    have := foldT_len ws (addT l x)
    have := addT_len l x
    omega
theorem foldT_nodup : ∀ (ws l : List Str), l.Nodup → (ws.foldl addT l).Nodup
  | [], _, h => h
  | x :: ws, l, h => foldT_nodup ws (addT l x) (addT_nodup h)
theorem ofListT_nodup (ws : List Str) : (ofListT ws).Nodup := foldT_nodup ws [] .nil
theorem ofListT_len (ws : List Str) : (ofListT ws).length ≤ ws.length := by
  have := foldT_len ws []
  rwa [List.length_nil, Nat.zero_add] at this
section
variable {P : Program} {w : World} {A : Around} {E : Value → Shared → Prop} {s : Shared} {a : Addr} {l : List Str}
theorem SetT.at {h h' : Heap} (R : SetT w h a l) (k : ∀ o, h.get? a = some o → h'.get? a = some o) : SetT w h' a l := by
  obtain ⟨oo, zs, ep, tb, e, r⟩ := R.ex
  exact ⟨oo, zs, ep, tb, k oo e, r⟩
theorem txt_is {z : Int × Value} (g : TxtE w z) (x : Str) : (strKind P w).is x z.2 = true ↔ txtE z = x := by
  obtain ⟨y, u, h1, _⟩ := g
  unfold txtE
  rw [h1]
  show Value.isStrOf x (.str y u) = true ↔ y = x
  constructor
  · intro h
    obtain ⟨t, e⟩ := Value.isStrOf_shape h
    cases e
    rfl
  · rintro rfl
    exact strKind_is P w y u
theorem txt_elems {zs : List (Int × Value)} (g : ∀ z ∈ zs, TxtE w z) : ElemsOf (strKind P w) zs := fun z hz => by
  obtain ⟨x, u, h1, h2⟩ := g z hz
  exact ⟨⟨x, by rw [h1]; exact strKind_is P w x u, h2⟩, by rw [h1]; rfl⟩
theorem put_at {h : Heap} {oo : Obj} {zs zs' : Array (Int × Value)} {ep : Nat} {tb tb' : SetTable} (e : h.get? a = some oo) (d : oo.data = .set zs ep tb) : (h.update a (Obj.putSet zs' tb')).get? a = some { oo with data := .set zs' (ep + 1) tb' } := by
  have h1 := Heap.get?_update_self (Obj.putSet zs' tb') e (by rw [putSet_of zs' tb' d]; rfl)
  rwa [putSet_of zs' tb' d] at h1
/-- what is done behind a new entry: stored, and laid anew where it is too full -/
theorem setT_tail {gv : Bool → Sem Unit} (hgv : ∀ (b : Bool) (s₁ : Shared) (Q₁ : Unit → Shared → Prop), Q₁ () s₁ → wpAny (model P w) A (gv b) Q₁ E s₁) {oo : Obj} {zs : Array (Int × Value)} {ep : Nat} {tb : SetTable} (ho : s.heap.get? a = some oo) (hex : oo.ExactSet) (hd : oo.data = .set zs ep tb)
    {zs1 : Array (Int × Value)} {tb2 : SetTable} (g1 : ∀ z ∈ zs1.toList, TxtE w z) (p1 : (zs1.toList.map txtE).Perm l) (nd : l.Nodup) (hb1 : zs1.size < scanBound) (hf2 : tb2.fits zs1.size = true) (hr : Ris tb2.place.toList) (hl : w.params.followText "set-order" = true ∨ tb2.led = true) {wd : Bool} {R : Option Bool → Shared → Prop}
    (hR : ∀ h', Heap.SameBut a s.heap h' → SetT w h' a l → R (some true) { s with heap := h' }) :
    wpAny (model P w) A (do
        storeSet a zs1 tb2
        if (!wd && tb2.tooFull) = true then do
            gv (relayAll tb2 zs1 (SetTable.grown zs1.size)).2.2
            storeSet a (relayAll tb2 zs1 (SetTable.grown zs1.size)).1 (relayAll tb2 zs1 (SetTable.grown zs1.size)).2.1
            pure (some true)
          else pure (some true)) R E s := by
  refine wpAny_bind (wpAny_storeSet_of ho hd ?_ (fits_of_scanBound hb1))
  have at1 := put_at (zs' := zs1) (tb' := tb2) ho hd
  have same1 := Heap.SameBut.update s.heap a (Obj.putSet zs1 tb2)
  split
  · have q1 := relayAll_perm tb2 zs1 (SetTable.grown zs1.size)
    have q2 := relayAll_fits tb2 zs1 (SetTable.grown zs1.size)
    have q3 := relayAll_ris tb2 zs1 (SetTable.grown zs1.size)
    have q4 := relayAll_led tb2 zs1 (SetTable.grown zs1.size)
    generalize relayAll tb2 zs1 (SetTable.grown zs1.size) = Y at q1 q2 q3 q4 ⊢
    obtain ⟨zs2, tb3, gave⟩ := Y
    dsimp only at q1 q2 q3 q4 ⊢
    have sz2 : zs2.size < scanBound := by rw [← Array.length_toList, q1.length_eq, Array.length_toList]; exact hb1
    refine wpAny_bind (hgv _ _ _ (wpAny_bind (wpAny_storeSet_of at1 rfl (wpAny_pure (hR _ (same1.trans (Heap.SameBut.update _ a _)) ?_)) (fits_of_scanBound sz2))))
    exact ⟨_, zs2, _, tb3, put_at at1 rfl, hex, rfl, fun z hz => g1 z (q1.mem_iff.mp hz), (q1.map txtE).trans p1, nd, sz2, q2, q3, hl.imp id fun z => by rw [q4]; exact z⟩
  · exact wpAny_pure (hR _ same1 ⟨_, zs1, _, tb2, at1, hex, rfl, g1, p1, nd, hb1, hf2, hr, hl⟩)
theorem setT_add {x : Str} {u : Tok} {Q : Bool → Shared → Prop} (R : SetT w s.heap a l) (room : l.length + 1 < scanBound)
    (hQ : ∀ (b : Bool) (h' : Heap), Heap.SameBut a s.heap h' → SetT w h' a (addT l x) → Q b { s with heap := h' }) : wpAny (model P w) A (setAddHashed a (.str x u) ((strKind P w).hash x)) Q E s := by
  obtain ⟨oo, zs, ep, tb, ho, hex, hd, g, hp, nd, hb, hf, hr, hl⟩ := R.ex
  have hkey := strKind_is P w x u
  have hsc : (Value.str x u).scannable = true := rfl
  have hel : ElemsOf (strKind P w) zs.toList := txt_elems g
  have hzl : zs.size = l.length := by rw [← Array.length_toList, ← hp.length_eq, List.length_map]
  unfold setAddHashed setAddHashedIn
  refine wpAny_holding (wpAny_bind (wpAny_setState_of ho hd hf ?_))
  dsimp only
  rw [byScan_of hsc hb hel]
  simp only [↓reduceIte]
  unfold setAddByScan
  refine wpAny_bind (wpAny_bind (wpAny_rule (wpAny_bind (wpAny_setScan_of hkey ho hd hf hel ?_))))
  cases hfi : List.findIdx? (fun e => (strKind P w).is x e.2) zs.toList with
  | some j =>
    dsimp only
    obtain ⟨hj, pj, _⟩ := List.findIdx?_eq_some_iff_getElem.mp hfi
    have hm : x ∈ l := hp.mem_iff.mp (List.mem_map.mpr ⟨_, List.getElem_mem hj, (txt_is (P := P) (g _ (List.getElem_mem hj)) x).mp pj⟩)
    have e9 : addT l x = l := if_pos hm
    exact wpAny_pure (wpAny_pure (hQ _ s.heap (Heap.SameBut.refl a s.heap) (by rw [e9]; exact R)))
  | none =>
    dsimp only
    have hm : x ∉ l := fun hx => by
      obtain ⟨z, hz, hzx⟩ := List.mem_map.mp (hp.mem_iff.mpr hx)
      have h9 := List.findIdx?_eq_none_iff.mp hfi z hz
      rw [(txt_is (P := P) (g z hz) x).mpr hzx] at h9
      cases h9
    have e9 : addT l x = x :: l := if_neg hm
    have hgv : ∀ (b : Bool) {s₁ : Shared} {Q₁ : Unit → Shared → Prop}, Q₁ () s₁ → wpAny (model P w) A (match b with | true => rule "set.scan.the-table-gave-way" | false => pure ()) Q₁ E s₁ := fun b s₁ Q₁ z => by cases b <;> first | exact wpAny_pure z | exact wpAny_rule z
    have q1 := layNew_perm tb zs ((strKind P w).hash x) (.str x u)
    have q2 := layNew_fits tb zs ((strKind P w).hash x) (.str x u)
    have q3 := layNew_ris tb zs ((strKind P w).hash x) (.str x u) hr
    have q4 := layNew_led tb zs ((strKind P w).hash x) (.str x u)
    generalize layNew tb zs ((strKind P w).hash x) (.str x u) = Y at q1 q2 q3 q4 ⊢
    obtain ⟨zs1, tb1, wd, gave⟩ := Y
    dsimp only at q1 q2 q3 q4 ⊢
    rw [Array.toList_push] at q1
    have pc := q1.trans (List.perm_append_singleton _ _)
    have g1 : ∀ z ∈ zs1.toList, TxtE w z := fun z hz => (List.mem_cons.mp (pc.mem_iff.mp hz)).elim (fun e => by rw [e]; exact ⟨x, u, rfl, rfl⟩) (g z)
    have p1 : (zs1.toList.map txtE).Perm (addT l x) := by
      rw [e9]
      exact (pc.map txtE).trans (hp.cons _)
    have nd1 := addT_nodup (x := x) nd
    have hb1 : zs1.size < scanBound := by
      rw [← Array.length_toList, pc.length_eq, List.length_cons, Array.length_toList, hzl]
      exact room
    have hl1 : w.params.followText "set-order" = true ∨ tb1.led = true := hl.imp id fun z => by rw [q4]; exact z
    refine wpAny_bind (hgv _ ?_)
    split
    · refine wpAny_bind ?_
      rw [hashByValue_scannable 8 hsc]
      refine wpAny_pure (setT_tail ?_ ho hex hd g1 p1 nd1 hb1 ?_ ?_ ?_ ?_)
      · intro b s₁ Q₁ z; cases b <;> first | exact wpAny_pure z | exact wpAny_rule z
      · first | (split <;> first | exact q2 | exact SetTable.fits_plain_off q2) | exact q2
      · first | (split <;> exact q3) | exact q3
      · first | (split <;> exact hl1) | exact hl1
      · intro h' sb r; dsimp only; exact wpAny_pure (hQ _ h' sb r)
    · refine wpAny_bind (wpAny_pure ?_)
      simp only [↓reduceIte]
      refine setT_tail ?_ ho hex hd g1 p1 nd1 hb1 q2 q3 hl1 ?_
      · intro b s₁ Q₁ z; cases b <;> first | exact wpAny_pure z | exact wpAny_rule z
      · intro h' sb r; dsimp only; exact wpAny_pure (hQ _ h' sb r)
/-- the loop of set(list) -/
theorem setT_loop {R : Result → Shared → Prop} {I : Addr} {fp wr : List Addr} {G : Array GenState → Array GenState → Prop} {n : Nat} {Pv : Nat → Value → Prop} {St : Nat → Shared → Prop} (W : WalksS P w A.in1 I fp wr G n Pv St) {b : Addr} (hb : b ∉ fp) {ws : List Str} (hw : ws.length = n)
    (hv : ∀ i v, Pv i v → ∃ x t, ws[i]? = some x ∧ v = .str x t) (hz : n + 1 < scanBound) :
    ∀ (k i : Nat) (s : Shared), n - i = k → i ≤ n → St i s → SetT w s.heap b (ofListT (ws.take i)) →
      (∀ s', Moved (b :: wr) G s s' → SetT w s'.heap b (ofListT ws) → R (.ok (.ret .none)) s') → codeAny (model P w) A (.builtin "set.update.loop" ⟨[.ref b, .ref I], []⟩) R s := by
  have hbw : b ∉ wr := fun h => hb (W.sub _ h)
  have hsub : ∀ c ∈ wr, c ∈ b :: wr := fun c hc => List.mem_cons_of_mem _ hc
  intro k
  induction k with
  | zero =>
    intro i s hk hi hst hS hR
    obtain rfl : i = n := by omega
    rw [← hw, List.take_length] at hS
    refine codeAny_builtin PyProof.Rows.F.entry_set_update_loop ?_
    rw [Around.under_plainId PyProof.Rows.F.plain_set_update_loop _]
    show wpAny _ A.in1 (pyNext (.ref I) >>= _) _ _ s
    refine wpAny_bind (W.done s _ _ hst fun s' hm => ?_)
    show wpAny _ A.in1 (ret Value.none) _ _ s'
    exact wpAny_pure (hR s' (hm.mono hsub) (hS.at fun o e => hm.heap b o hbw e))
  | succ k ih =>
    intro i s hk hi hst hS hR
    have hlt : i < n := by omega
    refine codeAny_builtin PyProof.Rows.F.entry_set_update_loop ?_
    rw [Around.under_plainId PyProof.Rows.F.plain_set_update_loop _]
    show wpAny _ A.in1 (pyNext (.ref I) >>= _) _ _ s
    refine wpAny_bind (W.item i s _ _ hlt hst fun v s' hP hst' hm => ?_)
    obtain ⟨x, t, hx, rfl⟩ := hv i v hP
    have hS' : SetT w s'.heap b (ofListT (ws.take i)) := hS.at fun o e => hm.heap b o hbw e
    show wpAny _ A.in1 (holding [Value.str x t] (setAdd b (.str x t)) >>= _) _ _ s'
    refine wpAny_bind (wpAny_holding ?_)
    unfold setAdd
    refine wpAny_holding (wpAny_bind ((strKind P w).pyHash (k := x) (strKind_is P w x t) ?_))
    have room : (ofListT (ws.take i)).length + 1 < scanBound := by
      have h1 := ofListT_len (ws.take i)
      rw [List.length_take] at h1
      omega
    refine setT_add (s := { s' with toks := s'.toks + 1 }) hS' room fun _ h' hsb hS2 => ?_
    have e2 : addT (ofListT (ws.take i)) x = ofListT (ws.take (i + 1)) := by
      rw [List.take_add_one, hx]
      unfold ofListT
      rw [List.foldl_append]
      rfl
    rw [e2] at hS2
    refine wpAny_pure ⟨plainId_quiet PyProof.Rows.F.plain_set_update_loop _, ih (i + 1) _ (by omega) hlt (W.frame _ s' _ _ hst' (Nat.le_succ _) fun c hc o e => ?_) hS2 fun s'' hm'' hS'' => ?_⟩
    · rw [hsb.2 c (fun h : c = b => hb (by rw [← h]; exact hc))]
      exact e
    · refine hR s'' (Moved.trans W.gtrans ((hm.mono hsub).then_heap (Nat.le_succ _) fun c o hc e => ?_) hm'') hS''
      rw [hsb.2 c (fun h : c = b => hc (by rw [h]; exact List.mem_cons_self))]
      exact e
/-- an empty set, its table led where the world's text leads no order -/
abbrev newSet (w : World) : Obj := { cls := .type "set", dict := none, data := .set #[] 0 (.fresh 0 0 (!w.params.followText "set-order")) }
theorem newSet_is {h : Heap} : SetT w (h.push (newSet w)) h.objs.size [] :=
  ⟨_, #[], 0, _, Heap.get?_push_size _ rfl, ⟨rfl, rfl, rfl⟩, rfl, (fun z hz => by simp at hz), .refl _, .nil, (by decide), (by rfl), List.Pairwise.nil, by
    show _ ∨ (!w.params.followText "set-order") = true
    cases w.params.followText "set-order"
    · exact .inr rfl
    · exact .inl rfl⟩
theorem code_new1 (v : Value) {Q₁ : Value → Shared → Prop} (h : Q₁ (.ref s.heap.objs.size) { s with heap := s.heap.push (newSet w) }) : codeAny (model P w) A (.call (.builtin "set.__new__") ⟨[.type "set", v], []⟩) (wants Q₁ E) s := by
  refine codeAny_of_tree ?_
  show wpAny _ A.in1 (do checkBuiltinCall "set.__new__" ⟨[.type "set", v], []⟩; again (.builtin "set.__new__" ⟨[.type "set", v], []⟩)) _ _ s
  refine wpAny_bind (wpAny_of_eq (PySem.F.newCall_set_1 v) (wpAny_pure ⟨plainId_quiet F.plain_set_new _, codeAny_builtin F.entry_set_new ?_⟩))
  rw [Around.under_plainId F.plain_set_new _]
  unfold Builtin.«set.__new__» Builtin.Frozenset.newClass
  have hsub := sub_set_self
  obtain ⟨hp, g, d, tk, os⟩ := s
  dsimp only
  wp_walk
  refine wpAny_askSetting (wpAny_pure ?_)
  dsimp only
  simp only [newObj]
  exact wpAny_bind (wpAny_alloc (wpAny_pure (wpAny_pure h)))
theorem strs_at {vs : List Value} {ws : List Str} (r : Vals (ws.map V.str) vs) {i : Nat} {v : Value} (h : vs[i]? = some v) : ∃ x t, ws[i]? = some x ∧ v = .str x t := by
  induction ws generalizing vs i with
  | nil => cases r; cases h
  | cons x ws ih =>
    cases r with
    | cons r1 r2 =>
      cases i with
      | zero =>
        obtain ⟨t, e⟩ := r1
        cases Option.some.inj h
        exact ⟨x, t, rfl, e⟩
      | succ i => exact ih r2 h
set_option maxRecDepth 100000 in
theorem call_setT {la : Addr} {items : Array Value} {ws : List Str} {Q : Value → Shared → Prop} (hh : A.handled = none) (hl : s.heap.IsList la items) (hi : Vals (ws.map V.str) items.toList) (hb : ws.length + 1 < scanBound)
    (h : ∀ (h' : Heap) (tk : Nat), SetT w h' s.heap.objs.size (ofListT ws) → (∀ b o, b < s.heap.objs.size → s.heap.get? b = some o → h'.get? b = some o) → Q (.ref s.heap.objs.size) { s with heap := h', toks := tk }) :
    wpAny (model P w) A (call (.type "set") [.ref la]) Q E s := by
  have hwl : ws.length = items.size := by
    have := hi.length
    rwa [List.length_map, Array.length_toList] at this
  obtain ⟨c, tl, hmro⟩ := F.called_set.mro
  have hmade := F.called_set.made
  have hsub := F.called_set.sub
  refine wpAny_call (codeAny_of_tree ?_)
  show wpAny _ _ (callAny (.type "set") _) _ _ _
  refine wpAny_pure ⟨Code.quiet_builtin _ (by decide +kernel), codeAny_builtin F.entry_type_call ?_⟩
  rw [Around.under_plain (weight_type_call_type "set" [.ref la] []) rfl]
  have h1 := F.called_set.notType
  have h2 := F.called_set.canCreate
  have hct := PySem.F.typeCall_set_1 (.ref la)
  repeat (any_goals (first | assumption | wp_step))
  refine codeAny_mono (code_new1 (.ref la) (E := E) (Q₁ := fun obj s₁ => obj = .ref s.heap.objs.size ∧ s₁ = { s with heap := s.heap.push (newSet w) }) ⟨rfl, rfl⟩) fun r s₁ hr => ?_
  cases r with
  | error e => exact hr
  | ok fl =>
    cases fl with
    | ret obj =>
      obtain ⟨rfl, rfl⟩ := hr
      have hS : (s.heap.push (newSet w)).get? s.heap.objs.size = some (newSet w) := Heap.get?_push_size _ rfl
      have hT : Shared.TypeIs { s with heap := s.heap.push (newSet w) } (.ref s.heap.objs.size) "set" := ⟨_, hS, rfl⟩
      have hli := F.called_set.init.lookup
      have hbi := F.called_set.init.bind (.ref s.heap.objs.size)
      repeat (any_goals (first | assumption | wp_step))
      refine codeAny_mono (codeAny_call_builtin (R := wants (fun r s₂ => r = .none ∧ ∃ h' tk, s₂ = { s with heap := h', toks := tk } ∧ SetT w h' s.heap.objs.size (ofListT ws) ∧ (∀ b o, b < s.heap.objs.size → s.heap.get? b = some o → h'.get? b = some o)) E) F.called_set.init.plain F.entry_set_init (PySem.check_set_init_1 hT ?_)) fun r₂ s₂ hr₂ => ?_
      · obtain ⟨ol, hol, hcl, nl, hdl⟩ := hl
        obtain ⟨ocls, odict, odata, oslots⟩ := ol
        simp only at hcl hdl
        subst hcl; subst hdl
        have hol' : (s.heap.push (newSet w)).get? la = some { cls := .type "list", dict := odict, data := .seq items nl, slots := oslots } := Heap.get?_push_of_some _ hol
        have hsls := PySem.F.sub_list_set
        have hslf := PySem.F.sub_list_frozenset
        have hne : (Value.type "list" == Value.type "dict") = false := by decide
        have hl1 : (s.heap.push (newSet w)).IsList la items := ⟨_, hol', rfl, nl, rfl⟩
        unfold Builtin.«set.__init__» noKeywords Builtin.Frozenset.updateFrom
        generalize hPI : pyIter = PI
        wp_walk
        subst hPI
        refine wpAny_pyIter_list hl1 (wpAny_bind (wpAny_runValue ?_))
        have hlS : la < s.heap.objs.size := Heap.lt_size hol
        have hh3 : A.in1.in1.in1.handled = none := by simp [hh]
        have sz1 : (s.heap.push (newSet w)).objs.size = s.heap.objs.size + 1 := Heap.size_push _ _
        have hneI : la ≠ (s.heap.push (newSet w)).objs.size := by rw [sz1]; exact Nat.ne_of_lt (Nat.lt_succ_of_lt hlS)
        have hSf : s.heap.objs.size ∉ [(s.heap.push (newSet w)).objs.size, la] := by
          rw [sz1]
          simp only [List.mem_cons, List.not_mem_nil, or_false, not_or]
          exact ⟨Nat.ne_of_lt (Nat.lt_succ_self _), Nat.ne_of_gt hlS⟩
        refine setT_loop ((Walks.list hh3 _ la hneI items).toS) hSf (ws := ws) hwl (fun i v hv => strs_at hi (by rw [Array.getElem?_toList]; exact hv)) (by rw [← hwl]; exact hb) (items.size - 0) 0 _ (by omega) (Nat.zero_le _)
          ⟨⟨_, Heap.get?_push_size _ rfl, rfl, rfl⟩, (hl1.push _)⟩ ?hS0 ?hR
        case hS0 => exact newSet_is.at fun o e => Heap.get?_push_of_some _ e
        case hR =>
          intro s' hm hS'
          obtain ⟨h', g', d', tk', os'⟩ := s'
          have eg : g' = s.gens := hm.gens
          have ed : d' = s.drawn := hm.drawn
          have eo : os' = s.os := hm.os
          subst eg; subst ed; subst eo
          show wpAny _ _ _ _ _ _
          refine wpAny_pure ?_
          show wpAny _ _ (ret Value.none) _ _ _
          refine wpAny_pure ⟨rfl, h', tk', rfl, hS', fun b o hb e => hm.heap b o ?_ (Heap.get?_push_of_some _ (Heap.get?_push_of_some _ e))⟩
          rw [sz1]
          simp only [List.mem_cons, List.not_mem_nil, or_false, not_or]
          exact ⟨Nat.ne_of_lt hb, Nat.ne_of_lt (Nat.lt_succ_of_lt hb)⟩
      · cases r₂ with
        | error e => exact hr₂
        | ok fl₂ =>
          cases fl₂ with
          | ret r =>
            obtain ⟨rfl, h', tk, rfl, hS', hk'⟩ := hr₂
            repeat (any_goals (first | assumption | wp_step))
            exact h _ _ hS' hk'
          | _ => exact hr₂.elim
    | _ => exact hr.elim
theorem strs_txt {vs : List Value} {zs : List (Int × Value)} (g : ∀ z ∈ zs, TxtE w z) (p : vs.Perm (zs.map (·.2))) : ∃ ss, StrsAre vs ss ∧ ss.Perm (zs.map txtE) := by
  have h1 : ∀ v ∈ vs, ∃ x t, v = Value.str x t := fun v hv => by
    obtain ⟨z, hz, e⟩ := List.mem_map.mp (p.mem_iff.mp hv)
    obtain ⟨x, t, h2, _⟩ := g z hz
    exact ⟨x, t, by rw [← e]; exact h2⟩
  refine ⟨vs.map PyProof.Rows.strOf, strsAre_map vs h1, (p.map _).trans (List.Perm.of_eq ?_)⟩
  rw [List.map_map]
  refine List.map_congr_left fun z hz => ?_
  obtain ⟨x, t, h2, _⟩ := g z hz
  show PyProof.Rows.strOf z.2 = txtE z
  unfold txtE
  rw [h2]
  rfl
theorem call_sortedT {Q : Value → Shared → Prop} (R : SetT w s.heap a l) (hh : A.handled = none) (h64 : l.length < 64)
    (hQ : ∀ s' p (out : Array Value) (c : Nat) (ss : List Str), (∀ b o, s.heap.get? b = some o → s'.heap.get? b = some o) → s'.gens = s.gens → s'.os = s.os → s.heap.objs.size ≤ p → s'.heap.get? p = some (seqObj "list" out c) → StrsAre out.toList ss → ss.Perm l → PyProof.Rows.sortedS ss = true → Q (.ref p) s') :
    wpAny (model P w) A (call (.builtin "sorted") [.ref a]) Q E s := by
  obtain ⟨oo, zs, ep, tb, ho, hex, hd, g, hp, nd, hb, hf, hr, hl⟩ := R.ex
  refine Calls.call_function_entry kind_sorted plain_sorted entry_sorted (args_sorted1 _) ?_
  unfold Builtin.«sorted»
  refine wpAny_bind (m := checkCount "sorted" 1 1 _) (wpAny_pure (wpAny_bind (collect_set (A := A.in1) hh ⟨oo, ho, hex.1, hd⟩ hf hb hr hl fun s1 vs k1 hz g1 o1 pm => ?_)))
  obtain ⟨ss, hss, hsp⟩ := strs_txt g pm
  have hvl : vs.length < 64 := by rw [pm.length_eq, List.length_map, ← List.length_map (f := txtE), hp.length_eq]; exact h64
  refine wpAny_bind (wpAny_newList ?_ (by rw [sizeLine_eq]; omega))
  have hoL : (s1.heap.push (seqObj "list" vs.toArray 0)).get? s1.heap.objs.size = some (seqObj "list" vs.toArray 0) := Heap.get?_push_size _ rfl
  refine wpAny_bind (wpAny_holding (wpAny_call_entry slot_list_sort ⟨_, hoL, rfl⟩ entry_list_sort (list_sort_treeK strKind_oneLt hoL hss.keysOf (fun v₁ v₂ rest e => keyKind_strs (by rw [← e]; exact hss)) hvl fun st' a1 a2 => ⟨_, rfl, ?_⟩) (args_list_sort _)))
  obtain ⟨ss', b1, b2, b3⟩ := sorted_out_str hss a1 a2
  obtain ⟨c, hc⟩ := sortedHeap_at (vs := vs) (out := (arrOf st').map (·.2)) hoL
  refine wpAny_pure ⟨_, rfl, hQ _ s1.heap.objs.size _ c ss' (fun b u e => ?_) g1 o1 hz hc b1 (b2.trans (hsp.trans hp)) b3⟩
  have q := k1 b u e
  have hlt := Heap.lt_size q
  show (sortedHeap (s1.heap.push (seqObj "list" vs.toArray 0)) s1.heap.objs.size vs _).get? b = some u
  rw [sortedHeap_old (Nat.ne_of_lt hlt) (by rw [size_push']; exact Nat.lt_succ_of_lt hlt)]
  exact Heap.get?_push_of_some _ q
end
/-! ### over the layer -/
def SetTO (w : World) (a : Addr) (l : List Str) : HO := .ext fun h => SetT w h a l
section
variable {X : L2.Cx}
theorem setT_ok {P : Program} {w : World} {H : Hp} {h : Heap} {a : Addr} {l : List Str} (R : SetT w h a l) : ObjOk P w H h a (SetTO w a l) := by
  obtain ⟨oo, zs, ep, tb, ho, r⟩ := R.ex
  exact ⟨⟨oo, zs, ep, tb, ho, r⟩, ⟨oo, ho⟩, fun h1 h2 p k => SetT.at p k⟩
/-- set(list of texts) -/
def rSetT (K : PySem.W.Frag) (w : World) : List V → Hp → VK → Prop := fun xs H Q => ∃ (a : Addr) (ws : List Str), xs = [V.ref a] ∧ SqL K H a (ws.map V.str) ∧ ws.length ≤ 1000 ∧ ∀ p, H p = none → Q (.ref p) (upd H p (SetTO w p (ofListT ws)))
theorem cr_setT (hc : X.calm = true) : CallR X (.type "set") (rSetT X.K X.w) := by
  intro pins s σ H xs us Q I r h
  obtain ⟨a, ws, rfl, hs, hz, q⟩ := h
  rw [Vals.ref1 r]
  obtain ⟨its, rv, hl, _⟩ := I.list hs
  refine call_setT (ws := ws) (I.ok.hd hc) hl.isList (by simpa using rv) (Nat.lt_of_le_of_lt (Nat.succ_le_succ hz) (by decide)) fun h' tk R keep => ?_
  exact ⟨.ref _, upd H s.heap.objs.size (SetTO X.w s.heap.objs.size (ofListT ws)), I.laid (t' := tk) (fun b o e => keep b o (Heap.lt_size e) e) (Nat.le_refl _) (setT_ok R), rfl, q _ (I.hok.fresh (Nat.le_refl _))⟩
/-- sorted(set of texts), fewer than 64 -/
def rSortT (w : World) : List V → Hp → VK → Prop := fun vs H Q => ∃ (a : Addr) (l : List Str), vs = [V.ref a] ∧ H a = some (SetTO w a l) ∧ l.length < 64 ∧ ∀ (ss : List Str) (p : Addr), ss.Perm l → PyProof.Rows.sortedS ss = true → H p = none → Q (.ref p) (upd H p (.lst (ss.map V.str)))
theorem cr_sortT (hc : X.calm = true) : CallR X (.builtin "sorted") (rSortT X.w) := by
  intro pins s σ H vs us Q I r h
  obtain ⟨a, l, rfl, ha, h64, q⟩ := h
  have R : SetT X.w s.heap a l := (I.hok a _ ha).1
  rw [Vals.ref1 r]
  refine call_sortedT R (I.ok.hd hc) h64 fun s' p out c ss k g o hp hg hi hs hso => ?_
  have hlen : (ss.map V.str).length ≤ sizeLine := by
    rw [List.length_map, hs.length_eq, sizeLine_eq]
    omega
  have hn : H p = none := I.hok.fresh hp
  have J : Inv X pins σ (upd H p (.lst (ss.map V.str))) { s with heap := s'.heap, gens := s'.gens, drawn := s'.drawn, toks := s'.toks } :=
    I.call (ch := []) (Un.laid k hp hn) (I.hok.laid k hp ⟨hlen, out.toList, c, vals_of_strs hi, hg⟩) (by rw [g]; exact I.bare) (fun _ z => nomatch z)
  have e : s' = { s with heap := s'.heap, gens := s'.gens, drawn := s'.drawn, toks := s'.toks } := by
    cases s'
    cases s
    cases o
    rfl
  rw [e]
  exact ⟨.ref p, _, J, rfl, q ss p hs hso hn⟩
end
end Fp

/-! crossings: the first one that a search finds, what tells of one -/
namespace Fp
open PySem L2
open PyProof.Rows (sortedS risingS ltCps_eq)
def zeroX (p : Int) (s : Bg) (a c b d : Str) : Prop := (cf s (a ++ b) * cf s (c ++ d) - cf s (a ++ d) * cf s (c ++ b)) % p = 0
theorem noX_in {p : Int} {s : Bg} {n k : Nat} {fs es : List Str} (h : Lev n s) (hf : ∀ x, x ∈ fs ↔ x ∈ s.map fun e => fr k e.1) (he : ∀ x, x ∈ es ↔ x ∈ s.map fun e => bk k e.1)
    (hz : ∀ a ∈ fs, ∀ c ∈ fs, ∀ b ∈ es, ∀ d ∈ es, zeroX p s a c b d) : NoX p k s := by
  intro a b c d ha hc
  by_cases hx : (cf s (a ++ b) * cf s (c ++ d) - cf s (a ++ d) * cf s (c ++ b)) % p = 0
  · exact hx
  · obtain ⟨⟨x1, h1⟩, ⟨x2, h2⟩, ⟨x3, h3, q3⟩, ⟨x4, h4, q4⟩⟩ := cross_in h hx
    have hF : ∀ {a x : Str}, a.length = k → a ++ x ∈ keys s → a ∈ fs := fun {a x} ha hm => by
      obtain ⟨m, hm⟩ := mem_keys.mp hm
      exact (hf a).mpr (List.mem_map.mpr ⟨_, hm, fr_app ha⟩)
    have hE : ∀ {a x : Str}, a.length = k → a ++ x ∈ keys s → x ∈ es := fun {a x} ha hm => by
      obtain ⟨m, hm⟩ := mem_keys.mp hm
      exact (he x).mpr (List.mem_map.mpr ⟨_, hm, bk_app ha⟩)
    exact hz a (hF ha h1) c (hF hc h2) b (hE (by rcases q3 with rfl | rfl <;> assumption) h3) d (hE (by rcases q4 with rfl | rfl <;> assumption) h4)
/-- a row is the first one so many times -/
def rowZ (p : Int) (s : Bg) (f0 e0 : Str) (es : List Str) (a : Str) : Prop := ∀ b ∈ es, (cf s (a ++ b) - cf s (a ++ e0) * inv p (cf s (f0 ++ e0)) * cf s (f0 ++ b)) % p = 0
theorem rows_noX {p : Int} {s : Bg} {n k : Nat} {fs es : List Str} {f0 e0 : Str} (h : Lev n s) (hf : ∀ x, x ∈ fs ↔ x ∈ s.map fun e => fr k e.1) (he : ∀ x, x ∈ es ↔ x ∈ s.map fun e => bk k e.1) (hz : ∀ a ∈ fs, rowZ p s f0 e0 es a) : NoX p k s := by
  refine noX_in h hf he fun a ha c hc b hb d hd => ?_
  have q : ∀ {a b : Str}, a ∈ fs → b ∈ es → cf s (a ++ b) % p = cf s (a ++ e0) * inv p (cf s (f0 ++ e0)) * cf s (f0 ++ b) % p := fun {a b} ha hb => Int.emod_eq_emod_iff_emod_sub_eq_zero.mpr (hz a ha b hb)
  unfold zeroX
  rw [Int.sub_emod, Int.mul_emod, q ha hb, q hc hd, ← Int.mul_emod, Int.mul_emod (cf s (a ++ d)), q ha hd, q hc hb, ← Int.mul_emod, ← Int.sub_emod]
  generalize cf s (a ++ e0) * inv p (cf s (f0 ++ e0)) = x
  generalize cf s (c ++ e0) * inv p (cf s (f0 ++ e0)) = y
  generalize cf s (f0 ++ b) = u
  generalize cf s (f0 ++ d) = v
  rw [show x * u * (y * v) - x * v * (y * u) = 0 from by rw [Int.mul_assoc, Int.mul_assoc, Int.mul_left_comm u, Int.mul_left_comm v, Int.mul_comm u v]; omega, Int.zero_emod]

/-! ### sorted texts are one list only -/
def leT (a b : Str) : Prop := a.cps.toList ≤ b.cps.toList
theorem rising_pw : ∀ {l : List Str} {p : Str}, risingS p l = true → (p :: l).Pairwise leT
  | [], p, _ => List.pairwise_cons.mpr ⟨(fun _ h => nomatch h), .nil⟩
  | x :: r, p, h => by
    have h' : (!PySem.Spec.ltCps x.cps.toList p.cps.toList && risingS x r) = true := h
    obtain ⟨h1, h2⟩ := Bool.and_eq_true_iff.mp h'
    have ih := rising_pw h2
    have hpx : leT p x := by
      rw [ltCps_eq] at h1
      unfold leT
      exact List.not_lt.mp fun q => by rw [decide_eq_true q] at h1; cases h1
    refine List.pairwise_cons.mpr ⟨fun y hy => ?_, ih⟩
    rcases List.mem_cons.mp hy with rfl | hy
    · exact hpx
    · exact List.le_trans hpx ((List.pairwise_cons.mp ih).1 y hy)
theorem sorted_pw {l : List Str} (h : sortedS l = true) : l.Pairwise leT := by
  cases l with
  | nil => exact .nil
  | cons x r => exact rising_pw h
theorem sorted_uniq {xs ys : List Str} (h : xs.Perm ys) (hx : sortedS xs = true) (hy : sortedS ys = true) : xs = ys :=
  List.Perm.eq_of_pairwise (le := leT) (fun a b _ _ h1 h2 => str_ext (List.le_antisymm h1 h2)) (sorted_pw hx) (sorted_pw hy) h
/-! ### what crosses -/
def crossB (p : Int) (s : Bg) (a c b e : Str) : Bool := decide ((cf s (a ++ b) * cf s (c ++ e) - cf s (a ++ e) * cf s (c ++ b)) % p ≠ 0)
def firstX (p : Int) (s : Bg) (F T : Str) (fs es : List Str) : Option (Str × Str) := fs.findSome? fun o => (es.find? fun e => crossB p s F o T e).map fun e => (o, e)
theorem firstX_at {p : Int} {s : Bg} {F T : Str} {fs es : List Str} {i j : Nat} {o e : Str} (ho : fs[i]? = some o) (he : es[j]? = some e) (h1 : ∀ o' ∈ fs.take i, ∀ e' ∈ es, crossB p s F o' T e' = false) (h2 : ∀ e' ∈ es.take j, crossB p s F o T e' = false) (h3 : crossB p s F o T e = true) : firstX p s F T fs es = some (o, e) := by
  obtain ⟨hi, ho'⟩ := List.getElem?_eq_some_iff.mp ho
  obtain ⟨hj, he'⟩ := List.getElem?_eq_some_iff.mp he
  have ef : fs = fs.take i ++ o :: fs.drop (i + 1) := by conv => lhs; rw [← List.take_append_drop i fs, List.drop_eq_getElem_cons hi, ho']
  have ee : es = es.take j ++ e :: es.drop (j + 1) := by conv => lhs; rw [← List.take_append_drop j es, List.drop_eq_getElem_cons hj, he']
  have q1 : es.find? (fun e => crossB p s F o T e) = some e := by
    rw [ee, List.find?_append, List.find?_eq_none.mpr (fun x hx z => by rw [h2 x hx] at z; cases z), List.find?_cons, h3]
    rfl
  unfold firstX
  rw [ef, List.findSome?_append]
  have q2 : (fs.take i).findSome? (fun o => (es.find? fun e => crossB p s F o T e).map fun e => (o, e)) = none := by
    refine List.findSome?_eq_none_iff.mpr fun o' ho'' => ?_
    rw [List.find?_eq_none.mpr (fun x hx z => by rw [h1 o' ho'' x hx] at z; cases z)]
    rfl
  rw [q2, List.findSome?_cons, q1]
  rfl
/-- the words that a search tells -/
structure FirstX (p : Int) (k : Nat) (s : Bg) (o e : Str) : Prop where
  ex : ∃ fs es : List Str, fs.Perm (ofListT ((keys s).map (fr k))) ∧ sortedS fs = true ∧ es.Perm (ofListT ((keys s).map (bk k))) ∧ sortedS es = true ∧ firstX p s (fr k (lead s)) (bk k (lead s)) fs es = some (o, e)
theorem FirstX.uniq {p : Int} {k : Nat} {s : Bg} {o e o' e' : Str} (h : FirstX p k s o e) (h' : FirstX p k s o' e') : o = o' ∧ e = e' := by
  obtain ⟨fs, es, a1, a2, a3, a4, a5⟩ := h.ex
  obtain ⟨fs', es', b1, b2, b3, b4, b5⟩ := h'.ex
  rw [sorted_uniq (a1.trans b1.symm) a2 b2, sorted_uniq (a3.trans b3.symm) a4 b4, b5] at a5
  cases a5
  exact ⟨rfl, rfl⟩
theorem FirstX.cross {p : Int} {k : Nat} {s : Bg} {o e : Str} (h : FirstX p k s o e) : crossB p s (fr k (lead s)) o (bk k (lead s)) e = true ∧ o ∈ (keys s).map (fr k) ∧ e ∈ (keys s).map (bk k) := by
  obtain ⟨fs, es, a1, a2, a3, a4, a5⟩ := h.ex
  unfold firstX at a5
  obtain ⟨o', ho, h1⟩ := List.exists_of_findSome?_eq_some a5
  cases hq : es.find? (fun e => crossB p s (fr k (lead s)) o' (bk k (lead s)) e) with
  | none => rw [hq] at h1; cases h1
  | some e' =>
    rw [hq] at h1
    cases Option.some.inj h1
    have h2 : crossB p s (fr k (lead s)) o (bk k (lead s)) e = true := List.find?_some hq
    exact ⟨h2, ofListT_mem.mp (a1.mem_iff.mp ho), ofListT_mem.mp (a3.mem_iff.mp (List.mem_of_find?_eq_some hq))⟩
/-- where no search finds any, nothing crosses -/
theorem none_noX {p : Int} {s : Bg} {n k : Nat} {fs es : List Str} (hp : Prm p) (gs : Good p s) (h : Lev n s) (hk : k ≤ n) (hf : ∀ x, x ∈ fs ↔ x ∈ (keys s).map (fr k)) (he : ∀ x, x ∈ es ↔ x ∈ (keys s).map (bk k))
    (hz : ∀ a ∈ fs, ∀ b ∈ es, crossB p s (fr k (lead s)) a (bk k (lead s)) b = false) : NoX p k s := by
  have hkm : ∀ f : Str → Str, (keys s).map f = s.map fun e => f e.1 := fun f => by unfold keys; rw [List.map_map]; rfl
  refine rows_noX (fs := fs) (es := es) (f0 := fr k (lead s)) (e0 := bk k (lead s)) h (fun x => by rw [hf, hkm]) (fun x => by rw [he, hkm]) fun a ha b hb => ?_
  have h1 := hp.pos
  obtain ⟨c0, c1⟩ := lead_pos hp h gs
  have hl := (lead_cut h hk).1
  have hq := hz a ha b hb
  unfold crossB at hq
  have hq : (cf s (fr k (lead s) ++ bk k (lead s)) * cf s (a ++ b) - cf s (fr k (lead s) ++ b) * cf s (a ++ bk k (lead s))) % p = 0 := by
    by_cases z : (cf s (fr k (lead s) ++ bk k (lead s)) * cf s (a ++ b) - cf s (fr k (lead s) ++ b) * cf s (a ++ bk k (lead s))) % p = 0
    · exact z
    · rw [decide_eq_true z] at hq; cases hq
  rw [hl] at hq ⊢
  obtain ⟨i1, _, _⟩ := inv_one hp c0 c1
  generalize cf s (lead s) = C at hq i1 ⊢
  generalize inv p C = I at i1 ⊢
  generalize cf s (a ++ b) = x at hq ⊢
  generalize cf s (fr k (lead s) ++ b) = z at hq ⊢
  generalize cf s (a ++ bk k (lead s)) = y at hq ⊢
  refine Int.emod_eq_emod_iff_emod_sub_eq_zero.mp ?_
  have e1 := Int.emod_eq_emod_iff_emod_sub_eq_zero.mpr hq
  calc x % p = (I * C % p) * x % p := by rw [i1, Int.one_mul]
    _ = I * (C * x % p) % p := by rw [Int.mul_emod (I * C % p), Int.emod_emod, ← Int.mul_emod, Int.mul_assoc, Int.mul_emod I (C * x), Int.mul_emod I (C * x % p), Int.emod_emod]
    _ = I * (z * y % p) % p := by rw [e1]
    _ = y * I * z % p := by rw [Int.mul_emod I (z * y % p), Int.emod_emod, ← Int.mul_emod, Int.mul_comm I, Int.mul_comm z y, Int.mul_assoc, Int.mul_assoc, Int.mul_comm z I]
end Fp

/-! Sets of texts that a comprehension makes. -/
namespace Fp
open PySem PySem.Spec PyProof.Rows L2
section
variable {P : Program} {w : World} {A : Around} {E : Value → Shared → Prop} {s : Shared} {a : Addr} {l : List Str}
theorem SetT.ty (R : SetT w s.heap a l) : s.TypeIs (.ref a) "set" := by
  obtain ⟨oo, zs, ep, tb, ho, hex, _⟩ := R.ex
  exact ⟨oo, ho, hex.1⟩
/-- set.add of a text -/
theorem setT_addCall {x : Str} {u : Tok} {Q : Value → Shared → Prop} (R : SetT w s.heap a l) (room : l.length + 1 < scanBound)
    (hQ : ∀ h' : Heap, Heap.SameBut a s.heap h' → SetT w h' a (addT l x) → Q .none { s with heap := h', toks := s.toks + 1 }) : wpAny (model P w) A (call (.builtin "set.add") [.ref a, .str x u]) Q E s := by
  refine wpAny_call_entry PySem.F.slot_set_add R.ty PySem.F.entry_set_add ?_ (PySem.F.args_set_add_2 _ _)
  unfold Builtin.«set.add» Builtin.Frozenset.oneOther
  simp only [List.isEmpty_nil, bind_assoc]
  unfold Builtin.Frozenset.addrOf setAdd
  refine wpAny_bind (wpAny_pure ?_)
  (try dsimp only)
  refine wpAny_bind (wpAny_pure ?_)
  (try dsimp only)
  refine wpAny_bind (wpAny_holding (wpAny_bind ((strKind P w).pyHash (k := x) (strKind_is P w x u) ?_)))
  refine setT_add (s := { s with toks := s.toks + 1 }) R room fun _ h' sb r => ?_
  show wpAny _ _ (ret Value.none) _ _ _
  exact wpAny_pure ⟨_, rfl, hQ h' sb r⟩
end
section
variable {X : L2.Cx}
theorem addT_inv {pins : List (Addr × Obj)} {σ : L2.St} {H : Hp} {s : Shared} {E : Value → Shared → Prop} {D : Addr} {l : List Str} {x : Str} {u : Tok} {Q : Value → Shared → Prop} (I : Inv X pins σ H s) (hD : H D = some (SetTO X.w D l)) (room : l.length + 1 < scanBound)
    (h : ∀ s', Inv X pins σ (upd H D (SetTO X.w D (addT l x))) s' → Q .none s') : wpAny (model X.prog X.w) X.A (call (.builtin "set.add") [.ref D, .str x u]) Q E s := by
  have R : SetT X.w s.heap D l := (I.hok D _ hD).1
  refine setT_addCall R room fun h' sb new => ?_
  have he : ∃ o, h'.get? D = some o := by
    obtain ⟨oo, _, _, _, ho, _⟩ := new.ex
    exact ⟨oo, ho⟩
  exact h _ (I.write (e := D) (t' := s.toks + 1) (by rw [hD]; trivial) (.inl rfl) (fun b o hb e => (sb.2 b hb).trans e) he (setT_ok new))
/-- {text for target in iter if ..}: the turns, then the set D -/
def tScT (w : World) (wi : TI) (g : TG) (tt : TT) (te : TE) (vs : List Nat) : TE := fun σ H Q => wi σ H fun J H1 => ∀ D, H1 D = none → ∃ W : Nat → Nat → Hp → Prop, (∃ m, W 0 m (upd H1 D (SetTO w D []))) ∧ ∀ i m H, W i m H →
  (J.stop i H ∧ Q (.ref D) H) ∨ (J.go i H ∧ ∃ Nx : Hp → Prop, (∀ H', Nx H' → ∃ m', m' < m ∧ W (i + 1) m' H') ∧ ∀ x H', J.yld i H x H' → g x (wipe σ vs) H' fun σ2 H2 => wipe σ2 vs = wipe σ vs ∧ tt σ2 H2 fun b H3 =>
    if b = true then te σ2 H3 fun y H4 => ∃ (c : Str) (l : List Str), y = .str c ∧ H4 D = some (SetTO w D l) ∧ l.length + 1 < scanBound ∧ Nx (upd H4 D (SetTO w D (addT l c))) else Nx H3)
/-- how things stand in the block between two turns -/
def Between (Y : L2.Cx) (vs : List Nat) (σ : L2.St) (fp : List Addr) (tn : Nat → Heap → Prop) (W : Nat → Nat → Hp → Prop) (m : Nat) (s : Shared) : Prop :=
  ∃ i H, Inv Y [] (wipe σ vs) H s ∧ tn i s.heap ∧ (∀ b ∈ fp, H b = none) ∧ W i m H
theorem pe_scT {elt tg iter : Expr} {ifs : List Expr} {scope : Scope} {own : List (Str × Nat)} {pos : Pos} {wi : TI} {g : TG} {tt : TT} {te : TE} (hc : X.calm = true) (hN : X.N.Nodup) (hi : PI X tg iter wi) (ok : BlkOk X.N X.env.scope scope own)
    (hg : ∀ (s : Shared) (H : Hp) (C : Addr) (cl : List (Str × Addr)) (fp : List Addr), PG (X.blk s H scope (compEnvC scope cl C X.env) fp) tg g) (ht : ∀ (s : Shared) (H : Hp) (C : Addr) (cl : List (Str × Addr)) (fp : List Addr), PTs (X.blk s H scope (compEnvC scope cl C X.env) fp) ifs tt)
    (he : ∀ (s : Shared) (H : Hp) (C : Addr) (cl : List (Str × Addr)) (fp : List Addr), PE (X.blk s H scope (compEnvC scope cl C X.env) fp) elt te) (hs : ∀ x, foldedSetIterable iter X.env x = pure x := by intro _; rfl) :
    PE X (.SetComp elt [⟨tg, iter, ifs, 0⟩] scope pos) (tScT X.w wi g tt te (own.map (·.2))) := by
  refine ⟨fun pins s σ H Q I h => ?_⟩
  rw [PpSet.eval_SetComp]
  have hfree : ∀ y ∈ scope.names, y.2 = .free → ∃ c, X.env.cells.lookup y.1 = some c := fun y hy e => I.ok.has _ (ok.free y hy e)
  refine wpAny_comprehension_free rfl hs (closure_ok hfree) ok.kind (fun y hy e => by rw [ok.uniq y hy, e]) (thn (hi.run pins s σ H _ I h) fun _ _ hx => thn hx fun _ s2 h2 => ?_)
  obtain ⟨it, fp, tn, J, H2, rfl, I2, T, st2, f2, q⟩ := h2
  refine PpSet.newSet_ok (newEnv_comp ?_)
  -- the new set stands
  obtain ⟨W, ⟨m0, w0⟩, turn⟩ := q s2.heap.objs.size (I2.hok.fresh (Nat.le_refl _))
  have Is := I2.laid (t' := s2.toks) (o := SetTO X.w s2.heap.objs.size []) (fun b o e => Heap.get?_push_of_some (newSet X.w) e) (Nat.le_refl _) (setT_ok newSet_is)
  have fps : ∀ b ∈ fp, FpOk X pins (upd H2 s2.heap.objs.size (SetTO X.w s2.heap.objs.size [])) b ∧ b < (s2.heap.push (newSet X.w)).objs.size := fun b hb => by
    obtain ⟨o, e, _⟩ := T.obj _ _ st2 b hb
    have lt := Heap.lt_size e
    refine ⟨⟨?_, (f2 b hb).2⟩, by rw [Heap.size_push]; exact Nat.lt_succ_of_lt lt⟩
    rw [upd_ne (Nat.ne_of_lt lt)]
    exact (f2 b hb).1
  have sts : tn 0 (s2.heap.push (newSet X.w)) := T.keep _ _ _ st2 fun b _ o e => Heap.get?_push_of_some _ e
  obtain ⟨s3, hs3⟩ : ∃ s3 : Shared, s3 = { s2 with heap := s2.heap.push (newSet X.w) } := ⟨_, rfl⟩
  obtain ⟨H3, hH3⟩ : ∃ H3, H3 = upd H2 s2.heap.objs.size (SetTO X.w s2.heap.objs.size []) := ⟨_, rfl⟩
  obtain ⟨D, hD⟩ : ∃ D, D = s2.heap.objs.size := ⟨_, rfl⟩
  have e3 : s3.heap = s2.heap.push (newSet X.w) := by rw [hs3]
  rw [← hH3] at Is fps w0
  have Is' : Inv X pins σ H3 s3 := by rw [hs3]; exact Is
  rw [← e3] at fps sts
  rw [← hD] at turn
  show codeAny _ _ (.compStart _ 0 (.ref it) (.ref s2.heap.objs.size) _) (compPost (model X.prog X.w) X.A X.xe none _ (.ref s2.heap.objs.size) _) _
  rw [show ({ s2 with heap := s2.heap.push { cls := .type "set", dict := none, data := .set #[] 0 (.fresh 0 0 (!X.w.params.followText "set-order")) } } : Shared) = s3 from hs3.symm, ← hD]
  clear Is
  have I4 := block_start Is' ok hN fps
  obtain ⟨C, hC⟩ : ∃ C, C = s3.heap.objs.size := ⟨_, rfl⟩
  have pg := hg s3 H3 C (cellsFrom (C + 1) scope.names (cloFrom X.env.cells scope.names [])) fp
  have pt := ht s3 H3 C (cellsFrom (C + 1) scope.names (cloFrom X.env.cells scope.names [])) fp
  have pe := he s3 H3 C (cellsFrom (C + 1) scope.names (cloFrom X.env.cells scope.names [])) fp
  rw [← hC] at I4 ⊢
  show codeAny _ _ (.compStart (.SetComp elt [⟨tg, iter, ifs, 0⟩] scope pos) 0 (.ref it) (.ref D) (compEnvC scope (cellsFrom (C + 1) scope.names (cloFrom X.env.cells scope.names [])) C X.env)) (compPost (model X.prog X.w) X.A X.xe none (EP X pins σ Q) (.ref D) C) _
  have sts4 : tn 0 (pushCells (s3.heap.push { cls := .type "dict", data := .dict #[] }) scope.names) := T.keep _ _ _ sts fun b _ o e => pushCells_keeps _ _ _ _ (Heap.get?_push_of_some _ e)
  generalize hce : compEnvC scope (cellsFrom (C + 1) scope.names (cloFrom X.env.cells scope.names [])) C X.env = ce at I4 pg pt pe ⊢
  have hloc : ce.locals = C := by rw [← hce]; rfl
  generalize hs4 : ({ s3 with heap := pushCells (s3.heap.push { cls := .type "dict", data := .dict #[] }) scope.names } : Shared) = s4 at I4 ⊢
  have sts5 : tn 0 s4.heap := by rw [← hs4]; exact sts4
  -- the iterator's own things stay where they are
  have own4 : ∀ {σ' : L2.St} {H' : Hp} {s' : Shared}, Inv (X.blk s3 H3 scope ce fp) [] σ' H' s' → (∀ b ∈ fp, H' b = none) → ∀ b ∈ fp, FpOk (X.blk s3 H3 scope ce fp) [] H' b := fun I' hn b hb =>
    ⟨hn b hb, (I'.ok.exf b hb).1, I'.ok.exfs b hb, .inl hb, fun x c e => (I'.ok.exf b hb).2 x c e, fun z hz => absurd hz (by simp)⟩
  have none3 : ∀ b ∈ fp, H3 b = none := fun b hb => (fps b hb).1.1
  have loop : codeAny (model X.prog X.w) X.A (.compLoop (.SetComp elt [⟨tg, iter, ifs, 0⟩] scope pos) 0 (.ref it) (.ref D) ce) (compPost (model X.prog X.w) X.A X.xe none (EP X pins σ Q) (.ref D) C) s4 := by
    refine PpSet.compLoopS_any (Between (X.blk s3 H3 scope ce fp) (own.map (·.2)) σ fp tn W) ?_ m0 ⟨0, H3, I4, sts5, none3, w0⟩
    rintro n s5 ⟨i, H5, I5, st5, n5, w5⟩
    rcases turn i n H5 w5 with ⟨stop, qq⟩ | ⟨go, Nx, hNx, step⟩
    · refine thnF (T.done (X.blk s3 H3 scope ce fp) rfl rfl rfl hc i [] s5 _ H5 (fun _ _ => False) I5 (own4 I5 n5) st5 stop) fun r s6 hr => ?_
      obtain ⟨rfl, I6⟩ := hr
      -- back in the def's own frame
      have I7 : Inv X pins σ H5 s6 := Is'.call' (ch := fp) I6.os I6.base I6.hok I6.bare fun b hb => ⟨(fps b hb).1.2.2.2.1, (fps b hb).1.2.1, (fps b hb).1.2.2.2.2.1, (fps b hb).1.2.2.2.2.2⟩
      have nC : H5 s3.heap.objs.size = none := by
        have z : H5 ce.locals = none := I6.free
        rwa [hloc, hC] at z
      obtain ⟨m, hn, _⟩ := I6.loc
      have hn' : s6.heap.Ns C m := by rw [← hloc]; exact hn
      obtain ⟨f0, f1, _, f3, f4, f5⟩ := Is'.fpOk (Nat.le_refl _) nC
      rw [← hC] at f0 f1 f3 f4 f5
      exact ⟨m, hn', fun h'' sb => ⟨.ref D, H5, I7.turned (t' := s6.toks) (fun b o hb e => (sb.2 b hb).trans e) f0 f1 f3 f4 f5, rfl, qq⟩⟩
    · refine thnF (T.item (X.blk s3 H3 scope ce fp) rfl rfl rfl hc i [] s5 _ H5 (fun _ _ => False) I5 (own4 I5 n5) st5 go) fun r s6 hr => ?_
      obtain ⟨u, rfl, h6⟩ := hr
      refine thnF h6 fun _ s7 h7 => ?_
      obtain ⟨x, H7, I7, r7, y7, st7, n7⟩ := h7
      refine thnF (pg.run _ s7 _ H7 x u _ (I7.pinned (own4 I7 n7) (T.obj _ _ st7)) r7 (step x H7 y7)) fun _ s8 h8 => ?_
      obtain ⟨σ8, H8, I8, hw8, q8⟩ := h8
      refine thnF (pt.run _ s8 σ8 H8 _ I8 q8) fun b s9 h9 => ?_
      obtain ⟨H9, I9, q9⟩ := h9
      -- the turn is over
      have over : ∀ {s' : Shared} {H' : Hp}, Inv (X.blk s3 H3 scope ce fp) ([] ++ pinsAt fp s7.heap) σ8 H' s' → Nx H' → ∃ m, m < n ∧ Between (X.blk s3 H3 scope ce fp) (own.map (·.2)) σ fp tn W m s' := fun {s' H'} I' nx => by
        obtain ⟨m', hm, w'⟩ := hNx H' nx
        have pn : ∀ b ∈ fp, ∀ o, s7.heap.get? b = some o → s'.heap.get? b = some o ∧ H' b = none := fun b hb o e => by
          have z := I'.pin (b, o) (List.mem_append_right _ (List.mem_append_right _ (mem_pinsAt hb e)))
          exact ⟨z.1, z.2.1⟩
        have hl : (wipe σ (own.map (·.2))).length = σ8.length := by rw [← hw8, wipe_length]
        refine ⟨m', hm, i + 1, H', (I'.unpinned (pins := [])).weak hl (fun j v e => ?_), T.keep _ _ _ st7 fun b hb o e => (pn b hb o e).1, fun b hb => ?_, w'⟩
        · rw [← hw8] at e
          exact (wipe_some e).1
        · obtain ⟨o, e, _⟩ := T.obj _ _ st7 b hb
          exact (pn b hb o e).2
      cases b with
      | false =>
        rw [if_neg Bool.false_ne_true] at q9 ⊢
        exact over I9 q9
      | true =>
        rw [if_pos rfl] at q9 ⊢
        refine thnF (pe.run _ s9 σ8 H9 _ I9 q9) fun z s10 h10 => ?_
        obtain ⟨yv, H10, I10, r10, c1, l1, rfl, hD10, hz10, nx⟩ := h10
        obtain ⟨tk, rfl⟩ := r10
        exact addT_inv (X := X.blk s3 H3 scope ce fp) I10 hD10 hz10 fun s11 I11 => over I11 nx
  exact PpSet.codeAny_compStart_set loop (T.self X.A 0 _ _ _ sts5 loop)
end
/-- texts made of a dict's keys, as a set -/
theorem scd_texts {w : World} {σ : L2.St} {H : Hp} {Q : VK} {d : Addr} {s : Bg} {te0 te : TE} {j : Nat} {vs : List Nat} (hd : Rd H d (.dK (toK s))) (hz : s.length ≤ 1000)
    (he : ∀ (H' : Hp) (Q : VK), LkEx d s H H' → Q (.ref d) H' → te0 σ H' Q) (f : Str → Str) (hw : ∀ x, wipe ((wipe σ vs).set j x) vs = wipe σ vs)
    (hs : ∀ (i : Nat) (z : Str) (n : Int) (H' : Hp) (K : VK), s[i]? = some (z, n) → LkEx d s H H' → (∀ H4, Ex H' H4 → K (.str (f z)) H4) → te ((wipe σ vs).set j (some (.str z))) H' K)
    (hend : ∀ D H', H D = none → Ex H H' → H' D = some (SetTO w D (ofListT ((keys s).map f))) → Q (.ref D) H') : tLockRE (tScT w (iKeys te0) (gName j) tYes te vs) σ H Q := by
  refine lock_any hd fun Hl od Q' hl l0 hnone hq => ?_
  refine he Hl _ l0 ⟨d, od, rfl, .inl ⟨toK s, hl, fun D hD => ?_⟩⟩
  have hDd : D ≠ d := fun z => by subst z; rw [hl] at hD; cases hD
  refine ⟨fun i m H' => m = s.length - i ∧ i ≤ s.length ∧ Ex Hl H' ∧ H' D = some (SetTO w D (ofListT ((keys (s.take i)).map f))), ⟨s.length, by simp, Nat.zero_le _, Ex.new hD, upd_same⟩, ?_⟩
  rintro i m H2 ⟨rfl, hi, e2, hD2⟩
  have hl2 := e2 _ _ hl
  by_cases hlt : i < s.length
  · refine .inr ⟨⟨hl2, by rw [toK_len]; exact hlt⟩, fun H' => Ex Hl H' ∧ H' D = some (SetTO w D (ofListT ((keys (s.take (i + 1))).map f))), fun H' p => ⟨s.length - (i + 1), by omega, rfl, hlt, p.1, p.2⟩, ?_⟩
    rintro x H' ⟨rfl, k, v, hk, rfl⟩
    obtain ⟨z, n, hw', ekv⟩ := toK_get hk
    cases ekv
    refine ⟨hw _, ?_⟩
    unfold tYes
    dsimp only
    rw [if_pos rfl]
    refine hs i z n _ _ hw' (l0.ex e2) fun H4 e4 => ⟨f z, _, rfl, e4 _ _ hD2, ?_, ?_, ?_⟩
    · have h1 := ofListT_len ((keys (s.take i)).map f)
      rw [List.length_map] at h1
      unfold keys at h1
      rw [List.length_map, List.length_take] at h1
      have h2 : (ofListT ((keys (s.take i)).map f)).length + 1 ≤ 1001 := by unfold keys; omega
      exact Nat.lt_of_le_of_lt h2 (by decide)
    · exact Ex.mut (e2.trans e4) hD
    · rw [upd_same]
      have e9 : addT (ofListT ((keys (s.take i)).map f)) (f z) = ofListT ((keys (s.take (i + 1))).map f) := by
        rw [List.take_add_one, hw', Option.toList_some]
        unfold keys ofListT
        rw [List.map_append, List.map_append, List.foldl_append]
        rfl
      rw [e9]
  · have hi2 : i = s.length := by omega
    refine .inl ⟨⟨hl2, by rw [toK_len, hi2]; exact Nat.le_refl _⟩, ?_⟩
    · rw [hi2, List.take_length] at hD2
      exact hq _ H2 (fun D' z => by cases z; exact hnone _ hD) e2 fun H3 e3 hs3 _ => hend D H3 (hnone _ hD) e3 (by rw [hs3 D hDd]; exact hD2)
end Fp

/-! == of lists of instances with the text's own __eq__, all of them equal. -/
namespace Fp
open PySem PySem.W L2
variable {X : L2.Cx} {n : Nat} {f : Addr} {fd : FuncData} {ps : List Str} {sp : L2.Sp} {CX : L2.CXT}
theorem rcG_own {Cs : Addr → Prop} {D : L2.Eqv} (Fo : L2.FnOk X.prog X.w X.K X.mg X.base CX n f fd ps sp) (ec : EqCls X.K f Cs) (hb : L2.Binds X.K fd ps []) (hx : L2.Passes CX X E0)
    (hD : ∀ (x y : V) (H : Hp) (Q : VK), D x y H → (∀ H', L2.Ext H H' → Q (.bl true) H') → rBagEq X.K sp Cs false x y H Q) : L2.RcG X n D := by
  intro A pins s σ H x y v u sb I rx ry d
  have h := hD x y H (fun v H' => v = .bl true ∧ L2.Ext H H') d fun H' e => ⟨rfl, e⟩
  have back : ∀ (x y : V) (v u : Value), RelV x v → RelV y u → sp [x, y] H (fun v H' => ∃ c, v = .bl c ∧ (V.bl (if false = true then !c else c) = .bl true ∧ L2.Ext H H')) E0 →
      wpAny (model X.prog X.w) A (call (.ref f) [v, u]) (fun v s' => ∃ c, v = .bool c ∧ (Value.bool c = .bool true ∧ ∃ H', Inv X pins σ H' s' ∧ L2.Ext H H')) X.xe s := fun x y v u rx ry h =>
    wpAny_mono (run_fnA (A := A) sb Fo hb hx I (.cons rx (.cons ry .nil)) h) (fun v s' ⟨z, H', I', rz, c, ez, q, ex⟩ => by
      subst ez
      cases rz
      rw [if_neg Bool.false_ne_true] at q
      cases q
      exact ⟨true, rfl, rfl, H', I', ex⟩) fun _ _ e => e
  rcases h with ⟨a, C, dx, fs, t, rfl, ha, hc, ty, hn, h⟩ | ⟨a, b, C, D, dx, fs, dy, gs, rfl, rfl, ha, hb', hc, hd, hne, hsub, h⟩
  · cases rx
    obtain ⟨mA, J, _⟩ := ins_get I.hok ha
    obtain ⟨od, J, _⟩ := J.look
    obtain ⟨P, Z, p, _⟩ := kit_of I ry ty
    exact rich_x (L := a) sb.room.units0 I.kIn J (Z.ty _ _ I.kIn p) hn (try_eq I.kIn J (ec.eq C hc) ec.fn (back (.ref a) y _ _ rfl ry h))
  · cases rx
    cases ry
    obtain ⟨mA, J, _⟩ := ins_get I.hok ha
    obtain ⟨od, J, _⟩ := J.look
    obtain ⟨mB, J', _⟩ := ins_get I.hok hb'
    obtain ⟨od', J', _⟩ := J'.look
    exact rich_refl sb.room.units0 I.kIn J J'.type hne hsub (try_eq I.kIn J' (ec.eq D hd) ec.fn (back (.ref b) (.ref a) _ _ rfl rfl h))
end Fp

/-! != of tuples whose items are equal, by an own __eq__. -/
namespace Fp
open PySem PySem.W L2
section
variable {prog : Program} {w : World} {A : Around} {R : Result → Shared → Prop} {E : Value → Shared → Prop}
theorem ne_core {la lb : Addr} {us vs : Array Value} {m1 m2 : Nat} {d1 d2 : Option Addr} {sl1 sl2 : Array (Option Value)} (hsz : us.size = vs.size) (J : Nat → Shared → Prop)
    (turn : ∀ i (h1 : i < us.size) (h2 : i < vs.size) s, J i s → wpAny (model prog w) A.in1 (eqBool us[i] vs[i]) (fun r s' => r = true ∧ J (i + 1) s') (fun e s' => R (.error e) s') s) (fin : ∀ s, J us.size s → R (.ok (.ret (.bool false))) s)
    {s : Shared} (ha : s.heap.get? la = some { cls := .type "tuple", dict := d1, data := .seq us m1, slots := sl1 }) (hb : s.heap.get? lb = some { cls := .type "tuple", dict := d2, data := .seq vs m2, slots := sl2 }) (h : J 0 s) :
    wpAny (model prog w) A.in1 (Builtin.«tuple.__ne__» ⟨[.ref la, .ref lb], []⟩) (GQ.FinOf prog w A R) (fun e s' => R (.error e) s') s := by
  have f2 := AutoSeq1.sub_tuple_tuple
  have hZ : (us.toList.zip vs.toList).length = us.size := by simp [hsz]
  have h0 := h
  obtain ⟨hp, g, d, tk, os⟩ := s
  wp_walk using wpAny_loadPart' ha, wpAny_loadPart' hb, wpAny_forIn_list _ (fun rest b s' => b.1 = none ∧ ∃ i, rest = (us.toList.zip vs.toList).drop i ∧ i ≤ us.size ∧ J i s') _
  case turn =>
    rintro ⟨y, x⟩ rest b s' ⟨hb', i, hz, hi, hI⟩
    have hlt : i < (us.toList.zip vs.toList).length := by
      rcases Nat.lt_or_ge i (us.toList.zip vs.toList).length with q | q
      · exact q
      · rw [List.drop_of_length_le q] at hz
        cases hz
    have h1 : i < us.size := hZ ▸ hlt
    have h2 : i < vs.size := hsz ▸ h1
    rw [List.drop_eq_getElem_cons hlt] at hz
    injection hz with hyx hrest
    obtain rfl : y = us[i] := by have := congrArg Prod.fst hyx; simpa using this
    obtain rfl : x = vs[i] := by have := congrArg Prod.snd hyx; simpa using this
    refine wpAny_bind (wpAny_mono (turn i h1 h2 s' hI) (fun r s2 q2 => ?_) fun _ _ z => z)
    obtain ⟨hr, q2⟩ := q2
    subst hr
    wp_walk
    exact ⟨rfl, i + 1, hrest, h1, q2⟩
  case fin =>
    rintro ⟨b1, b2⟩ s' ⟨hb', i, hz, hi, hI⟩
    simp only at hb'
    subst hb'
    have hge : us.size ≤ i := by
      rcases Nat.lt_or_ge i (us.toList.zip vs.toList).length with q | q
      · rw [List.drop_eq_getElem_cons q] at hz
        cases hz
      · exact hZ ▸ q
    obtain rfl : i = us.size := by omega
    have hR := fin s' hI
    wp_walk
    simpa [Builtin.Tuple.tupleCompareSizes, hsz] using hR
  case h => exact ⟨rfl, 0, rfl, Nat.zero_le _, h0⟩
theorem ne_tups {la lb : Addr} {us vs : Array Value} {s : Shared} {Q : Value → Shared → Prop} (hsz : us.size = vs.size) (hu : A.units < cLine) (J : Nat → Shared → Prop) (ha : s.heap.IsTuple la us) (hb : s.heap.IsTuple lb vs)
    (turn : ∀ i (h1 : i < us.size) (h2 : i < vs.size) s, J i s → wpAny (model prog w) A.in1 (eqBool us[i] vs[i]) (fun r s' => r = true ∧ J (i + 1) s') E s) (fin : ∀ s, J us.size s → Q (.bool false) s) (h : J 0 s) :
    wpAny (model prog w) A (richCompare .NotEq (.ref la) (.ref lb)) Q E s := by
  obtain ⟨⟨c1, d1, e1, s1⟩, o1, q1, m1, r1⟩ := id ha
  obtain ⟨⟨c2, d2, e2, s2⟩, o2, q2, m2, r2⟩ := id hb
  simp only at q1 r1 q2 r2
  subst q1 r1 q2 r2
  refine wpAny_richCompare_same_room (op := .NotEq) ⟨_, o1, rfl⟩ ⟨_, o2, rfl⟩ F.slot_tuple_ne (GQ.call_here F.slot_tuple_ne ⟨_, o1, rfl⟩ F.entry_tuple_ne (F.args_tuple_ne_2 _ _) ?_) hu
  exact ne_core (R := wants (fun v s' => v ≠ .notImplemented ∧ Q v s') E) hsz J turn (fun s' q => ⟨(fun x => nomatch x), fin s' q⟩) o1 o2 h
end
variable {X : L2.Cx} {n : Nat} {D : L2.Eqv}
/-- x != y, tuples with equal items -/
def rNeT (K : PySem.W.Frag) (D : L2.Eqv) : R2 := fun x y H Q => L2.DTup K D x y H ∧ ∀ H', L2.Ext H H' → Q (.bl false) H'
theorem op_neT (hD : L2.Mon D) (h : L2.EqG X n D) (hr : L2.Room (n + 1) X.A) : OpR X (compareOp .NotEq) (rNeT X.K D) := by
  intro pins s σ H x y v u Q I rx ry hq
  obtain ⟨⟨a, b, xs, ys, rfl, rfl, ha, hb, pr⟩, q⟩ := hq
  show wpAny (model X.prog X.w) X.A (richCompare .NotEq v u) (EP X pins σ Q) X.xe s
  cases rx
  cases ry
  obtain ⟨its, r, e, z⟩ := I.tuple ha
  obtain ⟨its2, r2, e2, z2⟩ := I.tuple hb
  have hsz : its.toArray.size = its2.toArray.size := by
    rw [List.size_toArray, List.size_toArray, ← r.length, ← r2.length]
    exact pr.1
  exact ne_tups hsz hr.units0 (fun _ s' => L2.LoopI X pins σ H s') e e2 (fun i h1 h2 s' q => L2.turnG hD h ⟨hr, rfl⟩ pr r r2 i h1 h2 s' q) (fun s' ⟨H', I', ex⟩ => ⟨.bl false, H', I', rfl, q H' ex⟩) ⟨H, I, L2.Ext.rfl'⟩
end Fp

namespace Fp
open PySem L2
section
variable {P : Program} {w : World} {K : PySem.W.Frag} {mg : Str → Option Value} {base : Heap} {C_Bag : Addr} {Cs : Addr → Prop}
local macro_rules | `(tactic| walk_at "hp") => `(tactic| first | assumption | rfl)
local macro_rules | `(tactic| walk_at "cond") => `(tactic| first | assumption | decide | omega | (unfold CMul; omega) | (refine ⟨?_, ?_⟩ <;> omega) | (unfold CDiv; omega) | (unfold CPow; omega))
local macro_rules | `(tactic| walk_at "g1") => `(tactic| first
  | with_reducible first
    | refine g_seq ?_ | refine g_asg ?_ | refine g_name ?_ | refine g_ret ?_ | refine g_retN ?_ | refine g_drop ?_ | refine g_ifs ?_
    | refine g_c ?_ | refine g_op ?_ | refine g_un ?_ | refine g_I0 ?_ | refine g_U ?_
    | refine g_test ?_ | refine g_tB ?_ | refine g_bl ?_ | refine g_and ?_ | refine g_or ?_ | refine g_not ?_
    | refine g_andV ?_ | refine g_orV ?_ | refine g_notV ?_ | refine g_if ?_ | refine g_nil ?_ | refine g_cons ?_ | refine g_cb ?_ | refine g_call ?_
    | refine g_lst ?_ | refine g_tup ?_ | refine g_itT ?_ | refine g_itF ?_ | refine g_itNT ?_ | refine g_itNF ?_ | refine g_lc ?_ | refine g_iStr ?_ | refine g_yes ?_ | refine g_exs ?_
    | refine g_chain ?_ | refine g_dget ?_ | refine g_dput ?_ | refine g_dget2 ?_ | refine g_dpop2 ?_ | refine g_fld ?_ | refine g_sfld ?_ | refine g_make ?_ | refine g_meth ?_
    | refine g_bm ?_ | refine g_kw ?_ | refine g_callS ?_ | refine g_revL ?_ | refine g_m1 ?_ | refine g_gsub ?_ | refine g_for ?_ | refine g_iList ?_ | refine g_iTup ?_ | refine g_iRng1 ?_ | refine g_iRng2 ?_ | refine g_sl ?_ | refine g_part ?_ | refine g_noPart ?_
    | refine g_exi ?_ | refine g_exr ?_ | refine g_dnew ?_ | refine g_disp ?_ | refine g_prs0 ?_ | refine g_prs ?_ | refine g_nxt ?_
  | ((with_reducible refine g_var (v := ?vv) ?gv ?_); (case gv => exact rfl))
  | ((with_reducible refine g_I ?gc ?_); (case gc => walk_at "cond"))
  | ((with_reducible refine g_eq ?ge ?_); (case ge => exact rfl))
  | ((with_reducible refine g_ne ?ge ?_); (case ge => exact rfl))
  | (refine g_ixl (SqL.of (by first | assumption | exact upd_same)) rfl ?_)
  | (refine g_setl (by first | assumption | exact upd_same) rfl ?_)
  | ((with_reducible show (∃ i, [V.int _] = [V.int i] ∧ _) ∨ _); refine Or.inl ⟨_, rfl, ?_⟩)
  | ((with_reducible show ∃ i, [V.int _] = [V.int i] ∧ _); refine ⟨_, rfl, ?_⟩)
  | dsimp only)
local macro_rules | `(tactic| walk_at "go") => `(tactic| repeat (walk_at "g1"))

local macro_rules | `(tactic| walk_at "g1") => `(tactic| with_reducible first | refine g_gcons ?_ | refine g_gnil ?_)

/-! ### crossings -/
def sp_crosses (K : PySem.W.Frag) : Sp := fun vs H Q _ => ∃ (d t : Addr) (p : Int) (s : Bg) (a c b e : Str), vs = [.int p, .ref d, .ref t] ∧ H d = some (.dK (toK s)) ∧ SqT K H t [.str a, .str c, .str b, .str e] ∧ Good p s ∧ 0 < p ∧ p ≤ 1000 ∧ a.length ≤ 1000 ∧ c.length ≤ 1000 ∧ b.length ≤ 1000 ∧ e.length ≤ 1000 ∧
  ∀ H', Ex H H' → Q (.bl (crossB p s a c b e)) H'
theorem ok_crosses {f : Addr} {fd : FuncData} (F : Fun K "crosses" "crosses" s_crosses f fd) (T : Txt K mg C_Bag Cs) : FnOk P w K mg base CX0 1 f fd ["clock", "sparse", "words"] (sp_crosses K) := by
  refine F.ok sc_crosses (fun vs H Q E h => ?_) (fun cdv A outer s H vs Q E hr h => ?_)
  · obtain ⟨d, t, p, s, a, c, b, e, rfl, _⟩ := h
    rfl
  · obtain ⟨d, t, p, s, a, c, b, e, rfl, hd, ht, gs, hp0, hp9, la, lc, lb, le, k⟩ := h
    have hcf : ∀ u v : Str, CMul (cf s u) (cf s v) := fun u v => by
      have h1 := cf_lt hp0 gs u
      have h2 := cf_nonneg gs u
      unfold CMul
      omega
    have q1 := hcf (a ++ b) (c ++ e)
    have q2 := hcf (a ++ e) (c ++ b)
    have hu := hu_of hr; have hu64 := L2.Room.units hr; refine ⟨_, (pss_cons (ps_asg (pv 2) (pg_tup rfl (pgs_cons (pg_name (i := 3) sc_crosses.nd rfl (by first | exact Or.inl rfl | exact Or.inr rfl)) (pgs_cons (pg_name (i := 4) sc_crosses.nd rfl (by first | exact Or.inl rfl | exact Or.inr rfl)) (pgs_cons (pg_name (i := 5) sc_crosses.nd rfl (by first | exact Or.inl rfl | exact Or.inr rfl)) (pgs_cons (pg_name (i := 6) sc_crosses.nd rfl (by first | exact Or.inl rfl | exact Or.inr rfl)) pgs_nil)))))) (pss_cons (ps_set (i := 7) sc_crosses.nd rfl (by first | exact Or.inl rfl | exact Or.inr rfl) (pe_op op_mul (pe_dget2 hu (pv 1) (pe_op op_add_str (pv 3) (pv 5)) pe_int ⟨rfl, rfl, rfl, rfl⟩) (pe_dget2 hu (pv 1) (pe_op op_add_str (pv 4) (pv 6)) pe_int ⟨rfl, rfl, rfl, rfl⟩))) (pss_cons (ps_set (i := 8) sc_crosses.nd rfl (by first | exact Or.inl rfl | exact Or.inr rfl) (pe_op op_mul (pe_dget2 hu (pv 1) (pe_op op_add_str (pv 3) (pv 6)) pe_int ⟨rfl, rfl, rfl, rfl⟩) (pe_dget2 hu (pv 1) (pe_op op_add_str (pv 4) (pv 5)) pe_int ⟨rfl, rfl, rfl, rfl⟩))) (pss_one (ps_ret (pe_cmpR op_ne (pe_op op_mod (pe_callTy call_int1 (by rfl) T.b_int (by decide +kernel) (pa_cons (pe_op op_sub (pv 7) (pv 8)) pa_nil)) (pv 0)) pe_int (nomark _))))))), ?_⟩; rw [st_crosses]; (try dsimp only [cxOf]); walk_at "go"
    refine g_gtup ht rfl ?_
    walk_at "go"
    refine ⟨.inl ⟨_, .inl hd⟩, ?_⟩
    walk_at "go"
    refine ⟨_, _, rfl, rfl, Nat.le_trans (by omega : a.length + b.length ≤ 2000) (by decide), ?_⟩
    walk_at "go"
    refine ⟨_, .inl ⟨toK s, .inr (a ++ b), .inl hd, rfl, rfl⟩, ?_⟩
    rw [getD_toK]
    walk_at "go"
    refine ⟨.inl ⟨_, .inl hd⟩, ?_⟩
    walk_at "go"
    refine ⟨_, _, rfl, rfl, Nat.le_trans (by omega : c.length + e.length ≤ 2000) (by decide), ?_⟩
    walk_at "go"
    refine ⟨_, .inl ⟨toK s, .inr (c ++ e), .inl hd, rfl, rfl⟩, ?_⟩
    rw [getD_toK]
    walk_at "go"
    refine ⟨.inl ⟨_, .inl hd⟩, ?_⟩
    walk_at "go"
    refine ⟨_, _, rfl, rfl, Nat.le_trans (by omega : a.length + e.length ≤ 2000) (by decide), ?_⟩
    walk_at "go"
    refine ⟨_, .inl ⟨toK s, .inr (a ++ e), .inl hd, rfl, rfl⟩, ?_⟩
    rw [getD_toK]
    walk_at "go"
    refine ⟨.inl ⟨_, .inl hd⟩, ?_⟩
    walk_at "go"
    refine ⟨_, _, rfl, rfl, Nat.le_trans (by omega : c.length + b.length ≤ 2000) (by decide), ?_⟩
    walk_at "go"
    refine ⟨_, .inl ⟨toK s, .inr (c ++ b), .inl hd, rfl, rfl⟩, ?_⟩
    rw [getD_toK]
    walk_at "go"
    have e9 : (!decide (V.int ((cf s (a ++ b) * cf s (c ++ e) - cf s (a ++ e) * cf s (c ++ b)) % p) = V.int 0)) = crossB p s a c b e := by
      unfold crossB
      by_cases hz : (cf s (a ++ b) * cf s (c ++ e) - cf s (a ++ e) * cf s (c ++ b)) % p = 0
      · rw [decide_eq_true (congrArg V.int hz), decide_eq_false fun h => h hz]; rfl
      · rw [decide_eq_false (fun h => hz (V.int.inj h)), decide_eq_true hz]; rfl
    rw [e9]
    exact k H (Ex.refl _)
def sp_crossing (Cs : Addr → Prop) : Sp := fun vs H Q _ => ∃ (b : Addr) (p : Int) (s : Bg) (k n : Nat), vs = [.ref b, .int k] ∧ BagAt Cs H b p s ∧ Prm p ∧ Good p s ∧ Lev n s ∧ n ≤ 1000 ∧ k ≤ n ∧ s.length < 64 ∧ (∀ H', Ex H H' → IsCut p k s → Q .non H') ∧
  ∀ t o e H', Ex H H' → ¬ IsCut p k s → FirstX p k s o e → H' t = some (.tup [.str (fr k (lead s)), .str o, .str (bk k (lead s)), .str e]) → Q (.ref t) H'
theorem ok_crossing {f : Addr} {fd : FuncData} (F : Fun K "crossing" "crossing" s_crossing f fd) (T : Txt K mg C_Bag Cs) (D_check_cut : DefOk P w K mg base CX0 4 "check_cut" ["bag", "number"] (sp_check_cut Cs)) (D_cut_of : DefOk P w K mg base CX0 5 "cut_of" ["clock", "sparse", "letters"] sp_cut_of)
    (D_first_word : DefOk P w K mg base CX0 4 "first_word" ["sparse"] sp_first_word) (D_crosses : DefOk P w K mg base CX0 1 "crosses" ["clock", "sparse", "words"] (sp_crosses K)) : FnOk P w K mg base CX0 6 f fd ["bag", "number"] (sp_crossing Cs) := by
  refine F.ok sc_crossing (fun vs H Q E h => ?_) (fun cdv A outer s H vs Q E hr h => ?_)
  · obtain ⟨b, p, s, k, n, rfl, _⟩ := h
    rfl
  · obtain ⟨b, p, s, k9, n, rfl, hb, hp, gs, hl, hn, hk, hz, kn, ky⟩ := h
    obtain ⟨C, dx, d, k1, t1, hc, h1, hd, _⟩ := hb.ex
    have hp1 := hp.pos
    have hp0 : 0 < p := by omega
    have hp7 : p ≤ 7 := by rcases hp with rfl | rfl | rfl | rfl <;> decide
    have hlw : ∀ u ∈ keys s, u.length ≤ 1000 := fun u hu => by rw [hl.l u hu]; exact hn
    obtain ⟨lc1, lc2, lc3⟩ := lead_cut hl hk
    have hll : (lead s).length ≤ 1000 := hlw _ (lead_mem hl.n)
    have hu := hu_of hr; have hu64 := L2.Room.units hr; refine ⟨_, (pss_cons (ps_expr (pe_callD D_check_cut (hr.mono (by decide)) rfl pass0 (pa_cons (pv 0) (pa_cons (pv 1) pa_nil)))) (pss_cons (ps_if (pt_cmpR op_notN (pe_callD D_cut_of (hr.mono (by decide)) rfl pass0 (pa_cons (pe_fldK (K := K) rfl (pv 0) rfl) (pa_cons (pe_fldK (K := K) rfl (pv 0) rfl) (pa_cons (pv 1) pa_nil)))) pe_non (nomark _)) (pss_one (ps_ret pe_non)) pss_nil) (pss_cons (ps_set (i := 2) sc_crossing.nd rfl (by first | exact Or.inl rfl | exact Or.inr rfl) (pe_callD D_first_word (hr.mono (by decide)) rfl pass0 (pa_cons (pe_fldK (K := K) rfl (pv 0) rfl) pa_nil))) (pss_cons (ps_set (i := 3) sc_crossing.nd rfl (by first | exact Or.inl rfl | exact Or.inr rfl) (pe_callB (r := rSortT w) (cr_sortT rfl) (by rfl) T.b_sorted (by decide +kernel) (pa_cons (pe_lockR (pe_scT (own := [("word", 4)]) (g := (gName 4)) (tt := tYes) rfl sc_crossing.nd (pi_keys (pe_fldK (K := K) rfl (pv 0) rfl)) (blkOk_by (N := N_crossing) (sc := defScope s_crossing) (by decide +kernel)) (fun _ _ _ _ _ => (pg_name (i := 4) sc_crossing.nd rfl (by first | exact Or.inl rfl | exact Or.inr rfl))) (fun _ _ _ _ _ => pts_nil) (fun _ _ _ _ _ => (pe_slice sl_str (pv 4) (po_some (pv 1)) po_none)))) pa_nil))) (pss_cons (ps_for PassesOwn.never rfl (pi_list (pe_callB (r := rSortT w) (cr_sortT rfl) (by rfl) T.b_sorted (by decide +kernel) (pa_cons (pe_lockR (pe_scT (own := [("word", 4)]) (g := (gName 4)) (tt := tYes) rfl sc_crossing.nd (pi_keys (pe_fldK (K := K) rfl (pv 0) rfl)) (blkOk_by (N := N_crossing) (sc := defScope s_crossing) (by decide +kernel)) (fun _ _ _ _ _ => (pg_name (i := 4) sc_crossing.nd rfl (by first | exact Or.inl rfl | exact Or.inr rfl))) (fun _ _ _ _ _ => pts_nil) (fun _ _ _ _ _ => (pe_slice sl_str (pv 4) po_none (po_some (pv 1)))))) pa_nil))) (pg_name (i := 5) sc_crossing.nd rfl (by first | exact Or.inl rfl | exact Or.inr rfl)) (pss_one (ps_for PassesOwn.never rfl (pi_list (pv 3)) (pg_name (i := 6) sc_crossing.nd rfl (by first | exact Or.inl rfl | exact Or.inr rfl)) (pss_cons (ps_set (i := 7) sc_crossing.nd rfl (by first | exact Or.inl rfl | exact Or.inr rfl) (pe_tup (pa_cons (pe_slice sl_str (pv 2) po_none (po_some (pv 1))) (pa_cons (pv 5) (pa_cons (pe_slice sl_str (pv 2) (po_some (pv 1)) po_none) (pa_cons (pv 6) pa_nil)))))) (pss_one (ps_if (pt_val (pe_callD D_crosses (hr.mono (by decide)) rfl pass0 (pa_cons (pe_fldK (K := K) rfl (pv 0) rfl) (pa_cons (pe_fldK (K := K) rfl (pv 0) rfl) (pa_cons (pv 7) pa_nil))))) (pss_one (ps_ret (pv 7))) pss_nil)))))) (pss_one (ps_ret pe_non))))))), ?_⟩; rw [st_crossing]; (try dsimp only [cxOf]); walk_at "go"
    refine ⟨b, p, s, k9, n, rfl, hb, hl, hn, hk, by omega, fun H1 e1 => ?_⟩
    walk_at "go"
    refine ⟨b, C, dx, _, _, rfl, e1 _ _ h1, T.cls C hc, T.n_clock C hc, bagF_clock _ _ _ _, ?_⟩
    walk_at "go"
    refine ⟨b, C, dx, _, _, rfl, e1 _ _ h1, T.cls C hc, T.n_sparse C hc, bagF_sparse _ _ _ _, ?_⟩
    walk_at "go"
    refine ⟨d, p, s, k9, n, rfl, e1 _ _ hd, hp, gs, hl, hn, hk, by omega, fun H2 e2 hno => ?_, fun t d1 d2 H2 e2 hcu _ _ _ => ?_⟩
    rotate_left
    · walk_at "go"
      refine ⟨rfl, ?_⟩
      rw [decide_eq_false (show ¬ V.ref t = V.non from fun z => nomatch z)]
      walk_at "go"
      exact kn H2 (e1.trans e2) hcu
    have e02 := e1.trans e2
    have hd2 := e02 _ _ hd
    walk_at "go"
    refine ⟨rfl, ?_⟩
    rw [decide_eq_true rfl]
    walk_at "go"
    refine ⟨b, C, dx, _, _, rfl, e02 _ _ h1, T.cls C hc, T.n_sparse C hc, bagF_sparse _ _ _ _, ?_⟩
    walk_at "go"
    refine ⟨d, s, rfl, hd2, hl.n, fun u hu => Nat.le_trans (hlw u hu) (by decide), ?_⟩
    walk_at "go"
    have h12 := e02 _ _ h1
    refine scd_texts (.inl hd2) (by omega) (fun H' Q' l q => ?_) (bk k9) (fun _ => rfl) ?_ ?_
    · walk_at "go"
      exact ⟨b, C, dx, _, _, rfl, l.keep _ _ (ne_of h12 hd2 fun z => nomatch z) h12, T.cls C hc, T.n_sparse C hc, bagF_sparse _ _ _ _, q⟩
    · intro i z n9 H' Kc hi le hk9
      have hzk : z ∈ keys s := mem_keys.mpr ⟨n9, mem_fr hi⟩
      walk_at "go"
      refine ⟨z, rfl, line5 (Nat.le_trans (hlw z hzk) (by decide)), ?_⟩
      exact hk9 _ (Ex.refl _)
    intro D3 H3 hD3 e3 hDD3
    have hln : (ofListT ((keys s).map (bk k9))).length < 64 := by
      have := ofListT_len ((keys s).map (bk k9))
      unfold keys at this ⊢
      rw [List.length_map, List.length_map] at this
      omega
    have hlf : (ofListT ((keys s).map (fr k9))).length < 64 := by
      have := ofListT_len ((keys s).map (fr k9))
      unfold keys at this ⊢
      rw [List.length_map, List.length_map] at this
      omega
    walk_at "go"
    refine ⟨D3, _, rfl, hDD3, hln, fun es L4 hpe hse hL4 => ?_⟩
    have hLL4 := upd_same (H := H3) (a := L4) (o := .lst (es.map V.str))
    have e4 := Ex.new (o := .lst (es.map V.str)) hL4
    generalize upd H3 L4 (.lst (es.map V.str)) = H4 at hLL4 e4 ⊢
    have hd4 := e4 _ _ (e3 _ _ hd2)
    have h14 := e4 _ _ (e3 _ _ h12)
    walk_at "go"
    refine scd_texts (.inl hd4) (by omega) (fun H' Q' l q => ?_) (fr k9) (fun _ => rfl) ?_ ?_
    · walk_at "go"
      exact ⟨b, C, dx, _, _, rfl, l.keep _ _ (ne_of h14 hd4 fun z => nomatch z) h14, T.cls C hc, T.n_sparse C hc, bagF_sparse _ _ _ _, q⟩
    · intro i z n9 H' Kc hi le hk9
      have hzk : z ∈ keys s := mem_keys.mpr ⟨n9, mem_fr hi⟩
      walk_at "go"
      refine ⟨z, rfl, line5 (Nat.le_trans (hlw z hzk) (by decide)), ?_⟩
      exact hk9 _ (Ex.refl _)
    intro D5 H5 hD5 e5 hDD5
    walk_at "go"
    refine ⟨D5, _, rfl, hDD5, hlf, fun fs L6 hpf hsf hL6 => ?_⟩
    have hLL6 := upd_same (H := H5) (a := L6) (o := .lst (fs.map V.str))
    have e6 := Ex.new (o := .lst (fs.map V.str)) hL6
    generalize upd H5 L6 (.lst (fs.map V.str)) = H6 at hLL6 e6 ⊢
    have e46 := e5.trans e6
    have e06 : Ex H H6 := ((e02.trans e3).trans e4).trans e46
    have hL46 := e46 _ _ hLL4
    have hmf : ∀ x, x ∈ fs ↔ x ∈ (keys s).map (fr k9) := fun x => by rw [hpf.mem_iff]; exact ofListT_mem
    have hme : ∀ x, x ∈ es ↔ x ∈ (keys s).map (bk k9) := fun x => by rw [hpe.mem_iff]; exact ofListT_mem
    have hfl : ∀ x ∈ fs, x.length ≤ 1000 := fun x hx => by
      obtain ⟨u, hu, rfl⟩ := List.mem_map.mp ((hmf x).mp hx)
      have h8 := hl.l u hu
      have := (fr_bk (k := k9) (w := u) (by rw [h8]; exact hk)).2.1
      omega
    have hel : ∀ x ∈ es, x.length ≤ 1000 := fun x hx => by
      obtain ⟨u, hu, rfl⟩ := List.mem_map.mp ((hme x).mp hx)
      have h8 := hl.l u hu
      have := (fr_bk (k := k9) (w := u) (by rw [h8]; exact hk)).2.2
      omega
    have zs : ∀ {ls : List Str} {i x}, (ls.map V.str)[i]? = some x → ∃ u, x = V.str u ∧ ls[i]? = some u ∧ u ∈ ls := fun {ls i x} hx => by
      rw [List.getElem?_map] at hx
      cases q : ls[i]? with
      | none => rw [q] at hx; cases hx
      | some u => rw [q] at hx; exact ⟨u, (Option.some.inj hx).symm, q, List.mem_of_getElem? q⟩
    have tk : ∀ {l : List Str} {i : Nat} {u v : Str}, l[i]? = some u → v ∈ l.take (i + 1) → v ∈ l.take i ∨ v = u := fun {l i u v} hu hv => by
      rw [List.take_add_one, hu] at hv
      exact (List.mem_append.mp hv).imp id List.mem_singleton.mp
    clear hDD3 hDD5 hLL4
    walk_at "go"
    refine ⟨⟨_, SqL.of hLL6⟩, ?_⟩
    refine forG walk_list (fun i σ' H' => (∃ y5 y6 y7, σ' = [some (.ref b), some (.int (k9 : Int)), some (.str (lead s)), some (.ref L4), none, y5, y6, y7]) ∧ Ex H6 H' ∧ ∀ o ∈ fs.take i, ∀ e ∈ es, crossB p s (fr k9 (lead s)) o (bk k9 (lead s)) e = false) ⟨⟨_, _, _, rfl⟩, Ex.refl _, fun o ho => nomatch ho⟩ (fun i σ' H' _ q => SqL.of (q.2.1 _ _ hLL6)) ?_ ?_
    · rintro i x σ' H7x H7 hi ⟨⟨y5, y6, y7, rfl⟩, e7, hI⟩ ⟨rfl, hx⟩
      obtain ⟨o, rfl, ho, hom⟩ := zs hx
      walk_at "go"
      refine ⟨⟨_, SqL.of (e7 _ _ hL46)⟩, ?_⟩
      refine forG walk_list (fun j σ' H' => (∃ y6 y7, σ' = [some (.ref b), some (.int (k9 : Int)), some (.str (lead s)), some (.ref L4), none, some (.str o), y6, y7]) ∧ Ex H6 H' ∧ ∀ e ∈ es.take j, crossB p s (fr k9 (lead s)) o (bk k9 (lead s)) e = false) ⟨⟨_, _, rfl⟩, e7, fun o ho => nomatch ho⟩ (fun i σ' H' _ q => SqL.of (q.2.1 _ _ hL46)) ?_ ?_
      · rintro j x σ' H8x H8 hj ⟨⟨y6, y7, rfl⟩, e8, hJ⟩ ⟨rfl, hx⟩
        obtain ⟨e, rfl, he, hem⟩ := zs hx
        walk_at "go"
        refine ⟨lead s, rfl, line5 (Nat.le_trans hll (by decide)), ?_⟩
        walk_at "go"
        refine ⟨lead s, rfl, line5 (Nat.le_trans hll (by decide)), ?_⟩
        walk_at "go"
        refine ⟨Nat.le_of_ble_eq_true rfl, fun u hu => ?_⟩
        have e9 := Ex.new (o := .tup [.str (fr k9 (lead s)), .str o, .str (bk k9 (lead s)), .str e]) hu
        have huu := upd_same (H := H8) (a := u) (o := .tup [.str (fr k9 (lead s)), .str o, .str (bk k9 (lead s)), .str e])
        show gName 7 (V.ref u) _ (upd H8 u (.tup [.str (fr k9 (lead s)), .str o, .str (bk k9 (lead s)), .str e])) _
        generalize upd H8 u (.tup [.str (fr k9 (lead s)), .str o, .str (bk k9 (lead s)), .str e]) = H9 at e9 huu ⊢
        have e09 : Ex H H9 := (e06.trans e8).trans e9
        walk_at "go"
        refine ⟨b, C, dx, _, _, rfl, e09 _ _ h1, T.cls C hc, T.n_clock C hc, bagF_clock _ _ _ _, ?_⟩
        walk_at "go"
        refine ⟨b, C, dx, _, _, rfl, e09 _ _ h1, T.cls C hc, T.n_sparse C hc, bagF_sparse _ _ _ _, ?_⟩
        walk_at "go"
        refine ⟨d, u, p, s, _, _, _, _, rfl, e09 _ _ hd, SqT.of huu, gs, hp0, by omega, by rw [lc2]; omega, hfl o hom, by rw [lc3]; omega, hel e hem, fun H10 e10 => ?_⟩
        cases hcr : crossB p s (fr k9 (lead s)) o (bk k9 (lead s)) e with
        | true =>
          walk_at "go"
          exact ky u o e H10 (e09.trans e10) hno ⟨fs, es, hpf, hsf, hpe, hse, firstX_at ho he hI hJ hcr⟩ (e10 _ _ huu)
        | false =>
          walk_at "go"
          refine ⟨⟨_, _, rfl⟩, (e8.trans e9).trans e10, fun v hv => ?_⟩
          rcases tk he hv with q | rfl
          · exact hJ v q
          · exact hcr
      · rintro σ' H8 ⟨⟨y6, y7, rfl⟩, e8, hJ⟩
        walk_at "go"
        refine ⟨⟨_, _, _, rfl⟩, e8, fun v hv => ?_⟩
        rcases tk ho hv with q | rfl
        · exact hI v q
        · rw [List.length_map, List.take_length] at hJ
          exact hJ
    · rintro σ' H7 ⟨⟨y5, y6, y7, rfl⟩, e7, hI⟩
      rw [List.length_map, List.take_length] at hI
      exact absurd ((cut_iff hp hl hk gs).mpr (none_noX hp gs hl hk hmf hme hI)) hno

end
end Fp

namespace Fp
open PySem L2
section
variable {P : Program} {w : World} {K : PySem.W.Frag} {mg : Str → Option Value} {base : Heap} {C_Bag : Addr} {Cs : Addr → Prop}
local macro_rules | `(tactic| walk_at "hp") => `(tactic| first | assumption | rfl)
local macro_rules | `(tactic| walk_at "cond") => `(tactic| first | assumption | decide | omega | (unfold CMul; omega) | (refine ⟨?_, ?_⟩ <;> omega) | (unfold CDiv; omega) | (unfold CPow; omega))
local macro_rules | `(tactic| walk_at "g1") => `(tactic| first
  | with_reducible first
    | refine g_seq ?_ | refine g_asg ?_ | refine g_name ?_ | refine g_ret ?_ | refine g_retN ?_ | refine g_drop ?_ | refine g_ifs ?_
    | refine g_c ?_ | refine g_op ?_ | refine g_un ?_ | refine g_I0 ?_ | refine g_U ?_
    | refine g_test ?_ | refine g_tB ?_ | refine g_bl ?_ | refine g_and ?_ | refine g_or ?_ | refine g_not ?_
    | refine g_andV ?_ | refine g_orV ?_ | refine g_notV ?_ | refine g_if ?_ | refine g_nil ?_ | refine g_cons ?_ | refine g_cb ?_ | refine g_call ?_
    | refine g_lst ?_ | refine g_tup ?_ | refine g_itT ?_ | refine g_itF ?_ | refine g_itNT ?_ | refine g_itNF ?_ | refine g_lc ?_ | refine g_iStr ?_ | refine g_yes ?_ | refine g_exs ?_
    | refine g_chain ?_ | refine g_dget ?_ | refine g_dput ?_ | refine g_dget2 ?_ | refine g_dpop2 ?_ | refine g_fld ?_ | refine g_sfld ?_ | refine g_make ?_ | refine g_meth ?_
    | refine g_bm ?_ | refine g_kw ?_ | refine g_callS ?_ | refine g_revL ?_ | refine g_m1 ?_ | refine g_gsub ?_ | refine g_for ?_ | refine g_iList ?_ | refine g_iTup ?_ | refine g_iRng1 ?_ | refine g_iRng2 ?_ | refine g_sl ?_ | refine g_part ?_ | refine g_noPart ?_
    | refine g_exi ?_ | refine g_exr ?_ | refine g_dnew ?_ | refine g_disp ?_ | refine g_prs0 ?_ | refine g_prs ?_ | refine g_nxt ?_
  | ((with_reducible refine g_var (v := ?vv) ?gv ?_); (case gv => exact rfl))
  | ((with_reducible refine g_I ?gc ?_); (case gc => walk_at "cond"))
  | ((with_reducible refine g_eq ?ge ?_); (case ge => exact rfl))
  | ((with_reducible refine g_ne ?ge ?_); (case ge => exact rfl))
  | (refine g_ixl (SqL.of (by first | assumption | exact upd_same)) rfl ?_)
  | (refine g_setl (by first | assumption | exact upd_same) rfl ?_)
  | ((with_reducible show (∃ i, [V.int _] = [V.int i] ∧ _) ∨ _); refine Or.inl ⟨_, rfl, ?_⟩)
  | ((with_reducible show ∃ i, [V.int _] = [V.int i] ∧ _); refine ⟨_, rfl, ?_⟩)
  | dsimp only)
local macro_rules | `(tactic| walk_at "go") => `(tactic| repeat (walk_at "g1"))

local macro_rules | `(tactic| walk_at "g1") => `(tactic| with_reducible first | refine g_gcons ?_ | refine g_gnil ?_)

/-! ### things that may be four words -/
def Odd (h : Addr) (H : Hp) (y : V) : Prop := y = .non ∨ (∃ b, y = .bl b) ∨ (∃ i, y = .int i) ∨ (∃ a xs, y = .ref a ∧ H a = some (.tup xs)) ∨ (∃ a xs, y = .ref a ∧ a ≠ h ∧ H a = some (.lst xs)) ∨ (∃ a kvs, y = .ref a ∧ a ≠ h ∧ H a = some (.dK kvs))
theorem Odd.exh {h : Addr} {H H' : Hp} {y : V} (o : Odd h H y) {zs : List V} (hh : H h = some (.lst zs)) (e : ExB h H H') : Odd h H' y := by
  rcases o with rfl | ⟨b, rfl⟩ | ⟨i, rfl⟩ | ⟨a, xs, rfl, ha⟩ | ⟨a, xs, rfl, hn, ha⟩ | ⟨a, kvs, rfl, hn, ha⟩
  · exact .inl rfl
  · exact .inr (.inl ⟨b, rfl⟩)
  · exact .inr (.inr (.inl ⟨i, rfl⟩))
  · exact .inr (.inr (.inr (.inl ⟨a, xs, rfl, e _ _ (ne_of ha hh fun z => nomatch z) ha⟩)))
  · exact .inr (.inr (.inr (.inr (.inl ⟨a, xs, rfl, hn, e _ _ hn ha⟩))))
  · exact .inr (.inr (.inr (.inr (.inr ⟨a, kvs, rfl, hn, e _ _ hn ha⟩))))
theorem Odd.ex' {h : Addr} {H H' : Hp} {y : V} (o : Odd h H y) (e : Ex H H') : Odd h H' y := by
  rcases o with rfl | ⟨b, rfl⟩ | ⟨i, rfl⟩ | ⟨a, xs, rfl, ha⟩ | ⟨a, xs, rfl, hn, ha⟩ | ⟨a, kvs, rfl, hn, ha⟩
  · exact .inl rfl
  · exact .inr (.inl ⟨b, rfl⟩)
  · exact .inr (.inr (.inl ⟨i, rfl⟩))
  · exact .inr (.inr (.inr (.inl ⟨a, xs, rfl, e _ _ ha⟩)))
  · exact .inr (.inr (.inr (.inr (.inl ⟨a, xs, rfl, hn, e _ _ ha⟩))))
  · exact .inr (.inr (.inr (.inr (.inr ⟨a, kvs, rfl, hn, e _ _ ha⟩))))
theorem Odd.ty {h : Addr} {H : Hp} {y : V} (o : Odd h H y) : ∃ t, TyX K H y t ∧ PySem.W.kitOne K t (.type "str") = some false := by
  rcases o with rfl | ⟨b, rfl⟩ | ⟨i, rfl⟩ | ⟨a, xs, rfl, ha⟩ | ⟨a, xs, rfl, hn, ha⟩ | ⟨a, kvs, rfl, hn, ha⟩
  · exact ⟨.type "NoneType", .base .non, kit_ty (by decide +kernel)⟩
  · exact ⟨.type "bool", .base (.bl b), kit_ty (by decide +kernel)⟩
  · exact ⟨.type "int", .base (.int i), kit_ty (by decide +kernel)⟩
  · exact ⟨.type "tuple", .base (.tup ha), kit_ty (by decide +kernel)⟩
  · exact ⟨.type "list", .base (.lst ha), kit_ty (by decide +kernel)⟩
  · exact ⟨.type "dict", .base (.dK ha), kit_ty (by decide +kernel)⟩
/-- an item of a tuple: a text, or no text -/
def ItAt (h : Addr) (H : Hp) (y : V) (z : Option Str) : Prop := (∃ u : Str, y = .str u ∧ z = some u ∧ u.length ≤ 1000) ∨ (z = none ∧ Odd h H y)
theorem ItAt.ex' {h : Addr} {H H' : Hp} {y : V} {z : Option Str} (o : ItAt h H y z) (e : Ex H H') : ItAt h H' y z := o.imp id fun ⟨a, b⟩ => ⟨a, b.ex' e⟩
theorem ItAt.exh {h : Addr} {H H' : Hp} {y : V} {z : Option Str} (o : ItAt h H y z) {zs : List V} (hh : H h = some (.lst zs)) (e : ExB h H H') : ItAt h H' y z := o.imp id fun ⟨a, b⟩ => ⟨a, b.exh hh e⟩
/-- no tuple -/
def NoTup (h : Addr) (H : Hp) (v : V) : Prop := v = .non ∨ (∃ u, v = .str u) ∨ (∃ a xs, v = .ref a ∧ a ≠ h ∧ H a = some (.lst xs)) ∨ (∃ a kvs, v = .ref a ∧ a ≠ h ∧ H a = some (.dK kvs))
theorem NoTup.ex' {h : Addr} {H H' : Hp} {v : V} (o : NoTup h H v) (e : Ex H H') : NoTup h H' v := by
  rcases o with rfl | ⟨u, rfl⟩ | ⟨a, xs, rfl, hn, ha⟩ | ⟨a, kvs, rfl, hn, ha⟩
  · exact .inl rfl
  · exact .inr (.inl ⟨u, rfl⟩)
  · exact .inr (.inr (.inl ⟨a, xs, rfl, hn, e _ _ ha⟩))
  · exact .inr (.inr (.inr ⟨a, kvs, rfl, hn, e _ _ ha⟩))
theorem NoTup.exh {h : Addr} {H H' : Hp} {v : V} (o : NoTup h H v) (e : ExB h H H') : NoTup h H' v := by
  rcases o with rfl | ⟨u, rfl⟩ | ⟨a, xs, rfl, hn, ha⟩ | ⟨a, kvs, rfl, hn, ha⟩
  · exact .inl rfl
  · exact .inr (.inl ⟨u, rfl⟩)
  · exact .inr (.inr (.inl ⟨a, xs, rfl, hn, e _ _ hn ha⟩))
  · exact .inr (.inr (.inr ⟨a, kvs, rfl, hn, e _ _ hn ha⟩))
theorem NoTup.ty {h : Addr} {H : Hp} {y : V} (o : NoTup h H y) : ∃ t, TyX K H y t ∧ PySem.W.kitOne K t (.type "tuple") = some false := by
  rcases o with rfl | ⟨u, rfl⟩ | ⟨a, xs, rfl, hn, ha⟩ | ⟨a, kvs, rfl, hn, ha⟩
  · exact ⟨.type "NoneType", .base .non, kit_ty (by decide +kernel)⟩
  · exact ⟨.type "str", .base (.str u), kit_ty (by decide +kernel)⟩
  · exact ⟨.type "list", .base (.lst ha), kit_ty (by decide +kernel)⟩
  · exact ⟨.type "dict", .base (.dK ha), kit_ty (by decide +kernel)⟩
/-- a thing: no tuple, or a tuple of items -/
def ThAt (h : Addr) (H : Hp) (v : V) (x : Option (List (Option Str))) : Prop := (x = none ∧ NoTup h H v) ∨ ∃ a ys zs, v = .ref a ∧ x = some zs ∧ H a = some (.tup ys) ∧ Paired (ItAt h H) ys zs ∧ ys.length ≤ 100
theorem ThAt.ex' {h : Addr} {H H' : Hp} {v : V} {x : Option (List (Option Str))} (o : ThAt h H v x) (e : Ex H H') : ThAt h H' v x :=
  o.imp (fun ⟨a, b⟩ => ⟨a, b.ex' e⟩) fun ⟨a, ys, zs, h1, h2, h3, h4, h5⟩ => ⟨a, ys, zs, h1, h2, e _ _ h3, Paired.mapP h4 fun _ _ z => z.ex' e, h5⟩
theorem ThAt.exh {h : Addr} {H H' : Hp} {v : V} {x : Option (List (Option Str))} (o : ThAt h H v x) {zs : List V} (hh : H h = some (.lst zs)) (e : ExB h H H') : ThAt h H' v x :=
  o.imp (fun ⟨a, b⟩ => ⟨a, b.exh e⟩) fun ⟨a, ys, zs, h1, h2, h3, h4, h5⟩ => ⟨a, ys, zs, h1, h2, e _ _ (ne_of h3 hh fun z => nomatch z) h3, Paired.mapP h4 fun _ _ z => z.exh hh e, h5⟩
def wz : Option Str → Bool
  | some u => isW u
  | none => false
/-- whether a thing is four words that cross -/
def doX (p : Int) (s : Bg) (k : Nat) : Option (List (Option Str)) → Bool
  | some [some a, some c, some b, some e] => isW a && isW c && isW b && isW e && decide (a.length = k) && decide (c.length = k) && crossB p s a c b e
  | _ => false
theorem doX_four {zs : List (Option Str)} (h4 : zs.length = 4) (hw : zs.all wz = true) : ∃ a c b e, zs = [some a, some c, some b, some e] ∧ isW a = true ∧ isW c = true ∧ isW b = true ∧ isW e = true := by
  match zs, h4, hw with
  | [some a, some c, some b, some e], _, hw =>
    simp only [List.all_cons, List.all_nil, wz, Bool.and_true, Bool.and_eq_true] at hw
    exact ⟨a, c, b, e, rfl, hw.1, hw.2.1, hw.2.2.1, hw.2.2.2⟩
  | [none, _, _, _], _, hw => simp [wz] at hw
  | [some _, none, _, _], _, hw => simp [wz] at hw
  | [some _, some _, none, _], _, hw => simp [wz] at hw
  | [some _, some _, some _, none], _, hw => simp [wz] at hw
theorem doX_len {p : Int} {s : Bg} {k : Nat} {zs : List (Option Str)} (h4 : zs.length ≠ 4) : doX p s k (some zs) = false := by
  unfold doX
  split
  · rename_i h
    cases Option.some.inj h
    exact absurd rfl h4
  · rfl
theorem doX_word {p : Int} {s : Bg} {k : Nat} {zs : List (Option Str)} (hw : zs.all wz = false) : doX p s k (some zs) = false := by
  unfold doX
  split
  · rename_i a c b e h
    cases Option.some.inj h
    simp only [List.all_cons, List.all_nil, wz, Bool.and_true] at hw
    cases ha : isW a <;> cases hc : isW c <;> cases hb : isW b <;> cases he : isW e <;> simp_all
  · rfl
theorem doX_val {p : Int} {s : Bg} {k : Nat} {a c b e : Str} (wa : isW a = true) (wc : isW c = true) (wb : isW b = true) (we : isW e = true) : doX p s k (some [some a, some c, some b, some e]) = (decide (a.length = k) && decide (c.length = k) && crossB p s a c b e) := by
  show (isW a && isW c && isW b && isW e && decide (a.length = k) && decide (c.length = k) && crossB p s a c b e) = _
  rw [wa, wc, wb, we]
  simp
theorem four_strs {h : Addr} {H : Hp} {ys : List V} {a c b e : Str} (hp : Paired (ItAt h H) ys [some a, some c, some b, some e]) : ys = [.str a, .str c, .str b, .str e] ∧ a.length ≤ 1000 ∧ c.length ≤ 1000 ∧ b.length ≤ 1000 ∧ e.length ≤ 1000 := by
  have q : ∀ {y : V} {u : Str}, ItAt h H y (some u) → y = .str u ∧ u.length ≤ 1000 := fun {y u} i => by
    rcases i with ⟨u', rfl, e, hl⟩ | ⟨e, _⟩
    · cases Option.some.inj e
      exact ⟨rfl, hl⟩
    · cases e
  cases hp with
  | cons h1 r =>
    cases r with
    | cons h2 r =>
      cases r with
      | cons h3 r =>
        cases r with
        | cons h4 r =>
          cases r
          obtain ⟨rfl, l1⟩ := q h1
          obtain ⟨rfl, l2⟩ := q h2
          obtain ⟨rfl, l3⟩ := q h3
          obtain ⟨rfl, l4⟩ := q h4
          exact ⟨rfl, l1, l2, l3, l4⟩
def sp_is_crossing (Cs : Addr → Prop) : Sp := fun vs H Q _ => ∃ (h b : Addr) (p : Int) (s : Bg) (k n : Nat) (v : V) (x : Option (List (Option Str))), vs = [.ref b, .int k, v] ∧ BagAt Cs H b p s ∧ Prm p ∧ Good p s ∧ Lev n s ∧ n ≤ 1000 ∧ k ≤ n ∧ s.length ≤ 1000 ∧ ThAt h H v x ∧
  ∀ H', Ex H H' → Q (.bl (doX p s k x)) H'
theorem ok_is_crossing {f : Addr} {fd : FuncData} (F : Fun K "is_crossing" "is_crossing" s_is_crossing f fd) (T : Txt K mg C_Bag Cs) (D_check_cut : DefOk P w K mg base CX0 4 "check_cut" ["bag", "number"] (sp_check_cut Cs)) (D_is_word : DefOk P w K mg base CX0 1 "is_word" ["thing"] (sp_is_word K))
    (D_crosses : DefOk P w K mg base CX0 1 "crosses" ["clock", "sparse", "words"] (sp_crosses K)) : FnOk P w K mg base CX0 5 f fd ["bag", "number", "thing"] (sp_is_crossing Cs) := by
  refine F.ok sc_is_crossing (fun vs H Q E h => ?_) (fun cdv A outer s H vs Q E hr h => ?_)
  · obtain ⟨h, b, p, s, k, n, v, x, rfl, _⟩ := h
    rfl
  · obtain ⟨h, b, p, s, k9, n, v, x, rfl, hb, hp, gs, hl, hn, hk, hz, hv, ky⟩ := h
    obtain ⟨C, dx, d, k1, t1, hc, h1, hd, _⟩ := hb.ex
    have hp1 := hp.pos
    have hp0 : 0 < p := by omega
    have hp7 : p ≤ 7 := by rcases hp with rfl | rfl | rfl | rfl <;> decide
    have hu := hu_of hr; have hu64 := L2.Room.units hr; refine ⟨_, (pss_cons (ps_expr (pe_callD D_check_cut (hr.mono (by decide)) rfl pass0 (pa_cons (pv 0) (pa_cons (pv 1) pa_nil)))) (pss_cons (ps_if (PW.pt (pw_or (pt_not (pt_val (pe_callB (r := rIsi K) call_isi (by rfl) T.b_isinstance (by decide +kernel) (pa_cons (pv 2) (pa_cons (pe_bltn (v := .ty "tuple") rfl T.b_tuple (by decide +kernel) rfl) pa_nil))))) (pw_or (pt_cmpR op_ne (pe_callB call_len_seq (by rfl) T.b_len (by decide +kernel) (pa_cons (pv 2) pa_nil)) pe_int (nomark _)) (pw_or1 (pt_not (pt_val (pe_callB (r := rAll K) (cr_all rfl) (by rfl) T.b_all (by decide +kernel) (pa_cons (pe_lc (own := [("word", 3)]) (g := (gName 3)) (tt := tYes) rfl sc_is_crossing.nd (pi_tup (pv 2)) (blkOk_by (N := N_is_crossing) (sc := defScope s_is_crossing) (by decide +kernel)) (fun _ _ _ _ _ => (pg_name (i := 3) sc_is_crossing.nd rfl (by first | exact Or.inl rfl | exact Or.inr rfl))) (fun _ _ _ _ _ => pts_nil) (fun _ _ _ _ _ => (pe_callD D_is_word (hr.mono (by decide)) rfl pass0 (pa_cons (pv 3) pa_nil)))) pa_nil)))))))) (pss_one (ps_ret pe_bl)) pss_nil) (pss_cons (ps_if (PW.pt (pw_or (pt_cmpR op_ne (pe_callB call_len_str (by rfl) T.b_len (by decide +kernel) (pa_cons (pe_ix (r := rIxT K) ix_tup (pv 2) pe_int (fun _ _ => rfl)) pa_nil)) (pv 1) (nomark _)) (pw_or1 (pt_cmpR op_ne (pe_callB call_len_str (by rfl) T.b_len (by decide +kernel) (pa_cons (pe_ix (r := rIxT K) ix_tup (pv 2) pe_int (fun _ _ => rfl)) pa_nil)) (pv 1) (nomark _))))) (pss_one (ps_ret pe_bl)) pss_nil) (pss_one (ps_ret (pe_callD D_crosses (hr.mono (by decide)) rfl pass0 (pa_cons (pe_fldK (K := K) rfl (pv 0) rfl) (pa_cons (pe_fldK (K := K) rfl (pv 0) rfl) (pa_cons (pv 2) pa_nil))))))))), ?_⟩; rw [st_is_crossing]; (try dsimp only [cxOf]); walk_at "go"
    refine ⟨b, p, s, k9, n, rfl, hb, hl, hn, hk, hz, fun H1 e1 => ?_⟩
    replace hv := hv.ex' e1
    walk_at "go"
    rcases hv with ⟨rfl, hv⟩ | ⟨a0, ys, zs, rfl, rfl, ha0, hys, hyl⟩
    · obtain ⟨ty, ht, hkt⟩ := hv.ty (K := K)
      refine g_isi (b := false) ht hkt ?_
      walk_at "go"
      exact ky H1 e1
    · refine g_isi (n := "tuple") (t := .type "tuple") (b := true) (.base (.tup ha0)) (kit_ty (by decide +kernel)) ?_
      walk_at "go"
      refine ⟨a0, _, rfl, .inr (SqT.of ha0), ?_⟩
      have hlen := Paired.length hys
      walk_at "go"
      by_cases h4 : zs.length = 4
      · rw [decide_eq_true (show V.int ((ys.length : Nat) : Int) = V.int 4 from by rw [hlen, h4]; rfl), if_neg (show ¬ ((!true) = true) from fun z => nomatch z)]
        walk_at "go"
        refine ⟨⟨_, SqT.of ha0⟩, ?_⟩
        refine lc_pure walk_tup (zs.map fun z => V.bl (wz z)) (by rw [List.length_map, hlen]) (Nat.le_trans hyl (by decide)) (fun H' e => SqT.of (e _ _ ha0)) (fun _ => rfl) ?_ ?_
        · rintro i x y H2 H2' K2 hi e2 ⟨rfl, hx⟩ hy hk2
          obtain ⟨z, hz2, hit⟩ := paired_get hys hx
          rw [List.getElem?_map, hz2] at hy
          cases Option.some.inj hy
          walk_at "go"
          refine ⟨x, wz z, rfl, ?_, fun H3 e3 => hk2 _ e3⟩
          rcases hit with ⟨u, rfl, rfl, hu⟩ | ⟨rfl, ho⟩
          · exact .inl ⟨u, rfl, by omega, rfl⟩
          · obtain ⟨ty, h8, h9⟩ := (ho.ex' e2).ty (K := K)
            exact .inr ⟨ty, h8, h9, rfl⟩
        · intro D H2 hD e2 hDl
          walk_at "go"
          refine ⟨D, zs.map wz, rfl, SqL.of (by rw [hDl, List.map_map]; rfl), ?_⟩
          rw [List.all_map]
          show _
          cases hall : zs.all wz with
          | false =>
            rw [show zs.all (id ∘ wz) = false from hall]
            walk_at "go"
            rw [← doX_word (p := p) (s := s) (k := k9) hall]
            exact ky H2 (e1.trans e2)
          | true =>
            rw [show zs.all (id ∘ wz) = true from hall]
            obtain ⟨a, c, b9, e, rfl, wa, wc, wb, we⟩ := doX_four h4 hall
            obtain ⟨rfl, la, lc, lb, le⟩ := four_strs hys
            rw [doX_val wa wc wb we] at ky
            have ha2 := e2 _ _ ha0
            have e12 := e1.trans e2
            walk_at "go"
            refine g_ixt (v := .str a) (k := 0) (SqT.of ha2) rfl ?_
            walk_at "go"
            refine ⟨a, rfl, line5 (by omega), ?_⟩
            walk_at "go"
            by_cases ka : a.length = k9
            · rw [decide_eq_true (show V.int ((a.length : Nat) : Int) = V.int (k9 : Int) from by rw [ka])]
              walk_at "go"
              refine g_ixt (v := .str c) (k := 1) (SqT.of ha2) rfl ?_
              walk_at "go"
              refine ⟨c, rfl, line5 (by omega), ?_⟩
              walk_at "go"
              by_cases kc : c.length = k9
              · rw [decide_eq_true (show V.int ((c.length : Nat) : Int) = V.int (k9 : Int) from by rw [kc])]
                walk_at "go"
                refine ⟨b, C, dx, _, _, rfl, e12 _ _ h1, T.cls C hc, T.n_clock C hc, bagF_clock _ _ _ _, ?_⟩
                walk_at "go"
                refine ⟨b, C, dx, _, _, rfl, e12 _ _ h1, T.cls C hc, T.n_sparse C hc, bagF_sparse _ _ _ _, ?_⟩
                walk_at "go"
                refine ⟨d, a0, p, s, a, c, b9, e, rfl, e12 _ _ hd, SqT.of ha2, gs, hp0, by omega, la, lc, lb, le, fun H3 e3 => ?_⟩
                have := ky H3 (e12.trans e3)
                rwa [decide_eq_true ka, decide_eq_true kc, Bool.true_and, Bool.true_and] at this
              · rw [decide_eq_false (show ¬ V.int ((c.length : Nat) : Int) = V.int (k9 : Int) from fun z => kc (by have := V.int.inj z; omega))]
                walk_at "go"
                have := ky H2 e12
                rwa [decide_eq_true ka, decide_eq_false kc, Bool.and_false, Bool.false_and] at this
            · rw [decide_eq_false (show ¬ V.int ((a.length : Nat) : Int) = V.int (k9 : Int) from fun z => ka (by have := V.int.inj z; omega))]
              walk_at "go"
              have := ky H2 e12
              rwa [decide_eq_false ka, Bool.false_and, Bool.false_and] at this
      · rw [decide_eq_false (show ¬ V.int ((ys.length : Nat) : Int) = V.int 4 from fun z => h4 (by have := V.int.inj z; omega)), if_pos (show (!false) = true from rfl)]
        walk_at "go"
        rw [← doX_len (p := p) (s := s) (k := k9) h4]
        exact ky H1 e1

end
end Fp

namespace Fp
open PySem L2
section
variable {P : Program} {w : World} {K : PySem.W.Frag} {mg : Str → Option Value} {base : Heap} {C_Bag : Addr} {Cs : Addr → Prop}
local macro_rules | `(tactic| walk_at "hp") => `(tactic| first | assumption | rfl)
local macro_rules | `(tactic| walk_at "cond") => `(tactic| first | assumption | decide | omega | (unfold CMul; omega) | (refine ⟨?_, ?_⟩ <;> omega) | (unfold CDiv; omega) | (unfold CPow; omega))
local macro_rules | `(tactic| walk_at "g1") => `(tactic| first
  | with_reducible first
    | refine g_seq ?_ | refine g_asg ?_ | refine g_name ?_ | refine g_ret ?_ | refine g_retN ?_ | refine g_drop ?_ | refine g_ifs ?_
    | refine g_c ?_ | refine g_op ?_ | refine g_un ?_ | refine g_I0 ?_ | refine g_U ?_
    | refine g_test ?_ | refine g_tB ?_ | refine g_bl ?_ | refine g_and ?_ | refine g_or ?_ | refine g_not ?_
    | refine g_andV ?_ | refine g_orV ?_ | refine g_notV ?_ | refine g_if ?_ | refine g_nil ?_ | refine g_cons ?_ | refine g_cb ?_ | refine g_call ?_
    | refine g_lst ?_ | refine g_tup ?_ | refine g_itT ?_ | refine g_itF ?_ | refine g_itNT ?_ | refine g_itNF ?_ | refine g_lc ?_ | refine g_iStr ?_ | refine g_yes ?_ | refine g_exs ?_
    | refine g_chain ?_ | refine g_dget ?_ | refine g_dput ?_ | refine g_dget2 ?_ | refine g_dpop2 ?_ | refine g_fld ?_ | refine g_sfld ?_ | refine g_make ?_ | refine g_meth ?_
    | refine g_bm ?_ | refine g_kw ?_ | refine g_callS ?_ | refine g_revL ?_ | refine g_m1 ?_ | refine g_gsub ?_ | refine g_for ?_ | refine g_iList ?_ | refine g_iTup ?_ | refine g_iRng1 ?_ | refine g_iRng2 ?_ | refine g_sl ?_ | refine g_part ?_ | refine g_noPart ?_
    | refine g_exi ?_ | refine g_exr ?_ | refine g_dnew ?_ | refine g_disp ?_ | refine g_prs0 ?_ | refine g_prs ?_ | refine g_nxt ?_
  | ((with_reducible refine g_var (v := ?vv) ?gv ?_); (case gv => exact rfl))
  | ((with_reducible refine g_I ?gc ?_); (case gc => walk_at "cond"))
  | ((with_reducible refine g_eq ?ge ?_); (case ge => exact rfl))
  | ((with_reducible refine g_ne ?ge ?_); (case ge => exact rfl))
  | (refine g_ixl (SqL.of (by first | assumption | exact upd_same)) rfl ?_)
  | (refine g_setl (by first | assumption | exact upd_same) rfl ?_)
  | ((with_reducible show (∃ i, [V.int _] = [V.int i] ∧ _) ∨ _); refine Or.inl ⟨_, rfl, ?_⟩)
  | ((with_reducible show ∃ i, [V.int _] = [V.int i] ∧ _); refine ⟨_, rfl, ?_⟩)
  | dsimp only)
local macro_rules | `(tactic| walk_at "go") => `(tactic| repeat (walk_at "g1"))

local macro_rules | `(tactic| walk_at "g1") => `(tactic| with_reducible first | refine g_gcons ?_ | refine g_gnil ?_)

theorem exb_free {h : Addr} {H H' : Hp} {a : Addr} (e : ExB h H H') (hh : ∃ o, H h = some o) (hn : H' a = none) (hh' : ∃ o, H' h = some o) : H a = none := by
  cases hz : H a with
  | none => rfl
  | some z =>
    by_cases q : a = h
    · obtain ⟨o, ho⟩ := hh'
      rw [q, ho] at hn
      cases hn
    · rw [e a z q hz] at hn
      cases hn
theorem ok_law_clock {f : Addr} {fd : FuncData} (F : Fun K "_law_clock" "_law_clock" s_law_clock f fd) (T : Txt K mg C_Bag Cs) (D_law_draw : DefOk P w K mg base CX0 1 "_law_draw" ["_law_hand_here", "_law_many"] sp_law_draw) : FnOk P w K mg base CX0 2 f fd ["_law_hand_here"] sp_law_clock := by
  refine F.ok sc_law_clock (fun vs H Q E h => ?_) (fun cdv A outer s H vs Q E hr h => ?_)
  · obtain ⟨h, c, rfl, _⟩ := h
    rfl
  · obtain ⟨h, c, rfl, hh, k⟩ := h
    have hu := hu_of hr; have hu64 := L2.Room.units hr; refine ⟨_, (pss_one (ps_ret (pe_ix (r := rIxL K) ix_list (pe_lst (pa_cons pe_int (pa_cons pe_int (pa_cons pe_int (pa_cons pe_int (pa_cons pe_int (pa_cons pe_int (pa_cons pe_int pa_nil)))))))) (pe_callD D_law_draw (hr.mono (by decide)) rfl pass0 (pa_cons (pv 0) (pa_cons pe_int pa_nil))) (fun _ _ => rfl)))), ?_⟩; rw [st_law_clock]; (try dsimp only [cxOf]); walk_at "go"
    refine ⟨Nat.le_of_ble_eq_true rfl, fun l hl => ?_⟩
    walk_at "go"
    refine ⟨h, c, 7, rfl, hh.ex' (Ex.new hl), by decide, by decide, fun v H' h0 h1 e hh' => ?_⟩
    obtain ⟨xs, hx⟩ := hh.kind
    have hlh : l ≠ h := fun q => by subst q; rw [hl] at hx; cases hx
    have hL : H' l = some (.lst [.int 2, .int 2, .int 2, .int 3, .int 3, .int 5, .int 7]) := e _ _ hlh upd_same
    have eH : ExB h H H' := (Ex.new hl).exb.trans e
    obtain ⟨i, hi, rfl⟩ : ∃ i : Nat, i < 7 ∧ v = i := ⟨v.toNat, by omega, by omega⟩
    match i, hi with
    | 0, _ => exact g_ixl (SqL.of hL) rfl (k _ _ (by decide) eH hh')
    | 1, _ => exact g_ixl (SqL.of hL) rfl (k _ _ (by decide) eH hh')
    | 2, _ => exact g_ixl (SqL.of hL) rfl (k _ _ (by decide) eH hh')
    | 3, _ => exact g_ixl (SqL.of hL) rfl (k _ _ (by decide) eH hh')
    | 4, _ => exact g_ixl (SqL.of hL) rfl (k _ _ (by decide) eH hh')
    | 5, _ => exact g_ixl (SqL.of hL) rfl (k _ _ (by decide) eH hh')
    | 6, _ => exact g_ixl (SqL.of hL) rfl (k _ _ (by decide) eH hh')
    | (n + 7), h => omega
/-! ### the law's own -/
def sp_law_flag : Sp := fun vs H Q _ => ∃ (f g : Bool), vs = [.bl f, .bl g] ∧ Q (.bl (decide (f = g))) H
theorem ok_law_flag {f : Addr} {fd : FuncData} (F : Fun K "_law_flag" "_law_flag" s_law_flag f fd) (T : Txt K mg C_Bag Cs) : FnOk P w K mg base CX0 1 f fd ["_law_told", "_law_due"] sp_law_flag := by
  refine F.ok sc_law_flag (fun vs H Q E h => ?_) (fun cdv A outer s H vs Q E hr h => ?_)
  · obtain ⟨f, g, rfl, _⟩ := h
    rfl
  · obtain ⟨f1, g1, rfl, k⟩ := h
    have hu := hu_of hr; have hu64 := L2.Room.units hr; refine ⟨_, (pss_one (ps_ret (pe_and (pe_callB (r := rIsi K) call_isi (by rfl) T.b_isinstance (by decide +kernel) (pa_cons (pv 0) (pa_cons (pe_bltn (v := .ty "bool") rfl T.b_bool (by decide +kernel) rfl) pa_nil))) (pe_one (pe_cmpR op_eq (pv 0) (pv 1) (nomark _)))))), ?_⟩; rw [st_law_flag]; (try dsimp only [cxOf]); walk_at "go"
    refine g_isi (n := "bool") (t := .type "bool") (b := true) (.base (.bl f1)) (kit_ty (by decide +kernel)) ?_
    walk_at "go"
    have e9 : decide (V.bl f1 = V.bl g1) = decide (f1 = g1) := by
      by_cases q : f1 = g1
      · rw [decide_eq_true q, decide_eq_true (congrArg V.bl q)]
      · rw [decide_eq_false q, decide_eq_false fun z => q (V.bl.inj z)]
    rw [e9]
    exact k
/-- a text or a list, and its items -/
def SeqAt (h : Addr) (H : Hp) (v : V) (xs : List V) : Prop := (∃ z : Str, v = .str z ∧ z.length ≤ 1000 ∧ xs = z.cps.toList.map fun c => V.str ⟨#[c]⟩) ∨ ∃ a, v = .ref a ∧ a ≠ h ∧ H a = some (.lst xs)
def sp_some : Sp := fun vs H Q _ => ∃ (h c : Addr) (v : V) (xs : List V), vs = [.ref h, v] ∧ HandAt H h c ∧ SeqAt h H v xs ∧ 0 < xs.length ∧ xs.length ≤ 1000 ∧ ∀ u H', u ∈ xs → ExB h H H' → HandAt H' h c → Q u H'
theorem ok_law_some {f : Addr} {fd : FuncData} (F : Fun K "_law_some" "_law_some" s_law_some f fd) (T : Txt K mg C_Bag Cs) (D_law_draw : DefOk P w K mg base CX0 1 "_law_draw" ["_law_hand_here", "_law_many"] sp_law_draw) : FnOk P w K mg base CX0 2 f fd ["_law_hand_here", "_law_things"] sp_some := by
  refine F.ok sc_law_some (fun vs H Q E h => ?_) (fun cdv A outer s H vs Q E hr h => ?_)
  · obtain ⟨h, c, v, xs, rfl, _⟩ := h
    rfl
  · obtain ⟨h, c, v, xs, rfl, hh, hs, hx0, hx1, k⟩ := h
    have hu := hu_of hr; have hu64 := L2.Room.units hr; refine ⟨_, (pss_one (ps_ret (pe_ix (r := rIx K) ix_seq (pv 1) (pe_callD D_law_draw (hr.mono (by decide)) rfl pass0 (pa_cons (pv 0) (pa_cons (pe_callB (r := fun xs H Q => ∃ x n, xs = [x] ∧ LenV K x H n ∧ Q (.int n) H) call_len (by rfl) T.b_len (by decide +kernel) (pa_cons (pv 1) pa_nil)) pa_nil))) (fun _ _ => rfl)))), ?_⟩; rw [st_law_some]; (try dsimp only [cxOf]); walk_at "go"
    rcases hs with ⟨z, rfl, hz, rfl⟩ | ⟨a, rfl, hah, ha⟩
    · have hl : (z.cps.toList.map fun c => V.str ⟨#[c]⟩).length = z.length := by rw [List.length_map]; exact Array.length_toList
      refine ⟨_, z.length, rfl, ⟨Nat.le_trans hz (by decide), rfl⟩, ?_⟩
      walk_at "go"
      refine ⟨h, c, z.length, rfl, hh, by omega, by omega, fun q H4 hq0 hq1 e4 hh4 => ?_⟩
      have hql : q.toNat < z.cps.toList.length := by
        have : z.cps.toList.length = z.length := Array.length_toList
        omega
      refine .inr (.inr (g_ixs (Nat.le_trans hz (by decide)) (atI_get hq0 (List.getElem?_eq_getElem hql)) ?_))
      exact k _ _ (List.mem_map.mpr ⟨_, List.getElem_mem hql, rfl⟩) e4 hh4
    · refine ⟨_, xs.length, rfl, .inl ⟨xs, SqL.of ha, rfl⟩, ?_⟩
      walk_at "go"
      refine ⟨h, c, xs.length, rfl, hh, by omega, by omega, fun q H4 hq0 hq1 e4 hh4 => ?_⟩
      have hql : q.toNat < xs.length := by omega
      refine .inl (g_ixl (SqL.of (e4 _ _ hah ha)) (atI_get hq0 (List.getElem?_eq_getElem hql)) ?_)
      exact k _ _ (List.getElem_mem hql) e4 hh4
theorem ok_law_is_word {f : Addr} {fd : FuncData} (F : Fun K "_law_is_word" "_law_is_word" s_law_is_word f fd) (T : Txt K mg C_Bag Cs) : FnOk P w K mg base CX0 1 f fd ["_law_thing"] (sp_is_word K) := by
  refine F.ok sc_law_is_word (fun vs H Q E h => ?_) (fun cdv A outer s H vs Q E hr h => ?_)
  · obtain ⟨x, b, rfl, _⟩ := h
    rfl
  · obtain ⟨x, b, rfl, hi', k⟩ := h
    have hu := hu_of hr; have hu64 := L2.Room.units hr; refine ⟨_, (pss_one (ps_ret (pe_and (pe_callB (r := rIsi K) call_isi (by rfl) T.b_isinstance (by decide +kernel) (pa_cons (pv 0) (pa_cons (pe_bltn (v := .ty "str") rfl T.b_str (by decide +kernel) rfl) pa_nil))) (pe_one (pe_cmpR op_eq (pe_callB call_len_seq (by rfl) T.b_len (by decide +kernel) (pa_cons (pe_lc (own := [("_law_sign", 1)]) (g := (gName 1)) rfl sc_law_is_word.nd (pi_str (pv 0)) (blkOk_by (N := N_law_is_word) (sc := defScope s_law_is_word) (by decide +kernel)) (fun _ _ _ _ _ => (pg_name (i := 1) sc_law_is_word.nd rfl (by first | exact Or.inl rfl | exact Or.inr rfl))) (fun _ _ _ _ _ => (pts_one (pt_cmpR op_notIn_sign (pv 1) pe_str (by rfl)))) (fun _ _ _ _ _ => (pv 1))) pa_nil)) pe_int (nomark _)))))), ?_⟩; rw [st_law_is_word]; (try dsimp only [cxOf]); walk_at "go"
    rcases hi' with ⟨z, rfl, hz, rfl⟩ | ⟨t, ht, hk, rfl⟩
    · refine g_isi (n := "str") (t := .type "str") (b := true) (.base (.str z)) (kit_ty (by decide +kernel)) ?_
      walk_at "go"
      have hsz : z.cps.size ≤ sizeLine := Nat.le_trans hz (by decide)
      have hsn : z.cps.toList.length = z.cps.size := Array.length_toList
      refine lc_relF walk_str z.cps.toList (fun c => !decide (c ∈ ("xyz" : Str).cps.toList)) hsn hsz (fun _ _ => trivial) (fun c y H => True) (fun _ _ _ _ _ h => h) (fun _ => rfl) ?_ ?_
      · rintro i x e H1 H2 Kc N hi e1 ⟨rfl, c, hc, rfl⟩ hei hK hN
        rw [Array.getElem?_toList, hc] at hei
        cases Option.some.inj hei
        walk_at "go"
        refine ⟨e, _, rfl, rfl, ?_⟩
        cases hq : decide (e ∈ ("xyz" : Str).cps.toList) with
        | true =>
          walk_at "go"
          exact hN (by rw [hq]; rfl) _ (Ex.refl _)
        | false =>
          walk_at "go"
          exact hK (by rw [hq]; rfl) _ _ (Ex.refl _) trivial
      · intro D H1 ys hD e1 hl1 hp1
        walk_at "go"
        refine ⟨D, ys, rfl, .inl (SqL.of hl1), ?_⟩
        walk_at "go"
        have hyl := Paired.length hp1
        have e9 : decide (V.int ((ys.length : Nat) : Int) = V.int 0) = isW z := by
          unfold isW
          cases hq : z.cps.toList.all fun c => decide (c ∈ ("xyz" : Str).cps.toList) with
          | true =>
            have hnil : (z.cps.toList.filter fun c => !decide (c ∈ ("xyz" : Str).cps.toList)) = [] := List.filter_eq_nil_iff.mpr fun c hc h => by
              rw [List.all_eq_true.mp hq c hc] at h
              cases h
            rw [hnil] at hyl
            rw [hyl]
            exact decide_eq_true rfl
          | false =>
            refine decide_eq_false fun h => ?_
            have h0 : ys.length = 0 := by have := V.int.inj h; omega
            rw [h0] at hyl
            have hnil := List.eq_nil_of_length_eq_zero hyl.symm
            have : (z.cps.toList.all fun c => decide (c ∈ ("xyz" : Str).cps.toList)) = true := List.all_eq_true.mpr fun c hc => by
              cases hd : decide (c ∈ ("xyz" : Str).cps.toList) with
              | true => rfl
              | false =>
                have := List.filter_eq_nil_iff.mp hnil c hc
                rw [hd] at this
                exact absurd rfl this
            rw [hq] at this
            cases this
        rw [e9]
        exact k H1 e1
    · refine g_isi (b := false) ht hk ?_
      walk_at "go"
      exact k H (Ex.refl _)

end
end Fp

namespace Fp
open PySem L2
section
variable {P : Program} {w : World} {K : PySem.W.Frag} {mg : Str → Option Value} {base : Heap} {C_Bag : Addr} {Cs : Addr → Prop}
local macro_rules | `(tactic| walk_at "hp") => `(tactic| first | assumption | rfl)
local macro_rules | `(tactic| walk_at "cond") => `(tactic| first | assumption | decide | omega | (unfold CMul; omega) | (refine ⟨?_, ?_⟩ <;> omega) | (unfold CDiv; omega) | (unfold CPow; omega))
local macro_rules | `(tactic| walk_at "g1") => `(tactic| first
  | with_reducible first
    | refine g_seq ?_ | refine g_asg ?_ | refine g_name ?_ | refine g_ret ?_ | refine g_retN ?_ | refine g_drop ?_ | refine g_ifs ?_
    | refine g_c ?_ | refine g_op ?_ | refine g_un ?_ | refine g_I0 ?_ | refine g_U ?_
    | refine g_test ?_ | refine g_tB ?_ | refine g_bl ?_ | refine g_and ?_ | refine g_or ?_ | refine g_not ?_
    | refine g_andV ?_ | refine g_orV ?_ | refine g_notV ?_ | refine g_if ?_ | refine g_nil ?_ | refine g_cons ?_ | refine g_cb ?_ | refine g_call ?_
    | refine g_lst ?_ | refine g_tup ?_ | refine g_itT ?_ | refine g_itF ?_ | refine g_itNT ?_ | refine g_itNF ?_ | refine g_lc ?_ | refine g_iStr ?_ | refine g_yes ?_ | refine g_exs ?_
    | refine g_chain ?_ | refine g_dget ?_ | refine g_dput ?_ | refine g_dget2 ?_ | refine g_dpop2 ?_ | refine g_fld ?_ | refine g_sfld ?_ | refine g_make ?_ | refine g_meth ?_
    | refine g_bm ?_ | refine g_kw ?_ | refine g_callS ?_ | refine g_revL ?_ | refine g_m1 ?_ | refine g_gsub ?_ | refine g_for ?_ | refine g_iList ?_ | refine g_iTup ?_ | refine g_iRng1 ?_ | refine g_iRng2 ?_ | refine g_sl ?_ | refine g_part ?_ | refine g_noPart ?_
    | refine g_exi ?_ | refine g_exr ?_ | refine g_dnew ?_ | refine g_disp ?_ | refine g_prs0 ?_ | refine g_prs ?_ | refine g_nxt ?_
  | ((with_reducible refine g_var (v := ?vv) ?gv ?_); (case gv => exact rfl))
  | ((with_reducible refine g_I ?gc ?_); (case gc => walk_at "cond"))
  | ((with_reducible refine g_eq ?ge ?_); (case ge => exact rfl))
  | ((with_reducible refine g_ne ?ge ?_); (case ge => exact rfl))
  | (refine g_ixl (SqL.of (by first | assumption | exact upd_same)) rfl ?_)
  | (refine g_setl (by first | assumption | exact upd_same) rfl ?_)
  | ((with_reducible show (∃ i, [V.int _] = [V.int i] ∧ _) ∨ _); refine Or.inl ⟨_, rfl, ?_⟩)
  | ((with_reducible show ∃ i, [V.int _] = [V.int i] ∧ _); refine ⟨_, rfl, ?_⟩)
  | dsimp only)
local macro_rules | `(tactic| walk_at "go") => `(tactic| repeat (walk_at "g1"))

local macro_rules | `(tactic| walk_at "g1") => `(tactic| with_reducible first | refine g_gcons ?_ | refine g_gnil ?_)

def sp_do_cross : Sp := fun vs H Q _ => ∃ (h d : Addr) (p : Int) (s : Bg) (k : Nat) (v : V) (x : Option (List (Option Str))), vs = [.int p, .ref d, .int k, v] ∧ H d = some (.dK (toK s)) ∧ Good p s ∧ 0 < p ∧ p ≤ 1000 ∧ ThAt h H v x ∧ ∀ H', Ex H H' → Q (.bl (doX p s k x)) H'
theorem ok_law_do_cross {f : Addr} {fd : FuncData} (F : Fun K "_law_do_cross" "_law_do_cross" s_law_do_cross f fd) (T : Txt K mg C_Bag Cs) (D_law_is_word : DefOk P w K mg base CX0 1 "_law_is_word" ["_law_thing"] (sp_is_word K)) : FnOk P w K mg base CX0 2 f fd ["_law_clock_here", "_law_bag", "_law_letters", "_law_thing"] sp_do_cross := by
  refine F.ok sc_law_do_cross (fun vs H Q E h => ?_) (fun cdv A outer s H vs Q E hr h => ?_)
  · obtain ⟨h, d, p, s, k, v, x, rfl, _⟩ := h
    rfl
  · obtain ⟨h, d, p, s, k9, v, x, rfl, hd, gs, hp0, hp9, hv, ky⟩ := h
    have hu := hu_of hr; have hu64 := L2.Room.units hr; refine ⟨_, (pss_cons (ps_if (PW.pt (pw_or (pt_not (pt_val (pe_callB (r := rIsi K) call_isi (by rfl) T.b_isinstance (by decide +kernel) (pa_cons (pv 3) (pa_cons (pe_bltn (v := .ty "tuple") rfl T.b_tuple (by decide +kernel) rfl) pa_nil))))) (pw_or (pt_cmpR op_ne (pe_callB call_len_seq (by rfl) T.b_len (by decide +kernel) (pa_cons (pv 3) pa_nil)) pe_int (nomark _)) (pw_or1 (pt_not (pt_val (pe_callB (r := rAll K) (cr_all rfl) (by rfl) T.b_all (by decide +kernel) (pa_cons (pe_lc (own := [("_law_word", 4)]) (g := (gName 4)) (tt := tYes) rfl sc_law_do_cross.nd (pi_tup (pv 3)) (blkOk_by (N := N_law_do_cross) (sc := defScope s_law_do_cross) (by decide +kernel)) (fun _ _ _ _ _ => (pg_name (i := 4) sc_law_do_cross.nd rfl (by first | exact Or.inl rfl | exact Or.inr rfl))) (fun _ _ _ _ _ => pts_nil) (fun _ _ _ _ _ => (pe_callD D_law_is_word (hr.mono (by decide)) rfl pass0 (pa_cons (pv 4) pa_nil)))) pa_nil)))))))) (pss_one (ps_ret pe_bl)) pss_nil) (pss_cons (ps_if (PW.pt (pw_or (pt_cmpR op_ne (pe_callB call_len_str (by rfl) T.b_len (by decide +kernel) (pa_cons (pe_ix (r := rIxT K) ix_tup (pv 3) pe_int (fun _ _ => rfl)) pa_nil)) (pv 2) (nomark _)) (pw_or1 (pt_cmpR op_ne (pe_callB call_len_str (by rfl) T.b_len (by decide +kernel) (pa_cons (pe_ix (r := rIxT K) ix_tup (pv 3) pe_int (fun _ _ => rfl)) pa_nil)) (pv 2) (nomark _))))) (pss_one (ps_ret pe_bl)) pss_nil) (pss_cons (ps_asg (pv 3) (pg_tup rfl (pgs_cons (pg_name (i := 5) sc_law_do_cross.nd rfl (by first | exact Or.inl rfl | exact Or.inr rfl)) (pgs_cons (pg_name (i := 6) sc_law_do_cross.nd rfl (by first | exact Or.inl rfl | exact Or.inr rfl)) (pgs_cons (pg_name (i := 7) sc_law_do_cross.nd rfl (by first | exact Or.inl rfl | exact Or.inr rfl)) (pgs_cons (pg_name (i := 8) sc_law_do_cross.nd rfl (by first | exact Or.inl rfl | exact Or.inr rfl)) pgs_nil)))))) (pss_cons (ps_set (i := 9) sc_law_do_cross.nd rfl (by first | exact Or.inl rfl | exact Or.inr rfl) (pe_op op_mul (pe_dget2 hu (pv 1) (pe_op op_add_str (pv 5) (pv 7)) pe_int ⟨rfl, rfl, rfl, rfl⟩) (pe_dget2 hu (pv 1) (pe_op op_add_str (pv 6) (pv 8)) pe_int ⟨rfl, rfl, rfl, rfl⟩))) (pss_cons (ps_set (i := 10) sc_law_do_cross.nd rfl (by first | exact Or.inl rfl | exact Or.inr rfl) (pe_op op_mul (pe_dget2 hu (pv 1) (pe_op op_add_str (pv 5) (pv 8)) pe_int ⟨rfl, rfl, rfl, rfl⟩) (pe_dget2 hu (pv 1) (pe_op op_add_str (pv 6) (pv 7)) pe_int ⟨rfl, rfl, rfl, rfl⟩))) (pss_one (ps_ret (pe_cmpR op_ne (pe_op op_mod (pe_callTy call_int1 (by rfl) T.b_int (by decide +kernel) (pa_cons (pe_op op_sub (pv 9) (pv 10)) pa_nil)) (pv 0)) pe_int (nomark _))))))))), ?_⟩; rw [st_law_do_cross]; (try dsimp only [cxOf]); walk_at "go"
    rcases hv with ⟨rfl, hv⟩ | ⟨a0, ys, zs, rfl, rfl, ha0, hys, hyl⟩
    · obtain ⟨ty, ht, hkt⟩ := hv.ty (K := K)
      refine g_isi (b := false) ht hkt ?_
      walk_at "go"
      exact ky H (Ex.refl _)
    · refine g_isi (n := "tuple") (t := .type "tuple") (b := true) (.base (.tup ha0)) (kit_ty (by decide +kernel)) ?_
      walk_at "go"
      refine ⟨a0, _, rfl, .inr (SqT.of ha0), ?_⟩
      have hlen := Paired.length hys
      walk_at "go"
      by_cases h4 : zs.length = 4
      · rw [decide_eq_true (show V.int ((ys.length : Nat) : Int) = V.int 4 from by rw [hlen, h4]; rfl), if_neg (show ¬ ((!true) = true) from fun z => nomatch z)]
        walk_at "go"
        refine ⟨⟨_, SqT.of ha0⟩, ?_⟩
        refine lc_pure walk_tup (zs.map fun z => V.bl (wz z)) (by rw [List.length_map, hlen]) (Nat.le_trans hyl (by decide)) (fun H' e => SqT.of (e _ _ ha0)) (fun _ => rfl) ?_ ?_
        · rintro i x y H2 H2' K2 hi e2 ⟨rfl, hx⟩ hy hk2
          obtain ⟨z, hz2, hit⟩ := paired_get hys hx
          rw [List.getElem?_map, hz2] at hy
          cases Option.some.inj hy
          walk_at "go"
          refine ⟨x, wz z, rfl, ?_, fun H3 e3 => hk2 _ e3⟩
          rcases hit with ⟨u, rfl, rfl, hu⟩ | ⟨rfl, ho⟩
          · exact .inl ⟨u, rfl, by omega, rfl⟩
          · obtain ⟨ty, h8, h9⟩ := (ho.ex' e2).ty (K := K)
            exact .inr ⟨ty, h8, h9, rfl⟩
        · intro D H2 hD e2 hDl
          walk_at "go"
          refine ⟨D, zs.map wz, rfl, SqL.of (by rw [hDl, List.map_map]; rfl), ?_⟩
          rw [List.all_map]
          show _
          cases hall : zs.all wz with
          | false =>
            rw [show zs.all (id ∘ wz) = false from hall]
            walk_at "go"
            rw [← doX_word (p := p) (s := s) (k := k9) hall]
            exact ky H2 e2
          | true =>
            rw [show zs.all (id ∘ wz) = true from hall]
            obtain ⟨a, c, b9, e, rfl, wa, wc, wb, we⟩ := doX_four h4 hall
            obtain ⟨rfl, la, lc, lb, le⟩ := four_strs hys
            rw [doX_val wa wc wb we] at ky
            have ha2 := e2 _ _ ha0
            walk_at "go"
            refine g_ixt (v := .str a) (k := 0) (SqT.of ha2) rfl ?_
            walk_at "go"
            refine ⟨a, rfl, line5 (by omega), ?_⟩
            walk_at "go"
            by_cases ka : a.length = k9
            · rw [decide_eq_true (show V.int ((a.length : Nat) : Int) = V.int (k9 : Int) from by rw [ka])]
              walk_at "go"
              refine g_ixt (v := .str c) (k := 1) (SqT.of ha2) rfl ?_
              walk_at "go"
              refine ⟨c, rfl, line5 (by omega), ?_⟩
              walk_at "go"
              by_cases kc : c.length = k9
              · rw [decide_eq_true (show V.int ((c.length : Nat) : Int) = V.int (k9 : Int) from by rw [kc])]
                walk_at "go"
                refine g_gtup (SqT.of ha2) rfl ?_
                have hd2 := e2 _ _ hd
                have hcf : ∀ u v : Str, CMul (cf s u) (cf s v) := fun u v => by
                  have h1 := cf_lt hp0 gs u
                  have h2 := cf_nonneg gs u
                  unfold CMul
                  omega
                have q1 := hcf (a ++ b9) (c ++ e)
                have q2 := hcf (a ++ e) (c ++ b9)
                walk_at "go"
                refine ⟨.inl ⟨_, .inl hd2⟩, ?_⟩
                walk_at "go"
                refine ⟨_, _, rfl, rfl, Nat.le_trans (by omega : a.length + b9.length ≤ 2000) (by decide), ?_⟩
                walk_at "go"
                refine ⟨_, .inl ⟨toK s, .inr (a ++ b9), .inl hd2, rfl, rfl⟩, ?_⟩
                rw [getD_toK]
                walk_at "go"
                refine ⟨.inl ⟨_, .inl hd2⟩, ?_⟩
                walk_at "go"
                refine ⟨_, _, rfl, rfl, Nat.le_trans (by omega : c.length + e.length ≤ 2000) (by decide), ?_⟩
                walk_at "go"
                refine ⟨_, .inl ⟨toK s, .inr (c ++ e), .inl hd2, rfl, rfl⟩, ?_⟩
                rw [getD_toK]
                walk_at "go"
                refine ⟨.inl ⟨_, .inl hd2⟩, ?_⟩
                walk_at "go"
                refine ⟨_, _, rfl, rfl, Nat.le_trans (by omega : a.length + e.length ≤ 2000) (by decide), ?_⟩
                walk_at "go"
                refine ⟨_, .inl ⟨toK s, .inr (a ++ e), .inl hd2, rfl, rfl⟩, ?_⟩
                rw [getD_toK]
                walk_at "go"
                refine ⟨.inl ⟨_, .inl hd2⟩, ?_⟩
                walk_at "go"
                refine ⟨_, _, rfl, rfl, Nat.le_trans (by omega : c.length + b9.length ≤ 2000) (by decide), ?_⟩
                walk_at "go"
                refine ⟨_, .inl ⟨toK s, .inr (c ++ b9), .inl hd2, rfl, rfl⟩, ?_⟩
                rw [getD_toK]
                walk_at "go"
                have e9 : (!decide (V.int ((cf s (a ++ b9) * cf s (c ++ e) - cf s (a ++ e) * cf s (c ++ b9)) % p) = V.int 0)) = crossB p s a c b9 e := by
                  unfold crossB
                  by_cases hz : (cf s (a ++ b9) * cf s (c ++ e) - cf s (a ++ e) * cf s (c ++ b9)) % p = 0
                  · rw [decide_eq_true (congrArg V.int hz), decide_eq_false fun h => h hz]; rfl
                  · rw [decide_eq_false (fun h => hz (V.int.inj h)), decide_eq_true hz]; rfl
                rw [e9]
                have := ky H2 e2
                rwa [decide_eq_true ka, decide_eq_true kc, Bool.true_and, Bool.true_and] at this
              · rw [decide_eq_false (show ¬ V.int ((c.length : Nat) : Int) = V.int (k9 : Int) from fun z => kc (by have := V.int.inj z; omega))]
                walk_at "go"
                have := ky H2 e2
                rwa [decide_eq_true ka, decide_eq_false kc, Bool.and_false, Bool.false_and] at this
            · rw [decide_eq_false (show ¬ V.int ((a.length : Nat) : Int) = V.int (k9 : Int) from fun z => ka (by have := V.int.inj z; omega))]
              walk_at "go"
              have := ky H2 e2
              rwa [decide_eq_false ka, Bool.false_and, Bool.false_and] at this
      · rw [decide_eq_false (show ¬ V.int ((ys.length : Nat) : Int) = V.int 4 from fun z => h4 (by have := V.int.inj z; omega)), if_pos (show (!false) = true from rfl)]
        walk_at "go"
        rw [← doX_len (p := p) (s := s) (k := k9) h4]
        exact ky H (Ex.refl _)

end
end Fp

/-! A text told backward. -/
namespace Fp
open PySem L2 PyProof.Rows
section
variable {X : Cx}
theorem rev_sliceBy (x : Str) (u : Tok) : Txt.sliceBy x none none (-1, u) = revW x := by
  refine str_ext ?_
  rw [step_rev_list]
  unfold revW
  rw [toList_ofL]
  refine List.ext_getElem? fun i => ?_
  rcases Nat.lt_or_ge i x.length with h | h
  · have h2 : x.length - 1 - i < x.cps.toList.length := by rw [str_len]; omega
    rw [List.getElem?_map, List.getElem?_range h, List.getElem?_reverse (by rw [str_len]; exact h), str_len, List.getElem?_eq_getElem h2]
    have h3 : x.length - 1 - i < x.cps.size := by show _ < x.length; omega
    show some (x.cps.getD (x.length - 1 - i) 0) = _
    simp [Array.getD, h3]
  · rw [List.getElem?_eq_none (by simp; exact h), List.getElem?_eq_none (by rw [List.length_reverse, str_len]; exact h)]
def tRevS (te : TE) : TE := fun σ H Q => te σ H fun x H1 => ∃ z, x = .str z ∧ z.length ≤ sizeLine ∧ Q (.str (revW z)) H1
theorem g_revS {te : TE} {σ : L2.St} {H : Hp} {Q : VK} (h : te σ H fun x H1 => ∃ z, x = .str z ∧ z.length ≤ sizeLine ∧ Q (.str (revW z)) H1) : tRevS te σ H Q := h
theorem pe_revS {e : Expr} {te : TE} {k : Nat} {p1 p2 p3 pos : Pos} (he : PE X e te) : PE X (.Subscript e (.Slice none none (some (.UnaryOp .USub (.Constant (.int 1) k p1) p2)) p3) pos) (tRevS te) := by
  refine ⟨fun pins s σ H Q I h => ?_⟩
  refine Subscript_ (thn (he.run pins s σ H _ I h) fun v s1 ⟨x, H1, I1, r1, q1⟩ => ?_)
  obtain ⟨z, ex, hz, q⟩ := q1
  subst ex
  obtain ⟨t, rfl⟩ := r1
  have hst : PO X (some (.UnaryOp .USub (.Constant (.int 1) k p1) p2)) (tPart (tUn (rU fun i => .int (-i)) (tC (.int 1)))) := po_some (pe_un un_neg pe_int)
  refine wpAny_Slice (thn (po_none.run pins s1 σ H1 (fun o H2 => o = none ∧ H2 = H1) I1 ⟨rfl, rfl⟩) fun vl s2 ⟨l, H2, I2, pl, el, e2⟩ => ?_)
  subst el e2
  refine thn (po_none.run pins s2 σ H2 (fun o H3 => o = none ∧ H3 = H2) I2 ⟨rfl, rfl⟩) fun vu s3 ⟨u, H3, I3, pu, eu, e3⟩ => ?_
  subst eu e3
  refine thn (hst.run pins s3 σ H3 (fun o H4 => o = some (-1) ∧ H4 = H3) I3 ⟨1, rfl, -1, rfl, rfl, rfl⟩) fun vs s4 ⟨o, H4, I4, ps, eo, e4⟩ => ?_
  subst eo e4
  have I5 : Inv X pins σ H4 { s4 with heap := s4.heap.push { cls := .type "slice", data := .fields #[vl, vu, vs] } } := I4.kept (t' := s4.toks) fun b ob q => Heap.get?_push_of_some _ q
  show wpAny (model X.prog X.w) X.A (subscriptTail e (.Slice none none (some (.UnaryOp .USub (.Constant (.int 1) k p1) p2)) p3) (.str z t) (.ref s4.heap.objs.size)) (EP X pins σ Q) X.xe { s4 with heap := s4.heap.push { cls := .type "slice", data := .fields #[vl, vu, vs] } }
  obtain ⟨l, rfl, el⟩ := IsPart.raw pl
  obtain ⟨u, rfl, eu⟩ := IsPart.raw pu
  obtain ⟨sv, rfl, es⟩ := IsPart.raw ps
  have hl : l = none := by cases l with | none => rfl | some q => cases el
  have hu : u = none := by cases u with | none => rfl | some q => cases eu
  subst hl hu
  obtain ⟨⟨j, tk⟩, rfl⟩ : ∃ q, sv = some q := by cases sv with | none => cases es | some q => exact ⟨q, rfl⟩
  obtain rfl : j = -1 := Option.some.inj es
  refine tail_any (ops := [.ref s4.heap.objs.size, .str z t]) (typeIs_str _ z t) F.slot_str_getitem.lookup (wpAny_getItem_str_slice (l := none) (u := none) (st := some (-1, tk)) ⟨_, Heap.get?_push_size _ rfl, rfl, rfl⟩ rfl ?_) (by with_unfolding_all rfl)
  have hsm : sliceMade z t none none (some (-1, tk)) = Made.str (revW z) := by
    rw [← rev_sliceBy z tk]
    rfl
  rw [hsm]
  exact ⟨by rw [revW_len]; exact hz, .str _, H4, I5.tok _, ⟨_, rfl⟩, q⟩
end
end Fp

/-! A text so many times. -/
namespace Fp
open PySem L2
def manyS (z : Str) (n : Nat) : Str := ofL (List.replicate n z.cps.toList).flatten
theorem fold_flat : ∀ (l : List (Array Nat)) (a : Array Nat), (l.foldl (· ++ ·) a).toList = a.toList ++ (l.map Array.toList).flatten
  | [], a => by simp
  | b :: l, a => by
    rw [List.foldl_cons, fold_flat l]
    simp [List.append_assoc]
theorem mul_manyS (z : Str) (n : Nat) : Txt.mul z n = manyS z n := by
  refine str_ext ?_
  unfold Txt.mul manyS
  rw [toList_ofL]
  by_cases h0 : (n : Int) < 1
  · rw [if_pos h0]
    have : n = 0 := by omega
    subst this
    rfl
  rw [if_neg h0]
  by_cases h1 : (((n : Int) == 1 || z.length == 0) = true)
  · rw [if_pos h1]
    rcases Bool.or_eq_true_iff.mp h1 with h1 | h1
    · have : n = 1 := by have := beq_iff_eq.mp h1; omega
      subst this
      simp
    · have hz : z.cps.toList = [] := List.length_eq_zero_iff.mp (by rw [str_len]; exact beq_iff_eq.mp h1)
      rw [hz]
      have : ∀ k : Nat, (List.replicate k ([] : List Nat)).flatten = [] := by
        intro k
        induction k with
        | zero => rfl
        | succ k ih => rw [List.replicate_succ, List.flatten_cons, ih]; rfl
      exact (this n).symm
  · rw [if_neg h1]
    rw [fold_flat, Int.toNat_natCast, List.map_replicate]
    rfl
theorem manyS_len (z : Str) : ∀ n, (manyS z n).length = n * z.length := by
  intro n
  rw [← str_len]
  unfold manyS
  rw [toList_ofL]
  induction n with
  | zero => simp
  | succ n ih => rw [List.replicate_succ, List.flatten_cons, List.length_append, ih, str_len, Nat.succ_mul, Nat.add_comm]
def rMulG : R2 := fun x y H Q => ∃ (z : Str) (n : Nat), x = .str z ∧ y = .int (n : Int) ∧ z.length ≤ 1000 ∧ n ≤ 1000 ∧ Q (.str (manyS z n)) H
theorem op_mulG {X : L2.Cx} : OpR X (binaryOp .Mult) rMulG := by
  intro pins s σ H x y v u Q I rx ry h
  obtain ⟨z, n, rfl, rfl, hz, hn, q⟩ := h
  obtain ⟨t, rfl⟩ := rx
  obtain ⟨t', rfl⟩ := ry
  have hm : z.length * n ≤ 1000 * 1000 := Nat.mul_le_mul hz hn
  refine SB.mul ⟨by rw [decide_eq_false (by omega), decide_eq_false (by omega)]; rfl, fun h1 _ => ?_, fun h1 _ => ?_⟩ fun t'' k => ?_
  · have h2 : (z.length : Int) ≤ (2 ^ 63 - 1 : Int) / n := by
      rw [Int.le_ediv_iff_mul_le (by omega)]
      have : ((z.length * n : Nat) : Int) ≤ 1000 * 1000 := by omega
      rw [Int.natCast_mul] at this
      omega
    omega
  · refine decide_eq_false ?_
    rw [Int.toNat_natCast]
    show ¬ z.length * n > 2 ^ 24
    omega
  · rw [mul_manyS]
    exact ⟨.str (manyS z n), H, I.tok _, ⟨_, rfl⟩, q⟩
end Fp

/-! A tuple of four told backward. -/
namespace Fp
open PySem PySem.Spec L2 PyProof.Rows
section
variable {prog : Program} {w : World} {A : Around} {E : Value → Shared → Prop} {s : Shared}
theorem applied_rev {sl : Addr} {tk : Tok} {Q : Int × Int × Nat → Shared → Prop} (hs : s.heap.IsSliceOf sl .none .none (.int (-1) tk)) (h : Q (3, -1, 4) s) : wpAny (model prog w) A (Builtin.Slice.sliceApplied (.ref sl) (pure (4 : Int))) Q E s := by
  obtain ⟨os, hos, hcs, hds⟩ := id hs
  unfold Builtin.Slice.sliceApplied Builtin.Slice.sliceFields
  refine wpAny_bind (wpAny_bind (wpAny_field hos hds (x := .none) rfl (wpAny_bind (wpAny_field hos hds (x := .none) rfl (wpAny_bind (wpAny_field hos hds (x := .int (-1) tk) rfl (wpAny_pure ?_)))))))
  refine wpAny_bind (slicePart_int ?_)
  show wpAny _ _ (if ((-1 : Int) == 0) = true then _ else _) _ _ s
  rw [if_neg (by decide)]
  refine wpAny_bind (slicePart_none (wpAny_bind (slicePart_none (wpAny_bind (wpAny_pure ?_)))))
  exact wpAny_pure h
theorem rev4_item {t sl : Addr} {a b c d : Value} {tk : Tok} {Q : Value → Shared → Prop} (ht : IsTup s.heap t #[a, b, c, d]) (hs : s.heap.IsSliceOf sl .none .none (.int (-1) tk))
    (h : Q (.ref s.heap.objs.size) { s with heap := s.heap.push { cls := .type "tuple", data := .seq #[d, c, b, a] } }) : wpAny (model prog w) A (getItem (.ref t) (.ref sl)) Q E s := by
  obtain ⟨os, hos, hcs, hds⟩ := id hs
  have hTs : s.TypeIs (.ref sl) "slice" := ⟨os, hos, hcs⟩
  unfold getItem
  try with_reducible refine wpAny_holding ?_
  first | refine wpAny_bind (wpAny_pure ?_) | skip
  refine wpAny_bind (wpAny_sequenceKey ht.typeIs (by decide) ?_)
  refine wpAny_bind (wpAny_callSpecial?_slot (name := Str.ofString "__getitem__") ht.typeIs PyProof.Rows.slot_tuple_getitem
    (wpAny_call_entry PyProof.Rows.slot_tuple_getitem ht.typeIs entry_tuple_getitem ?_ (args_tuple_getitem _ _)))
  show wpAny _ _ (Builtin.Tuple.tupleItemsOf (.ref t) >>= _) _ _ s
  refine wpAny_bind (tupleItemsOf_ ht ?_)
  refine wpAny_bind (wpAny_typeOf hTs ?_)
  rw [if_pos (by decide)]
  refine wpAny_bind (applied_rev hs ?_)
  have hsz : sizeOk (.seq (#[d, c, b, a] : Array Value)) := by show 4 ≤ sizeLine; decide
  show wpAny _ _ (if (((3 : Int) == 0 && (-1 : Int) == 1 && (4 : Nat) == 4) = true) then _ else _) _ _ s
  rw [if_neg (by decide)]
  first
    | exact wpAny_bind (m := Builtin.Tuple.tupleExact _) (wpAny_newObj_type (wpAny_pure ⟨_, rfl, wpAny_pure h⟩) hsz)
    | exact wpAny_bind (m := Builtin.Tuple.tupleExact _) (wpAny_newObj_type (wpAny_bind (wpAny_pure (wpAny_pure ⟨_, rfl, wpAny_pure h⟩))) hsz)
    | exact wpAny_bind (wpAny_bind (m := Builtin.Tuple.tupleExact _) (wpAny_newObj_type (wpAny_pure (wpAny_pure ⟨_, rfl, wpAny_pure h⟩)) hsz))
    | exact wpAny_bind (wpAny_bind (m := Builtin.Tuple.tupleExact _) (wpAny_newObj_type (wpAny_pure ⟨_, rfl, wpAny_pure h⟩) hsz))
end
section
variable {X : L2.Cx}
def tRevT (K : PySem.W.Frag) (te : TE) : TE := fun σ H Q => te σ H fun x H1 => ∃ a x0 x1 x2 x3, x = .ref a ∧ SqT K H1 a [x0, x1, x2, x3] ∧ ∀ p, H1 p = none → Q (.ref p) (upd H1 p (.tup [x3, x2, x1, x0]))
theorem g_revT {K : PySem.W.Frag} {te : TE} {σ : L2.St} {H : Hp} {Q : VK} (h : te σ H fun x H1 => ∃ a x0 x1 x2 x3, x = .ref a ∧ SqT K H1 a [x0, x1, x2, x3] ∧ ∀ p, H1 p = none → Q (.ref p) (upd H1 p (.tup [x3, x2, x1, x0]))) : tRevT K te σ H Q := h
theorem pe_revT {e : Expr} {te : TE} {k : Nat} {p1 p2 p3 pos : Pos} (he : PE X e te) : PE X (.Subscript e (.Slice none none (some (.UnaryOp .USub (.Constant (.int 1) k p1) p2)) p3) pos) (tRevT X.K te) := by
  refine ⟨fun pins s σ H Q I h => ?_⟩
  refine Subscript_ (thn (he.run pins s σ H _ I h) fun v s1 ⟨x, H1, I1, r1, q1⟩ => ?_)
  obtain ⟨a, x0, x1, x2, x3, ex, hz, q⟩ := q1
  subst ex
  cases r1
  have hst : PO X (some (.UnaryOp .USub (.Constant (.int 1) k p1) p2)) (tPart (tUn (rU fun i => .int (-i)) (tC (.int 1)))) := po_some (pe_un un_neg pe_int)
  refine wpAny_Slice (thn (po_none.run pins s1 σ H1 (fun o H2 => o = none ∧ H2 = H1) I1 ⟨rfl, rfl⟩) fun vl s2 ⟨l, H2, I2, pl, el, e2⟩ => ?_)
  subst el e2
  refine thn (po_none.run pins s2 σ H2 (fun o H3 => o = none ∧ H3 = H2) I2 ⟨rfl, rfl⟩) fun vu s3 ⟨u, H3, I3, pu, eu, e3⟩ => ?_
  subst eu e3
  refine thn (hst.run pins s3 σ H3 (fun o H4 => o = some (-1) ∧ H4 = H3) I3 ⟨1, rfl, -1, rfl, rfl, rfl⟩) fun vs s4 ⟨o, H4, I4, ps, eo, e4⟩ => ?_
  subst eo e4
  have I5 : Inv X pins σ H4 { s4 with heap := s4.heap.push { cls := .type "slice", data := .fields #[vl, vu, vs] } } := I4.kept (t' := s4.toks) fun b ob q => Heap.get?_push_of_some _ q
  obtain ⟨its, r, ht, _⟩ := I5.tuple hz
  show wpAny (model X.prog X.w) X.A (subscriptTail e (.Slice none none (some (.UnaryOp .USub (.Constant (.int 1) k p1) p2)) p3) (.ref a) (.ref s4.heap.objs.size)) (EP X pins σ Q) X.xe { s4 with heap := s4.heap.push { cls := .type "slice", data := .fields #[vl, vu, vs] } }
  cases pl
  cases pu
  cases ps with
  | int i tk =>
    refine tail_any (ops := [.ref a, .ref s4.heap.objs.size]) ht.typeIs (PyProof.Rows.slot_tuple_getitem.lookup) ?_ (by with_unfolding_all rfl)
    cases r with
    | cons r0 r =>
      cases r with
      | cons r1 r =>
        cases r with
        | cons r2 r =>
          cases r with
          | cons r3 r =>
            cases r
            refine rev4_item ht (Heap.IsSliceOf.new _ _ _ _) ?_
            refine ⟨.ref _, _, I5.laid (t' := s4.toks) (o := .tup [x3, x2, x1, x0]) (fun b ob q => Heap.get?_push_of_some _ q) (Nat.le_refl _) ?_, rfl, q _ (I5.hok.fresh (Nat.le_refl _))⟩
            exact ⟨by show 4 ≤ sizeLine; decide, _, .cons r3 (.cons r2 (.cons r1 (.cons r0 .nil))), IsTup.new _ _⟩
end
end Fp

namespace Fp
open PySem L2
section
variable {P : Program} {w : World} {K : PySem.W.Frag} {mg : Str → Option Value} {base : Heap} {C_Bag : Addr} {Cs : Addr → Prop}
local macro_rules | `(tactic| walk_at "hp") => `(tactic| first | assumption | rfl)
local macro_rules | `(tactic| walk_at "cond") => `(tactic| first | assumption | decide | omega | (unfold CMul; omega) | (refine ⟨?_, ?_⟩ <;> omega) | (unfold CDiv; omega) | (unfold CPow; omega))
local macro_rules | `(tactic| walk_at "g1") => `(tactic| first
  | with_reducible first
    | refine g_seq ?_ | refine g_asg ?_ | refine g_name ?_ | refine g_ret ?_ | refine g_retN ?_ | refine g_drop ?_ | refine g_ifs ?_
    | refine g_c ?_ | refine g_op ?_ | refine g_un ?_ | refine g_I0 ?_ | refine g_U ?_
    | refine g_test ?_ | refine g_tB ?_ | refine g_bl ?_ | refine g_and ?_ | refine g_or ?_ | refine g_not ?_
    | refine g_andV ?_ | refine g_orV ?_ | refine g_notV ?_ | refine g_if ?_ | refine g_nil ?_ | refine g_cons ?_ | refine g_cb ?_ | refine g_call ?_
    | refine g_lst ?_ | refine g_tup ?_ | refine g_itT ?_ | refine g_itF ?_ | refine g_itNT ?_ | refine g_itNF ?_ | refine g_lc ?_ | refine g_iStr ?_ | refine g_yes ?_ | refine g_exs ?_
    | refine g_chain ?_ | refine g_dget ?_ | refine g_dput ?_ | refine g_dget2 ?_ | refine g_dpop2 ?_ | refine g_fld ?_ | refine g_sfld ?_ | refine g_make ?_ | refine g_meth ?_
    | refine g_bm ?_ | refine g_kw ?_ | refine g_callS ?_ | refine g_revL ?_ | refine g_m1 ?_ | refine g_gsub ?_ | refine g_for ?_ | refine g_iList ?_ | refine g_iTup ?_ | refine g_iRng1 ?_ | refine g_iRng2 ?_ | refine g_sl ?_ | refine g_part ?_ | refine g_noPart ?_
    | refine g_exi ?_ | refine g_exr ?_ | refine g_dnew ?_ | refine g_disp ?_ | refine g_prs0 ?_ | refine g_prs ?_ | refine g_nxt ?_
  | ((with_reducible refine g_var (v := ?vv) ?gv ?_); (case gv => exact rfl))
  | ((with_reducible refine g_I ?gc ?_); (case gc => walk_at "cond"))
  | ((with_reducible refine g_eq ?ge ?_); (case ge => exact rfl))
  | ((with_reducible refine g_ne ?ge ?_); (case ge => exact rfl))
  | (refine g_ixl (SqL.of (by first | assumption | exact upd_same)) rfl ?_)
  | (refine g_setl (by first | assumption | exact upd_same) rfl ?_)
  | ((with_reducible show (∃ i, [V.int _] = [V.int i] ∧ _) ∨ _); refine Or.inl ⟨_, rfl, ?_⟩)
  | ((with_reducible show ∃ i, [V.int _] = [V.int i] ∧ _); refine ⟨_, rfl, ?_⟩)
  | dsimp only)
local macro_rules | `(tactic| walk_at "go") => `(tactic| repeat (walk_at "g1"))

local macro_rules | `(tactic| walk_at "g1") => `(tactic| with_reducible first | refine g_gcons ?_ | refine g_gnil ?_)

/-! ### four words with one thing changed -/
def sp_bent : Sp := fun vs H Q _ => ∃ (h c a : Addr) (n : Nat) (ws : List Str), vs = [.ref h, .ref a, .int n] ∧ HandAt H h c ∧ H a = some (.tup (ws.map V.str)) ∧ ws.length = 4 ∧ (∀ u ∈ ws, u.length ≤ 500) ∧ n ≤ 100 ∧ ∀ v x H', ExB h H H' → HandAt H' h c → ThAt h H' v x → Q v H'
theorem g_slA {H : Hp} {a : Addr} {xs ys : List V} {lo hi : Option Int} {Q : VK} (ha : H a = some (.tup xs)) (hc : cutV xs lo hi = ys) (k : ∀ v H', Ex H H' → H' v = some (.tup ys) → Q (.ref v) H') : rSlA K (.ref a) lo hi H Q := by
  refine ⟨a, xs, rfl, SqT.of ha, fun hw => k a H (Ex.refl _) ?_, fun _ p hp => k p _ (Ex.new hp) (by rw [upd_same, hc])⟩
  have : cutV xs lo hi = xs := by
    unfold cutV
    rw [hw.1, hw.2, List.drop_zero, Nat.sub_zero, List.take_length]
  rw [ha, ← hc, this]
theorem g_catV {H : Hp} {t u : Addr} {xs ys : List V} {Q : VK} (ht : H t = some (.tup xs)) (hu : H u = some (.tup ys)) (hl : xs.length + ys.length ≤ 1000) (k : ∀ v H', Ex H H' → H' v = some (.tup (xs ++ ys)) → Q (.ref v) H') : rCatA K (.ref t) (.ref u) H Q := by
  refine ⟨t, u, _, _, rfl, rfl, SqT.of ht, SqT.of hu, Nat.le_trans hl (by decide), fun h => ?_, fun _ h => ?_, fun _ _ p hp => ?_⟩
  · exact k u H (Ex.refl _) (by rw [h]; exact hu)
  · exact k t H (Ex.refl _) (by rw [h, List.append_nil]; exact ht)
  · exact k p _ (Ex.new hp) upd_same
theorem cut_f {ws : List Str} (h4 : ws.length = 4) {n : Nat} (hn : n < 4) : cutV (ws.map V.str) none (some (n : Int)) = (ws.take n).map V.str := by
  match ws, h4, n, hn with
  | [_, _, _, _], _, 0, _ => rfl
  | [_, _, _, _], _, 1, _ => rfl
  | [_, _, _, _], _, 2, _ => rfl
  | [_, _, _, _], _, 3, _ => rfl
theorem cut_b {ws : List Str} (h4 : ws.length = 4) {n : Nat} (hn : n < 4) : cutV (ws.map V.str) (some ((n : Int) + 1)) none = (ws.drop (n + 1)).map V.str := by
  match ws, h4, n, hn with
  | [_, _, _, _], _, 0, _ => rfl
  | [_, _, _, _], _, 1, _ => rfl
  | [_, _, _, _], _, 2, _ => rfl
  | [_, _, _, _], _, 3, _ => rfl
theorem it_strs {h : Addr} {H : Hp} : ∀ {us : List Str}, (∀ u ∈ us, u.length ≤ 1000) → Paired (ItAt h H) (us.map V.str) (us.map some)
  | [], _ => .nil
  | u :: us, hl => .cons (.inl ⟨u, rfl, rfl, hl u List.mem_cons_self⟩) (it_strs fun v hv => hl v (List.mem_cons_of_mem _ hv))
/-- one item changed -/
theorem th_one {h : Addr} {H : Hp} {v : Addr} {ws : List Str} {u : V} {z : Option Str} {n : Nat} (h4 : ws.length = 4) (hl : ∀ u ∈ ws, u.length ≤ 500) (hu : ItAt h H u z) (hv : H v = some (.tup (((ws.take n).map V.str ++ [u]) ++ (ws.drop (n + 1)).map V.str))) : ∃ x, ThAt h H (.ref v) x := by
  refine ⟨_, .inr ⟨v, _, ((ws.take n).map some ++ [z]) ++ (ws.drop (n + 1)).map some, rfl, rfl, hv, paired_app (paired_app (it_strs fun u hu => ?_) (.cons hu .nil)) (it_strs fun u hu => ?_), ?_⟩⟩
  · exact Nat.le_trans (hl u (List.mem_of_mem_take hu)) (by decide)
  · exact Nat.le_trans (hl u (List.mem_of_mem_drop hu)) (by decide)
  · rw [List.length_append, List.length_append, List.length_map, List.length_map, List.length_take, List.length_drop, List.length_singleton]
    omega
theorem ok_law_bent {f : Addr} {fd : FuncData} (F : Fun K "_law_bent" "_law_bent" s_law_bent f fd) (T : Txt K mg C_Bag Cs) (D_law_draw : DefOk P w K mg base CX0 1 "_law_draw" ["_law_hand_here", "_law_many"] sp_law_draw) : FnOk P w K mg base CX0 2 f fd ["_law_hand_here", "_law_words", "_law_length"] sp_bent := by
  refine F.ok sc_law_bent (fun vs H Q E h => ?_) (fun cdv A outer s H vs Q E hr h => ?_)
  · obtain ⟨h, c, a, n, ws, rfl, _⟩ := h
    rfl
  · obtain ⟨h, c, a, n, ws, rfl, hh, ha, h4, hl, hn, k⟩ := h
    have hu := hu_of hr; have hu64 := L2.Room.units hr; refine ⟨_, (pss_cons (ps_set (i := 3) sc_law_bent.nd rfl (by first | exact Or.inl rfl | exact Or.inr rfl) (pe_callD D_law_draw (hr.mono (by decide)) rfl pass0 (pa_cons (pv 0) (pa_cons pe_int pa_nil)))) (pss_cons (ps_set (i := 4) sc_law_bent.nd rfl (by first | exact Or.inl rfl | exact Or.inr rfl) (pe_callD D_law_draw (hr.mono (by decide)) rfl pass0 (pa_cons (pv 0) (pa_cons pe_int pa_nil)))) (pss_cons (ps_set (i := 5) sc_law_bent.nd rfl (by first | exact Or.inl rfl | exact Or.inr rfl) (pe_ix (r := rIxL K) ix_list (pe_lst (pa_cons pe_str (pa_cons pe_str (pa_cons pe_str (pa_cons pe_str (pa_cons pe_str (pa_cons pe_non (pa_cons pe_bl (pa_cons pe_int (pa_cons (pe_tup (pa_cons pe_str pa_nil)) (pa_cons (pe_lst (pa_cons pe_str pa_nil)) (pa_cons (pe_op (r := rMulG) op_mulG pe_str (pv 2)) pa_nil)))))))))))) (pe_callD D_law_draw (hr.mono (by decide)) rfl pass0 (pa_cons (pv 0) (pa_cons pe_int pa_nil))) (fun _ _ => rfl))) (pss_cons (ps_if (pt_cmpR op_eq (pv 4) pe_int (nomark _)) (pss_one (ps_ret (pe_ix (r := rIxL K) ix_list (pe_lst (pa_cons (pe_callTy call_list_of (by rfl) T.b_list (by decide +kernel) (pa_cons (pv 1) pa_nil)) (pa_cons (pe_slice sl_tupA (pv 1) po_none (po_some pe_int)) (pa_cons (pe_op op_catA (pv 1) (pe_tup (pa_cons pe_str pa_nil))) (pa_cons pe_non (pa_cons pe_str (pa_cons (pe_tup pa_nil) (pa_cons (pe_revT (pv 1)) (pa_cons pe_dnewK pa_nil))))))))) (pe_callD D_law_draw (hr.mono (by decide)) rfl pass0 (pa_cons (pv 0) (pa_cons pe_int pa_nil))) (fun _ _ => rfl)))) pss_nil) (pss_cons (ps_if (pt_cmpR op_eq (pv 4) pe_int (nomark _)) (pss_one (ps_ret (pe_op op_catA (pe_op op_catA (pe_slice sl_tupA (pv 1) po_none (po_some (pv 3))) (pe_tup (pa_cons (pe_op op_add_str (pe_ix (r := rIxT K) ix_tup (pv 1) (pv 3) (fun _ _ => rfl)) pe_str) pa_nil))) (pe_slice sl_tupA (pv 1) (po_some (pe_op op_add (pv 3) pe_int)) po_none)))) pss_nil) (pss_cons (ps_if (pt_cmpR op_eq (pv 4) pe_int (nomark _)) (pss_one (ps_ret (pe_op op_catA (pe_op op_catA (pe_slice sl_tupA (pv 1) po_none (po_some (pv 3))) (pe_tup (pa_cons (pe_slice sl_str (pe_ix (r := rIxT K) ix_tup (pv 1) (pv 3) (fun _ _ => rfl)) (po_some pe_int) po_none) pa_nil))) (pe_slice sl_tupA (pv 1) (po_some (pe_op op_add (pv 3) pe_int)) po_none)))) pss_nil) (pss_cons (ps_if (pt_cmpR op_eq (pv 4) pe_int (nomark _)) (pss_one (ps_ret (pe_tup (pa_cons (pe_ix (r := rIxT K) ix_tup (pv 1) pe_int (fun _ _ => rfl)) (pa_cons (pe_ix (r := rIxT K) ix_tup (pv 1) pe_int (fun _ _ => rfl)) (pa_cons (pe_ix (r := rIxT K) ix_tup (pv 1) pe_int (fun _ _ => rfl)) (pa_cons (pe_ix (r := rIxT K) ix_tup (pv 1) pe_int (fun _ _ => rfl)) pa_nil))))))) pss_nil) (pss_one (ps_ret (pe_op op_catA (pe_op op_catA (pe_slice sl_tupA (pv 1) po_none (po_some (pv 3))) (pe_tup (pa_cons (pv 5) pa_nil))) (pe_slice sl_tupA (pv 1) (po_some (pe_op op_add (pv 3) pe_int)) po_none))))))))))), ?_⟩; rw [st_law_bent]; (try dsimp only [cxOf]); walk_at "go"
    refine ⟨h, c, 4, rfl, hh, by decide, by decide, fun v1 H1 h10 h11 e1 hh1 => ?_⟩
    replace ha := e1 _ _ (ne_of ha hh.kind.choose_spec fun z => nomatch z) ha
    obtain ⟨at1, rfl⟩ : ∃ at1 : Nat, v1 = at1 := ⟨v1.toNat, by omega⟩
    walk_at "go"
    refine ⟨h, c, 6, rfl, hh1, by decide, by decide, fun v2 H2 h20 h21 e2 hh2 => ?_⟩
    replace ha := e2 _ _ (ne_of ha hh1.kind.choose_spec fun z => nomatch z) ha
    walk_at "go"
    refine ⟨Nat.le_of_ble_eq_true rfl, fun p1 hp1 => ?_⟩
    have e3 := Ex.new (o := .tup [V.str "x"]) hp1
    have hp11 := upd_same (H := H2) (a := p1) (o := .tup [V.str "x"])
    have hh3 := hh2.ex' e3
    replace ha := e3 _ _ ha
    generalize upd H2 p1 (.tup [V.str "x"]) = H3 at e3 hp11 hh3 ha ⊢
    walk_at "go"
    refine ⟨Nat.le_of_ble_eq_true rfl, fun p2 hp2 => ?_⟩
    have e4 := Ex.new (o := .lst [V.str "x"]) hp2
    have hp22 := upd_same (H := H3) (a := p2) (o := .lst [V.str "x"])
    have hp2h := (hh3.new hp2).1
    have hh4 := hh3.ex' e4
    replace ha := e4 _ _ ha
    replace hp11 := e4 _ _ hp11
    generalize upd H3 p2 (.lst [V.str "x"]) = H4 at e4 hp11 hp22 hh4 ha ⊢
    walk_at "go"
    refine ⟨"z", n, rfl, rfl, by decide, by omega, ?_⟩
    walk_at "go"
    refine ⟨Nat.le_of_ble_eq_true rfl, fun p3 hp3 => ?_⟩
    have hitems : ∀ u ∈ [V.str "", V.str "x", V.str "yy", V.str "w", V.str "X", V.non, V.bl true, V.int 0, V.ref p1, V.ref p2, V.str (manyS "z" n)], ∃ z, ItAt h H4 u z := fun u hu => by
      simp only [List.mem_cons, List.not_mem_nil, or_false] at hu
      rcases hu with rfl | rfl | rfl | rfl | rfl | rfl | rfl | rfl | rfl | rfl | rfl
      · exact ⟨_, .inl ⟨_, rfl, rfl, by decide⟩⟩
      · exact ⟨_, .inl ⟨_, rfl, rfl, by decide⟩⟩
      · exact ⟨_, .inl ⟨_, rfl, rfl, by decide⟩⟩
      · exact ⟨_, .inl ⟨_, rfl, rfl, by decide⟩⟩
      · exact ⟨_, .inl ⟨_, rfl, rfl, by decide⟩⟩
      · exact ⟨_, .inr ⟨rfl, .inl rfl⟩⟩
      · exact ⟨_, .inr ⟨rfl, .inr (.inl ⟨_, rfl⟩)⟩⟩
      · exact ⟨_, .inr ⟨rfl, .inr (.inr (.inl ⟨_, rfl⟩))⟩⟩
      · exact ⟨_, .inr ⟨rfl, .inr (.inr (.inr (.inl ⟨_, _, rfl, hp11⟩)))⟩⟩
      · exact ⟨_, .inr ⟨rfl, .inr (.inr (.inr (.inr (.inl ⟨_, _, rfl, hp2h, hp22⟩))))⟩⟩
      · exact ⟨_, .inl ⟨_, rfl, rfl, by rw [manyS_len]; show n * 1 ≤ 1000; omega⟩⟩
    obtain ⟨OL, hOL⟩ : ∃ OL : List V, [V.str "", V.str "x", V.str "yy", V.str "w", V.str "X", V.non, V.bl true, V.int 0, V.ref p1, V.ref p2, V.str (manyS "z" n)] = OL := ⟨_, rfl⟩
    have lenOL : OL.length = 11 := by rw [← hOL]; rfl
    rw [hOL] at hitems ⊢
    clear hOL
    have e5 := Ex.new (o := .lst OL) hp3
    have hp33 := upd_same (H := H4) (a := p3) (o := .lst OL)
    have hp3h := (hh4.new hp3).1
    have hh5 := hh4.ex' e5
    replace ha := e5 _ _ ha
    generalize upd H4 p3 (.lst OL) = H5 at e5 hp33 hh5 ha ⊢
    walk_at "go"
    refine ⟨h, c, 11, rfl, hh5, by decide, by decide, fun v3 H6 h30 h31 e6 hh6 => ?_⟩
    have hlt : v3.toNat < OL.length := by omega
    refine g_ixl (SqL.of (e6 _ _ hp3h hp33)) (atI_get h30 (List.getElem?_eq_getElem hlt)) ?_
    obtain ⟨z, hz⟩ := hitems _ (List.getElem_mem hlt)
    generalize OL[v3.toNat] = u at hz ⊢
    replace hz := (hz.ex' e5).exh hh5.kind.choose_spec e6
    replace ha := e6 _ _ (ne_of ha hh5.kind.choose_spec fun z => nomatch z) ha
    have eH : ExB h H H6 := fun a o ne z => e6 a o ne (e5 a o (e4 a o (e3 a o (e2 a o ne (e1 a o ne z)))))
    have hat : at1 < 4 := by omega
    clear hh hh1 hh2 hh3 hh4 hh5 e1 e2 e3 e4 e5 e6 hitems hp33 hp22 hp11
    have hln : (ws.map V.str).length = 4 := by rw [List.length_map, h4]
    obtain ⟨w9, hw9⟩ : ∃ w9, ws[at1]? = some w9 := ⟨ws[at1], List.getElem?_eq_getElem (by omega)⟩
    have hw9l := hl w9 (List.mem_of_getElem? hw9)
    have hat9 : atI (ws.map V.str) (at1 : Int) = some (.str w9) := atI_get (by omega) (by rw [List.getElem?_map, Int.toNat_natCast, hw9]; rfl)
    have ltk : ((ws.take at1).map V.str).length ≤ 4 := by rw [List.length_map, List.length_take]; omega
    have ldr : ((ws.drop (at1 + 1)).map V.str).length ≤ 4 := by rw [List.length_map, List.length_drop]; omega
    walk_at "go"
    by_cases w0 : v2 = 0
    · rw [decide_eq_true (by rw [w0])]
      obtain ⟨x0, x1, x2, x3, rfl⟩ : ∃ x0 x1 x2 x3, ws = [x0, x1, x2, x3] := by
        match ws, h4 with
        | [x0, x1, x2, x3], _ => exact ⟨_, _, _, _, rfl⟩
      have hx : ∀ u ∈ [x0, x1, x2, x3], u.length ≤ 1000 := fun u hu => Nat.le_trans (hl u hu) (by decide)
      walk_at "go"
      refine ⟨a, _, rfl, .inr (SqT.of ha), fun l hl0 => ?_⟩
      have e7 := Ex.new (o := .lst ([x0, x1, x2, x3].map V.str)) hl0
      have hll := upd_same (H := H6) (a := l) (o := .lst ([x0, x1, x2, x3].map V.str))
      have hlh := (hh6.new hl0).1
      have hh7 := hh6.ex' e7
      replace ha := e7 _ _ ha
      generalize upd H6 l (.lst ([x0, x1, x2, x3].map V.str)) = H7 at e7 hll hh7 ha ⊢
      walk_at "go"
      refine g_slA (ys := [x0, x1, x2].map V.str) ha rfl fun s1 H8 e8 hs1 => ?_
      replace ha := e8 _ _ ha
      walk_at "go"
      refine ⟨Nat.le_of_ble_eq_true rfl, fun q hq => ?_⟩
      have e9 := Ex.new (o := .tup [V.str "x"]) hq
      have hqq := upd_same (H := H8) (a := q) (o := .tup [V.str "x"])
      replace ha := e9 _ _ ha
      generalize upd H8 q (.tup [V.str "x"]) = H9 at e9 hqq ha ⊢
      refine g_catV ha hqq (Nat.le_of_ble_eq_true rfl) fun s2 H10 e10 hs2 => ?_
      replace ha := e10 _ _ ha
      walk_at "go"
      refine ⟨Nat.zero_le _, fun em hem => ?_⟩
      have e11 := Ex.new (o := .tup []) hem
      have hee := upd_same (H := H10) (a := em) (o := .tup [])
      replace ha := e11 _ _ ha
      generalize upd H10 em (.tup []) = H11 at e11 hee ha ⊢
      walk_at "go"
      refine g_revT ?_
      walk_at "go"
      refine ⟨a, .str x0, .str x1, .str x2, .str x3, rfl, SqT.of ha, fun rv hrv => ?_⟩
      have e12 := Ex.new (o := .tup [.str x3, .str x2, .str x1, .str x0]) hrv
      have hrr := upd_same (H := H11) (a := rv) (o := .tup [.str x3, .str x2, .str x1, .str x0])
      generalize upd H11 rv (.tup [.str x3, .str x2, .str x1, .str x0]) = H12 at e12 hrr ⊢
      walk_at "go"
      intro dd hdd
      have e713 : Ex H7 H12 := (((e8.trans e9).trans e10).trans e11).trans e12
      have hh12 := hh7.ex' e713
      have e13 := Ex.new (o := .dK []) hdd
      have hdd1 := upd_same (H := H12) (a := dd) (o := .dK [])
      have hdh := (hh12.new hdd).1
      have hh13 := hh12.ex' e13
      generalize upd H12 dd (.dK []) = H13 at e13 hdd1 hh13 ⊢
      walk_at "go"
      have hthin : ∀ v ∈ [V.ref l, V.ref s1, V.ref s2, V.non, V.str "xyxy", V.ref em, V.ref rv, V.ref dd], ∃ x, ThAt h H13 v x := fun v hv => by
        simp only [List.mem_cons, List.not_mem_nil, or_false] at hv
        have eA := e12.trans e13
        have eB := e11.trans eA
        have eC := e10.trans eB
        have eD := e9.trans eC
        have eE := e8.trans eD
        rcases hv with rfl | rfl | rfl | rfl | rfl | rfl | rfl | rfl
        · exact ⟨_, .inl ⟨rfl, .inr (.inr (.inl ⟨_, _, rfl, hlh, eE _ _ hll⟩))⟩⟩
        · exact ⟨_, .inr ⟨_, _, _, rfl, rfl, eD _ _ hs1, it_strs fun u hu => hx u (List.mem_of_mem_take (i := 3) hu), Nat.le_of_ble_eq_true rfl⟩⟩
        · exact ⟨_, .inr ⟨_, _, _, rfl, rfl, eB _ _ hs2, paired_app (it_strs hx) (it_strs (us := ["x"]) fun u hu => by rw [List.mem_singleton.mp hu]; decide), Nat.le_of_ble_eq_true rfl⟩⟩
        · exact ⟨_, .inl ⟨rfl, .inl rfl⟩⟩
        · exact ⟨_, .inl ⟨rfl, .inr (.inl ⟨_, rfl⟩)⟩⟩
        · exact ⟨_, .inr ⟨_, _, _, rfl, rfl, eA _ _ hee, .nil, Nat.le_of_ble_eq_true rfl⟩⟩
        · exact ⟨_, .inr ⟨_, _, _, rfl, rfl, e13 _ _ hrr, it_strs (us := [x3, x2, x1, x0]) fun u hu => hx u (by
            simp only [List.mem_cons, List.not_mem_nil, or_false] at hu ⊢
            rcases hu with rfl | rfl | rfl | rfl <;> simp), Nat.le_of_ble_eq_true rfl⟩⟩
        · exact ⟨_, .inl ⟨rfl, .inr (.inr (.inr ⟨_, _, rfl, hdh, hdd1⟩))⟩⟩
      obtain ⟨TL, hTL⟩ : ∃ TL : List V, [V.ref l, V.ref s1, V.ref s2, V.non, V.str "xyxy", V.ref em, V.ref rv, V.ref dd] = TL := ⟨_, rfl⟩
      have lenTL : TL.length = 8 := by rw [← hTL]; rfl
      rw [hTL] at hthin ⊢
      clear hTL
      refine ⟨by rw [lenTL]; exact Nat.le_of_ble_eq_true rfl, fun p9 hp9 => ?_⟩
      have e14 := Ex.new (o := .lst TL) hp9
      have hp99 := upd_same (H := H13) (a := p9) (o := .lst TL)
      have hp9h := (hh13.new hp9).1
      have hh14 := hh13.ex' e14
      generalize upd H13 p9 (.lst TL) = H14 at e14 hp99 hh14 ⊢
      walk_at "go"
      refine ⟨h, c, 8, rfl, hh14, by decide, by decide, fun v9 H15 h90 h91 e15 hh15 => ?_⟩
      have hlt9 : v9.toNat < TL.length := by omega
      refine g_ixl (SqL.of (e15 _ _ hp9h hp99)) (atI_get h90 (List.getElem?_eq_getElem hlt9)) ?_
      obtain ⟨x, hxt⟩ := hthin _ (List.getElem_mem hlt9)
      have e614 : Ex H6 H14 := ((e7.trans e713).trans e13).trans e14
      exact k _ x _ (fun a o ne z => e15 a o ne (e614 a o (eH a o ne z))) hh15 ((hxt.ex' e14).exh hh14.kind.choose_spec e15)
    rw [decide_eq_false (fun e => w0 (V.int.inj e))]
    walk_at "go"
    by_cases w1 : v2 = 1
    · rw [decide_eq_true (by rw [w1])]
      walk_at "go"
      refine g_slA ha (cut_f h4 hat) fun s1 H7 e7 hs1 => ?_
      walk_at "go"
      refine g_ixt (SqT.of (e7 _ _ ha)) hat9 ?_
      walk_at "go"
      refine ⟨w9, "x", rfl, rfl, Nat.le_trans (Nat.add_le_add hw9l (Nat.le_of_ble_eq_true rfl : ("x" : Str).length ≤ 1)) (by decide), ?_⟩
      walk_at "go"
      refine ⟨Nat.le_of_ble_eq_true rfl, fun q hq => ?_⟩
      have e8 := Ex.new (o := .tup [V.str (w9 ++ "x")]) hq
      have hqq := upd_same (H := H7) (a := q) (o := .tup [V.str (w9 ++ "x")])
      generalize upd H7 q (.tup [V.str (w9 ++ "x")]) = H8 at e8 hqq ⊢
      refine g_catV (e8 _ _ hs1) hqq (by rw [List.length_singleton]; omega) fun s2 H9 e9 hs2 => ?_
      have e69 := (e7.trans e8).trans e9
      walk_at "go"
      refine g_slA (e69 _ _ ha) (cut_b h4 hat) fun s3 H10 e10 hs3 => ?_
      refine g_catV (e10 _ _ hs2) hs3 (by rw [List.length_append, List.length_singleton]; omega) fun s4 H11 e11 hs4 => ?_
      have e611 := (e69.trans e10).trans e11
      obtain ⟨x, hx⟩ := th_one (h := h) (n := at1) h4 hl (.inl ⟨_, rfl, rfl, by rw [len_app]; exact Nat.le_trans (Nat.add_le_add hw9l (Nat.le_of_ble_eq_true rfl : ("x" : Str).length ≤ 1)) (by decide)⟩) hs4
      exact k _ x _ (fun a o ne z => e611 a o (eH a o ne z)) (hh6.ex' e611) hx
    rw [decide_eq_false (fun e => w1 (V.int.inj e))]
    walk_at "go"
    by_cases w2 : v2 = 2
    · rw [decide_eq_true (by rw [w2])]
      walk_at "go"
      refine g_slA ha (cut_f h4 hat) fun s1 H7 e7 hs1 => ?_
      walk_at "go"
      refine g_ixt (SqT.of (e7 _ _ ha)) hat9 ?_
      walk_at "go"
      refine ⟨w9, rfl, line5 (by omega), ?_⟩
      walk_at "go"
      refine ⟨Nat.le_of_ble_eq_true rfl, fun q hq => ?_⟩
      have e8 := Ex.new (o := .tup [V.str (cutS w9 (some 1) none)]) hq
      have hqq := upd_same (H := H7) (a := q) (o := .tup [V.str (cutS w9 (some 1) none)])
      generalize upd H7 q (.tup [V.str (cutS w9 (some 1) none)]) = H8 at e8 hqq ⊢
      refine g_catV (e8 _ _ hs1) hqq (by rw [List.length_singleton]; omega) fun s2 H9 e9 hs2 => ?_
      have e69 := (e7.trans e8).trans e9
      walk_at "go"
      refine g_slA (e69 _ _ ha) (cut_b h4 hat) fun s3 H10 e10 hs3 => ?_
      refine g_catV (e10 _ _ hs2) hs3 (by rw [List.length_append, List.length_singleton]; omega) fun s4 H11 e11 hs4 => ?_
      have e611 := (e69.trans e10).trans e11
      obtain ⟨x, hx⟩ := th_one (h := h) (n := at1) h4 hl (.inl ⟨_, rfl, rfl, Nat.le_trans (cutS_length _ _ _) (by omega)⟩) hs4
      exact k _ x _ (fun a o ne z => e611 a o (eH a o ne z)) (hh6.ex' e611) hx
    rw [decide_eq_false (fun e => w2 (V.int.inj e))]
    walk_at "go"
    by_cases w3 : v2 = 3
    · rw [decide_eq_true (by rw [w3])]
      obtain ⟨x0, x1, x2, x3, rfl⟩ : ∃ x0 x1 x2 x3, ws = [x0, x1, x2, x3] := by
        match ws, h4 with
        | [x0, x1, x2, x3], _ => exact ⟨_, _, _, _, rfl⟩
      walk_at "go"
      refine g_ixt (v := .str x1) (SqT.of ha) rfl ?_
      walk_at "go"
      refine g_ixt (v := .str x0) (SqT.of ha) rfl ?_
      walk_at "go"
      refine g_ixt (v := .str x2) (SqT.of ha) rfl ?_
      walk_at "go"
      refine g_ixt (v := .str x3) (SqT.of ha) rfl ?_
      walk_at "go"
      refine ⟨Nat.le_of_ble_eq_true rfl, fun q hq => ?_⟩
      have e7 := Ex.new (o := .tup [.str x1, .str x0, .str x2, .str x3]) hq
      refine k _ _ _ (fun a o ne z => e7 a o (eH a o ne z)) (hh6.ex' e7) (.inr ⟨q, _, _, rfl, rfl, upd_same, it_strs (us := [x1, x0, x2, x3]) fun u hu => ?_, Nat.le_of_ble_eq_true rfl⟩)
      have hu' : u ∈ [x0, x1, x2, x3] := by
        simp only [List.mem_cons, List.not_mem_nil, or_false] at hu ⊢
        rcases hu with rfl | rfl | rfl | rfl <;> simp
      exact Nat.le_trans (hl u hu') (by decide)
    rw [decide_eq_false (fun e => w3 (V.int.inj e))]
    walk_at "go"
    refine g_slA ha (cut_f h4 hat) fun s1 H7 e7 hs1 => ?_
    walk_at "go"
    refine ⟨Nat.le_of_ble_eq_true rfl, fun q hq => ?_⟩
    have e8 := Ex.new (o := .tup [u]) hq
    have hqq := upd_same (H := H7) (a := q) (o := .tup [u])
    generalize upd H7 q (.tup [u]) = H8 at e8 hqq ⊢
    refine g_catV (e8 _ _ hs1) hqq (by rw [List.length_singleton]; omega) fun s2 H9 e9 hs2 => ?_
    have e69 := (e7.trans e8).trans e9
    walk_at "go"
    refine g_slA (e69 _ _ ha) (cut_b h4 hat) fun s3 H10 e10 hs3 => ?_
    refine g_catV (e10 _ _ hs2) hs3 (by rw [List.length_append, List.length_singleton]; omega) fun s4 H11 e11 hs4 => ?_
    have e611 := (e69.trans e10).trans e11
    obtain ⟨x, hx⟩ := th_one (h := h) (n := at1) h4 hl (hz.ex' e611) hs4
    exact k _ x _ (fun a o ne z => e611 a o (eH a o ne z)) (hh6.ex' e611) hx

end
end Fp

namespace Fp
open PySem L2
section
variable {P : Program} {w : World} {K : PySem.W.Frag} {mg : Str → Option Value} {base : Heap} {C_Bag : Addr} {Cs : Addr → Prop}
local macro_rules | `(tactic| walk_at "hp") => `(tactic| first | assumption | rfl)
local macro_rules | `(tactic| walk_at "cond") => `(tactic| first | assumption | decide | omega | (unfold CMul; omega) | (refine ⟨?_, ?_⟩ <;> omega) | (unfold CDiv; omega) | (unfold CPow; omega))
local macro_rules | `(tactic| walk_at "g1") => `(tactic| first
  | with_reducible first
    | refine g_seq ?_ | refine g_asg ?_ | refine g_name ?_ | refine g_ret ?_ | refine g_retN ?_ | refine g_drop ?_ | refine g_ifs ?_
    | refine g_c ?_ | refine g_op ?_ | refine g_un ?_ | refine g_I0 ?_ | refine g_U ?_
    | refine g_test ?_ | refine g_tB ?_ | refine g_bl ?_ | refine g_and ?_ | refine g_or ?_ | refine g_not ?_
    | refine g_andV ?_ | refine g_orV ?_ | refine g_notV ?_ | refine g_if ?_ | refine g_nil ?_ | refine g_cons ?_ | refine g_cb ?_ | refine g_call ?_
    | refine g_lst ?_ | refine g_tup ?_ | refine g_itT ?_ | refine g_itF ?_ | refine g_itNT ?_ | refine g_itNF ?_ | refine g_lc ?_ | refine g_iStr ?_ | refine g_yes ?_ | refine g_exs ?_
    | refine g_chain ?_ | refine g_dget ?_ | refine g_dput ?_ | refine g_dget2 ?_ | refine g_dpop2 ?_ | refine g_fld ?_ | refine g_sfld ?_ | refine g_make ?_ | refine g_meth ?_
    | refine g_bm ?_ | refine g_kw ?_ | refine g_callS ?_ | refine g_revL ?_ | refine g_m1 ?_ | refine g_gsub ?_ | refine g_for ?_ | refine g_iList ?_ | refine g_iTup ?_ | refine g_iRng1 ?_ | refine g_iRng2 ?_ | refine g_sl ?_ | refine g_part ?_ | refine g_noPart ?_
    | refine g_exi ?_ | refine g_exr ?_ | refine g_dnew ?_ | refine g_disp ?_ | refine g_prs0 ?_ | refine g_prs ?_ | refine g_nxt ?_
  | ((with_reducible refine g_var (v := ?vv) ?gv ?_); (case gv => exact rfl))
  | ((with_reducible refine g_I ?gc ?_); (case gc => walk_at "cond"))
  | ((with_reducible refine g_eq ?ge ?_); (case ge => exact rfl))
  | ((with_reducible refine g_ne ?ge ?_); (case ge => exact rfl))
  | (refine g_ixl (SqL.of (by first | assumption | exact upd_same)) rfl ?_)
  | (refine g_setl (by first | assumption | exact upd_same) rfl ?_)
  | ((with_reducible show (∃ i, [V.int _] = [V.int i] ∧ _) ∨ _); refine Or.inl ⟨_, rfl, ?_⟩)
  | ((with_reducible show ∃ i, [V.int _] = [V.int i] ∧ _); refine ⟨_, rfl, ?_⟩)
  | dsimp only)
local macro_rules | `(tactic| walk_at "go") => `(tactic| repeat (walk_at "g1"))

local macro_rules | `(tactic| walk_at "g1") => `(tactic| with_reducible first | refine g_gcons ?_ | refine g_gnil ?_)

/-! ### k23: the law -/
def sp_law (K : PySem.W.Frag) : Sp := fun vs H Q _ => ∃ (a : Addr) (ns : List Int), vs = [.ref a] ∧ SqL K H a (ns.map V.int) ∧ ∀ H', Q (.bl true) H'
theorem Clk.prm {p : Int} (h : Clk p) : Prm p := h
theorem isW_parts {a b : Str} (h : isW (a ++ b) = true) : isW a = true ∧ isW b = true := by
  unfold isW at *
  rw [app_toList, List.all_append] at h
  exact Bool.and_eq_true_iff.mp h
theorem BagAt.exh {Cs : Addr → Prop} {H H' : Hp} {h a : Addr} {p : Int} {s : Bg} {xs : List V} (e : ExB h H H') (hh : H h = some (.lst xs)) (b : BagAt Cs H a p s) : BagAt Cs H' a p s := by
  obtain ⟨C, dx, d, k, t, h0, h1, h2, ⟨qs, o, h3, h4, h5⟩⟩ := b.ex
  exact ⟨C, dx, d, k, t, h0, e _ _ (ne_of h1 hh (fun z => nomatch z)) h1, e _ _ (ne_of h2 hh (fun z => nomatch z)) h2, ⟨qs, o, e _ _ (ne_of h3 hh (fun z => nomatch z)) h3, h4, Paired.mapP h5 fun q kv z => e _ _ (ne_of z hh (fun z => nomatch z)) z⟩⟩
theorem hand_dk {H H' : Hp} {h c d : Addr} {s : Bg} (hh : HandAt H h c) (e : ExB h H H') (hd : H d = some (.dK (toK s))) : H' d = some (.dK (toK s)) := e _ _ (ne_of hd hh.kind.choose_spec (fun z => nomatch z)) hd
theorem doX_noX {p : Int} {s : Bg} {k : Nat} {x : Option (List (Option Str))} (h : NoX p k s) : doX p s k x = false := by
  unfold doX
  split
  · rename_i a c b e
    cases ha : decide (a.length = k) with
    | false => simp
    | true =>
      cases hc : decide (c.length = k) with
      | false => simp
      | true =>
        have : crossB p s a c b e = false := by
          unfold crossB
          exact decide_eq_false fun q => q (h a b c e (of_decide_eq_true ha) (of_decide_eq_true hc))
        rw [this]
        simp
  · rfl
/-- four words that a search tells -/
theorem told_words {p : Int} {s : Bg} {n k N : Nat} {o e : Str} (l : Lot p s N n) (h : Lev n s) (hk : k ≤ n) (hn : n ≤ 400) (f : FirstX p k s o e) : doX p s k (some [some (fr k (lead s)), some o, some (bk k (lead s)), some e]) = true ∧ ∀ u ∈ [fr k (lead s), o, bk k (lead s), e], u.length ≤ 500 := by
  obtain ⟨h1, h2, h3⟩ := f.cross
  obtain ⟨c1, c2, c3⟩ := lead_cut h hk
  obtain ⟨u, hu, rfl⟩ := List.mem_map.mp h2
  obtain ⟨v, hv, rfl⟩ := List.mem_map.mp h3
  obtain ⟨u1, u2, u3⟩ := fr_bk (k := k) (w := u) (by rw [h.l u hu]; exact hk)
  obtain ⟨v1, v2, v3⟩ := fr_bk (k := k) (w := v) (by rw [h.l v hv]; exact hk)
  have wl := isW_parts (a := fr k (lead s)) (b := bk k (lead s)) (by rw [c1]; exact (l.l _ (lead_mem h.n)).2)
  have wu := isW_parts (a := fr k u) (b := bk k u) (by rw [u1]; exact (l.l _ hu).2)
  have wv := isW_parts (a := fr k v) (b := bk k v) (by rw [v1]; exact (l.l _ hv).2)
  have lu := h.l u hu
  have lv := h.l v hv
  refine ⟨by rw [doX_val wl.1 wu.1 wl.2 wv.2, h1, decide_eq_true c2, decide_eq_true u2]; rfl, fun x hx => ?_⟩
  simp only [List.mem_cons, List.not_mem_nil, or_false] at hx
  rcases hx with rfl | rfl | rfl | rfl <;> omega
/-- what was told of a place -/
def TX (p : Int) (s : Bg) (k : Nat) (H : Hp) (v : V) : Prop := (v = .non ∧ IsCut p k s) ∨ ∃ t o e, v = .ref t ∧ ¬ IsCut p k s ∧ FirstX p k s o e ∧ H t = some (.tup ([fr k (lead s), o, bk k (lead s), e].map V.str))
theorem TX.ex' {p : Int} {s : Bg} {k : Nat} {H H' : Hp} {v : V} (t : TX p s k H v) (e : Ex H H') : TX p s k H' v := t.imp id fun ⟨t, o, e1, h1, h2, h3, h4⟩ => ⟨t, o, e1, h1, h2, h3, e _ _ h4⟩
theorem TX.exh {p : Int} {s : Bg} {k : Nat} {H H' : Hp} {h : Addr} {zs : List V} {v : V} (t : TX p s k H v) (e : ExB h H H') (hh : H h = some (.lst zs)) : TX p s k H' v := t.imp id fun ⟨t, o, e1, h1, h2, h3, h4⟩ => ⟨t, o, e1, h1, h2, h3, e _ _ (ne_of h4 hh fun z => nomatch z) h4⟩
/-- what stands -/
structure S23 (Cs : Addr → Prop) (p : Int) (s : Bg) (h c dp x : Addr) (H : Hp) : Prop where
  hh : HandAt H h c
  d : H dp = some (.dK (toK s))
  b : BagAt Cs H x p s
theorem S23.ex' {p : Int} {s : Bg} {h c dp x : Addr} {H H' : Hp} (S : S23 Cs p s h c dp x H) (e : Ex H H') : S23 Cs p s h c dp x H' := ⟨S.hh.ex' e, e _ _ S.d, S.b.ex' e⟩
theorem S23.exh {p : Int} {s : Bg} {h c dp x : Addr} {H H' : Hp} (S : S23 Cs p s h c dp x H) (e : ExB h H H') (hh : HandAt H' h c) : S23 Cs p s h c dp x H' := ⟨hh, hand_dk S.hh e S.d, BagAt.exh e S.hh.kind.choose_spec S.b⟩
theorem join1 {D G : Hp → Prop} {R : Prop} (key : ∀ H, D H → G H) (use : (∀ H, D H → G H) → R) : R := use key
theorem g_ne4 {H : Hp} {a b : Addr} {w0 w1 w2 w3 : Str} {Q : VK} (ha : H a = some (.tup ([w0, w1, w2, w3].map V.str))) (hb : H b = some (.tup ([w0, w1, w2, w3].map V.str))) (h : Q (.bl false) H) : rEqP K true (.ref a) (.ref b) H Q := by
  refine ⟨.tuple [.str w0, .str w1, .str w2, .str w3], .tuple [.str w0, .str w1, .str w2, .str w3], .tup (SqT.of ha) (.cons (.str _) (.cons (.str _) (.cons (.str _) (.cons (.str _) .nil)))), .tup (SqT.of hb) (.cons (.str _) (.cons (.str _) (.cons (.str _) (.cons (.str _) .nil)))), by simp [PyData.plain, PyData.plainAll], by simp [PyData.plain, PyData.plainAll], by simp [PyData.depth, PyData.depthAll], ?_⟩
  have e : PyData.eqv (.tuple [.str w0, .str w1, .str w2, .str w3]) (.tuple [.str w0, .str w1, .str w2, .str w3]) = true := by simp [PyData.eqv, PyData.eqvAll]
  rw [if_pos rfl, e]
  exact h
theorem g_ne4' {H : Hp} {a b : Addr} {y : V} {w0 w1 w2 w3 : Str} {Q : VK} (hy : y = .ref b) (ha : H a = some (.tup ([w0, w1, w2, w3].map V.str))) (hb : H b = some (.tup ([w0, w1, w2, w3].map V.str))) (h : Q (.bl false) H) : rEqP K true (.ref a) y H Q := by
  subst hy
  exact g_ne4 ha hb h
theorem g_crossing {H : Hp} {Q : VK} {E : XK} {b : Addr} {p : Int} {s : Bg} {k n : Nat} (hb : BagAt Cs H b p s) (hp : Prm p) (g : Good p s) (l : Lev n s) (hn : n ≤ 1000) (hk : k ≤ n) (hz : s.length < 64) (kk : ∀ v H', Ex H H' → TX p s k H' v → Q v H') : sp_crossing Cs [.ref b, .int k] H Q E :=
  ⟨b, p, s, k, n, rfl, hb, hp, g, l, hn, hk, hz, fun H' e hc => kk .non H' e (.inl ⟨rfl, hc⟩), fun t o e' H' e hno hf ht => kk (.ref t) H' e (.inr ⟨t, o, e', rfl, hno, hf, ht⟩)⟩
theorem g_cutV {H : Hp} {Q : VK} {E : XK} {b : Addr} {p : Int} {s : Bg} {k n : Nat} (hb : BagAt Cs H b p s) (hp : Prm p) (g : Good p s) (l : Lev n s) (hn : n ≤ 1000) (hk : k ≤ n) (hz : s.length < 64) (kk : ∀ v H', Ex H H' → (v = .non ∧ ¬ IsCut p k s ∨ (∃ t, v = .ref t) ∧ IsCut p k s) → Q v H') : sp_cut Cs [.ref b, .int k] H Q E :=
  ⟨b, p, s, k, n, rfl, hb, hp, g, l, hn, hk, by omega, fun H' e hc => kk .non H' e (.inl ⟨rfl, hc⟩), fun t _ _ H' e hc _ _ _ => kk (.ref t) H' e (.inr ⟨⟨t, rfl⟩, hc⟩)⟩
theorem join {D G : Addr → Hp → Prop} {R : Prop} (key : ∀ d H, D d H → G d H) (use : (∀ d H, D d H → G d H) → R) : R := use key
theorem ok_law {f : Addr} {fd : FuncData} (F : Fun K "law" "law" s_law f fd) (T : Txt K mg C_Bag Cs) (D_law_hand : DefOk P w K mg base CX0 1 "_law_hand" ["_law_script"] (sp_law_hand K)) (D_law_draw : DefOk P w K mg base CX0 1 "_law_draw" ["_law_hand_here", "_law_many"] sp_law_draw)
    (D_law_clock : DefOk P w K mg base CX0 2 "_law_clock" ["_law_hand_here"] sp_law_clock) (D_law_some : DefOk P w K mg base CX0 2 "_law_some" ["_law_hand_here", "_law_things"] sp_some) (D_law_flag : DefOk P w K mg base CX0 1 "_law_flag" ["_law_told", "_law_due"] sp_law_flag)
    (D_law_do_cross : DefOk P w K mg base CX0 2 "_law_do_cross" ["_law_clock_here", "_law_bag", "_law_letters", "_law_thing"] sp_do_cross) (D_law_bent : DefOk P w K mg base CX0 2 "_law_bent" ["_law_hand_here", "_law_words", "_law_length"] sp_bent) (D_mk_Bag : MkOk P w K mg base CX0 6 "Bag" C_Bag ["self", "clock", "words"] (sp_bag_init C_Bag Cs))
    (D_cut : DefOk P w K mg base CX0 9 "cut" ["bag", "number"] (sp_cut Cs)) (D_crossing : DefOk P w K mg base CX0 6 "crossing" ["bag", "number"] (sp_crossing Cs)) (D_is_crossing : DefOk P w K mg base CX0 5 "is_crossing" ["bag", "number", "thing"] (sp_is_crossing Cs)) : FnOk P w K mg base CX0 10 f fd ["_law_script"] (sp_law K) := by
  refine F.ok sc_law (fun vs H Q E h => ?_) (fun cdv A outer s H vs Q E hr h => ?_)
  · obtain ⟨a, ns, rfl, _⟩ := h
    rfl
  · obtain ⟨a, ns, rfl, hs, k⟩ := h
    have hu64 := L2.Room.units hr
    have hu := hu_of hr; have hu64 := L2.Room.units hr; refine ⟨_, (pss_cons (ps_set (i := 1) sc_law.nd rfl (by first | exact Or.inl rfl | exact Or.inr rfl) (pe_callD D_law_hand (hr.mono (by decide)) rfl pass0 (pa_cons (pv 0) pa_nil))) (pss_cons (ps_for PassesOwn.never rfl (pi_range1 rfl T.b_range (pa_cons pe_int pa_nil)) (pg_name (i := 2) sc_law.nd rfl (by first | exact Or.inl rfl | exact Or.inr rfl)) (pss_cons (ps_set (i := 3) sc_law.nd rfl (by first | exact Or.inl rfl | exact Or.inr rfl) (pe_callD D_law_clock (hr.mono (by decide)) rfl pass0 (pa_cons (pv 1) pa_nil))) (pss_cons (ps_set (i := 4) sc_law.nd rfl (by first | exact Or.inl rfl | exact Or.inr rfl) (pe_op op_add pe_int (pe_callD D_law_draw (hr.mono (by decide)) rfl pass0 (pa_cons (pv 1) (pa_cons pe_int pa_nil))))) (pss_cons (ps_set (i := 5) sc_law.nd rfl (by first | exact Or.inl rfl | exact Or.inr rfl) pe_dnewK) (pss_cons (ps_for PassesOwn.never rfl (pi_range1 rfl T.b_range (pa_cons (pe_op op_add pe_int (pe_callD D_law_draw (hr.mono (by decide)) rfl pass0 (pa_cons (pv 1) (pa_cons pe_int pa_nil)))) pa_nil)) (pg_name (i := 6) sc_law.nd rfl (by first | exact Or.inl rfl | exact Or.inr rfl)) (pss_one (ps_dput hu (pv 5) (pe_join pe_str (pe_lc (own := [("_law_j", 7)]) (g := (gName 7)) (tt := tYes) rfl sc_law.nd (pi_range1 rfl T.b_range (pa_cons (pv 4) pa_nil)) (blkOk_by (N := N_law) (sc := defScope s_law) (by decide +kernel)) (fun _ _ _ _ _ => (pg_name (i := 7) sc_law.nd rfl (by first | exact Or.inl rfl | exact Or.inr rfl))) (fun _ _ _ _ _ => pts_nil) (fun _ _ _ _ _ => (pe_callD D_law_some (hr.mono (by decide)) rfl pass0 (pa_cons (pv 1) (pa_cons pe_str pa_nil)))))) (pe_op op_add pe_int (pe_callD D_law_draw (hr.mono (by decide)) rfl pass0 (pa_cons (pv 1) (pa_cons (pe_op op_sub (pv 3) pe_int) pa_nil)))) rfl))) (pss_cons (ps_set (i := 8) sc_law.nd rfl (by first | exact Or.inl rfl | exact Or.inr rfl) (pe_mkD D_mk_Bag (hr.mono (by decide)) rfl pass0 (pa_cons (pv 3) (pa_cons (pv 5) pa_nil)))) (pss_one (ps_for PassesOwn.never rfl (pi_range1 rfl T.b_range (pa_cons (pe_op op_add (pv 4) pe_int) pa_nil)) (pg_name (i := 9) sc_law.nd rfl (by first | exact Or.inl rfl | exact Or.inr rfl)) (pss_cons (ps_set (i := 10) sc_law.nd rfl (by first | exact Or.inl rfl | exact Or.inr rfl) (pe_callD D_crossing (hr.mono (by decide)) rfl pass0 (pa_cons (pv 8) (pa_cons (pv 9) pa_nil)))) (pss_cons (ps_if (pt_cmpR op_ne (pe_cmpR op_isN (pv 10) pe_non (nomark _)) (pe_cmpR op_notN (pe_callD D_cut (hr.mono (by decide)) rfl pass0 (pa_cons (pv 8) (pa_cons (pv 9) pa_nil))) pe_non (nomark _)) (nomark _)) (pss_one (ps_ret pe_bl)) pss_nil) (pss_cons (ps_if (PW.pt (pw_and (pt_cmpR op_notN (pv 10) pe_non (nomark _)) (pw_and1 (PW.pt (pw_or (pt_not (pt_val (pe_callD D_law_do_cross (hr.mono (by decide)) rfl pass0 (pa_cons (pv 3) (pa_cons (pv 5) (pa_cons (pv 9) (pa_cons (pv 10) pa_nil))))))) (pw_or1 (pt_cmpR (r := rEqP K true) (op_neP hu64) (pe_callD D_crossing (hr.mono (by decide)) rfl pass0 (pa_cons (pv 8) (pa_cons (pv 9) pa_nil))) (pv 10) (nomark _)))))))) (pss_one (ps_ret pe_bl)) pss_nil) (pss_cons (ps_lockR (ps_setLc (i := 11) (own := [("_law_word", 12)]) (g := (gName 12)) (tt := tYes) rfl sc_law.nd rfl rfl rfl (pi_keys (pv 5)) (blkOk_by (N := N_law) (sc := defScope s_law) (by decide +kernel)) (fun _ _ _ _ _ => (pg_name (i := 12) sc_law.nd rfl (by first | exact Or.inl rfl | exact Or.inr rfl))) (fun _ _ _ _ _ => pts_nil) (fun _ _ _ _ _ => (pe_slice sl_str (pv 12) po_none (po_some (pv 9)))))) (pss_cons (ps_lockR (ps_setLc (i := 13) (own := [("_law_word", 12)]) (g := (gName 12)) (tt := tYes) rfl sc_law.nd rfl rfl rfl (pi_keys (pv 5)) (blkOk_by (N := N_law) (sc := defScope s_law) (by decide +kernel)) (fun _ _ _ _ _ => (pg_name (i := 12) sc_law.nd rfl (by first | exact Or.inl rfl | exact Or.inr rfl))) (fun _ _ _ _ _ => pts_nil) (fun _ _ _ _ _ => (pe_slice sl_str (pv 12) (po_some (pv 9)) po_none)))) (pss_one (ps_for PassesOwn.never rfl (pi_range1 rfl T.b_range (pa_cons pe_int pa_nil)) (pg_name (i := 14) sc_law.nd rfl (by first | exact Or.inl rfl | exact Or.inr rfl)) (pss_cons (ps_set (i := 15) sc_law.nd rfl (by first | exact Or.inl rfl | exact Or.inr rfl) (pe_tup (pa_cons (pe_callD D_law_some (hr.mono (by decide)) rfl pass0 (pa_cons (pv 1) (pa_cons (pv 11) pa_nil))) (pa_cons (pe_callD D_law_some (hr.mono (by decide)) rfl pass0 (pa_cons (pv 1) (pa_cons (pv 11) pa_nil))) (pa_cons (pe_callD D_law_some (hr.mono (by decide)) rfl pass0 (pa_cons (pv 1) (pa_cons (pv 13) pa_nil))) (pa_cons (pe_callD D_law_some (hr.mono (by decide)) rfl pass0 (pa_cons (pv 1) (pa_cons (pv 13) pa_nil))) pa_nil)))))) (pss_cons (ps_if (PW.pt (pw_and (pt_cmpR op_notN (pv 10) pe_non (nomark _)) (pw_and1 (pt_cmpR op_eq (pv 14) pe_int (nomark _))))) (pss_one (ps_set (i := 15) sc_law.nd rfl (by first | exact Or.inl rfl | exact Or.inr rfl) (pv 10))) pss_nil) (pss_one (ps_for PassesOwn.never rfl (pi_list (pe_lst (pa_cons (pv 15) (pa_cons (pe_callD D_law_bent (hr.mono (by decide)) rfl pass0 (pa_cons (pv 1) (pa_cons (pv 15) (pa_cons (pv 4) pa_nil)))) pa_nil)))) (pg_name (i := 16) sc_law.nd rfl (by first | exact Or.inl rfl | exact Or.inr rfl)) (pss_cons (ps_set (i := 17) sc_law.nd rfl (by first | exact Or.inl rfl | exact Or.inr rfl) (pe_callD D_law_do_cross (hr.mono (by decide)) rfl pass0 (pa_cons (pv 3) (pa_cons (pv 5) (pa_cons (pv 9) (pa_cons (pv 16) pa_nil)))))) (pss_one (ps_if (PW.pt (pw_or (pt_not (pt_val (pe_callD D_law_flag (hr.mono (by decide)) rfl pass0 (pa_cons (pe_callD D_is_crossing (hr.mono (by decide)) rfl pass0 (pa_cons (pv 8) (pa_cons (pv 9) (pa_cons (pv 16) pa_nil)))) (pa_cons (pv 17) pa_nil))))) (pw_or1 (PW.pt (pw_and (pt_cmpR op_isN (pv 10) pe_non (nomark _)) (pw_and1 (pt_val (pv 17)))))))) (pss_one (ps_ret pe_bl)) pss_nil)))))))))))))))))))))) (pss_one (ps_ret pe_bl)))), ?_⟩; rw [st_law]; (try dsimp only [cxOf]); walk_at "go"
    refine ⟨a, ns, rfl, hs, fun h c H1 e1 hn1 hh1 => ?_⟩
    walk_at "go"
    refine ⟨by decide, by decide, ?_⟩
    refine forG walk_range (fun i σ' H' => (∃ y2 y3 y4 y5 y6 y7 y8 y9 y10 y11 y12 y13 y14 y15 y16 y17, σ' = [some (.ref a), some (.ref h), y2, y3, y4, y5, y6, y7, y8, y9, y10, y11, y12, y13, y14, y15, y16, y17]) ∧ HandAt H' h c) ⟨⟨_, _, _, _, _, _, _, _, _, _, _, _, _, _, _, _, rfl⟩, hh1⟩ (fun _ _ _ _ _ => trivial) ?_ ?_
    rotate_left
    · rintro σ' H4 ⟨⟨y2, y3, y4, y5, y6, y7, y8, y9, y10, y11, y12, y13, y14, y15, y16, y17, rfl⟩, _⟩
      walk_at "go"
      exact k _
    rintro i0 x σ' H4 H4' hi ⟨⟨y2, y3, y4, y5, y6, y7, y8, y9, y10, y11, y12, y13, y14, y15, y16, y17, rfl⟩, hh4⟩ ⟨rfl, rfl⟩
    clear hh1 e1
    walk_at "go"
    refine ⟨h, c, rfl, hh4, fun p H5 hp e5 hh5 => ?_⟩
    replace hp : Clk p := hp
    have hpm : Prm p := hp
    have hp2 := hp.lo
    have hp7 := hp.hi
    have hp0 : 0 < p := by omega
    walk_at "go"
    refine ⟨h, c, 6, rfl, hh5, by decide, by decide, fun v H6 hv0 hv1 e6 hh6 => ?_⟩
    obtain ⟨L, hL⟩ : ∃ L : Nat, 1 + v = L := ⟨(1 + v).toNat, by omega⟩
    walk_at "go"
    rw [hL]
    walk_at "go"
    intro dp hdp
    have e7 := Ex.new (o := .dK []) hdp
    have hdd := upd_same (H := H6) (a := dp) (o := .dK [])
    have hh7 := hh6.ex' e7
    have hdh := (hh6.new hdp).1
    have hdc := (hh6.new hdp).2
    generalize upd H6 dp (.dK []) = H7 at e7 hdd hh7 ⊢
    walk_at "go"
    refine ⟨h, c, 6, rfl, hh7, by decide, by decide, fun v2 H8 h20 h21 e8 hh8 => ?_⟩
    replace hdd := e8 _ _ hdh hdd
    walk_at "go"
    refine ⟨by omega, by omega, ?_⟩
    refine forG walk_range (fun j σ' H' => (∃ y6, σ' = [some (.ref a), some (.ref h), some (.int (0 + (i0 : Int))), some (.int p), some (.int (L : Int)), some (.ref dp), y6, y7, y8, y9, y10, y11, y12, y13, y14, y15, y16, y17]) ∧ HandAt H' h c ∧ ∃ s, H' dp = some (.dK (toK s)) ∧ Lot p s j L ∧ (∀ u ∈ keys s, u.length = L) ∧ (0 < j → s ≠ [])) ⟨⟨_, rfl⟩, hh8, [], hdd, Lot.nil, (fun _ h => nomatch h), fun h => absurd h (Nat.lt_irrefl 0)⟩ (fun _ _ _ _ _ => trivial) ?_ ?_
    · rintro j x σ' H9x H9 hj ⟨⟨y6, rfl⟩, hh9, s, hs9, hl9, hlen9, hne9⟩ ⟨rfl, rfl⟩
      walk_at "go"
      refine ⟨h, c, p - 1, rfl, hh9, by omega, by omega, fun v6 H10 h60 h61 e10 hh10 => ?_⟩
      have hs10 := e10 _ _ hdh hs9
      walk_at "go"
      refine ⟨⟨_, rfl⟩, ?_⟩
      walk_at "go"
      refine ⟨by omega, by omega, ?_⟩
      obtain ⟨o0, ho⟩ := hh10.kind
      refine lc_mut (f := h) (j := 7) walk_range ho (Nat.le_trans (by omega : ((L : Int)).toNat ≤ 1000) (by decide)) (fun H => HandAt H h c) hh10 (fun H D o hD x => x.upd (hh10.new hD).1 (hh10.new hD).2) (fun _ _ _ => trivial) (fun y => ∃ u : Str, y = V.str u ∧ u.length = 1 ∧ isW u = true) (fun _ => rfl) ?_ ?_
      · rintro i x H5x H5 Kc hi5 e5 hh5 ⟨rfl, rfl⟩ hk
        walk_at "go"
        refine ⟨h, c, _, _, rfl, hh5, .inl ⟨"xxyyz", rfl, by decide, rfl⟩, by decide, by decide, fun u H6 hu e6 hh6 => ?_⟩
        obtain ⟨ch, hch, rfl⟩ := List.mem_map.mp hu
        exact hk _ _ e6 hh6 ⟨_, rfl, rfl, isW_one (z := "xxyyz") (by decide +kernel) hch⟩
      · intro D H11 ys hD e11 hh11 hl11 hlen11 hp11
        obtain ⟨zs, rfl, hzs⟩ := strs_of hp11
        rw [List.length_map] at hlen11
        have hsum : (zs.map (·.length)).sum = zs.length := by
          have : zs.map (·.length) = zs.map fun _ => 1 := List.map_congr_left fun u hu => (hzs u hu).1
          rw [this]
          exact sum_ones zs
        obtain ⟨j1, j2⟩ := join_ones zs hzs
        walk_at "go"
        refine ⟨_, D, zs, rfl, rfl, .inl (SqL.of hl11), ?_, ?_⟩
        · rw [hsum]
          have : ("" : Str).length = 0 := rfl
          rw [this]
          omega
        have e99 : Txt.join ("" : Str) zs = Str.join ("" : Str) zs := TL.join_eq _ _
        rw [e99]
        have ju : (Str.join ("" : Str) zs).length = L := by omega
        generalize Str.join ("" : Str) zs = u at j1 j2 ju ⊢
        have hs11 := e11 _ _ hdh hs10
        walk_at "go"
        refine g_dp hs11 (Nat.lt_of_le_of_lt hl9.n (Nat.lt_of_lt_of_le (by omega : j < 1000) (by decide))) ?_
        refine ⟨⟨_, rfl⟩, hh11.upd hdh hdc, _, upd_same, hl9.put (by omega) (by omega) (by omega) j2, ?_, fun _ e => ?_⟩
        · intro x hx
          rw [keys_put] at hx
          by_cases hq : u ∈ keys s
          · rw [if_pos hq] at hx
            exact hlen9 x hx
          · rw [if_neg hq] at hx
            rcases List.mem_append.mp hx with h | h
            · exact hlen9 x h
            · rw [List.mem_singleton.mp h]; exact ju
        · have e2 := keys_put s u (1 + v6)
          rw [e] at e2
          by_cases hq : u ∈ keys s
          · rw [if_pos hq] at e2
            rw [← e2] at hq
            cases hq
          · rw [if_neg hq] at e2
            have := congrArg List.length e2
            rw [List.length_append] at this
            simp [keys] at this
    rintro σ' H9 ⟨⟨y6, rfl⟩, hh9, s, hs9, hl9, hlen9, hne9⟩
    have lo : Lot p s 6 L := hl9.mono (by omega) (Nat.le_refl _)
    have lv : Lev L s := ⟨hne9 (by omega), hlen9⟩
    have hL6 : L ≤ 6 := by omega
    have hsn := lo.n
    clear hl9 hlen9 hne9 hh8 hh7 hh6 hh5 hh4 e8 e7 e6 e5 hdd hdh hdc
    walk_at "go"
    refine g_mkBag hp hs9 (lo.mono (by decide) (by omega)) fun x H10 e10 _ hx => ?_
    have S : S23 Cs p s h c dp x H10 := ⟨hh9.ex' e10, e10 _ _ hs9, hx⟩
    clear e10 hs9 hh9 hx
    walk_at "go"
    refine ⟨by omega, by omega, ?_⟩
    refine forG walk_range (fun i σ' H' => (∃ y9 y10 y11 y13 y14 y15 y16 y17, σ' = [some (.ref a), some (.ref h), some (.int (0 + (i0 : Int))), some (.int p), some (.int (L : Int)), some (.ref dp), y6, y7, some (.ref x), y9, y10, y11, y12, y13, y14, y15, y16, y17]) ∧ S23 Cs p s h c dp x H') ⟨⟨_, _, _, _, _, _, _, _, rfl⟩, S⟩ (fun _ _ _ _ _ => trivial) ?_ ?_
    rotate_left
    · rintro σ' H11 ⟨⟨y9, y10, y11, y13, y14, y15, y16, y17, rfl⟩, S⟩
      walk_at "go"
      exact ⟨⟨_, _, _, _, _, _, _, _, _, _, _, _, _, _, _, _, rfl⟩, S.hh⟩
    rintro i1 z9 σ' H11x H11 hi1 ⟨⟨y9, y10, y11, y13, y14, y15, y16, y17, rfl⟩, S⟩ ⟨rfl, rfl⟩
    obtain ⟨k0, hk0⟩ : ∃ k0 : Nat, (0 : Int) + (i1 : Int) = k0 := ⟨i1, by omega⟩
    have hkn : k0 ≤ L := by omega
    (try dsimp only)
    rw [hk0]
    have hcut := cut_iff hpm lv hkn lo.g
    walk_at "go"
    refine g_crossing S.b hpm lo.g lv (by omega) hkn (by omega) fun v H12 e12 tx => ?_
    replace S := S.ex' e12
    walk_at "go"
    refine ⟨rfl, ?_⟩
    walk_at "go"
    refine g_cutV S.b hpm lo.g lv (by omega) hkn (by omega) fun vc H13 e13 hvc => ?_
    replace S := S.ex' e13
    replace tx := tx.ex' e13
    walk_at "go"
    refine ⟨rfl, ?_⟩
    have same : decide (v = V.non) = !decide (vc = V.non) := by
      rcases tx with ⟨rfl, h1⟩ | ⟨t, o, e, rfl, h1, _⟩ <;> rcases hvc with ⟨rfl, h2⟩ | ⟨⟨t2, rfl⟩, h2⟩
      · exact absurd h1 h2
      · rw [decide_eq_true rfl, decide_eq_false (fun z => nomatch z)]; rfl
      · rw [decide_eq_true rfl, decide_eq_false (fun z => nomatch z)]; rfl
      · exact absurd h2 h1
    rw [same]
    walk_at "go"
    rw [if_neg (show ¬ ((!decide (V.bl (!decide (vc = V.non)) = V.bl (!decide (vc = V.non)))) = true) from by rw [decide_eq_true rfl]; exact fun z => nomatch z)]
    walk_at "go"
    clear same hvc
    apply join1 (D := fun H' => S23 Cs p s h c dp x H' ∧ TX p s k0 H' v)
    rotate_left
    · intro use
      refine ⟨rfl, ?_⟩
      rcases tx with ⟨hv, h1⟩ | ⟨t, o, e, hv, h1, hf, ht⟩
      · rw [decide_eq_true hv]
        walk_at "go"
        exact use H13 ⟨S, .inl ⟨hv, h1⟩⟩
      · rw [decide_eq_false (show ¬ v = V.non from fun z => by rw [hv] at z; cases z)]
        walk_at "go"
        obtain ⟨t1, t2⟩ := told_words lo lv hkn (by omega) hf
        refine ⟨h, dp, p, s, k0, v, _, rfl, S.d, lo.g, hp0, by omega, .inr ⟨t, _, _, hv, rfl, ht, it_strs fun u hu => Nat.le_trans (t2 u hu) (by decide), Nat.le_of_ble_eq_true rfl⟩, fun H14 e14 => ?_⟩
        rw [show doX p s k0 (some ([fr k0 (lead s), o, bk k0 (lead s), e].map some)) = true from t1]
        replace S := S.ex' e14
        replace ht := e14 _ _ ht
        walk_at "go"
        refine g_crossing S.b hpm lo.g lv (by omega) hkn (by omega) fun v2 H15 e15 tx2 => ?_
        replace S := S.ex' e15
        replace ht := e15 _ _ ht
        rcases tx2 with ⟨rfl, h2⟩ | ⟨t', o', e', rfl, h2, hf2, ht2⟩
        · exact absurd h2 h1
        · obtain ⟨rfl, rfl⟩ := hf.uniq hf2
          walk_at "go"
          refine g_ne4' hv ht2 ht ?_
          walk_at "go"
          exact use H15 ⟨S, .inr ⟨t, o, e, hv, h1, hf, ht⟩⟩
    rintro H14 ⟨S, tx⟩
    walk_at "go"
    have hw : ∀ u ∈ keys s, u.length = L := lv.l
    refine lock_asg ?_
    refine lcd_rel (.inl S.d) (line5 (by omega)) (fun H' Q' _ q => ⟨_, rfl, q⟩) (fun e y H => y = V.str (fr k0 e.1)) (fun e y H H' t h1 => h1) (fun _ => rfl) ?_ ?_
    · intro i z n9 H1 Kc hi le hk9
      have hzk : z ∈ keys s := mem_keys.mpr ⟨n9, mem_fr hi⟩
      walk_at "go"
      refine ⟨z, rfl, line5 (by rw [hw z hzk]; omega), ?_⟩
      exact hk9 _ _ (Ex.refl _) rfl
    intro lf H15 ys hlfn e15 hlf hp15
    have hys := paired_map (G := fun e : Str × Int => V.str (fr k0 e.1)) hp15
    subst hys
    have hlfh := (S.hh.new hlfn).1
    replace S := S.ex' e15
    replace tx := tx.ex' e15
    walk_at "go"
    refine lock_asg ?_
    refine lcd_rel (.inl S.d) (line5 (by omega)) (fun H' Q' _ q => ⟨_, rfl, q⟩) (fun e y H => y = V.str (bk k0 e.1)) (fun e y H H' t h1 => h1) (fun _ => rfl) ?_ ?_
    · intro i z n9 H1 Kc hi le hk9
      have hzk : z ∈ keys s := mem_keys.mpr ⟨n9, mem_fr hi⟩
      walk_at "go"
      refine ⟨z, rfl, line5 (by rw [hw z hzk]; omega), ?_⟩
      exact hk9 _ _ (Ex.refl _) rfl
    intro le H16 ys hlen e16 hle hp16
    have hys := paired_map (G := fun e : Str × Int => V.str (bk k0 e.1)) hp16
    subst hys
    have hleh := (S.hh.new hlen).1
    replace S := S.ex' e16
    replace tx := tx.ex' e16
    replace hlf := e16 _ _ hlf
    have hs0 : 0 < s.length := List.length_pos_iff.mpr lv.n
    have fl : ∀ {y : V}, (y ∈ s.map fun e => V.str (fr k0 e.1)) → ∃ u : Str, y = V.str u ∧ u.length ≤ 500 := fun {y} hy => by
      obtain ⟨e, he, rfl⟩ := List.mem_map.mp hy
      have hu := hw e.1 (mem_keys.mpr ⟨e.2, he⟩)
      have := (fr_bk (k := k0) (w := e.1) (by rw [hu]; exact hkn)).2.1
      exact ⟨_, rfl, by omega⟩
    have bl : ∀ {y : V}, (y ∈ s.map fun e => V.str (bk k0 e.1)) → ∃ u : Str, y = V.str u ∧ u.length ≤ 500 := fun {y} hy => by
      obtain ⟨e, he, rfl⟩ := List.mem_map.mp hy
      have hu := hw e.1 (mem_keys.mpr ⟨e.2, he⟩)
      have := (fr_bk (k := k0) (w := e.1) (by rw [hu]; exact hkn)).2.2
      exact ⟨_, rfl, by omega⟩
    clear hp15 hp16
    walk_at "go"
    refine ⟨by decide, by decide, ?_⟩
    refine forG walk_range (fun i σ' H' => (∃ y14 y15 y16 y17, σ' = [some (.ref a), some (.ref h), some (.int (0 + (i0 : Int))), some (.int p), some (.int (L : Int)), some (.ref dp), y6, y7, some (.ref x), some (.int (k0 : Int)), some v, some (.ref lf), y12, some (.ref le), y14, y15, y16, y17]) ∧ S23 Cs p s h c dp x H' ∧ TX p s k0 H' v ∧ H' lf = some (.lst (s.map fun e => V.str (fr k0 e.1))) ∧ H' le = some (.lst (s.map fun e => V.str (bk k0 e.1)))) ⟨⟨_, _, _, _, rfl⟩, S, tx, hlf, hle⟩ (fun _ _ _ _ _ => trivial) ?_ ?_
    rotate_left
    · rintro σ' H17 ⟨⟨y14, y15, y16, y17, rfl⟩, S, _⟩
      walk_at "go"
      exact ⟨⟨_, _, _, _, _, _, _, _, rfl⟩, S⟩
    clear S tx hlf hle
    rintro i2 z2 σ' H17x H17 hi2 ⟨⟨y14, y15, y16, y17, rfl⟩, S, tx, hlf, hle⟩ ⟨rfl, rfl⟩
    walk_at "go"
    refine ⟨h, c, _, _, rfl, S.hh, .inr ⟨lf, rfl, hlfh, hlf⟩, by rw [List.length_map]; exact hs0, by rw [List.length_map]; omega, fun u1 H18 hu1 e18 hh18 => ?_⟩
    obtain ⟨q1, rfl, lq1⟩ := fl hu1
    replace tx := tx.exh e18 S.hh.kind.choose_spec
    replace hlf := e18 _ _ hlfh hlf
    replace hle := e18 _ _ hleh hle
    replace S := S.exh e18 hh18
    walk_at "go"
    refine ⟨h, c, _, _, rfl, S.hh, .inr ⟨lf, rfl, hlfh, hlf⟩, by rw [List.length_map]; exact hs0, by rw [List.length_map]; omega, fun u2 H19 hu2 e19 hh19 => ?_⟩
    obtain ⟨q2, rfl, lq2⟩ := fl hu2
    replace tx := tx.exh e19 S.hh.kind.choose_spec
    replace hlf := e19 _ _ hlfh hlf
    replace hle := e19 _ _ hleh hle
    replace S := S.exh e19 hh19
    walk_at "go"
    refine ⟨h, c, _, _, rfl, S.hh, .inr ⟨le, rfl, hleh, hle⟩, by rw [List.length_map]; exact hs0, by rw [List.length_map]; omega, fun u3 H20 hu3 e20 hh20 => ?_⟩
    obtain ⟨q3, rfl, lq3⟩ := bl hu3
    replace tx := tx.exh e20 S.hh.kind.choose_spec
    replace hlf := e20 _ _ hlfh hlf
    replace hle := e20 _ _ hleh hle
    replace S := S.exh e20 hh20
    walk_at "go"
    refine ⟨h, c, _, _, rfl, S.hh, .inr ⟨le, rfl, hleh, hle⟩, by rw [List.length_map]; exact hs0, by rw [List.length_map]; omega, fun u4 H21 hu4 e21 hh21 => ?_⟩
    obtain ⟨q4, rfl, lq4⟩ := bl hu4
    replace tx := tx.exh e21 S.hh.kind.choose_spec
    replace hlf := e21 _ _ hlfh hlf
    replace hle := e21 _ _ hleh hle
    replace S := S.exh e21 hh21
    walk_at "go"
    refine ⟨Nat.le_of_ble_eq_true rfl, fun wd hwd => ?_⟩
    have e22 := Ex.new (o := .tup [.str q1, .str q2, .str q3, .str q4]) hwd
    have hwdd := upd_same (H := H21) (a := wd) (o := .tup [.str q1, .str q2, .str q3, .str q4])
    replace S := S.ex' e22
    replace tx := tx.ex' e22
    replace hlf := e22 _ _ hlf
    replace hle := e22 _ _ hle
    generalize upd H21 wd (.tup [.str q1, .str q2, .str q3, .str q4]) = H22 at e22 hwdd S tx hlf hle ⊢
    have hq4 : ∀ u ∈ [q1, q2, q3, q4], u.length ≤ 500 := fun u hu => by
      simp only [List.mem_cons, List.not_mem_nil, or_false] at hu
      rcases hu with rfl | rfl | rfl | rfl <;> assumption
    clear hu1 hu2 hu3 hu4 hh18 hh19 hh20 hh21 e18 e19 e20 e21 e22 fl bl
    refine g_name ?_
    refine g_cut (R := fun σ' H' => ∃ wd, σ' = [some (.ref a), some (.ref h), some (.int (0 + (i0 : Int))), some (.int p), some (.int (L : Int)), some (.ref dp), y6, y7, some (.ref x), some (.int (k0 : Int)), some v, some (.ref lf), y12, some (.ref le), some (.int (0 + (i2 : Int))), some (.ref wd), y16, y17] ∧ S23 Cs p s h c dp x H' ∧ TX p s k0 H' v ∧ H' lf = some (.lst (s.map fun e => V.str (fr k0 e.1))) ∧ H' le = some (.lst (s.map fun e => V.str (bk k0 e.1))) ∧ ∃ ws : List Str, H' wd = some (.tup (ws.map V.str)) ∧ ws.length = 4 ∧ ∀ u ∈ ws, u.length ≤ 500) (fun N hN => ?_) ?_
    · walk_at "go"
      refine ⟨rfl, ?_⟩
      rcases id tx with ⟨hv, h1⟩ | ⟨t, o, e, hv, h1, hf, ht⟩
      · rw [decide_eq_true hv]
        walk_at "go"
        exact hN _ _ ⟨wd, rfl, S, tx, hlf, hle, [q1, q2, q3, q4], hwdd, rfl, hq4⟩
      · rw [decide_eq_false (show ¬ v = V.non from fun z => by rw [hv] at z; cases z)]
        walk_at "go"
        by_cases hi : i2 = 0
        · rw [decide_eq_true (by rw [hi]; rfl)]
          walk_at "go"
          exact hN _ _ ⟨t, by rw [hv]; rfl, S, tx, hlf, hle, _, ht, rfl, (told_words lo lv hkn (by omega) hf).2⟩
        · rw [decide_eq_false (show ¬ V.int (0 + (i2 : Int)) = V.int 0 from fun z => hi (by have := V.int.inj z; omega))]
          walk_at "go"
          exact hN _ _ ⟨wd, rfl, S, tx, hlf, hle, [q1, q2, q3, q4], hwdd, rfl, hq4⟩
    clear S tx hlf hle hwdd hq4
    rintro σ' H23 ⟨wd2, rfl, S, tx, hlf, hle, ws, hws, h4, hwl⟩
    walk_at "go"
    refine ⟨h, c, wd2, L, ws, rfl, S.hh, hws, h4, hwl, by omega, fun vb xb H24 e24 hh24 hth => ?_⟩
    replace tx := tx.exh e24 S.hh.kind.choose_spec
    replace hlf := e24 _ _ hlfh hlf
    replace hle := e24 _ _ hleh hle
    replace hws := e24 _ _ (ne_of hws S.hh.kind.choose_spec fun z => nomatch z) hws
    replace S := S.exh e24 hh24
    walk_at "go"
    refine ⟨Nat.le_of_ble_eq_true rfl, fun ll hll => ?_⟩
    have e25 := Ex.new (o := .lst [.ref wd2, vb]) hll
    have hlll := upd_same (H := H24) (a := ll) (o := .lst [.ref wd2, vb])
    replace S := S.ex' e25
    replace tx := tx.ex' e25
    replace hlf := e25 _ _ hlf
    replace hle := e25 _ _ hle
    replace hws := e25 _ _ hws
    replace hth := hth.ex' e25
    generalize upd H24 ll (.lst [.ref wd2, vb]) = H25 at e25 hlll S tx hlf hle hws hth ⊢
    have both : ∀ y ∈ [V.ref wd2, vb], ∃ x, ThAt h H25 y x := fun y hy => by
      simp only [List.mem_cons, List.not_mem_nil, or_false] at hy
      rcases hy with rfl | rfl
      · exact ⟨_, .inr ⟨_, _, _, rfl, rfl, hws, it_strs fun u hu => Nat.le_trans (hwl u hu) (by decide), by rw [List.length_map, h4]; decide⟩⟩
      · exact ⟨_, hth⟩
    clear hh24 e24 hws hth
    walk_at "go"
    refine ⟨⟨_, SqL.of hlll⟩, ?_⟩
    refine forG walk_list (fun i σ' H' => (∃ y16 y17, σ' = [some (.ref a), some (.ref h), some (.int (0 + (i0 : Int))), some (.int p), some (.int (L : Int)), some (.ref dp), y6, y7, some (.ref x), some (.int (k0 : Int)), some v, some (.ref lf), y12, some (.ref le), some (.int (0 + (i2 : Int))), some (.ref wd2), y16, y17]) ∧ Ex H25 H') ⟨⟨_, _, rfl⟩, Ex.refl _⟩ (fun i σ' H' _ q => SqL.of (q.2 _ _ hlll)) ?_ ?_
    rotate_left
    · rintro σ' H26 ⟨⟨y16', y17', rfl⟩, e26⟩
      walk_at "go"
      exact ⟨⟨_, _, _, _, rfl⟩, S.ex' e26, tx.ex' e26, e26 _ _ hlf, e26 _ _ hle⟩
    rintro i3 z3 σ' H26x H26 hi3 ⟨⟨y16', y17', rfl⟩, e26⟩ ⟨rfl, hx3⟩
    obtain ⟨xt, hxt⟩ := both z3 (List.mem_of_getElem? hx3)
    replace hxt := hxt.ex' e26
    have S6 := S.ex' e26
    walk_at "go"
    refine ⟨h, dp, p, s, k0, z3, xt, rfl, S6.d, lo.g, hp0, by omega, hxt, fun H27 e27 => ?_⟩
    replace S6 := S6.ex' e27
    replace hxt := hxt.ex' e27
    walk_at "go"
    refine ⟨h, x, p, s, k0, L, z3, xt, rfl, S6.b, hpm, lo.g, lv, by omega, hkn, by omega, hxt, fun H28 e28 => ?_⟩
    walk_at "go"
    refine ⟨_, _, rfl, ?_⟩
    rw [decide_eq_true rfl]
    walk_at "go"
    refine ⟨rfl, ?_⟩
    have e2628 := (e26.trans e27).trans e28
    rcases id tx with ⟨hv, h1⟩ | ⟨t, o, e, hv, h1, hf, ht⟩
    · rw [decide_eq_true hv, doX_noX (hcut.mp h1)]
      walk_at "go"
      exact ⟨⟨_, _, rfl⟩, e2628⟩
    · rw [decide_eq_false (show ¬ v = V.non from fun z => by rw [hv] at z; cases z)]
      walk_at "go"
      exact ⟨⟨_, _, rfl⟩, e2628⟩

end
end Fp

namespace Fp
open PySem L2
theorem kit_sub {K : PySem.W.Frag} {C : Addr} {t : Value} (hc : PySem.W.isClsIn K C = true) (ht : PySem.W.typeIn K (.ref C) = some (.type "type")) (hs : PySem.W.subIn K t (.ref C) = some true) : PySem.W.kitOne K t (.ref C) = some true := by
  unfold PySem.W.kitOne PySem.W.kitCls
  have hc' : (PySem.W.clsIn K C).isSome = true := hc
  split
  · rfl
  · dsimp only
    rw [hc', ht, hs]
    rfl
theorem all_mk {l : PySem.W.OpenLaw} {w : World} {K : PySem.W.Frag} {h : Heap} {mg : Str → Option Value} {fa aC C_Bag C_RawBag f_ahead_key f_law_hand f_law_draw f_law_clock f_law_some f_law_flag f_law_is_word f_law_do_cross f_law_bent f_is_integer f_is_clock f_is_word f_is_short_word f_is_within f_are_words f_words_in_order f_Bag_keep f_Bag_init f_is_level f_size f_check_number f_check_cut f_first_word f_inverse f_put_to f_product f_cut_of f_RawBag_init f_raw f_cut f_crosses f_crossing f_is_crossing f_law : Addr} (X : K.In h) (G : h.Ns mainGlobals mg) (hfa : mg "law" = some (.ref fa))
    {od_ahead_key an_ahead_key : Option Addr} {sl_ahead_key : Array (Option Value)} {oc_ahead_key kV_ahead_key dc_ahead_key pm_ahead_key cd_ahead_key ct_ahead_key : Value} {od_law_hand an_law_hand : Option Addr} {sl_law_hand : Array (Option Value)} {oc_law_hand kV_law_hand dc_law_hand pm_law_hand cd_law_hand ct_law_hand : Value} {od_law_draw an_law_draw : Option Addr} {sl_law_draw : Array (Option Value)} {oc_law_draw kV_law_draw dc_law_draw pm_law_draw cd_law_draw ct_law_draw : Value} {od_law_clock an_law_clock : Option Addr} {sl_law_clock : Array (Option Value)} {oc_law_clock kV_law_clock dc_law_clock pm_law_clock cd_law_clock ct_law_clock : Value} {od_law_some an_law_some : Option Addr} {sl_law_some : Array (Option Value)} {oc_law_some kV_law_some dc_law_some pm_law_some cd_law_some ct_law_some : Value} {od_law_flag an_law_flag : Option Addr} {sl_law_flag : Array (Option Value)} {oc_law_flag kV_law_flag dc_law_flag pm_law_flag cd_law_flag ct_law_flag : Value} {od_law_is_word an_law_is_word : Option Addr} {sl_law_is_word : Array (Option Value)} {oc_law_is_word kV_law_is_word dc_law_is_word pm_law_is_word cd_law_is_word ct_law_is_word : Value} {od_law_do_cross an_law_do_cross : Option Addr} {sl_law_do_cross : Array (Option Value)} {oc_law_do_cross kV_law_do_cross dc_law_do_cross pm_law_do_cross cd_law_do_cross ct_law_do_cross : Value} {od_law_bent an_law_bent : Option Addr} {sl_law_bent : Array (Option Value)} {oc_law_bent kV_law_bent dc_law_bent pm_law_bent cd_law_bent ct_law_bent : Value} {od_is_integer an_is_integer : Option Addr} {sl_is_integer : Array (Option Value)} {oc_is_integer kV_is_integer dc_is_integer pm_is_integer cd_is_integer ct_is_integer : Value} {od_is_clock an_is_clock : Option Addr} {sl_is_clock : Array (Option Value)} {oc_is_clock kV_is_clock dc_is_clock pm_is_clock cd_is_clock ct_is_clock : Value} {od_is_word an_is_word : Option Addr} {sl_is_word : Array (Option Value)} {oc_is_word kV_is_word dc_is_word pm_is_word cd_is_word ct_is_word : Value} {od_is_short_word an_is_short_word : Option Addr} {sl_is_short_word : Array (Option Value)} {oc_is_short_word kV_is_short_word dc_is_short_word pm_is_short_word cd_is_short_word ct_is_short_word : Value} {od_is_within an_is_within : Option Addr} {sl_is_within : Array (Option Value)} {oc_is_within kV_is_within dc_is_within pm_is_within cd_is_within ct_is_within : Value} {od_are_words an_are_words : Option Addr} {sl_are_words : Array (Option Value)} {oc_are_words kV_are_words dc_are_words pm_are_words cd_are_words ct_are_words : Value} {od_words_in_order an_words_in_order : Option Addr} {sl_words_in_order : Array (Option Value)} {oc_words_in_order kV_words_in_order dc_words_in_order pm_words_in_order cd_words_in_order ct_words_in_order : Value} {od_Bag_keep an_Bag_keep : Option Addr} {sl_Bag_keep : Array (Option Value)} {oc_Bag_keep kV_Bag_keep dc_Bag_keep pm_Bag_keep cd_Bag_keep ct_Bag_keep : Value} {od_Bag_init an_Bag_init : Option Addr} {sl_Bag_init : Array (Option Value)} {oc_Bag_init kV_Bag_init dc_Bag_init pm_Bag_init cd_Bag_init ct_Bag_init : Value} {od_is_level an_is_level : Option Addr} {sl_is_level : Array (Option Value)} {oc_is_level kV_is_level dc_is_level pm_is_level cd_is_level ct_is_level : Value} {od_size an_size : Option Addr} {sl_size : Array (Option Value)} {oc_size kV_size dc_size pm_size cd_size ct_size : Value} {od_check_number an_check_number : Option Addr} {sl_check_number : Array (Option Value)} {oc_check_number kV_check_number dc_check_number pm_check_number cd_check_number ct_check_number : Value} {od_check_cut an_check_cut : Option Addr} {sl_check_cut : Array (Option Value)} {oc_check_cut kV_check_cut dc_check_cut pm_check_cut cd_check_cut ct_check_cut : Value} {od_first_word an_first_word : Option Addr} {sl_first_word : Array (Option Value)} {oc_first_word kV_first_word dc_first_word pm_first_word cd_first_word ct_first_word : Value} {od_inverse an_inverse : Option Addr} {sl_inverse : Array (Option Value)} {oc_inverse kV_inverse dc_inverse pm_inverse cd_inverse ct_inverse : Value} {od_put_to an_put_to : Option Addr} {sl_put_to : Array (Option Value)} {oc_put_to kV_put_to dc_put_to pm_put_to cd_put_to ct_put_to : Value} {od_product an_product : Option Addr} {sl_product : Array (Option Value)} {oc_product kV_product dc_product pm_product cd_product ct_product : Value} {od_cut_of an_cut_of : Option Addr} {sl_cut_of : Array (Option Value)} {oc_cut_of kV_cut_of dc_cut_of pm_cut_of cd_cut_of ct_cut_of : Value} {od_RawBag_init an_RawBag_init : Option Addr} {sl_RawBag_init : Array (Option Value)} {oc_RawBag_init kV_RawBag_init dc_RawBag_init pm_RawBag_init cd_RawBag_init ct_RawBag_init : Value} {od_raw an_raw : Option Addr} {sl_raw : Array (Option Value)} {oc_raw kV_raw dc_raw pm_raw cd_raw ct_raw : Value} {od_cut an_cut : Option Addr} {sl_cut : Array (Option Value)} {oc_cut kV_cut dc_cut pm_cut cd_cut ct_cut : Value} {od_crosses an_crosses : Option Addr} {sl_crosses : Array (Option Value)} {oc_crosses kV_crosses dc_crosses pm_crosses cd_crosses ct_crosses : Value} {od_crossing an_crossing : Option Addr} {sl_crossing : Array (Option Value)} {oc_crossing kV_crossing dc_crossing pm_crossing cd_crossing ct_crossing : Value} {od_is_crossing an_is_crossing : Option Addr} {sl_is_crossing : Array (Option Value)} {oc_is_crossing kV_is_crossing dc_is_crossing pm_is_crossing cd_is_crossing ct_is_crossing : Value} {od_law an_law : Option Addr} {sl_law : Array (Option Value)} {oc_law kV_law dc_law pm_law cd_law ct_law : Value} {t1 t2 t3 t4 t5 t6 t7  : Tok} {od4 : Option Addr} {n4' : Nat} {sl4 : Array (Option Value)}
    (nsBag : PySem.W.nsIn K mainGlobals "Bag" = some (some (.ref C_Bag)))
    (nsRawBag : PySem.W.nsIn K mainGlobals "RawBag" = some (some (.ref C_RawBag)))
    (a_ahead_key : PySem.W.nsIn K mainGlobals "ahead_key" = some (some (.ref f_ahead_key)))
    (l_ahead_key : K.lookup f_ahead_key = some ⟨oc_ahead_key, od_ahead_key, .func (PySem.W.fnOf "ahead_key" "ahead_key" (defArgs s_ahead_key) (defBody s_ahead_key) (defScope s_ahead_key) .none kV_ahead_key dc_ahead_key pm_ahead_key an_ahead_key cd_ahead_key ct_ahead_key), sl_ahead_key⟩)
    (c_ahead_key : PySem.W.codeIn K cd_ahead_key "ahead_key" = true)
    (k_ahead_key : PySem.W.keepIn K (.ref f_ahead_key) = true)
    (a_law_hand : PySem.W.nsIn K mainGlobals "_law_hand" = some (some (.ref f_law_hand)))
    (l_law_hand : K.lookup f_law_hand = some ⟨oc_law_hand, od_law_hand, .func (PySem.W.fnOf "_law_hand" "_law_hand" (defArgs s_law_hand) (defBody s_law_hand) (defScope s_law_hand) .none kV_law_hand dc_law_hand pm_law_hand an_law_hand cd_law_hand ct_law_hand), sl_law_hand⟩)
    (c_law_hand : PySem.W.codeIn K cd_law_hand "_law_hand" = true)
    (k_law_hand : PySem.W.keepIn K (.ref f_law_hand) = true)
    (a_law_draw : PySem.W.nsIn K mainGlobals "_law_draw" = some (some (.ref f_law_draw)))
    (l_law_draw : K.lookup f_law_draw = some ⟨oc_law_draw, od_law_draw, .func (PySem.W.fnOf "_law_draw" "_law_draw" (defArgs s_law_draw) (defBody s_law_draw) (defScope s_law_draw) .none kV_law_draw dc_law_draw pm_law_draw an_law_draw cd_law_draw ct_law_draw), sl_law_draw⟩)
    (c_law_draw : PySem.W.codeIn K cd_law_draw "_law_draw" = true)
    (k_law_draw : PySem.W.keepIn K (.ref f_law_draw) = true)
    (a_law_clock : PySem.W.nsIn K mainGlobals "_law_clock" = some (some (.ref f_law_clock)))
    (l_law_clock : K.lookup f_law_clock = some ⟨oc_law_clock, od_law_clock, .func (PySem.W.fnOf "_law_clock" "_law_clock" (defArgs s_law_clock) (defBody s_law_clock) (defScope s_law_clock) .none kV_law_clock dc_law_clock pm_law_clock an_law_clock cd_law_clock ct_law_clock), sl_law_clock⟩)
    (c_law_clock : PySem.W.codeIn K cd_law_clock "_law_clock" = true)
    (k_law_clock : PySem.W.keepIn K (.ref f_law_clock) = true)
    (a_law_some : PySem.W.nsIn K mainGlobals "_law_some" = some (some (.ref f_law_some)))
    (l_law_some : K.lookup f_law_some = some ⟨oc_law_some, od_law_some, .func (PySem.W.fnOf "_law_some" "_law_some" (defArgs s_law_some) (defBody s_law_some) (defScope s_law_some) .none kV_law_some dc_law_some pm_law_some an_law_some cd_law_some ct_law_some), sl_law_some⟩)
    (c_law_some : PySem.W.codeIn K cd_law_some "_law_some" = true)
    (k_law_some : PySem.W.keepIn K (.ref f_law_some) = true)
    (a_law_flag : PySem.W.nsIn K mainGlobals "_law_flag" = some (some (.ref f_law_flag)))
    (l_law_flag : K.lookup f_law_flag = some ⟨oc_law_flag, od_law_flag, .func (PySem.W.fnOf "_law_flag" "_law_flag" (defArgs s_law_flag) (defBody s_law_flag) (defScope s_law_flag) .none kV_law_flag dc_law_flag pm_law_flag an_law_flag cd_law_flag ct_law_flag), sl_law_flag⟩)
    (c_law_flag : PySem.W.codeIn K cd_law_flag "_law_flag" = true)
    (k_law_flag : PySem.W.keepIn K (.ref f_law_flag) = true)
    (a_law_is_word : PySem.W.nsIn K mainGlobals "_law_is_word" = some (some (.ref f_law_is_word)))
    (l_law_is_word : K.lookup f_law_is_word = some ⟨oc_law_is_word, od_law_is_word, .func (PySem.W.fnOf "_law_is_word" "_law_is_word" (defArgs s_law_is_word) (defBody s_law_is_word) (defScope s_law_is_word) .none kV_law_is_word dc_law_is_word pm_law_is_word an_law_is_word cd_law_is_word ct_law_is_word), sl_law_is_word⟩)
    (c_law_is_word : PySem.W.codeIn K cd_law_is_word "_law_is_word" = true)
    (k_law_is_word : PySem.W.keepIn K (.ref f_law_is_word) = true)
    (a_law_do_cross : PySem.W.nsIn K mainGlobals "_law_do_cross" = some (some (.ref f_law_do_cross)))
    (l_law_do_cross : K.lookup f_law_do_cross = some ⟨oc_law_do_cross, od_law_do_cross, .func (PySem.W.fnOf "_law_do_cross" "_law_do_cross" (defArgs s_law_do_cross) (defBody s_law_do_cross) (defScope s_law_do_cross) .none kV_law_do_cross dc_law_do_cross pm_law_do_cross an_law_do_cross cd_law_do_cross ct_law_do_cross), sl_law_do_cross⟩)
    (c_law_do_cross : PySem.W.codeIn K cd_law_do_cross "_law_do_cross" = true)
    (k_law_do_cross : PySem.W.keepIn K (.ref f_law_do_cross) = true)
    (a_law_bent : PySem.W.nsIn K mainGlobals "_law_bent" = some (some (.ref f_law_bent)))
    (l_law_bent : K.lookup f_law_bent = some ⟨oc_law_bent, od_law_bent, .func (PySem.W.fnOf "_law_bent" "_law_bent" (defArgs s_law_bent) (defBody s_law_bent) (defScope s_law_bent) .none kV_law_bent dc_law_bent pm_law_bent an_law_bent cd_law_bent ct_law_bent), sl_law_bent⟩)
    (c_law_bent : PySem.W.codeIn K cd_law_bent "_law_bent" = true)
    (k_law_bent : PySem.W.keepIn K (.ref f_law_bent) = true)
    (a_is_integer : PySem.W.nsIn K mainGlobals "is_integer" = some (some (.ref f_is_integer)))
    (l_is_integer : K.lookup f_is_integer = some ⟨oc_is_integer, od_is_integer, .func (PySem.W.fnOf "is_integer" "is_integer" (defArgs s_is_integer) (defBody s_is_integer) (defScope s_is_integer) .none kV_is_integer dc_is_integer pm_is_integer an_is_integer cd_is_integer ct_is_integer), sl_is_integer⟩)
    (c_is_integer : PySem.W.codeIn K cd_is_integer "is_integer" = true)
    (k_is_integer : PySem.W.keepIn K (.ref f_is_integer) = true)
    (a_is_clock : PySem.W.nsIn K mainGlobals "is_clock" = some (some (.ref f_is_clock)))
    (l_is_clock : K.lookup f_is_clock = some ⟨oc_is_clock, od_is_clock, .func (PySem.W.fnOf "is_clock" "is_clock" (defArgs s_is_clock) (defBody s_is_clock) (defScope s_is_clock) .none kV_is_clock dc_is_clock pm_is_clock an_is_clock cd_is_clock ct_is_clock), sl_is_clock⟩)
    (c_is_clock : PySem.W.codeIn K cd_is_clock "is_clock" = true)
    (k_is_clock : PySem.W.keepIn K (.ref f_is_clock) = true)
    (a_is_word : PySem.W.nsIn K mainGlobals "is_word" = some (some (.ref f_is_word)))
    (l_is_word : K.lookup f_is_word = some ⟨oc_is_word, od_is_word, .func (PySem.W.fnOf "is_word" "is_word" (defArgs s_is_word) (defBody s_is_word) (defScope s_is_word) .none kV_is_word dc_is_word pm_is_word an_is_word cd_is_word ct_is_word), sl_is_word⟩)
    (c_is_word : PySem.W.codeIn K cd_is_word "is_word" = true)
    (k_is_word : PySem.W.keepIn K (.ref f_is_word) = true)
    (a_is_short_word : PySem.W.nsIn K mainGlobals "is_short_word" = some (some (.ref f_is_short_word)))
    (l_is_short_word : K.lookup f_is_short_word = some ⟨oc_is_short_word, od_is_short_word, .func (PySem.W.fnOf "is_short_word" "is_short_word" (defArgs s_is_short_word) (defBody s_is_short_word) (defScope s_is_short_word) .none kV_is_short_word dc_is_short_word pm_is_short_word an_is_short_word cd_is_short_word ct_is_short_word), sl_is_short_word⟩)
    (c_is_short_word : PySem.W.codeIn K cd_is_short_word "is_short_word" = true)
    (k_is_short_word : PySem.W.keepIn K (.ref f_is_short_word) = true)
    (a_is_within : PySem.W.nsIn K mainGlobals "is_within" = some (some (.ref f_is_within)))
    (l_is_within : K.lookup f_is_within = some ⟨oc_is_within, od_is_within, .func (PySem.W.fnOf "is_within" "is_within" (defArgs s_is_within) (defBody s_is_within) (defScope s_is_within) .none kV_is_within dc_is_within pm_is_within an_is_within cd_is_within ct_is_within), sl_is_within⟩)
    (c_is_within : PySem.W.codeIn K cd_is_within "is_within" = true)
    (k_is_within : PySem.W.keepIn K (.ref f_is_within) = true)
    (a_are_words : PySem.W.nsIn K mainGlobals "are_words" = some (some (.ref f_are_words)))
    (l_are_words : K.lookup f_are_words = some ⟨oc_are_words, od_are_words, .func (PySem.W.fnOf "are_words" "are_words" (defArgs s_are_words) (defBody s_are_words) (defScope s_are_words) .none kV_are_words dc_are_words pm_are_words an_are_words cd_are_words ct_are_words), sl_are_words⟩)
    (c_are_words : PySem.W.codeIn K cd_are_words "are_words" = true)
    (k_are_words : PySem.W.keepIn K (.ref f_are_words) = true)
    (a_words_in_order : PySem.W.nsIn K mainGlobals "words_in_order" = some (some (.ref f_words_in_order)))
    (l_words_in_order : K.lookup f_words_in_order = some ⟨oc_words_in_order, od_words_in_order, .func (PySem.W.fnOf "words_in_order" "words_in_order" (defArgs s_words_in_order) (defBody s_words_in_order) (defScope s_words_in_order) .none kV_words_in_order dc_words_in_order pm_words_in_order an_words_in_order cd_words_in_order ct_words_in_order), sl_words_in_order⟩)
    (c_words_in_order : PySem.W.codeIn K cd_words_in_order "words_in_order" = true)
    (k_words_in_order : PySem.W.keepIn K (.ref f_words_in_order) = true)
    (a_Bag_keep : PySem.W.findIn K (.ref C_Bag) "keep" = some (some (.ref f_Bag_keep)))
    (i_Bag_keep : PySem.W.isFn K (.ref f_Bag_keep) = true)
    (l_Bag_keep : K.lookup f_Bag_keep = some ⟨oc_Bag_keep, od_Bag_keep, .func (PySem.W.fnOf "keep" "Bag.keep" (defArgs s_Bag_keep) (defBody s_Bag_keep) (defScope s_Bag_keep) .none kV_Bag_keep dc_Bag_keep pm_Bag_keep an_Bag_keep cd_Bag_keep ct_Bag_keep), sl_Bag_keep⟩)
    (c_Bag_keep : PySem.W.codeIn K cd_Bag_keep "Bag.keep" = true)
    (k_Bag_keep : PySem.W.keepIn K (.ref f_Bag_keep) = true)
    (a_Bag_init : PySem.W.findIn K (.ref C_Bag) "__init__" = some (some (.ref f_Bag_init)))
    (i_Bag_init : PySem.W.isFn K (.ref f_Bag_init) = true)
    (l_Bag_init : K.lookup f_Bag_init = some ⟨oc_Bag_init, od_Bag_init, .func (PySem.W.fnOf "__init__" "Bag.__init__" (defArgs s_Bag_init) (defBody s_Bag_init) (defScope s_Bag_init) .none kV_Bag_init dc_Bag_init pm_Bag_init an_Bag_init cd_Bag_init ct_Bag_init), sl_Bag_init⟩)
    (c_Bag_init : PySem.W.codeIn K cd_Bag_init "Bag.__init__" = true)
    (k_Bag_init : PySem.W.keepIn K (.ref f_Bag_init) = true)
    (a_is_level : PySem.W.nsIn K mainGlobals "is_level" = some (some (.ref f_is_level)))
    (l_is_level : K.lookup f_is_level = some ⟨oc_is_level, od_is_level, .func (PySem.W.fnOf "is_level" "is_level" (defArgs s_is_level) (defBody s_is_level) (defScope s_is_level) .none kV_is_level dc_is_level pm_is_level an_is_level cd_is_level ct_is_level), sl_is_level⟩)
    (c_is_level : PySem.W.codeIn K cd_is_level "is_level" = true)
    (k_is_level : PySem.W.keepIn K (.ref f_is_level) = true)
    (a_size : PySem.W.nsIn K mainGlobals "size" = some (some (.ref f_size)))
    (l_size : K.lookup f_size = some ⟨oc_size, od_size, .func (PySem.W.fnOf "size" "size" (defArgs s_size) (defBody s_size) (defScope s_size) .none kV_size dc_size pm_size an_size cd_size ct_size), sl_size⟩)
    (c_size : PySem.W.codeIn K cd_size "size" = true)
    (k_size : PySem.W.keepIn K (.ref f_size) = true)
    (a_check_number : PySem.W.nsIn K mainGlobals "check_number" = some (some (.ref f_check_number)))
    (l_check_number : K.lookup f_check_number = some ⟨oc_check_number, od_check_number, .func (PySem.W.fnOf "check_number" "check_number" (defArgs s_check_number) (defBody s_check_number) (defScope s_check_number) .none kV_check_number dc_check_number pm_check_number an_check_number cd_check_number ct_check_number), sl_check_number⟩)
    (c_check_number : PySem.W.codeIn K cd_check_number "check_number" = true)
    (k_check_number : PySem.W.keepIn K (.ref f_check_number) = true)
    (a_check_cut : PySem.W.nsIn K mainGlobals "check_cut" = some (some (.ref f_check_cut)))
    (l_check_cut : K.lookup f_check_cut = some ⟨oc_check_cut, od_check_cut, .func (PySem.W.fnOf "check_cut" "check_cut" (defArgs s_check_cut) (defBody s_check_cut) (defScope s_check_cut) .none kV_check_cut dc_check_cut pm_check_cut an_check_cut cd_check_cut ct_check_cut), sl_check_cut⟩)
    (c_check_cut : PySem.W.codeIn K cd_check_cut "check_cut" = true)
    (k_check_cut : PySem.W.keepIn K (.ref f_check_cut) = true)
    (a_first_word : PySem.W.nsIn K mainGlobals "first_word" = some (some (.ref f_first_word)))
    (l_first_word : K.lookup f_first_word = some ⟨oc_first_word, od_first_word, .func (PySem.W.fnOf "first_word" "first_word" (defArgs s_first_word) (defBody s_first_word) (defScope s_first_word) .none kV_first_word dc_first_word pm_first_word an_first_word cd_first_word ct_first_word), sl_first_word⟩)
    (c_first_word : PySem.W.codeIn K cd_first_word "first_word" = true)
    (k_first_word : PySem.W.keepIn K (.ref f_first_word) = true)
    (a_inverse : PySem.W.nsIn K mainGlobals "inverse" = some (some (.ref f_inverse)))
    (l_inverse : K.lookup f_inverse = some ⟨oc_inverse, od_inverse, .func (PySem.W.fnOf "inverse" "inverse" (defArgs s_inverse) (defBody s_inverse) (defScope s_inverse) .none kV_inverse dc_inverse pm_inverse an_inverse cd_inverse ct_inverse), sl_inverse⟩)
    (c_inverse : PySem.W.codeIn K cd_inverse "inverse" = true)
    (k_inverse : PySem.W.keepIn K (.ref f_inverse) = true)
    (a_put_to : PySem.W.nsIn K mainGlobals "put_to" = some (some (.ref f_put_to)))
    (l_put_to : K.lookup f_put_to = some ⟨oc_put_to, od_put_to, .func (PySem.W.fnOf "put_to" "put_to" (defArgs s_put_to) (defBody s_put_to) (defScope s_put_to) .none kV_put_to dc_put_to pm_put_to an_put_to cd_put_to ct_put_to), sl_put_to⟩)
    (c_put_to : PySem.W.codeIn K cd_put_to "put_to" = true)
    (k_put_to : PySem.W.keepIn K (.ref f_put_to) = true)
    (a_product : PySem.W.nsIn K mainGlobals "product" = some (some (.ref f_product)))
    (l_product : K.lookup f_product = some ⟨oc_product, od_product, .func (PySem.W.fnOf "product" "product" (defArgs s_product) (defBody s_product) (defScope s_product) .none kV_product dc_product pm_product an_product cd_product ct_product), sl_product⟩)
    (c_product : PySem.W.codeIn K cd_product "product" = true)
    (k_product : PySem.W.keepIn K (.ref f_product) = true)
    (a_cut_of : PySem.W.nsIn K mainGlobals "cut_of" = some (some (.ref f_cut_of)))
    (l_cut_of : K.lookup f_cut_of = some ⟨oc_cut_of, od_cut_of, .func (PySem.W.fnOf "cut_of" "cut_of" (defArgs s_cut_of) (defBody s_cut_of) (defScope s_cut_of) .none kV_cut_of dc_cut_of pm_cut_of an_cut_of cd_cut_of ct_cut_of), sl_cut_of⟩)
    (c_cut_of : PySem.W.codeIn K cd_cut_of "cut_of" = true)
    (k_cut_of : PySem.W.keepIn K (.ref f_cut_of) = true)
    (a_RawBag_init : PySem.W.findIn K (.ref C_RawBag) "__init__" = some (some (.ref f_RawBag_init)))
    (i_RawBag_init : PySem.W.isFn K (.ref f_RawBag_init) = true)
    (l_RawBag_init : K.lookup f_RawBag_init = some ⟨oc_RawBag_init, od_RawBag_init, .func (PySem.W.fnOf "__init__" "RawBag.__init__" (defArgs s_RawBag_init) (defBody s_RawBag_init) (defScope s_RawBag_init) .none kV_RawBag_init dc_RawBag_init pm_RawBag_init an_RawBag_init cd_RawBag_init ct_RawBag_init), sl_RawBag_init⟩)
    (c_RawBag_init : PySem.W.codeIn K cd_RawBag_init "RawBag.__init__" = true)
    (k_RawBag_init : PySem.W.keepIn K (.ref f_RawBag_init) = true)
    (a_raw : PySem.W.nsIn K mainGlobals "raw" = some (some (.ref f_raw)))
    (l_raw : K.lookup f_raw = some ⟨oc_raw, od_raw, .func (PySem.W.fnOf "raw" "raw" (defArgs s_raw) (defBody s_raw) (defScope s_raw) .none kV_raw dc_raw pm_raw an_raw cd_raw ct_raw), sl_raw⟩)
    (c_raw : PySem.W.codeIn K cd_raw "raw" = true)
    (k_raw : PySem.W.keepIn K (.ref f_raw) = true)
    (a_cut : PySem.W.nsIn K mainGlobals "cut" = some (some (.ref f_cut)))
    (l_cut : K.lookup f_cut = some ⟨oc_cut, od_cut, .func (PySem.W.fnOf "cut" "cut" (defArgs s_cut) (defBody s_cut) (defScope s_cut) .none kV_cut dc_cut pm_cut an_cut cd_cut ct_cut), sl_cut⟩)
    (c_cut : PySem.W.codeIn K cd_cut "cut" = true)
    (k_cut : PySem.W.keepIn K (.ref f_cut) = true)
    (a_crosses : PySem.W.nsIn K mainGlobals "crosses" = some (some (.ref f_crosses)))
    (l_crosses : K.lookup f_crosses = some ⟨oc_crosses, od_crosses, .func (PySem.W.fnOf "crosses" "crosses" (defArgs s_crosses) (defBody s_crosses) (defScope s_crosses) .none kV_crosses dc_crosses pm_crosses an_crosses cd_crosses ct_crosses), sl_crosses⟩)
    (c_crosses : PySem.W.codeIn K cd_crosses "crosses" = true)
    (k_crosses : PySem.W.keepIn K (.ref f_crosses) = true)
    (a_crossing : PySem.W.nsIn K mainGlobals "crossing" = some (some (.ref f_crossing)))
    (l_crossing : K.lookup f_crossing = some ⟨oc_crossing, od_crossing, .func (PySem.W.fnOf "crossing" "crossing" (defArgs s_crossing) (defBody s_crossing) (defScope s_crossing) .none kV_crossing dc_crossing pm_crossing an_crossing cd_crossing ct_crossing), sl_crossing⟩)
    (c_crossing : PySem.W.codeIn K cd_crossing "crossing" = true)
    (k_crossing : PySem.W.keepIn K (.ref f_crossing) = true)
    (a_is_crossing : PySem.W.nsIn K mainGlobals "is_crossing" = some (some (.ref f_is_crossing)))
    (l_is_crossing : K.lookup f_is_crossing = some ⟨oc_is_crossing, od_is_crossing, .func (PySem.W.fnOf "is_crossing" "is_crossing" (defArgs s_is_crossing) (defBody s_is_crossing) (defScope s_is_crossing) .none kV_is_crossing dc_is_crossing pm_is_crossing an_is_crossing cd_is_crossing ct_is_crossing), sl_is_crossing⟩)
    (c_is_crossing : PySem.W.codeIn K cd_is_crossing "is_crossing" = true)
    (k_is_crossing : PySem.W.keepIn K (.ref f_is_crossing) = true)
    (a_law : PySem.W.nsIn K mainGlobals "law" = some (some (.ref f_law)))
    (l_law : K.lookup f_law = some ⟨oc_law, od_law, .func (PySem.W.fnOf "law" "law" (defArgs s_law) (defBody s_law) (defScope s_law) .none kV_law dc_law pm_law an_law cd_law ct_law), sl_law⟩)
    (c_law : PySem.W.codeIn K cd_law "law" = true)
    (k_law : PySem.W.keepIn K (.ref f_law) = true)
    (cg : PySem.W.specialIn K (.builtin "object.__class__") "__get__" = some (some (.builtin "getset_descriptor.__get__")))
    (ct : PySem.W.takesIn K (.builtin "object.__class__") = some true)
    (pgBag : PySem.W.plainGet K C_Bag Str.empty = true)
    (hdBag : PySem.W.hasDictIn K C_Bag = true)
    (poBag : PySem.W.plainOver K C_Bag = true)
    (saBag : PySem.W.findIn K (.ref C_Bag) "__setattr__" = some (some (.builtin "object.__setattr__")))
    (mkBag : PySem.W.makesIn K C_Bag = true)
    (kBBag : PySem.W.keepIn K (.ref C_Bag) = true)
    (n1Bag : PySem.W.findIn K (.ref C_Bag) "clock" = some none)
    (n2Bag : PySem.W.findIn K (.ref C_Bag) "sparse" = some none)
    (n3Bag : PySem.W.findIn K (.ref C_Bag) "kept" = some none)
    (n4Bag : PySem.W.findIn K (.ref C_Bag) "words" = some none)
    (ccBag : PySem.W.findIn K (.ref C_Bag) "__class__" = some (some (.builtin "object.__class__")))
    (coBag : PySem.W.mroIn K C_Bag (.type "object") = some true)
    (icBag : PySem.W.isClsIn K C_Bag = true)
    (tcBag : PySem.W.typeIn K (.ref C_Bag) = some (.type "type"))
    (neBag : PySem.W.findIn K (.ref C_Bag) "__ne__" = some (some (.builtin "object.__ne__")))
    (eqBag : PySem.W.findIn K (.ref C_Bag) "__eq__" = some (some (.ref f_Bag_eq)))
    (kpBag : PySem.W.findIn K (.ref C_Bag) "keep" = some (some (.ref f_Bag_keep)))
    (u_NoneType_Bag : PySem.W.subIn K (.type "NoneType") (.ref C_Bag) = some false)
    (u_bool_Bag : PySem.W.subIn K (.type "bool") (.ref C_Bag) = some false)
    (u_int_Bag : PySem.W.subIn K (.type "int") (.ref C_Bag) = some false)
    (u_str_Bag : PySem.W.subIn K (.type "str") (.ref C_Bag) = some false)
    (u_list_Bag : PySem.W.subIn K (.type "list") (.ref C_Bag) = some false)
    (u_tuple_Bag : PySem.W.subIn K (.type "tuple") (.ref C_Bag) = some false)
    (u_dict_Bag : PySem.W.subIn K (.type "dict") (.ref C_Bag) = some false)
    (pgRawBag : PySem.W.plainGet K C_RawBag Str.empty = true)
    (hdRawBag : PySem.W.hasDictIn K C_RawBag = true)
    (poRawBag : PySem.W.plainOver K C_RawBag = true)
    (saRawBag : PySem.W.findIn K (.ref C_RawBag) "__setattr__" = some (some (.builtin "object.__setattr__")))
    (mkRawBag : PySem.W.makesIn K C_RawBag = true)
    (kBRawBag : PySem.W.keepIn K (.ref C_RawBag) = true)
    (n1RawBag : PySem.W.findIn K (.ref C_RawBag) "clock" = some none)
    (n2RawBag : PySem.W.findIn K (.ref C_RawBag) "sparse" = some none)
    (n3RawBag : PySem.W.findIn K (.ref C_RawBag) "kept" = some none)
    (n4RawBag : PySem.W.findIn K (.ref C_RawBag) "words" = some none)
    (ccRawBag : PySem.W.findIn K (.ref C_RawBag) "__class__" = some (some (.builtin "object.__class__")))
    (coRawBag : PySem.W.mroIn K C_RawBag (.type "object") = some true)
    (icRawBag : PySem.W.isClsIn K C_RawBag = true)
    (tcRawBag : PySem.W.typeIn K (.ref C_RawBag) = some (.type "type"))
    (neRawBag : PySem.W.findIn K (.ref C_RawBag) "__ne__" = some (some (.builtin "object.__ne__")))
    (eqRawBag : PySem.W.findIn K (.ref C_RawBag) "__eq__" = some (some (.ref f_Bag_eq)))
    (kpRawBag : PySem.W.findIn K (.ref C_RawBag) "keep" = some (some (.ref f_Bag_keep)))
    (u_NoneType_RawBag : PySem.W.subIn K (.type "NoneType") (.ref C_RawBag) = some false)
    (u_bool_RawBag : PySem.W.subIn K (.type "bool") (.ref C_RawBag) = some false)
    (u_int_RawBag : PySem.W.subIn K (.type "int") (.ref C_RawBag) = some false)
    (u_str_RawBag : PySem.W.subIn K (.type "str") (.ref C_RawBag) = some false)
    (u_list_RawBag : PySem.W.subIn K (.type "list") (.ref C_RawBag) = some false)
    (u_tuple_RawBag : PySem.W.subIn K (.type "tuple") (.ref C_RawBag) = some false)
    (u_dict_RawBag : PySem.W.subIn K (.type "dict") (.ref C_RawBag) = some false)
    (sRB : PySem.W.subIn K (.ref C_RawBag) (.ref C_Bag) = some true)
    (sBR : PySem.W.subIn K (.ref C_Bag) (.ref C_RawBag) = some false)
    (dRB : C_RawBag ≠ C_Bag)
    (b_isinstance : PySem.W.nsIn K mainGlobals "isinstance" = some none)
    (b_int : PySem.W.nsIn K mainGlobals "int" = some none)
    (b_bool : PySem.W.nsIn K mainGlobals "bool" = some none)
    (b_str : PySem.W.nsIn K mainGlobals "str" = some none)
    (b_dict : PySem.W.nsIn K mainGlobals "dict" = some none)
    (b_list : PySem.W.nsIn K mainGlobals "list" = some none)
    (b_tuple : PySem.W.nsIn K mainGlobals "tuple" = some none)
    (b_len : PySem.W.nsIn K mainGlobals "len" = some none)
    (b_abs : PySem.W.nsIn K mainGlobals "abs" = some none)
    (b_all : PySem.W.nsIn K mainGlobals "all" = some none)
    (b_any : PySem.W.nsIn K mainGlobals "any" = some none)
    (b_max : PySem.W.nsIn K mainGlobals "max" = some none)
    (b_min : PySem.W.nsIn K mainGlobals "min" = some none)
    (b_range : PySem.W.nsIn K mainGlobals "range" = some none)
    (b_sorted : PySem.W.nsIn K mainGlobals "sorted" = some none)
    (b_sum : PySem.W.nsIn K mainGlobals "sum" = some none)
    (b_zip : PySem.W.nsIn K mainGlobals "zip" = some none)
    (b_enumerate : PySem.W.nsIn K mainGlobals "enumerate" = some none)
    (b_repr : PySem.W.nsIn K mainGlobals "repr" = some none)
    (b_set : PySem.W.nsIn K mainGlobals "set" = some none)
    (g1 : PySem.W.nsIn K mainGlobals "LETTERS" = some (some (.str "xyz" t1)))
    (g2 : PySem.W.nsIn K mainGlobals "MOST_LETTERS" = some (some (.int 12 t2)))
    (g3 : PySem.W.nsIn K mainGlobals "MOST_WORDS" = some (some (.int 300 t3)))
    (g4 : PySem.W.nsIn K mainGlobals "CLOCKS" = some (some (.ref aC)))
    (l4 : K.lookup aC = some ⟨.type "tuple", od4, .seq #[.int 2 t4, .int 3 t5, .int 5 t6, .int 7 t7] n4', sl4⟩)
    : ∃ fd : FuncData, (∀ (s : Shared) (v : Value), BindsTo s fd ⟨[v], []⟩ [("_law_script", v)]) ∧ ∀ base : Heap, K.In base → base.Ns mainGlobals mg → FnOk l.prog w K mg base CX0 10 fa fd ["_law_script"] (sp_law K) := by
  have e := hfa.symm.trans (PySem.W.mg_of X G a_law)
  cases e
  have hplBag : ∀ t ∈ (["NoneType", "bool", "int", "str", "list", "tuple", "dict"] : List String), PySem.W.subIn K (.type t) (.ref C_Bag) = some false := by
    intro t ht
    simp only [List.mem_cons, List.not_mem_nil, or_false] at ht
    rcases ht with rfl | rfl | rfl | rfl | rfl | rfl | rfl
    · exact u_NoneType_Bag
    · exact u_bool_Bag
    · exact u_int_Bag
    · exact u_str_Bag
    · exact u_list_Bag
    · exact u_tuple_Bag
    · exact u_dict_Bag
  have hplRawBag : ∀ t ∈ (["NoneType", "bool", "int", "str", "list", "tuple", "dict"] : List String), PySem.W.subIn K (.type t) (.ref C_RawBag) = some false := by
    intro t ht
    simp only [List.mem_cons, List.not_mem_nil, or_false] at ht
    rcases ht with rfl | rfl | rfl | rfl | rfl | rfl | rfl
    · exact u_NoneType_RawBag
    · exact u_bool_RawBag
    · exact u_int_RawBag
    · exact u_str_RawBag
    · exact u_list_RawBag
    · exact u_tuple_RawBag
    · exact u_dict_RawBag
  have T : Txt K mg C_Bag (fun C => C = C_Bag ∨ C = C_RawBag) := {
    b_isinstance := PySem.W.mg_none_of X G b_isinstance
    b_int := PySem.W.mg_none_of X G b_int
    b_bool := PySem.W.mg_none_of X G b_bool
    b_str := PySem.W.mg_none_of X G b_str
    b_dict := PySem.W.mg_none_of X G b_dict
    b_list := PySem.W.mg_none_of X G b_list
    b_tuple := PySem.W.mg_none_of X G b_tuple
    b_len := PySem.W.mg_none_of X G b_len
    b_abs := PySem.W.mg_none_of X G b_abs
    b_all := PySem.W.mg_none_of X G b_all
    b_any := PySem.W.mg_none_of X G b_any
    b_max := PySem.W.mg_none_of X G b_max
    b_min := PySem.W.mg_none_of X G b_min
    b_range := PySem.W.mg_none_of X G b_range
    b_sorted := PySem.W.mg_none_of X G b_sorted
    b_sum := PySem.W.mg_none_of X G b_sum
    b_zip := PySem.W.mg_none_of X G b_zip
    b_enumerate := PySem.W.mg_none_of X G b_enumerate
    b_repr := PySem.W.mg_none_of X G b_repr
    b_set := PySem.W.mg_none_of X G b_set
    g_LETTERS := ⟨_, PySem.W.mg_of X G g1⟩
    g_MOST_LETTERS := ⟨_, PySem.W.mg_of X G g2⟩
    g_MOST_WORDS := ⟨_, PySem.W.mg_of X G g3⟩
    g_CLOCKS := ⟨aC, PySem.W.mg_of X G g4, .inr ⟨_, _, _, l4, rfl, rfl, Nat.le_of_ble_eq_true rfl, .cons ⟨_, rfl⟩ (.cons ⟨_, rfl⟩ (.cons ⟨_, rfl⟩ (.cons ⟨_, rfl⟩ .nil)))⟩⟩
    c_Bag := PySem.W.mg_of X G nsBag
    cls := fun C e => e.elim (fun e => by rw [e]; exact ⟨pgBag, hdBag, poBag, saBag⟩) (fun e => by rw [e]; exact ⟨pgRawBag, hdRawBag, poRawBag, saRawBag⟩)
    n_clock := fun C e => e.elim (fun e => by rw [e]; exact n1Bag) (fun e => by rw [e]; exact n1RawBag)
    n_sparse := fun C e => e.elim (fun e => by rw [e]; exact n2Bag) (fun e => by rw [e]; exact n2RawBag)
    n_kept := fun C e => e.elim (fun e => by rw [e]; exact n3Bag) (fun e => by rw [e]; exact n3RawBag)
    n_words := fun C e => e.elim (fun e => by rw [e]; exact n4Bag) (fun e => by rw [e]; exact n4RawBag)
    c_class := fun C e => e.elim (fun e => by rw [e]; exact ccBag) (fun e => by rw [e]; exact ccRawBag)
    c_get := cg
    c_takes := ct
    c_obj := fun C e => e.elim (fun e => by rw [e]; exact coBag) (fun e => by rw [e]; exact coRawBag)
    c_isB := fun C e => e.elim (fun e => by rw [e]; exact kit_self) (fun e => by rw [e]; exact kit_sub icBag tcBag sRB)
    c_base := .inl rfl
    c_pl := fun C e t ht => e.elim (fun e => by rw [e]; exact first_not (hplBag t ht)) (fun e => by rw [e]; exact first_not (hplRawBag t ht))
    c_two := fun C D e1 e2 => by
      rcases e1 with rfl | rfl <;> rcases e2 with rfl | rfl
      · exact .inl first_self
      · exact .inr ⟨dRB, sRB⟩
      · exact .inl (first_not sBR)
      · exact .inl first_self
    c_nb := fun t ht => kit_not icBag tcBag (hplBag t ht) }
  have F_ahead_key := fun_mk (st := s_ahead_key) l_ahead_key c_ahead_key k_ahead_key
  have B_ahead_key := F_ahead_key.binds (ps := ["word"]) fun _ _ _ _ _ _ us hl => match us, hl with | [_], _ => rfl
  have F_law_hand := fun_mk (st := s_law_hand) l_law_hand c_law_hand k_law_hand
  have B_law_hand := F_law_hand.binds (ps := ["_law_script"]) fun _ _ _ _ _ _ us hl => match us, hl with | [_], _ => rfl
  have F_law_draw := fun_mk (st := s_law_draw) l_law_draw c_law_draw k_law_draw
  have B_law_draw := F_law_draw.binds (ps := ["_law_hand_here", "_law_many"]) fun _ _ _ _ _ _ us hl => match us, hl with | [_, _], _ => rfl
  have F_law_clock := fun_mk (st := s_law_clock) l_law_clock c_law_clock k_law_clock
  have B_law_clock := F_law_clock.binds (ps := ["_law_hand_here"]) fun _ _ _ _ _ _ us hl => match us, hl with | [_], _ => rfl
  have F_law_some := fun_mk (st := s_law_some) l_law_some c_law_some k_law_some
  have B_law_some := F_law_some.binds (ps := ["_law_hand_here", "_law_things"]) fun _ _ _ _ _ _ us hl => match us, hl with | [_, _], _ => rfl
  have F_law_flag := fun_mk (st := s_law_flag) l_law_flag c_law_flag k_law_flag
  have B_law_flag := F_law_flag.binds (ps := ["_law_told", "_law_due"]) fun _ _ _ _ _ _ us hl => match us, hl with | [_, _], _ => rfl
  have F_law_is_word := fun_mk (st := s_law_is_word) l_law_is_word c_law_is_word k_law_is_word
  have B_law_is_word := F_law_is_word.binds (ps := ["_law_thing"]) fun _ _ _ _ _ _ us hl => match us, hl with | [_], _ => rfl
  have F_law_do_cross := fun_mk (st := s_law_do_cross) l_law_do_cross c_law_do_cross k_law_do_cross
  have B_law_do_cross := F_law_do_cross.binds (ps := ["_law_clock_here", "_law_bag", "_law_letters", "_law_thing"]) fun _ _ _ _ _ _ us hl => match us, hl with | [_, _, _, _], _ => rfl
  have F_law_bent := fun_mk (st := s_law_bent) l_law_bent c_law_bent k_law_bent
  have B_law_bent := F_law_bent.binds (ps := ["_law_hand_here", "_law_words", "_law_length"]) fun _ _ _ _ _ _ us hl => match us, hl with | [_, _, _], _ => rfl
  have F_is_integer := fun_mk (st := s_is_integer) l_is_integer c_is_integer k_is_integer
  have B_is_integer := F_is_integer.binds (ps := ["thing"]) fun _ _ _ _ _ _ us hl => match us, hl with | [_], _ => rfl
  have F_is_clock := fun_mk (st := s_is_clock) l_is_clock c_is_clock k_is_clock
  have B_is_clock := F_is_clock.binds (ps := ["thing"]) fun _ _ _ _ _ _ us hl => match us, hl with | [_], _ => rfl
  have F_is_word := fun_mk (st := s_is_word) l_is_word c_is_word k_is_word
  have B_is_word := F_is_word.binds (ps := ["thing"]) fun _ _ _ _ _ _ us hl => match us, hl with | [_], _ => rfl
  have F_is_short_word := fun_mk (st := s_is_short_word) l_is_short_word c_is_short_word k_is_short_word
  have B_is_short_word := F_is_short_word.binds (ps := ["thing"]) fun _ _ _ _ _ _ us hl => match us, hl with | [_], _ => rfl
  have F_is_within := fun_mk (st := s_is_within) l_is_within c_is_within k_is_within
  have B_is_within := F_is_within.binds (ps := ["thing", "least", "most"]) fun _ _ _ _ _ _ us hl => match us, hl with | [_, _, _], _ => rfl
  have F_are_words := fun_mk (st := s_are_words) l_are_words c_are_words k_are_words
  have B_are_words := F_are_words.binds (ps := ["clock", "thing"]) fun _ _ _ _ _ _ us hl => match us, hl with | [_, _], _ => rfl
  have F_words_in_order := fun_mk (st := s_words_in_order) l_words_in_order c_words_in_order k_words_in_order
  have B_words_in_order := F_words_in_order.binds (ps := ["sparse"]) fun _ _ _ _ _ _ us hl => match us, hl with | [_], _ => rfl
  have F_Bag_keep := fun_mk (st := s_Bag_keep) l_Bag_keep c_Bag_keep k_Bag_keep
  have B_Bag_keep := F_Bag_keep.binds (ps := ["self", "clock", "sparse"]) fun _ _ _ _ _ _ us hl => match us, hl with | [_, _, _], _ => rfl
  have F_Bag_init := fun_mk (st := s_Bag_init) l_Bag_init c_Bag_init k_Bag_init
  have B_Bag_init := F_Bag_init.binds (ps := ["self", "clock", "words"]) fun _ _ _ _ _ _ us hl => match us, hl with | [_, _, _], _ => rfl
  have F_is_level := fun_mk (st := s_is_level) l_is_level c_is_level k_is_level
  have B_is_level := F_is_level.binds (ps := ["sparse"]) fun _ _ _ _ _ _ us hl => match us, hl with | [_], _ => rfl
  have F_size := fun_mk (st := s_size) l_size c_size k_size
  have B_size := F_size.binds (ps := ["sparse"]) fun _ _ _ _ _ _ us hl => match us, hl with | [_], _ => rfl
  have F_check_number := fun_mk (st := s_check_number) l_check_number c_check_number k_check_number
  have B_check_number := F_check_number.binds (ps := ["thing", "least", "most"]) fun _ _ _ _ _ _ us hl => match us, hl with | [_, _, _], _ => rfl
  have F_check_cut := fun_mk (st := s_check_cut) l_check_cut c_check_cut k_check_cut
  have B_check_cut := F_check_cut.binds (ps := ["bag", "number"]) fun _ _ _ _ _ _ us hl => match us, hl with | [_, _], _ => rfl
  have F_first_word := fun_mk (st := s_first_word) l_first_word c_first_word k_first_word
  have B_first_word := F_first_word.binds (ps := ["sparse"]) fun _ _ _ _ _ _ us hl => match us, hl with | [_], _ => rfl
  have F_inverse := fun_mk (st := s_inverse) l_inverse c_inverse k_inverse
  have B_inverse := F_inverse.binds (ps := ["clock", "number"]) fun _ _ _ _ _ _ us hl => match us, hl with | [_, _], _ => rfl
  have F_put_to := fun_mk (st := s_put_to) l_put_to c_put_to k_put_to
  have B_put_to := F_put_to.binds (ps := ["clock", "sparse", "word", "number"]) fun _ _ _ _ _ _ us hl => match us, hl with | [_, _, _, _], _ => rfl
  have F_product := fun_mk (st := s_product) l_product c_product k_product
  have B_product := F_product.binds (ps := ["clock", "one", "other"]) fun _ _ _ _ _ _ us hl => match us, hl with | [_, _, _], _ => rfl
  have F_cut_of := fun_mk (st := s_cut_of) l_cut_of c_cut_of k_cut_of
  have B_cut_of := F_cut_of.binds (ps := ["clock", "sparse", "letters"]) fun _ _ _ _ _ _ us hl => match us, hl with | [_, _, _], _ => rfl
  have F_RawBag_init := fun_mk (st := s_RawBag_init) l_RawBag_init c_RawBag_init k_RawBag_init
  have B_RawBag_init := F_RawBag_init.binds (ps := ["self", "clock", "sparse"]) fun _ _ _ _ _ _ us hl => match us, hl with | [_, _, _], _ => rfl
  have F_raw := fun_mk (st := s_raw) l_raw c_raw k_raw
  have B_raw := F_raw.binds (ps := ["clock", "sparse"]) fun _ _ _ _ _ _ us hl => match us, hl with | [_, _], _ => rfl
  have F_cut := fun_mk (st := s_cut) l_cut c_cut k_cut
  have B_cut := F_cut.binds (ps := ["bag", "number"]) fun _ _ _ _ _ _ us hl => match us, hl with | [_, _], _ => rfl
  have F_crosses := fun_mk (st := s_crosses) l_crosses c_crosses k_crosses
  have B_crosses := F_crosses.binds (ps := ["clock", "sparse", "words"]) fun _ _ _ _ _ _ us hl => match us, hl with | [_, _, _], _ => rfl
  have F_crossing := fun_mk (st := s_crossing) l_crossing c_crossing k_crossing
  have B_crossing := F_crossing.binds (ps := ["bag", "number"]) fun _ _ _ _ _ _ us hl => match us, hl with | [_, _], _ => rfl
  have F_is_crossing := fun_mk (st := s_is_crossing) l_is_crossing c_is_crossing k_is_crossing
  have B_is_crossing := F_is_crossing.binds (ps := ["bag", "number", "thing"]) fun _ _ _ _ _ _ us hl => match us, hl with | [_, _, _], _ => rfl
  have F_law := fun_mk (st := s_law) l_law c_law k_law
  have B_law := F_law.binds (ps := ["_law_script"]) fun _ _ _ _ _ _ us hl => match us, hl with | [_], _ => rfl
  refine ⟨PySem.W.fnOf "law" "law" (defArgs s_law) (defBody s_law) (defScope s_law) .none kV_law dc_law pm_law an_law cd_law ct_law, fun s v => .of_eq rfl, fun base _ _ => ?_⟩
  have O_law_hand := ok_law_hand (P := l.prog) (w := w) (base := base)  F_law_hand T 
  have D_law_hand : DefOk l.prog w K mg base CX0 1 "_law_hand" ["_law_script"] _ := ⟨_, _, PySem.W.mg_of X G a_law_hand, k_law_hand, B_law_hand, O_law_hand⟩
  have O_law_draw := ok_law_draw (P := l.prog) (w := w) (base := base)  F_law_draw T 
  have D_law_draw : DefOk l.prog w K mg base CX0 1 "_law_draw" ["_law_hand_here", "_law_many"] _ := ⟨_, _, PySem.W.mg_of X G a_law_draw, k_law_draw, B_law_draw, O_law_draw⟩
  have O_law_clock := ok_law_clock (P := l.prog) (w := w) (base := base)  F_law_clock T D_law_draw
  have D_law_clock : DefOk l.prog w K mg base CX0 2 "_law_clock" ["_law_hand_here"] _ := ⟨_, _, PySem.W.mg_of X G a_law_clock, k_law_clock, B_law_clock, O_law_clock⟩
  have O_law_some := ok_law_some (P := l.prog) (w := w) (base := base)  F_law_some T D_law_draw
  have D_law_some : DefOk l.prog w K mg base CX0 2 "_law_some" ["_law_hand_here", "_law_things"] _ := ⟨_, _, PySem.W.mg_of X G a_law_some, k_law_some, B_law_some, O_law_some⟩
  have O_law_flag := ok_law_flag (P := l.prog) (w := w) (base := base)  F_law_flag T 
  have D_law_flag : DefOk l.prog w K mg base CX0 1 "_law_flag" ["_law_told", "_law_due"] _ := ⟨_, _, PySem.W.mg_of X G a_law_flag, k_law_flag, B_law_flag, O_law_flag⟩
  have O_law_is_word := ok_law_is_word (P := l.prog) (w := w) (base := base)  F_law_is_word T 
  have D_law_is_word : DefOk l.prog w K mg base CX0 1 "_law_is_word" ["_law_thing"] _ := ⟨_, _, PySem.W.mg_of X G a_law_is_word, k_law_is_word, B_law_is_word, O_law_is_word⟩
  have O_law_do_cross := ok_law_do_cross (P := l.prog) (w := w) (base := base)  F_law_do_cross T D_law_is_word
  have D_law_do_cross : DefOk l.prog w K mg base CX0 2 "_law_do_cross" ["_law_clock_here", "_law_bag", "_law_letters", "_law_thing"] _ := ⟨_, _, PySem.W.mg_of X G a_law_do_cross, k_law_do_cross, B_law_do_cross, O_law_do_cross⟩
  have O_law_bent := ok_law_bent (P := l.prog) (w := w) (base := base)  F_law_bent T D_law_draw
  have D_law_bent : DefOk l.prog w K mg base CX0 2 "_law_bent" ["_law_hand_here", "_law_words", "_law_length"] _ := ⟨_, _, PySem.W.mg_of X G a_law_bent, k_law_bent, B_law_bent, O_law_bent⟩
  have O_is_integer := ok_is_integer (P := l.prog) (w := w) (base := base)  F_is_integer T 
  have D_is_integer : DefOk l.prog w K mg base CX0 1 "is_integer" ["thing"] _ := ⟨_, _, PySem.W.mg_of X G a_is_integer, k_is_integer, B_is_integer, O_is_integer⟩
  have O_is_clock := ok_is_clock (P := l.prog) (w := w) (base := base)  F_is_clock T D_is_integer
  have D_is_clock : DefOk l.prog w K mg base CX0 2 "is_clock" ["thing"] _ := ⟨_, _, PySem.W.mg_of X G a_is_clock, k_is_clock, B_is_clock, O_is_clock⟩
  have O_is_word := ok_is_word (P := l.prog) (w := w) (base := base)  F_is_word T 
  have D_is_word : DefOk l.prog w K mg base CX0 1 "is_word" ["thing"] _ := ⟨_, _, PySem.W.mg_of X G a_is_word, k_is_word, B_is_word, O_is_word⟩
  have O_is_short_word := ok_is_short_word (P := l.prog) (w := w) (base := base)  F_is_short_word T D_is_word
  have D_is_short_word : DefOk l.prog w K mg base CX0 2 "is_short_word" ["thing"] _ := ⟨_, _, PySem.W.mg_of X G a_is_short_word, k_is_short_word, B_is_short_word, O_is_short_word⟩
  have O_is_within := ok_is_within (P := l.prog) (w := w) (base := base)  F_is_within T D_is_integer
  have D_is_within : DefOk l.prog w K mg base CX0 2 "is_within" ["thing", "least", "most"] _ := ⟨_, _, PySem.W.mg_of X G a_is_within, k_is_within, B_is_within, O_is_within⟩
  have O_are_words := ok_are_words (P := l.prog) (w := w) (base := base)  F_are_words T D_is_short_word D_is_within
  have D_are_words : DefOk l.prog w K mg base CX0 3 "are_words" ["clock", "thing"] _ := ⟨_, _, PySem.W.mg_of X G a_are_words, k_are_words, B_are_words, O_are_words⟩
  have KF : KeyFn K mg := ⟨_, _, F_ahead_key, PySem.W.mg_of X G a_ahead_key, B_ahead_key⟩
  have O_words_in_order := ok_words_in_order (P := l.prog) (w := w) (base := base)  F_words_in_order T KF
  have D_words_in_order : DefOk l.prog w K mg base CX0 4 "words_in_order" ["sparse"] _ := ⟨_, _, PySem.W.mg_of X G a_words_in_order, k_words_in_order, B_words_in_order, O_words_in_order⟩
  have O_Bag_keep := ok_keep (P := l.prog) (w := w) (base := base)  F_Bag_keep T D_words_in_order
  have M_keep : MtOk l.prog w K mg base CX0 5 C_Bag "keep" ["self", "clock", "sparse"] _ := ⟨_, _, ⟨pgBag, hdBag, poBag, saBag⟩, ⟨kpBag, i_Bag_keep, k_Bag_keep⟩, B_Bag_keep, O_Bag_keep⟩
  have M_keepRawBag : MtOk l.prog w K mg base CX0 5 C_RawBag "keep" ["self", "clock", "sparse"] _ := ⟨_, _, ⟨pgRawBag, hdRawBag, poRawBag, saRawBag⟩, ⟨kpRawBag, i_Bag_keep, k_Bag_keep⟩, B_Bag_keep, O_Bag_keep⟩
  have O_Bag_init := ok_bag_init (P := l.prog) (w := w) (base := base)  F_Bag_init T D_is_clock D_are_words M_keep
  have K_Bag : MkOk l.prog w K mg base CX0 6 "Bag" C_Bag ["self", "clock", "words"] _ := ⟨_, _, ⟨mkBag, a_Bag_init, i_Bag_init, kBBag⟩, PySem.W.mg_of X G nsBag, B_Bag_init, O_Bag_init⟩
  have O_is_level := ok_is_level (P := l.prog) (w := w) (base := base)  F_is_level T 
  have D_is_level : DefOk l.prog w K mg base CX0 1 "is_level" ["sparse"] _ := ⟨_, _, PySem.W.mg_of X G a_is_level, k_is_level, B_is_level, O_is_level⟩
  have O_size := ok_size (P := l.prog) (w := w) (base := base)  F_size T 
  have D_size : DefOk l.prog w K mg base CX0 1 "size" ["sparse"] _ := ⟨_, _, PySem.W.mg_of X G a_size, k_size, B_size, O_size⟩
  have O_check_number := ok_check_number (P := l.prog) (w := w) (base := base)  F_check_number T D_is_within
  have D_check_number : DefOk l.prog w K mg base CX0 3 "check_number" ["thing", "least", "most"] _ := ⟨_, _, PySem.W.mg_of X G a_check_number, k_check_number, B_check_number, O_check_number⟩
  have O_check_cut := ok_check_cut (P := l.prog) (w := w) (base := base)  F_check_cut T D_is_level D_size D_check_number
  have D_check_cut : DefOk l.prog w K mg base CX0 4 "check_cut" ["bag", "number"] _ := ⟨_, _, PySem.W.mg_of X G a_check_cut, k_check_cut, B_check_cut, O_check_cut⟩
  have O_first_word := ok_first_word (P := l.prog) (w := w) (base := base)  F_first_word T KF
  have D_first_word : DefOk l.prog w K mg base CX0 4 "first_word" ["sparse"] _ := ⟨_, _, PySem.W.mg_of X G a_first_word, k_first_word, B_first_word, O_first_word⟩
  have O_inverse := ok_inverse (P := l.prog) (w := w) (base := base)  F_inverse T 
  have D_inverse : DefOk l.prog w K mg base CX0 1 "inverse" ["clock", "number"] _ := ⟨_, _, PySem.W.mg_of X G a_inverse, k_inverse, B_inverse, O_inverse⟩
  have O_put_to := ok_put_to (P := l.prog) (w := w) (base := base)  F_put_to T 
  have D_put_to : DefOk l.prog w K mg base CX0 1 "put_to" ["clock", "sparse", "word", "number"] _ := ⟨_, _, PySem.W.mg_of X G a_put_to, k_put_to, B_put_to, O_put_to⟩
  have O_product := ok_product (P := l.prog) (w := w) (base := base)  F_product T D_put_to
  have D_product : DefOk l.prog w K mg base CX0 2 "product" ["clock", "one", "other"] _ := ⟨_, _, PySem.W.mg_of X G a_product, k_product, B_product, O_product⟩
  have O_cut_of := ok_cut_of (P := l.prog) (w := w) (base := base)  F_cut_of T D_first_word D_inverse D_product
  have D_cut_of : DefOk l.prog w K mg base CX0 5 "cut_of" ["clock", "sparse", "letters"] _ := ⟨_, _, PySem.W.mg_of X G a_cut_of, k_cut_of, B_cut_of, O_cut_of⟩
  have O_RawBag_init := ok_raw_init (P := l.prog) (w := w) (base := base)  F_RawBag_init T (.inr rfl) M_keepRawBag
  have K_RawBag : MkOk l.prog w K mg base CX0 6 "RawBag" C_RawBag ["self", "clock", "sparse"] _ := ⟨_, _, ⟨mkRawBag, a_RawBag_init, i_RawBag_init, kBRawBag⟩, PySem.W.mg_of X G nsRawBag, B_RawBag_init, O_RawBag_init⟩
  have O_raw := ok_raw (P := l.prog) (w := w) (base := base) (C_RawBag := C_RawBag) F_raw T K_RawBag
  have D_raw : DefOk l.prog w K mg base CX0 8 "raw" ["clock", "sparse"] _ := ⟨_, _, PySem.W.mg_of X G a_raw, k_raw, B_raw, O_raw⟩
  have O_cut := ok_cut (P := l.prog) (w := w) (base := base)  F_cut T D_check_cut D_cut_of D_raw
  have D_cut : DefOk l.prog w K mg base CX0 9 "cut" ["bag", "number"] _ := ⟨_, _, PySem.W.mg_of X G a_cut, k_cut, B_cut, O_cut⟩
  have O_crosses := ok_crosses (P := l.prog) (w := w) (base := base)  F_crosses T 
  have D_crosses : DefOk l.prog w K mg base CX0 1 "crosses" ["clock", "sparse", "words"] _ := ⟨_, _, PySem.W.mg_of X G a_crosses, k_crosses, B_crosses, O_crosses⟩
  have O_crossing := ok_crossing (P := l.prog) (w := w) (base := base)  F_crossing T D_check_cut D_cut_of D_first_word D_crosses
  have D_crossing : DefOk l.prog w K mg base CX0 6 "crossing" ["bag", "number"] _ := ⟨_, _, PySem.W.mg_of X G a_crossing, k_crossing, B_crossing, O_crossing⟩
  have O_is_crossing := ok_is_crossing (P := l.prog) (w := w) (base := base)  F_is_crossing T D_check_cut D_is_word D_crosses
  have D_is_crossing : DefOk l.prog w K mg base CX0 5 "is_crossing" ["bag", "number", "thing"] _ := ⟨_, _, PySem.W.mg_of X G a_is_crossing, k_is_crossing, B_is_crossing, O_is_crossing⟩
  exact ok_law F_law T  D_law_hand D_law_draw D_law_clock D_law_some D_law_flag D_law_do_cross D_law_bent K_Bag D_cut D_crossing D_is_crossing
theorem walk {l : PySem.W.OpenLaw} {q : Program} {loose : List Str} {XP : (Str → Option Value) → Heap → Prop} {YP : World → Heap → Prop} {d : DefRec} {K : Params → PySem.W.Frag} (hn : l.most = some 63) (hdf : d.params.defaults = [])
    (hY : ∀ (w : World) (h : Heap), YP w h → (K w.params).In h)
    (F : ∀ (w : World) (mg : Str → Option Value) (fa : Addr) (h : Heap), (K w.params).In h → h.Ns mainGlobals mg → mg d.name = some (.ref fa) →
      ∃ fd : FuncData, (∀ (s : Shared) (u : Value), BindsTo s fd ⟨[u], []⟩ [("_law_script", u)]) ∧ ∀ base : Heap, (K w.params).In base → base.Ns mainGlobals mg → FnOk l.prog w (K w.params) mg base CX0 10 fa fd ["_law_script"] (sp_law (K w.params))) :
    PySem.W.WalkO q loose XP YP l.row.toRowW d [] (fun f vs => PySem.call f vs) :=
  L2.walk_of (n := 63) (k := 10) (x := "_law_script") (CX := fun _ => CX0) (sp := fun w => sp_law (K w.params)) hn (by decide) hdf ⟨rfl, by decide, by decide⟩ hY F (fun _ _ a ns hl _ hS => ⟨a, ns, rfl, hS, fun _ => rfl⟩) fun _ _ _ _ _ z => z
end Fp
open PySem PySem.W PyProof.Rows
set_option maxRecDepth 100000 in
set_option maxHeartbeats 0 in
theorem PySem.Challenge.cw_frontparts_k23_whole_crossings_holds : PySem.Challenge.rw_frontparts_k23_whole_crossings.Holds := by
  w_on; o_law; k_head; (case hw => w_witness2)
  k_fill
  refine Fp.walk (l := PySem.Challenge.rw_frontparts_k23_whole_crossings) rfl rfl (fun w h Y => PySem.W.kIn_of Y) ?F
  case F =>
    intro w mg fa h KX G hmg
    refine' Fp.all_mk KX G hmg ?z_nsBag ?z_nsRawBag ?z_a_ahead_key ?z_l_ahead_key ?z_c_ahead_key ?z_k_ahead_key ?z_a_law_hand ?z_l_law_hand ?z_c_law_hand ?z_k_law_hand ?z_a_law_draw ?z_l_law_draw ?z_c_law_draw ?z_k_law_draw ?z_a_law_clock ?z_l_law_clock ?z_c_law_clock ?z_k_law_clock ?z_a_law_some ?z_l_law_some ?z_c_law_some ?z_k_law_some ?z_a_law_flag ?z_l_law_flag ?z_c_law_flag ?z_k_law_flag ?z_a_law_is_word ?z_l_law_is_word ?z_c_law_is_word ?z_k_law_is_word ?z_a_law_do_cross ?z_l_law_do_cross ?z_c_law_do_cross ?z_k_law_do_cross ?z_a_law_bent ?z_l_law_bent ?z_c_law_bent ?z_k_law_bent ?z_a_is_integer ?z_l_is_integer ?z_c_is_integer ?z_k_is_integer ?z_a_is_clock ?z_l_is_clock ?z_c_is_clock ?z_k_is_clock ?z_a_is_word ?z_l_is_word ?z_c_is_word ?z_k_is_word ?z_a_is_short_word ?z_l_is_short_word ?z_c_is_short_word ?z_k_is_short_word ?z_a_is_within ?z_l_is_within ?z_c_is_within ?z_k_is_within ?z_a_are_words ?z_l_are_words ?z_c_are_words ?z_k_are_words ?z_a_words_in_order ?z_l_words_in_order ?z_c_words_in_order ?z_k_words_in_order ?z_a_Bag_keep ?z_i_Bag_keep ?z_l_Bag_keep ?z_c_Bag_keep ?z_k_Bag_keep ?z_a_Bag_init ?z_i_Bag_init ?z_l_Bag_init ?z_c_Bag_init ?z_k_Bag_init ?z_a_is_level ?z_l_is_level ?z_c_is_level ?z_k_is_level ?z_a_size ?z_l_size ?z_c_size ?z_k_size ?z_a_check_number ?z_l_check_number ?z_c_check_number ?z_k_check_number ?z_a_check_cut ?z_l_check_cut ?z_c_check_cut ?z_k_check_cut ?z_a_first_word ?z_l_first_word ?z_c_first_word ?z_k_first_word ?z_a_inverse ?z_l_inverse ?z_c_inverse ?z_k_inverse ?z_a_put_to ?z_l_put_to ?z_c_put_to ?z_k_put_to ?z_a_product ?z_l_product ?z_c_product ?z_k_product ?z_a_cut_of ?z_l_cut_of ?z_c_cut_of ?z_k_cut_of ?z_a_RawBag_init ?z_i_RawBag_init ?z_l_RawBag_init ?z_c_RawBag_init ?z_k_RawBag_init ?z_a_raw ?z_l_raw ?z_c_raw ?z_k_raw ?z_a_cut ?z_l_cut ?z_c_cut ?z_k_cut ?z_a_crosses ?z_l_crosses ?z_c_crosses ?z_k_crosses ?z_a_crossing ?z_l_crossing ?z_c_crossing ?z_k_crossing ?z_a_is_crossing ?z_l_is_crossing ?z_c_is_crossing ?z_k_is_crossing ?z_a_law ?z_l_law ?z_c_law ?z_k_law ?z_cg ?z_ct ?z_pgBag ?z_hdBag ?z_poBag ?z_saBag ?z_mkBag ?z_kBBag ?z_n1Bag ?z_n2Bag ?z_n3Bag ?z_n4Bag ?z_ccBag ?z_coBag ?z_icBag ?z_tcBag ?z_neBag ?z_eqBag ?z_kpBag ?z_u_NoneType_Bag ?z_u_bool_Bag ?z_u_int_Bag ?z_u_str_Bag ?z_u_list_Bag ?z_u_tuple_Bag ?z_u_dict_Bag ?z_pgRawBag ?z_hdRawBag ?z_poRawBag ?z_saRawBag ?z_mkRawBag ?z_kBRawBag ?z_n1RawBag ?z_n2RawBag ?z_n3RawBag ?z_n4RawBag ?z_ccRawBag ?z_coRawBag ?z_icRawBag ?z_tcRawBag ?z_neRawBag ?z_eqRawBag ?z_kpRawBag ?z_u_NoneType_RawBag ?z_u_bool_RawBag ?z_u_int_RawBag ?z_u_str_RawBag ?z_u_list_RawBag ?z_u_tuple_RawBag ?z_u_dict_RawBag ?z_sRB ?z_sBR ?z_dRB ?z_b_isinstance ?z_b_int ?z_b_bool ?z_b_str ?z_b_dict ?z_b_list ?z_b_tuple ?z_b_len ?z_b_abs ?z_b_all ?z_b_any ?z_b_max ?z_b_min ?z_b_range ?z_b_sorted ?z_b_sum ?z_b_zip ?z_b_enumerate ?z_b_repr ?z_b_set ?z_g1 ?z_g2 ?z_g3 ?z_g4 ?z_l4
    (case z_nsBag => k_is); (case z_nsRawBag => k_is); (case z_a_ahead_key => k_is); (case z_l_ahead_key => k_is); (case z_c_ahead_key => k_is); (case z_k_ahead_key => k_is); (case z_a_law_hand => k_is); (case z_l_law_hand => k_is); (case z_c_law_hand => k_is); (case z_k_law_hand => k_is); (case z_a_law_draw => k_is); (case z_l_law_draw => k_is); (case z_c_law_draw => k_is); (case z_k_law_draw => k_is); (case z_a_law_clock => k_is); (case z_l_law_clock => k_is); (case z_c_law_clock => k_is); (case z_k_law_clock => k_is); (case z_a_law_some => k_is); (case z_l_law_some => k_is); (case z_c_law_some => k_is); (case z_k_law_some => k_is); (case z_a_law_flag => k_is); (case z_l_law_flag => k_is); (case z_c_law_flag => k_is); (case z_k_law_flag => k_is); (case z_a_law_is_word => k_is); (case z_l_law_is_word => k_is); (case z_c_law_is_word => k_is); (case z_k_law_is_word => k_is); (case z_a_law_do_cross => k_is); (case z_l_law_do_cross => k_is); (case z_c_law_do_cross => k_is); (case z_k_law_do_cross => k_is); (case z_a_law_bent => k_is); (case z_l_law_bent => k_is); (case z_c_law_bent => k_is); (case z_k_law_bent => k_is); (case z_a_is_integer => k_is); (case z_l_is_integer => k_is); (case z_c_is_integer => k_is); (case z_k_is_integer => k_is); (case z_a_is_clock => k_is); (case z_l_is_clock => k_is); (case z_c_is_clock => k_is); (case z_k_is_clock => k_is); (case z_a_is_word => k_is); (case z_l_is_word => k_is); (case z_c_is_word => k_is); (case z_k_is_word => k_is); (case z_a_is_short_word => k_is); (case z_l_is_short_word => k_is); (case z_c_is_short_word => k_is); (case z_k_is_short_word => k_is); (case z_a_is_within => k_is); (case z_l_is_within => k_is); (case z_c_is_within => k_is); (case z_k_is_within => k_is); (case z_a_are_words => k_is); (case z_l_are_words => k_is); (case z_c_are_words => k_is); (case z_k_are_words => k_is); (case z_a_words_in_order => k_is); (case z_l_words_in_order => k_is); (case z_c_words_in_order => k_is); (case z_k_words_in_order => k_is); (case z_a_Bag_keep => k_is); (case z_i_Bag_keep => k_is); (case z_l_Bag_keep => k_is); (case z_c_Bag_keep => k_is); (case z_k_Bag_keep => k_is); (case z_a_Bag_init => k_is); (case z_i_Bag_init => k_is); (case z_l_Bag_init => k_is); (case z_c_Bag_init => k_is); (case z_k_Bag_init => k_is); (case z_a_is_level => k_is); (case z_l_is_level => k_is); (case z_c_is_level => k_is); (case z_k_is_level => k_is); (case z_a_size => k_is); (case z_l_size => k_is); (case z_c_size => k_is); (case z_k_size => k_is); (case z_a_check_number => k_is); (case z_l_check_number => k_is); (case z_c_check_number => k_is); (case z_k_check_number => k_is); (case z_a_check_cut => k_is); (case z_l_check_cut => k_is); (case z_c_check_cut => k_is); (case z_k_check_cut => k_is); (case z_a_first_word => k_is); (case z_l_first_word => k_is); (case z_c_first_word => k_is); (case z_k_first_word => k_is); (case z_a_inverse => k_is); (case z_l_inverse => k_is); (case z_c_inverse => k_is); (case z_k_inverse => k_is); (case z_a_put_to => k_is); (case z_l_put_to => k_is); (case z_c_put_to => k_is); (case z_k_put_to => k_is); (case z_a_product => k_is); (case z_l_product => k_is); (case z_c_product => k_is); (case z_k_product => k_is); (case z_a_cut_of => k_is); (case z_l_cut_of => k_is); (case z_c_cut_of => k_is); (case z_k_cut_of => k_is); (case z_a_RawBag_init => k_is); (case z_i_RawBag_init => k_is); (case z_l_RawBag_init => k_is); (case z_c_RawBag_init => k_is); (case z_k_RawBag_init => k_is); (case z_a_raw => k_is); (case z_l_raw => k_is); (case z_c_raw => k_is); (case z_k_raw => k_is); (case z_a_cut => k_is); (case z_l_cut => k_is); (case z_c_cut => k_is); (case z_k_cut => k_is); (case z_a_crosses => k_is); (case z_l_crosses => k_is); (case z_c_crosses => k_is); (case z_k_crosses => k_is); (case z_a_crossing => k_is); (case z_l_crossing => k_is); (case z_c_crossing => k_is); (case z_k_crossing => k_is); (case z_a_is_crossing => k_is); (case z_l_is_crossing => k_is); (case z_c_is_crossing => k_is); (case z_k_is_crossing => k_is); (case z_a_law => k_is); (case z_l_law => k_is); (case z_c_law => k_is); (case z_k_law => k_is); (case z_cg => k_is); (case z_ct => k_is); (case z_pgBag => k_is); (case z_hdBag => k_is); (case z_poBag => k_is); (case z_saBag => k_is); (case z_mkBag => k_is); (case z_kBBag => k_is); (case z_n1Bag => k_is); (case z_n2Bag => k_is); (case z_n3Bag => k_is); (case z_n4Bag => k_is); (case z_ccBag => k_is); (case z_coBag => k_is); (case z_icBag => k_is); (case z_tcBag => k_is); (case z_neBag => k_is); (case z_eqBag => k_is); (case z_kpBag => k_is); (case z_u_NoneType_Bag => k_is); (case z_u_bool_Bag => k_is); (case z_u_int_Bag => k_is); (case z_u_str_Bag => k_is); (case z_u_list_Bag => k_is); (case z_u_tuple_Bag => k_is); (case z_u_dict_Bag => k_is); (case z_pgRawBag => k_is); (case z_hdRawBag => k_is); (case z_poRawBag => k_is); (case z_saRawBag => k_is); (case z_mkRawBag => k_is); (case z_kBRawBag => k_is); (case z_n1RawBag => k_is); (case z_n2RawBag => k_is); (case z_n3RawBag => k_is); (case z_n4RawBag => k_is); (case z_ccRawBag => k_is); (case z_coRawBag => k_is); (case z_icRawBag => k_is); (case z_tcRawBag => k_is); (case z_neRawBag => k_is); (case z_eqRawBag => k_is); (case z_kpRawBag => k_is); (case z_u_NoneType_RawBag => k_is); (case z_u_bool_RawBag => k_is); (case z_u_int_RawBag => k_is); (case z_u_str_RawBag => k_is); (case z_u_list_RawBag => k_is); (case z_u_tuple_RawBag => k_is); (case z_u_dict_RawBag => k_is); (case z_sRB => k_is); (case z_sBR => k_is); (case z_dRB => decide); (case z_b_isinstance => k_is); (case z_b_int => k_is); (case z_b_bool => k_is); (case z_b_str => k_is); (case z_b_dict => k_is); (case z_b_list => k_is); (case z_b_tuple => k_is); (case z_b_len => k_is); (case z_b_abs => k_is); (case z_b_all => k_is); (case z_b_any => k_is); (case z_b_max => k_is); (case z_b_min => k_is); (case z_b_range => k_is); (case z_b_sorted => k_is); (case z_b_sum => k_is); (case z_b_zip => k_is); (case z_b_enumerate => k_is); (case z_b_repr => k_is); (case z_b_set => k_is); (case z_g1 => k_is); (case z_g2 => k_is); (case z_g3 => k_is); (case z_g4 => k_is); (case z_l4 => k_is)
